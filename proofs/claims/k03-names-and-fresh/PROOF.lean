import PyProof.Rows.All
import Wide.All
import OpenK.AllK
import Wide.FinOn
import HandS.ForMost
import HandS.Deep
import HandS.ExcOwn
import HandS.WordsExc
import KE.GoesEnum
import HandS.Zip
import HandS.StrMore
import HandS.IsInst
import HandS.TupAny
import HandS.TupLe
import HandS.TupMul
import HandS.Wide
import HandS.FStr
import HandS.Dict
import PyProof.StrBlock2
import HandS.More
import HandS.Text
import HandS.RaiseMore
import HandS.DictComp
import PySem.Challenge.RW_chartsrun_k03_names_and_fresh
set_option Elab.async false
set_option linter.all false
set_option maxRecDepth 100000
set_option maxHeartbeats 4000000
/-! DLa: values as trees, slots, the relation between slots and the heap, the judgements. -/
namespace DL
open PySem PySem.Spec PyProof.Rows L2

abbrev St := L2.St
/-- a value as a tree -/
inductive D where
  | non | bl (b : Bool) | int (i : Int) | str (x : Str)
  | tup (ds : List D) | lst (ds : List D) | dct (kvs : List (Key × D)) | ins (n : Str) (fs : List (Str × D)) | scr (ns : List Int)
/-- an object that one slot owns -/
inductive OV where
  | lst (ds : List D) | dct (kvs : List (Key × D)) | ins (n : Str) (fs : List (Str × D))
def OV.toD : OV → D
  | .lst ds => .lst ds
  | .dct kvs => .dct kvs
  | .ins n fs => .ins n fs
/-- a slot: nothing known; a frozen value; an owned object (io: a parameter's, the caller's own); one lent to a loop -/
inductive Sl where
  | no | fz (d : D) | ow (io : Bool) (o : OV) | ln (io : Bool) (o : OV)
def Sl.isIo : Sl → Bool
  | .ow b _ => b
  | .ln b _ => b
  | _ => false
/-- what a slot holds -/
def Sl.cont : Sl → Option D
  | .no => none
  | .fz d => some d
  | .ow _ o => some o.toD
  | .ln _ o => some o.toD
/-- an exception: its class, its fields -/
structure Exn where
  c : Str
  fs : List (Str × D)
abbrev Ro := List Sl
inductive Res (α : Type) where
  | ok (a : α) (ρ : Ro) | ex (x : Exn) (ρ : Ro) | bad
abbrev M (α : Type) := Ro → Res α
def M.bind {α β : Type} (f : M α) (k : α → M β) : M β := fun ρ => match f ρ with
  | .ok a ρ' => k a ρ'
  | .ex x ρ' => .ex x ρ'
  | .bad => .bad
def M.ret {α : Type} (a : α) : M α := fun ρ => .ok a ρ
def M.of {α : Type} : Option α → M α
  | some a => fun ρ => .ok a ρ
  | none => fun _ => .bad
/-- what an expression hands on: a frozen value; a slot's own; a new object -/
inductive R where
  | val (d : D) | sl (i : Nat) | nw (o : OV)

structure Cn where
  K : PySem.W.Frag
  ca : Str → Option Addr

mutual
inductive Rep (c : Cn) (G : Hp) : D → V → Prop
  | non : Rep c G .non .non
  | bl (b : Bool) : Rep c G (.bl b) (.bl b)
  | int (i : Int) : Rep c G (.int i) (.int i)
  | str (x : Str) : Rep c G (.str x) (.str x)
  | tup {a : Addr} {vs : List V} {ds : List D} : SqT c.K G a vs → Reps c G ds vs → Rep c G (.tup ds) (.ref a)
  | lst {a : Addr} {vs : List V} {ds : List D} : G a = some (.lst vs) → Reps c G ds vs → Rep c G (.lst ds) (.ref a)
  | scr {a : Addr} {ns : List Int} : SqL c.K G a (ns.map V.int) → Rep c G (.scr ns) (.ref a)
  | dct {a : Addr} {kvs : List (Key × V)} {ds : List (Key × D)} : G a = some (.dK kvs) → ds.map (·.1) = kvs.map (·.1) → Reps c G (ds.map (·.2)) (kvs.map (·.2)) → Rep c G (.dct ds) (.ref a)
  | ins {a C dx : Addr} {fs : List (Str × V)} {n : Str} {ds : List (Str × D)} : c.ca n = some C → G a = some (.ins C dx fs) → G dx = some (.own a) → ds.map (·.1) = fs.map (·.1) → Reps c G (ds.map (·.2)) (fs.map (·.2)) → Rep c G (.ins n ds) (.ref a)
inductive Reps (c : Cn) (G : Hp) : List D → List V → Prop
  | nil : Reps c G [] []
  | cons {d : D} {v : V} {ds : List D} {vs : List V} : Rep c G d v → Reps c G ds vs → Reps c G (d :: ds) (v :: vs)
end

theorem Rd.same {G G' : Hp} (s : Same G G') {a : Addr} {u : HO} (h : Rd G a u) : Rd G' a u := by
  rcases h with h | ⟨o, h⟩
  · exact .inl (s _ _ h)
  · exact .inr ⟨o, s _ _ h⟩
theorem sqL_same {K : PySem.W.Frag} {G G' : Hp} (s : Same G G') {a : Addr} {xs : List V} (h : SqL K G a xs) : SqL K G' a xs := by
  rcases h with h | h
  · exact .inl (Rd.same s h)
  · exact .inr h
theorem sqT_same {K : PySem.W.Frag} {G G' : Hp} (s : Same G G') {a : Addr} {xs : List V} (h : SqT K G a xs) : SqT K G' a xs := by
  rcases h with h | h
  · exact .inl (Rd.same s h)
  · exact .inr h

section
variable {c : Cn} {G G' H H' : Hp}
mutual
theorem Rep.mono (s : Same G G') : ∀ {d : D} {v : V}, Rep c G d v → Rep c G' d v
  | _, _, .non => .non
  | _, _, .bl b => .bl b
  | _, _, .int i => .int i
  | _, _, .str x => .str x
  | _, _, .tup h r => .tup (sqT_same s h) (Reps.mono s r)
  | _, _, .lst h r => .lst (s _ _ h) (Reps.mono s r)
  | _, _, .scr h => .scr (sqL_same s h)
  | _, _, .dct h e r => .dct (s _ _ h) e (Reps.mono s r)
  | _, _, .ins k h o e r => .ins k (s _ _ h) (s _ _ o) e (Reps.mono s r)
theorem Reps.mono (s : Same G G') : ∀ {ds : List D} {vs : List V}, Reps c G ds vs → Reps c G' ds vs
  | _, _, .nil => .nil
  | _, _, .cons h r => .cons (Rep.mono s h) (Reps.mono s r)
end
theorem Reps.length : ∀ {ds : List D} {vs : List V}, Reps c G ds vs → ds.length = vs.length
  | _, _, .nil => rfl
  | _, _, .cons _ r => congrArg Nat.succ (Reps.length r)
theorem Reps.get : ∀ {ds : List D} {vs : List V} {i : Nat} {d : D}, Reps c G ds vs → ds[i]? = some d → ∃ v, vs[i]? = some v ∧ Rep c G d v
  | _, _, _, _, .nil, e => by simp at e
  | _, _, 0, _, .cons h _, e => by simp at e; subst e; exact ⟨_, rfl, h⟩
  | _, _, i + 1, _, .cons _ r, e => by
    obtain ⟨v, h1, h2⟩ := Reps.get (i := i) r (by simpa using e)
    exact ⟨v, by simpa using h1, h2⟩
theorem Reps.getV : ∀ {ds : List D} {vs : List V} {i : Nat} {v : V}, Reps c G ds vs → vs[i]? = some v → ∃ d, ds[i]? = some d ∧ Rep c G d v
  | _, _, _, _, .nil, e => by simp at e
  | _, _, 0, _, .cons h _, e => by simp at e; subst e; exact ⟨_, rfl, h⟩
  | _, _, i + 1, _, .cons _ r, e => by
    obtain ⟨v, h1, h2⟩ := Reps.getV (i := i) r (by simpa using e)
    exact ⟨v, by simpa using h1, h2⟩
theorem Reps.append : ∀ {ds es : List D} {vs ws : List V}, Reps c G ds vs → Reps c G es ws → Reps c G (ds ++ es) (vs ++ ws)
  | _, _, _, _, .nil, r => r
  | _, _, _, _, .cons h t, r => .cons h (Reps.append t r)
theorem Reps.set {d : D} {v : V} (h : Rep c G d v) : ∀ {ds : List D} {vs : List V} (i : Nat), Reps c G ds vs → Reps c G (ds.set i d) (vs.set i v)
  | _, _, _, .nil => .nil
  | _, _, 0, .cons _ r => .cons h r
  | _, _, i + 1, .cons k r => .cons k (Reps.set h i r)
theorem Reps.take : ∀ {ds : List D} {vs : List V} (n : Nat), Reps c G ds vs → Reps c G (ds.take n) (vs.take n)
  | _, _, 0, _ => by simp; exact .nil
  | _, _, _ + 1, .nil => .nil
  | _, _, n + 1, .cons h r => .cons h (Reps.take n r)
theorem Reps.drop : ∀ {ds : List D} {vs : List V} (n : Nat), Reps c G ds vs → Reps c G (ds.drop n) (vs.drop n)
  | _, _, 0, r => r
  | _, _, _ + 1, .nil => .nil
  | _, _, n + 1, .cons _ r => Reps.drop n r
theorem Reps.erase : ∀ {ds : List D} {vs : List V} (n : Nat), Reps c G ds vs → Reps c G (ds.eraseIdx n) (vs.eraseIdx n)
  | _, _, _, .nil => .nil
  | _, _, 0, .cons _ r => r
  | _, _, n + 1, .cons h r => .cons h (Reps.erase n r)
theorem Reps.reverse {ds : List D} {vs : List V} (r : Reps c G ds vs) : Reps c G ds.reverse vs.reverse := by
  induction ds generalizing vs with
  | nil => cases r; exact .nil
  | cons d ds ih =>
    cases r with
    | cons h r =>
      rw [List.reverse_cons, List.reverse_cons]
      exact (ih r).append (.cons h .nil)

/-- a value that is read at once: its own object in H, what is within in G -/
def RepR (c : Cn) (G H : Hp) : D → V → Prop
  | .non, v => v = .non
  | .bl b, v => v = .bl b
  | .int i, v => v = .int i
  | .str x, v => v = .str x
  | .tup ds, v => ∃ a vs, v = .ref a ∧ SqT c.K G a vs ∧ Reps c G ds vs
  | .lst ds, v => ∃ a vs, v = .ref a ∧ H a = some (.lst vs) ∧ Reps c G ds vs
  | .scr ns, v => ∃ a, v = .ref a ∧ SqL c.K H a (ns.map V.int)
  | .dct ds, v => ∃ a kvs, v = .ref a ∧ H a = some (.dK kvs) ∧ ds.map (·.1) = kvs.map (·.1) ∧ Reps c G (ds.map (·.2)) (kvs.map (·.2))
  | .ins n ds, v => ∃ a C dx fs, v = .ref a ∧ c.ca n = some C ∧ H a = some (.ins C dx fs) ∧ H dx = some (.own a) ∧ ds.map (·.1) = fs.map (·.1) ∧ Reps c G (ds.map (·.2)) (fs.map (·.2))
theorem Rep.rd (s : Same G H) {d : D} {v : V} (h : Rep c G d v) : RepR c G H d v := by
  cases h with
  | non => rfl
  | bl b => rfl
  | int i => rfl
  | str x => rfl
  | tup h r => exact ⟨_, _, rfl, h, r⟩
  | lst h r => exact ⟨_, _, rfl, s _ _ h, r⟩
  | scr h => exact ⟨_, rfl, sqL_same s h⟩
  | dct h e r => exact ⟨_, _, rfl, s _ _ h, e, r⟩
  | ins k h o e r => exact ⟨_, _, _, _, rfl, k, s _ _ h, s _ _ o, e, r⟩

/-- an owned object, at addresses of P -/
def OwR (c : Cn) (G H : Hp) (P : Addr → Prop) : OV → V → Prop
  | .lst ds, v => ∃ a vs, v = .ref a ∧ P a ∧ H a = some (.lst vs) ∧ Reps c G ds vs
  | .dct ds, v => ∃ a kvs, v = .ref a ∧ P a ∧ H a = some (.dK kvs) ∧ ds.map (·.1) = kvs.map (·.1) ∧ Reps c G (ds.map (·.2)) (kvs.map (·.2))
  | .ins n ds, v => ∃ a C dx fs, v = .ref a ∧ P a ∧ P dx ∧ dx ≠ a ∧ c.ca n = some C ∧ H a = some (.ins C dx fs) ∧ H dx = some (.own a) ∧ ds.map (·.1) = fs.map (·.1) ∧ Reps c G (ds.map (·.2)) (fs.map (·.2))
theorem OwR.rd {P : Addr → Prop} : ∀ {o : OV} {v : V}, OwR c G H P o v → RepR c G H o.toD v
  | .lst _, _, ⟨a, vs, e, _, h, r⟩ => ⟨a, vs, e, h, r⟩
  | .dct _, _, ⟨a, kvs, e, _, h, k, r⟩ => ⟨a, kvs, e, h, k, r⟩
  | .ins _ _, _, ⟨a, C, dx, fs, e, _, _, _, k, h, o, m, r⟩ => ⟨a, C, dx, fs, e, k, h, o, m, r⟩
/-- what it leans on -/
theorem OwR.at {P P' : Addr → Prop} (s : Same G G') (k : ∀ b o, P b → H b = some o → H' b = some o) (hp : ∀ b, P b → P' b) : ∀ {o : OV} {v : V}, OwR c G H P o v → OwR c G' H' P' o v
  | .lst _, _, ⟨a, vs, e, p, h, r⟩ => ⟨a, vs, e, hp _ p, k _ _ p h, r.mono s⟩
  | .dct _, _, ⟨a, kvs, e, p, h, m, r⟩ => ⟨a, kvs, e, hp _ p, k _ _ p h, m, r.mono s⟩
  | .ins _ _, _, ⟨a, C, dx, fs, e, p, q, ne, l, h, o, m, r⟩ => ⟨a, C, dx, fs, e, hp _ p, hp _ q, ne, l, k _ _ p h, k _ _ q o, m, r.mono s⟩

abbrev Own := Nat → Addr → Prop
def ao (own : Own) (b : Addr) : Prop := ∃ i, own i b

def SlR (c : Cn) (G H : Hp) (P : Addr → Prop) : Sl → Option (Option V) → Prop
  | .no, _ => True
  | .fz d, x => ∃ v, x = some (some v) ∧ Rep c G d v
  | .ow _ o, x => ∃ v, x = some (some v) ∧ OwR c G H P o v
  | .ln _ o, x => ∃ v, x = some (some v) ∧ OwR c G H P o v
theorem SlR.at {P P' : Addr → Prop} (s : Same G G') (k : ∀ b o, P b → H b = some o → H' b = some o) (hp : ∀ b, P b → P' b) : ∀ {l : Sl} {x : Option (Option V)}, SlR c G H P l x → SlR c G' H' P' l x
  | .no, _, _ => trivial
  | .fz _, _, ⟨v, e, r⟩ => ⟨v, e, r.mono s⟩
  | .ow _ _, _, ⟨v, e, r⟩ => ⟨v, e, r.at s k hp⟩
  | .ln _ _, _, ⟨v, e, r⟩ => ⟨v, e, r.at s k hp⟩

/-- the slots and the heap: G the frozen part, own the addresses of each slot -/
structure SR (c : Cn) (σ0 : St) (G : Hp) (own : Own) (ρ : Ro) (σ : St) (H : Hp) : Prop where
  same : Same G H
  out : ∀ i b, own i b → G b = none
  there : ∀ i b, own i b → ∃ o, H b = some o
  dis : ∀ i j b, own i b → own j b → i = j
  len : ρ.length = σ.length
  slot : ∀ (i : Nat) (s : Sl), ρ[i]? = some s → SlR c G H (own i) s (σ[i]?)
  io : ∀ (i : Nat) (s : Sl), ρ[i]? = some s → s.isIo = true → σ[i]? = σ0[i]?

/-- from one state to a later one -/
structure Tr (ρ : Ro) (σ : St) (G : Hp) (own : Own) (H : Hp) (ρ' : Ro) (σ' : St) (G' : Hp) (own' : Own) (H' : Hp) : Prop where
  ext : Same G G'
  keep : ∀ b o, H b = some o → ¬ ao own b → H' b = some o
  gnew : ∀ b o, G' b = some o → G b = some o ∨ H b = none ∨ ao own b
  onew : ∀ b, ao own' b → ao own b ∨ H b = none
  lent : ∀ (j : Nat) (k : Bool) (o : OV), ρ[j]? = some (Sl.ln k o) → ρ'[j]? = some (Sl.ln k o) ∧ σ'[j]? = σ[j]?
section
variable {own own' own1 own2 : Own} {ρ ρ' ρ1 ρ2 : Ro} {σ σ' σ1 σ2 : St} {G1 G2 H1 H2 : Hp}
theorem Tr.refl : Tr ρ σ G own H ρ σ G own H :=
  ⟨Same.refl _, fun _ _ h _ => h, fun _ _ h => .inl h, fun _ h => .inl h, fun _ _ _ h => ⟨h, rfl⟩⟩
/-- what is new behind a step was new or owned ahead of it -/
theorem Tr.back (t : Tr ρ σ G own H ρ1 σ1 G1 own1 H1) {b : Addr} (h : H1 b = none ∨ ao own1 b) : H b = none ∨ ao own b := by
  rcases h with h | h
  · cases e : H b with
    | none => exact .inl rfl
    | some o =>
      refine .inr (Classical.byContradiction fun n => ?_)
      rw [t.keep b o e n] at h
      cases h
  · rcases t.onew b h with h | h
    · exact .inr h
    · exact .inl h
theorem Tr.trans (t : Tr ρ σ G own H ρ1 σ1 G1 own1 H1) (u : Tr ρ1 σ1 G1 own1 H1 ρ2 σ2 G2 own2 H2) : Tr ρ σ G own H ρ2 σ2 G2 own2 H2 where
  ext := t.ext.trans u.ext
  keep := fun b o h n => u.keep b o (t.keep b o h n) fun m => by
    rcases t.onew b m with k | k
    · exact n k
    · rw [h] at k; cases k
  gnew := fun b o h => by
    rcases u.gnew b o h with k | k
    · exact t.gnew b o k
    · exact .inr (t.back k)
  onew := fun b h => by
    rcases u.onew b h with k | k
    · exact t.onew b k
    · rcases t.back (.inl k) with z | z
      · exact .inr z
      · exact .inl z
  lent := fun j k o h => by
    obtain ⟨h1, e1⟩ := t.lent j k o h
    obtain ⟨h2, e2⟩ := u.lent j k o h1
    exact ⟨h2, e2.trans e1⟩
end

/-- what an expression hands on, as a value; N: the addresses that are new since its beginning -/
def RR (c : Cn) (G : Hp) (own : Own) (σ : St) (H : Hp) (N : Addr → Prop) : R → V → Prop
  | .val d, v => Rep c G d v
  | .sl i, v => σ[i]? = some (some v)
  | .nw o, v => ∃ P : Addr → Prop, OwR c G H P o v ∧ ∀ b, P b → G b = none ∧ ¬ ao own b ∧ (∃ o, H b = some o) ∧ N b
theorem RR.mono {own : Own} {σ : St} {N N' : Addr → Prop} (h : ∀ b, N b → N' b) : ∀ {r : R} {v : V}, RR c G own σ H N r v → RR c G own σ H N' r v
  | .val _, _, x => x
  | .sl _, _, x => x
  | .nw _, _, ⟨P, x, y⟩ => ⟨P, x, fun b p => ⟨(y b p).1, (y b p).2.1, (y b p).2.2.1, h b (y b p).2.2.2⟩⟩
end

/-- an exception as it is told: class, dict -/
def ExR (c : Cn) (G H : Hp) (x : Exn) (cls : Value) (d : Option Addr) : Prop :=
  ∃ C, c.ca x.c = some C ∧ cls = .ref C ∧ (x.fs = [] ∨ ∃ dx fs, d = some dx ∧ H dx = some (.xd fs) ∧ x.fs.map (·.1) = fs.map (·.1) ∧ Reps c G (x.fs.map (·.2)) (fs.map (·.2)))

/-! ### judgements -/
abbrev Rl (α τ : Type) := Hp → Own → St → Hp → (Addr → Prop) → α → τ → Prop
def RlMono {α τ : Type} (rel : Rl α τ) : Prop := ∀ G own σ H (N N' : Addr → Prop) r v, (∀ b, N b → N' b) → rel G own σ H N r v → rel G own σ H N' r v
def XP {α τ : Type} (rel : Rl α τ) (c : Cn) (σ0 : St) (W : WX) (σ : St) (ρ : Ro) (G : Hp) (own : Own) (H : Hp) (Q : τ → Hp → Prop) : Res α → Prop
  | .ok r ρ' => ∀ G' own' H' v, Tr ρ σ G own H ρ' σ G' own' H' → SR c σ0 G' own' ρ' σ H' → rel G' own' σ H' (fun b => H b = none ∨ ao own b) r v → Q v H'
  | .ex x ρ' => ∀ G' own' H' cls d, Tr ρ σ G own H ρ' σ G' own' H' → SR c σ0 G' own' ρ' σ H' → ExR c G' H' x cls d → W cls d σ H'
  | .bad => False
def tX {α τ : Type} (rel : Rl α τ) (c : Cn) (σ0 : St) (W : WX) (f : M α) : St → Hp → (τ → Hp → Prop) → Prop := fun σ H Q =>
  ∃ G own ρ, SR c σ0 G own ρ σ H ∧ XP rel c σ0 W σ ρ G own H Q (f ρ)
abbrev relR (c : Cn) : Rl R V := fun G own σ H N r v => RR c G own σ H N r v
abbrev relB : Rl Bool Bool := fun _ _ _ _ _ b b' => b = b'
/-- several frozen values or slots -/
inductive RRs (c : Cn) (G : Hp) (σ : St) : List R → List V → Prop
  | nil : RRs c G σ [] []
  | val {d : D} {v : V} {rs : List R} {vs : List V} : Rep c G d v → RRs c G σ rs vs → RRs c G σ (.val d :: rs) (v :: vs)
  | sl {i : Nat} {v : V} {rs : List R} {vs : List V} : σ[i]? = some (some v) → RRs c G σ rs vs → RRs c G σ (.sl i :: rs) (v :: vs)
abbrev relA (c : Cn) : Rl (List R) (List V) := fun G _ σ _ _ rs vs => RRs c G σ rs vs
abbrev tD (c : Cn) (σ0 : St) (W : WX) (f : M R) : TE := tX (relR c) c σ0 W f
abbrev tT (c : Cn) (σ0 : St) (W : WX) (f : M Bool) : TT := tX relB c σ0 W f
abbrev tA (c : Cn) (σ0 : St) (W : WX) (f : M (List R)) : TA := tX (relA c) c σ0 W f

theorem PE.imp {X : Cx} {e : Expr} {t t' : TE} (h : PE X e t) (k : ∀ σ H Q, t' σ H Q → t σ H Q) : PE X e t' := ⟨fun pins s σ H Q I q => h.run pins s σ H Q I (k σ H Q q)⟩
theorem PT.imp {X : Cx} {e : Expr} {t t' : TT} (h : PT X e t) (k : ∀ σ H Q, t' σ H Q → t σ H Q) : PT X e t' := ⟨fun pins s σ H Q I q => h.run pins s σ H Q I (k σ H Q q)⟩
theorem PA.imp {X : Cx} {es : List Expr} {t t' : TA} (h : PA X es t) (k : ∀ σ H Q, t' σ H Q → t σ H Q) : PA X es t' := ⟨fun pos pins s σ H Q I q => h.run pos pins s σ H Q I (k σ H Q q)⟩
theorem PS.imp {X : Cx} {e : Stmt} {t t' : TS} (h : PS X e t) (k : ∀ D σ H, t' D σ H → t D σ H) : PS X e t' := ⟨fun pins s σ H D I q => h.run pins s σ H D I (k D σ H q)⟩
theorem PSs.imp {X : Cx} {e : List Stmt} {t t' : TS} (h : PSs X e t) (k : ∀ D σ H, t' D σ H → t D σ H) : PSs X e t' := ⟨fun pins s σ H D I q => h.run pins s σ H D I (k D σ H q)⟩

section
variable {α β τ υ : Type} {rel : Rl α τ} {rel2 : Rl β υ} {c : Cn} {σ0 : St} {W : WX} {σ : St} {ρ : Ro} {G H : Hp} {own : Own}
/-- one part, then the rest -/
theorem XP.bind {f : M α} {k : α → M β} {Q : υ → Hp → Prop} {T : τ → Hp → Prop} (S : SR c σ0 G own ρ σ H) (h : XP rel2 c σ0 W σ ρ G own H Q (M.bind f k ρ))
    (hk : ∀ r ρ1 G1 own1 H1 v, Tr ρ σ G own H ρ1 σ G1 own1 H1 → SR c σ0 G1 own1 ρ1 σ H1 → rel G1 own1 σ H1 (fun b => H b = none ∨ ao own b) r v → XP rel2 c σ0 W σ ρ G own H Q (k r ρ1) → T v H1) :
    tX rel c σ0 W f σ H T := by
  refine ⟨G, own, ρ, S, ?_⟩
  unfold M.bind at h
  cases e : f ρ with
  | ok r ρ1 =>
    rw [e] at h
    exact fun G1 own1 H1 v t S1 r1 => hk r ρ1 G1 own1 H1 v t S1 r1 h
  | ex x ρ1 =>
    rw [e] at h
    exact h
  | bad =>
    rw [e] at h
    exact h
/-- the rest, seen from the middle -/
theorem XP.from {ρ1 : Ro} {G1 H1 : Hp} {own1 : Own} {Q : τ → Hp → Prop} {x : Res α} (t : Tr ρ σ G own H ρ1 σ G1 own1 H1) (h : XP rel c σ0 W σ ρ G own H Q x)
    (hm : RlMono rel) : XP rel c σ0 W σ ρ1 G1 own1 H1 Q x := by
  cases x with
  | ok r ρ2 => exact fun G2 own2 H2 v u S r2 => h G2 own2 H2 v (t.trans u) S (hm _ _ _ _ _ _ _ _ (fun b => t.back) r2)
  | ex x ρ2 => exact fun G2 own2 H2 cls d u S r2 => h G2 own2 H2 cls d (t.trans u) S r2
  | bad => exact h
end
theorem relR_mono (c : Cn) : RlMono (relR c) := fun _ _ _ _ _ _ _ _ h r => RR.mono h r
theorem relB_mono : RlMono relB := fun _ _ _ _ _ _ _ _ _ r => r
theorem relA_mono (c : Cn) : RlMono (relA c) := fun _ _ _ _ _ _ _ _ _ r => r
end DL

/-! DLb: expressions. -/
namespace DL
open PySem PySem.Spec PyProof.Rows L2

/-- what an expression hands on, read -/
def deref (ρ : Ro) : R → Option D
  | .val d => some d
  | .sl i => (ρ[i]?).bind Sl.cont
  | .nw o => some o.toD
/-- an operation that only lays new things -/
structure New (G H G' H' : Hp) : Prop where
  hs : Same H H'
  gs : Same G G'
  gh : Same G' H'
  gn : ∀ b o, G' b = some o → G b = some o ∨ H b = none
/-- a value's handing on, behind such an operation -/
def RO (c : Cn) (G' H' H : Hp) : R → V → Prop
  | .val d, v => Rep c G' d v
  | .sl _, _ => False
  | .nw o, v => ∃ P : Addr → Prop, OwR c G' H' P o v ∧ ∀ b, P b → G' b = none ∧ (∃ o, H' b = some o) ∧ H b = none

section
variable {c : Cn} {σ0 : St} {W : WX} {σ : St} {ρ ρ' ρ1 ρ2 : Ro} {G G' G1 G2 H H' H1 H2 : Hp} {own own1 own2 : Own} {N : Addr → Prop}
theorem New.refl (s : Same G H) : New G H G H := ⟨Same.refl _, Same.refl _, s, fun _ _ h => .inl h⟩
theorem New.tr (n : New G H G' H') (hs : ∀ i b, own i b → ∃ o, H b = some o) : Tr ρ σ G own H ρ σ G' own H' :=
  ⟨n.gs, fun b o h _ => n.hs b o h, fun b o h => (n.gn b o h).imp id .inl, fun b h => .inl h, fun _ _ _ h => ⟨h, rfl⟩⟩
theorem New.sr (n : New G H G' H') (S : SR c σ0 G own ρ σ H) : SR c σ0 G' own ρ σ H' where
  same := n.gh
  out := fun i b h => by
    cases e : G' b with
    | none => rfl
    | some o =>
      rcases n.gn b o e with k | k
      · rw [S.out i b h] at k; cases k
      · obtain ⟨o, q⟩ := S.there i b h
        rw [k] at q; cases q
  there := fun i b h => let ⟨o, q⟩ := S.there i b h; ⟨o, n.hs b o q⟩
  dis := S.dis
  len := S.len
  slot := fun i s h => (S.slot i s h).at n.gs (fun b o _ k => n.hs b o k) fun _ p => p
  io := S.io
theorem RO.rr (n : New G H G' H') (S : SR c σ0 G own ρ σ H) : ∀ {r : R} {v : V}, RO c G' H' H r v → RR c G' own σ H' (fun b => H b = none ∨ ao own b) r v
  | .val _, _, h => h
  | .nw _, _, ⟨P, o, k⟩ => by
    refine ⟨P, o, fun b p => ⟨(k b p).1, fun ⟨i, z⟩ => ?_, (k b p).2.1, .inl (k b p).2.2⟩⟩
    obtain ⟨o, q⟩ := S.there i b z
    rw [(k b p).2.2] at q
    cases q
/-- a pending value, behind a later step -/
theorem RR.step (t : Tr ρ1 σ G1 own1 H1 ρ2 σ G2 own2 H2) : ∀ {r : R} {v : V}, RR c G1 own1 σ H1 N r v → RR c G2 own2 σ H2 N r v
  | .val _, _, h => Rep.mono t.ext h
  | .sl _, _, h => h
  | .nw _, _, ⟨P, o, k⟩ => ⟨P, OwR.at (P := P) t.ext (fun b u p q => t.keep b u q (k b p).2.1) (fun _ p => p) o, fun b p => by
      obtain ⟨k1, k2, ⟨u, k3⟩, k4⟩ := k b p
      refine ⟨?_, fun z => ?_, ⟨u, t.keep b u k3 k2⟩, k4⟩
      · cases e : G2 b with
        | none => rfl
        | some w =>
          rcases t.gnew b w e with q | q | q
          · rw [k1] at q; cases q
          · rw [k3] at q; cases q
          · exact absurd q k2
      · rcases t.onew b z with q | q
        · exact k2 q
        · rw [k3] at q; cases q⟩
theorem deref_rd (S : SR c σ0 G own ρ σ H) : ∀ {r : R} {v : V} {d : D}, RR c G own σ H N r v → deref ρ r = some d → RepR c G H d v
  | .val _, _, _, h, e => by
    cases e
    exact h.rd S.same
  | .nw _, _, _, ⟨P, o, _⟩, e => by
    cases e
    exact o.rd
  | .sl i, v, d, h, e => by
    have e : (ρ[i]?).bind Sl.cont = some d := e
    have h : σ[i]? = some (some v) := h
    cases q : ρ[i]? with
    | none => rw [q] at e; cases e
    | some s =>
      rw [q] at e
      have e : s.cont = some d := e
      have z := S.slot i s q
      cases s with
      | no => cases e
      | fz d' =>
        cases e
        obtain ⟨w, hw, r⟩ := z
        rw [h] at hw; cases hw
        exact r.rd S.same
      | ow k o =>
        cases e
        obtain ⟨w, hw, r⟩ := z
        rw [h] at hw; cases hw
        exact r.rd
      | ln k o =>
        cases e
        obtain ⟨w, hw, r⟩ := z
        rw [h] at hw; cases hw
        exact r.rd
end

/-! ### operations on values -/
def rD (c : Cn) (op : D → D → Option R) : R2 := fun v w H Q => ∃ G d e r, Same G H ∧ RepR c G H d v ∧ RepR c G H e w ∧ op d e = some r ∧ ∀ G' H' v', New G H G' H' → RO c G' H' H r v' → Q v' H'
def rD1 (c : Cn) (op : D → Option R) : V → Hp → VK → Prop := fun v H Q => ∃ G d r, Same G H ∧ RepR c G H d v ∧ op d = some r ∧ ∀ G' H' v', New G H G' H' → RO c G' H' H r v' → Q v' H'
inductive RepRs (c : Cn) (G H : Hp) : List D → List V → Prop
  | nil : RepRs c G H [] []
  | cons {d : D} {v : V} {ds : List D} {vs : List V} : RepR c G H d v → RepRs c G H ds vs → RepRs c G H (d :: ds) (v :: vs)
def rDn (c : Cn) (op : List D → Option R) : List V → Hp → VK → Prop := fun vs H Q => ∃ G ds r, Same G H ∧ RepRs c G H ds vs ∧ op ds = some r ∧ ∀ G' H' v', New G H G' H' → RO c G' H' H r v' → Q v' H'

def opE (op : D → D → Option R) (a b : R) : M R := fun ρ => match deref ρ a, deref ρ b with
  | some d, some e => M.of (op d e) ρ
  | _, _ => .bad
def opE1 (op : D → Option R) (a : R) : M R := fun ρ => match deref ρ a with
  | some d => M.of (op d) ρ
  | _ => .bad
def derefs (ρ : Ro) : List R → Option (List D)
  | [] => some []
  | r :: rs => match deref ρ r, derefs ρ rs with
    | some d, some ds => some (d :: ds)
    | _, _ => none
def opEn (op : List D → Option R) (as : List R) : M R := fun ρ => match derefs ρ as with
  | some ds => M.of (op ds) ρ
  | none => .bad
def eBin (op : D → D → Option R) (f g : M R) : M R := f.bind fun a => g.bind fun b => opE op a b
def eUn (op : D → Option R) (f : M R) : M R := f.bind fun a => opE1 op a
def eCallB (op : List D → Option R) (f : M (List R)) : M R := f.bind fun as => opEn op as
def eC (d : D) : M R := M.ret (.val d)
def eVar (i : Nat) : M R := fun ρ => match ρ[i]? with
  | some (.fz d) => .ok (.val d) ρ
  | some (.ow _ _) => .ok (.sl i) ρ
  | some (.ln _ _) => .ok (.sl i) ρ
  | _ => .bad
def truthD : D → Option Bool
  | .non => some false
  | .bl b => some b
  | .int i => some (i != 0)
  | .str x => if x.length ≤ sizeLine then some ((x.length : Int) != 0) else none
  | .tup ds => some (!ds.isEmpty)
  | .lst ds => some (!ds.isEmpty)
  | .dct ds => some (!ds.isEmpty)
  | .scr ns => some (!ns.isEmpty)
  | .ins _ _ => none
def truthR (r : R) : M Bool := fun ρ => match (deref ρ r).bind truthD with
  | some b => .ok b ρ
  | none => .bad
def eTest (f : M R) : M Bool := f.bind truthR
def eB (f : M Bool) : M R := f.bind fun b => M.ret (.val (.bl b))
def eIf {α : Type} (t : M Bool) (f g : M α) : M α := t.bind fun b => if b = true then f else g
def eAnd (f g : M Bool) : M Bool := eIf f g (M.ret false)
def eOr (f g : M Bool) : M Bool := eIf f (M.ret true) g
def eNot (f : M Bool) : M Bool := f.bind fun b => M.ret (!b)
def eNil : M (List R) := M.ret []
def fzR : R → R
  | .nw o => .val o.toD
  | r => r
def eCons (f : M R) (g : M (List R)) : M (List R) := f.bind fun r => g.bind fun rs => M.ret (fzR r :: rs)

section
variable {X : Cx} {c : Cn} {σ0 : St} {W : WX} {σ : St} {ρ : Ro} {G H : Hp} {own : Own} {a b e : Expr} {es : List Expr} {pos : Pos} {f g : M R} {t u : M Bool} {op : D → D → Option R}

theorem XP.ret {α τ : Type} {rel : Rl α τ} {Q : τ → Hp → Prop} {r : α} {v : τ} (S : SR c σ0 G own ρ σ H) (h : XP rel c σ0 W σ ρ G own H Q (M.ret r ρ)) (k : rel G own σ H (fun b => H b = none ∨ ao own b) r v) : Q v H :=
  h G own H v Tr.refl S k
/-- behind an operation -/
theorem XP.new {Q : VK} {r : R} (S : SR c σ0 G own ρ σ H) (h : XP (relR c) c σ0 W σ ρ G own H Q (.ok r ρ)) {G' H' : Hp} {v : V} (n : New G H G' H') (o : RO c G' H' H r v) : Q v H' :=
  h G' own H' v (n.tr S.there) (n.sr S) (o.rr n S)
theorem XP.op2 {ρ0 : Ro} {G0 H0 : Hp} {own0 : Own} {Q : VK} {r1 r2 : R} {v w : V} {N1 N2 : Addr → Prop} (S : SR c σ0 G own ρ σ H) (h : XP (relR c) c σ0 W σ ρ G own H Q (opE op r1 r2 ρ)) (h1 : RR c G own σ H N1 r1 v) (h2 : RR c G own σ H N2 r2 w) : rD c op v w H Q := by
  unfold opE at h
  cases e1 : deref ρ r1 with
  | none => rw [e1] at h; exact h.elim
  | some d =>
    cases e2 : deref ρ r2 with
    | none => rw [e1, e2] at h; exact h.elim
    | some e =>
      rw [e1, e2] at h
      have h : XP (relR c) c σ0 W σ ρ G own H Q (M.of (op d e) ρ) := h
      cases e3 : op d e with
      | none => rw [e3] at h; exact h.elim
      | some r =>
        rw [e3] at h
        exact ⟨G, d, e, r, S.same, deref_rd S h1 e1, deref_rd S h2 e2, e3, fun G' H' v' n o => XP.new S h n o⟩
theorem XP.op1 {op : D → Option R} {Q : VK} {r1 : R} {v : V} {N1 : Addr → Prop} (S : SR c σ0 G own ρ σ H) (h : XP (relR c) c σ0 W σ ρ G own H Q (opE1 op r1 ρ)) (h1 : RR c G own σ H N1 r1 v) : rD1 c op v H Q := by
  unfold opE1 at h
  cases e1 : deref ρ r1 with
  | none => rw [e1] at h; exact h.elim
  | some d =>
    rw [e1] at h
    have h : XP (relR c) c σ0 W σ ρ G own H Q (M.of (op d) ρ) := h
    cases e3 : op d with
    | none => rw [e3] at h; exact h.elim
    | some r =>
      rw [e3] at h
      exact ⟨G, d, r, S.same, deref_rd S h1 e1, e3, fun G' H' v' n o => XP.new S h n o⟩
theorem RRs.derefs (S : SR c σ0 G own ρ σ H) : ∀ {rs : List R} {vs : List V} {ds : List D}, RRs c G σ rs vs → DL.derefs ρ rs = some ds → RepRs c G H ds vs
  | _, _, _, .nil, e => by cases e; exact .nil
  | _, _, ds, .val (d := d) (rs := rs) h r, e => by
    unfold DL.derefs at e
    cases q : DL.derefs ρ rs with
    | none => rw [q] at e; cases e
    | some es =>
      rw [q] at e
      cases e
      exact .cons (h.rd S.same) (RRs.derefs S r q)
  | _, _, ds, .sl (i := i) (rs := rs) h r, e => by
    unfold DL.derefs at e
    cases q0 : deref ρ (.sl i) with
    | none => rw [q0] at e; cases e
    | some d =>
      cases q : DL.derefs ρ rs with
      | none => rw [q0, q] at e; cases e
      | some es =>
        rw [q0, q] at e
        cases e
        exact .cons (deref_rd (N := fun _ => True) (r := .sl i) S h q0) (RRs.derefs S r q)
theorem XP.opn {op : List D → Option R} {Q : VK} {rs : List R} {vs : List V} (S : SR c σ0 G own ρ σ H) (h : XP (relR c) c σ0 W σ ρ G own H Q (opEn op rs ρ)) (h1 : RRs c G σ rs vs) : rDn c op vs H Q := by
  unfold opEn at h
  cases e1 : DL.derefs ρ rs with
  | none => rw [e1] at h; exact h.elim
  | some ds =>
    rw [e1] at h
    have h : XP (relR c) c σ0 W σ ρ G own H Q (M.of (op ds) ρ) := h
    cases e3 : op ds with
    | none => rw [e3] at h; exact h.elim
    | some r =>
      rw [e3] at h
      exact ⟨G, ds, r, S.same, h1.derefs S e1, e3, fun G' H' v' n o => XP.new S h n o⟩

theorem tOp_of {Q : VK} (h : tD c σ0 W (eBin op f g) σ H Q) : tOp (rD c op) (tD c σ0 W f) (tD c σ0 W g) σ H Q := by
  obtain ⟨G, own, ρ, S, h⟩ := h
  refine XP.bind S h fun r1 ρ1 G1 own1 H1 v t1 S1 R1 h1 => ?_
  refine XP.bind S1 (XP.from t1 h1 (relR_mono c)) fun r2 ρ2 G2 own2 H2 w t2 S2 R2 h2 => ?_
  exact XP.op2 (ρ0 := ρ) (G0 := G) (H0 := H) (own0 := own) S2 (XP.from t2 h2 (relR_mono c)) (R1.step t2) R2
theorem tUn_of {op : D → Option R} {Q : VK} (h : tD c σ0 W (eUn op f) σ H Q) : tUn (rD1 c op) (tD c σ0 W f) σ H Q := by
  obtain ⟨G, own, ρ, S, h⟩ := h
  refine XP.bind S h fun r1 ρ1 G1 own1 H1 v t1 S1 R1 h1 => ?_
  exact XP.op1 S1 (XP.from t1 h1 (relR_mono c)) R1
theorem tCB_of {op : List D → Option R} {f : M (List R)} {Q : VK} (h : tD c σ0 W (eCallB op f) σ H Q) : tCB (rDn c op) (tA c σ0 W f) σ H Q := by
  obtain ⟨G, own, ρ, S, h⟩ := h
  refine XP.bind S h fun r1 ρ1 G1 own1 H1 v t1 S1 R1 h1 => ?_
  exact XP.opn S1 (XP.from t1 h1 (relR_mono c)) R1
theorem de_bin {o : Operator} (ho : OpR X (binaryOp o) (rD c op)) (ha : PE X a (tD c σ0 W f)) (hb : PE X b (tD c σ0 W g)) : PE X (.BinOp a o b pos) (tD c σ0 W (eBin op f g)) :=
  PE.imp (pe_op ho ha hb) fun _ _ _ h => tOp_of h
theorem de_cmp {o : CmpOp} (ho : OpR X (compareOp o) (rD c op)) (ha : PE X a (tD c σ0 W f)) (hb : PE X b (tD c σ0 W g)) (hm : behindInMarks o b = false) : PE X (.Compare a [o] [b] pos) (tD c σ0 W (eBin op f g)) :=
  PE.imp (pe_cmpR ho ha hb hm) fun _ _ _ h => tOp_of h
theorem de_un {o : UnaryOp} {op : D → Option R} (ho : UnR X (unaryOp o) (rD1 c op)) (ha : PE X a (tD c σ0 W f)) : PE X (.UnaryOp o a pos) (tD c σ0 W (eUn op f)) :=
  PE.imp (pe_un ho ha) fun _ _ _ h => tUn_of h

/-! ### names, constants -/
theorem de_var {i : Nat} (h : PE X e (tVar i)) : PE X e (tD c σ0 W (eVar i)) := PE.imp h fun σ H Q q => by
  obtain ⟨G, own, ρ, S, q⟩ := q
  unfold eVar at q
  cases e : ρ[i]? with
  | none => rw [e] at q; exact q.elim
  | some s =>
    rw [e] at q
    have z := S.slot i s e
    cases s with
    | no => exact q.elim
    | fz d =>
      obtain ⟨v, hv, r⟩ := z
      exact ⟨v, hv, q G own H v Tr.refl S r⟩
    | ow k o =>
      obtain ⟨v, hv, r⟩ := z
      exact ⟨v, hv, q G own H v Tr.refl S hv⟩
    | ln k o =>
      obtain ⟨v, hv, r⟩ := z
      exact ⟨v, hv, q G own H v Tr.refl S hv⟩
theorem de_c {d : D} {v : V} (hd : ∀ G, Rep c G d v) (h : PE X e (tC v)) : PE X e (tD c σ0 W (eC d)) := PE.imp h fun σ H Q q => by
  obtain ⟨G, own, ρ, S, q⟩ := q
  exact XP.ret S q (hd G)
theorem de_int {i : Int} {j pos} : PE X (.Constant (.int i) j pos) (tD c σ0 W (eC (.int i))) := de_c (fun _ => .int i) pe_int
theorem de_bl {b : Bool} {j pos} : PE X (.Constant (.bool b) j pos) (tD c σ0 W (eC (.bl b))) := de_c (fun _ => .bl b) pe_bl
theorem de_non {j pos} : PE X (.Constant .none j pos) (tD c σ0 W (eC .non)) := de_c (fun _ => .non) pe_non
theorem de_str {x : Str} {j pos} : PE X (.Constant (.str x) j pos) (tD c σ0 W (eC (.str x))) := de_c (fun _ => .str x) pe_str

/-! ### arguments -/
theorem da_nil : PA X [] (tA c σ0 W eNil) := PA.imp pa_nil fun σ H Q q => by
  obtain ⟨G, own, ρ, S, q⟩ := q
  exact XP.ret S q .nil
open Classical in
/-- the new object becomes a frozen one -/
noncomputable def frzG (G H : Hp) (P : Addr → Prop) : Hp := fun b => if P b then H b else G b
theorem frz_at {P : Addr → Prop} {b : Addr} (h : P b) : frzG G H P b = H b := by
  unfold frzG; rw [if_pos h]
theorem frz_ne {P : Addr → Prop} {b : Addr} (h : ¬ P b) : frzG G H P b = G b := by
  unfold frzG; rw [if_neg h]
theorem frz_same {P : Addr → Prop} (h : ∀ b, P b → G b = none) : Same G (frzG G H P) := fun b o e => by
  by_cases p : P b
  · rw [h b p] at e; cases e
  · rw [frz_ne p]; exact e
theorem OwR.frz {P : Addr → Prop} (hg : ∀ b, P b → G b = none) : ∀ {o : OV} {v : V}, OwR c G H P o v → Rep c (frzG G H P) o.toD v
  | .lst _, _, ⟨a, vs, e, p, h, r⟩ => by
    subst e
    exact .lst ((frz_at p).trans h) (r.mono (frz_same hg))
  | .dct _, _, ⟨a, kvs, e, p, h, m, r⟩ => by
    subst e
    exact .dct ((frz_at p).trans h) m (r.mono (frz_same hg))
  | .ins _ _, _, ⟨a, C, dx, fs, e, p, q, ne, l, h, o, m, r⟩ => by
    subst e
    exact .ins l ((frz_at p).trans h) ((frz_at q).trans o) m (r.mono (frz_same hg))
theorem SR.frz {P : Addr → Prop} (S : SR c σ0 G own ρ σ H) (hg : ∀ b, P b → G b = none ∧ ¬ ao own b) : SR c σ0 (frzG G H P) own ρ σ H where
  same := fun b o e => by
    by_cases p : P b
    · rw [frz_at p] at e; exact e
    · rw [frz_ne p] at e; exact S.same b o e
  out := fun i b h => by
    have n : ¬ P b := fun p => (hg b p).2 ⟨i, h⟩
    rw [frz_ne n]
    exact S.out i b h
  there := S.there
  dis := S.dis
  len := S.len
  slot := fun i s h => (S.slot i s h).at (frz_same fun b p => (hg b p).1) (fun b o _ k => k) fun _ p => p
  io := S.io
theorem frz_tr {ρ0 : Ro} {G0 H0 : Hp} {own0 : Own} {σ' : St} {P : Addr → Prop} (t : Tr ρ0 σ' G0 own0 H0 ρ σ G own H) (hg : ∀ b, P b → G b = none ∧ (H0 b = none ∨ ao own0 b)) : Tr ρ0 σ' G0 own0 H0 ρ σ (frzG G H P) own H where
  ext := t.ext.trans (frz_same fun b p => (hg b p).1)
  keep := t.keep
  gnew := fun b o e => by
    by_cases p : P b
    · exact .inr (hg b p).2
    · rw [frz_ne p] at e; exact t.gnew b o e
  onew := t.onew
  lent := t.lent
/-- freezing: the new object of r (if it is one) goes into the frozen part -/
theorem fz_of {ρ0 : Ro} {G0 H0 : Hp} {own0 : Own} {σ' : St} {N : Addr → Prop} {r : R} {v : V} (S : SR c σ0 G own ρ σ H) (t : Tr ρ0 σ' G0 own0 H0 ρ σ G own H) (hN : ∀ b, N b → H0 b = none ∨ ao own0 b) (h : RR c G own σ H N r v) :
    ∃ G', Same G G' ∧ Tr ρ0 σ' G0 own0 H0 ρ σ G' own H ∧ SR c σ0 G' own ρ σ H ∧ RRs c G' σ [fzR r] [v] := by
  cases r with
  | val d => exact ⟨G, Same.refl _, t, S, .val h .nil⟩
  | sl i => exact ⟨G, Same.refl _, t, S, .sl h .nil⟩
  | nw o =>
    obtain ⟨P, x, k⟩ := h
    exact ⟨frzG G H P, frz_same fun b p => (k b p).1, frz_tr t fun b p => ⟨(k b p).1, hN b (k b p).2.2.2⟩, S.frz fun b p => ⟨(k b p).1, (k b p).2.1⟩, .val (x.frz fun b p => (k b p).1) .nil⟩
theorem RRs.mono {G' : Hp} (s : Same G G') : ∀ {rs : List R} {vs : List V}, RRs c G σ rs vs → RRs c G' σ rs vs
  | _, _, .nil => .nil
  | _, _, .val h r => .val (h.mono s) (r.mono s)
  | _, _, .sl h r => .sl h (r.mono s)
theorem RRs.cons {r : R} {v : V} {rs : List R} {vs : List V} (h : RRs c G σ [r] [v]) (k : RRs c G σ rs vs) : RRs c G σ (r :: rs) (v :: vs) := by
  cases h with
  | val h _ => exact .val h k
  | sl h _ => exact .sl h k
theorem da_cons {h2 : M (List R)} (he : PE X e (tD c σ0 W f)) (hr : PA X es (tA c σ0 W h2)) (hs : starEach (e :: es) X.env = (false, eval e X.env) :: starEach es X.env := by rfl) : PA X (e :: es) (tA c σ0 W (eCons f h2)) :=
  PA.imp (pa_cons he hr hs) fun σ H Q q => by
    obtain ⟨G, own, ρ, S, q⟩ := q
    refine XP.bind S q fun r1 ρ1 G1 own1 H1 v t1 S1 R1 h1 => ?_
    obtain ⟨G1', s1, t1', S1', R1'⟩ := fz_of S1 t1 (fun b n => n) R1
    refine XP.bind S1' (XP.from t1' h1 (relA_mono c)) fun rs ρ2 G2 own2 H2 vs t2 S2 R2 h2 => ?_
    exact XP.ret S2 (XP.from t2 h2 (relA_mono c)) ((R1'.mono t2.ext).cons R2)

/-! ### tests -/
theorem emp_eq {α β : Type} {xs : List α} {ys : List β} (h : xs.length = ys.length) : (!xs.isEmpty) = !ys.isEmpty := by
  cases xs <;> cases ys <;> first | rfl | cases h
theorem RepR.tru (s : Same G H) {d : D} {v : V} {b : Bool} (h : RepR c G H d v) (e : truthD d = some b) : TruV c.K v H b := by
  cases d with
  | ins n fs => cases e
  | non => cases e; cases h; rfl
  | bl b => cases e; cases h; rfl
  | int i => cases e; cases h; rfl
  | str x =>
    cases h
    have e : (if x.length ≤ sizeLine then some ((x.length : Int) != 0) else none) = some b := e
    by_cases hl : x.length ≤ sizeLine
    · rw [if_pos hl] at e
      cases e
      exact ⟨hl, rfl⟩
    · rw [if_neg hl] at e
      cases e
  | tup ds =>
    cases e
    obtain ⟨a, vs, rfl, hs, r⟩ := h
    exact .inr (.inl ⟨vs, sqT_same s hs, emp_eq r.length⟩)
  | lst ds =>
    cases e
    obtain ⟨a, vs, rfl, hs, r⟩ := h
    exact .inl ⟨vs, .inl (.inl hs), emp_eq r.length⟩
  | scr ns =>
    cases e
    obtain ⟨a, rfl, hs⟩ := h
    exact .inl ⟨_, hs, by cases ns <;> rfl⟩
  | dct ds =>
    cases e
    obtain ⟨a, kvs, rfl, hs, m, r⟩ := h
    have l := r.length
    rw [List.length_map, List.length_map] at l
    exact .inr (.inr ⟨kvs, hs, emp_eq l⟩)
theorem XP.tru {Q : Bool → Hp → Prop} {r : R} {v : V} {N : Addr → Prop} (S : SR c σ0 G own ρ σ H) (h : XP relB c σ0 W σ ρ G own H Q (truthR r ρ)) (h1 : RR c G own σ H N r v) : ∃ k, TruV c.K v H k ∧ Q k H := by
  unfold truthR at h
  cases e1 : deref ρ r with
  | none => rw [e1] at h; exact h.elim
  | some d =>
    rw [e1] at h
    have h : XP relB c σ0 W σ ρ G own H Q (match truthD d with
      | some b => .ok b ρ
      | none => .bad) := h
    cases e2 : truthD d with
    | none => rw [e2] at h; exact h.elim
    | some b =>
      rw [e2] at h
      exact ⟨b, (deref_rd S h1 e1).tru S.same e2, h G own H b Tr.refl S rfl⟩
/-- any expression, by its truth -/
theorem dt_truth (hK : c.K = X.K) (ha : PE X a (tD c σ0 W f)) (he : ∀ whole, isTrue a X.env whole = (do let v ← whole; standAt a.pos; holding [v] (truthy v)) := by intro _; rfl) : PT X a (tT c σ0 W (eTest f)) :=
  PT.imp (pt_truth ha he) fun σ H Q q => by
    obtain ⟨G, own, ρ, S, q⟩ := q
    refine XP.bind S q fun r1 ρ1 G1 own1 H1 v t1 S1 R1 h1 => ?_
    rw [← hK]
    exact XP.tru S1 (XP.from t1 h1 relB_mono) R1
/-- a comparison, by its bool -/
def boolR (r : R) : M Bool := match r with
  | .val (.bl b) => M.ret b
  | _ => fun _ => .bad
def eBool (f : M R) : M Bool := f.bind boolR
theorem tTest_of {Q : Bool → Hp → Prop} (h : tT c σ0 W (eBool f) σ H Q) : tTest (tD c σ0 W f) σ H Q := by
  obtain ⟨G, own, ρ, S, q⟩ := h
  refine XP.bind S q fun r1 ρ1 G1 own1 H1 v t1 S1 R1 h1 => ?_
  cases r1 with
  | val d =>
    cases d with
    | bl b =>
      cases R1
      exact ⟨b, rfl, XP.ret S1 (XP.from t1 h1 relB_mono) rfl⟩
    | _ => exact h1.elim
  | _ => exact h1.elim
theorem dt_cmp {o : CmpOp} (ho : OpR X (compareOp o) (rD c op)) (ha : PE X a (tD c σ0 W f)) (hb : PE X b (tD c σ0 W g)) (hm : behindInMarks o b = false) : PT X (.Compare a [o] [b] pos) (tT c σ0 W (eBool (eBin op f g))) :=
  PT.imp (pt_cmpR ho ha hb hm) fun σ H Q q => by
    obtain ⟨k, h, z⟩ : ∃ k : Unit, True ∧ True := ⟨(), trivial, trivial⟩
    have w := tTest_of q
    exact tOp_of w
theorem dt_not (ha : PT X a (tT c σ0 W t)) : PT X (.UnaryOp .Not a pos) (tT c σ0 W (eNot t)) := PT.imp (pt_not ha) fun σ H Q q => by
  obtain ⟨G, own, ρ, S, q⟩ := q
  refine XP.bind S q fun r1 ρ1 G1 own1 H1 v t1 S1 R1 h1 => ?_
  cases R1
  exact XP.ret S1 (XP.from t1 h1 relB_mono) rfl
theorem tIfG {α τ : Type} {rel : Rl α τ} (hm : RlMono rel) {f g : M α} {T : τ → Hp → Prop} (h : tX rel c σ0 W (eIf t f g) σ H T) :
    tT c σ0 W t σ H fun b H1 => if b = true then tX rel c σ0 W f σ H1 T else tX rel c σ0 W g σ H1 T := by
  obtain ⟨G, own, ρ, S, q⟩ := h
  refine XP.bind S q fun r1 ρ1 G1 own1 H1 v t1 S1 R1 h1 => ?_
  cases R1
  cases r1 with
  | true => exact ⟨G1, own1, ρ1, S1, XP.from t1 h1 hm⟩
  | false => exact ⟨G1, own1, ρ1, S1, XP.from t1 h1 hm⟩
theorem tX_ret {α τ : Type} {rel : Rl α τ} {r : α} {v : τ} {T : τ → Hp → Prop} (h : tX rel c σ0 W (M.ret r) σ H T) (k : ∀ G own ρ, SR c σ0 G own ρ σ H → rel G own σ H (fun b => H b = none ∨ ao own b) r v) : T v H := by
  obtain ⟨G, own, ρ, S, q⟩ := h
  exact XP.ret S q (k G own ρ S)
theorem dt_andW {rest : List Expr} (ha : PT X a (tT c σ0 W t)) (hb : PW X (.BoolOp .And (b :: rest) pos) (tT c σ0 W u)) : PW X (.BoolOp .And (a :: b :: rest) pos) (tT c σ0 W (eAnd t u)) := by
  refine ⟨fun wh pins s σ H Q I h => (pw_and ha hb).run wh pins s σ H Q I ?_⟩
  refine (fun z => ?_) (tIfG relB_mono h)
  obtain ⟨G, own, ρ, S, q⟩ := z
  refine ⟨G, own, ρ, S, ?_⟩
  cases e : t ρ with
  | ok r ρ' =>
    rw [e] at q
    intro G' own' H' v t' S' R'
    have := q G' own' H' v t' S' R'
    cases v with
    | true => exact this
    | false => exact tX_ret (v := false) this fun _ _ _ _ => rfl
  | ex x ρ' =>
    rw [e] at q
    exact q
  | bad =>
    rw [e] at q
    exact q
theorem dt_orW {rest : List Expr} (ha : PT X a (tT c σ0 W t)) (hb : PW X (.BoolOp .Or (b :: rest) pos) (tT c σ0 W u)) : PW X (.BoolOp .Or (a :: b :: rest) pos) (tT c σ0 W (eOr t u)) := by
  refine ⟨fun wh pins s σ H Q I h => (pw_or ha hb).run wh pins s σ H Q I ?_⟩
  refine (fun z => ?_) (tIfG relB_mono h)
  obtain ⟨G, own, ρ, S, q⟩ := z
  refine ⟨G, own, ρ, S, ?_⟩
  cases e : t ρ with
  | ok r ρ' =>
    rw [e] at q
    intro G' own' H' v t' S' R'
    have := q G' own' H' v t' S' R'
    cases v with
    | true => exact tX_ret (v := true) this fun _ _ _ _ => rfl
    | false => exact this
  | ex x ρ' =>
    rw [e] at q
    exact q
  | bad =>
    rw [e] at q
    exact q
theorem dt_and1 (ha : PT X a (tT c σ0 W t)) : PW X (.BoolOp .And [a] pos) (tT c σ0 W t) := pw_and1 ha
theorem dt_or1 (ha : PT X a (tT c σ0 W t)) : PW X (.BoolOp .Or [a] pos) (tT c σ0 W t) := pw_or1 ha
/-- and, or of bools, as values -/
theorem de_and {rest : List Expr} (ha : PE X a (tD c σ0 W f)) (hb : PE X (.BoolOp .And (b :: rest) pos) (tD c σ0 W g)) : PE X (.BoolOp .And (a :: b :: rest) pos) (tD c σ0 W (eIf (eBool f) g (eC (.bl false)))) :=
  PE.imp (pe_and ha hb) fun σ H Q q => by
    have z := tTest_of (Q := fun b H1 => if b = true then tD c σ0 W g σ H1 Q else tD c σ0 W (eC (.bl false)) σ H1 Q) (tIfG (relR_mono c) q)
    obtain ⟨G, own, ρ, S, w⟩ := z
    refine ⟨G, own, ρ, S, ?_⟩
    cases e : f ρ with
    | ok r ρ' =>
      rw [e] at w
      intro G' own' H' v t' S' R'
      obtain ⟨k, e1, y⟩ := w G' own' H' v t' S' R'
      refine ⟨k, e1, ?_⟩
      cases k with
      | true => exact y
      | false => exact tX_ret (rel := relR c) (r := R.val (.bl false)) (v := V.bl false) (show tD c σ0 W (eC (.bl false)) σ H' Q from y) fun G _ _ _ => (Rep.bl false : Rep c G (.bl false) (.bl false))
    | ex x ρ' =>
      rw [e] at w
      exact w
    | bad =>
      rw [e] at w
      exact w
theorem de_or {rest : List Expr} (ha : PE X a (tD c σ0 W f)) (hb : PE X (.BoolOp .Or (b :: rest) pos) (tD c σ0 W g)) : PE X (.BoolOp .Or (a :: b :: rest) pos) (tD c σ0 W (eIf (eBool f) (eC (.bl true)) g)) :=
  PE.imp (pe_or ha hb) fun σ H Q q => by
    have z := tTest_of (Q := fun b H1 => if b = true then tD c σ0 W (eC (.bl true)) σ H1 Q else tD c σ0 W g σ H1 Q) (tIfG (relR_mono c) q)
    obtain ⟨G, own, ρ, S, w⟩ := z
    refine ⟨G, own, ρ, S, ?_⟩
    cases e : f ρ with
    | ok r ρ' =>
      rw [e] at w
      intro G' own' H' v t' S' R'
      obtain ⟨k, e1, y⟩ := w G' own' H' v t' S' R'
      refine ⟨k, e1, ?_⟩
      cases k with
      | true => exact tX_ret (rel := relR c) (r := R.val (.bl true)) (v := V.bl true) (show tD c σ0 W (eC (.bl true)) σ H' Q from y) fun G _ _ _ => (Rep.bl true : Rep c G (.bl true) (.bl true))
      | false => exact y
    | ex x ρ' =>
      rw [e] at w
      exact w
    | bad =>
      rw [e] at w
      exact w
theorem de_one {o : BoolOp} (ha : PE X a (tD c σ0 W f)) : PE X (.BoolOp o [a] pos) (tD c σ0 W f) := pe_one ha
theorem de_not (ha : PE X a (tD c σ0 W f)) : PE X (.UnaryOp .Not a pos) (tD c σ0 W (eB (eNot (eBool f)))) := PE.imp (pe_not ha) fun σ H Q q => by
  have z := tTest_of (f := f) (Q := fun b H1 => Q (.bl (!b)) H1) (by
    obtain ⟨G, own, ρ, S, q⟩ := q
    refine XP.bind S (f := eBool f) (k := fun b => M.ret (.val (.bl (!b)))) (rel2 := relR c) (by
      have e : eB (eNot (eBool f)) ρ = M.bind (eBool f) (fun b => M.ret (R.val (.bl (!b)))) ρ := by
        unfold eB eNot M.bind
        cases eBool f ρ <;> rfl
      rw [← e]
      exact q) fun r1 ρ1 G1 own1 H1 v t1 S1 R1 h1 => ?_
    cases R1
    exact XP.ret S1 (XP.from t1 h1 (relR_mono c)) (Rep.bl _))
  exact z
theorem de_ifExp {i : Expr} (hc : PT X i (tT c σ0 W t)) (ha : PE X a (tD c σ0 W f)) (hb : PE X b (tD c σ0 W g)) : PE X (.IfExp i a b pos) (tD c σ0 W (eIf t f g)) :=
  PE.imp (pe_ifExp hc ha hb) fun σ H Q q => tIfG (relR_mono c) q
end
end DL

/-! DLc: statements, defs. -/
namespace DL
open PySem PySem.Spec PyProof.Rows L2

inductive Out where
  | nx (ρ : Ro) | ret (r : R) (ρ : Ro) | brk (ρ : Ro) | cnt (ρ : Ro) | ex (x : Exn) (ρ : Ro) | bad
abbrev S := Ro → Out
def SPo (c : Cn) (σ0 : St) (W : WX) (σ : St) (ρ : Ro) (G : Hp) (own : Own) (H : Hp) (E : Ends) : Out → Prop
  | .nx ρ' => ∀ σ' G' own' H', Tr ρ σ G own H ρ' σ' G' own' H' → SR c σ0 G' own' ρ' σ' H' → E.nx σ' H'
  | .ret r ρ' => ∀ σ' G' own' H' v, Tr ρ σ G own H ρ' σ' G' own' H' → SR c σ0 G' own' ρ' σ' H' → RR c G' own' σ' H' (fun b => H b = none ∨ ao own b) r v → E.rt v H'
  | .brk ρ' => ∀ σ' G' own' H', Tr ρ σ G own H ρ' σ' G' own' H' → SR c σ0 G' own' ρ' σ' H' → E.bk σ' H'
  | .cnt ρ' => ∀ σ' G' own' H', Tr ρ σ G own H ρ' σ' G' own' H' → SR c σ0 G' own' ρ' σ' H' → E.ct σ' H'
  | .ex x ρ' => ∀ σ' G' own' H' cls d, Tr ρ σ G own H ρ' σ' G' own' H' → SR c σ0 G' own' ρ' σ' H' → ExR c G' H' x cls d → W cls d σ' H'
  | .bad => False
def tS (c : Cn) (σ0 : St) (W : WX) (s : S) : TS := fun E σ H => ∃ G own ρ, SR c σ0 G own ρ σ H ∧ SPo c σ0 W σ ρ G own H E (s ρ)

def sNext : S := fun ρ => .nx ρ
def sSeq (s t : S) : S := fun ρ => match s ρ with
  | .nx ρ' => t ρ'
  | o => o
/-- a value, then what is done with it -/
def sBind {α : Type} (f : M α) (k : α → S) : S := fun ρ => match f ρ with
  | .ok a ρ' => k a ρ'
  | .ex x ρ' => .ex x ρ'
  | .bad => .bad
def sIf (t : M Bool) (s u : S) : S := sBind t fun b => if b = true then s else u
def sExpr (f : M R) : S := sBind f fun _ => sNext
def okSet (ρ : Ro) (i : Nat) : Bool := match ρ[i]? with
  | some .no => true
  | some (.fz _) => true
  | some (.ow k _) => !k
  | _ => false
def storeR (i : Nat) (r : R) : S := fun ρ => if okSet ρ i = true then (match r with
    | .val d => .nx (ρ.set i (.fz d))
    | .nw o => .nx (ρ.set i (.ow false o))
    | .sl j => match ρ[j]? with
      | some (.ow false o) => if j = i then .bad else .nx ((ρ.set j (.fz o.toD)).set i (.fz o.toD))
      | _ => .bad) else .bad
def sAsg (i : Nat) (f : M R) : S := sBind f (storeR i)
def retR (r : R) : S := fun ρ => match r with
  | .val d => .ret (.val d) ρ
  | .nw o => .ret (.nw o) ρ
  | .sl j => match ρ[j]? with
    | some (.ow false o) => .ret (.nw o) (ρ.set j .no)
    | _ => .bad
def sRet (f : M R) : S := sBind f retR
def sRetN : S := fun ρ => .ret (.val .non) ρ
def sBrk : S := fun ρ => .brk ρ
def sCnt : S := fun ρ => .cnt ρ
def augR' (op : D → D → Option R) (i : Nat) (d : D) (r : R) : S := fun ρ => if okSet ρ i = true then (match (deref ρ r).bind (op d) with
  | some (.val e) => .nx (ρ.set i (.fz e))
  | _ => .bad) else .bad
def sAug (i : Nat) (op : D → D → Option R) (f : M R) : S := fun ρ => match ρ[i]? with
  | some (.fz d) => sBind f (augR' op i d) ρ
  | _ => .bad

section
variable {X : Cx} {c : Cn} {σ0 : St} {W : WX} {σ σ' σ1 σ2 : St} {ρ ρ1 ρ2 : Ro} {G G1 G2 H H1 H2 : Hp} {own own1 own2 : Own} {a b e : Expr} {st : Stmt} {rest : List Stmt} {pos : Pos} {f g : M R} {t : M Bool} {s u : S} {E : Ends}

theorem SPo.from {o : Out} (t : Tr ρ σ G own H ρ1 σ1 G1 own1 H1) (h : SPo c σ0 W σ ρ G own H E o) : SPo c σ0 W σ1 ρ1 G1 own1 H1 E o := by
  cases o with
  | nx ρ2 => exact fun σ2 G2 own2 H2 u S => h σ2 G2 own2 H2 (t.trans u) S
  | ret r ρ2 => exact fun σ2 G2 own2 H2 v u S R => h σ2 G2 own2 H2 v (t.trans u) S (RR.mono (fun b => t.back) R)
  | brk ρ2 => exact fun σ2 G2 own2 H2 u S => h σ2 G2 own2 H2 (t.trans u) S
  | cnt ρ2 => exact fun σ2 G2 own2 H2 u S => h σ2 G2 own2 H2 (t.trans u) S
  | ex x ρ2 => exact fun σ2 G2 own2 H2 cls d u S R => h σ2 G2 own2 H2 cls d (t.trans u) S R
  | bad => exact h
theorem SPo.bind {α τ : Type} {rel : Rl α τ} {f : M α} {k : α → S} {T : τ → Hp → Prop} (S : SR c σ0 G own ρ σ H) (h : SPo c σ0 W σ ρ G own H E (sBind f k ρ))
    (hk : ∀ r ρ1 G1 own1 H1 v, Tr ρ σ G own H ρ1 σ G1 own1 H1 → SR c σ0 G1 own1 ρ1 σ H1 → rel G1 own1 σ H1 (fun b => H b = none ∨ ao own b) r v → SPo c σ0 W σ ρ G own H E (k r ρ1) → T v H1) :
    tX rel c σ0 W f σ H T := by
  refine ⟨G, own, ρ, S, ?_⟩
  unfold sBind at h
  cases e : f ρ with
  | ok r ρ1 =>
    rw [e] at h
    exact fun G1 own1 H1 v t S1 r1 => hk r ρ1 G1 own1 H1 v t S1 r1 h
  | ex x ρ1 =>
    rw [e] at h
    exact fun G1 own1 H1 cls d t S1 r1 => h σ G1 own1 H1 cls d t S1 r1
  | bad =>
    rw [e] at h
    exact h
theorem dss_nil : PSs X [] (tS c σ0 W sNext) := PSs.imp pss_nil fun E σ H q => by
  obtain ⟨G, own, ρ, S, q⟩ := q
  exact q σ G own H Tr.refl S
theorem tSeq_of (h : tS c σ0 W (sSeq s u) E σ H) : tSeq (tS c σ0 W s) (tS c σ0 W u) E σ H := by
  obtain ⟨G, own, ρ, S, q⟩ := h
  refine ⟨G, own, ρ, S, ?_⟩
  unfold sSeq at q
  cases e : s ρ with
  | nx ρ1 =>
    rw [e] at q
    exact fun σ1 G1 own1 H1 t S1 => ⟨G1, own1, ρ1, S1, q.from t⟩
  | ret r ρ1 => rw [e] at q; exact q
  | brk ρ1 => rw [e] at q; exact q
  | cnt ρ1 => rw [e] at q; exact q
  | ex x ρ1 => rw [e] at q; exact q
  | bad => rw [e] at q; exact q
theorem dss_cons (h1 : PS X st (tS c σ0 W s)) (h2 : PSs X rest (tS c σ0 W u)) : PSs X (st :: rest) (tS c σ0 W (sSeq s u)) := PSs.imp (pss_cons h1 h2) fun _ _ _ q => tSeq_of q
theorem dss_one (h1 : PS X st (tS c σ0 W s)) : PSs X [st] (tS c σ0 W s) := pss_one h1
theorem ds_pass : PS X (.Pass pos) (tS c σ0 W sNext) := PS.imp ps_pass fun E σ H q => by
  obtain ⟨G, own, ρ, S, q⟩ := q
  exact q σ G own H Tr.refl S
theorem ds_break : PS X (.Break pos) (tS c σ0 W sBrk) := PS.imp ps_break fun E σ H q => by
  obtain ⟨G, own, ρ, S, q⟩ := q
  exact q σ G own H Tr.refl S
theorem ds_continue : PS X (.Continue pos) (tS c σ0 W sCnt) := PS.imp ps_continue fun E σ H q => by
  obtain ⟨G, own, ρ, S, q⟩ := q
  exact q σ G own H Tr.refl S
theorem ds_if {x : Expr} {A B : List Stmt} (hc : PT X x (tT c σ0 W t)) (ha : PSs X A (tS c σ0 W s)) (hb : PSs X B (tS c σ0 W u)) : PS X (.If x A B pos) (tS c σ0 W (sIf t s u)) := PS.imp (ps_if hc ha hb) fun E σ H q => by
  obtain ⟨G, own, ρ, S, q⟩ := q
  refine SPo.bind S q fun b ρ1 G1 own1 H1 v t1 S1 R1 h1 => ?_
  cases R1
  cases b with
  | true => exact ⟨G1, own1, ρ1, S1, h1.from t1⟩
  | false => exact ⟨G1, own1, ρ1, S1, h1.from t1⟩
theorem ds_expr (he : PE X e (tD c σ0 W f)) (hs : swapsWith e none pos.line X.env = pure false := by rfl) : PS X (.Expr e pos) (tS c σ0 W (sExpr f)) := PS.imp (ps_expr he hs) fun E σ H q => by
  obtain ⟨G, own, ρ, S, q⟩ := q
  exact SPo.bind S q fun r ρ1 G1 own1 H1 v t1 S1 R1 h1 => h1 σ G1 own1 H1 t1 S1
theorem ds_retN : PS X (.Return none pos) (tS c σ0 W sRetN) := PS.imp ps_retN fun E σ H q => by
  obtain ⟨G, own, ρ, S, q⟩ := q
  exact q σ G own H .non Tr.refl S Rep.non

/-! ### slots taken and put -/
def minO (own : Own) (j : Nat) : Own := fun i b => i ≠ j ∧ own i b
def putO (own : Own) (j : Nat) (P : Addr → Prop) : Own := fun i b => (i = j ∧ P b) ∨ (i ≠ j ∧ own i b)
theorem ao_put {own : Own} {j : Nat} {P : Addr → Prop} {b : Addr} (h : ao (putO own j P) b) : P b ∨ ao own b := by
  obtain ⟨i, ⟨_, p⟩ | ⟨_, p⟩⟩ := h
  · exact .inl p
  · exact .inr ⟨i, p⟩
theorem lt_of_get {α : Type} {l : List α} {i : Nat} {x : α} (h : l[i]? = some x) : i < l.length := (List.getElem?_eq_some_iff.mp h).1
theorem okSet_get {i : Nat} (h : okSet ρ i = true) : ∃ s, ρ[i]? = some s ∧ s.isIo = false ∧ ∀ k o, s ≠ .ln k o := by
  unfold okSet at h
  cases e : ρ[i]? with
  | none => rw [e] at h; cases h
  | some s =>
    rw [e] at h
    refine ⟨s, rfl, ?_, fun k o q => ?_⟩
    · cases s with
      | no => rfl
      | fz d => rfl
      | ow k o =>
        cases k with
        | true => cases h
        | false => rfl
      | ln k o => cases h
    · subst q; cases h
/-- a slot is stored -/
theorem SR.put {i : Nat} {s : Sl} {P : Addr → Prop} {v : V} (S : SR c σ0 G own ρ σ H) (ok : okSet ρ i = true) (hs : SlR c G H P s (some (some v))) (hio : s.isIo = false) (hP : ∀ b, P b → G b = none ∧ ¬ ao own b ∧ ∃ o, H b = some o) :
    SR c σ0 G (putO own i P) (ρ.set i s) (σ.set i (some v)) H where
  same := S.same
  out := fun j b h => by
    rcases h with ⟨_, p⟩ | ⟨_, p⟩
    · exact (hP b p).1
    · exact S.out j b p
  there := fun j b h => by
    rcases h with ⟨_, p⟩ | ⟨_, p⟩
    · exact (hP b p).2.2
    · exact S.there j b p
  dis := fun j k b h1 h2 => by
    rcases h1 with ⟨e1, p1⟩ | ⟨e1, p1⟩
    · rcases h2 with ⟨e2, p2⟩ | ⟨e2, p2⟩
      · rw [e1, e2]
      · exact absurd ⟨k, p2⟩ (hP b p1).2.1
    · rcases h2 with ⟨e2, p2⟩ | ⟨e2, p2⟩
      · exact absurd ⟨j, p1⟩ (hP b p2).2.1
      · exact S.dis j k b p1 p2
  len := by rw [List.length_set, List.length_set]; exact S.len
  slot := fun j s' h => by
    obtain ⟨s0, h0, _, _⟩ := okSet_get ok
    have hi := lt_of_get h0
    by_cases e : i = j
    · subst e
      rw [List.getElem?_set_self hi] at h
      cases h
      rw [List.getElem?_set_self (by rw [← S.len]; exact hi)]
      exact hs.at (Same.refl _) (fun _ _ _ k => k) fun b p => .inl ⟨rfl, p⟩
    · rw [List.getElem?_set_ne e] at h ⊢
      exact (S.slot j s' h).at (Same.refl _) (fun _ _ _ k => k) fun b p => .inr ⟨fun q => e q.symm, p⟩
  io := fun j s' h k => by
    obtain ⟨s0, h0, _, _⟩ := okSet_get ok
    have hi := lt_of_get h0
    by_cases e : i = j
    · subst e
      rw [List.getElem?_set_self hi] at h
      cases h
      rw [hio] at k; cases k
    · rw [List.getElem?_set_ne e] at h ⊢
      exact S.io j s' h k
theorem Tr.put {ρ0 : Ro} {G0 H0 : Hp} {own0 : Own} {i : Nat} {s : Sl} {P : Addr → Prop} {x : Option V} (t : Tr ρ0 σ' G0 own0 H0 ρ σ G own H) (ok : okSet ρ i = true) (hP : ∀ b, P b → H0 b = none ∨ ao own0 b) :
    Tr ρ0 σ' G0 own0 H0 (ρ.set i s) (σ.set i x) G (putO own i P) H where
  ext := t.ext
  keep := t.keep
  gnew := t.gnew
  onew := fun b h => by
    rcases ao_put h with p | p
    · exact (hP b p).symm
    · exact t.onew b p
  lent := fun j k o h => by
    obtain ⟨h1, e1⟩ := t.lent j k o h
    obtain ⟨s0, h0, _, nl⟩ := okSet_get ok
    have ne : i ≠ j := fun e => by
      subst e
      rw [h0] at h1
      exact nl k o (Option.some.inj h1)
    rw [List.getElem?_set_ne ne, List.getElem?_set_ne ne]
    exact ⟨h1, e1⟩
/-- a slot's object is taken out -/
theorem SR.take {j : Nat} {o : OV} (S : SR c σ0 G own ρ σ H) (h : ρ[j]? = some (.ow false o)) :
    ∃ v, σ[j]? = some (some v) ∧ SR c σ0 G (minO own j) (ρ.set j .no) σ H ∧ OwR c G H (own j) o v ∧ ∀ b, own j b → G b = none ∧ ¬ ao (minO own j) b ∧ ∃ o, H b = some o := by
  obtain ⟨v, hv, r⟩ := S.slot j _ h
  have hj := lt_of_get h
  refine ⟨v, hv, ⟨S.same, fun i b k => S.out i b k.2, fun i b k => S.there i b k.2, fun i k b h1 h2 => S.dis i k b h1.2 h2.2, by rw [List.length_set]; exact S.len, fun i s' k => ?_, fun i s' k q => ?_⟩, r, fun b p => ⟨S.out j b p, fun ⟨i, ne, q⟩ => ne (S.dis i j b q p), S.there j b p⟩⟩
  · by_cases e : j = i
    · subst e
      rw [List.getElem?_set_self hj] at k
      cases k
      trivial
    · rw [List.getElem?_set_ne e] at k
      exact (S.slot i s' k).at (Same.refl _) (fun _ _ _ k => k) fun b p => ⟨fun q => e q.symm, p⟩
  · by_cases e : j = i
    · subst e
      rw [List.getElem?_set_self hj] at k
      cases k
      cases q
    · rw [List.getElem?_set_ne e] at k
      exact S.io i s' k q
theorem Tr.take {ρ0 : Ro} {G0 H0 : Hp} {own0 : Own} {j : Nat} {o : OV} {s : Sl} (t : Tr ρ0 σ' G0 own0 H0 ρ σ G own H) (h : ρ[j]? = some (.ow false o)) :
    Tr ρ0 σ' G0 own0 H0 (ρ.set j s) σ G (minO own j) H where
  ext := t.ext
  keep := t.keep
  gnew := t.gnew
  onew := fun b ⟨i, _, q⟩ => t.onew b ⟨i, q⟩
  lent := fun i k o' h' => by
    obtain ⟨h1, e1⟩ := t.lent i k o' h'
    have ne : j ≠ i := fun e => by
      subst e
      rw [h] at h1; cases h1
    rw [List.getElem?_set_ne ne]
    exact ⟨h1, e1⟩
/-- what is known of a slot's value is noted -/
theorem SR.know {j : Nat} {d : D} {v : V} (S : SR c σ0 G own ρ σ H) (h : ρ[j]? = some .no) (hv : σ[j]? = some (some v)) (r : Rep c G d v) : SR c σ0 G own (ρ.set j (.fz d)) σ H where
  same := S.same
  out := S.out
  there := S.there
  dis := S.dis
  len := by rw [List.length_set]; exact S.len
  slot := fun i s' k => by
    by_cases e : j = i
    · subst e
      rw [List.getElem?_set_self (lt_of_get h)] at k
      cases k
      exact ⟨v, hv, r⟩
    · rw [List.getElem?_set_ne e] at k
      exact S.slot i s' k
  io := fun i s' k q => by
    by_cases e : j = i
    · subst e
      rw [List.getElem?_set_self (lt_of_get h)] at k
      cases k
      cases q
    · rw [List.getElem?_set_ne e] at k
      exact S.io i s' k q
theorem okSet_set {i j : Nat} {s : Sl} (ok : okSet ρ i = true) (ne : j ≠ i) : okSet (ρ.set j s) i = true := by
  unfold okSet at ok ⊢
  rw [List.getElem?_set_ne ne]
  exact ok
/-- .. and stored -/
theorem SPo.store {i : Nat} {r : R} {v : V} {ρ0 : Ro} {G0 H0 : Hp} {own0 : Own} {N : Addr → Prop} (S : SR c σ0 G own ρ σ H) (t : Tr ρ0 σ G0 own0 H0 ρ σ G own H) (hN : ∀ b, N b → H0 b = none ∨ ao own0 b) (R1 : RR c G own σ H N r v)
    (h : SPo c σ0 W σ ρ0 G0 own0 H0 E (storeR i r ρ)) : E.nx (σ.set i (some v)) H := by
  unfold storeR at h
  by_cases ok : okSet ρ i = true
  · rw [if_pos ok] at h
    cases r with
    | val d => exact h _ G _ H (t.put ok fun b p => p.elim) (S.put (P := fun _ => False) ok ⟨v, rfl, R1⟩ rfl fun b p => p.elim)
    | nw o =>
      obtain ⟨P, x, k⟩ := R1
      exact h _ G _ H (t.put ok fun b p => hN b (k b p).2.2.2) (S.put ok ⟨v, rfl, x⟩ rfl fun b p => ⟨(k b p).1, (k b p).2.1, (k b p).2.2.1⟩)
    | sl j =>
      have h : SPo c σ0 W σ ρ0 G0 own0 H0 E (match ρ[j]? with
        | some (.ow false o) => if j = i then .bad else .nx ((ρ.set j (.fz o.toD)).set i (.fz o.toD))
        | _ => .bad) := h
      cases q : ρ[j]? with
      | none => rw [q] at h; exact h.elim
      | some s =>
        rw [q] at h
        cases s with
        | no => exact h.elim
        | fz d => exact h.elim
        | ln k o => exact h.elim
        | ow k o =>
          cases k with
          | true => exact h.elim
          | false =>
            by_cases e : j = i
            · have h : SPo c σ0 W σ ρ0 G0 own0 H0 E (if j = i then .bad else .nx ((ρ.set j (.fz o.toD)).set i (.fz o.toD))) := h
              rw [if_pos e] at h
              exact h.elim
            · have h : SPo c σ0 W σ ρ0 G0 own0 H0 E (if j = i then .bad else .nx ((ρ.set j (.fz o.toD)).set i (.fz o.toD))) := h
              rw [if_neg e] at h
              obtain ⟨w, hw, S1, x, k⟩ := S.take q
              have R1 : σ[j]? = some (some v) := R1
              rw [R1] at hw
              cases hw
              have S2 := S1.frz (P := own j) fun b p => ⟨(k b p).1, (k b p).2.1⟩
              have z : Rep c (frzG G H (own j)) o.toD v := x.frz fun b p => (k b p).1
              have S3 := S2.know (by rw [List.getElem?_set_self (lt_of_get q)]) R1 z
              rw [List.set_set] at S3
              have ok' : okSet (ρ.set j (.fz o.toD)) i = true := okSet_set ok e
              have t1 : Tr ρ0 σ G0 own0 H0 (ρ.set j (.fz o.toD)) σ G (minO own j) H := t.take q
              have t2 := frz_tr (P := own j) t1 fun b p => ⟨(k b p).1, (t.onew b ⟨j, p⟩).symm⟩
              exact h _ _ _ H (t2.put ok' fun b p => p.elim) (S3.put (P := fun _ => False) ok' ⟨v, rfl, z⟩ rfl fun b p => p.elim)
  · rw [if_neg ok] at h
    exact h.elim
theorem ds_asg {i : Nat} (h : PS X st (tAsg (tD c σ0 W f) (gName i))) : PS X st (tS c σ0 W (sAsg i f)) := PS.imp h fun E σ H q => by
  obtain ⟨G, own, ρ, S, q⟩ := q
  exact SPo.bind S q fun r ρ1 G1 own1 H1 v t1 S1 R1 h1 => SPo.store S1 t1 (fun b n => n) R1 h1
theorem ds_ret (he : PE X e (tD c σ0 W f)) : PS X (.Return (some e) pos) (tS c σ0 W (sRet f)) := PS.imp (ps_ret he) fun E σ H q => by
  obtain ⟨G, own, ρ, S, q⟩ := q
  refine SPo.bind S q fun r ρ1 G1 own1 H1 v t1 S1 R1 h1 => ?_
  cases r with
  | val d => exact h1 σ G1 own1 H1 v t1 S1 R1
  | nw o => exact h1 σ G1 own1 H1 v t1 S1 R1
  | sl j =>
    have h1 : SPo c σ0 W σ ρ G own H E (match ρ1[j]? with
      | some (.ow false o) => .ret (.nw o) (ρ1.set j .no)
      | _ => .bad) := h1
    cases q : ρ1[j]? with
    | none => rw [q] at h1; exact h1.elim
    | some s =>
      rw [q] at h1
      cases s with
      | no => exact h1.elim
      | fz d => exact h1.elim
      | ln k o => exact h1.elim
      | ow k o =>
        cases k with
        | true => exact h1.elim
        | false =>
          obtain ⟨w, hw, S2, x, k⟩ := S1.take q
          have R1 : σ[j]? = some (some v) := R1
          rw [R1] at hw
          cases hw
          exact h1 σ G1 _ H1 v (t1.take q) S2 ⟨own1 j, x, fun b p => ⟨(k b p).1, (k b p).2.1, (k b p).2.2, (t1.onew b ⟨j, p⟩).symm⟩⟩
theorem ds_aug {i : Nat} {x : Str} {o : Operator} {op : D → D → Option R} {pos' : Pos} (hN : X.N.Nodup) (hi : X.N[i]? = some x) (hx : Loc X.env.scope x) (he : PE X e (tD c σ0 W f)) (ho : OpR X (inplaceOp o) (rD c op)) (hf : X.fn x = true ∨ X.env.scope.names.lookup x = some .local := by first | exact .inl rfl | exact .inr rfl | assumption) :
    PS X (.AugAssign (.Name x pos') o e pos) (tS c σ0 W (sAug i op f)) := PS.imp (ps_aug (ti := rD c op) hN hi hx he (fun pins s σ H x y v u Q I r1 r2 h => ho pins s σ H x y v u Q I r1 r2 h) hf) fun E σ H q => by
  obtain ⟨G, own, ρ, S, q⟩ := q
  unfold sAug at q
  cases z : ρ[i]? with
  | none => rw [z] at q; exact q.elim
  | some s =>
    rw [z] at q
    cases s with
    | no => exact q.elim
    | ow k o => exact q.elim
    | ln k o => exact q.elim
    | fz d =>
      obtain ⟨v, hv, r⟩ := S.slot i _ z
      refine ⟨v, hv, SPo.bind S q fun r1 ρ1 G1 own1 H1 w t1 S1 R1 h1 => ?_⟩
      unfold augR' at h1
      by_cases ok : okSet ρ1 i = true
      · rw [if_pos ok] at h1
        cases e1 : deref ρ1 r1 with
        | none => rw [e1] at h1; exact h1.elim
        | some e =>
          rw [e1] at h1
          have h1 : SPo c σ0 W σ ρ G own H E (match op d e with
            | some (.val e) => .nx (ρ1.set i (.fz e))
            | _ => .bad) := h1
          cases e2 : op d e with
          | none => rw [e2] at h1; exact h1.elim
          | some r2 =>
            rw [e2] at h1
            cases r2 with
            | sl j => exact h1.elim
            | nw o => exact h1.elim
            | val d2 =>
              refine ⟨G1, d, e, _, S1.same, (r.mono t1.ext).rd S1.same, deref_rd S1 R1 e1, e2, fun G' H' v' n o => ?_⟩
              exact h1 _ G' _ H' ((t1.trans (n.tr S1.there)).put (P := fun _ => False) ok fun b p => p.elim) ((n.sr S1).put (P := fun _ => False) ok ⟨v', rfl, o⟩ rfl fun b p => p.elim)
      · rw [if_neg ok] at h1
        exact h1.elim

/-! ### a def -/
/-- what a body gives: its value; the parameters that the caller owns, as they are left -/
def keepIo : Ro → Ro → Option Ro
  | [], _ => some []
  | s :: a, [] => if s.isIo = true then none else (keepIo a []).map (s :: ·)
  | s :: a, s' :: r => if s.isIo = true then (match s' with
      | .ow true o => (keepIo a r).map (.ow true o :: ·)
      | _ => none) else (keepIo a r).map (s :: ·)
def runF (n : Nat) (body : S) (a : Ro) : Res R := match body (a ++ List.replicate n .no) with
  | .nx ρ => match keepIo a ρ with
    | some a' => .ok (.val .non) a'
    | none => .bad
  | .ret (.sl _) _ => .bad
  | .ret r ρ => match keepIo a ρ with
    | some a' => .ok r a'
    | none => .bad
  | .ex x ρ => match keepIo a ρ with
    | some a' => .ex x a'
    | none => .bad
  | _ => .bad
/-- a parameter's slot: frozen, or the caller's own -/
def argOk : Sl → Bool
  | .fz _ => true
  | .ow k _ => k
  | _ => false
def FPo (c : Cn) (vs : List V) (G : Hp) (own : Own) (a : Ro) (H : Hp) (Q : VK) (E : XK) : Res R → Prop
  | .ok r a' => ∀ G' own' H' v, Tr a (vs.map some) G own H a' (vs.map some) G' own' H' → SR c (vs.map some) G' own' a' (vs.map some) H' → RR c G' own' (vs.map some) H' (fun b => H b = none ∨ ao own b) r v → Q v H'
  | .ex x a' => ∀ G' own' H' cls d, Tr a (vs.map some) G own H a' (vs.map some) G' own' H' → SR c (vs.map some) G' own' a' (vs.map some) H' → ExR c G' H' x cls d → E cls d H'
  | .bad => False
def spD (c : Cn) (n : Nat) (F : Ro → Res R) : Sp := fun vs H Q E => ∃ G own a, SR c (vs.map some) G own a (vs.map some) H ∧ vs.length = n ∧ a.all argOk = true ∧ FPo c vs G own a H Q E (F a)
end
end DL

/-! DLd: defs and their calls. -/
namespace DL
open PySem PySem.Spec PyProof.Rows L2

theorem keepIo_get : ∀ {a ρ a' : Ro}, keepIo a ρ = some a' → a'.length = a.length ∧ ∀ (i : Nat) s', a'[i]? = some s' → (a[i]? = some s' ∧ s'.isIo = false) ∨ ∃ o s, s' = .ow true o ∧ ρ[i]? = some (.ow true o) ∧ a[i]? = some s ∧ s.isIo = true
  | [], _, _, h => by cases h; exact ⟨rfl, fun i s' h => by simp at h⟩
  | s :: a, [], a', h => by
    unfold keepIo at h
    cases q : s.isIo with
    | true => rw [q] at h; cases h
    | false =>
      rw [q] at h
      cases e : keepIo a [] with
      | none => rw [e] at h; cases h
      | some b =>
        rw [e] at h
        cases h
        obtain ⟨l, k⟩ := keepIo_get e
        refine ⟨by rw [List.length_cons, List.length_cons, l], fun i s' h => ?_⟩
        cases i with
        | zero =>
          cases h
          exact .inl ⟨rfl, q⟩
        | succ i =>
          rcases k i s' h with ⟨z, w⟩ | ⟨o, t, e1, e2, e3, e4⟩
          · exact .inl ⟨z, w⟩
          · cases e2
  | s :: a, t :: r, a', h => by
    unfold keepIo at h
    have go : ∀ {u : Sl} {b : Ro}, keepIo a r = some b → a' = u :: b → ((u = s ∧ s.isIo = false) ∨ ∃ o, u = .ow true o ∧ t = .ow true o ∧ s.isIo = true) → a'.length = (s :: a).length ∧ ∀ (i : Nat) s', a'[i]? = some s' → ((s :: a)[i]? = some s' ∧ s'.isIo = false) ∨ ∃ o w, s' = .ow true o ∧ (t :: r)[i]? = some (.ow true o) ∧ (s :: a)[i]? = some w ∧ w.isIo = true := by
      intro u b e hu hc
      subst hu
      obtain ⟨l, k⟩ := keepIo_get e
      refine ⟨by rw [List.length_cons, List.length_cons, l], fun i s' h => ?_⟩
      cases i with
      | zero =>
        cases h
        rcases hc with ⟨e, q⟩ | ⟨o, e1, e2, e3⟩
        · subst e
          exact .inl ⟨rfl, q⟩
        · subst e2
          exact .inr ⟨o, s, e1, rfl, rfl, e3⟩
      | succ i => exact k i s' h
    cases q : s.isIo with
    | true =>
      rw [q] at h
      cases t with
      | no => cases h
      | fz d => cases h
      | ln k o => cases h
      | ow k o =>
        cases k with
        | false => cases h
        | true =>
          cases e : keepIo a r with
          | none => rw [e] at h; cases h
          | some b =>
            rw [e] at h
            cases h
            exact go e rfl (.inr ⟨o, rfl, rfl, q⟩)
    | false =>
      rw [q] at h
      cases e : keepIo a r with
      | none => rw [e] at h; cases h
      | some b =>
        rw [e] at h
        cases h
        exact go e rfl (.inl ⟨rfl, q⟩)

section
variable {c : Cn} {σ0 : St} {G G' H H' : Hp} {own own' : Own} {a a' ρ ρ' : Ro} {vs : List V} {N ps : List Str}
theorem start_get {i : Nat} (h : i < vs.length) : (L2.start N vs)[i]? = (vs.map some)[i]? := by
  unfold L2.start
  rw [List.getElem?_append_left (by rw [List.length_map]; exact h)]
theorem SR.enter {n : Nat} (S : SR c (vs.map some) G own a (vs.map some) H) (hn : N.length - vs.length = n) : SR c (L2.start N vs) G own (a ++ List.replicate n .no) (L2.start N vs) H where
  same := S.same
  out := S.out
  there := S.there
  dis := S.dis
  len := by
    have := S.len
    unfold L2.start
    rw [List.length_append, List.length_append, List.length_replicate, List.length_replicate, this, hn]
  slot := fun i s h => by
    have l := S.len
    rw [List.length_map] at l
    by_cases hi : i < a.length
    · rw [List.getElem?_append_left hi] at h
      rw [start_get (by omega)]
      exact S.slot i s h
    · rw [List.getElem?_append_right (by omega), List.getElem?_replicate] at h
      split at h
      · cases h; trivial
      · cases h
  io := fun i s h k => rfl
/-- the caller's view of the end -/
theorem SR.leave {n : Nat} {W : WX} (S : SR c (vs.map some) G own a (vs.map some) H) (ok : a.all argOk = true) (hk : keepIo a ρ' = some a') {σ' : St}
    (t : Tr (a ++ List.replicate n .no) (L2.start N vs) G own H ρ' σ' G' own' H') (S' : SR c (L2.start N vs) G' own' ρ' σ' H') :
    let own'' : Own := fun i b => own' i b ∧ ∃ o, a'[i]? = some (.ow true o)
    Tr a (vs.map some) G own H a' (vs.map some) G' own'' H' ∧ SR c (vs.map some) G' own'' a' (vs.map some) H' := by
  intro own''
  obtain ⟨l, k⟩ := keepIo_get hk
  have la := S.len
  rw [List.length_map] at la
  refine ⟨⟨t.ext, t.keep, t.gnew, fun b ⟨i, h, _⟩ => t.onew b ⟨i, h⟩, fun j q o h => ?_⟩, ⟨S'.same, fun i b h => S'.out i b h.1, fun i b h => S'.there i b h.1, fun i j b h1 h2 => S'.dis i j b h1.1 h2.1, by rw [l]; exact S.len, fun i s h => ?_, fun i s h q => rfl⟩⟩
  · have := List.all_eq_true.mp ok _ (List.mem_of_getElem? h)
    cases this
  · rcases k i s h with ⟨z, w⟩ | ⟨o, u, e1, e2, e3, e4⟩
    · have q := List.all_eq_true.mp ok _ (List.mem_of_getElem? z)
      cases s with
      | no => cases q
      | ln x y => cases q
      | ow x y =>
        have q : x = true := q
        have w : x = false := w
        rw [q] at w; cases w
      | fz d =>
        obtain ⟨v, hv, r⟩ := S.slot i _ z
        exact ⟨v, hv, r.mono t.ext⟩
    · subst e1
      obtain ⟨v, hv, r⟩ := S'.slot i _ e2
      have e := S'.io i _ e2 rfl
      have hi : i < vs.length := by
        have := lt_of_get e3
        omega
      rw [hv, start_get hi] at e
      exact ⟨v, e.symm, r.at (Same.refl _) (fun _ _ _ z => z) fun b p => ⟨p, o, h⟩⟩
end

section
variable {P : Program} {w : World} {K : PySem.W.Frag} {mg : Str → Option Value} {base : Heap}
/-- THE RULE for a def -/
theorem fn_D {c : Cn} {x qual : Str} {st : Stmt} {f : Addr} {fd : FuncData} {N ps : List Str} {k n : Nat} {s : S} (F : Fun K x qual st f fd) (Sc : FnScope N ps (defScope st)) (hn : N.length - ps.length = n)
    (hbody : ∀ (cdv : Value) (A : Around) (outer : List Env) (sh : Shared) (H : Hp) (E : XK) (σ0 : St) (W : WX), Room k (cxOf (L2.CX P w) P w K mg base N qual (defScope st) f cdv A outer sh H E).A →
      PassesOwn (model P w) (cxOf (L2.CX P w) P w K mg base N qual (defScope st) f cdv A outer sh H E).A (cxOf (L2.CX P w) P w K mg base N qual (defScope st) f cdv A outer sh H E).env (cxOf (L2.CX P w) P w K mg base N qual (defScope st) f cdv A outer sh H E).xe →
      Takes (cxOf (L2.CX P w) P w K mg base N qual (defScope st) f cdv A outer sh H E) W → PSs (cxOf (L2.CX P w) P w K mg base N qual (defScope st) f cdv A outer sh H E) (defBody st) (tS c σ0 W s)) :
    FnOk P w K mg base (L2.CX P w) (k + 1) f fd ps (spD c ps.length (runF n s)) := by
  refine F.okX Sc (fun vs H Q E h => ?_) (fun cdv A outer sh H vs Q E hr h => ?_)
  · obtain ⟨_, _, _, _, l, _⟩ := h
    exact l
  · obtain ⟨G, own, a, S, l, ok, h⟩ := h
    have tk : Takes (cxOf (L2.CX P w) P w K mg base N qual (defScope st) f cdv A outer sh H E) (fun cls d _ H' => E cls d H') := takes_of rfl rfl rfl rfl
    refine ⟨tS c (L2.start N vs) (fun cls d _ H' => E cls d H') s, hbody cdv A outer sh H E _ _ hr (passes_of rfl) tk, G, own, a ++ List.replicate n .no, S.enter (by rw [l]; exact hn), ?_⟩
    unfold runF at h
    cases e : s (a ++ List.replicate n .no) with
    | bad => rw [e] at h; exact h
    | brk ρ => rw [e] at h; exact h.elim
    | cnt ρ => rw [e] at h; exact h.elim
    | nx ρ =>
      rw [e] at h
      dsimp only at h
      cases q : keepIo a ρ with
      | none => rw [q] at h; exact h.elim
      | some a' =>
        rw [q] at h
        intro σ' G' own' H' t S'
        obtain ⟨t2, S2⟩ := SR.leave (W := fun _ _ _ _ => False) S ok q t S'
        exact h G' _ H' .non t2 S2 Rep.non
    | ret r ρ =>
      rw [e] at h
      cases r with
      | sl j => exact h.elim
      | val d =>
        dsimp only at h
        cases q : keepIo a ρ with
        | none => rw [q] at h; exact h.elim
        | some a' =>
          rw [q] at h
          intro σ' G' own' H' v t S' R'
          obtain ⟨t2, S2⟩ := SR.leave (W := fun _ _ _ _ => False) S ok q t S'
          exact h G' _ H' v t2 S2 R'
      | nw o =>
        dsimp only at h
        cases q : keepIo a ρ with
        | none => rw [q] at h; exact h.elim
        | some a' =>
          rw [q] at h
          intro σ' G' own' H' v t S' R'
          obtain ⟨t2, S2⟩ := SR.leave (W := fun _ _ _ _ => False) S ok q t S'
          obtain ⟨Pp, y, z⟩ := R'
          exact h G' _ H' v t2 S2 ⟨Pp, y, fun b p => ⟨(z b p).1, fun ⟨i, m, _⟩ => (z b p).2.1 ⟨i, m⟩, (z b p).2.2⟩⟩
    | ex x ρ =>
      rw [e] at h
      dsimp only at h
      cases q : keepIo a ρ with
      | none => rw [q] at h; exact h.elim
      | some a' =>
        rw [q] at h
        intro σ' G' own' H' cls d t S' R'
        obtain ⟨t2, S2⟩ := SR.leave (W := fun _ _ _ _ => False) S ok q t S'
        exact h G' _ H' cls d t2 S2 R'
end
end DL

/-! DLe: calls. -/
namespace DL
open PySem PySem.Spec PyProof.Rows L2

/-- the callee's slots -/
def argSl (ρ : Ro) : R → Option Sl
  | .val d => some (.fz d)
  | .sl i => match ρ[i]? with
    | some (.fz d) => some (.fz d)
    | some (.ow _ o) => some (.ow true o)
    | _ => none
  | .nw _ => none
def argSls (ρ : Ro) : List R → Option Ro
  | [] => some []
  | r :: rs => match argSl ρ r, argSls ρ rs with
    | some s, some a => some (s :: a)
    | _, _ => none
def R.is (i : Nat) : R → Bool
  | .sl j => j == i
  | _ => false
/-- no slot's own object is handed over twice -/
def apartR (ρ : Ro) : List R → Bool
  | [] => true
  | .sl i :: rs => (match ρ[i]? with
    | some (.ow _ _) => !rs.any (R.is i)
    | _ => true) && apartR ρ rs
  | _ :: rs => apartR ρ rs
def findA (i : Nat) : List R → Ro → Option Sl
  | .sl j :: rs, s :: a => if j = i then some s else findA i rs a
  | _ :: rs, _ :: a => findA i rs a
  | _, _ => none
/-- the caller's slots behind the call -/
def backR (rs : List R) (a' : Ro) : Nat → Ro → Option Ro
  | _, [] => some []
  | i, .ow k o :: l => match findA i rs a' with
    | none => (backR rs a' (i + 1) l).map (.ow k o :: ·)
    | some (.ow true o') => (backR rs a' (i + 1) l).map (.ow k o' :: ·)
    | _ => none
  | i, s :: l => (backR rs a' (i + 1) l).map (s :: ·)
def callR (F : Ro → Res R) (rs : List R) : M R := fun ρ => match argSls ρ rs with
  | none => .bad
  | some a => if apartR ρ rs = true then (match F a with
    | .ok (.sl _) _ => .bad
    | .ok r a' => match backR rs a' 0 ρ with
      | some ρ' => .ok r ρ'
      | none => .bad
    | .ex x a' => match backR rs a' 0 ρ with
      | some ρ' => .ex x ρ'
      | none => .bad
    | .bad => .bad) else .bad
def eCall (F : Ro → Res R) (f : M (List R)) : M R := f.bind (callR F)

theorem argSls_get {ρ : Ro} : ∀ {rs : List R} {a : Ro}, argSls ρ rs = some a → a.length = rs.length ∧ ∀ (j : Nat) s, a[j]? = some s → ∃ r, rs[j]? = some r ∧ argSl ρ r = some s
  | [], _, h => by cases h; exact ⟨rfl, fun j s h => by simp at h⟩
  | r :: rs, a, h => by
    unfold argSls at h
    cases e1 : argSl ρ r with
    | none => rw [e1] at h; cases h
    | some s =>
      cases e2 : argSls ρ rs with
      | none => rw [e1, e2] at h; cases h
      | some b =>
        rw [e1, e2] at h
        cases h
        obtain ⟨l, k⟩ := argSls_get e2
        refine ⟨by rw [List.length_cons, List.length_cons, l], fun j s' h => ?_⟩
        cases j with
        | zero => cases h; exact ⟨r, rfl, e1⟩
        | succ j => exact k j s' h
theorem argSl_ok {ρ : Ro} {r : R} {s : Sl} (h : argSl ρ r = some s) : argOk s = true := by
  cases r with
  | nw o => cases h
  | val d => cases h; rfl
  | sl i =>
    unfold argSl at h
    dsimp only at h
    cases e : ρ[i]? with
    | none => rw [e] at h; cases h
    | some t =>
      rw [e] at h
      cases t with
      | no => cases h
      | fz d => cases h; rfl
      | ow k o => cases h; rfl
      | ln k o => cases h
theorem argSl_ow {ρ : Ro} {r : R} {k : Bool} {o : OV} (h : argSl ρ r = some (.ow k o)) : ∃ i q, r = .sl i ∧ ρ[i]? = some (.ow q o) := by
  cases r with
  | nw o => cases h
  | val d => cases h
  | sl i =>
    unfold argSl at h
    dsimp only at h
    cases e : ρ[i]? with
    | none => rw [e] at h; cases h
    | some t =>
      rw [e] at h
      cases t with
      | no => cases h
      | fz d => cases h
      | ow q o' => cases h; exact ⟨i, q, rfl, e⟩
      | ln k o => cases h
theorem apart_inj {ρ : Ro} : ∀ {rs : List R}, apartR ρ rs = true → ∀ {j j' i : Nat} {k : Bool} {o : OV}, ρ[i]? = some (.ow k o) → rs[j]? = some (.sl i) → rs[j']? = some (.sl i) → j = j'
  | [], _, j, _, _, _, _, _, h, _ => by simp at h
  | r :: rs, ap, j, j', i, k, o, hi, h1, h2 => by
    have tail : apartR ρ rs = true := by
      cases r with
      | val d => exact ap
      | nw o => exact ap
      | sl i => exact (Bool.and_eq_true_iff.mp ap).2
    have nohead : ∀ m : Nat, r = .sl i → rs[m]? ≠ some (.sl i) := fun m e z => by
      subst e
      have q := (Bool.and_eq_true_iff.mp ap).1
      rw [hi] at q
      have q : (!rs.any (R.is i)) = true := q
      have w : rs.any (R.is i) = true := List.any_eq_true.mpr ⟨_, List.mem_of_getElem? z, by show (i == i) = true; simp⟩
      rw [w] at q; cases q
    cases j with
    | zero =>
      cases j' with
      | zero => rfl
      | succ m => exact absurd h2 (nohead m (Option.some.inj h1))
    | succ n =>
      cases j' with
      | zero => exact absurd h1 (nohead n (Option.some.inj h2))
      | succ m => exact congrArg Nat.succ (apart_inj tail hi h1 h2)
theorem findA_some {i : Nat} {s : Sl} : ∀ {rs : List R} {a : Ro}, findA i rs a = some s → ∃ j : Nat, rs[j]? = some (R.sl i) ∧ a[j]? = some s
  | [], _, h => by cases h
  | r :: rs, [], h => by cases r <;> cases h
  | r :: rs, t :: a, h => by
    have go : findA i rs a = some s → ∃ j : Nat, (r :: rs)[j]? = some (R.sl i) ∧ (t :: a)[j]? = some s := fun q => by
      obtain ⟨j, h1, h2⟩ := findA_some q
      exact ⟨j + 1, h1, h2⟩
    cases r with
    | val d => exact go h
    | nw o => exact go h
    | sl k =>
      unfold findA at h
      by_cases e : k = i
      · rw [if_pos e] at h
        cases h
        subst e
        exact ⟨0, rfl, rfl⟩
      · rw [if_neg e] at h
        exact go h
theorem findA_none {i : Nat} : ∀ {rs : List R} {a : Ro}, findA i rs a = none → rs.length = a.length → ∀ j : Nat, rs[j]? ≠ some (R.sl i)
  | [], _, _, _, j => by simp
  | r :: rs, [], _, l, _ => by simp at l
  | r :: rs, t :: a, h, l, j => by
    have l' : rs.length = a.length := by simpa using l
    have go : findA i rs a = none → r ≠ .sl i → (r :: rs)[j]? ≠ some (.sl i) := fun q ne z => by
      cases j with
      | zero => exact ne (Option.some.inj z)
      | succ j => exact findA_none q l' j z
    cases r with
    | val d => exact go h (fun q => nomatch q)
    | nw o => exact go h (fun q => nomatch q)
    | sl k =>
      unfold findA at h
      by_cases e : k = i
      · rw [if_pos e] at h; cases h
      · rw [if_neg e] at h
        exact go h fun q => e (R.sl.inj q)
theorem backR_get {rs : List R} {a' : Ro} : ∀ {n : Nat} {l l' : Ro}, backR rs a' n l = some l' → l'.length = l.length ∧ ∀ (i : Nat) s', l'[i]? = some s' →
    (l[i]? = some s' ∧ ((∀ k o, s' ≠ .ow k o) ∨ findA (n + i) rs a' = none)) ∨ ∃ k o o', l[i]? = some (.ow k o) ∧ findA (n + i) rs a' = some (.ow true o') ∧ s' = .ow k o'
  | _, [], _, h => by cases h; exact ⟨rfl, fun i s' h => by simp at h⟩
  | n, s :: l, l', h => by
    have go : ∀ {u : Sl}, (backR rs a' (n + 1) l).map (u :: ·) = some l' →
        ((u = s ∧ ((∀ k o, u ≠ .ow k o) ∨ findA n rs a' = none)) ∨ ∃ k o o', s = .ow k o ∧ findA n rs a' = some (.ow true o') ∧ u = .ow k o') →
        l'.length = (s :: l).length ∧ ∀ (i : Nat) s', l'[i]? = some s' →
          ((s :: l)[i]? = some s' ∧ ((∀ k o, s' ≠ .ow k o) ∨ findA (n + i) rs a' = none)) ∨ ∃ k o o', (s :: l)[i]? = some (.ow k o) ∧ findA (n + i) rs a' = some (.ow true o') ∧ s' = .ow k o' := by
      intro u hm hu
      cases e : backR rs a' (n + 1) l with
      | none => rw [e] at hm; cases hm
      | some m =>
        rw [e] at hm
        cases hm
        obtain ⟨len, k⟩ := backR_get e
        refine ⟨by rw [List.length_cons, List.length_cons, len], fun i s' hi => ?_⟩
        cases i with
        | zero =>
          cases hi
          rcases hu with ⟨e1, e2⟩ | ⟨k, o, o', e1, e2, e3⟩
          · exact .inl ⟨by rw [e1]; rfl, e2⟩
          · exact .inr ⟨k, o, o', by rw [e1]; rfl, e2, e3⟩
        | succ i =>
          have q : n + 1 + i = n + (i + 1) := by omega
          have := k i s' hi
          rw [q] at this
          exact this
    cases s with
    | no => exact go h (.inl ⟨rfl, .inl fun k o q => nomatch q⟩)
    | fz d => exact go h (.inl ⟨rfl, .inl fun k o q => nomatch q⟩)
    | ln k o => exact go h (.inl ⟨rfl, .inl fun k o q => nomatch q⟩)
    | ow k o =>
      unfold backR at h
      cases e : findA n rs a' with
      | none =>
        rw [e] at h
        exact go h (.inl ⟨rfl, .inr e⟩)
      | some t =>
        rw [e] at h
        cases t with
        | no => cases h
        | fz d => cases h
        | ln x y => cases h
        | ow x y =>
          cases x with
          | false => cases h
          | true => exact go h (.inr ⟨k, o, y, rfl, e, rfl⟩)

section
variable {c : Cn} {σ0 σ : St} {W : WX} {G G' H H' : Hp} {own ownC : Own} {a a' ρ ρ' : Ro} {rs : List R} {vs : List V}
theorem RRs.len : ∀ {rs : List R} {vs : List V}, RRs c G σ rs vs → rs.length = vs.length
  | _, _, .nil => rfl
  | _, _, .val _ r => congrArg Nat.succ r.len
  | _, _, .sl _ r => congrArg Nat.succ r.len
theorem RRs.get : ∀ {rs : List R} {vs : List V} {j : Nat} {r : R}, RRs c G σ rs vs → rs[j]? = some r → ∃ v, vs[j]? = some v ∧ ((∃ d, r = .val d ∧ Rep c G d v) ∨ ∃ i, r = .sl i ∧ σ[i]? = some (some v))
  | _, _, _, _, .nil, h => by simp at h
  | _, _, 0, _, .val q _, h => by cases h; exact ⟨_, rfl, .inl ⟨_, rfl, q⟩⟩
  | _, _, 0, _, .sl q _, h => by cases h; exact ⟨_, rfl, .inr ⟨_, rfl, q⟩⟩
  | _, _, j + 1, _, .val _ k, h => RRs.get (j := j) k h
  | _, _, j + 1, _, .sl _ k, h => RRs.get (j := j) k h
/-- what the callee owns -/
def ownOf (ρ : Ro) (own : Own) (rs : List R) : Own := fun j b => ∃ (i : Nat) (k : Bool) (o : OV), rs[j]? = some (R.sl i) ∧ ρ[i]? = some (Sl.ow k o) ∧ own i b
theorem SR.args (S : SR c σ0 G own ρ σ H) (h : RRs c G σ rs vs) (ha : argSls ρ rs = some a) (ap : apartR ρ rs = true) : SR c (vs.map some) G (ownOf ρ own rs) a (vs.map some) H := by
  obtain ⟨l, k⟩ := argSls_get ha
  refine ⟨S.same, fun j b ⟨i, _, _, _, _, q⟩ => S.out i b q, fun j b ⟨i, _, _, _, _, q⟩ => S.there i b q, fun j j' b ⟨i, _, _, h1, h2, q⟩ ⟨i', _, _, h1', h2', q'⟩ => ?_, by rw [List.length_map, l, h.len], fun j s hs => ?_, fun j s hs _ => rfl⟩
  · have e := S.dis i i' b q q'
    subst e
    exact apart_inj ap h2 h1 h1'
  · obtain ⟨r, hr, hz⟩ := k j s hs
    obtain ⟨v, hv, w⟩ := h.get hr
    have hv' : (vs.map some)[j]? = some (some v) := by rw [List.getElem?_map, hv]; rfl
    rw [hv']
    rcases w with ⟨d, e, q⟩ | ⟨i, e, q⟩
    · subst e
      cases hz
      exact ⟨v, rfl, q⟩
    · subst e
      unfold argSl at hz
      dsimp only at hz
      cases e : ρ[i]? with
      | none => rw [e] at hz; cases hz
      | some t =>
        rw [e] at hz
        have z := S.slot i t e
        rw [q] at z
        cases t with
        | no => cases hz
        | ln x y => cases hz
        | fz d =>
          cases hz
          exact z
        | ow x o =>
          cases hz
          exact z.at (Same.refl _) (fun _ _ _ k => k) fun b p => ⟨i, x, o, hr, e, p⟩
/-- the owners behind the call -/
def ownBack (ρ : Ro) (own : Own) (rs : List R) (ownC : Own) : Own := fun i b => (∃ (j : Nat) (k : Bool) (o : OV), rs[j]? = some (R.sl i) ∧ ρ[i]? = some (Sl.ow k o) ∧ ownC j b) ∨ ((∀ (j : Nat) (k : Bool) (o : OV), rs[j]? = some (R.sl i) → ρ[i]? ≠ some (Sl.ow k o)) ∧ own i b)
theorem SR.back (S : SR c σ0 G own ρ σ H) (h : RRs c G σ rs vs) (ha : argSls ρ rs = some a) (ap : apartR ρ rs = true) (hb : backR rs a' 0 ρ = some ρ')
    (t : Tr a (vs.map some) G (ownOf ρ own rs) H a' (vs.map some) G' ownC H') (S' : SR c (vs.map some) G' ownC a' (vs.map some) H') :
    Tr ρ σ G own H ρ' σ G' (ownBack ρ own rs ownC) H' ∧ SR c σ0 G' (ownBack ρ own rs ownC) ρ' σ H' ∧ ∀ b, (H b = none ∨ ao (ownOf ρ own rs) b) → H b = none ∨ ao own b := by
  obtain ⟨l, k⟩ := argSls_get ha
  obtain ⟨lb, kb⟩ := backR_get hb
  have aoo : ∀ b, ao (ownOf ρ own rs) b → ao own b := fun b ⟨j, i, _, _, _, _, q⟩ => ⟨i, q⟩
  have la' : rs.length = a'.length := by
    have e := S'.len
    rw [List.length_map] at e
    rw [h.len, e]
  -- an own object of a slot that is not handed over
  have free : ∀ i b, (∀ (j : Nat) (k : Bool) (o : OV), rs[j]? = some (R.sl i) → ρ[i]? ≠ some (Sl.ow k o)) → own i b → ¬ ao (ownOf ρ own rs) b := fun i b nj q ⟨j, i', k, o, h1, h2, q'⟩ => by
    have e := S.dis i i' b q q'
    subst e
    exact nj j k o h1 h2
  refine ⟨⟨t.ext, fun b o e n => t.keep b o e fun z => n (aoo b z), fun b o e => (t.gnew b o e).imp id (Or.imp id (aoo b)), fun b ⟨i, z⟩ => ?_, fun j q o e => ?_⟩,
    ⟨S'.same, fun i b z => ?_, fun i b z => ?_, fun i i' b z z' => ?_, by rw [lb]; exact S.len, fun i s hs => ?_, fun i s hs q => ?_⟩, fun b => Or.imp id (aoo b)⟩
  · rcases z with ⟨j, _, _, _, _, q⟩ | ⟨_, q⟩
    · rcases t.onew b ⟨j, q⟩ with w | w
      · exact .inl (aoo b w)
      · exact .inr w
    · exact .inl ⟨i, q⟩
  · have hj := lt_of_get e
    have hj' : j < ρ'.length := by rw [lb]; exact hj
    have hs : ρ'[j]? = some ρ'[j] := List.getElem?_eq_getElem hj'
    refine ⟨?_, rfl⟩
    rcases kb j _ hs with ⟨e1, _⟩ | ⟨x, y, z, e1, _, _⟩
    · rw [hs, ← e1]
      exact e
    · rw [e] at e1; cases e1
  · rcases z with ⟨j, _, _, _, _, q⟩ | ⟨nj, q⟩
    · exact S'.out j b q
    · cases e : G' b with
      | none => rfl
      | some o =>
        rcases t.gnew b o e with w | w | w
        · rw [S.out i b q] at w; cases w
        · obtain ⟨o, u⟩ := S.there i b q
          rw [w] at u; cases u
        · exact absurd w (free i b nj q)
  · rcases z with ⟨j, _, _, _, _, q⟩ | ⟨nj, q⟩
    · exact S'.there j b q
    · obtain ⟨o, u⟩ := S.there i b q
      exact ⟨o, t.keep b o u (free i b nj q)⟩
  · have mix : ∀ {i i' : Nat}, (∃ (j : Nat) (k : Bool) (o : OV), rs[j]? = some (R.sl i) ∧ ρ[i]? = some (Sl.ow k o) ∧ ownC j b) → ((∀ (j : Nat) (k : Bool) (o : OV), rs[j]? = some (R.sl i') → ρ[i']? ≠ some (Sl.ow k o)) ∧ own i' b) → False := fun {i i'} ⟨j, _, _, _, _, q⟩ ⟨nj, q'⟩ => by
      rcases t.onew b ⟨j, q⟩ with w | w
      · exact free i' b nj q' w
      · obtain ⟨o, u⟩ := S.there i' b q'
        rw [w] at u; cases u
    rcases z with z | z
    · rcases z' with z' | z'
      · obtain ⟨j, _, _, h1, _, q⟩ := z
        obtain ⟨j', _, _, h1', _, q'⟩ := z'
        have e := S'.dis j j' b q q'
        subst e
        rw [h1] at h1'
        cases h1'
        rfl
      · exact (mix z z').elim
    · rcases z' with z' | z'
      · exact (mix z' z).elim
      · exact S.dis i i' b z.2 z'.2
  · rcases kb i s hs with ⟨e1, e2⟩ | ⟨x, o, o', e1, e2, e3⟩
    · have z := S.slot i s e1
      cases s with
      | no => trivial
      | fz d =>
        obtain ⟨v, hv, r⟩ := z
        exact ⟨v, hv, r.mono t.ext⟩
      | ln x o =>
        have nj : ∀ (j : Nat) k o, rs[j]? = some (.sl i) → ρ[i]? ≠ some (.ow k o) := fun j k o _ q => by
          rw [e1] at q; cases q
        exact z.at t.ext (fun b u p q => t.keep b u q (free i b nj p)) fun b p => Or.inr ⟨nj, p⟩
      | ow x o =>
        have nf : findA (0 + i) rs a' = none := by
          rcases e2 with e2 | e2
          · exact absurd rfl (e2 x o)
          · exact e2
        rw [Nat.zero_add] at nf
        have nj : ∀ (j : Nat) k o, rs[j]? = some (.sl i) → ρ[i]? ≠ some (.ow k o) := fun j k o q => absurd q (findA_none nf la' j)
        exact z.at t.ext (fun b u p q => t.keep b u q (free i b nj p)) fun b p => Or.inr ⟨nj, p⟩
    · subst e3
      rw [Nat.zero_add] at e2
      obtain ⟨j, h1, h2⟩ := findA_some e2
      have z := S'.slot j _ h2
      obtain ⟨v, hv, w⟩ := h.get h1
      have hv' : (vs.map some)[j]? = some (some v) := by rw [List.getElem?_map, hv]; rfl
      rcases w with ⟨d, e, _⟩ | ⟨i', e, q⟩
      · cases e
      · cases e
        rw [hv'] at z
        rw [q]
        exact z.at (Same.refl _) (fun _ _ _ k => k) fun b p => Or.inl ⟨j, x, o, h1, e1, p⟩
  · rcases kb i s hs with ⟨e1, _⟩ | ⟨x, o, o', e1, _, e3⟩
    · exact S.io i s e1 q
    · subst e3
      exact S.io i _ e1 q
/-- a call's promise, from the caller's state -/
theorem SpD.of_call {F : Ro → Res R} {n : Nat} {Q : VK} {ρ0 : Ro} {G0 H0 : Hp} {own0 : Own} (S : SR c σ0 G own ρ σ H) (t0 : Tr ρ0 σ G0 own0 H0 ρ σ G own H) (hr : RRs c G σ rs vs) (hn : rs.length = n)
    (h : XP (relR c) c σ0 W σ ρ0 G0 own0 H0 Q (callR F rs ρ)) : spD c n F vs H Q (WE W σ) := by
  unfold callR at h
  cases ea : argSls ρ rs with
  | none => rw [ea] at h; exact h.elim
  | some a =>
    rw [ea] at h
    dsimp only at h
    by_cases ap : apartR ρ rs = true
    · rw [if_pos ap] at h
      obtain ⟨l, k⟩ := argSls_get ea
      refine ⟨G, ownOf ρ own rs, a, S.args hr ea ap, by rw [← hr.len]; exact hn, List.all_eq_true.mpr fun s hs => ?_, ?_⟩
      · obtain ⟨j, hj⟩ := List.mem_iff_getElem?.mp hs
        obtain ⟨r, _, e⟩ := k j s hj
        exact argSl_ok e
      · cases e : F a with
        | bad => rw [e] at h; exact h
        | ex x a' =>
          rw [e] at h
          dsimp only at h
          cases eb : backR rs a' 0 ρ with
          | none => rw [eb] at h; exact h.elim
          | some ρ' =>
            rw [eb] at h
            intro G' ownC H' cls d t S' R'
            obtain ⟨t1, S1, _⟩ := SR.back S hr ea ap eb t S'
            exact h G' _ H' cls d (t0.trans t1) S1 R'
        | ok r a' =>
          rw [e] at h
          have go : (∀ i, r ≠ .sl i) → XP (relR c) c σ0 W σ ρ0 G0 own0 H0 Q (match backR rs a' 0 ρ with
              | some ρ' => .ok r ρ'
              | none => .bad) → FPo c vs G (ownOf ρ own rs) a H Q (WE W σ) (.ok r a') := fun ns h => by
            cases eb : backR rs a' 0 ρ with
            | none => rw [eb] at h; exact h.elim
            | some ρ' =>
              rw [eb] at h
              intro G' ownC H' v t S' R'
              obtain ⟨t1, S1, kk⟩ := SR.back S hr ea ap eb t S'
              refine h G' _ H' v (t0.trans t1) S1 ?_
              cases r with
              | sl i => exact absurd rfl (ns i)
              | val d => exact R'
              | nw o =>
                obtain ⟨P, x, y⟩ := R'
                refine ⟨P, x, fun b p => ⟨(y b p).1, fun ⟨i, z⟩ => ?_, (y b p).2.2.1, t0.back (kk b (y b p).2.2.2)⟩⟩
                rcases z with ⟨j, _, _, _, _, q⟩ | ⟨nj, q⟩
                · exact (y b p).2.1 ⟨j, q⟩
                · rcases (y b p).2.2.2 with w | ⟨j', i', k', o', w1, w2, w3⟩
                  · obtain ⟨u, hu⟩ := S.there i b q
                    rw [w] at hu; cases hu
                  · have e := S.dis i i' b q w3
                    subst e
                    exact nj j' k' o' w1 w2
          cases r with
          | sl i => exact h.elim
          | val d => exact go (fun i q => nomatch q) h
          | nw o => exact go (fun i q => nomatch q) h
    · rw [if_neg ap] at h
      exact h.elim
end
section
variable {X : Cx} {c : Cn} {σ0 : St} {W : WX} {k : Nat} {f : Addr} {fd : FuncData} {ps : List Str} {x : Str} {p pos : Pos} {e : Expr} {es : List Expr} {fa : M (List R)} {F : Ro → Res R}
theorem eCons_len {f : M R} {g : M (List R)} {n : Nat} (hg : ∀ ρ rs ρ', g ρ = .ok rs ρ' → rs.length = n) : ∀ ρ rs ρ', eCons f g ρ = .ok rs ρ' → rs.length = n + 1 := fun ρ rs ρ' h => by
  unfold eCons M.bind at h
  cases e : f ρ with
  | bad => rw [e] at h; cases h
  | ex x ρ1 => rw [e] at h; cases h
  | ok r ρ1 =>
    rw [e] at h
    dsimp only at h
    cases e2 : g ρ1 with
    | bad => rw [e2] at h; cases h
    | ex x ρ1 => rw [e2] at h; cases h
    | ok rs1 ρ2 =>
      rw [e2] at h
      cases h
      rw [List.length_cons, hg _ _ _ e2]
/-- f(e, ..) -/
theorem de_call (Fn : FnOk X.prog X.w X.K X.mg X.base (L2.CX X.prog X.w) k f fd ps (spD c ps.length F)) (hr : Room k X.A) (hg : Gl X x) (hm : X.mg x = some (.ref f)) (hk : PySem.W.keepIn X.K (.ref f) = true) (hb : Binds X.K fd ps []) (tk : Takes X W)
    (ha : PA X (e :: es) (tA c σ0 W fa)) (hl : (e :: es).length = ps.length) (hdb : (x == ("__debug__" : Str)) = false := by decide) (he : starEach (e :: es) X.env = (false, eval e X.env) :: starEach es X.env := by rfl) (hpl : (backTo pos (starEach es X.env)).any (·.1) = false := by rfl)
    (hfl : ∀ ρ rs ρ', fa ρ = .ok rs ρ' → rs.length = ps.length) :
    PE X (.Call (.Name x p) (e :: es) [] pos) (tD c σ0 W (eCall F fa)) :=
  PE.imp (pe_callS (E := WE W) Fn hr hg hm hk hb (passAt tk) ha hdb he hpl) fun σ H Q q => by
    obtain ⟨G, own, ρ, S, q⟩ := q
    refine ⟨G, own, ρ, S, ?_⟩
    unfold eCall M.bind at q
    cases e1 : fa ρ with
    | bad => rw [e1] at q; exact q
    | ex x ρ1 => rw [e1] at q; exact q
    | ok rs ρ1 =>
      rw [e1] at q
      exact fun G1 own1 H1 vs t S1 R1 => SpD.of_call S1 t R1 (hfl _ _ _ e1) q
/-- f() -/
theorem de_call0 (Fn : FnOk X.prog X.w X.K X.mg X.base (L2.CX X.prog X.w) k f fd ps (spD c ps.length F)) (hr : Room k X.A) (hg : Gl X x) (hm : X.mg x = some (.ref f)) (hk : PySem.W.keepIn X.K (.ref f) = true) (hb : Binds X.K fd ps []) (tk : Takes X W)
    (hl : 0 = ps.length) (hdb : (x == ("__debug__" : Str)) = false := by decide) : PE X (.Call (.Name x p) [] [] pos) (tD c σ0 W (eCall F eNil)) := by
  refine ⟨fun pins s σ H Q I h => ?_⟩
  refine wpAny_Call_Name_kw (ld_glob I hg hm ?_ hdb)
  refine PySem.W.callWith_K0 I.kIn hk (run_fnS (us := []) (vs := []) (E := WE W) Fn hr hb (passAt tk σ) I .nil ?_)
  obtain ⟨G, own, ρ, S, q⟩ := h
  exact SpD.of_call S Tr.refl .nil hl q
end
end DL

/-! DLf: targets, loops. -/
namespace DL
open PySem PySem.Spec PyProof.Rows L2

abbrev Tgt := D → Ro → Option Ro
/-- alike but at these slots -/
def Off (ts : List Nat) (σ σ' : St) : Prop := σ'.length = σ.length ∧ ∀ i, i ∉ ts → σ'[i]? = σ[i]?
def tG (c : Cn) (σ0 : St) (ts : List Nat) (tgt : Tgt) : TG := fun v σ H Q => ∃ G own ρ d, SR c σ0 G own ρ σ H ∧ Rep c G d v ∧ ∃ ρ', tgt d ρ = some ρ' ∧ ∀ σ' own', Off ts σ σ' → Tr ρ σ G own H ρ' σ' G own' H → SR c σ0 G own' ρ' σ' H → Q σ' H
def tGs (c : Cn) (σ0 : St) (ts : List Nat) (tgt : List D → Ro → Option Ro) : TGs := fun vs σ H Q => ∃ G own ρ ds, SR c σ0 G own ρ σ H ∧ Reps c G ds vs ∧ ∃ ρ', tgt ds ρ = some ρ' ∧ ∀ σ' own', Off ts σ σ' → Tr ρ σ G own H ρ' σ' G own' H → SR c σ0 G own' ρ' σ' H → Q σ' H
def tgName (i : Nat) : Tgt := fun d ρ => if okSet ρ i = true then some (ρ.set i (.fz d)) else none
def tgNil : List D → Ro → Option Ro := fun ds ρ => match ds with
  | [] => some ρ
  | _ => none
def tgCons (t : Tgt) (u : List D → Ro → Option Ro) : List D → Ro → Option Ro := fun ds ρ => match ds with
  | d :: ds => (t d ρ).bind (u ds)
  | [] => none
def tgTup (n : Nat) (u : List D → Ro → Option Ro) : Tgt := fun d ρ => match d with
  | .tup ds => if ds.length = n then u ds ρ else none
  | _ => none

section
variable {X : Cx} {c : Cn} {σ0 : St} {W : WX} {σ σ' : St} {ρ ρ1 ρ2 : Ro} {G G1 H H1 H2 : Hp} {own own1 : Own} {E : Ends}
theorem dg_of {tg : Expr} {i : Nat} (h : PG X tg (gName i)) : PG X tg (tG c σ0 [i] (tgName i)) := ⟨fun pins s σ H v u Q I r q => h.run pins s σ H v u Q I r (by
  obtain ⟨G, own, ρ, d, S, rd, ρ', e, k⟩ := q
  unfold tgName at e
  by_cases ok : okSet ρ i = true
  · rw [if_pos ok] at e
    cases e
    exact k _ _ ⟨List.length_set, fun j hj => List.getElem?_set_ne fun z => hj (by rw [z]; exact List.mem_cons_self)⟩ (Tr.refl.put (P := fun _ => False) ok fun b p => p.elim) (S.put (P := fun _ => False) ok ⟨v, rfl, rd⟩ rfl fun b p => p.elim)
  · rw [if_neg ok] at e
    cases e)⟩
theorem dg_nil : PGs X [] (tGs c σ0 [] tgNil) := ⟨fun pins s σ H vs us Q I r q => pgs_nil.run pins s σ H vs us Q I r (by
  obtain ⟨G, own, ρ, ds, S, rd, ρ', e, k⟩ := q
  cases rd with
  | nil =>
    cases e
    exact ⟨rfl, k _ _ ⟨rfl, fun _ _ => rfl⟩ Tr.refl S⟩
  | cons h r => cases e)⟩
theorem dg_cons {e : Expr} {es : List Expr} {ts us : List Nat} {t : Tgt} {u : List D → Ro → Option Ro} (h1 : PG X e (tG c σ0 ts t)) (h2 : PGs X es (tGs c σ0 us u))
    (hs : (assignEach (e :: es) X.env).map (·.2) = assign e X.env :: (assignEach es X.env).map (·.2) := by rfl) : PGs X (e :: es) (tGs c σ0 (ts ++ us) (tgCons t u)) := ⟨fun pins s σ H vs us Q I r q => (pgs_cons h1 h2 hs).run pins s σ H vs us Q I r (by
  obtain ⟨G, own, ρ, ds, S, rd, ρ', e, k⟩ := q
  cases rd with
  | nil => cases e
  | cons h rr =>
    rename_i d v ds vs
    have e : (t d ρ).bind (u ds) = some ρ' := e
    cases q1 : t d ρ with
    | none => rw [q1] at e; cases e
    | some ρ1 =>
      rw [q1] at e
      refine ⟨v, vs, rfl, G, own, ρ, d, S, h, ρ1, q1, fun σ1 own1 o1 t1 S1 => ⟨G, own1, ρ1, ds, S1, rr, ρ', e, fun σ2 own2 o2 t2 S2 => k σ2 own2 ⟨o2.1.trans o1.1, fun i hi => (o2.2 i fun z => hi (List.mem_append_right _ z)).trans (o1.2 i fun z => hi (List.mem_append_left _ z))⟩ (t1.trans t2) S2⟩⟩)⟩
theorem dg_tup {es : List Expr} {ts : List Nat} {k : Nat} {n : Nat} {pos : Pos} {u : List D → Ro → Option Ro} (hK : c.K = X.K) (hc : X.calm = true) (h : PGs X es (tGs c σ0 ts u))
    (hn : (assignEach es X.env).length = n := by rfl) (hst : (assignEach es X.env).findIdx? (·.1) = none := by rfl) : PG X (.Tuple es k pos) (tG c σ0 ts (tgTup n u)) := ⟨fun pins s σ H v u' Q I r q => (pg_tup hc h hn hst).run pins s σ H v u' Q I r (by
  obtain ⟨G, own, ρ, d, S, rd, ρ', e, k⟩ := q
  cases rd with
  | tup hs rr =>
    rename_i a vs ds
    have e : (if ds.length = n then u ds ρ else none) = some ρ' := e
    by_cases hl : ds.length = n
    · rw [if_pos hl] at e
      exact ⟨a, vs, rfl, by rw [← hK]; exact sqT_same S.same hs, by rw [← rr.length]; exact hl, G, own, ρ, ds, S, rr, ρ', e, k⟩
    · rw [if_neg hl] at e
      cases e
  | _ => cases e)⟩

/-! ### iterators -/
structure Iter where
  src : List (Nat × Bool)
  items : Ro → Option (List D)
def isLn (ρ : Ro) (j : Nat) : Bool := match ρ[j]? with
  | some (.ln _ _) => true
  | _ => false
def GoOk (c : Cn) (J : It) (ds : List D) (G H : Hp) : Prop := J.stop ds.length H ∧ ∀ (i : Nat) d, ds[i]? = some d → J.go i H ∧ ∀ x H', J.yld i H x H' → ∃ G', New G H G' H' ∧ Rep c G' d x
structure ItOk (c : Cn) (it : Iter) (J : It) (G : Hp) (σ : St) : Prop where
  loc : ∀ ρ ρ' : Ro, (∀ p ∈ it.src, ρ[p.1]? = ρ'[p.1]?) → it.items ρ = it.items ρ'
  go : ∀ σ0 G' own' ρ' σ' H' ds, Same G G' → SR c σ0 G' own' ρ' σ' H' → (∀ p ∈ it.src, σ'[p.1]? = σ[p.1]? ∧ isLn ρ' p.1 = true) → it.items ρ' = some ds → GoOk c J ds G' H'
abbrev relI (c : Cn) : Rl Iter It := fun G _ σ _ _ it J => ItOk c it J G σ
theorem relI_mono (c : Cn) : RlMono (relI c) := fun _ _ _ _ _ _ _ _ _ r => r
abbrev tI (c : Cn) (σ0 : St) (W : WX) (f : M Iter) : TI := tX (relI c) c σ0 W f
def undoR : List (Nat × Bool) → Ro → Ro
  | [], ρ => ρ
  | (j, true) :: l, ρ => match ρ[j]? with
    | some (.ln k o) => undoR l (ρ.set j (.ow k o))
    | _ => undoR l ρ
  | (_, false) :: l, ρ => undoR l ρ
def Out.map (f : Ro → Ro) : Out → Out
  | .nx ρ => .nx (f ρ)
  | .ret r ρ => .ret r (f ρ)
  | .brk ρ => .brk (f ρ)
  | .cnt ρ => .cnt (f ρ)
  | .ex x ρ => .ex x (f ρ)
  | .bad => .bad
def loopF (tgt : Tgt) (body : S) : List D → S
  | [], ρ => .nx ρ
  | d :: ds, ρ => match tgt d ρ with
    | none => .bad
    | some ρ1 => match body ρ1 with
      | .nx ρ2 => loopF tgt body ds ρ2
      | .cnt ρ2 => loopF tgt body ds ρ2
      | .brk ρ2 => .nx ρ2
      | o => o
def forR (tgt : Tgt) (body : S) (it : Iter) : S := fun ρ => if it.src.all (fun p => isLn ρ p.1) = true then (match it.items ρ with
  | none => .bad
  | some ds => (loopF tgt body ds ρ).map (undoR it.src)) else .bad
def sFor (f : M Iter) (tgt : Tgt) (body : S) : S := sBind f (forR tgt body)

theorem isLn_get {j : Nat} (h : isLn ρ j = true) : ∃ k o, ρ[j]? = some (.ln k o) := by
  unfold isLn at h
  cases e : ρ[j]? with
  | none => rw [e] at h; cases h
  | some s =>
    rw [e] at h
    cases s with
    | ln k o => exact ⟨k, o, rfl⟩
    | _ => cases h
/-- a lent slot is given back -/
theorem SR.undo {j : Nat} {k : Bool} {o : OV} (S : SR c σ0 G own ρ σ H) (h : ρ[j]? = some (.ln k o)) : SR c σ0 G own (ρ.set j (.ow k o)) σ H where
  same := S.same
  out := S.out
  there := S.there
  dis := S.dis
  len := by rw [List.length_set]; exact S.len
  slot := fun i s z => by
    by_cases e : j = i
    · subst e
      rw [List.getElem?_set_self (lt_of_get h)] at z
      cases z
      have w := S.slot j _ h
      exact w
    · rw [List.getElem?_set_ne e] at z
      exact S.slot i s z
  io := fun i s z q => by
    by_cases e : j = i
    · subst e
      rw [List.getElem?_set_self (lt_of_get h)] at z
      cases z
      exact S.io j _ h q
    · rw [List.getElem?_set_ne e] at z
      exact S.io i s z q
theorem SR.lend {j : Nat} {k : Bool} {o : OV} (S : SR c σ0 G own ρ σ H) (h : ρ[j]? = some (.ow k o)) : SR c σ0 G own (ρ.set j (.ln k o)) σ H where
  same := S.same
  out := S.out
  there := S.there
  dis := S.dis
  len := by rw [List.length_set]; exact S.len
  slot := fun i s z => by
    by_cases e : j = i
    · subst e
      rw [List.getElem?_set_self (lt_of_get h)] at z
      cases z
      have w := S.slot j _ h
      exact w
    · rw [List.getElem?_set_ne e] at z
      exact S.slot i s z
  io := fun i s z q => by
    by_cases e : j = i
    · subst e
      rw [List.getElem?_set_self (lt_of_get h)] at z
      cases z
      exact S.io j _ h q
    · rw [List.getElem?_set_ne e] at z
      exact S.io i s z q
theorem SR.undoR {G1 : Hp} {ρ0 : Ro} {σ0' : St} {G0 H0 : Hp} {own0 : Own} : ∀ (l : List (Nat × Bool)) {ρ : Ro}, (∀ p ∈ l, p.2 = true → isLn ρ0 p.1 = false) → SR c σ0 G own ρ σ H → Tr ρ0 σ0' G0 own0 H0 ρ σ G own H →
    SR c σ0 G own (undoR l ρ) σ H ∧ Tr ρ0 σ0' G0 own0 H0 (undoR l ρ) σ G own H
  | [], ρ, _, S, t => ⟨S, t⟩
  | (j, false) :: l, ρ, hl, S, t => SR.undoR (G1 := G1) l (fun p hp => hl p (List.mem_cons_of_mem _ hp)) S t
  | (j, true) :: l, ρ, hl, S, t => by
    unfold DL.undoR
    have hl' : ∀ p ∈ l, p.2 = true → isLn ρ0 p.1 = false := fun p hp => hl p (List.mem_cons_of_mem _ hp)
    cases e : ρ[j]? with
    | none => exact SR.undoR (G1 := G1) l hl' S t
    | some s =>
      cases s with
      | no => exact SR.undoR (G1 := G1) l hl' S t
      | fz d => exact SR.undoR (G1 := G1) l hl' S t
      | ow k o => exact SR.undoR (G1 := G1) l hl' S t
      | ln k o =>
        refine SR.undoR (G1 := G1) l hl' (S.undo e) ⟨t.ext, t.keep, t.gnew, t.onew, fun i q u h => ?_⟩
        have z := hl (j, true) List.mem_cons_self rfl
        have ne : j ≠ i := fun w => by
          subst w
          unfold isLn at z
          rw [h] at z
          cases z
        obtain ⟨h1, h2⟩ := t.lent i q u h
        exact ⟨by rw [List.getElem?_set_ne ne]; exact h1, h2⟩
theorem SPo.map {ρ0 : Ro} {G0 H0 : Hp} {own0 : Own} {σ00 : St} (l : List (Nat × Bool)) (hl : ∀ p ∈ l, p.2 = true → isLn ρ0 p.1 = false) {o : Out} (h : SPo c σ0 W σ00 ρ0 G0 own0 H0 E (o.map (undoR l))) : SPo c σ0 W σ00 ρ0 G0 own0 H0 E o := by
  cases o with
  | nx ρ' => exact fun σ' G' own' H' t S => let ⟨S2, t2⟩ := SR.undoR (G1 := G') l hl S t; h σ' G' own' H' t2 S2
  | ret r ρ' => exact fun σ' G' own' H' v t S R1 => let ⟨S2, t2⟩ := SR.undoR (G1 := G') l hl S t; h σ' G' own' H' v t2 S2 R1
  | brk ρ' => exact fun σ' G' own' H' t S => let ⟨S2, t2⟩ := SR.undoR (G1 := G') l hl S t; h σ' G' own' H' t2 S2
  | cnt ρ' => exact fun σ' G' own' H' t S => let ⟨S2, t2⟩ := SR.undoR (G1 := G') l hl S t; h σ' G' own' H' t2 S2
  | ex x ρ' => exact fun σ' G' own' H' cls d t S R1 => let ⟨S2, t2⟩ := SR.undoR (G1 := G') l hl S t; h σ' G' own' H' cls d t2 S2 R1
  | bad => exact h

/-- the loop, from a state in it: what is wanted stands behind the rest -/
theorem for_of {ts : List Nat} {J : It} {it : Iter} {tgt : Tgt} {body : S} {ds : List D} {g : TG} {tb : TS} {ρ0 : Ro} {G0 H0 : Hp} {own0 : Own} {σ00 : St} (hg : g = tG c σ0 ts tgt) (hb : tb = tS c σ0 W body)
    (K : ItOk c it J G σ) (S : SR c σ0 G own ρ σ H) (hln : ∀ p ∈ it.src, isLn ρ p.1 = true) (hi : it.items ρ = some ds) (t0 : Tr ρ0 σ00 G0 own0 H0 ρ σ G own H) (h : SPo c σ0 W σ00 ρ0 G0 own0 H0 E (loopF tgt body ds ρ)) :
    ∃ Wm : Nat → Nat → St → Hp → Prop, (∃ m, Wm 0 m σ H) ∧ ∀ i m σ H, Wm i m σ H →
      (J.stop i H ∧ E.nx σ H) ∨ (J.go i H ∧ ∃ N : St → Hp → Prop, (∀ σ' H', N σ' H' → ∃ m', m' < m ∧ Wm (i + 1) m' σ' H') ∧ ∀ x H', J.yld i H x H' → g x σ H' fun σ2 H2 => tb { E with nx := N, ct := N, bk := E.nx } σ2 H2) := by
  subst hg hb
  refine ⟨fun i m σ' H' => m = ds.length - i ∧ i ≤ ds.length ∧ ∃ G' own' ρ', SR c σ0 G' own' ρ' σ' H' ∧ Tr ρ σ G own H ρ' σ' G' own' H' ∧ SPo c σ0 W σ00 ρ0 G0 own0 H0 E (loopF tgt body (ds.drop i) ρ'), ⟨ds.length, rfl, Nat.zero_le _, G, own, ρ, S, Tr.refl, h⟩, ?_⟩
  rintro i m σ' H' ⟨rfl, hle, G', own', ρ', S', t', h'⟩
  have hsrc : ∀ p ∈ it.src, ρ'[p.1]? = ρ[p.1]? ∧ σ'[p.1]? = σ[p.1]? ∧ isLn ρ' p.1 = true := fun p hp => by
    obtain ⟨k, o, e⟩ := isLn_get (hln p hp)
    obtain ⟨e1, e2⟩ := t'.lent p.1 k o e
    exact ⟨by rw [e1, e], e2, by unfold isLn; rw [e1]⟩
  have hitems : it.items ρ' = some ds := by
    rw [K.loc ρ' ρ fun p hp => (hsrc p hp).1]
    exact hi
  obtain ⟨kstop, kgo⟩ := K.go σ0 G' own' ρ' σ' H' ds t'.ext S' (fun p hp => (hsrc p hp).2) hitems
  by_cases hlt : i < ds.length
  · have hd : ds[i]? = some ds[i] := List.getElem?_eq_getElem hlt
    obtain ⟨kg, ky⟩ := kgo i _ hd
    have hdrop : ds.drop i = ds[i] :: ds.drop (i + 1) := List.drop_eq_getElem_cons hlt
    rw [hdrop] at h'
    refine .inr ⟨kg, fun σ'' H'' => ∃ G'' own'' ρ'', SR c σ0 G'' own'' ρ'' σ'' H'' ∧ Tr ρ σ G own H ρ'' σ'' G'' own'' H'' ∧ SPo c σ0 W σ00 ρ0 G0 own0 H0 E (loopF tgt body (ds.drop (i + 1)) ρ''), fun σ'' H'' ⟨G'', own'', ρ'', S'', t'', h''⟩ => ⟨ds.length - (i + 1), by omega, rfl, hlt, G'', own'', ρ'', S'', t'', h''⟩, fun x H2 hy => ?_⟩
    obtain ⟨G2, n2, r2⟩ := ky x H2 hy
    have S2 := n2.sr S'
    have t2 := t'.trans (n2.tr (ρ := ρ') (σ := σ') S'.there)
    unfold loopF at h'
    cases e1 : tgt ds[i] ρ' with
    | none => rw [e1] at h'; exact h'.elim
    | some ρ1 =>
      rw [e1] at h'
      refine ⟨G2, own', ρ', ds[i], S2, r2, ρ1, e1, fun σ3 own3 _ t3 S3 => ⟨G2, own3, ρ1, S3, ?_⟩⟩
      have t23 := t2.trans t3
      dsimp only at h'
      cases e2 : body ρ1 with
      | bad => rw [e2] at h'; exact h'
      | nx ρ4 =>
        rw [e2] at h'
        exact fun σ4 G4 own4 H4 t4 S4 => ⟨G4, own4, ρ4, S4, t23.trans t4, h'⟩
      | cnt ρ4 =>
        rw [e2] at h'
        exact fun σ4 G4 own4 H4 t4 S4 => ⟨G4, own4, ρ4, S4, t23.trans t4, h'⟩
      | brk ρ4 =>
        rw [e2] at h'
        exact fun σ4 G4 own4 H4 t4 S4 => h' σ4 G4 own4 H4 (t0.trans (t23.trans t4)) S4
      | ret r ρ4 =>
        rw [e2] at h'
        exact fun σ4 G4 own4 H4 v t4 S4 R4 => h' σ4 G4 own4 H4 v (t0.trans (t23.trans t4)) S4 (RR.mono (fun b => (t0.trans t23).back) R4)
      | ex x ρ4 =>
        rw [e2] at h'
        exact fun σ4 G4 own4 H4 cls d t4 S4 R4 => h' σ4 G4 own4 H4 cls d (t0.trans (t23.trans t4)) S4 R4
  · have e : ds.drop i = [] := List.drop_eq_nil_of_le (by omega)
    rw [e] at h'
    have ei : i = ds.length := by omega
    rw [ei]
    exact .inl ⟨kstop, h' σ' G' own' H' (t0.trans t') S'⟩
theorem ds_for {ts : List Nat} {tg iter : Expr} {body : List Stmt} {f : M Iter} {tgt : Tgt} {s : S} {pos : Pos} (hp : PassesOwn (model X.prog X.w) X.A X.env X.xe) (hc : X.calm = true) (hi : PI X tg iter (tI c σ0 W f)) (hg : PG X tg (tG c σ0 ts tgt)) (hb : PSs X body (tS c σ0 W s))
    (hu : ∀ ρ it ρ', f ρ = .ok it ρ' → ∀ p ∈ it.src, p.2 = true → isLn ρ p.1 = false)
    (hs : ∀ x, foldedSetIterable iter X.env x = pure x := by intro _; rfl) : PS X (.For tg iter body [] pos) (tS c σ0 W (sFor f tgt s)) :=
  PS.imp (ps_for hp hc hi hg hb hs) fun E σ H q => by
    obtain ⟨G, own, ρ, S, q⟩ := q
    refine ⟨G, own, ρ, S, ?_⟩
    unfold sFor sBind at q
    cases e : f ρ with
    | bad => rw [e] at q; exact q
    | ex x ρ1 =>
      rw [e] at q
      exact fun G1 own1 H1 cls d t S1 r => q σ G1 own1 H1 cls d t S1 r
    | ok it ρ1 =>
      rw [e] at q
      intro G1 own1 H1 J t S1 K
      unfold forR at q
      dsimp only at q
      by_cases hl : it.src.all (fun p => isLn ρ1 p.1) = true
      · rw [if_pos hl] at q
        cases e2 : it.items ρ1 with
        | none => rw [e2] at q; exact q.elim
        | some ds =>
          rw [e2] at q
          have q' := SPo.map it.src (hu ρ it ρ1 e) q
          exact for_of rfl rfl K S1 (fun p hp => List.all_eq_true.mp hl p hp) e2 t q'
      · rw [if_neg hl] at q
        exact q.elim
end
end DL

/-! DLg: iterators. -/
namespace DL
open PySem PySem.Spec PyProof.Rows L2

/-! ### enumerate over a tuple, a text -/
theorem meets_enum_new1 {v : Value} {o : Obj} {H : Heap → Prop} (B : Begins v o H) :
    Meets (Builtin.«enumerate.__new__» ⟨[.type "enumerate", v], []⟩) (fun _ R s => H s.heap ∧
      R (.ok (.ret (.ref (s.heap.push o).objs.size))) { s with heap := (s.heap.push o).push { cls := .type "enumerate", data := .fields #[.none, .bool false, .ref s.heap.objs.size, rawInt 0, .none, .none] } }) :=
  .of_wp fun prog w A R s h => by
    obtain ⟨hp, g, d, tk, os⟩ := s; obtain ⟨h1, h⟩ := h
    have hsub := sub_enumerate
    have q1 : ∀ {A' : Around} {E : Value → Shared → Prop} {Q : Value → Shared → Prop}, Q (.ref hp.objs.size) ⟨hp.push o, g, d, tk, os⟩ → wpAny (model prog w) A' (pyIter v) Q E ⟨hp, g, d, tk, os⟩ :=
      fun q => B.iter prog w _ _ ⟨hp, g, d, tk, os⟩ _ h1 q
    wp_walk using q1
    refine wpAny_stack_any fun st => wpAny_pure ?_
    split
    · rename_i c _ _ _ _ _
      cases (c == Value.type "enumerate")
      · wp_walk using q1
        exact ⟨_, rfl, h⟩
      · wp_walk using q1
        exact ⟨_, rfl, h⟩
    · wp_walk using q1
      exact ⟨_, rfl, h⟩
theorem call_enum1 {prog : Program} {w : World} {A : Around} {E : Value → Shared → Prop} {s : Shared} {v : Value} {o : Obj} {H : Heap → Prop} {Q : Value → Shared → Prop} (B : Begins v o H) (h1 : H s.heap)
    (h : ∀ h', IsEnum h' (s.heap.objs.size + 1) s.heap.objs.size 0 .none → h'.get? s.heap.objs.size = some o → h'.objs.size = s.heap.objs.size + 2 →
      (∀ b o, s.heap.get? b = some o → h'.get? b = some o) → Q (.ref (s.heap.objs.size + 1)) { s with heap := h' }) :
    wpAny (model prog w) A (call (.type "enumerate") [v]) Q E s := by
  refine callType_new F.called_enumerate (by decide) (F.typeCall_enumerate_1 _) (F.newCall_enumerate_1 _) (fun obj => F.args_object_init_2 obj _) F.entry_enumerate_new
    (meets_enum_new1 B) ⟨h1, ?_⟩
  have hz : (s.heap.push o).objs.size = s.heap.objs.size + 1 := Heap.size_push ..
  show _ ∧ _
  rw [hz]
  have he : IsEnum ((s.heap.push o).push { cls := .type "enumerate", data := .fields #[.none, .bool false, .ref s.heap.objs.size, rawInt 0, .none, .none] }) (s.heap.objs.size + 1) s.heap.objs.size 0 .none := by
    have := Heap.get?_push_size (s.heap.push o) (o := { cls := .type "enumerate", data := .fields #[.none, .bool false, .ref s.heap.objs.size, rawInt 0, .none, .none] }) rfl
    rw [hz] at this; exact this
  exact ⟨⟨_, he, rfl⟩, h _ he (Heap.get?_push_of_some _ (Heap.get?_push_size _ B.free)) (by rw [Heap.size_push, hz]) fun b o x => Heap.get?_push_of_some _ (Heap.get?_push_of_some _ x)⟩

/-- enumerate over a tuple at a; over a text x -/
def IteT (K : PySem.W.Frag) (a : Addr) : It :=
  ⟨fun i H => ∃ (xs : List V) (x : V), SqT K H a xs ∧ xs[i]? = some x, fun i H v H' => ∃ T x, v = .ref T ∧ H T = none ∧ H' = upd H T (.tup [.int (i : Nat), x]) ∧ ∀ xs, SqT K H a xs → xs[i]? = some x, fun i H => ∃ xs : List V, SqT K H a xs ∧ xs.length = i⟩
def IteS (x : Str) : It :=
  ⟨fun i _ => i < x.cps.size, fun i H v H' => ∃ (T : Addr) (c : Nat), v = .ref T ∧ H T = none ∧ H' = upd H T (.tup [.int (i : Nat), .str ⟨#[c]⟩]) ∧ x.cps[i]? = some c, fun i _ => x.cps.size = i⟩
/-- the common part of a turn -/
theorem enum_turned {X : Cx} {pins : List (Addr × Obj)} {s : Shared} {σ : St} {H : Hp} {e it : Addr} {elts : List Expr} {kk : Nat} {tpos : Pos} {E : Value → Shared → Prop} {fp : List Addr} {n i : Nat} {P : Nat → Value → Prop} {St : Nat → Heap → Prop} {old : Value} {R : V → Hp → Shared → Prop}
    (I : Inv X pins σ H s) (hf : ∀ b ∈ [e, it], FpOk X pins H b) (D : Draws X.prog X.w X.A.in1 it fp n P St) (he : IsEnum s.heap e it ((i : Nat) : Int) old) (hst : St i s.heap) (hlt : i < n) (hne : e ≠ it) (hef : e ∉ fp) (hil : it < s.heap.objs.size)
    (hP : ∀ u, P i u → ∃ x, RelV x u ∧ ∀ h'' tk, St (i + 1) h'' → IsEnum h'' e it (((i + 1 : Nat)) : Int) u → Inv X pins σ (upd H s.heap.objs.size (.tup [.int (i : Nat), x])) { s with heap := h'', toks := tk } →
      (∀ b ∈ [e, it], upd H s.heap.objs.size (.tup [.int (i : Nat), x]) b = none) → R (.ref s.heap.objs.size) (upd H s.heap.objs.size (.tup [.int (i : Nat), x])) { s with heap := h'', toks := tk }) :
    wpAny (model X.prog X.w) X.A (pyNext (.ref e)) (fun r s1 => ∃ u, r = some u ∧
      wpAny (model X.prog X.w) X.A (letOwnedTupleGo (.Tuple elts kk tpos) (.ref e) u) (fun _ s2 => ∃ x H', RelV x u ∧ R x H' s2) E s1) E s := by
  have hel : e < s.heap.objs.size := Heap.lt_size he
  refine wpAny_pyNext_enum_itemD D he hst hlt hne hef fun u h' tk hPu ho hst' hT hsz hk => ?_
  refine ⟨_, rfl, wpAny_letOwnedTupleGo_enum (s := { s with heap := h', toks := tk + 1 }) ho fun h'' he' sb => ?_⟩
  have hT2 : h''.get? s.heap.objs.size = some { cls := .type "tuple", data := .seq #[.int i tk, u] } := (sb.2 _ (Nat.ne_of_gt hel)).trans hT
  obtain ⟨x, ru, k⟩ := hP u hPu
  have new : ObjOk X.prog X.w (upd H s.heap.objs.size (.tup [.int (i : Nat), x])) h'' s.heap.objs.size (.tup [.int (i : Nat), x]) :=
    ⟨by show 2 ≤ sizeLine; decide, [.int i tk, u], .cons ⟨_, rfl⟩ (.cons ru .nil), ⟨_, hT2, rfl, _, rfl⟩⟩
  have I1 : Inv X pins σ (upd H s.heap.objs.size (.tup [.int (i : Nat), x])) { s with heap := h'', toks := tk + 1 } :=
    I.turnedNew (ch := [e, it]) (fun b ob hb q => (sb.2 b (fun z => hb (by simp [z]))).trans (hk b ob (fun z => hb (by simp [z])) (fun z => hb (by simp [z])) q)) hf (Nat.le_refl _) new
  refine ⟨.ref s.heap.objs.size, _, rfl, k h'' (tk + 1) (D.frame _ _ _ hst' fun b hb o y => (sb.2 b fun q => hef (q ▸ hb)).trans y) ?_ I1 fun b hb => ?_⟩
  · have e1 : ((i + 1 : Nat) : Int) = (i : Int) + 1 := by omega
    rw [e1]; exact he'
  · have hb' : b < s.heap.objs.size := by
      have e' : b = e ∨ b = it := by simpa using hb
      rcases e' with z | z
      · rw [z]; exact hel
      · rw [z]; exact hil
    rw [upd_ne (Nat.ne_of_lt hb')]
    exact (hf b hb).1
theorem turn_enumT {P : Program} {w : World} {K : PySem.W.Frag} {elts : List Expr} {kk : Nat} {tpos : Pos} (a e it : Addr) :
    Turn P w K (.Tuple elts kk tpos) (IteT K a) [e, it] e (fun i h => (∃ old, IsEnum h e it ((i : Nat) : Int) old) ∧ h.IsTupleIter it a i ∧ e ≠ it) where
  mem := by simp
  obj := fun i h st b hb => by
    obtain ⟨⟨old, he⟩, ⟨o, ho, hc, hd⟩, _⟩ := st
    have e' : b = e ∨ b = it := by simpa using hb
    rcases e' with z | z
    · rw [z]; exact ⟨_, he, fun v q => nomatch q⟩
    · rw [z]; exact ⟨o, ho, fun v q => by rw [hd] at q; cases q⟩
  keep := fun i h h' st k => let ⟨⟨old, he⟩, hi, hne⟩ := st; ⟨⟨old, k e (by simp) _ he⟩, hi.at fun o q => k it (by simp) o q, hne⟩
  item := by
    intro X hP hw hK hc i pins s σ H E I hf st hg
    subst hP hw hK
    obtain ⟨⟨old, he⟩, hit, hne⟩ := st
    obtain ⟨xs, x, hq, hx⟩ := hg
    obtain ⟨its, rv, p, hz⟩ := I.tuple hq
    have hil : it < s.heap.objs.size := by obtain ⟨_, q, _⟩ := hit; exact Heap.lt_size q
    have hal : a < s.heap.objs.size := p.lt
    have nit : a ≠ it := fun z => by
      obtain ⟨o1, h1, c1, _⟩ := p
      obtain ⟨o2, h2, c2, _⟩ := hit
      rw [z, h2] at h1
      cases h1
      rw [c2] at c1
      injection c1 with c1
      exact absurd c1 (by decide)
    have nea : e ≠ a := fun z => by
      obtain ⟨o1, h1, c1, _⟩ := p
      rw [← z, show s.heap.get? e = some _ from he] at h1
      cases h1
      have c1 : Value.type "enumerate" = Value.type "tuple" := c1
      injection c1 with c1
      exact absurd c1 (by decide)
    have hlt : i < its.toArray.size := by
      have := rv.length
      have := (List.getElem?_eq_some_iff.mp hx).1
      simp; omega
    refine wpAny_mono (enum_turned (R := fun v H' s2 => Inv X pins σ H' s2 ∧ (IteT X.K a).yld i H v H' ∧ ((∃ old, IsEnum s2.heap e it (((i + 1 : Nat)) : Int) old) ∧ s2.heap.IsTupleIter it a (i + 1) ∧ e ≠ it) ∧ ∀ b ∈ [e, it], H' b = none) I hf (Draws.tuple (A := X.A.in1) (I.ok.hd hc) it a nit its.toArray) he ⟨hit, p⟩ hlt hne (by simp [hne, nea]) hil fun u hu => ?_) (fun r s1 ⟨u, hr, h⟩ => ⟨u, hr, wpAny_mono h (fun _ s2 ⟨x, H', rx, J, y, t, f⟩ => ⟨x, H', J, rx, y, t, f⟩) fun _ _ z => z⟩) fun _ _ z => z
    obtain ⟨y, hy, ry⟩ : ∃ y, xs[i]? = some y ∧ RelV y u := by
      obtain ⟨u', hu', ru'⟩ := rv.get hx
      have e1 : its[i]? = some u := by simpa using hu
      rw [hu'] at e1
      cases e1
      exact ⟨x, hx, ru'⟩
    refine ⟨y, ry, fun h'' tk st' he' I' hn => ⟨I', ⟨_, y, rfl, I.hok.fresh (Nat.le_refl _), rfl, fun ys hys => ?_⟩, ⟨⟨_, he'⟩, st'.1, hne⟩, hn⟩⟩
    rw [I.tuple_inj hys hq]; exact hy
  done := by
    intro X hP hw hK hc i pins s σ H E I hf st hg
    subst hP hw hK
    obtain ⟨⟨old, he⟩, hit, hne⟩ := st
    obtain ⟨xs, hq, hx⟩ := hg
    obtain ⟨its, rv, p, hz⟩ := I.tuple hq
    obtain ⟨f0, f1, f2, f3, f4, f5⟩ := hf it (by simp)
    have hl := rv.length
    have nit : a ≠ it := fun z => by
      obtain ⟨o1, h1, c1, _⟩ := p
      obtain ⟨o2, h2, c2, _⟩ := hit
      rw [z, h2] at h1
      cases h1
      rw [c2] at c1
      injection c1 with c1
      exact absurd c1 (by decide)
    have e1 : its.toArray.size = i := by simp; omega
    refine wpAny_pyNext_enum_endD (Draws.tuple (A := X.A.in1) (I.ok.hd hc) it a nit its.toArray) he (by rw [e1]; exact ⟨hit, p⟩) fun h' hb => ⟨rfl, I.turned (t' := s.toks) (fun b o hb' q => hb b o hb' q) f0 f1 f3 f4 f5⟩
  self := fun A i s Q E st h => let ⟨⟨_, he⟩, _⟩ := st; wpAny_pyIter_enum he h
theorem turn_enumS {P : Program} {w : World} {K : PySem.W.Frag} {elts : List Expr} {kk : Nat} {tpos : Pos} (x : Str) (tk : Tok) (e it : Addr) :
    Turn P w K (.Tuple elts kk tpos) (IteS x) [e, it] e (fun i h => (∃ old, IsEnum h e it ((i : Nat) : Int) old) ∧ h.IsStrIter it (strIterType x) x tk i ∧ e ≠ it) where
  mem := by simp
  obj := fun i h st b hb => by
    obtain ⟨⟨old, he⟩, ⟨o, ho, hc, hd⟩, _⟩ := st
    have e' : b = e ∨ b = it := by simpa using hb
    rcases e' with z | z
    · rw [z]; exact ⟨_, he, fun v q => nomatch q⟩
    · rw [z]; exact ⟨o, ho, fun v q => by rw [hd] at q; cases q⟩
  keep := fun i h h' st k => let ⟨⟨old, he⟩, ⟨o, ho, r⟩, hne⟩ := st; ⟨⟨old, k e (by simp) _ he⟩, ⟨o, k it (by simp) o ho, r⟩, hne⟩
  item := by
    intro X hP hw hK hc i pins s σ H E I hf st hg
    subst hP hw hK
    obtain ⟨⟨old, he⟩, hit, hne⟩ := st
    have hil : it < s.heap.objs.size := by obtain ⟨_, q, _⟩ := hit; exact Heap.lt_size q
    refine wpAny_mono (enum_turned (R := fun v H' s2 => Inv X pins σ H' s2 ∧ (IteS x).yld i H v H' ∧ ((∃ old, IsEnum s2.heap e it (((i + 1 : Nat)) : Int) old) ∧ s2.heap.IsStrIter it (strIterType x) x tk (i + 1) ∧ e ≠ it) ∧ ∀ b ∈ [e, it], H' b = none) I hf (Draws.text (A := X.A.in1) (I.ok.hd hc) it x tk) he hit hg hne (by simp [hne]) hil fun u hu => ?_) (fun r s1 ⟨u, hr, h⟩ => ⟨u, hr, wpAny_mono h (fun _ s2 ⟨x, H', rx, J, y, t, f⟩ => ⟨x, H', J, rx, y, t, f⟩) fun _ _ z => z⟩) fun _ _ z => z
    obtain ⟨cc, uu, hcx, rfl⟩ := hu
    exact ⟨.str ⟨#[cc]⟩, ⟨uu, rfl⟩, fun h'' tk' st' he' I' hn => ⟨I', ⟨_, cc, rfl, I.hok.fresh (Nat.le_refl _), rfl, hcx⟩, ⟨⟨_, he'⟩, st', hne⟩, hn⟩⟩
  done := by
    intro X hP hw hK hc i pins s σ H E I hf st hg
    subst hP hw hK
    obtain ⟨⟨old, he⟩, hit, hne⟩ := st
    obtain ⟨f0, f1, f2, f3, f4, f5⟩ := hf it (by simp)
    have e1 : x.cps.size = i := hg
    exact wpAny_pyNext_enum_endD (Draws.text (A := X.A.in1) (I.ok.hd hc) it x tk) he (by rw [e1]; exact hit) fun h' hb => ⟨rfl, I.turned (t' := s.toks) (fun b o hb' q => hb b o hb' q) f0 f1 f3 f4 f5⟩
  self := fun A i s Q E st h => let ⟨⟨_, he⟩, _⟩ := st; wpAny_pyIter_enum he h
/-- enumerate of a list, a tuple, a text -/
def iEnumA (K : PySem.W.Frag) (ta : TA) : TI := fun σ H R => ta σ H fun vs H1 => (∃ a xs, vs = [.ref a] ∧ SqL K H1 a xs ∧ R (Ite K a) H1) ∨ (∃ a xs, vs = [.ref a] ∧ SqT K H1 a xs ∧ R (IteT K a) H1) ∨ ∃ x, vs = [.str x] ∧ R (IteS x) H1
theorem pi_enumA {X : Cx} {e : Expr} {ta : TA} {p pos tpos : Pos} {elts : List Expr} {kk : Nat} (hg : Gl X "enumerate") (hm : X.mg "enumerate" = none) (ha : PA X [e] ta) (hs : starEach [e] X.env = [(false, eval e X.env)] := by rfl) :
    PI X (.Tuple elts kk tpos) (.Call (.Name "enumerate" p) [e] [] pos) (iEnumA X.K ta) := by
  refine ⟨fun pins s σ H R I h => ?_⟩
  refine Call_ (ld_blt I hg hm boot_enumerate (PyProof.Rows.callWith_type1 (thn (ha.run pos pins s σ H _ I h) fun us s1 ⟨vs, H1, I1, r1, q1⟩ => ?_) hs rfl))
  have fp2 : ∀ b ∈ [s1.heap.objs.size + 1, s1.heap.objs.size], FpOk X pins H1 b := fun b hb => by
    have e' : b = s1.heap.objs.size + 1 ∨ b = s1.heap.objs.size := by simpa using hb
    have hle : s1.heap.objs.size ≤ b := by
      rcases e' with z | z
      · rw [z]; exact Nat.le_add_right _ _
      · rw [z]; exact Nat.le_refl _
    exact I1.fpOk hle (I1.hok.fresh hle)
  rcases q1 with ⟨a, xs, ex, hq, q⟩ | ⟨a, xs, ex, hq, q⟩ | ⟨x, ex, q⟩
  · subst ex
    cases r1 with
    | cons r rr =>
      cases rr
      cases r
      obtain ⟨its, rv, p', hz⟩ := I1.list hq
      refine call_enumerate_list p'.isList fun h' he hit hsz hk => wpAny_pyIter_enum he ?_
      have I2 : Inv X pins σ H1 { s1 with heap := h' } := I1.kept (t' := s1.toks) hk
      exact ⟨s1.heap.objs.size + 1, [s1.heap.objs.size + 1, s1.heap.objs.size], _, _, H1, rfl, I2, turn_enum a (s1.heap.objs.size + 1) s1.heap.objs.size, ⟨⟨.none, he⟩, hit, Nat.succ_ne_self _⟩, fp2, q⟩
  · subst ex
    cases r1 with
    | cons r rr =>
      cases rr
      cases r
      obtain ⟨its, rv, p', hz⟩ := I1.tuple hq
      refine call_enum1 (begins_tuple a its.toArray) p' fun h' he hit hsz hk => wpAny_pyIter_enum he ?_
      have I2 : Inv X pins σ H1 { s1 with heap := h' } := I1.kept (t' := s1.toks) hk
      exact ⟨s1.heap.objs.size + 1, [s1.heap.objs.size + 1, s1.heap.objs.size], _, _, H1, rfl, I2, turn_enumT a (s1.heap.objs.size + 1) s1.heap.objs.size, ⟨⟨.none, he⟩, ⟨_, hit, rfl, rfl⟩, Nat.succ_ne_self _⟩, fp2, q⟩
  · subst ex
    cases r1 with
    | cons r rr =>
      cases rr
      obtain ⟨t, rfl⟩ := r
      refine call_enum1 (begins_text x t) trivial fun h' he hit hsz hk => wpAny_pyIter_enum he ?_
      have I2 : Inv X pins σ H1 { s1 with heap := h' } := I1.kept (t' := s1.toks) hk
      exact ⟨s1.heap.objs.size + 1, [s1.heap.objs.size + 1, s1.heap.objs.size], _, _, H1, rfl, I2, turn_enumS x t (s1.heap.objs.size + 1) s1.heap.objs.size, ⟨⟨.none, he⟩, ⟨_, hit, rfl, rfl⟩, Nat.succ_ne_self _⟩, fp2, q⟩

/-- any value that is walked: a list, a tuple, a text -/
def iAny (K : PySem.W.Frag) (tl : TE) : TI := fun σ H R => tl σ H fun x H1 => (∃ a, x = .ref a ∧ (∃ xs, SqL K H1 a xs) ∧ R (Itl K a) H1) ∨ (∃ a, x = .ref a ∧ (∃ xs, SqT K H1 a xs) ∧ R (Itt K a) H1) ∨ ∃ y, x = .str y ∧ R (Its y) H1
theorem pi_any {X : Cx} {tg l : Expr} {tl : TE} (hl : PE X l tl) : PI X tg l (iAny X.K tl) := by
  refine ⟨fun pins s σ H R I h => ?_⟩
  refine thn (hl.run pins s σ H _ I h) fun v s1 ⟨x, H1, I1, r1, q1⟩ => ?_
  have fp1 : ∀ b ∈ [s1.heap.objs.size], FpOk X pins H1 b := fun b hb => by
    have e : b = s1.heap.objs.size := by simpa using hb
    subst e
    exact I1.fpOk (Nat.le_refl _) (I1.hok.fresh (Nat.le_refl _))
  rcases q1 with ⟨a, e, ⟨xs, hq⟩, q⟩ | ⟨a, e, ⟨xs, hq⟩, q⟩ | ⟨y, e, q⟩
  · subst e
    cases r1
    obtain ⟨its, rv, p, hz⟩ := I1.list hq
    refine wpAny_pyIter_list p.isList ?_
    exact ⟨s1.heap.objs.size, [s1.heap.objs.size], _, _, H1, rfl, I1.kept (t' := s1.toks) fun b o e => Heap.get?_push_of_some _ e, turn_list a _, ⟨_, Heap.get?_push_size _ rfl, rfl, rfl⟩, fp1, q⟩
  · subst e
    cases r1
    obtain ⟨its, rv, p, hz⟩ := I1.tuple hq
    refine wpAny_pyIter_tuple (show s1.heap.IsTuple a its.toArray from p) ?_
    exact ⟨s1.heap.objs.size, [s1.heap.objs.size], _, _, H1, rfl, I1.kept (t' := s1.toks) fun b o e => Heap.get?_push_of_some _ e, turn_tuple a _, ⟨_, Heap.get?_push_size _ rfl, rfl, rfl⟩, fp1, q⟩
  · subst e
    obtain ⟨t, rfl⟩ := r1
    cases ha : y.cps.all (· < 128)
    · exact wpAny_pyIter_wide ha (pi_one (tk := s1.toks) I1 _ (turn_str _ y t "str_iterator" (.inr rfl)) ⟨_, Heap.get?_push_size _ rfl, rfl, rfl⟩ q)
    · exact wpAny_pyIter_ascii ha (pi_one (tk := s1.toks) I1 _ (turn_str _ y t "str_ascii_iterator" (.inl rfl)) ⟨_, Heap.get?_push_size _ rfl, rfl, rfl⟩ q)
end DL

/-! DLh: what is walked; while; comprehensions. -/
namespace DL
open PySem PySem.Spec PyProof.Rows L2

/-! ### sources -/
def charsD (x : Str) : List D := x.cps.toList.map fun c => D.str ⟨#[c]⟩
def itemsD : D → Option (List D)
  | .lst ds => some ds
  | .tup ds => some ds
  | .str x => some (charsD x)
  | .scr ns => some (ns.map D.int)
  | _ => none
def lnItems (j : Nat) : Ro → Option (List D) := fun ρ => match ρ[j]? with
  | some (.ln _ (.lst ds)) => some ds
  | _ => none
/-- what stands at v is walked as it says -/
inductive SrcK (c : Cn) (it : Iter) (v : V) (G : Hp) (σ : St) : Prop where
  | lst (a : Addr) (e : v = .ref a) (k : ∀ σ0 G' own' ρ' σ' H' ds, Same G G' → SR c σ0 G' own' ρ' σ' H' → (∀ p ∈ it.src, σ'[p.1]? = σ[p.1]? ∧ isLn ρ' p.1 = true) → it.items ρ' = some ds → ∃ vs, SqL c.K H' a vs ∧ Reps c G' ds vs)
  | tup (a : Addr) (e : v = .ref a) (k : ∀ σ0 G' own' ρ' σ' H' ds, Same G G' → SR c σ0 G' own' ρ' σ' H' → (∀ p ∈ it.src, σ'[p.1]? = σ[p.1]? ∧ isLn ρ' p.1 = true) → it.items ρ' = some ds → ∃ vs, SqT c.K H' a vs ∧ Reps c G' ds vs)
  | str (x : Str) (e : v = .str x) (k : ∀ ρ ds, it.items ρ = some ds → ds = charsD x)
structure SrcOk (c : Cn) (it : Iter) (v : V) (G : Hp) (σ : St) : Prop where
  loc : ∀ ρ ρ' : Ro, (∀ p ∈ it.src, ρ[p.1]? = ρ'[p.1]?) → it.items ρ = it.items ρ'
  k : SrcK c it v G σ
abbrev relS (c : Cn) : Rl Iter V := fun G _ σ _ _ it v => SrcOk c it v G σ
theorem relS_mono (c : Cn) : RlMono (relS c) := fun _ _ _ _ _ _ _ _ _ r => r
abbrev tSr (c : Cn) (σ0 : St) (W : WX) (f : M Iter) : TE := tX (relS c) c σ0 W f
def itVals (ds : List D) : Iter := ⟨[], fun _ => some ds⟩
def itLent (j : Nat) (u : Bool) : Iter := ⟨[(j, u)], lnItems j⟩
/-- a value's items -/
def itR (r : R) : M Iter := fun ρ => match r with
  | .val d => match itemsD d with
    | some ds => .ok (itVals ds) ρ
    | none => .bad
  | .nw o => match itemsD o.toD with
    | some ds => .ok (itVals ds) ρ
    | none => .bad
  | .sl _ => .bad
def itE (f : M R) : M Iter := f.bind itR
/-- a name's items -/
def itN (j : Nat) : M Iter := fun ρ => match ρ[j]? with
  | some (.fz d) => match itemsD d with
    | some ds => .ok (itVals ds) ρ
    | none => .bad
  | some (.ow k (.lst ds)) => .ok (itLent j true) (ρ.set j (.ln k (.lst ds)))
  | some (.ln k (.lst ds)) => .ok (itLent j false) ρ
  | _ => .bad
/-- only what was not lent ahead is given back -/
def Und (f : M Iter) : Prop := ∀ ρ it ρ', f ρ = .ok it ρ' → ∀ p ∈ it.src, p.2 = true → isLn ρ p.1 = false

section
variable {X : Cx} {c : Cn} {σ0 : St} {W : WX} {σ : St} {ρ : Ro} {G H : Hp} {own : Own} {a b e tg : Expr} {es : List Expr} {pos p : Pos} {f g : M R}
theorem reps_ints : ∀ ns : List Int, Reps c G (ns.map D.int) (ns.map V.int)
  | [] => .nil
  | n :: ns => .cons (.int n) (reps_ints ns)
theorem src_vals {d : D} {ds : List D} {v : V} (h : Rep c G d v) (e : itemsD d = some ds) : SrcOk c (itVals ds) v G σ := by
  refine ⟨fun _ _ _ => rfl, ?_⟩
  cases h with
  | lst hs r =>
    cases e
    exact .lst _ rfl fun σ0 G' own' ρ' σ' H' ds' s S _ e => by
      cases e
      exact ⟨_, .inl (.inl ((s.trans S.same) _ _ hs)), r.mono s⟩
  | scr hs =>
    cases e
    exact .lst _ rfl fun σ0 G' own' ρ' σ' H' ds' s S _ e => by
      cases e
      exact ⟨_, sqL_same (s.trans S.same) hs, reps_ints _⟩
  | tup hs r =>
    cases e
    exact .tup _ rfl fun σ0 G' own' ρ' σ' H' ds' s S _ e => by
      cases e
      exact ⟨_, sqT_same (s.trans S.same) hs, r.mono s⟩
  | str x =>
    cases e
    exact .str x rfl fun ρ ds e => by cases e; rfl
  | _ => cases e
theorem und_vals {f : M R} : Und (itE f) := fun ρ it ρ' h p hp => by
  unfold itE M.bind at h
  cases e : f ρ with
  | bad => rw [e] at h; cases h
  | ex x ρ1 => rw [e] at h; cases h
  | ok r ρ1 =>
    rw [e] at h
    dsimp only at h
    have go : ∀ {d : D}, (match itemsD d with
        | some ds => Res.ok (itVals ds) ρ1
        | none => Res.bad) = Res.ok it ρ' → it.src = [] := fun {d} h => by
      cases q : itemsD d with
      | none => rw [q] at h; cases h
      | some ds => rw [q] at h; cases h; rfl
    cases r with
    | val d => rw [go h] at hp; cases hp
    | nw o => rw [go h] at hp; cases hp
    | sl j => cases h
theorem dsr_E (h : PE X e (tD c σ0 W f)) : PE X e (tSr c σ0 W (itE f)) := PE.imp h fun σ H Q q => by
  obtain ⟨G, own, ρ, S, q⟩ := q
  refine XP.bind S q fun r ρ1 G1 own1 H1 v t1 S1 R1 h1 => ?_
  cases r with
  | sl j => exact h1.elim
  | val d =>
    have h1 : XP (relS c) c σ0 W σ ρ G own H Q (match itemsD d with
      | some ds => .ok (itVals ds) ρ1
      | none => .bad) := h1
    cases e : itemsD d with
    | none => rw [e] at h1; exact h1.elim
    | some ds =>
      rw [e] at h1
      exact h1 G1 own1 H1 v t1 S1 (src_vals R1 e)
  | nw o =>
    have h1 : XP (relS c) c σ0 W σ ρ G own H Q (match itemsD o.toD with
      | some ds => .ok (itVals ds) ρ1
      | none => .bad) := h1
    cases e : itemsD o.toD with
    | none => rw [e] at h1; exact h1.elim
    | some ds =>
      rw [e] at h1
      obtain ⟨G1', s1, t1', S1', R1'⟩ := fz_of S1 t1 (fun b n => n) R1
      cases R1' with
      | val hd _ => exact h1 G1' own1 H1 v t1' S1' (src_vals hd e)
theorem und_name {j : Nat} : Und (itN j) := fun ρ it ρ' h p hp hu => by
  unfold itN at h
  unfold isLn
  cases e : ρ[j]? with
  | none => rw [e] at h; cases h
  | some s =>
    rw [e] at h
    cases s with
    | no => cases h
    | fz d =>
      dsimp only at h
      cases q : itemsD d with
      | none => rw [q] at h; cases h
      | some ds => rw [q] at h; cases h; cases hp
    | ow k o =>
      cases o with
      | lst ds =>
        cases h
        cases hp with
        | head => rw [e]
        | tail _ z => cases z
      | _ => cases h
    | ln k o =>
      cases o with
      | lst ds =>
        cases h
        cases hp with
        | head => cases hu
        | tail _ z => cases z
      | _ => cases h
theorem src_lent {j : Nat} {u : Bool} {v : V} (hv : σ[j]? = some (some v)) (ha : ∃ a, v = .ref a) : SrcOk c (itLent j u) v G σ := by
  refine ⟨fun ρ ρ' h => ?_, ?_⟩
  · have z : ρ[j]? = ρ'[j]? := h (j, u) (by unfold itLent; exact List.mem_cons_self)
    show lnItems j ρ = lnItems j ρ'
    unfold lnItems
    rw [z]
  · obtain ⟨a, ea⟩ := ha
    refine .lst a ea fun σ1 G' own' ρ' σ' H' ds s S hl e => ?_
    obtain ⟨z1, z2⟩ := hl (j, u) (by unfold itLent; exact List.mem_cons_self)
    have e : lnItems j ρ' = some ds := e
    unfold lnItems at e
    cases q : ρ'[j]? with
    | none => rw [q] at e; cases e
    | some s' =>
      rw [q] at e
      cases s' with
      | ln k o =>
        cases o with
        | lst ds' =>
          cases e
          obtain ⟨w, hw, a', vs, ew, _, hs, r⟩ := S.slot j _ q
          rw [show σ'[j]? = σ[j]? from z1, hv] at hw
          cases hw
          rw [ea] at ew
          cases ew
          exact ⟨vs, .inl (.inl hs), r⟩
        | _ => cases e
      | _ => cases e
theorem dsr_N {j : Nat} (h : PE X e (tVar j)) : PE X e (tSr c σ0 W (itN j)) := PE.imp h fun σ H Q q => by
  obtain ⟨G, own, ρ, S, q⟩ := q
  unfold itN at q
  cases e : ρ[j]? with
  | none => rw [e] at q; exact q.elim
  | some s =>
    rw [e] at q
    have z := S.slot j s e
    cases s with
    | no => exact q.elim
    | fz d =>
      obtain ⟨v, hv, r⟩ := z
      dsimp only at q
      cases e2 : itemsD d with
      | none => rw [e2] at q; exact q.elim
      | some ds =>
        rw [e2] at q
        exact ⟨v, hv, q G own H v Tr.refl S (src_vals r e2)⟩
    | ow k o =>
      cases o with
      | lst ds =>
        obtain ⟨v, hv, a, vs, ea, _, _, _⟩ := z
        refine ⟨v, hv, q G own H v ⟨Same.refl _, fun _ _ h _ => h, fun _ _ h => .inl h, fun _ h => .inl h, fun i k' o' h => ⟨?_, rfl⟩⟩ (S.lend e) (src_lent hv ⟨a, ea⟩)⟩
        have ne : j ≠ i := fun w => by
          subst w
          rw [e] at h; cases h
        rw [List.getElem?_set_ne ne]
        exact h
      | _ => exact q.elim
    | ln k o =>
      cases o with
      | lst ds =>
        obtain ⟨v, hv, a, vs, ea, _, _, _⟩ := z
        exact ⟨v, hv, q G own H v Tr.refl S (src_lent hv ⟨a, ea⟩)⟩
      | _ => exact q.elim

theorem SrcK.there {it : Iter} {v : V} (h : SrcK c it v G σ) : True := trivial
theorem Reps.nx {ds : List D} {vs : List V} {i : Nat} (r : Reps c G ds vs) (h : ds.length ≤ i) : vs.length ≤ i := by rw [← r.length]; exact h
/-- walking it -/
theorem di_any (hK : c.K = X.K) {f : M Iter} (h : PE X e (tSr c σ0 W f)) (hl : ∀ ρ it ρ', f ρ = .ok it ρ' → it.src.all (fun p => isLn ρ' p.1) = true ∧ (it.items ρ').isSome = true) : PI X tg e (tI c σ0 W f) := by
  refine ⟨fun pins s σ H R I q => (pi_any h).run pins s σ H R I ?_⟩
  obtain ⟨G, own, ρ, S, q⟩ := q
  refine ⟨G, own, ρ, S, ?_⟩
  cases e1 : f ρ with
  | bad => rw [e1] at q; exact q
  | ex x ρ1 => rw [e1] at q; exact q
  | ok it ρ1 =>
    rw [e1] at q
    obtain ⟨hln, hsome⟩ := hl _ _ _ e1
    obtain ⟨ds0, hds0⟩ := Option.isSome_iff_exists.mp hsome
    intro G1 own1 H1 v t1 S1 K
    have q := fun J => q G1 own1 H1 J t1 S1
    have hs0 : ∀ p ∈ it.src, σ[p.1]? = σ[p.1]? ∧ isLn ρ1 p.1 = true := fun p hp => ⟨rfl, List.all_eq_true.mp hln p hp⟩
    rcases K.k with ⟨a, ea, k⟩ | ⟨a, ea, k⟩ | ⟨x, ea, k⟩
    · obtain ⟨vs0, hq0, _⟩ := k σ0 G1 own1 ρ1 σ H1 ds0 (Same.refl _) S1 hs0 hds0
      refine .inl ⟨a, ea, ⟨vs0, by rw [← hK]; exact hq0⟩, q _ ⟨K.loc, fun σ1 G' own' ρ' σ' H' ds s S' hl' e => ?_⟩⟩
      obtain ⟨vs, hq, r⟩ := k σ1 G' own' ρ' σ' H' ds s S' hl' e
      rw [hK] at hq
      refine ⟨⟨vs, hq, by rw [r.length]; exact Nat.le_refl _⟩, fun i d hd => ?_⟩
      obtain ⟨w, hw, rw'⟩ := r.get hd
      refine ⟨⟨vs, w, hq, hw⟩, fun y H2 hy => ?_⟩
      obtain ⟨rfl, hy⟩ := hy
      have := hy vs hq
      rw [hw] at this
      cases this
      exact ⟨G', New.refl S'.same, rw'⟩
    · obtain ⟨vs0, hq0, _⟩ := k σ0 G1 own1 ρ1 σ H1 ds0 (Same.refl _) S1 hs0 hds0
      refine .inr (.inl ⟨a, ea, ⟨vs0, by rw [← hK]; exact hq0⟩, q _ ⟨K.loc, fun σ1 G' own' ρ' σ' H' ds s S' hl' e => ?_⟩⟩)
      obtain ⟨vs, hq, r⟩ := k σ1 G' own' ρ' σ' H' ds s S' hl' e
      rw [hK] at hq
      refine ⟨⟨vs, hq, by rw [r.length]; exact Nat.le_refl _⟩, fun i d hd => ?_⟩
      obtain ⟨w, hw, rw'⟩ := r.get hd
      refine ⟨⟨vs, w, hq, hw⟩, fun y H2 hy => ?_⟩
      obtain ⟨rfl, hy⟩ := hy
      have := hy vs hq
      rw [hw] at this
      cases this
      exact ⟨G', New.refl S'.same, rw'⟩
    · refine .inr (.inr ⟨x, ea, q _ ⟨K.loc, fun σ1 G' own' ρ' σ' H' ds s S' hl' e => ?_⟩⟩)
      have e := k ρ' ds e
      subst e
      refine ⟨by show x.cps.size ≤ _; unfold charsD; simp, fun i d hd => ?_⟩
      unfold charsD at hd
      rw [List.getElem?_map] at hd
      cases e2 : x.cps.toList[i]? with
      | none => rw [e2] at hd; cases hd
      | some w =>
        rw [e2] at hd
        cases hd
        have e3 : x.cps[i]? = some w := by simpa using e2
        refine ⟨by
          show i < x.cps.size
          have := (List.getElem?_eq_some_iff.mp e2).1
          simpa using this, fun y H2 hy => ?_⟩
        obtain ⟨rfl, w', hw', rfl⟩ := hy
        rw [e3] at hw'
        cases hw'
        exact ⟨G', New.refl S'.same, .str _⟩
theorem all_E {f : M R} : ∀ ρ it ρ', itE f ρ = .ok it ρ' → it.src.all (fun p => isLn ρ' p.1) = true ∧ (it.items ρ').isSome = true := fun ρ it ρ' h => by
  unfold itE M.bind at h
  cases e : f ρ with
  | bad => rw [e] at h; cases h
  | ex x ρ1 => rw [e] at h; cases h
  | ok r ρ1 =>
    rw [e] at h
    dsimp only at h
    have go : ∀ {d : D}, (match itemsD d with
        | some ds => Res.ok (itVals ds) ρ1
        | none => Res.bad) = Res.ok it ρ' → it.src.all (fun p => isLn ρ' p.1) = true ∧ (it.items ρ').isSome = true := fun {d} h => by
      cases q : itemsD d with
      | none => rw [q] at h; cases h
      | some ds => rw [q] at h; cases h; exact ⟨rfl, rfl⟩
    cases r with
    | val d => exact go h
    | nw o => exact go h
    | sl j => cases h
theorem all_N {j : Nat} : ∀ ρ it ρ', itN j ρ = .ok it ρ' → it.src.all (fun p => isLn ρ' p.1) = true ∧ (it.items ρ').isSome = true := fun ρ it ρ' h => by
  unfold itN at h
  cases e : ρ[j]? with
  | none => rw [e] at h; cases h
  | some s =>
    rw [e] at h
    cases s with
    | no => cases h
    | fz d =>
      dsimp only at h
      cases q : itemsD d with
      | none => rw [q] at h; cases h
      | some ds => rw [q] at h; cases h; exact ⟨rfl, rfl⟩
    | ow k o =>
      cases o with
      | lst ds =>
        cases h
        have e2 : (ρ.set j (.ln k (.lst ds)))[j]? = some (.ln k (.lst ds)) := List.getElem?_set_self (lt_of_get e)
        refine ⟨?_, ?_⟩
        · show (isLn (ρ.set j (.ln k (.lst ds))) j && true) = true
          unfold isLn
          rw [e2]
          rfl
        · show (lnItems j (ρ.set j (.ln k (.lst ds)))).isSome = true
          unfold lnItems
          rw [e2]
          rfl
      | _ => cases h
    | ln k o =>
      cases o with
      | lst ds =>
        cases h
        refine ⟨?_, ?_⟩
        · show (isLn ρ j && true) = true
          unfold isLn
          rw [e]
          rfl
        · show (lnItems j ρ).isSome = true
          unfold lnItems
          rw [e]
          rfl
      | _ => cases h
end
end DL

/-! DLi: enumerate, zip, range; while; comprehensions. -/
namespace DL
open PySem PySem.Spec PyProof.Rows L2

def AllOk (f : M Iter) : Prop := ∀ ρ it ρ', f ρ = .ok it ρ' → it.src.all (fun p => isLn ρ' p.1) = true ∧ (it.items ρ').isSome = true
def enumD (ds : List D) : List D := ds.zipIdx.map fun p => D.tup [.int (p.2 : Nat), p.1]
def itEnum (f : M Iter) : M Iter := fun ρ => match f ρ with
  | .ok it ρ' => .ok ⟨it.src, fun ρ => (it.items ρ).map enumD⟩ ρ'
  | .ex x ρ' => .ex x ρ'
  | .bad => .bad
def zipD (ds es : List D) : List D := (ds.zip es).map fun p => D.tup [p.1, p.2]
def itZip (f g : M Iter) : M Iter := fun ρ => match f ρ with
  | .ok it ρ1 => match g ρ1 with
    | .ok it2 ρ2 => .ok ⟨it.src ++ it2.src, fun ρ => match it.items ρ, it2.items ρ with
      | some ds, some es => some (zipD ds es)
      | _, _ => none⟩ ρ2
    | .ex x ρ2 => .ex x ρ2
    | .bad => .bad
  | .ex x ρ1 => .ex x ρ1
  | .bad => .bad
theorem enumD_get {ds : List D} {i : Nat} : (enumD ds)[i]? = (ds[i]?).map fun d => D.tup [.int (i : Nat), d] := by
  unfold enumD
  rw [List.getElem?_map, List.getElem?_zipIdx]
  cases ds[i]? with
  | none => rfl
  | some d => simp
theorem enumD_len {ds : List D} : (enumD ds).length = ds.length := by
  unfold enumD; simp
section
variable {X : Cx} {c : Cn} {σ0 : St} {W : WX} {σ : St} {ρ : Ro} {G H : Hp} {own : Own} {a b e tg : Expr} {es : List Expr} {pos p : Pos} {f g : M R}
theorem und_enum {f : M Iter} (h : Und f) : Und (itEnum f) := fun ρ it ρ' hf => by
  unfold itEnum at hf
  cases e : f ρ with
  | bad => rw [e] at hf; cases hf
  | ex x ρ1 => rw [e] at hf; cases hf
  | ok it1 ρ1 =>
    rw [e] at hf
    cases hf
    exact h ρ it1 ρ' e
/-- a new pair is laid -/
theorem pair_new {x y : V} {d1 d2 : D} {T : Addr} (S : SR c σ0 G own ρ σ H) (hT : H T = none) (h1 : Rep c G d1 x) (h2 : Rep c G d2 y) : ∃ G', New G H G' (upd H T (.tup [x, y])) ∧ Rep c G' (.tup [d1, d2]) (.ref T) := by
  have gT : G T = none := by
    cases e : G T with
    | none => rfl
    | some o =>
      rw [S.same T o e] at hT
      cases hT
  have s1 : Same G (upd G T (.tup [x, y])) := fun b o e => by
    rw [upd_ne (ne_of_none e gT)]; exact e
  refine ⟨upd G T (.tup [x, y]), ⟨fun b o e => by rw [upd_ne (ne_of_none e hT)]; exact e, s1, fun b o e => ?_, fun b o e => ?_⟩, .tup (SqT.of upd_same) (.cons (h1.mono s1) (.cons (h2.mono s1) .nil))⟩
  · by_cases z : b = T
    · subst z; rw [upd_same] at e ⊢; exact e
    · rw [upd_ne z] at e ⊢; exact S.same b o e
  · by_cases z : b = T
    · subst z; exact .inr hT
    · rw [upd_ne z] at e; exact .inl e
theorem di_enum (hK : c.K = X.K) {f : M Iter} {elts : List Expr} {kk : Nat} {tpos : Pos} (hg : Gl X "enumerate") (hm : X.mg "enumerate" = none) (h : PE X e (tSr c σ0 W f)) (hl : AllOk f) (hs : starEach [e] X.env = [(false, eval e X.env)] := by rfl)
    (hs2 : starEach [e] X.env = (false, eval e X.env) :: starEach [] X.env := by rfl) : PI X (.Tuple elts kk tpos) (.Call (.Name "enumerate" p) [e] [] pos) (tI c σ0 W (itEnum f)) := by
  refine ⟨fun pins s σ H R I q => (pi_enumA hg hm (pa_cons h pa_nil hs2) hs).run pins s σ H R I ?_⟩
  obtain ⟨G, own, ρ, S, q⟩ := q
  refine ⟨G, own, ρ, S, ?_⟩
  unfold itEnum at q
  cases e1 : f ρ with
  | bad => rw [e1] at q; exact q
  | ex x ρ1 => rw [e1] at q; exact q
  | ok it ρ1 =>
    rw [e1] at q
    obtain ⟨hln, hsome⟩ := hl _ _ _ e1
    obtain ⟨ds0, hds0⟩ := Option.isSome_iff_exists.mp hsome
    intro G1 own1 H1 v t1 S1 K
    have q := fun J => q G1 own1 H1 J t1 S1
    have hs0 : ∀ p ∈ it.src, σ[p.1]? = σ[p.1]? ∧ isLn ρ1 p.1 = true := fun p hp => ⟨rfl, List.all_eq_true.mp hln p hp⟩
    have hloc : ∀ ρ ρ' : Ro, (∀ p ∈ it.src, ρ[p.1]? = ρ'[p.1]?) → (it.items ρ).map enumD = (it.items ρ').map enumD := fun ρ ρ' z => by rw [K.loc ρ ρ' z]
    show (∃ a xs, [v] = [V.ref a] ∧ _) ∨ _ ∨ _
    rcases K.k with ⟨a, ea, k⟩ | ⟨a, ea, k⟩ | ⟨x, ea, k⟩
    · obtain ⟨vs0, hq0, _⟩ := k σ0 G1 own1 ρ1 σ H1 ds0 (Same.refl _) S1 hs0 hds0
      refine .inl ⟨a, vs0, by rw [ea], by rw [← hK]; exact hq0, q _ ⟨hloc, fun σ1 G' own' ρ' σ' H' ds s S' hl' e => ?_⟩⟩
      have e : (it.items ρ').map enumD = some ds := e
      cases e3 : it.items ρ' with
      | none => rw [e3] at e; cases e
      | some ds1 =>
        rw [e3] at e
        cases e
        obtain ⟨vs, hq, r⟩ := k σ1 G' own' ρ' σ' H' ds1 s S' hl' e3
        rw [hK] at hq
        refine ⟨⟨vs, hq, by rw [enumD_len, r.length]; exact Nat.le_refl _⟩, fun i d hd => ?_⟩
        rw [enumD_get] at hd
        cases e4 : ds1[i]? with
        | none => rw [e4] at hd; cases hd
        | some d1 =>
          rw [e4] at hd
          cases hd
          obtain ⟨w, hw, rw'⟩ := r.get e4
          refine ⟨⟨vs, w, hq, hw⟩, fun y H2 hy => ?_⟩
          obtain ⟨T, x, rfl, hT, rfl, hx⟩ := hy
          have := hx vs hq
          rw [hw] at this
          cases this
          exact pair_new S' hT (.int _) rw'
    · obtain ⟨vs0, hq0, _⟩ := k σ0 G1 own1 ρ1 σ H1 ds0 (Same.refl _) S1 hs0 hds0
      refine .inr (.inl ⟨a, vs0, by rw [ea], by rw [← hK]; exact hq0, q _ ⟨hloc, fun σ1 G' own' ρ' σ' H' ds s S' hl' e => ?_⟩⟩)
      have e : (it.items ρ').map enumD = some ds := e
      cases e3 : it.items ρ' with
      | none => rw [e3] at e; cases e
      | some ds1 =>
        rw [e3] at e
        cases e
        obtain ⟨vs, hq, r⟩ := k σ1 G' own' ρ' σ' H' ds1 s S' hl' e3
        rw [hK] at hq
        refine ⟨⟨vs, hq, by rw [enumD_len, r.length]⟩, fun i d hd => ?_⟩
        rw [enumD_get] at hd
        cases e4 : ds1[i]? with
        | none => rw [e4] at hd; cases hd
        | some d1 =>
          rw [e4] at hd
          cases hd
          obtain ⟨w, hw, rw'⟩ := r.get e4
          refine ⟨⟨vs, w, hq, hw⟩, fun y H2 hy => ?_⟩
          obtain ⟨T, x, rfl, hT, rfl, hx⟩ := hy
          have := hx vs hq
          rw [hw] at this
          cases this
          exact pair_new S' hT (.int _) rw'
    · refine .inr (.inr ⟨x, by rw [ea], q _ ⟨hloc, fun σ1 G' own' ρ' σ' H' ds s S' hl' e => ?_⟩⟩)
      have e : (it.items ρ').map enumD = some ds := e
      cases e3 : it.items ρ' with
      | none => rw [e3] at e; cases e
      | some ds1 =>
        rw [e3] at e
        cases e
        have e := k ρ' ds1 e3
        subst e
        refine ⟨by show x.cps.size = _; rw [enumD_len]; unfold charsD; simp, fun i d hd => ?_⟩
        rw [enumD_get] at hd
        unfold charsD at hd
        rw [List.getElem?_map] at hd
        cases e2 : x.cps.toList[i]? with
        | none => rw [e2] at hd; cases hd
        | some w =>
          rw [e2] at hd
          cases hd
          have e5 : x.cps[i]? = some w := by simpa using e2
          refine ⟨by
            show i < x.cps.size
            have := (List.getElem?_eq_some_iff.mp e2).1
            simpa using this, fun y H2 hy => ?_⟩
          obtain ⟨T, w', rfl, hT, rfl, hw'⟩ := hy
          rw [e5] at hw'
          cases hw'
          exact pair_new S' hT (.int _) (.str _)

/-! ### range -/
def rangeD (lo : Int) (n : Nat) : List D := (List.range n).map fun i => D.int (lo + (i : Nat))
def fits62 (i : Int) : Bool := decide (-(2 ^ 62) ≤ i) && decide (i < 2 ^ 62)
def itRange (f : M (List R)) : M Iter := f.bind fun rs ρ => match derefs ρ rs with
  | some [.int j] => if fits62 j = true then .ok (itVals (rangeD 0 j.toNat)) ρ else .bad
  | some [.int i, .int j] => if (fits62 i && fits62 j) = true then .ok (itVals (rangeD i (j - i).toNat)) ρ else .bad
  | _ => .bad
theorem fits62_of {i : Int} (h : fits62 i = true) : -(2 ^ 62) ≤ i ∧ i < 2 ^ 62 := by
  unfold fits62 at h
  simpa using h
theorem it_range {lo : Int} {n : Nat} : ItOk c (itVals (rangeD lo n)) (Itr lo n) G σ := by
  refine ⟨fun _ _ _ => rfl, fun σ1 G' own' ρ' σ' H' ds s S' hl' e => ?_⟩
  cases e
  refine ⟨by show n ≤ _; unfold rangeD; simp, fun i d hd => ?_⟩
  unfold rangeD at hd
  rw [List.getElem?_map] at hd
  cases e2 : (List.range n)[i]? with
  | none => rw [e2] at hd; cases hd
  | some w =>
    rw [e2] at hd
    cases hd
    have hi := (List.getElem?_eq_some_iff.mp e2).1
    rw [List.length_range] at hi
    rw [List.getElem?_range hi] at e2
    cases e2
    refine ⟨hi, fun y H2 hy => ?_⟩
    obtain ⟨rfl, rfl⟩ := hy
    exact ⟨G', New.refl S'.same, .int _⟩
theorem di_range1 {fa : M (List R)} (hg : Gl X "range") (hm : X.mg "range" = none) (ha : PA X [e] (tA c σ0 W fa)) (hlen : ∀ ρ rs ρ', fa ρ = .ok rs ρ' → rs.length = 1) (hs : starEach [e] X.env = [(false, eval e X.env)] := by rfl) :
    PI X tg (.Call (.Name "range" p) [e] [] pos) (tI c σ0 W (itRange fa)) := by
  refine ⟨fun pins s σ H R I q => (pi_range1 hg hm ha hs).run pins s σ H R I ?_⟩
  obtain ⟨G, own, ρ, S, q⟩ := q
  refine ⟨G, own, ρ, S, ?_⟩
  unfold itRange M.bind at q
  cases e1 : fa ρ with
  | bad => rw [e1] at q; exact q
  | ex x ρ1 => rw [e1] at q; exact q
  | ok rs ρ1 =>
    rw [e1] at q
    intro G1 own1 H1 vs t1 S1 R1
    dsimp only at q
    have hl := hlen _ _ _ e1
    cases e2 : derefs ρ1 rs with
    | none => rw [e2] at q; exact q.elim
    | some ds =>
      have rr := R1.derefs S1 e2
      rw [e2] at q
      have ln : ∀ {rs : List DL.R} {ds : List D}, derefs ρ1 rs = some ds → ds.length = rs.length := by
        intro rs
        induction rs with
        | nil => intro ds h; cases h; rfl
        | cons r rs ih =>
          intro ds h
          unfold derefs at h
          cases q1 : deref ρ1 r with
          | none => rw [q1] at h; cases h
          | some d =>
            cases q2 : derefs ρ1 rs with
            | none => rw [q1, q2] at h; cases h
            | some es => rw [q1, q2] at h; cases h; rw [List.length_cons, List.length_cons, ih q2]
      have l1 := ln e2
      rw [hl] at l1
      cases rr with
      | nil => cases l1
      | cons h1 h2 =>
        cases h2 with
        | cons _ _ => cases l1
        | nil =>
          rename_i d v
          cases d with
          | int j =>
            cases h1
            have q : XP (relI c) c σ0 W σ ρ G own H R (if fits62 j = true then .ok (itVals (rangeD 0 j.toNat)) ρ1 else .bad) := q
            by_cases hb : fits62 j = true
            · rw [if_pos hb] at q
              exact ⟨j, rfl, (fits62_of hb).1, (fits62_of hb).2, q G1 own1 H1 _ t1 S1 it_range⟩
            · rw [if_neg hb] at q
              exact q.elim
          | _ => exact q.elim
theorem di_range2 {fa : M (List R)} (hg : Gl X "range") (hm : X.mg "range" = none) (ha : PA X [a, b] (tA c σ0 W fa)) (hlen : ∀ ρ rs ρ', fa ρ = .ok rs ρ' → rs.length = 2) (hs : starEach [a, b] X.env = [(false, eval a X.env), (false, eval b X.env)] := by rfl) (hs2 : starEach [b] X.env = [(false, eval b X.env)] := by rfl) :
    PI X tg (.Call (.Name "range" p) [a, b] [] pos) (tI c σ0 W (itRange fa)) := by
  refine ⟨fun pins s σ H R I q => (pi_range2 hg hm ha hs hs2).run pins s σ H R I ?_⟩
  obtain ⟨G, own, ρ, S, q⟩ := q
  refine ⟨G, own, ρ, S, ?_⟩
  unfold itRange M.bind at q
  cases e1 : fa ρ with
  | bad => rw [e1] at q; exact q
  | ex x ρ1 => rw [e1] at q; exact q
  | ok rs ρ1 =>
    rw [e1] at q
    intro G1 own1 H1 vs t1 S1 R1
    dsimp only at q
    have hl := hlen _ _ _ e1
    cases e2 : derefs ρ1 rs with
    | none => rw [e2] at q; exact q.elim
    | some ds =>
      have rr := R1.derefs S1 e2
      rw [e2] at q
      cases rr with
      | nil =>
        exact q.elim
      | cons h1 h2 =>
        cases h2 with
        | nil =>
          cases R1 with
          | val _ R2 => cases R2; cases hl
          | sl _ R2 => cases R2; cases hl
        | cons h2 h3 =>
          cases h3 with
          | cons _ _ =>
            cases R1 with
            | val _ R2 =>
              cases R2 with
              | val _ R3 => cases R3 <;> cases hl
              | sl _ R3 => cases R3 <;> cases hl
            | sl _ R2 =>
              cases R2 with
              | val _ R3 => cases R3 <;> cases hl
              | sl _ R3 => cases R3 <;> cases hl
          | nil =>
            rename_i d1 v1 d2 v2
            cases d1 with
            | int i =>
              cases d2 with
              | int j =>
                cases h1
                cases h2
                have q : XP (relI c) c σ0 W σ ρ G own H R (if (fits62 i && fits62 j) = true then .ok (itVals (rangeD i (j - i).toNat)) ρ1 else .bad) := q
                by_cases hb : (fits62 i && fits62 j) = true
                · rw [if_pos hb] at q
                  obtain ⟨b1, b2⟩ := Bool.and_eq_true_iff.mp hb
                  exact ⟨i, j, rfl, ⟨(fits62_of b1).1, (fits62_of b1).2, (fits62_of b2).1, (fits62_of b2).2⟩, q G1 own1 H1 _ t1 S1 it_range⟩
                · rw [if_neg hb] at q
                  exact q.elim
              | _ => exact q.elim
            | _ => exact q.elim
theorem und_range {fa : M (List R)} : Und (itRange fa) := fun ρ it ρ' h p hp => by
  have e : it.src = [] := by
    unfold itRange M.bind at h
    cases e1 : fa ρ with
    | bad => rw [e1] at h; cases h
    | ex x ρ1 => rw [e1] at h; cases h
    | ok rs ρ1 =>
      rw [e1] at h
      dsimp only at h
      split at h
      · split at h
        · cases h; rfl
        · cases h
      · split at h
        · cases h; rfl
        · cases h
      · cases h
  rw [e] at hp
  cases hp

/-! ### while -/
def whileN (t : M Bool) (s : S) : Nat → S
  | 0, _ => .bad
  | n + 1, ρ => match t ρ with
    | .ok true ρ1 => match s ρ1 with
      | .nx ρ2 => whileN t s n ρ2
      | .cnt ρ2 => whileN t s n ρ2
      | .brk ρ2 => .nx ρ2
      | o => o
    | .ok false ρ1 => .nx ρ1
    | .ex x ρ1 => .ex x ρ1
    | .bad => .bad
open Classical in
noncomputable def sWhile (t : M Bool) (s : S) : S := fun ρ => if h : ∃ n, whileN t s n ρ ≠ .bad then whileN t s (Classical.choose h) ρ else .bad
theorem whileN_more {t : M Bool} {s : S} : ∀ {n : Nat} {ρ : Ro}, whileN t s n ρ ≠ .bad → whileN t s (n + 1) ρ = whileN t s n ρ
  | 0, _, h => absurd rfl h
  | n + 1, ρ, h => by
    rw [show whileN t s (n + 1 + 1) ρ = (match t ρ with
      | .ok true ρ1 => match s ρ1 with
        | .nx ρ2 => whileN t s (n + 1) ρ2
        | .cnt ρ2 => whileN t s (n + 1) ρ2
        | .brk ρ2 => .nx ρ2
        | o => o
      | .ok false ρ1 => .nx ρ1
      | .ex x ρ1 => .ex x ρ1
      | .bad => .bad) from rfl]
    unfold whileN at h ⊢
    cases e : t ρ with
    | bad => rfl
    | ex x ρ1 => rfl
    | ok b ρ1 =>
      rw [e] at h
      cases b with
      | false => rfl
      | true =>
        dsimp only at h ⊢
        cases e2 : s ρ1 with
        | nx ρ2 =>
          rw [e2] at h
          exact whileN_more h
        | cnt ρ2 =>
          rw [e2] at h
          exact whileN_more h
        | _ => rfl
theorem whileN_le {t : M Bool} {s : S} {ρ : Ro} {n : Nat} (h : whileN t s n ρ ≠ .bad) : ∀ k, whileN t s (n + k) ρ = whileN t s n ρ
  | 0 => rfl
  | k + 1 => by
    have e := whileN_le h k
    rw [show n + (k + 1) = n + k + 1 from rfl, whileN_more (by rw [e]; exact h), e]
theorem whileN_eq {t : M Bool} {s : S} {ρ : Ro} {n m : Nat} (h : whileN t s n ρ ≠ .bad) (h' : whileN t s m ρ ≠ .bad) : whileN t s n ρ = whileN t s m ρ := by
  rcases Nat.le_total n m with l | l
  · obtain ⟨k, rfl⟩ := Nat.exists_eq_add_of_le l
    exact (whileN_le h k).symm
  · obtain ⟨k, rfl⟩ := Nat.exists_eq_add_of_le l
    exact whileN_le h' k
/-- the while's value, by so many turns -/
theorem sWhile_of {t : M Bool} {s : S} {ρ : Ro} {o : Out} (n : Nat) (h : whileN t s n ρ = o) (ho : o ≠ .bad) : sWhile t s ρ = o := by
  have ex : ∃ n, whileN t s n ρ ≠ .bad := ⟨n, by rw [h]; exact ho⟩
  unfold sWhile
  rw [dif_pos ex, ← h]
  exact whileN_eq (Classical.choose_spec ex) (by rw [h]; exact ho)
theorem ds_while {x : Expr} {body : List Stmt} {t : M Bool} {s : S} (hp : PassesOwn (model X.prog X.w) X.A X.env X.xe) (hc : PT X x (tT c σ0 W t)) (hb : PSs X body (tS c σ0 W s)) : PS X (.While x body [] pos) (tS c σ0 W (sWhile t s)) :=
  PS.imp (ps_while hp hc hb) fun E σ H q => by
    obtain ⟨G, own, ρ, S, q⟩ := q
    unfold sWhile at q
    by_cases ex : ∃ n, whileN t s n ρ ≠ .bad
    · rw [dif_pos ex] at q
      refine ⟨fun m σ' H' => ∃ G' own' ρ', SR c σ0 G' own' ρ' σ' H' ∧ Tr ρ σ G own H ρ' σ' G' own' H' ∧ SPo c σ0 W σ ρ G own H E (whileN t s m ρ'), ⟨_, G, own, ρ, S, Tr.refl, q⟩, ?_⟩
      rintro m σ' H' ⟨G', own', ρ', S', t', h'⟩
      cases m with
      | zero => exact h'.elim
      | succ m =>
        unfold whileN at h'
        refine ⟨G', own', ρ', S', ?_⟩
        cases e : t ρ' with
        | bad => rw [e] at h'; exact h'
        | ex x ρ1 =>
          rw [e] at h'
          exact fun G1 own1 H1 cls d t1 S1 R1 => h' σ' G1 own1 H1 cls d (t'.trans t1) S1 R1
        | ok b ρ1 =>
          rw [e] at h'
          intro G1 own1 H1 v t1 S1 R1
          cases R1
          cases b with
          | false => exact h' σ' G1 own1 H1 (t'.trans t1) S1
          | true =>
            refine ⟨fun σ'' H'' => ∃ G'' own'' ρ'', SR c σ0 G'' own'' ρ'' σ'' H'' ∧ Tr ρ σ G own H ρ'' σ'' G'' own'' H'' ∧ SPo c σ0 W σ ρ G own H E (whileN t s m ρ''), fun σ'' H'' z => ⟨m, Nat.lt_succ_self m, z⟩, G1, own1, ρ1, S1, ?_⟩
            have t01 := t'.trans t1
            dsimp only at h'
            cases e2 : s ρ1 with
            | bad => rw [e2] at h'; exact h'
            | nx ρ4 =>
              rw [e2] at h'
              exact fun σ4 G4 own4 H4 t4 S4 => ⟨G4, own4, ρ4, S4, t01.trans t4, h'⟩
            | cnt ρ4 =>
              rw [e2] at h'
              exact fun σ4 G4 own4 H4 t4 S4 => ⟨G4, own4, ρ4, S4, t01.trans t4, h'⟩
            | brk ρ4 =>
              rw [e2] at h'
              exact fun σ4 G4 own4 H4 t4 S4 => h' σ4 G4 own4 H4 (t01.trans t4) S4
            | ret r ρ4 =>
              rw [e2] at h'
              exact fun σ4 G4 own4 H4 v t4 S4 R4 => h' σ4 G4 own4 H4 v (t01.trans t4) S4 (RR.mono (fun b => t01.back) R4)
            | ex x ρ4 =>
              rw [e2] at h'
              exact fun σ4 G4 own4 H4 cls d t4 S4 R4 => h' σ4 G4 own4 H4 cls d (t01.trans t4) S4 R4
    · rw [dif_neg ex] at q
      exact q.elim
end
end DL

/-! DLj: comprehensions. -/
namespace DL
open PySem PySem.Spec PyProof.Rows L2

def wipeR (ρ : Ro) : List Nat → Ro
  | [] => ρ
  | v :: vs => (wipeR ρ vs).set v .no
def escD : R → Option D
  | .val d => some d
  | .nw o => some o.toD
  | .sl _ => none
def compN (tgt : Tgt) (cond : M Bool) (elt : M R) (vs : List Nat) : List D → List D → M (List D)
  | [], acc, ρ => .ok acc ρ
  | d :: ds, acc, ρ => match tgt d ρ with
    | none => .bad
    | some ρ1 => match cond ρ1 with
      | .ok true ρ2 => match elt ρ2 with
        | .ok r ρ3 => match escD r with
          | some x => if acc.length < sizeLine then compN tgt cond elt vs ds (acc ++ [x]) (wipeR ρ3 vs) else .bad
          | none => .bad
        | _ => .bad
      | .ok false ρ2 => compN tgt cond elt vs ds acc (wipeR ρ2 vs)
      | _ => .bad
def compR (tgt : Tgt) (cond : M Bool) (elt : M R) (vs : List Nat) (it : Iter) : M R := fun ρ =>
  if (it.src.all (fun p => isLn ρ p.1) && vs.all fun v => !isLn ρ v) = true then (match it.items ρ with
    | none => .bad
    | some ds => match compN tgt cond elt vs ds [] (wipeR ρ vs) with
      | .ok acc ρ' => .ok (.nw (.lst acc)) (undoR it.src ρ')
      | _ => .bad) else .bad
def eComp (f : M Iter) (tgt : Tgt) (cond : M Bool) (elt : M R) (vs : List Nat) : M R := f.bind (compR tgt cond elt vs)
def eYes : M Bool := M.ret true

theorem wipe_get {σ : St} {i : Nat} : ∀ {vs : List Nat}, (wipe σ vs)[i]? = if i ∈ vs then (σ[i]?).map fun _ => none else σ[i]?
  | [] => by simp [wipe]
  | v :: vs => by
    unfold wipe
    by_cases e : v = i
    · subst e
      rw [if_pos List.mem_cons_self]
      by_cases h : v < (wipe σ vs).length
      · rw [List.getElem?_set_self h]
        rw [wipe_length] at h
        rw [List.getElem?_eq_getElem h]
        rfl
      · rw [List.getElem?_eq_none (by rw [List.length_set]; omega)]
        rw [wipe_length] at h
        rw [List.getElem?_eq_none (by omega)]
        rfl
    · rw [List.getElem?_set_ne e, wipe_get]
      by_cases h : i ∈ vs
      · rw [if_pos h, if_pos (List.mem_cons_of_mem _ h)]
      · rw [if_neg h, if_neg fun z => (List.mem_cons.mp z).elim (fun q => e q.symm) h]
theorem wipeR_get {ρ : Ro} {i : Nat} : ∀ {vs : List Nat}, (wipeR ρ vs)[i]? = if i ∈ vs then (ρ[i]?).map fun _ => Sl.no else ρ[i]?
  | [] => by simp [wipeR]
  | v :: vs => by
    have len : ∀ vs : List Nat, (wipeR ρ vs).length = ρ.length := fun vs => by
      induction vs with
      | nil => rfl
      | cons v vs ih => unfold wipeR; rw [List.length_set, ih]
    unfold wipeR
    by_cases e : v = i
    · subst e
      rw [if_pos List.mem_cons_self]
      by_cases h : v < (wipeR ρ vs).length
      · rw [List.getElem?_set_self h]
        rw [len] at h
        rw [List.getElem?_eq_getElem h]
        rfl
      · rw [List.getElem?_eq_none (by rw [List.length_set]; omega)]
        rw [len] at h
        rw [List.getElem?_eq_none (by omega)]
        rfl
    · rw [List.getElem?_set_ne e, wipeR_get]
      by_cases h : i ∈ vs
      · rw [if_pos h, if_pos (List.mem_cons_of_mem _ h)]
      · rw [if_neg h, if_neg fun z => (List.mem_cons.mp z).elim (fun q => e q.symm) h]
theorem wipeR_len {ρ : Ro} : ∀ vs : List Nat, (wipeR ρ vs).length = ρ.length
  | [] => rfl
  | v :: vs => by unfold wipeR; rw [List.length_set, wipeR_len vs]
theorem wipe_off {σ σ' : St} {ts vs : List Nat} (h : Off ts (wipe σ vs) σ') (hs : ∀ i ∈ ts, i ∈ vs) : wipe σ' vs = wipe σ vs := by
  refine List.ext_getElem? fun i => ?_
  rw [wipe_get, wipe_get]
  by_cases hi : i ∈ vs
  · rw [if_pos hi, if_pos hi]
    have hl : σ'.length = σ.length := by rw [h.1, wipe_length]
    by_cases q : i < σ.length
    · rw [List.getElem?_eq_getElem q, List.getElem?_eq_getElem (by rw [hl]; exact q)]
      rfl
    · rw [List.getElem?_eq_none (by omega), List.getElem?_eq_none (by omega)]
  · rw [if_neg hi, if_neg hi, h.2 i fun z => hi (hs i z), wipe_get, if_neg hi]
section
variable {X : Cx} {c : Cn} {σ0 : St} {W : WX} {σ σ' : St} {ρ ρ' : Ro} {G G' H H' : Hp} {own own' : Own} {vs : List Nat}
theorem SR.wipe (S : SR c σ0 G own ρ σ H) : SR c σ0 G own (wipeR ρ vs) (L2.wipe σ vs) H where
  same := S.same
  out := S.out
  there := S.there
  dis := S.dis
  len := by rw [wipeR_len, wipe_length]; exact S.len
  slot := fun i s h => by
    rw [wipeR_get] at h
    by_cases hi : i ∈ vs
    · rw [if_pos hi] at h
      cases e : ρ[i]? with
      | none => rw [e] at h; cases h
      | some t => rw [e] at h; cases h; trivial
    · rw [if_neg hi] at h
      rw [wipe_get, if_neg hi]
      exact S.slot i s h
  io := fun i s h q => by
    rw [wipeR_get] at h
    by_cases hi : i ∈ vs
    · rw [if_pos hi] at h
      cases e : ρ[i]? with
      | none => rw [e] at h; cases h
      | some t => rw [e] at h; cases h; cases q
    · rw [if_neg hi] at h
      rw [wipe_get, if_neg hi]
      exact S.io i s h q
/-- back at the whole slots -/
theorem SR.unwipe {ρ1 : Ro} (S : SR c σ0 G own (wipeR ρ1 vs) (L2.wipe σ vs) H) (hl : ρ1.length = σ.length) : SR c σ0 G own (wipeR ρ1 vs) σ H where
  same := S.same
  out := S.out
  there := S.there
  dis := S.dis
  len := by rw [wipeR_len]; exact hl
  slot := fun i s h => by
    have z := S.slot i s h
    rw [wipeR_get] at h
    by_cases hi : i ∈ vs
    · rw [if_pos hi] at h
      cases e : ρ1[i]? with
      | none => rw [e] at h; cases h
      | some t => rw [e] at h; cases h; trivial
    · rw [wipe_get, if_neg hi] at z
      exact z
  io := fun i s h q => by
    have z := S.io i s h q
    rw [wipeR_get] at h
    by_cases hi : i ∈ vs
    · rw [if_pos hi] at h
      cases e : ρ1[i]? with
      | none => rw [e] at h; cases h
      | some t => rw [e] at h; cases h; cases q
    · rw [wipe_get, if_neg hi] at z
      exact z
theorem Tr.wipeIn (hn : ∀ v ∈ vs, isLn ρ v = false) : Tr ρ σ G own H (wipeR ρ vs) (L2.wipe σ vs) G own H :=
  ⟨Same.refl _, fun _ _ h _ => h, fun _ _ h => .inl h, fun _ h => .inl h, fun j k o h => by
    have hj : j ∉ vs := fun z => by
      have q := hn j z
      unfold isLn at q
      rw [h] at q
      cases q
    rw [wipeR_get, wipe_get, if_neg hj, if_neg hj]
    exact ⟨h, rfl⟩⟩
theorem Tr.wipeOut {ρ1 : Ro} {σ1 : St} (t : Tr (wipeR ρ1 vs) (L2.wipe σ1 vs) G own H ρ' σ' G' own' H') : Tr (wipeR ρ1 vs) (L2.wipe σ1 vs) G own H (wipeR ρ' vs) (L2.wipe σ1 vs) G' own' H' :=
  ⟨t.ext, t.keep, t.gnew, t.onew, fun j k o h => by
    obtain ⟨h1, _⟩ := t.lent j k o h
    have hj : j ∉ vs := fun z => by
      rw [wipeR_get, if_pos z] at h
      cases e : ρ1[j]? with
      | none => rw [e] at h; cases h
      | some t => rw [e] at h; cases h
    rw [wipeR_get, if_neg hj]
    exact ⟨h1, rfl⟩⟩
/-- the new list changes -/
theorem SR.updFree {Da : Addr} {o : HO} (S : SR c σ0 G own ρ σ H) (hg : G Da = none) (ho : ¬ ao own Da) : SR c σ0 G own ρ σ (upd H Da o) where
  same := fun b u e => by
    rw [upd_ne (ne_of_none e hg)]
    exact S.same b u e
  out := S.out
  there := fun i b h => by
    have ne : b ≠ Da := fun z => ho (z ▸ ⟨i, h⟩)
    rw [upd_ne ne]
    exact S.there i b h
  dis := S.dis
  len := S.len
  slot := fun i s h => (S.slot i s h).at (Same.refl _) (fun b u p q => by
    have ne : b ≠ Da := fun z => ho (z ▸ ⟨i, p⟩)
    rw [upd_ne ne]
    exact q) fun b p => p
  io := S.io
theorem Tr.updFree {Da : Addr} {o : HO} {ρ0 : Ro} {σ00 : St} {G0 H0 : Hp} {own0 : Own} (t : Tr ρ0 σ00 G0 own0 H0 ρ σ G own H) (hn : H0 Da = none) : Tr ρ0 σ00 G0 own0 H0 ρ σ G own (upd H Da o) :=
  ⟨t.ext, fun b u h n => by rw [upd_ne (ne_of_none h hn)]; exact t.keep b u h n, t.gnew, t.onew, t.lent⟩

theorem tLc_of {f : M Iter} {ts : List Nat} {tgt : Tgt} {cond : M Bool} {elt : M R} {Q : VK} (hts : ∀ i ∈ ts, i ∈ vs)
    (h : tD c σ0 W (eComp f tgt cond elt vs) σ H Q) (hu : Und f) : tLc (tI c σ0 W f) (tG c σ0 ts tgt) (tT c σ0 (fun _ _ _ _ => False) cond) (tD c σ0 (fun _ _ _ _ => False) elt) vs σ H Q := by
  obtain ⟨G, own, ρ, S, q⟩ := h
  refine ⟨G, own, ρ, S, ?_⟩
  unfold eComp M.bind at q
  cases e : f ρ with
  | bad => rw [e] at q; exact q
  | ex x ρ1 =>
    rw [e] at q
    exact q
  | ok it ρ1 =>
    rw [e] at q
    intro G1 own1 H1 J t1 S1 K Da hDa
    unfold compR at q
    dsimp only at q
    by_cases hl : (it.src.all (fun p => isLn ρ1 p.1) && vs.all fun v => !isLn ρ1 v) = true
    · rw [if_pos hl] at q
      obtain ⟨hl1, hl2⟩ := Bool.and_eq_true_iff.mp hl
      have hn : ∀ v ∈ vs, isLn ρ1 v = false := fun v hv => by
        have := List.all_eq_true.mp hl2 v hv
        simpa using this
      cases e2 : it.items ρ1 with
      | none => rw [e2] at q; exact q.elim
      | some ds =>
        rw [e2] at q
        dsimp only at q
        have gDa : G1 Da = none := by
          cases z : G1 Da with
          | none => rfl
          | some o => rw [S1.same Da o z] at hDa; cases hDa
        have oDa : ¬ ao own1 Da := fun ⟨i, z⟩ => by
          obtain ⟨o, w⟩ := S1.there i Da z
          rw [hDa] at w; cases w
        generalize hres : compN tgt cond elt vs ds [] (wipeR ρ1 vs) = res at q
        have Sw : SR c σ0 G1 own1 (wipeR ρ1 vs) (L2.wipe σ vs) H1 := S1.wipe
        refine ⟨fun i m H' => m = ds.length - i ∧ i ≤ ds.length ∧ ∃ G' own' ρ' acc accV, SR c σ0 G' own' (wipeR ρ' vs) (L2.wipe σ vs) H' ∧ ρ'.length = σ.length ∧ Tr (wipeR ρ1 vs) (L2.wipe σ vs) G1 own1 H1 (wipeR ρ' vs) (L2.wipe σ vs) G' own' H' ∧
          H' Da = some (.lst accV) ∧ Reps c G' acc accV ∧ G' Da = none ∧ ¬ ao own' Da ∧ compN tgt cond elt vs (ds.drop i) acc (wipeR ρ' vs) = res, ⟨ds.length, rfl, Nat.zero_le _, G1, own1, ρ1, [], [], Sw.updFree gDa oDa, S1.len, Tr.refl.updFree hDa, upd_same, .nil, gDa, oDa, hres⟩, ?_⟩
        rintro i m H' ⟨rfl, hle, G', own', ρ', acc, accV, S', hlen, t', hD', ra, gD', oD', hr⟩
        have hsrc : ∀ p ∈ it.src, (wipeR ρ' vs)[p.1]? = ρ1[p.1]? ∧ (L2.wipe σ vs)[p.1]? = σ[p.1]? ∧ isLn (wipeR ρ' vs) p.1 = true := fun p hp => by
          obtain ⟨k, o, e⟩ := isLn_get (List.all_eq_true.mp hl1 p hp)
          have hj : p.1 ∉ vs := fun z => by
            have w := hn p.1 z
            unfold isLn at w
            rw [e] at w
            cases w
          have ew : (wipeR ρ1 vs)[p.1]? = some (.ln k o) := by rw [wipeR_get, if_neg hj]; exact e
          obtain ⟨e1, e2⟩ := t'.lent p.1 k o ew
          exact ⟨by rw [e1, e], by rw [wipe_get, if_neg hj], by unfold isLn; rw [e1]⟩
        have hitems : it.items (wipeR ρ' vs) = some ds := by
          rw [K.loc (wipeR ρ' vs) ρ1 fun p hp => (hsrc p hp).1]
          exact e2
        obtain ⟨kstop, kgo⟩ := K.go σ0 G' own' (wipeR ρ' vs) (L2.wipe σ vs) H' ds t'.ext S' (fun p hp => (hsrc p hp).2) hitems
        by_cases hlt : i < ds.length
        · have hd : ds[i]? = some ds[i] := List.getElem?_eq_getElem hlt
          obtain ⟨kg, ky⟩ := kgo i _ hd
          have hdrop : ds.drop i = ds[i] :: ds.drop (i + 1) := List.drop_eq_getElem_cons hlt
          rw [hdrop] at hr
          refine .inr ⟨kg, fun H'' => ∃ G'' own'' ρ'' acc accV, SR c σ0 G'' own'' (wipeR ρ'' vs) (L2.wipe σ vs) H'' ∧ ρ''.length = σ.length ∧ Tr (wipeR ρ1 vs) (L2.wipe σ vs) G1 own1 H1 (wipeR ρ'' vs) (L2.wipe σ vs) G'' own'' H'' ∧
            H'' Da = some (.lst accV) ∧ Reps c G'' acc accV ∧ G'' Da = none ∧ ¬ ao own'' Da ∧ compN tgt cond elt vs (ds.drop (i + 1)) acc (wipeR ρ'' vs) = res, fun H'' z => ⟨ds.length - (i + 1), by omega, rfl, hlt, z⟩, fun x H2 hy => ?_⟩
          obtain ⟨G2, n2, r2⟩ := ky x H2 hy
          have S2 := n2.sr S'
          have t2 := t'.trans (n2.tr (ρ := wipeR ρ' vs) (σ := L2.wipe σ vs) S'.there)
          unfold compN at hr
          cases e1 : tgt ds[i] (wipeR ρ' vs) with
          | none => rw [e1] at hr; rw [← hr] at q; exact q.elim
          | some ρa =>
            rw [e1] at hr
            refine ⟨G2, own', wipeR ρ' vs, ds[i], S2, r2, ρa, e1, fun σ3 own3 off t3 S3 => ?_⟩
            have hw3 : L2.wipe σ3 vs = L2.wipe σ vs := wipe_off off hts
            refine ⟨hw3, G2, own3, ρa, S3, ?_⟩
            have t23 := t2.trans t3
            dsimp only at hr
            have dkeep : ∀ {ρb : Ro} {σb : St} {Gb Hb : Hp} {ownb : Own}, Tr (wipeR ρ' vs) (L2.wipe σ vs) G' own' H' ρb σb Gb ownb Hb → Hb Da = some (.lst accV) ∧ Gb Da = none ∧ ¬ ao ownb Da := fun {ρb σb Gb Hb ownb} t => by
              refine ⟨t.keep Da _ hD' oD', ?_, fun z => ?_⟩
              · cases z : Gb Da with
                | none => rfl
                | some o =>
                  rcases t.gnew Da o z with w | w | w
                  · rw [gD'] at w; cases w
                  · rw [hD'] at w; cases w
                  · exact absurd w oD'
              · rcases t.onew Da z with w | w
                · exact oD' w
                · rw [hD'] at w; cases w
            have tin := (n2.tr (ρ := wipeR ρ' vs) (σ := L2.wipe σ vs) S'.there).trans t3
            cases e3 : cond ρa with
            | bad => rw [e3] at hr; rw [← hr] at q; exact q.elim
            | ex x ρb => rw [e3] at hr; rw [← hr] at q; exact q.elim
            | ok bb ρb =>
              rw [e3] at hr
              intro G4 own4 H4 b4 t4 S4 R4
              cases R4
              have t24 := t23.trans t4
              have tin4 := tin.trans t4
              cases bb with
              | false =>
                obtain ⟨d1, d2, d3⟩ := dkeep tin4
                refine ⟨G4, own4, ρb, acc, accV, ?_, by rw [S4.len, off.1, wipe_length], t24.wipeOut, d1, ra.mono (tin4.ext), d2, d3, hr⟩
                have := S4.wipe (vs := vs)
                rw [hw3] at this
                exact this
              | true =>
                dsimp only at hr
                refine ⟨G4, own4, ρb, S4, ?_⟩
                cases e4 : elt ρb with
                | bad => rw [e4] at hr; rw [← hr] at q; exact q.elim
                | ex x ρc => rw [e4] at hr; rw [← hr] at q; exact q.elim
                | ok r ρc =>
                  rw [e4] at hr
                  dsimp only at hr
                  intro G5 own5 H5 y t5 S5 R5
                  have t25 := t24.trans t5
                  have tin5 := tin4.trans t5
                  obtain ⟨d1, d2, d3⟩ := dkeep tin5
                  cases e5 : escD r with
                  | none => rw [e5] at hr; rw [← hr] at q; exact q.elim
                  | some dx =>
                    rw [e5] at hr
                    dsimp only at hr
                    by_cases hsz : acc.length < sizeLine
                    · rw [if_pos hsz] at hr
                      refine ⟨accV, d1, by rw [← ra.length]; exact hsz, ?_⟩
                      obtain ⟨d4, d5, d6⟩ := dkeep tin4
                      -- the element is frozen
                      have fin : ∀ G6, Same G5 G6 → Tr (wipeR ρ1 vs) (L2.wipe σ vs) G1 own1 H1 ρc σ3 G6 own5 H5 → SR c σ0 G6 own5 ρc σ3 H5 → G6 Da = none → Rep c G6 dx y →
                          ∃ G'' own'' ρ'' acc2 accV2, SR c σ0 G'' own'' (wipeR ρ'' vs) (L2.wipe σ vs) (upd H5 Da (.lst (accV ++ [y]))) ∧ ρ''.length = σ.length ∧ Tr (wipeR ρ1 vs) (L2.wipe σ vs) G1 own1 H1 (wipeR ρ'' vs) (L2.wipe σ vs) G'' own'' (upd H5 Da (.lst (accV ++ [y]))) ∧
                            (upd H5 Da (.lst (accV ++ [y]))) Da = some (.lst accV2) ∧ Reps c G'' acc2 accV2 ∧ G'' Da = none ∧ ¬ ao own'' Da ∧ compN tgt cond elt vs (ds.drop (i + 1)) acc2 (wipeR ρ'' vs) = res := fun G6 s6 t6 S6 g6 r6 => by
                        have Sw6 := S6.wipe (vs := vs)
                        rw [hw3] at Sw6
                        exact ⟨G6, own5, ρc, acc ++ [dx], accV ++ [y], Sw6.updFree g6 d3, by rw [S6.len, off.1, wipe_length], t6.wipeOut.updFree hDa, upd_same, ((ra.mono tin5.ext).mono s6).append (.cons r6 .nil), g6, d3, hr⟩
                      cases r with
                      | sl j => cases e5
                      | val d =>
                        cases e5
                        exact fin G5 (Same.refl _) t25 S5 d2 R5
                      | nw o =>
                        cases e5
                        obtain ⟨P, ow, k⟩ := R5
                        have nP : ¬ P Da := fun p => by
                          rcases (k Da p).2.2.2 with w | w
                          · rw [d4] at w; cases w
                          · exact d6 w
                        refine fin (frzG G5 H5 P) (frz_same fun b p => (k b p).1) (frz_tr t25 fun b p => ⟨(k b p).1, t24.back (k b p).2.2.2⟩) (S5.frz fun b p => ⟨(k b p).1, (k b p).2.1⟩) (by rw [frz_ne nP]; exact d2) (ow.frz fun b p => (k b p).1)
                    · rw [if_neg hsz] at hr
                      rw [← hr] at q
                      exact q.elim
        · have ed : ds.drop i = [] := List.drop_eq_nil_of_le (by omega)
          rw [ed] at hr
          have hr : Res.ok acc (wipeR ρ' vs) = res := hr
          rw [← hr] at q
          have ei : i = ds.length := by omega
          rw [ei]
          refine .inl ⟨kstop, ?_⟩
          have Su := S'.unwipe hlen
          have tu : Tr ρ σ G own H (wipeR ρ' vs) σ G' own' H' := t1.trans ⟨t'.ext, t'.keep, t'.gnew, t'.onew, fun j k o h => by
            obtain ⟨h1, h2⟩ := (Tr.wipeIn (σ := σ) (G := G1) (own := own1) (H := H1) hn).lent j k o h
            obtain ⟨h3, _⟩ := t'.lent j k o h1
            exact ⟨h3, rfl⟩⟩
          obtain ⟨S2, t2⟩ := SR.undoR (G1 := G') it.src (hu ρ it ρ1 e) Su tu
          exact q G' own' H' (.ref Da) t2 S2 ⟨fun b => b = Da, ⟨Da, accV, rfl, rfl, hD', ra⟩, fun b hb => by
            subst hb
            exact ⟨gD', oD', ⟨_, hD'⟩, t1.back (.inl hDa)⟩⟩
    · rw [if_neg hl] at q
      exact q.elim
end
section
variable {X : Cx} {c : Cn} {σ0 : St} {W : WX}
/-- [elt for target in iter if ..], as a value -/
theorem de_comp {elt tg iter : Expr} {ifs : List Expr} {scope : Scope} {own : List (Str × Nat)} {pos : Pos} {f : M Iter} {ts : List Nat} {tgt : Tgt} {cond : M Bool} {fe : M R} (hc : X.calm = true) (hN : X.N.Nodup) (hi : PI X tg iter (tI c σ0 W f)) (ok : BlkOk X.N X.env.scope scope own) (hu : Und f) (hts : ∀ i ∈ ts, i ∈ own.map (·.2))
    (hg : ∀ (s : Shared) (H : Hp) (C : Addr) (cl : List (Str × Addr)) (fp : List Addr), PG (X.blk s H scope (compEnvC scope cl C X.env) fp) tg (tG c σ0 ts tgt)) (ht : ∀ (s : Shared) (H : Hp) (C : Addr) (cl : List (Str × Addr)) (fp : List Addr), PTs (X.blk s H scope (compEnvC scope cl C X.env) fp) ifs (tT c σ0 (fun _ _ _ _ => False) cond))
    (he : ∀ (s : Shared) (H : Hp) (C : Addr) (cl : List (Str × Addr)) (fp : List Addr), PE (X.blk s H scope (compEnvC scope cl C X.env) fp) elt (tD c σ0 (fun _ _ _ _ => False) fe)) (hs : ∀ x, foldedSetIterable iter X.env x = pure x := by intro _; rfl) :
    PE X (.ListComp elt [⟨tg, iter, ifs, 0⟩] scope pos) (tD c σ0 W (eComp f tgt cond fe (own.map (·.2)))) :=
  PE.imp (pe_lc hc hN hi ok hg ht he hs) fun σ H Q q => tLc_of hts q hu
/-- name = [..] on one line -/
theorem ds_setComp {i : Nat} {y : Str} {py : Pos} {elt tg iter : Expr} {ifs : List Expr} {scope : Scope} {own : List (Str × Nat)} {pos spos : Pos} {f : M Iter} {ts : List Nat} {tgt : Tgt} {cond : M Bool} {fe : M R} (hc : X.calm = true) (hN : X.N.Nodup) (hy : X.N[i]? = some y) (hyl : X.env.scope.names.lookup y = some .local)
    (hsw : swapsWith (.ListComp elt [⟨tg, iter, ifs, 0⟩] scope pos) (some (.Name y py)) spos.line X.env = pure true) (hi : PI X tg iter (tI c σ0 W f)) (ok : BlkOk X.N X.env.scope scope own) (hu : Und f) (hts : ∀ i ∈ ts, i ∈ own.map (·.2))
    (hg : ∀ (s : Shared) (H : Hp) (C : Addr) (cl : List (Str × Addr)) (fp : List Addr), PG (X.blk s H scope (compEnvC scope cl C X.env) fp) tg (tG c σ0 ts tgt)) (ht : ∀ (s : Shared) (H : Hp) (C : Addr) (cl : List (Str × Addr)) (fp : List Addr), PTs (X.blk s H scope (compEnvC scope cl C X.env) fp) ifs (tT c σ0 (fun _ _ _ _ => False) cond))
    (he : ∀ (s : Shared) (H : Hp) (C : Addr) (cl : List (Str × Addr)) (fp : List Addr), PE (X.blk s H scope (compEnvC scope cl C X.env) fp) elt (tD c σ0 (fun _ _ _ _ => False) fe)) (hs : ∀ x, foldedSetIterable iter X.env x = pure x := by intro _; rfl) :
    PS X (.Assign [.Name y py] (.ListComp elt [⟨tg, iter, ifs, 0⟩] scope pos) spos) (tS c σ0 W (sAsg i (eComp f tgt cond fe (own.map (·.2))))) :=
  ds_asg (PS.imp (ps_setLc hc hN hy hyl hsw hi ok hg ht he hs) fun E σ H q => tLc_of hts q hu)
theorem dts_nil : PTs X [] (tT c σ0 W eYes) := ⟨fun pins s σ H Q I q => pts_nil.run pins s σ H Q I (by
  obtain ⟨G, own, ρ, S, q⟩ := q
  exact q G own H true Tr.refl S rfl)⟩
theorem dts_one {x : Expr} {t : M Bool} (h : PT X x (tT c σ0 W t)) : PTs X [x] (tT c σ0 W t) := pts_one h
end
end DL

/-! DLk: the operations. -/
namespace DL
open PySem PySem.Spec PyProof.Rows L2

/-! ### data -/
mutual
def D.py : D → PyData
  | .non => .none
  | .bl b => .bool b
  | .int i => .int i
  | .str x => .str x
  | .tup ds => .tuple (D.pys ds)
  | .lst ds => .list (D.pys ds)
  | _ => .none
def D.pys : List D → List PyData
  | [] => []
  | d :: ds => D.py d :: D.pys ds
end
mutual
def D.data : D → Bool
  | .tup ds => D.datas ds
  | .lst ds => D.datas ds
  | .dct _ => false
  | .ins _ _ => false
  | .scr _ => false
  | _ => true
def D.datas : List D → Bool
  | [] => true
  | d :: ds => D.data d && D.datas ds
end
def pyOk (d : D) : Bool := d.data && SeqAt.shaped d.py
section
variable {c : Cn} {G H : Hp}
mutual
theorem Rep.dp (s : Same G H) : ∀ (d : D) (v : V), Rep c G d v → d.data = true → Dp c.K H v d.py
  | .non, _, h, _ => by cases h; exact .non
  | .bl _, _, h, _ => by cases h; exact .bl _
  | .int _, _, h, _ => by cases h; exact .int _
  | .str _, _, h, _ => by cases h; exact .str _
  | .tup ds, _, h, e => by
    cases h with
    | tup hs r => exact .tup (sqT_same s hs) (Reps.dps s ds _ r e)
  | .lst ds, _, h, e => by
    cases h with
    | lst hs r => exact .lst (.inl (.inl (s _ _ hs))) (Reps.dps s ds _ r e)
  | .dct _, _, _, e => by cases e
  | .ins _ _, _, _, e => by cases e
  | .scr _, _, _, e => by cases e
theorem Reps.dps (s : Same G H) : ∀ (ds : List D) (vs : List V), Reps c G ds vs → D.datas ds = true → DpAll c.K H vs (D.pys ds)
  | [], _, h, _ => by cases h; exact .nil
  | d :: ds, _, h, e => by
    cases h with
    | cons h r =>
      obtain ⟨e1, e2⟩ := Bool.and_eq_true_iff.mp e
      exact .cons (Rep.dp s d _ h e1) (Reps.dps s ds _ r e2)
end
theorem RepR.dp (s : Same G H) {d : D} {v : V} (h : RepR c G H d v) (e : d.data = true) : Dp c.K H v d.py := by
  cases d with
  | non => cases h; exact .non
  | bl b => cases h; exact .bl b
  | int i => cases h; exact .int i
  | str x => cases h; exact .str x
  | tup ds =>
    obtain ⟨a, vs, rfl, hs, r⟩ := h
    exact .tup (sqT_same s hs) (Reps.dps s ds _ r e)
  | lst ds =>
    obtain ⟨a, vs, rfl, hs, r⟩ := h
    exact .lst (.inl (.inl hs)) (Reps.dps s ds _ r e)
  | dct _ => cases e
  | ins _ _ => cases e
  | scr _ => cases e
end

/-! ### the plain functions -/
def vI (i : Int) : Option R := some (.val (.int i))
def vB (b : Bool) : Option R := some (.val (.bl b))
def vS (x : Str) : Option R := some (.val (.str x))
def opAdd : D → D → Option R
  | .int i, .int j => vI (i + j)
  | .str x, .str y => if x.length + y.length ≤ sizeLine then vS (x ++ y) else none
  | .lst ds, .lst es => if ds.length + es.length ≤ sizeLine then some (.nw (.lst (ds ++ es))) else none
  | .tup ds, .tup es => if ds.length + es.length ≤ sizeLine then some (.val (.tup (ds ++ es))) else none
  | _, _ => none
def opSub : D → D → Option R
  | .int i, .int j => vI (i - j)
  | _, _ => none
def mulOk (i j : Int) : Bool := (decide (-(2 ^ 64) < i) && decide (i < 2 ^ 64)) || (decide (-(2 ^ 64) < j) && decide (j < 2 ^ 64))
def repS (x : Str) (k : Nat) : Str := ⟨(List.replicate k x.cps.toList).flatten.toArray⟩
def opMul : D → D → Option R
  | .int i, .int j => if mulOk i j = true then vI (i * j) else none
  | .lst ds, .int k => if (decide (-(2 ^ 63) ≤ k) && decide (k < 2 ^ 63) && decide (ds.length * k.toNat ≤ sizeLine)) = true then some (.nw (.lst (List.replicate k.toNat ds).flatten)) else none
  | _, _ => none
def opMod : D → D → Option R
  | .int i, .int j => if 0 < j then vI (i % j) else none
  | _, _ => none
def opFdiv : D → D → Option R
  | .int i, .int j => if (decide (0 < j) && decide (j.natAbs.log2 < 9000)) = true then vI (i / j) else none
  | _, _ => none
def opPow : D → D → Option R
  | .int i, .int j => if (decide (0 ≤ j) && decide ((Builtin.Int.intBits i : Int) * j ≤ 2 ^ 27)) = true then vI (i ^ j.toNat) else none
  | _, _ => none
def opLt : D → D → Option R
  | .int i, .int j => vB (decide (i < j))
  | .str x, .str y => vB (decide (x.cps.toList < y.cps.toList))
  | _, _ => none
def opLe : D → D → Option R
  | .int i, .int j => vB (decide (i ≤ j))
  | _, _ => none
def opGt : D → D → Option R
  | .int i, .int j => vB (decide (j < i))
  | _, _ => none
def opGe : D → D → Option R
  | .int i, .int j => vB (decide (j ≤ i))
  | _, _ => none
def opEq (d e : D) : Option R := if (pyOk d && pyOk e) = true then vB (PyData.eqv d.py e.py) else none
def opNe (d e : D) : Option R := if (pyOk d && pyOk e) = true then vB (!PyData.eqv d.py e.py) else none
def opIs : D → D → Option R
  | .bl a, .bl b => vB (decide (a = b))
  | .non, .non => vB true
  | .bl _, .non => vB false
  | .int _, .non => vB false
  | .str _, .non => vB false
  | .tup _, .non => vB false
  | .lst _, .non => vB false
  | .ins _ _, .non => vB false
  | _, _ => none
def opIsNot : D → D → Option R
  | .bl a, .bl b => vB (!decide (a = b))
  | .non, .non => vB false
  | .bl _, .non => vB true
  | .int _, .non => vB true
  | .str _, .non => vB true
  | .tup _, .non => vB true
  | .lst _, .non => vB true
  | .ins _ _, .non => vB true
  | _, _ => none
def occB (x y : Str) : Bool := !(Builtin.Str.occurrences y x 0 y.length 1).isEmpty
def flatD : D → Bool
  | .non => true
  | .bl _ => true
  | .int _ => true
  | .str _ => true
  | _ => false
def eqF (y x : D) : Bool := PyData.eqv y.py x.py
def keyD : D → Option Key
  | .int i => some (.inl i)
  | .str x => some (.inr x)
  | _ => none
def inB : D → D → Option Bool
  | .str x, .str y => some (occB x y)
  | d, .lst ds => if (pyOk d && pyOk (.lst ds)) = true then some (ds.any fun z => eqF z d) else none
  | d, .tup ds => if (flatD d && ds.all flatD) = true then some (ds.any fun z => eqF z d) else none
  | d, .dct kvs => (keyD d).map fun k => kvs.any fun p => decide (p.1 = k)
  | _, _ => none
def opIn (d e : D) : Option R := (inB d e).bind vB
def opNotIn (d e : D) : Option R := (inB d e).bind fun b => vB (!b)
def opNeg : D → Option R
  | .int i => vI (-i)
  | _ => none
def lenD : D → Option Nat
  | .str x => if x.length ≤ sizeLine then some x.length else none
  | .lst ds => some ds.length
  | .tup ds => some ds.length
  | .scr ns => some ns.length
  | _ => none
def cLen : List D → Option R
  | [d] => (lenD d).bind fun n => vI (n : Int)
  | _ => none
def cInt : List D → Option R
  | [.int i] => vI i
  | [.bl k] => vI (if k then 1 else 0)
  | _ => none
def cAbs : List D → Option R
  | [.int i] => vI (if i < 0 then -i else i)
  | _ => none
def cStr : List D → Option R
  | [.int i] => if i.natAbs.log2 < 1920 then vS (toString i) else none
  | _ => none
def cList : List D → Option R
  | [.lst ds] => some (.nw (.lst ds))
  | [.tup ds] => some (.nw (.lst ds))
  | _ => none
def cTuple : List D → Option R
  | [.lst ds] => some (.val (.tup ds))
  | [.tup ds] => some (.val (.tup ds))
  | _ => none
def boolsD : List D → Option (List Bool)
  | [] => some []
  | .bl b :: ds => (boolsD ds).map (b :: ·)
  | _ :: _ => none
def intsD : List D → Option (List Int)
  | [] => some []
  | .int b :: ds => (intsD ds).map (b :: ·)
  | _ :: _ => none
def strsD : List D → Option (List Str)
  | [] => some []
  | .str b :: ds => (strsD ds).map (b :: ·)
  | _ :: _ => none
def cAll : List D → Option R
  | [.lst ds] => (boolsD ds).bind fun bs => vB (bs.all id)
  | _ => none
def cAny : List D → Option R
  | [.lst ds] => (boolsD ds).bind fun bs => vB (bs.any id)
  | _ => none
def cSum : List D → Option R
  | [.lst ds] => (intsD ds).bind fun bs => vI bs.sum
  | _ => none

section
variable {X : Cx} {c : Cn} {G H : Hp}
theorem RO.nwl {vs : List V} {ds : List D} {p : Addr} (r : Reps c G ds vs) (s : Same G H) (hp : H p = none) : New G H G (upd H p (.lst vs)) ∧ RO c G (upd H p (.lst vs)) H (.nw (.lst ds)) (.ref p) := by
  have gp : G p = none := by
    cases e : G p with
    | none => rfl
    | some o => rw [s p o e] at hp; cases hp
  refine ⟨⟨fun b o e => by rw [upd_ne (ne_of_none e hp)]; exact e, Same.refl _, fun b o e => by rw [upd_ne (ne_of_none e gp)]; exact s b o e, fun b o e => .inl e⟩, fun b => b = p, ⟨p, vs, rfl, rfl, upd_same, r⟩, fun b hb => ?_⟩
  subst hb
  exact ⟨gp, ⟨_, upd_same⟩, hp⟩
theorem RO.nwt {vs : List V} {ds : List D} {p : Addr} (r : Reps c G ds vs) (s : Same G H) (hp : H p = none) : ∃ G', New G H G' (upd H p (.tup vs)) ∧ RO c G' (upd H p (.tup vs)) H (.val (.tup ds)) (.ref p) := by
  have gp : G p = none := by
    cases e : G p with
    | none => rfl
    | some o => rw [s p o e] at hp; cases hp
  have s1 : Same G (upd G p (.tup vs)) := fun b o e => by rw [upd_ne (ne_of_none e gp)]; exact e
  refine ⟨upd G p (.tup vs), ⟨fun b o e => by rw [upd_ne (ne_of_none e hp)]; exact e, s1, fun b o e => ?_, fun b o e => ?_⟩, .tup (SqT.of upd_same) (r.mono s1)⟩
  · by_cases z : b = p
    · subst z; rw [upd_same] at e ⊢; exact e
    · rw [upd_ne z] at e ⊢; exact s b o e
  · by_cases z : b = p
    · subst z; exact .inr hp
    · rw [upd_ne z] at e; exact .inl e
/-- a value that is read stands still -/
theorem RO.same {d : D} {v : V} (h : Rep c G d v) (s : Same G H) : New G H G H ∧ RO c G H H (.val d) v := ⟨New.refl s, h⟩

theorem o_add (hK : c.K = X.K) : OpR X (binaryOp .Add) (rD c opAdd) := by
  intro pins s σ H x y v u Q I rx ry ⟨G, d, e, r, sg, hd, he, ho, k⟩
  cases d with
  | int i =>
    cases e with
    | int j =>
      cases ho; cases hd; cases he
      exact op_add pins s σ H _ _ v u Q I rx ry ⟨i, j, rfl, rfl, k G H _ (New.refl sg) (Rep.int _)⟩
    | _ => cases ho
  | str a =>
    cases e with
    | str b =>
      have ho : (if a.length + b.length ≤ sizeLine then vS (a ++ b) else none) = some r := ho
      by_cases hl : a.length + b.length ≤ sizeLine
      · rw [if_pos hl] at ho
        cases ho; cases hd; cases he
        exact op_add_str pins s σ H _ _ v u Q I rx ry ⟨a, b, rfl, rfl, hl, k G H _ (New.refl sg) (Rep.str _)⟩
      · rw [if_neg hl] at ho; cases ho
    | _ => cases ho
  | lst ds =>
    cases e with
    | lst es =>
      have ho : (if ds.length + es.length ≤ sizeLine then some (R.nw (.lst (ds ++ es))) else none) = some r := ho
      by_cases hl : ds.length + es.length ≤ sizeLine
      · rw [if_pos hl] at ho
        cases ho
        obtain ⟨a, vs, rfl, h1, r1⟩ := hd
        obtain ⟨b, ws, rfl, h2, r2⟩ := he
        refine op_cat pins s σ H _ _ v u Q I rx ry ⟨a, b, vs, ws, rfl, rfl, h1, h2, by rw [← r1.length, ← r2.length]; exact hl, fun p hp => ?_⟩
        obtain ⟨n, o⟩ := RO.nwl (r1.append r2) sg hp
        exact k G _ _ n o
      · rw [if_neg hl] at ho; cases ho
    | _ => cases ho
  | tup ds =>
    cases e with
    | tup es =>
      have ho : (if ds.length + es.length ≤ sizeLine then some (R.val (.tup (ds ++ es))) else none) = some r := ho
      by_cases hl : ds.length + es.length ≤ sizeLine
      · rw [if_pos hl] at ho
        cases ho
        obtain ⟨a, vs, rfl, h1, r1⟩ := hd
        obtain ⟨b, ws, rfl, h2, r2⟩ := he
        have h1' := sqT_same sg h1
        have h2' := sqT_same sg h2
        rw [hK] at h1' h2'
        refine op_catA pins s σ H _ _ v u Q I rx ry ⟨a, b, vs, ws, rfl, rfl, h1', h2', by rw [← r1.length, ← r2.length]; exact hl, fun z => ?_, fun _ z => ?_, fun _ _ p hp => ?_⟩
        · subst z
          cases r1
          exact k G H _ (New.refl sg) (Rep.tup h2 r2)
        · subst z
          cases r2
          refine k G H _ (New.refl sg) ?_
          show Rep c G (.tup (ds ++ [])) _
          rw [List.append_nil]
          exact Rep.tup h1 r1
        · obtain ⟨G', n, o⟩ := RO.nwt (r1.append r2) sg hp
          exact k G' _ _ n o
      · rw [if_neg hl] at ho; cases ho
    | _ => cases ho
  | _ => cases ho
theorem o_sub : OpR X (binaryOp .Sub) (rD c opSub) := by
  intro pins s σ H x y v u Q I rx ry ⟨G, d, e, r, sg, hd, he, ho, k⟩
  cases d with
  | int i =>
    cases e with
    | int j =>
      cases ho; cases hd; cases he
      exact op_sub pins s σ H _ _ v u Q I rx ry ⟨i, j, rfl, rfl, k G H _ (New.refl sg) (Rep.int _)⟩
    | _ => cases ho
  | _ => cases ho
theorem mulOk_of {i j : Int} (h : mulOk i j = true) : CMul i j := by
  unfold mulOk at h
  rcases Bool.or_eq_true_iff.mp h with h | h
  · exact .inl (by simpa using h)
  · exact .inr (by simpa using h)
theorem o_mul : OpR X (binaryOp .Mult) (rD c opMul) := by
  intro pins s σ H x y v u Q I rx ry ⟨G, d, e, r, sg, hd, he, ho, k⟩
  cases d with
  | int i =>
    cases e with
    | int j =>
      have ho : (if mulOk i j = true then vI (i * j) else none) = some r := ho
      by_cases hm : mulOk i j = true
      · rw [if_pos hm] at ho
        cases ho; cases hd; cases he
        exact op_mul pins s σ H _ _ v u Q I rx ry ⟨i, j, rfl, rfl, mulOk_of hm, k G H _ (New.refl sg) (Rep.int _)⟩
      · rw [if_neg hm] at ho; cases ho
    | _ => cases ho
  | lst ds =>
    cases e with
    | int j =>
      have ho : (if (decide (-(2 ^ 63) ≤ j) && decide (j < 2 ^ 63) && decide (ds.length * j.toNat ≤ sizeLine)) = true then some (R.nw (.lst (List.replicate j.toNat ds).flatten)) else none) = some r := ho
      by_cases hm : (decide (-(2 ^ 63) ≤ j) && decide (j < 2 ^ 63) && decide (ds.length * j.toNat ≤ sizeLine)) = true
      · rw [if_pos hm] at ho
        cases ho; cases he
        obtain ⟨a, vs, rfl, h1, r1⟩ := hd
        simp only [Bool.and_eq_true, decide_eq_true_eq] at hm
        refine op_rep pins s σ H _ _ v u Q I rx ry ⟨a, j, vs, rfl, rfl, h1, hm.1.1, hm.1.2, by rw [← r1.length]; exact hm.2, fun p hp => ?_⟩
        have rep : ∀ n : Nat, Reps c G (List.replicate n ds).flatten (List.replicate n vs).flatten := fun n => by
          induction n with
          | zero => exact .nil
          | succ n ih =>
            rw [List.replicate_succ, List.replicate_succ, List.flatten_cons, List.flatten_cons]
            exact r1.append ih
        obtain ⟨n, o⟩ := RO.nwl (rep j.toNat) sg hp
        exact k G _ _ n o
      · rw [if_neg hm] at ho; cases ho
    | _ => cases ho
  | _ => cases ho
theorem o_mod : OpR X (binaryOp .Mod) (rD c opMod) := by
  intro pins s σ H x y v u Q I rx ry ⟨G, d, e, r, sg, hd, he, ho, k⟩
  cases d with
  | int i =>
    cases e with
    | int j =>
      have ho : (if 0 < j then vI (i % j) else none) = some r := ho
      by_cases hm : 0 < j
      · rw [if_pos hm] at ho
        cases ho; cases hd; cases he
        exact op_mod pins s σ H _ _ v u Q I rx ry ⟨i, j, rfl, rfl, hm, k G H _ (New.refl sg) (Rep.int _)⟩
      · rw [if_neg hm] at ho; cases ho
    | _ => cases ho
  | _ => cases ho
theorem o_fdiv : OpR X (binaryOp .FloorDiv) (rD c opFdiv) := by
  intro pins s σ H x y v u Q I rx ry ⟨G, d, e, r, sg, hd, he, ho, k⟩
  cases d with
  | int i =>
    cases e with
    | int j =>
      have ho : (if (decide (0 < j) && decide (j.natAbs.log2 < 9000)) = true then vI (i / j) else none) = some r := ho
      by_cases hm : (decide (0 < j) && decide (j.natAbs.log2 < 9000)) = true
      · rw [if_pos hm] at ho
        cases ho; cases hd; cases he
        simp only [Bool.and_eq_true, decide_eq_true_eq] at hm
        exact op_fdivW pins s σ H _ _ v u Q I rx ry ⟨i, j, rfl, rfl, hm, k G H _ (New.refl sg) (Rep.int _)⟩
      · rw [if_neg hm] at ho; cases ho
    | _ => cases ho
  | _ => cases ho
theorem o_pow : OpR X (binaryOp .Pow) (rD c opPow) := by
  intro pins s σ H x y v u Q I rx ry ⟨G, d, e, r, sg, hd, he, ho, k⟩
  cases d with
  | int i =>
    cases e with
    | int j =>
      have ho : (if (decide (0 ≤ j) && decide ((Builtin.Int.intBits i : Int) * j ≤ 2 ^ 27)) = true then vI (i ^ j.toNat) else none) = some r := ho
      by_cases hm : (decide (0 ≤ j) && decide ((Builtin.Int.intBits i : Int) * j ≤ 2 ^ 27)) = true
      · rw [if_pos hm] at ho
        cases ho; cases hd; cases he
        simp only [Bool.and_eq_true, decide_eq_true_eq] at hm
        obtain ⟨t, rfl⟩ := rx
        obtain ⟨t', rfl⟩ := ry
        exact pow_int hm.1 hm.2 ⟨.int _, H, I.tok _, ⟨_, rfl⟩, k G H _ (New.refl sg) (Rep.int _)⟩
      · rw [if_neg hm] at ho; cases ho
    | _ => cases ho
  | _ => cases ho
theorem o_lt : OpR X (compareOp .Lt) (rD c opLt) := by
  intro pins s σ H x y v u Q I rx ry ⟨G, d, e, r, sg, hd, he, ho, k⟩
  cases d with
  | int i =>
    cases e with
    | int j =>
      cases ho; cases hd; cases he
      exact op_lt pins s σ H _ _ v u Q I rx ry ⟨i, j, rfl, rfl, k G H _ (New.refl sg) (Rep.bl _)⟩
    | _ => cases ho
  | str i =>
    cases e with
    | str j =>
      cases ho; cases hd; cases he
      exact op_lt_str pins s σ H _ _ v u Q I rx ry ⟨i, j, rfl, rfl, k G H _ (New.refl sg) (Rep.bl _)⟩
    | _ => cases ho
  | _ => cases ho
theorem o_le : OpR X (compareOp .LtE) (rD c opLe) := by
  intro pins s σ H x y v u Q I rx ry ⟨G, d, e, r, sg, hd, he, ho, k⟩
  cases d with
  | int i =>
    cases e with
    | int j =>
      cases ho; cases hd; cases he
      exact op_le pins s σ H _ _ v u Q I rx ry ⟨i, j, rfl, rfl, k G H _ (New.refl sg) (Rep.bl _)⟩
    | _ => cases ho
  | _ => cases ho
theorem o_gt : OpR X (compareOp .Gt) (rD c opGt) := by
  intro pins s σ H x y v u Q I rx ry ⟨G, d, e, r, sg, hd, he, ho, k⟩
  cases d with
  | int i =>
    cases e with
    | int j =>
      cases ho; cases hd; cases he
      exact op_gt pins s σ H _ _ v u Q I rx ry ⟨i, j, rfl, rfl, k G H _ (New.refl sg) (Rep.bl _)⟩
    | _ => cases ho
  | _ => cases ho
theorem o_ge : OpR X (compareOp .GtE) (rD c opGe) := by
  intro pins s σ H x y v u Q I rx ry ⟨G, d, e, r, sg, hd, he, ho, k⟩
  cases d with
  | int i =>
    cases e with
    | int j =>
      cases ho; cases hd; cases he
      exact op_ge pins s σ H _ _ v u Q I rx ry ⟨i, j, rfl, rfl, k G H _ (New.refl sg) (Rep.bl _)⟩
    | _ => cases ho
  | _ => cases ho
theorem pyOk_of {d : D} (h : pyOk d = true) : d.data = true ∧ SeqAt.shaped d.py = true := Bool.and_eq_true_iff.mp h
theorem o_eq (hK : c.K = X.K) (hu : X.A.units + 64 < cLine) : OpR X (compareOp .Eq) (rD c opEq) := by
  intro pins s σ H x y v u Q I rx ry ⟨G, d, e, r, sg, hd, he, ho, k⟩
  unfold opEq at ho
  by_cases hm : (pyOk d && pyOk e) = true
  · rw [if_pos hm] at ho
    cases ho
    obtain ⟨h1, h2⟩ := Bool.and_eq_true_iff.mp hm
    have d1 := hd.dp sg (pyOk_of h1).1
    have d2 := he.dp sg (pyOk_of h2).1
    rw [hK] at d1 d2
    exact op_eqD hu pins s σ H _ _ v u Q I rx ry ⟨_, _, d1, d2, (pyOk_of h1).2, (pyOk_of h2).2, k G H _ (New.refl sg) (Rep.bl _)⟩
  · rw [if_neg hm] at ho; cases ho
theorem o_ne (hK : c.K = X.K) (hu : X.A.units + 64 < cLine) : OpR X (compareOp .NotEq) (rD c opNe) := by
  intro pins s σ H x y v u Q I rx ry ⟨G, d, e, r, sg, hd, he, ho, k⟩
  unfold opNe at ho
  by_cases hm : (pyOk d && pyOk e) = true
  · rw [if_pos hm] at ho
    cases ho
    obtain ⟨h1, h2⟩ := Bool.and_eq_true_iff.mp hm
    have d1 := hd.dp sg (pyOk_of h1).1
    have d2 := he.dp sg (pyOk_of h2).1
    rw [hK] at d1 d2
    exact op_neD hu pins s σ H _ _ v u Q I rx ry ⟨_, _, d1, d2, (pyOk_of h1).2, (pyOk_of h2).2, k G H _ (New.refl sg) (Rep.bl _)⟩
  · rw [if_neg hm] at ho; cases ho
theorem o_is : OpR X (compareOp .Is) (rD c opIs) := by
  intro pins s σ H x y v u Q I rx ry ⟨G, d, e, r, sg, hd, he, ho, k⟩
  have isn : ∀ {b : Bool}, r = .val (.bl b) → y = .non → decide (x = .non) = b → wpAny (model X.prog X.w) X.A (compareOp .Is v u) (EP X pins σ Q) X.xe s := fun {b} hr hy hx => by
    subst hr
    exact op_isN pins s σ H _ _ v u Q I rx ry ⟨hy, by rw [hx]; exact k G H _ (New.refl sg) (Rep.bl _)⟩
  cases d with
  | bl a =>
    cases e with
    | bl b =>
      cases ho; cases hd; cases he
      exact op_is_bl pins s σ H _ _ v u Q I rx ry ⟨a, b, rfl, rfl, k G H _ (New.refl sg) (Rep.bl _)⟩
    | non => cases ho; cases hd; exact isn rfl he (by simp)
    | _ => cases ho
  | non =>
    cases e with
    | non => cases ho; cases hd; exact isn rfl he (by simp)
    | _ => cases ho
  | int a =>
    cases e with
    | non => cases ho; cases hd; exact isn rfl he (by simp)
    | _ => cases ho
  | str a =>
    cases e with
    | non => cases ho; cases hd; exact isn rfl he (by simp)
    | _ => cases ho
  | tup ds =>
    cases e with
    | non => cases ho; obtain ⟨_, _, rfl, _⟩ := hd; exact isn rfl he (by simp)
    | _ => cases ho
  | lst ds =>
    cases e with
    | non => cases ho; obtain ⟨_, _, rfl, _⟩ := hd; exact isn rfl he (by simp)
    | _ => cases ho
  | ins n fs =>
    cases e with
    | non => cases ho; obtain ⟨_, _, _, _, rfl, _⟩ := hd; exact isn rfl he (by simp)
    | _ => cases ho
  | _ => cases ho
theorem o_isnot : OpR X (compareOp .IsNot) (rD c opIsNot) := by
  intro pins s σ H x y v u Q I rx ry ⟨G, d, e, r, sg, hd, he, ho, k⟩
  have isn : ∀ {b : Bool}, r = .val (.bl b) → y = .non → (!decide (x = .non)) = b → wpAny (model X.prog X.w) X.A (compareOp .IsNot v u) (EP X pins σ Q) X.xe s := fun {b} hr hy hx => by
    subst hr
    exact op_notN pins s σ H _ _ v u Q I rx ry ⟨hy, by rw [hx]; exact k G H _ (New.refl sg) (Rep.bl _)⟩
  cases d with
  | bl a =>
    cases e with
    | bl b =>
      cases ho; cases hd; cases he
      exact op_isnot_bl pins s σ H _ _ v u Q I rx ry ⟨a, b, rfl, rfl, k G H _ (New.refl sg) (Rep.bl _)⟩
    | non => cases ho; cases hd; exact isn rfl he (by simp)
    | _ => cases ho
  | non =>
    cases e with
    | non => cases ho; cases hd; exact isn rfl he (by simp)
    | _ => cases ho
  | int a =>
    cases e with
    | non => cases ho; cases hd; exact isn rfl he (by simp)
    | _ => cases ho
  | str a =>
    cases e with
    | non => cases ho; cases hd; exact isn rfl he (by simp)
    | _ => cases ho
  | tup ds =>
    cases e with
    | non => cases ho; obtain ⟨_, _, rfl, _⟩ := hd; exact isn rfl he (by simp)
    | _ => cases ho
  | lst ds =>
    cases e with
    | non => cases ho; obtain ⟨_, _, rfl, _⟩ := hd; exact isn rfl he (by simp)
    | _ => cases ho
  | ins n fs =>
    cases e with
    | non => cases ho; obtain ⟨_, _, _, _, rfl, _⟩ := hd; exact isn rfl he (by simp)
    | _ => cases ho
  | _ => cases ho
theorem o_neg : UnR X (unaryOp .USub) (rD1 c opNeg) := by
  intro pins s σ H x v Q I rx ⟨G, d, r, sg, hd, ho, k⟩
  cases d with
  | int i =>
    cases ho; cases hd
    exact un_neg pins s σ H _ v Q I rx ⟨i, rfl, k G H _ (New.refl sg) (Rep.int _)⟩
  | _ => cases ho
end
end DL

/-! DLl: freezing, displays, chains, in. -/
namespace DL
open PySem PySem.Spec PyProof.Rows L2

def frzR (r : R) : M R := fun ρ => match r with
  | .val d => .ok (.val d) ρ
  | .nw o => .ok (.val o.toD) ρ
  | .sl j => match ρ[j]? with
    | some (.ow false o) => .ok (.val o.toD) (ρ.set j (.fz o.toD))
    | _ => .bad
/-- the value is frozen: it may stand in a list from now on -/
def eFz (f : M R) : M R := f.bind frzR
def valsR : List R → Option (List D)
  | [] => some []
  | .val d :: rs => (valsR rs).map (d :: ·)
  | _ :: _ => none
def tupR (rs : List R) : M R := fun ρ => match valsR rs with
  | some ds => if ds.length ≤ sizeLine then .ok (.val (.tup ds)) ρ else .bad
  | none => .bad
def lstR (rs : List R) : M R := fun ρ => match valsR rs with
  | some ds => if ds.length ≤ sizeLine then .ok (.nw (.lst ds)) ρ else .bad
  | none => .bad
def eTup (f : M (List R)) : M R := f.bind tupR
def eLst (f : M (List R)) : M R := f.bind lstR
def chainK (op' : D → D → Option R) (b : R) (fc : M R) (r : R) : M R := match r with
  | .val (.bl true) => fc.bind fun c => opE op' b c
  | .val (.bl false) => M.ret (.val (.bl false))
  | _ => fun _ => .bad
def eChain (op op' : D → D → Option R) (fa fb fc : M R) : M R := fa.bind fun a => fb.bind fun b => (opE op a b).bind (chainK op' b fc)

section
variable {X : Cx} {c : Cn} {σ0 : St} {W : WX} {σ : St} {ρ : Ro} {G H : Hp} {own : Own} {a b e : Expr} {es : List Expr} {pos : Pos} {f g fa fb fc : M R} {op op' : D → D → Option R}

/-- a slot's object goes into the frozen part -/
theorem SR.freeze {j : Nat} {o : OV} {v : V} {ρ0 : Ro} {G0 H0 : Hp} {own0 : Own} (S : SR c σ0 G own ρ σ H) (t : Tr ρ0 σ G0 own0 H0 ρ σ G own H) (q : ρ[j]? = some (.ow false o)) (hv : σ[j]? = some (some v)) :
    ∃ G' own', Tr ρ0 σ G0 own0 H0 (ρ.set j (.fz o.toD)) σ G' own' H ∧ SR c σ0 G' own' (ρ.set j (.fz o.toD)) σ H ∧ Rep c G' o.toD v ∧ Same G G' := by
  obtain ⟨w, hw, S1, x, k⟩ := S.take q
  rw [hv] at hw
  cases hw
  have S2 := S1.frz (P := own j) fun b p => ⟨(k b p).1, (k b p).2.1⟩
  have z : Rep c (frzG G H (own j)) o.toD v := x.frz fun b p => (k b p).1
  have S3 := S2.know (by rw [List.getElem?_set_self (lt_of_get q)]) hv z
  rw [List.set_set] at S3
  have t1 : Tr ρ0 σ G0 own0 H0 (ρ.set j (.fz o.toD)) σ G (minO own j) H := t.take q
  have t2 := frz_tr (P := own j) t1 fun b p => ⟨(k b p).1, (t.onew b ⟨j, p⟩).symm⟩
  exact ⟨_, _, t2, S3, z, frz_same fun b p => (k b p).1⟩
theorem de_fz (h : PE X e (tD c σ0 W f)) : PE X e (tD c σ0 W (eFz f)) := PE.imp h fun σ H Q q => by
  obtain ⟨G, own, ρ, S, q⟩ := q
  refine XP.bind S q fun r ρ1 G1 own1 H1 v t1 S1 R1 h1 => ?_
  cases r with
  | val d => exact h1 G1 own1 H1 v t1 S1 R1
  | nw o =>
    obtain ⟨P, x, k⟩ := R1
    exact h1 (frzG G1 H1 P) own1 H1 v (frz_tr t1 fun b p => ⟨(k b p).1, (k b p).2.2.2⟩) (S1.frz fun b p => ⟨(k b p).1, (k b p).2.1⟩) (x.frz fun b p => (k b p).1)
  | sl j =>
    unfold frzR at h1
    dsimp only at h1
    cases q : ρ1[j]? with
    | none => rw [q] at h1; exact h1.elim
    | some s =>
      rw [q] at h1
      cases s with
      | no => exact h1.elim
      | fz d => exact h1.elim
      | ln k o => exact h1.elim
      | ow k o =>
        cases k with
        | true => exact h1.elim
        | false =>
          obtain ⟨G', own', t2, S2, z, _⟩ := S1.freeze t1 q R1
          exact h1 G' own' H1 v t2 S2 z
theorem RRs.vals : ∀ {rs : List R} {vs : List V} {ds : List D}, RRs c G σ rs vs → valsR rs = some ds → Reps c G ds vs
  | _, _, _, .nil, e => by cases e; exact .nil
  | _, _, ds, .val (rs := rs) h r, e => by
    unfold valsR at e
    cases q : valsR rs with
    | none => rw [q] at e; cases e
    | some es =>
      rw [q] at e
      cases e
      exact .cons h (RRs.vals r q)
  | _, _, ds, .sl h r, e => by cases e

theorem de_tup {x1} {fa : M (List R)} (h : PA X es (tA c σ0 W fa)) : PE X (.Tuple es x1 pos) (tD c σ0 W (eTup fa)) := PE.imp (pe_tup h) fun σ H Q q => by
  obtain ⟨G, own, ρ, S, q⟩ := q
  refine XP.bind S q fun rs ρ1 G1 own1 H1 vs t1 S1 R1 h1 => ?_
  unfold tupR at h1
  cases e : valsR rs with
  | none => rw [e] at h1; exact h1.elim
  | some ds =>
    rw [e] at h1
    dsimp only at h1
    have r := R1.vals e
    by_cases hl : ds.length ≤ sizeLine
    · rw [if_pos hl] at h1
      refine ⟨by rw [← r.length]; exact hl, fun p hp => ?_⟩
      obtain ⟨G', n, o⟩ := RO.nwt r S1.same hp
      exact XP.new S1 (XP.from t1 h1 (relR_mono c)) n o
    · rw [if_neg hl] at h1; exact h1.elim
theorem de_lst {fa : M (List R)} (h : PA X es (tA c σ0 W fa)) : PE X (.List es pos) (tD c σ0 W (eLst fa)) := PE.imp (pe_lst h) fun σ H Q q => by
  obtain ⟨G, own, ρ, S, q⟩ := q
  refine XP.bind S q fun rs ρ1 G1 own1 H1 vs t1 S1 R1 h1 => ?_
  unfold lstR at h1
  cases e : valsR rs with
  | none => rw [e] at h1; exact h1.elim
  | some ds =>
    rw [e] at h1
    dsimp only at h1
    have r := R1.vals e
    by_cases hl : ds.length ≤ sizeLine
    · rw [if_pos hl] at h1
      refine ⟨by rw [← r.length]; exact hl, fun p hp => ?_⟩
      obtain ⟨n, o⟩ := RO.nwl r S1.same hp
      exact XP.new S1 (XP.from t1 h1 (relR_mono c)) n o
    · rw [if_neg hl] at h1; exact h1.elim

/-! ### a < b < c -/
theorem XP.op2k {k : R → M R} {Q T : VK} {r1 r2 : R} {v w : V} {N1 N2 : Addr → Prop} (S : SR c σ0 G own ρ σ H) (h : XP (relR c) c σ0 W σ ρ G own H Q (M.bind (opE op r1 r2) k ρ)) (h1 : RR c G own σ H N1 r1 v) (h2 : RR c G own σ H N2 r2 w)
    (hk : ∀ r G' H' v', New G H G' H' → RO c G' H' H r v' → XP (relR c) c σ0 W σ ρ G own H Q (k r ρ) → T v' H') : rD c op v w H T := by
  unfold M.bind opE at h
  cases e1 : deref ρ r1 with
  | none => rw [e1] at h; exact h.elim
  | some d =>
    cases e2 : deref ρ r2 with
    | none => rw [e1, e2] at h; exact h.elim
    | some e =>
      rw [e1, e2] at h
      dsimp only at h
      cases e3 : op d e with
      | none => rw [e3] at h; exact h.elim
      | some r =>
        rw [e3] at h
        exact ⟨G, d, e, r, S.same, deref_rd S h1 e1, deref_rd S h2 e2, e3, fun G' H' v' n o => hk r G' H' v' n o h⟩
theorem tChain_of {Q : VK} (h : tD c σ0 W (eChain op op' fa fb fc) σ H Q) : tChain (rD c op) (rD c op') (tD c σ0 W fa) (tD c σ0 W fb) (tD c σ0 W fc) σ H Q := by
  obtain ⟨G, own, ρ, S, h⟩ := h
  refine XP.bind S h fun r1 ρ1 G1 own1 H1 v t1 S1 R1 h1 => ?_
  refine XP.bind S1 (XP.from t1 h1 (relR_mono c)) fun r2 ρ2 G2 own2 H2 w t2 S2 R2 h2 => ?_
  refine XP.op2k S2 (XP.from t2 h2 (relR_mono c)) (R1.step t2) R2 fun r G3 H3 v3 n o h3 => ?_
  cases r with
  | sl j => exact h3.elim
  | nw o => exact h3.elim
  | val d =>
    cases d with
    | bl k =>
      cases o
      refine ⟨k, rfl, ?_⟩
      have t3 : Tr ρ2 σ G2 own2 H2 ρ2 σ G3 own2 H3 := n.tr S2.there
      have S3 := n.sr S2
      cases k with
      | true =>
        refine XP.bind S3 (XP.from t3 h3 (relR_mono c)) fun r4 ρ4 G4 own4 H4 v4 t4 S4 R4 h4 => ?_
        exact XP.op2 (ρ0 := ρ) (G0 := G) (H0 := H) (own0 := own) S4 (XP.from t4 h4 (relR_mono c)) ((R2.step t3).step t4) R4
      | false => exact XP.ret S3 (XP.from t3 h3 (relR_mono c)) (Rep.bl _)
    | _ => exact h3.elim
theorem de_chain {o o' : CmpOp} {e1 e2 e3 : Expr} (ho : OpR X (compareOp o) (rD c op)) (ho' : OpR X (compareOp o') (rD c op')) (ha : PE X e1 (tD c σ0 W fa)) (hb : PE X e2 (tD c σ0 W fb)) (hc : PE X e3 (tD c σ0 W fc))
    (hm : lastMarks [o, o'] [e2, e3] = false := by with_unfolding_all rfl) : PE X (.Compare e1 [o, o'] [e2, e3] pos) (tD c σ0 W (eChain op op' fa fb fc)) :=
  PE.imp (pe_chain ho ho' ha hb hc hm) fun _ _ _ h => tChain_of h
theorem dt_chain {o o' : CmpOp} {e1 e2 e3 : Expr} (ho : OpR X (compareOp o) (rD c op)) (ho' : OpR X (compareOp o') (rD c op')) (ha : PE X e1 (tD c σ0 W fa)) (hb : PE X e2 (tD c σ0 W fb)) (hc : PE X e3 (tD c σ0 W fc))
    (hm : lastMarks [o, o'] [e2, e3] = false := by with_unfolding_all rfl) : PT X (.Compare e1 [o, o'] [e2, e3] pos) (tT c σ0 W (eBool (eChain op op' fa fb fc))) :=
  PT.imp (pt_chain ho ho' ha hb hc hm) fun _ _ _ h => tChain_of (tTest_of h)

/-! ### in -/
theorem pys_any {ds : List D} {d : D} : ((D.pys ds).any fun z => PyData.eqv z d.py) = ds.any fun z => eqF z d := by
  induction ds with
  | nil => rfl
  | cons e es ih =>
    show (_ || _) = (_ || _)
    rw [ih]
    rfl
theorem flat_eq {d e : D} {v w : V} (hd : RepR c G H d v) (he : Rep c G e w) (fd : flatD d = true) (fe : flatD e = true) : eqV w v = eqF e d ∧ flatV w = true ∧ flatV v = true := by
  unfold eqF
  cases d with
  | non => cases hd; cases e <;> first | (cases he; exact ⟨rfl, rfl, rfl⟩) | cases fe
  | bl x => cases hd; cases e <;> first | (cases he; exact ⟨rfl, rfl, rfl⟩) | cases fe
  | int x => cases hd; cases e <;> first | (cases he; exact ⟨rfl, rfl, rfl⟩) | cases fe
  | str x => cases hd; cases e <;> first | (cases he; exact ⟨rfl, rfl, rfl⟩) | cases fe
  | _ => cases fd
theorem flat_in {d : D} {v : V} (hd : RepR c G H d v) (fd : flatD d = true) : ∀ {ds : List D} {vs : List V}, Reps c G ds vs → ds.all flatD = true → inV v vs = (ds.any fun z => eqF z d) ∧ vs.all flatV = true
  | _, _, .nil, _ => ⟨rfl, rfl⟩
  | _, _, .cons h r, e => by
    rw [List.all_cons] at e
    obtain ⟨e1, e2⟩ := Bool.and_eq_true_iff.mp e
    obtain ⟨k1, k2, _⟩ := flat_eq hd h fd e1
    obtain ⟨i1, i2⟩ := flat_in hd fd r e2
    refine ⟨?_, by rw [List.all_cons, k2, i2]; rfl⟩
    unfold inV at i1 ⊢
    rw [List.any_cons, List.any_cons, k1, i1]
theorem flat_self {d : D} {v : V} (hd : RepR c G H d v) (fd : flatD d = true) : flatV v = true := by
  cases d with
  | non => cases hd; rfl
  | bl x => cases hd; rfl
  | int x => cases hd; rfl
  | str x => cases hd; rfl
  | _ => cases fd
theorem keys_val {ds : List (Key × D)} {kvs : List (Key × V)} {k : Key} (h : ds.map (·.1) = kvs.map (·.1)) : (valV kvs k).isSome = ds.any fun p => decide (p.1 = k) := by
  induction ds generalizing kvs with
  | nil => cases kvs with
    | nil => rfl
    | cons q r => cases h
  | cons p l ih =>
    cases kvs with
    | nil => cases h
    | cons q r =>
      rw [List.map_cons, List.map_cons] at h
      injection h with h1 h2
      rw [List.any_cons, h1]
      by_cases e : q.1 = k
      · rw [valV_pos e, decide_eq_true e]; rfl
      · rw [decide_eq_false e, Bool.false_or, ← ih h2]
        unfold valV
        rw [List.find?_cons, decide_eq_false e]
theorem keyD_rep {d : D} {v : V} {k : Key} (hd : RepR c G H d v) (e : keyD d = some k) : v = kV k := by
  cases d with
  | int i => cases e; cases hd; rfl
  | str i => cases e; cases hd; rfl
  | _ => cases e
theorem o_in (hK : c.K = X.K) (hu : X.A.units + 65 < cLine) : OpR X (compareOp .In) (rD c opIn) := by
  intro pins s σ H x y v u Q I rx ry ⟨G, d, e, r, sg, hd, he, ho, k⟩
  unfold opIn at ho
  cases e with
  | str z =>
    cases d with
    | str x =>
      cases ho; cases hd; cases he
      exact op_in_str pins s σ H _ _ v u Q I rx ry ⟨x, z, rfl, rfl, k G H _ (New.refl sg) (Rep.bl _)⟩
    | _ => cases ho
  | lst ds =>
    have ho : ((if (pyOk d && pyOk (.lst ds)) = true then some (ds.any fun z => eqF z d) else none).bind vB) = some r := by cases d <;> exact ho
    by_cases hm : (pyOk d && pyOk (.lst ds)) = true
    · rw [if_pos hm] at ho
      cases ho
      obtain ⟨h1, h2⟩ := Bool.and_eq_true_iff.mp hm
      have d1 := hd.dp sg (pyOk_of h1).1
      have d2 := he.dp sg (pyOk_of h2).1
      rw [hK] at d1 d2
      refine op_inD hu pins s σ H _ _ v u Q I rx ry ⟨_, _, d1, d2, (pyOk_of h1).2, (pyOk_of h2).2, ?_⟩
      rw [pys_any]
      exact k G H _ (New.refl sg) (Rep.bl _)
    · rw [if_neg hm] at ho; cases ho
  | tup ds =>
    have ho : ((if (flatD d && ds.all flatD) = true then some (ds.any fun z => eqF z d) else none).bind vB) = some r := by cases d <;> exact ho
    by_cases hm : (flatD d && ds.all flatD) = true
    · rw [if_pos hm] at ho
      cases ho
      obtain ⟨h1, h2⟩ := Bool.and_eq_true_iff.mp hm
      obtain ⟨a, vs, rfl, hs, rr⟩ := he
      obtain ⟨i1, i2⟩ := flat_in hd h1 rr h2
      have hs' := sqT_same sg hs
      rw [hK] at hs'
      refine op_in_seq pins s σ H _ _ v u Q I rx ry ⟨a, vs, rfl, .inr hs', flat_self hd h1, i2, ?_⟩
      show Q (.bl (inV x vs)) H
      rw [i1]
      exact k G H _ (New.refl sg) (Rep.bl _)
    · rw [if_neg hm] at ho; cases ho
  | dct kvs =>
    have ho : (((keyD d).map fun k => kvs.any fun p => decide (p.1 = k)).bind vB) = some r := by cases d <;> exact ho
    cases ek : keyD d with
    | none => rw [ek] at ho; cases ho
    | some kk =>
      rw [ek] at ho
      cases ho
      obtain ⟨a, kv, rfl, hs, hm, rr⟩ := he
      have hx := keyD_rep hd ek
      subst hx
      obtain rfl : u = Value.ref a := ry
      refine d_in (by omega) I (DGet.k (k := kk) hs) rx fun s' I' => ⟨.bl _, H, I', rfl, ?_⟩
      rw [keys_val hm]
      exact k G H _ (New.refl sg) (Rep.bl _)
  | _ => cases d <;> cases ho
theorem o_notin (hK : c.K = X.K) (hu : X.A.units + 65 < cLine) : OpR X (compareOp .NotIn) (rD c opNotIn) := by
  intro pins s σ H x y v u Q I rx ry ⟨G, d, e, r, sg, hd, he, ho, k⟩
  unfold opNotIn at ho
  cases e with
  | str z =>
    cases d with
    | str x =>
      cases ho; cases hd; cases he
      exact op_notin_str pins s σ H _ _ v u Q I rx ry ⟨x, z, rfl, rfl, k G H _ (New.refl sg) (Rep.bl _)⟩
    | _ => cases ho
  | lst ds =>
    have ho : ((if (pyOk d && pyOk (.lst ds)) = true then some (ds.any fun z => eqF z d) else none).bind fun b => vB (!b)) = some r := by cases d <;> exact ho
    by_cases hm : (pyOk d && pyOk (.lst ds)) = true
    · rw [if_pos hm] at ho
      cases ho
      obtain ⟨h1, h2⟩ := Bool.and_eq_true_iff.mp hm
      have d1 := hd.dp sg (pyOk_of h1).1
      have d2 := he.dp sg (pyOk_of h2).1
      rw [hK] at d1 d2
      refine op_notInD hu pins s σ H _ _ v u Q I rx ry ⟨_, _, d1, d2, (pyOk_of h1).2, (pyOk_of h2).2, ?_⟩
      rw [pys_any]
      exact k G H _ (New.refl sg) (Rep.bl _)
    · rw [if_neg hm] at ho; cases ho
  | tup ds =>
    have ho : ((if (flatD d && ds.all flatD) = true then some (ds.any fun z => eqF z d) else none).bind fun b => vB (!b)) = some r := by cases d <;> exact ho
    by_cases hm : (flatD d && ds.all flatD) = true
    · rw [if_pos hm] at ho
      cases ho
      obtain ⟨h1, h2⟩ := Bool.and_eq_true_iff.mp hm
      obtain ⟨a, vs, rfl, hs, rr⟩ := he
      obtain ⟨i1, i2⟩ := flat_in hd h1 rr h2
      have hs' := sqT_same sg hs
      rw [hK] at hs'
      refine op_notIn_seq pins s σ H _ _ v u Q I rx ry ⟨a, vs, rfl, .inr hs', flat_self hd h1, i2, ?_⟩
      show Q (.bl (!inV x vs)) H
      rw [i1]
      exact k G H _ (New.refl sg) (Rep.bl _)
    · rw [if_neg hm] at ho; cases ho
  | dct kvs =>
    have ho : (((keyD d).map fun k => kvs.any fun p => decide (p.1 = k)).bind fun b => vB (!b)) = some r := by cases d <;> exact ho
    cases ek : keyD d with
    | none => rw [ek] at ho; cases ho
    | some kk =>
      rw [ek] at ho
      cases ho
      obtain ⟨a, kv, rfl, hs, hm, rr⟩ := he
      have hx := keyD_rep hd ek
      subst hx
      obtain rfl : u = Value.ref a := ry
      refine d_notIn (by omega) I (DGet.k (k := kk) hs) rx fun s' I' => ⟨.bl _, H, I', rfl, ?_⟩
      rw [keys_val hm]
      exact k G H _ (New.refl sg) (Rep.bl _)
  | _ => cases d <;> cases ho
end

/-! ### a text, so many times -/
def opRep : D → D → Option R
  | .str x, .int n => if (decide (-(2 ^ 63) ≤ n) && decide (n < 2 ^ 63) && decide (x.length * n.toNat ≤ sizeLine)) = true then vS (Txt.mul x n) else none
  | _, _ => none
theorem mulOkS {x : Str} {n : Int} (h1 : -(2 ^ 63) ≤ n) (h2 : n < 2 ^ 63) (h3 : x.length * n.toNat ≤ sizeLine) : MulOk x n := by
  have hs : sizeLine = 16777216 := sizeLine_eq
  refine ⟨?_, fun hn _ => ?_, fun _ _ => ?_⟩
  · rw [decide_eq_false (by omega), decide_eq_false (by omega)]; rfl
  · have hp : 0 < n := by omega
    have e : (x.length : Int) * n ≤ 16777216 := by
      have : ((x.length * n.toNat : Nat) : Int) ≤ (sizeLine : Nat) := by exact_mod_cast h3
      rw [Int.natCast_mul, Int.toNat_of_nonneg (by omega), hs] at this
      exact this
    have : (x.length : Int) ≤ (2 ^ 63 - 1) / n := (Int.le_ediv_iff_mul_le hp).mpr (by omega)
    omega
  · show decide (x.length * n.toNat > sizeLine) = false
    exact decide_eq_false (by omega)
theorem o_rep {X : Cx} {c : Cn} : OpR X (binaryOp .Mult) (rD c opRep) := by
  intro pins s σ H x y v u Q I rx ry ⟨G, d, e, r, sg, hd, he, ho, k⟩
  cases d with
  | str a =>
    cases e with
    | int n =>
      have ho : (if (decide (-(2 ^ 63) ≤ n) && decide (n < 2 ^ 63) && decide (a.length * n.toNat ≤ sizeLine)) = true then vS (Txt.mul a n) else none) = some r := ho
      by_cases hm : (decide (-(2 ^ 63) ≤ n) && decide (n < 2 ^ 63) && decide (a.length * n.toNat ≤ sizeLine)) = true
      · rw [if_pos hm] at ho
        cases ho; cases hd; cases he
        simp only [Bool.and_eq_true, decide_eq_true_eq] at hm
        obtain ⟨t, rfl⟩ := rx
        obtain ⟨t', rfl⟩ := ry
        exact SB.mul (mulOkS hm.1.1 hm.1.2 hm.2) fun t' kk => ⟨.str _, H, I.tok _, ⟨_, rfl⟩, k G H _ (New.refl sg) (Rep.str _)⟩
      · rw [if_neg hm] at ho; cases ho
    | _ => cases ho
  | _ => cases ho
end DL

/-! DLm: built-in functions, methods, stores into an object. -/
namespace DL
open PySem PySem.Spec PyProof.Rows L2

section
variable {X : Cx} {c : Cn} {σ0 : St} {W : WX} {σ : St} {ρ : Ro} {G H : Hp} {own : Own} {a b e : Expr} {es : List Expr} {pos p p2 : Pos} {x : Str} {f g : M R} {fa : M (List R)} {id T : String} {op : List D → Option R}
theorem de_callB (hc : CallR X (.builtin id) (rDn c op)) (hg : Gl X x) (hm : X.mg x = none) (hv : bootBuiltins x = some (.builtin id)) (ha : PA X (e :: es) (tA c σ0 W fa)) (hn : x ≠ "__name__" := by decide) (hdb : (x == ("__debug__" : Str)) = false := by decide)
    (he : starEach (e :: es) X.env = (false, eval e X.env) :: starEach es X.env := by rfl) (hpl : (backTo pos (starEach es X.env)).any (·.1) = false := by rfl) : PE X (.Call (.Name x p) (e :: es) [] pos) (tD c σ0 W (eCallB op fa)) :=
  PE.imp (pe_callB hc hg hm hv ha hn hdb he hpl) fun _ _ _ h => tCB_of h
theorem de_callTy (hc : CallR X (.type T) (rDn c op)) (hg : Gl X x) (hm : X.mg x = none) (hv : bootBuiltins x = some (.type T)) (ha : PA X (e :: es) (tA c σ0 W fa)) (hn : x ≠ "__name__" := by decide) (hdb : (x == ("__debug__" : Str)) = false := by decide)
    (he : starEach (e :: es) X.env = (false, eval e X.env) :: starEach es X.env := by rfl) (hpl : (backTo pos (starEach es X.env)).any (·.1) = false := by rfl) : PE X (.Call (.Name x p) (e :: es) [] pos) (tD c σ0 W (eCallB op fa)) :=
  PE.imp (pe_callTy hc hg hm hv ha hn hdb he hpl) fun _ _ _ h => tCB_of h

theorem LenV_of (s : Same G H) {d : D} {v : V} {n : Nat} (h : RepR c G H d v) (e : lenD d = some n) : LenV c.K v H n := by
  cases d with
  | str x =>
    cases h
    have e : (if x.length ≤ sizeLine then some x.length else none) = some n := e
    by_cases hl : x.length ≤ sizeLine
    · rw [if_pos hl] at e; cases e; exact ⟨hl, rfl⟩
    · rw [if_neg hl] at e; cases e
  | lst ds =>
    cases e
    obtain ⟨a, vs, rfl, hs, r⟩ := h
    exact .inl ⟨vs, .inl (.inl hs), r.length⟩
  | tup ds =>
    cases e
    obtain ⟨a, vs, rfl, hs, r⟩ := h
    exact .inr ⟨vs, sqT_same s hs, r.length⟩
  | scr ns =>
    cases e
    obtain ⟨a, rfl, hs⟩ := h
    exact .inl ⟨_, hs, by rw [List.length_map]⟩
  | _ => cases e
theorem cb_len (hK : c.K = X.K) : CallR X (.builtin "len") (rDn c cLen) := by
  intro pins s σ H xs us Q I r ⟨G, ds, rr, sg, hr, ho, k⟩
  cases hr with
  | nil => cases ho
  | cons h t =>
    rename_i d v ds vs
    cases t with
    | cons _ _ => cases ho
    | nil =>
      have ho : (lenD d).bind (fun n => vI (n : Int)) = some rr := ho
      cases e : lenD d with
      | none => rw [e] at ho; cases ho
      | some n =>
        rw [e] at ho
        cases ho
        exact call_len pins s σ H _ us Q I r ⟨v, n, rfl, by rw [← hK]; exact LenV_of sg h e, k G H _ (New.refl sg) (Rep.int _)⟩
theorem cb_int : CallR X (.type "int") (rDn c cInt) := by
  intro pins s σ H xs us Q I r ⟨G, ds, rr, sg, hr, ho, k⟩
  cases hr with
  | nil => cases ho
  | cons h t =>
    rename_i d v ds vs
    cases t with
    | cons _ _ => cases d <;> cases ho
    | nil =>
      cases d with
      | int i => cases ho; cases h; exact call_int1 pins s σ H _ us Q I r (.inl ⟨i, rfl, k G H _ (New.refl sg) (Rep.int _)⟩)
      | bl b => cases ho; cases h; exact call_int1 pins s σ H _ us Q I r (.inr ⟨b, rfl, k G H _ (New.refl sg) (Rep.int _)⟩)
      | _ => cases ho
theorem cb_abs : CallR X (.builtin "abs") (rDn c cAbs) := by
  intro pins s σ H xs us Q I r ⟨G, ds, rr, sg, hr, ho, k⟩
  cases hr with
  | nil => cases ho
  | cons h t =>
    rename_i d v ds vs
    cases t with
    | cons _ _ => cases d <;> cases ho
    | nil =>
      cases d with
      | int i => cases ho; cases h; exact call_abs pins s σ H _ us Q I r ⟨i, rfl, k G H _ (New.refl sg) (Rep.int _)⟩
      | _ => cases ho
theorem cb_str : CallR X (.type "str") (rDn c cStr) := by
  intro pins s σ H xs us Q I r ⟨G, ds, rr, sg, hr, ho, k⟩
  cases hr with
  | nil => cases ho
  | cons h t =>
    rename_i d v ds vs
    cases t with
    | cons _ _ => cases d <;> cases ho
    | nil =>
      cases d with
      | int i =>
        have ho : (if i.natAbs.log2 < 1920 then vS (toString i) else none) = some rr := ho
        by_cases hl : i.natAbs.log2 < 1920
        · rw [if_pos hl] at ho
          cases ho; cases h
          exact call_str_int pins s σ H _ us Q I r ⟨i, rfl, hl, k G H _ (New.refl sg) (Rep.str _)⟩
        · rw [if_neg hl] at ho; cases ho
      | _ => cases ho
theorem cb_list (hK : c.K = X.K) : CallR X (.type "list") (rDn c cList) := by
  intro pins s σ H xs us Q I r ⟨G, ds, rr, sg, hr, ho, k⟩
  cases hr with
  | nil => cases ho
  | cons h t =>
    rename_i d v ds vs
    cases t with
    | cons _ _ => cases d <;> cases ho
    | nil =>
      cases d with
      | lst es =>
        cases ho
        obtain ⟨a, ws, rfl, hs, q⟩ := h
        refine call_list_of pins s σ H _ us Q I r ⟨a, ws, rfl, .inl (.inl (.inl hs)), fun p hp => ?_⟩
        obtain ⟨n, o⟩ := RO.nwl q sg hp
        exact k G _ _ n o
      | tup es =>
        cases ho
        obtain ⟨a, ws, rfl, hs, q⟩ := h
        have hs' := sqT_same sg hs
        rw [hK] at hs'
        refine call_list_of pins s σ H _ us Q I r ⟨a, ws, rfl, .inr hs', fun p hp => ?_⟩
        obtain ⟨n, o⟩ := RO.nwl q sg hp
        exact k G _ _ n o
      | _ => cases ho
theorem cb_tuple (hK : c.K = X.K) : CallR X (.type "tuple") (rDn c cTuple) := by
  intro pins s σ H xs us Q I r ⟨G, ds, rr, sg, hr, ho, k⟩
  cases hr with
  | nil => cases ho
  | cons h t =>
    rename_i d v ds vs
    cases t with
    | cons _ _ => cases d <;> cases ho
    | nil =>
      cases d with
      | lst es =>
        cases ho
        obtain ⟨a, ws, rfl, hs, q⟩ := h
        refine call_tuple_of pins s σ H _ us Q I r ⟨a, ws, rfl, .inl ⟨.inl (.inl hs), fun p hp => ?_⟩⟩
        obtain ⟨G', n, o⟩ := RO.nwt q sg hp
        exact k G' _ _ n o
      | tup es =>
        cases ho
        obtain ⟨a, ws, rfl, hs, q⟩ := h
        have hs' := sqT_same sg hs
        rw [hK] at hs'
        exact call_tuple_of pins s σ H _ us Q I r ⟨a, ws, rfl, .inr ⟨hs', k G H _ (New.refl sg) (Rep.tup hs q)⟩⟩
      | _ => cases ho
theorem boolsD_of : ∀ {ds : List D} {vs : List V} {bs : List Bool}, Reps c G ds vs → boolsD ds = some bs → vs = bs.map V.bl
  | _, _, _, .nil, e => by cases e; rfl
  | d :: ds, _, _, .cons h r, e => by
    cases d with
    | bl b =>
      have e : (boolsD ds).map (b :: ·) = some _ := e
      cases q : boolsD ds with
      | none => rw [q] at e; cases e
      | some bs =>
        rw [q] at e; cases e; cases h
        rw [boolsD_of r q]; rfl
    | _ => cases e
theorem intsD_of : ∀ {ds : List D} {vs : List V} {bs : List Int}, Reps c G ds vs → intsD ds = some bs → vs = bs.map V.int
  | _, _, _, .nil, e => by cases e; rfl
  | d :: ds, _, _, .cons h r, e => by
    cases d with
    | int b =>
      have e : (intsD ds).map (b :: ·) = some _ := e
      cases q : intsD ds with
      | none => rw [q] at e; cases e
      | some bs =>
        rw [q] at e; cases e; cases h
        rw [intsD_of r q]; rfl
    | _ => cases e
theorem strsD_of : ∀ {ds : List D} {vs : List V} {bs : List Str}, Reps c G ds vs → strsD ds = some bs → vs = bs.map V.str
  | _, _, _, .nil, e => by cases e; rfl
  | d :: ds, _, _, .cons h r, e => by
    cases d with
    | str b =>
      have e : (strsD ds).map (b :: ·) = some _ := e
      cases q : strsD ds with
      | none => rw [q] at e; cases e
      | some bs =>
        rw [q] at e; cases e; cases h
        rw [strsD_of r q]; rfl
    | _ => cases e
theorem cb_all (hc : X.calm = true) : CallR X (.builtin "all") (rDn c cAll) := by
  intro pins s σ H xs us Q I r ⟨G, ds, rr, sg, hr, ho, k⟩
  cases hr with
  | nil => cases ho
  | cons h t =>
    rename_i d v ds vs
    cases t with
    | cons _ _ => cases d <;> cases ho
    | nil =>
      cases d with
      | lst es =>
        have ho : (boolsD es).bind (fun bs => vB (bs.all _root_.id)) = some rr := ho
        cases e : boolsD es with
        | none => rw [e] at ho; cases ho
        | some bs =>
          rw [e] at ho
          cases ho
          obtain ⟨a, ws, rfl, hs, q⟩ := h
          rw [boolsD_of q e] at hs
          exact cr_all hc pins s σ H _ us Q I r ⟨a, bs, rfl, .inl (.inl hs), k G H _ (New.refl sg) (Rep.bl _)⟩
      | _ => cases ho
theorem cb_any (hc : X.calm = true) : CallR X (.builtin "any") (rDn c cAny) := by
  intro pins s σ H xs us Q I r ⟨G, ds, rr, sg, hr, ho, k⟩
  cases hr with
  | nil => cases ho
  | cons h t =>
    rename_i d v ds vs
    cases t with
    | cons _ _ => cases d <;> cases ho
    | nil =>
      cases d with
      | lst es =>
        have ho : (boolsD es).bind (fun bs => vB (bs.any _root_.id)) = some rr := ho
        cases e : boolsD es with
        | none => rw [e] at ho; cases ho
        | some bs =>
          rw [e] at ho
          cases ho
          obtain ⟨a, ws, rfl, hs, q⟩ := h
          rw [boolsD_of q e] at hs
          exact cr_any hc pins s σ H _ us Q I r ⟨a, bs, rfl, .inl (.inl hs), k G H _ (New.refl sg) (Rep.bl _)⟩
      | _ => cases ho
theorem cb_sum (hc : X.calm = true) : CallR X (.builtin "sum") (rDn c cSum) := by
  intro pins s σ H xs us Q I r ⟨G, ds, rr, sg, hr, ho, k⟩
  cases hr with
  | nil => cases ho
  | cons h t =>
    rename_i d v ds vs
    cases t with
    | cons _ _ => cases d <;> cases ho
    | nil =>
      cases d with
      | lst es =>
        have ho : (intsD es).bind (fun bs => vI bs.sum) = some rr := ho
        cases e : intsD es with
        | none => rw [e] at ho; cases ho
        | some bs =>
          rw [e] at ho
          cases ho
          obtain ⟨a, ws, rfl, hs, q⟩ := h
          rw [intsD_of q e] at hs
          exact cr_sum hc pins s σ H _ us Q I r ⟨a, bs, rfl, .inl (.inl hs), k G H _ (New.refl sg) (Rep.int _)⟩
      | _ => cases ho

/-! ### isinstance -/
def tyD : D → Option String
  | .non => some "NoneType"
  | .bl _ => some "bool"
  | .int _ => some "int"
  | .str _ => some "str"
  | .tup _ => some "tuple"
  | .lst _ => some "list"
  | .scr _ => some "list"
  | .dct _ => some "dict"
  | .ins _ _ => none
def isD (n : String) (d : D) : Option Bool := (tyD d).bind fun t => kitB t n
def isiR (n : String) (r : R) : M R := fun ρ => match (deref ρ r).bind (isD n) with
  | some b => .ok (.val (.bl b)) ρ
  | none => .bad
def eIsi (n : String) (f : M R) : M R := f.bind (isiR n)
theorem tyX_of (s : Same G H) {d : D} {v : V} {n : String} (h : RepR c G H d v) (e : tyD d = some n) : TyX c.K H v (.type n) := by
  cases d with
  | non => cases e; cases h; exact .base .non
  | bl b => cases e; cases h; exact .base (.bl b)
  | int i => cases e; cases h; exact .base (.int i)
  | str x => cases e; cases h; exact .base (.str x)
  | tup ds =>
    cases e
    obtain ⟨a, vs, rfl, hs, r⟩ := h
    rcases sqT_same s hs with (hs | ⟨o, hs⟩) | ⟨o, its, n, hk, hc, _⟩
    · exact .base (.tup hs)
    · exact .fTuple hs
    · exact .kTuple hk hc
  | lst ds =>
    cases e
    obtain ⟨a, vs, rfl, hs, r⟩ := h
    exact .base (.lst hs)
  | scr ns =>
    cases e
    obtain ⟨a, rfl, hs⟩ := h
    rcases hs with (hs | ⟨o, hs⟩) | ⟨o, its, n, hk, hc, _⟩
    · exact .base (.lst hs)
    · exact .base (.frz hs)
    · exact .kList hk hc
  | dct ds =>
    cases e
    obtain ⟨a, kvs, rfl, hs, m, r⟩ := h
    exact .base (.dK hs)
  | ins _ _ => cases e
theorem de_isi {n : String} {y : Str} (hK : c.K = X.K) (hg : Gl X "isinstance") (hm : X.mg "isinstance" = none) (hg2 : Gl X y) (hm2 : X.mg y = none) (hv : bootBuiltins y = some (.type n)) (ha : PE X e (tD c σ0 W f)) (hn : y ≠ "__name__" := by decide) (hdb : (y == ("__debug__" : Str)) = false := by decide)
    (h1 : starEach [e, .Name y p2] X.env = (false, eval e X.env) :: starEach [.Name y p2] X.env := by rfl) (h2 : starEach [.Name y p2] X.env = (false, eval (.Name y p2) X.env) :: starEach [] X.env := by rfl) (hpl : (backTo pos (starEach [.Name y p2] X.env)).any (·.1) = false := by rfl) :
    PE X (.Call (.Name "isinstance" p) [e, .Name y p2] [] pos) (tD c σ0 W (eIsi n f)) :=
  PE.imp (pe_callB call_isi hg hm boot_isinstance (pa_cons ha (pa_cons (pe_bltn hg2 hm2 hv (v := V.ty n) rfl hn hdb) pa_nil h2) h1) (by decide) (by decide) h1 hpl) fun σ H Q q => by
    obtain ⟨G, own, ρ, S, q⟩ := q
    refine XP.bind S q fun r ρ1 G1 own1 H1 v t1 S1 R1 hh => ?_
    unfold isiR at hh
    cases e1 : deref ρ1 r with
    | none => rw [e1] at hh; exact hh.elim
    | some d =>
      rw [e1] at hh
      have hh : XP (relR c) c σ0 W σ ρ G own H Q (match isD n d with
        | some b => .ok (.val (.bl b)) ρ1
        | none => .bad) := hh
      unfold isD at hh
      cases e2 : tyD d with
      | none => rw [e2] at hh; exact hh.elim
      | some t =>
        rw [e2] at hh
        have hh : XP (relR c) c σ0 W σ ρ G own H Q (match kitB t n with
          | some b => .ok (.val (.bl b)) ρ1
          | none => .bad) := hh
        cases e3 : kitB t n with
        | none => rw [e3] at hh; exact hh.elim
        | some b =>
          rw [e3] at hh
          refine ⟨v, .ty n, _, _, b, rfl, .ty n, by rw [← hK]; exact tyX_of S1.same (deref_rd S1 R1 e1) e2, kit_ty e3, ?_⟩
          exact hh G1 own1 H1 _ t1 S1 (Rep.bl _)

/-! ### methods of texts -/
def rMs (c : Cn) (op : Str → List D → Option R) : V → List V → Hp → VK → Prop := fun x xs H Q => ∃ G z ds r, x = .str z ∧ Same G H ∧ RepRs c G H ds xs ∧ op z ds = some r ∧ ∀ G' H' v', New G H G' H' → RO c G' H' H r v' → Q v' H'
def msK (op : Str → List D → Option R) (fa : M (List R)) (r : R) : M R := match r with
  | .val (.str z) => fa.bind (opEn (op z))
  | _ => fun _ => .bad
def eMS (op : Str → List D → Option R) (f : M R) (fa : M (List R)) : M R := f.bind (msK op fa)
theorem tMS_of {op : Str → List D → Option R} {Q : VK} (h : tD c σ0 W (eMS op f fa) σ H Q) : tBM X.K "str" (rMs c op) (tD c σ0 W f) (tA c σ0 W fa) σ H Q := by
  obtain ⟨G, own, ρ, S, h⟩ := h
  refine XP.bind S h fun r1 ρ1 G1 own1 H1 v t1 S1 R1 h1 => ?_
  cases r1 with
  | val d =>
    cases d with
    | str z =>
      cases R1
      refine ⟨rfl, XP.bind S1 (XP.from t1 h1 (relR_mono c)) fun rs ρ2 G2 own2 H2 vs t2 S2 R2 h2 => ?_⟩
      obtain ⟨G', ds, r, s, rd, ho, k⟩ := XP.opn S2 (XP.from t2 h2 (relR_mono c)) R2
      exact ⟨G', z, ds, r, rfl, s, rd, ho, k⟩
    | _ => exact h1.elim
  | _ => exact h1.elim
theorem de_ms {o : Expr} {name : Str} {apos cpos : Pos} {op : Str → List D → Option R} (slot : Slot "str" name id) (hty : typeOf (.builtin id) = pure (.type "method_descriptor")) (hm : MtR X id (rMs c op)) (ho : PE X o (tD c σ0 W f)) (ha : PA X (e :: es) (tA c σ0 W fa))
    (hbase : attributeBase o name X.env (eval o X.env) = eval o X.env := by rfl)
    (hfew : ((backTo cpos (starEach (e :: es) X.env)).all (fun x => !x.1) && (backToKw cpos (keywordEach [] X.env)).all (fun x => x.1.isSome)
      && decide ((e :: es).length + ([] : List Keyword).length + (if ([] : List Keyword).isEmpty then 0 else 1) < 30)) = true := by rfl)
    (hline : (apos.endLine == cpos.line) = true := by rfl) (hs : starEach (e :: es) X.env = (false, eval e X.env) :: starEach es X.env := by rfl) (hplain : (backTo cpos (starEach es X.env)).any (·.1) = false := by rfl) :
    PE X (.Call (.Attribute o name apos) (e :: es) [] cpos) (tD c σ0 W (eMS op f fa)) :=
  PE.imp (pe_bm PySem.F.plainAttrs_str slot hty hm ho ha hbase hfew hline hs hplain) fun _ _ _ h => tMS_of h
theorem de_ms0 {o : Expr} {name : Str} {apos cpos : Pos} {op : Str → List D → Option R} (slot : Slot "str" name id) (hty : typeOf (.builtin id) = pure (.type "method_descriptor")) (hm : MtR X id (rMs c op)) (ho : PE X o (tD c σ0 W f))
    (hbase : attributeBase o name X.env (eval o X.env) = eval o X.env := by rfl) (hline : (apos.endLine == cpos.line) = true := by rfl) :
    PE X (.Call (.Attribute o name apos) [] [] cpos) (tD c σ0 W (eMS op f eNil)) :=
  PE.imp (pe_bm0 PySem.F.plainAttrs_str slot hty hm ho hbase hline) fun σ H Q h => by
    have z : tBM X.K "str" (rMs c op) (tD c σ0 W f) (tA c σ0 W eNil) σ H Q := tMS_of h
    obtain ⟨G, own, ρ, S, h⟩ := h
    refine XP.bind S h fun r1 ρ1 G1 own1 H1 v t1 S1 R1 h1 => ?_
    cases r1 with
    | val d =>
      cases d with
      | str z =>
        cases R1
        refine ⟨rfl, ?_⟩
        have h1 := XP.from t1 h1 (relR_mono c)
        have h2 : XP (relR c) c σ0 W σ ρ1 G1 own1 H1 Q (opEn (op z) [] ρ1) := h1
        obtain ⟨G', ds, r, s, rd, ho, k⟩ := XP.opn S1 h2 .nil
        exact ⟨G', z, ds, r, rfl, s, rd, ho, k⟩
      | _ => exact h1.elim
    | _ => exact h1.elim
def mS0 (g : Str → D) : Str → List D → Option R := fun z ds => match ds with
  | [] => some (.val (g z))
  | _ => none
def mSplit : Str → List D → Option R := fun z ds => match ds with
  | [.str y] => if ((y.length != 0) && decide (z.length + 2 ≤ sizeLine)) = true then some (.nw (.lst ((Txt.split z y).map .str))) else none
  | _ => none
def joinOk (z : Str) (ys : List Str) : Bool := decide ((ys.map (·.length)).sum + ys.length * z.length ≤ 16777216)
def mJoin : Str → List D → Option R := fun z ds => match ds with
  | [.lst es] => (strsD es).bind fun ys => if joinOk z ys = true then vS (Txt.join z ys) else none
  | [.tup es] => (strsD es).bind fun ys => if joinOk z ys = true then vS (Txt.join z ys) else none
  | _ => none
theorem reps_strs : ∀ ys : List Str, Reps c G (ys.map D.str) (ys.map V.str)
  | [] => .nil
  | y :: ys => .cons (.str y) (reps_strs ys)
theorem mm_bl {id : String} {q : Str → Bool} (h : MtR X id (fun x xs H Q => ∃ a, x = .str a ∧ xs = [] ∧ True ∧ Q (.bl (q a)) H)) : MtR X id (rMs c (mS0 fun z => .bl (q z))) := by
  intro pins s σ H x xs v us Q I rx rs ⟨G, z, ds, r, ex, sg, rd, ho, k⟩
  cases rd with
  | nil =>
    cases ho
    exact h pins s σ H x _ v us Q I rx rs ⟨z, ex, rfl, trivial, k G H _ (New.refl sg) (Rep.bl _)⟩
  | cons _ _ => cases ho
theorem mm_split : MtR X "str.split" (rMs c mSplit) := by
  intro pins s σ H x xs v us Q I rx rs ⟨G, z, ds, r, ex, sg, rd, ho, k⟩
  cases rd with
  | nil => cases ho
  | cons h t =>
    rename_i d w ds vs
    cases t with
    | cons _ _ => cases d <;> cases ho
    | nil =>
      cases d with
      | str y =>
        have ho : (if ((y.length != 0) && decide (z.length + 2 ≤ sizeLine)) = true then some (R.nw (.lst ((Txt.split z y).map .str))) else none) = some r := ho
        by_cases hm : ((y.length != 0) && decide (z.length + 2 ≤ sizeLine)) = true
        · rw [if_pos hm] at ho
          cases ho; cases h
          simp only [Bool.and_eq_true, decide_eq_true_eq, bne_iff_ne] at hm
          refine mt_split pins s σ H x _ v us Q I rx rs ⟨z, y, ex, rfl, by simpa using hm.1, hm.2, fun p hp => ?_⟩
          obtain ⟨n, o⟩ := RO.nwl (reps_strs (c := c) (Txt.split z y)) sg hp
          exact k G _ _ n o
        · rw [if_neg hm] at ho; cases ho
      | _ => cases ho
theorem mm_join (hK : c.K = X.K) : MtR X "str.join" (rMs c mJoin) := by
  intro pins s σ H x xs v us Q I rx rs ⟨G, z, ds, r, ex, sg, rd, ho, k⟩
  cases rd with
  | nil => cases ho
  | cons h t =>
    rename_i d w ds vs
    cases t with
    | cons _ _ => cases d <;> cases ho
    | nil =>
      cases d with
      | lst es =>
        have ho : (strsD es).bind (fun ys => if joinOk z ys = true then vS (Txt.join z ys) else none) = some r := ho
        cases e : strsD es with
        | none => rw [e] at ho; cases ho
        | some ys =>
          rw [e] at ho
          have ho : (if joinOk z ys = true then vS (Txt.join z ys) else none) = some r := ho
          by_cases hm : joinOk z ys = true
          · rw [if_pos hm] at ho
            cases ho
            obtain ⟨a, ws, rfl, hs, q⟩ := h
            rw [strsD_of q e] at hs
            exact mt_join pins s σ H x _ v us Q I rx rs ⟨z, a, ys, ex, rfl, .inl (.inl (.inl hs)), of_decide_eq_true hm, k G H _ (New.refl sg) (Rep.str _)⟩
          · rw [if_neg hm] at ho; cases ho
      | tup es =>
        have ho : (strsD es).bind (fun ys => if joinOk z ys = true then vS (Txt.join z ys) else none) = some r := ho
        cases e : strsD es with
        | none => rw [e] at ho; cases ho
        | some ys =>
          rw [e] at ho
          have ho : (if joinOk z ys = true then vS (Txt.join z ys) else none) = some r := ho
          by_cases hm : joinOk z ys = true
          · rw [if_pos hm] at ho
            cases ho
            obtain ⟨a, ws, rfl, hs, q⟩ := h
            rw [strsD_of q e] at hs
            have hs' := sqT_same sg hs
            rw [hK] at hs'
            exact mt_join pins s σ H x _ v us Q I rx rs ⟨z, a, ys, ex, rfl, .inr hs', of_decide_eq_true hm, k G H _ (New.refl sg) (Rep.str _)⟩
          · rw [if_neg hm] at ho; cases ho
      | _ => cases ho

/-! ### methods of a slot's own object -/
def OV.ty : OV → String
  | .lst _ => "list"
  | .dct _ => "dict"
  | .ins _ _ => ""
def rMo (c : Cn) (mop : OV → List D → Option (D × OV)) : V → List V → Hp → VK → Prop := fun x xs H Q => ∃ G P o ds r o', Same G H ∧ (∀ b, P b → G b = none) ∧ (∀ b, P b → ∃ u, H b = some u) ∧ OwR c G H P o x ∧ Reps c G ds xs ∧ mop o ds = some (r, o') ∧
  ∀ H' v', (∀ b, ¬ P b → H' b = H b) → (∀ b, P b → ∃ u, H' b = some u) → OwR c G H' P o' x → Rep c G r v' → Q v' H'
def methR (j : Nat) (mop : OV → List D → Option (D × OV)) (rs : List R) : M R := fun ρ => match ρ[j]?, valsR rs with
  | some (.ow k o), some ds => match mop o ds with
    | some (d, o') => .ok (.val d) (ρ.set j (.ow k o'))
    | none => .bad
  | _, _ => .bad
def isOw (T : String) (ρ : Ro) (j : Nat) : Bool := match ρ[j]? with
  | some (.ow _ o) => o.ty == T
  | _ => false
def eMeth (T : String) (j : Nat) (mop : OV → List D → Option (D × OV)) (fa : M (List R)) : M R := fun ρ => if isOw T ρ j = true then (fa.bind (methR j mop)) ρ else .bad
theorem SR.chg {j : Nat} {k : Bool} {o o' : OV} {v : V} {H' : Hp} (S : SR c σ0 G own ρ σ H) (h : ρ[j]? = some (.ow k o)) (hv : σ[j]? = some (some v)) (hH : ∀ b, ¬ own j b → H' b = H b) (ht : ∀ b, own j b → ∃ u, H' b = some u) (r : OwR c G H' (own j) o' v) :
    SR c σ0 G own (ρ.set j (.ow k o')) σ H' ∧ Tr ρ σ G own H (ρ.set j (.ow k o')) σ G own H' := by
  have hj := lt_of_get h
  refine ⟨⟨fun b u e => ?_, S.out, fun i b p => ?_, S.dis, by rw [List.length_set]; exact S.len, fun i s z => ?_, fun i s z q => ?_⟩, ⟨Same.refl _, fun b u e n => ?_, fun b u e => .inl e, fun b p => .inl p, fun i q u z => ?_⟩⟩
  · rw [hH b fun p => by rw [S.out j b p] at e; cases e]
    exact S.same b u e
  · by_cases z : own j b
    · exact ht b z
    · rw [hH b z]; exact S.there i b p
  · by_cases e : j = i
    · subst e
      rw [List.getElem?_set_self hj] at z
      cases z
      exact ⟨v, hv, r⟩
    · rw [List.getElem?_set_ne e] at z
      refine (S.slot i s z).at (Same.refl _) (fun b u p q => ?_) fun _ p => p
      rw [hH b fun z => e (S.dis j i b z p)]
      exact q
  · by_cases e : j = i
    · subst e
      rw [List.getElem?_set_self hj] at z
      cases z
      exact S.io j _ h q
    · rw [List.getElem?_set_ne e] at z
      exact S.io i s z q
  · rw [hH b fun p => n ⟨j, p⟩]; exact e
  · have ne : j ≠ i := fun e => by
      subst e
      rw [h] at z; cases z
    rw [List.getElem?_set_ne ne]
    exact ⟨z, rfl⟩
theorem tyV_of {j : Nat} {T : String} {v : V} (S : SR c σ0 G own ρ σ H) (h : isOw T ρ j = true) (hT : T ≠ "") : ∃ v, σ[j]? = some (some v) ∧ tyV X.K T v H := by
  unfold isOw at h
  cases e : ρ[j]? with
  | none => rw [e] at h; cases h
  | some s =>
    rw [e] at h
    cases s with
    | ow k o =>
      have h : (o.ty == T) = true := h
      obtain ⟨v, hv, r⟩ := S.slot j _ e
      refine ⟨v, hv, ?_⟩
      have hh : o.ty = T := eq_of_beq h
      cases o with
      | lst ds =>
        obtain ⟨a, vs, rfl, _, hs, _⟩ := r
        exact .inl ⟨hh.symm, vs, .inl (.inl hs)⟩
      | dct ds =>
        obtain ⟨a, vs, rfl, _, hs, _⟩ := r
        exact .inr (.inr (.inl ⟨hh.symm, .inl ⟨_, hs⟩⟩))
      | ins n fs => exact absurd hh.symm hT
    | _ => cases h
theorem XP.meth {j : Nat} {mop : OV → List D → Option (D × OV)} {rs : List R} {vs : List V} {v : V} {Q : VK} (S : SR c σ0 G own ρ σ H) (h : XP (relR c) c σ0 W σ ρ G own H Q (methR j mop rs ρ)) (h1 : RRs c G σ rs vs) (hv : σ[j]? = some (some v)) : rMo c mop v vs H Q := by
  unfold methR at h
  cases e : ρ[j]? with
  | none => rw [e] at h; exact h.elim
  | some s =>
    cases e2 : valsR rs with
    | none => rw [e, e2] at h; cases s <;> exact h.elim
    | some ds =>
      rw [e, e2] at h
      cases s with
      | ow k o =>
        dsimp only at h
        cases e3 : mop o ds with
        | none => rw [e3] at h; exact h.elim
        | some p =>
          obtain ⟨d, o'⟩ := p
          rw [e3] at h
          obtain ⟨w, hw, r⟩ := S.slot j _ e
          rw [hv] at hw; cases hw
          refine ⟨G, own j, o, ds, d, o', S.same, S.out j, S.there j, r, h1.vals e2, e3, fun H' v' hH ht r' rd => ?_⟩
          obtain ⟨S', t'⟩ := S.chg e hv hH ht r'
          exact h G own H' v' t' S' rd
      | _ => exact h.elim
theorem de_meth {j : Nat} {o : Expr} {name : Str} {apos cpos : Pos} {mop : OV → List D → Option (D × OV)} (pa : PlainAttrs T) (slot : Slot T name id) (hty : typeOf (.builtin id) = pure (.type "method_descriptor")) (hT : T ≠ "") (hm : MtR X id (rMo c mop)) (ho : PE X o (tVar j)) (ha : PA X (e :: es) (tA c σ0 W fa))
    (hbase : attributeBase o name X.env (eval o X.env) = eval o X.env := by rfl)
    (hfew : ((backTo cpos (starEach (e :: es) X.env)).all (fun x => !x.1) && (backToKw cpos (keywordEach [] X.env)).all (fun x => x.1.isSome)
      && decide ((e :: es).length + ([] : List Keyword).length + (if ([] : List Keyword).isEmpty then 0 else 1) < 30)) = true := by rfl)
    (hline : (apos.endLine == cpos.line) = true := by rfl) (hs : starEach (e :: es) X.env = (false, eval e X.env) :: starEach es X.env := by rfl) (hplain : (backTo cpos (starEach es X.env)).any (·.1) = false := by rfl) :
    PE X (.Call (.Attribute o name apos) (e :: es) [] cpos) (tD c σ0 W (eMeth T j mop fa)) :=
  PE.imp (pe_bm pa slot hty hm ho ha hbase hfew hline hs hplain) fun σ H Q h => by
    obtain ⟨G, own, ρ, S, h⟩ := h
    unfold eMeth at h
    by_cases hi : isOw T ρ j = true
    · rw [if_pos hi] at h
      obtain ⟨v, hv, ty⟩ := tyV_of (X := X) (v := .non) S hi hT
      refine ⟨v, hv, ty, XP.bind S h fun rs ρ1 G1 own1 H1 vs t1 S1 R1 h1 => ?_⟩
      exact XP.meth S1 (XP.from t1 h1 (relR_mono c)) R1 hv
    · rw [if_neg hi] at h; exact h.elim
theorem de_meth0 {j : Nat} {o : Expr} {name : Str} {apos cpos : Pos} {mop : OV → List D → Option (D × OV)} (pa : PlainAttrs T) (slot : Slot T name id) (hty : typeOf (.builtin id) = pure (.type "method_descriptor")) (hT : T ≠ "") (hm : MtR X id (rMo c mop)) (ho : PE X o (tVar j))
    (hbase : attributeBase o name X.env (eval o X.env) = eval o X.env := by rfl) (hline : (apos.endLine == cpos.line) = true := by rfl) :
    PE X (.Call (.Attribute o name apos) [] [] cpos) (tD c σ0 W (eMeth T j mop eNil)) :=
  PE.imp (pe_bm0 pa slot hty hm ho hbase hline) fun σ H Q h => by
    obtain ⟨G, own, ρ, S, h⟩ := h
    unfold eMeth at h
    by_cases hi : isOw T ρ j = true
    · rw [if_pos hi] at h
      obtain ⟨v, hv, ty⟩ := tyV_of (X := X) (v := .non) S hi hT
      refine ⟨v, hv, ty, ?_⟩
      have h2 : XP (relR c) c σ0 W σ ρ G own H Q (methR j mop [] ρ) := h
      exact XP.meth S h2 .nil hv
    · rw [if_neg hi] at h; exact h.elim

def moAppend : OV → List D → Option (D × OV)
  | .lst ds, [d] => if ds.length < sizeLine then some (.non, .lst (ds ++ [d])) else none
  | _, _ => none
def moPop : OV → List D → Option (D × OV)
  | .lst ds, [] => (ds[ds.length - 1]?).map fun d => (d, .lst ds.dropLast)
  | _, _ => none
def moPopAt : OV → List D → Option (D × OV)
  | .lst ds, [.int i] => if (decide (-(2 ^ 63) ≤ i) && decide (i < 2 ^ 63)) = true then (seqIndex? i ds.length).bind fun k => (ds[k]?).map fun d => (d, .lst (ds.eraseIdx k)) else none
  | _, _ => none
def moInsert : OV → List D → Option (D × OV)
  | .lst ds, [.int i, d] => if (decide (0 ≤ i) && decide (i < 2 ^ 63) && decide (ds.length < sizeLine)) = true then some (.non, .lst (ds.take i.toNat ++ [d] ++ ds.drop i.toNat)) else none
  | _, _ => none
theorem Reps.one {d : D} {xs : List V} (h : Reps c G [d] xs) : ∃ v, xs = [v] ∧ Rep c G d v := by
  cases h with
  | cons h t => cases t; exact ⟨_, rfl, h⟩
/-- the list at a is written -/
theorem lst_upd {P : Addr → Prop} {p : Addr} {ds : List D} {vs : List V} (hp : P p) (ht : ∀ b, P b → ∃ u, H b = some u) (r : Reps c G ds vs) :
    (∀ b, ¬ P b → (upd H p (.lst vs)) b = H b) ∧ (∀ b, P b → ∃ u, (upd H p (.lst vs)) b = some u) ∧ OwR c G (upd H p (.lst vs)) P (.lst ds) (.ref p) := by
  refine ⟨fun b n => upd_ne fun e => n (by rw [e]; exact hp), fun b q => ?_, p, vs, rfl, hp, upd_same, r⟩
  by_cases e : b = p
  · exact ⟨_, by rw [e]; exact upd_same⟩
  · rw [upd_ne e]; exact ht b q
theorem mo_append : MtR X "list.append" (rMo c moAppend) := by
  intro pins s σ H x xs v us Q I rx rs ⟨G, P, o, ds, r, o', sg, hn, ht, ow, rd, ho, k⟩
  cases o with
  | lst es =>
    cases ds with
    | nil => cases ho
    | cons d ds =>
      cases ds with
      | cons _ _ => cases ho
      | nil =>
        have ho : (if es.length < sizeLine then some (D.non, OV.lst (es ++ [d])) else none) = some (r, o') := ho
        by_cases hl : es.length < sizeLine
        · rw [if_pos hl] at ho
          cases ho
          obtain ⟨a, vs, rfl, hp, hs, q⟩ := ow
          obtain ⟨w, rfl, h⟩ := rd.one
          obtain ⟨u1, u2, u3⟩ := lst_upd (H := H) hp ht (q.append (.cons h .nil))
          exact mt_append pins s σ H _ _ v us Q I rx rs ⟨a, vs, w, rfl, rfl, hs, by rw [← q.length]; exact hl, k _ _ u1 u2 u3 .non⟩
        · rw [if_neg hl] at ho; cases ho
  | _ => cases ds <;> cases ho
theorem Reps.dropLast {ds : List D} {vs : List V} (r : Reps c G ds vs) : Reps c G ds.dropLast vs.dropLast := by
  rw [List.dropLast_eq_take, List.dropLast_eq_take, ← r.length]
  exact r.take _
theorem mo_pop : MtR X "list.pop" (rMo c moPop) := by
  intro pins s σ H x xs v us Q I rx rs ⟨G, P, o, ds, r, o', sg, hn, ht, ow, rd, ho, k⟩
  cases o with
  | lst es =>
    cases ds with
    | cons _ _ => cases ho
    | nil =>
      have ho : (es[es.length - 1]?).map (fun d => (d, OV.lst es.dropLast)) = some (r, o') := ho
      cases e : es[es.length - 1]? with
      | none => rw [e] at ho; cases ho
      | some d =>
        rw [e] at ho
        cases ho
        cases rd
        obtain ⟨a, vs, rfl, hp, hs, q⟩ := ow
        obtain ⟨w, hw, rw'⟩ := q.get e
        obtain ⟨u1, u2, u3⟩ := lst_upd (H := H) hp ht q.dropLast
        exact mt_pop pins s σ H _ _ v us Q I rx rs ⟨a, vs, w, rfl, rfl, hs, by rw [← q.length]; exact hw, k _ _ u1 u2 u3 rw'⟩
  | _ => cases ds <;> cases ho
theorem mo_popAt : MtR X "list.pop" (rMo c moPopAt) := by
  intro pins s σ H x xs v us Q I rx rs ⟨G, P, o, ds, r, o', sg, hn, ht, ow, rd, ho, k⟩
  cases o with
  | lst es =>
    cases ds with
    | nil => cases ho
    | cons d ds =>
      cases ds with
      | cons _ _ => cases d <;> cases ho
      | nil =>
        cases d with
        | int i =>
          have ho : (if (decide (-(2 ^ 63) ≤ i) && decide (i < 2 ^ 63)) = true then (seqIndex? i es.length).bind fun k => (es[k]?).map fun d => (d, OV.lst (es.eraseIdx k)) else none) = some (r, o') := ho
          by_cases hm : (decide (-(2 ^ 63) ≤ i) && decide (i < 2 ^ 63)) = true
          · rw [if_pos hm] at ho
            simp only [Bool.and_eq_true, decide_eq_true_eq] at hm
            cases e1 : seqIndex? i es.length with
            | none => rw [e1] at ho; cases ho
            | some kk =>
              rw [e1] at ho
              have ho : (es[kk]?).map (fun d => (d, OV.lst (es.eraseIdx kk))) = some (r, o') := ho
              cases e : es[kk]? with
              | none => rw [e] at ho; cases ho
              | some d =>
                rw [e] at ho
                cases ho
                obtain ⟨w0, rfl, h⟩ := rd.one
                cases h
                obtain ⟨a, vs, rfl, hp, hs, q⟩ := ow
                obtain ⟨w, hw, rw'⟩ := q.get e
                obtain ⟨u1, u2, u3⟩ := lst_upd (H := H) hp ht (q.erase kk)
                exact mt_popAt pins s σ H _ _ v us Q I rx rs ⟨a, vs, i, kk, w, rfl, rfl, hs, hm.1, hm.2, by rw [← q.length]; exact e1, hw, k _ _ u1 u2 u3 rw'⟩
          · rw [if_neg hm] at ho; cases ho
        | _ => cases ho
  | _ => cases ds <;> cases ho
theorem mo_insert : MtR X "list.insert" (rMo c moInsert) := by
  intro pins s σ H x xs v us Q I rx rs ⟨G, P, o, ds, r, o', sg, hn, ht, ow, rd, ho, k⟩
  cases o with
  | lst es =>
    cases ds with
    | nil => cases ho
    | cons d ds =>
      cases ds with
      | nil => cases d <;> cases ho
      | cons d2 ds =>
        cases ds with
        | cons _ _ => cases d <;> cases ho
        | nil =>
          cases d with
          | int i =>
            have ho : (if (decide (0 ≤ i) && decide (i < 2 ^ 63) && decide (es.length < sizeLine)) = true then some (D.non, OV.lst (es.take i.toNat ++ [d2] ++ es.drop i.toNat)) else none) = some (r, o') := ho
            by_cases hm : (decide (0 ≤ i) && decide (i < 2 ^ 63) && decide (es.length < sizeLine)) = true
            · rw [if_pos hm] at ho
              simp only [Bool.and_eq_true, decide_eq_true_eq] at hm
              cases ho
              cases rd with
              | cons h1 rd =>
                obtain ⟨w, rfl, h⟩ := rd.one
                cases h1
                obtain ⟨a, vs, rfl, hp, hs, q⟩ := ow
                obtain ⟨u1, u2, u3⟩ := lst_upd (H := H) hp ht (((q.take i.toNat).append (.cons h .nil)).append (q.drop i.toNat))
                exact mt_insert pins s σ H _ _ v us Q I rx rs ⟨a, vs, i, w, rfl, rfl, hs, by rw [← q.length]; exact hm.2, hm.1.1, hm.1.2, k _ _ u1 u2 u3 .non⟩
            · rw [if_neg hm] at ho; cases ho
          | _ => cases ho
  | _ => cases ds <;> cases ho

/-! ### stores into a slot's own object -/
def putD (kvs : List (Key × D)) (k : Key) (v : D) : List (Key × D) :=
  if (kvs.any fun kv => decide (kv.1 = k)) = true then kvs.map (fun kv => if kv.1 = k then (kv.1, v) else kv) else kvs ++ [(k, v)]
def setO : OV → D → D → Option OV
  | .lst ds, .int i, d => (ixN ds.length i).map fun j => .lst (ds.set j d)
  | .dct kvs, k, d => (keyD k).bind fun k => if kvs.length < sizeLine then some (.dct (putD kvs k d)) else none
  | _, _, _ => none
def rSo (c : Cn) : TSet := fun x i v H Q => ∃ G P o di d o', Same G H ∧ (∀ b, P b → G b = none) ∧ (∀ b, P b → ∃ u, H b = some u) ∧ OwR c G H P o x ∧ RepR c G H di i ∧ Rep c G d v ∧ setO o di d = some o' ∧
  ∀ H', (∀ b, ¬ P b → H' b = H b) → (∀ b, P b → ∃ u, H' b = some u) → OwR c G H' P o' x → Q H'
theorem put_keys {ds : List (Key × D)} {kvs : List (Key × V)} {k : Key} {d : D} {v : V} (h : ds.map (·.1) = kvs.map (·.1)) (r : Reps c G (ds.map (·.2)) (kvs.map (·.2))) (rd : Rep c G d v) :
    (putD ds k d).map (·.1) = (putK kvs k v).map (·.1) ∧ Reps c G ((putD ds k d).map (·.2)) ((putK kvs k v).map (·.2)) := by
  have ha : (ds.any fun kv => decide (kv.1 = k)) = kvs.any fun kv => decide (kv.1 = k) := by
    have e1 : (ds.any fun kv => decide (kv.1 = k)) = (ds.map (·.1)).any fun y => decide (y = k) := by rw [List.any_map]; rfl
    have e2 : (kvs.any fun kv => decide (kv.1 = k)) = (kvs.map (·.1)).any fun y => decide (y = k) := by rw [List.any_map]; rfl
    rw [e1, e2, h]
  unfold putD putK
  rw [ha]
  by_cases z : (kvs.any fun kv => decide (kv.1 = k)) = true
  · rw [if_pos z, if_pos z]
    clear ha z
    induction ds generalizing kvs with
    | nil =>
      cases kvs with
      | nil => exact ⟨rfl, .nil⟩
      | cons _ _ => cases h
    | cons p ds ih =>
      cases kvs with
      | nil => cases h
      | cons q kvs =>
        rw [List.map_cons, List.map_cons] at h
        injection h with h1 h2
        rw [List.map_cons, List.map_cons] at r
        cases r with
        | cons r1 r2 =>
          obtain ⟨i1, i2⟩ := ih h2 r2
          rw [List.map_cons, List.map_cons, List.map_cons, List.map_cons, List.map_cons, List.map_cons]
          by_cases e : p.1 = k
          · have e' : q.1 = k := h1.symm.trans e
            rw [if_pos e, if_pos e']
            exact ⟨by rw [i1]; simp [h1], .cons rd i2⟩
          · have e' : ¬ q.1 = k := fun w => e (h1.trans w)
            rw [if_neg e, if_neg e']
            exact ⟨by rw [i1]; simp [h1], .cons r1 i2⟩
  · rw [if_neg z, if_neg z]
    rw [List.map_append, List.map_append, List.map_append, List.map_append]
    exact ⟨by rw [h]; rfl, r.append (.cons rd .nil)⟩
theorem set_O (hu : X.A.units + 1 < cLine) : PSet X (rSo c) := by
  intro pins s σ H x i v ov iv u Q I ro ri rv ⟨G, P, o, di, d, o', sg, hn, ht, ow, hi, hd, ho, k⟩
  cases o with
  | lst es =>
    cases di with
    | int ii =>
      have ho : (ixN es.length ii).map (fun j => OV.lst (es.set j d)) = some o' := ho
      cases e : ixN es.length ii with
      | none => rw [e] at ho; cases ho
      | some j =>
        rw [e] at ho
        cases ho
        cases hi
        obtain ⟨a, vs, rfl, hp, hs, q⟩ := ow
        obtain ⟨u1, u2, u3⟩ := lst_upd (H := H) hp ht (q.set hd j)
        exact set_list pins s σ H _ _ _ ov iv u Q I ro ri rv ⟨a, vs, ii, j, rfl, rfl, hs, by rw [← q.length]; exact e, k _ u1 u2 u3⟩
    | _ => cases ho
  | dct kvs =>
    have ho : (keyD di).bind (fun k => if kvs.length < sizeLine then some (OV.dct (putD kvs k d)) else none) = some o' := ho
    cases e : keyD di with
    | none => rw [e] at ho; cases ho
    | some kk =>
      rw [e] at ho
      have ho : (if kvs.length < sizeLine then some (OV.dct (putD kvs kk d)) else none) = some o' := ho
      by_cases hl : kvs.length < sizeLine
      · rw [if_pos hl] at ho
        cases ho
        obtain ⟨a, kv, rfl, hp, hs, m, q⟩ := ow
        have hx := keyD_rep hi e
        subst hx
        obtain rfl : ov = Value.ref a := ro
        obtain ⟨p1, p2⟩ := put_keys m q hd (k := kk)
        have hlen : kvs.length = kv.length := by
          have := congrArg List.length m
          rw [List.length_map, List.length_map] at this
          exact this
        refine d_setItem (H' := upd H a (.dK (putK kv kk v))) hu I (.inl ⟨kv, kk, hs, rfl, by rw [← hlen]; exact hl, rfl⟩) ri rv fun s4 I4 => ⟨_, I4, k _ (fun b n => upd_ne fun e => n (by rw [e]; exact hp)) (fun b z => ?_) ⟨a, _, rfl, hp, upd_same, p1, p2⟩⟩
        by_cases ee : b = a
        · exact ⟨_, by rw [ee]; exact upd_same⟩
        · rw [upd_ne ee]; exact ht b z
      · rw [if_neg hl] at ho; cases ho
  | ins _ _ => cases ho
def isOwn (ρ : Ro) (j : Nat) : Bool := match ρ[j]? with
  | some (.ow _ _) => true
  | _ => false
def setR (j : Nat) (r ri : R) : S := fun ρ => match r, ρ[j]?, deref ρ ri with
  | .val d, some (.ow k o), some di => match setO o di d with
    | some o' => .nx (ρ.set j (.ow k o'))
    | none => .bad
  | _, _, _ => .bad
def setK (j : Nat) (fi : M R) (r : R) : S := fun ρ => if isOwn ρ j = true then sBind fi (setR j r) ρ else .bad
def sSet (j : Nat) (fv fi : M R) : S := sBind (eFz fv) (setK j fi)
theorem SPo.set {j : Nat} {fi : M R} {r : R} {v : V} {E : Ends} {ρ0 : Ro} {G0 H0 : Hp} {own0 : Own} {σ00 : St} {N : Addr → Prop} (S : SR c σ0 G own ρ σ H) (t : Tr ρ0 σ00 G0 own0 H0 ρ σ G own H) (R1 : RR c G own σ H N r v) (h : SPo c σ0 W σ00 ρ0 G0 own0 H0 E (setK j fi r ρ)) :
    gSub (tVar j) (tD c σ0 W fi) (rSo c) v σ H E.nx := by
  have h := h.from t
  unfold setK at h
  by_cases hi : isOwn ρ j = true
  · rw [if_pos hi] at h
    have hx : ∃ x, σ[j]? = some (some x) := by
      unfold isOwn at hi
      cases e : ρ[j]? with
      | none => rw [e] at hi; cases hi
      | some s =>
        rw [e] at hi
        cases s with
        | ow k o =>
          obtain ⟨x, hx, _⟩ := S.slot j _ e
          exact ⟨x, hx⟩
        | _ => cases hi
    obtain ⟨x, hx⟩ := hx
    refine ⟨x, hx, SPo.bind S h fun ri ρ1 G1 own1 H1 vi t1 S1 R2 h1 => ?_⟩
    have h1 := h1.from t1
    unfold setR at h1
    cases r with
    | val d =>
      cases e : ρ1[j]? with
      | none => rw [e] at h1; exact h1.elim
      | some s =>
        cases e1 : deref ρ1 ri with
        | none => rw [e, e1] at h1; cases s <;> exact h1.elim
        | some di =>
          rw [e, e1] at h1
          cases s with
          | ow k o =>
            dsimp only at h1
            cases e3 : setO o di d with
            | none => rw [e3] at h1; exact h1.elim
            | some o' =>
              rw [e3] at h1
              obtain ⟨w, hw, r⟩ := S1.slot j _ e
              rw [hx] at hw; cases hw
              refine ⟨G1, own1 j, o, di, d, o', S1.same, S1.out j, S1.there j, r, deref_rd S1 R2 e1, Rep.mono t1.ext R1, e3, fun H' hH ht r' => ?_⟩
              obtain ⟨S', t'⟩ := S1.chg e hx hH ht r'
              exact h1 σ G1 own1 H' t' S'
          | _ => exact h1.elim
    | sl _ => cases h1
    | nw _ => cases h1
  · rw [if_neg hi] at h; exact h.elim
theorem ds_sub {j : Nat} {x i value : Expr} {pos' spos : Pos} {fv fi : M R} (hu : X.A.units + 1 < cLine) (hx : PE X x (tVar j)) (hi : PE X i (tD c σ0 W fi)) (hv : PE X value (tD c σ0 W fv))
    (hs : swapsWithSole [.Subscript x i pos'] value spos.line X.env = pure false := by rfl) (hw : swappedStores [.Subscript x i pos'] value X.env = pure none := by rfl)
    (h1 : (assignEach [.Subscript x i pos'] X.env).map (·.2) = [assign (.Subscript x i pos') X.env] := by rfl)
    (ha : ∀ v, assign (.Subscript x i pos') X.env v = (do
      let ov ← holding [v] (eval x X.env)
      let iv ← holding [v, ov] (eval i X.env)
      standAt pos'
      holding [v, ov, iv] (setItem ov iv v)
      release [v, ov, iv] []) := by intro _; rfl) : PS X (.Assign [.Subscript x i pos'] value spos) (tS c σ0 W (sSet j fv fi)) :=
  PS.imp (ps_asg (de_fz hv) (pg_sub hx hi (set_O hu) ha) hs hw h1) fun E σ H q => by
    obtain ⟨G, own, ρ, S, q⟩ := q
    exact SPo.bind S q fun r ρ1 G1 own1 H1 v t1 S1 R1 h1 => SPo.set S1 t1 R1 h1
end
end DL

/-! DLn: subscripts, slices, f-strings, globals. -/
namespace DL
open PySem PySem.Spec PyProof.Rows L2

/-! ### subscripts -/
def opIx : D → D → Option R
  | .lst ds, .int i => (atI ds i).map .val
  | .tup ds, .int i => (atI ds i).map .val
  | .scr ns, .int i => (atI ns i).map fun n => .val (.int n)
  | .str z, .int i => if z.length ≤ sizeLine then (atI z.cps.toList i).bind fun c => vS ⟨#[c]⟩ else none
  | .dct kvs, k => (keyD k).bind fun k => (kvs.find? fun kv => decide (kv.1 = k)).map fun p => .val p.2
  | _, _ => none
section
variable {X : Cx} {c : Cn} {σ0 : St} {W : WX} {σ : St} {ρ : Ro} {G H : Hp} {own : Own} {a b e : Expr} {es : List Expr} {pos p p2 : Pos} {x : Str} {f g : M R} {fa : M (List R)}
theorem Reps.at {ds : List D} {vs : List V} {i : Int} {d : D} (r : Reps c G ds vs) (h : atI ds i = some d) : ∃ v, atI vs i = some v ∧ Rep c G d v := by
  unfold atI at h ⊢
  rw [← r.length]
  cases e : ixN ds.length i with
  | none => rw [e] at h; cases h
  | some j =>
    rw [e] at h
    exact r.get h
theorem keys_get {ds : List (Key × D)} {kvs : List (Key × V)} {k : Key} {p : Key × D} (h : ds.map (·.1) = kvs.map (·.1)) (r : Reps c G (ds.map (·.2)) (kvs.map (·.2))) (e : ds.find? (fun kv => decide (kv.1 = k)) = some p) : ∃ v, valV kvs k = some v ∧ Rep c G p.2 v := by
  induction ds generalizing kvs with
  | nil => cases e
  | cons q ds ih =>
    cases kvs with
    | nil => cases h
    | cons w kvs =>
      rw [List.map_cons, List.map_cons] at h
      injection h with h1 h2
      rw [List.map_cons, List.map_cons] at r
      cases r with
      | cons r1 r2 =>
        rw [List.find?_cons] at e
        by_cases z : q.1 = k
        · rw [decide_eq_true z] at e
          cases e
          exact ⟨w.2, valV_pos (h1.symm.trans z), r1⟩
        · rw [decide_eq_false z] at e
          obtain ⟨v, hv, rv⟩ := ih h2 r2 e
          refine ⟨v, ?_, rv⟩
          rw [← hv]
          unfold valV
          rw [List.find?_cons, decide_eq_false fun y => z (h1.trans y)]
theorem ix_D (hK : c.K = X.K) (hu : X.A.units + 1 < cLine) : IxR X (rD c opIx) := by
  intro value slice pins s σ H x y v u Q I rx ry ⟨G, d, e, r, sg, hd, he, ho, k⟩ hs
  cases d with
  | lst ds =>
    cases e with
    | int i =>
      have ho : (atI ds i).map R.val = some r := ho
      cases q : atI ds i with
      | none => rw [q] at ho; cases ho
      | some z =>
        rw [q] at ho
        cases ho; cases he
        obtain ⟨a, vs, rfl, h1, r1⟩ := hd
        obtain ⟨w, hw, rw'⟩ := r1.at q
        exact ix_list value slice pins s σ H _ _ v u Q I rx ry ⟨a, vs, i, w, rfl, rfl, .inl (.inl h1), hw, k G H _ (New.refl sg) rw'⟩ hs
    | _ => cases ho
  | tup ds =>
    cases e with
    | int i =>
      have ho : (atI ds i).map R.val = some r := ho
      cases q : atI ds i with
      | none => rw [q] at ho; cases ho
      | some z =>
        rw [q] at ho
        cases ho; cases he
        obtain ⟨a, vs, rfl, h1, r1⟩ := hd
        obtain ⟨w, hw, rw'⟩ := r1.at q
        have h1' := sqT_same sg h1
        rw [hK] at h1'
        exact ix_tup value slice pins s σ H _ _ v u Q I rx ry ⟨a, vs, i, w, rfl, rfl, h1', hw, k G H _ (New.refl sg) rw'⟩ hs
    | _ => cases ho
  | scr ns =>
    cases e with
    | int i =>
      have ho : (atI ns i).map (fun n => R.val (.int n)) = some r := ho
      cases q : atI ns i with
      | none => rw [q] at ho; cases ho
      | some z =>
        rw [q] at ho
        cases ho; cases he
        obtain ⟨a, rfl, h1⟩ := hd
        rw [hK] at h1
        have hz : atI (ns.map V.int) i = some (V.int z) := by
          unfold atI at q ⊢
          rw [List.length_map]
          cases e : ixN ns.length i with
          | none => rw [e] at q; cases q
          | some j =>
            rw [e] at q
            have q : ns[j]? = some z := q
            show (ns.map V.int)[j]? = _
            rw [List.getElem?_map, q]; rfl
        exact ix_list value slice pins s σ H _ _ v u Q I rx ry ⟨a, _, i, _, rfl, rfl, h1, hz, k G H _ (New.refl sg) (Rep.int _)⟩ hs
    | _ => cases ho
  | str z =>
    cases e with
    | int i =>
      have ho : (if z.length ≤ sizeLine then (atI z.cps.toList i).bind (fun c => vS ⟨#[c]⟩) else none) = some r := ho
      by_cases hl : z.length ≤ sizeLine
      · rw [if_pos hl] at ho
        cases q : atI z.cps.toList i with
        | none => rw [q] at ho; cases ho
        | some ch =>
          rw [q] at ho
          cases ho; cases he; cases hd
          exact ix_str value slice pins s σ H _ _ v u Q I rx ry ⟨z, i, ch, rfl, rfl, hl, q, k G H _ (New.refl sg) (Rep.str _)⟩ hs
      · rw [if_neg hl] at ho; cases ho
    | _ => cases ho
  | dct kvs =>
    have ho : (keyD e).bind (fun k => (kvs.find? fun kv => decide (kv.1 = k)).map fun p => R.val p.2) = some r := ho
    cases ek : keyD e with
    | none => rw [ek] at ho; cases ho
    | some kk =>
      rw [ek] at ho
      have ho : (kvs.find? fun kv => decide (kv.1 = kk)).map (fun p => R.val p.2) = some r := ho
      cases ef : kvs.find? (fun kv => decide (kv.1 = kk)) with
      | none => rw [ef] at ho; cases ho
      | some p =>
        rw [ef] at ho
        cases ho
        obtain ⟨a, kv, rfl, h1, m, rr⟩ := hd
        obtain ⟨w, hw, rw'⟩ := keys_get m rr ef
        have hx := keyD_rep he ek
        subst hx
        obtain rfl : v = Value.ref a := rx
        have g : DGet H a (kV kk) (some w) := by rw [← hw]; exact DGet.k h1
        exact tail_any (dict_typeIs I g) PySem.F.slot_dict_getitem.lookup (d_getItem hu I g ry fun w' s' I' rw2 => ⟨w, H, I', rw2, k G H _ (New.refl sg) rw'⟩) hs
  | _ => cases e <;> cases ho
theorem de_ix (hK : c.K = X.K) (hu : X.A.units + 1 < cLine) (ha : PE X a (tD c σ0 W f)) (hb : PE X b (tD c σ0 W g)) (hs : PlainIx b) : PE X (.Subscript a b pos) (tD c σ0 W (eBin opIx f g)) :=
  PE.imp (pe_ix (ix_D hK hu) ha hb hs) fun _ _ _ h => tOp_of h

/-! ### slices -/
def cutD (xs : List D) (lo hi : Option Int) : List D := (xs.drop (HT.sIx xs.length 0 lo)).take (HT.sIx xs.length xs.length hi - HT.sIx xs.length 0 lo)
def opSl : D → Option Int → Option Int → Option R
  | .lst ds, lo, hi => some (.nw (.lst (cutD ds lo hi)))
  | .tup ds, lo, hi => some (.val (.tup (cutD ds lo hi)))
  | .scr ns, lo, hi => some (.nw (.lst (cutD (ns.map .int) lo hi)))
  | .str z, lo, hi => if z.length ≤ sizeLine then vS (cutS z lo hi) else none
  | _, _, _ => none
abbrev relO : Rl (Option Int) (Option Int) := fun _ _ _ _ _ b b' => b = b'
theorem relO_mono : RlMono relO := fun _ _ _ _ _ _ _ _ _ r => r
abbrev tOi (c : Cn) (σ0 : St) (W : WX) (f : M (Option Int)) : TO := tX relO c σ0 W f
def eNoP : M (Option Int) := M.ret none
def partR (r : R) : M (Option Int) := fun ρ => match deref ρ r with
  | some (.int i) => .ok (some i) ρ
  | _ => .bad
def eP (f : M R) : M (Option Int) := f.bind partR
def slR (r : R) (lo hi : Option Int) : M R := fun ρ => match deref ρ r with
  | some d => M.of (opSl d lo hi) ρ
  | _ => .bad
def eSl (f : M R) (fl fh : M (Option Int)) : M R := f.bind fun r => fl.bind fun lo => fh.bind fun hi => slR r lo hi
theorem do_none : PO X none (tOi c σ0 W eNoP) := ⟨fun pins s σ H Q I q => po_none.run pins s σ H Q I (by
  obtain ⟨G, own, ρ, S, q⟩ := q
  exact q G own H none Tr.refl S rfl)⟩
theorem do_some (h : PE X e (tD c σ0 W f)) : PO X (some e) (tOi c σ0 W (eP f)) := ⟨fun pins s σ H Q I q => (po_some h).run pins s σ H Q I (by
  obtain ⟨G, own, ρ, S, q⟩ := q
  refine XP.bind S q fun r ρ1 G1 own1 H1 v t1 S1 R1 h1 => ?_
  unfold partR at h1
  cases e1 : deref ρ1 r with
  | none => rw [e1] at h1; exact h1.elim
  | some d =>
    rw [e1] at h1
    cases d with
    | int i =>
      have z := deref_rd S1 R1 e1
      cases z
      exact ⟨i, rfl, h1 G1 own1 H1 _ t1 S1 rfl⟩
    | _ => exact h1.elim)⟩
def rSlD (c : Cn) : V → Option Int → Option Int → Hp → VK → Prop := fun x lo hi H Q => ∃ G d r, Same G H ∧ RepR c G H d x ∧ opSl d lo hi = some r ∧ ∀ G' H' v', New G H G' H' → RO c G' H' H r v' → Q v' H'
theorem Reps.cut {ds : List D} {vs : List V} (r : Reps c G ds vs) (lo hi : Option Int) : Reps c G (cutD ds lo hi) (cutV vs lo hi) := by
  unfold cutD cutV
  rw [← r.length]
  exact (r.drop _).take _
theorem cut_whole {ds : List D} {lo hi : Option Int} (h : HT.sIx ds.length 0 lo = 0 ∧ HT.sIx ds.length ds.length hi = ds.length) : cutD ds lo hi = ds := by
  unfold cutD
  rw [h.1, h.2]
  simp
theorem sl_D (hK : c.K = X.K) : L2.SlR X (rSlD c) := by
  intro pins s σ H x v vl vu lo hi sl Q I rx hs pl pu ⟨G, d, r, sg, hd, ho, k⟩
  cases d with
  | lst ds =>
    cases ho
    obtain ⟨a, vs, rfl, h1, r1⟩ := hd
    refine sl_list pins s σ H _ v vl vu lo hi sl Q I rx hs pl pu ⟨a, vs, rfl, .inl (.inl h1), fun p hp => ?_⟩
    obtain ⟨n, o⟩ := RO.nwl (r1.cut lo hi) sg hp
    exact k G _ _ n o
  | tup ds =>
    cases ho
    obtain ⟨a, vs, rfl, h1, r1⟩ := hd
    have h1' := sqT_same sg h1
    rw [hK] at h1'
    refine sl_tupA pins s σ H _ v vl vu lo hi sl Q I rx hs pl pu ⟨a, vs, rfl, h1', fun hw => ?_, fun _ p hp => ?_⟩
    · refine k G H _ (New.refl sg) ?_
      rw [← r1.length] at hw
      show Rep c G (.tup (cutD ds lo hi)) _
      rw [cut_whole hw]
      exact Rep.tup h1 r1
    · obtain ⟨G', n, o⟩ := RO.nwt (r1.cut lo hi) sg hp
      exact k G' _ _ n o
  | scr ns =>
    cases ho
    obtain ⟨a, rfl, h1⟩ := hd
    rw [hK] at h1
    refine sl_list pins s σ H _ v vl vu lo hi sl Q I rx hs pl pu ⟨a, _, rfl, h1, fun p hp => ?_⟩
    obtain ⟨n, o⟩ := RO.nwl ((reps_ints (c := c) ns).cut lo hi) sg hp
    exact k G _ _ n o
  | str z =>
    have ho : (if z.length ≤ sizeLine then vS (cutS z lo hi) else none) = some r := ho
    by_cases hl : z.length ≤ sizeLine
    · rw [if_pos hl] at ho
      cases ho; cases hd
      exact sl_str pins s σ H _ v vl vu lo hi sl Q I rx hs pl pu ⟨z, rfl, hl, k G H _ (New.refl sg) (Rep.str _)⟩
    · rw [if_neg hl] at ho; cases ho
  | _ => cases ho
theorem de_sl {lo hi : Option Expr} {fl fh : M (Option Int)} (hK : c.K = X.K) (he : PE X e (tD c σ0 W f)) (hl : PO X lo (tOi c σ0 W fl)) (hh : PO X hi (tOi c σ0 W fh)) : PE X (.Subscript e (.Slice lo hi none p2) pos) (tD c σ0 W (eSl f fl fh)) :=
  PE.imp (pe_slice (sl_D hK) he hl hh) fun σ H Q q => by
    obtain ⟨G, own, ρ, S, q⟩ := q
    refine XP.bind S q fun r ρ1 G1 own1 H1 v t1 S1 R1 h1 => ?_
    refine XP.bind S1 (XP.from t1 h1 (relR_mono c)) fun lo ρ2 G2 own2 H2 l t2 S2 R2 h2 => ?_
    cases R2
    refine XP.bind S2 (XP.from t2 h2 (relR_mono c)) fun hi ρ3 G3 own3 H3 l t3 S3 R3 h3 => ?_
    cases R3
    have h3 := XP.from t3 h3 (relR_mono c)
    unfold slR at h3
    cases e1 : deref ρ3 r with
    | none => rw [e1] at h3; exact h3.elim
    | some d =>
      rw [e1] at h3
      have h3 : XP (relR c) c σ0 W σ ρ3 G3 own3 H3 Q (M.of (opSl d lo hi) ρ3) := h3
      cases e2 : opSl d lo hi with
      | none => rw [e2] at h3; exact h3.elim
      | some r' =>
        rw [e2] at h3
        exact ⟨G3, d, r', S3.same, deref_rd S3 ((R1.step t2).step t3) e1, e2, fun G' H' v' n o => XP.new S3 h3 n o⟩

/-! ### f-strings -/
def fmtD : D → Option R
  | .str y => if y.length ≤ sizeLine then vS y else none
  | .int i => if i.natAbs.log2 < 1920 then vS (toString i) else none
  | _ => none
def eFmt (f : M R) : M R := eUn fmtD f
theorem de_fmt (h : PE X e (tD c σ0 W f)) : PE X (.FormattedValue e (-1) none pos) (tD c σ0 W (eFmt f)) := PE.imp (pe_fmt h) fun σ H Q q => by
  obtain ⟨G, own, ρ, S, q⟩ := q
  refine XP.bind S q fun r ρ1 G1 own1 H1 v t1 S1 R1 h1 => ?_
  obtain ⟨G', d, r', sg, hd, ho, k⟩ := XP.op1 S1 (XP.from t1 h1 (relR_mono c)) R1
  cases d with
  | str y =>
    have ho : (if y.length ≤ sizeLine then vS y else none) = some r' := ho
    by_cases hl : y.length ≤ sizeLine
    · rw [if_pos hl] at ho
      cases ho; cases hd
      exact .inl ⟨y, rfl, hl, k G' H1 _ (New.refl sg) (Rep.str _)⟩
    · rw [if_neg hl] at ho; cases ho
  | int i =>
    have ho : (if i.natAbs.log2 < 1920 then vS (toString i) else none) = some r' := ho
    by_cases hl : i.natAbs.log2 < 1920
    · rw [if_pos hl] at ho
      cases ho; cases hd
      exact .inr ⟨i, rfl, hl, k G' H1 _ (New.refl sg) (Rep.str _)⟩
    · rw [if_neg hl] at ho; cases ho
  | _ => cases ho
def joinR (k : Str → M R) (acc : Str) (r : R) : M R := match r with
  | .val (.str y) => if (acc ++ y).length ≤ sizeLine then k (acc ++ y) else fun _ => .bad
  | _ => fun _ => .bad
def eJs : List (M R) → Str → M R
  | [], acc => M.ret (.val (.str acc))
  | f :: fs, acc => f.bind (joinR (eJs fs) acc)
inductive PJD (X : Cx) (c : Cn) (σ0 : St) (W : WX) : List Expr → List (M R) → Prop
  | nil : PJD X c σ0 W [] []
  | cons {e : Expr} {f : M R} {es : List Expr} {fs : List (M R)} (h : PE X e (tD c σ0 W f)) (r : PJD X c σ0 W es fs) : PJD X c σ0 W (e :: es) (f :: fs)
theorem PJD.pj : ∀ {es : List Expr} {fs : List (M R)}, PJD X c σ0 W es fs → PJ X es (fs.map fun f => tD c σ0 W f)
  | _, _, .nil => .nil
  | _, _, .cons h r => .cons h r.pj
theorem tJs_of {Q : VK} : ∀ {fs : List (M R)} {acc : Str} {H : Hp}, tD c σ0 W (eJs fs acc) σ H Q → tJs (fs.map fun f => tD c σ0 W f) acc σ H fun out H1 => Q (.str out) H1
  | [], acc, H, ⟨G, own, ρ, S, q⟩ => XP.ret S q (Rep.str _)
  | f :: fs, acc, H, ⟨G, own, ρ, S, q⟩ => by
    refine XP.bind S q fun r ρ1 G1 own1 H1 v t1 S1 R1 h1 => ?_
    cases r with
    | val d =>
      cases d with
      | str y =>
        cases R1
        have h1 := XP.from t1 h1 (relR_mono c)
        unfold joinR at h1
        dsimp only at h1
        by_cases hl : (acc ++ y).length ≤ sizeLine
        · rw [if_pos hl] at h1
          exact ⟨y, rfl, hl, tJs_of ⟨G1, own1, ρ1, S1, h1⟩⟩
        · rw [if_neg hl] at h1; exact h1.elim
      | _ => exact h1.elim
    | _ => exact h1.elim
theorem de_joined {v1 v2 : Expr} {rest : List Expr} {fs : List (M R)} (h : PJD X c σ0 W (v1 :: v2 :: rest) fs) : PE X (.JoinedStr (v1 :: v2 :: rest) pos) (tD c σ0 W (eJs fs Str.empty)) :=
  PE.imp (pe_joined h.pj) fun _ _ _ q => tJs_of q
theorem de_joined1 (h : PE X e (tD c σ0 W f)) : PE X (.JoinedStr [e] pos) (tD c σ0 W f) := pe_joined1 h

/-! ### globals -/
theorem de_glob {u : Value} {v : V} {d : D} (hg : Gl X x) (hm : X.mg x = some u) (r : RelV v u) (hd : ∀ G, Rep c G d v) (hdb : (x == ("__debug__" : Str)) = false := by decide) : PE X (.Name x pos) (tD c σ0 W (eC d)) := de_c hd (pe_glob hg hm r hdb)
end
end DL

/-! DLo: dict comprehensions. -/
namespace DL
open PySem PySem.Spec PyProof.Rows L2

def keyR : R → Option Key
  | .val d => keyD d
  | _ => none
def dcompN (tgt : Tgt) (cond : M Bool) (fk fv : M R) (vs : List Nat) : List D → List (Key × D) → M (List (Key × D))
  | [], acc, ρ => .ok acc ρ
  | d :: ds, acc, ρ => match tgt d ρ with
    | none => .bad
    | some ρ1 => match cond ρ1 with
      | .ok true ρ2 => match fk ρ2 with
        | .ok rk ρ3 => match keyR rk with
          | some k => match fv ρ3 with
            | .ok r ρ4 => match escD r with
              | some x => if acc.length < sizeLine then dcompN tgt cond fk fv vs ds (putD acc k x) (wipeR ρ4 vs) else .bad
              | none => .bad
            | _ => .bad
          | none => .bad
        | _ => .bad
      | .ok false ρ2 => dcompN tgt cond fk fv vs ds acc (wipeR ρ2 vs)
      | _ => .bad
def dcompR (tgt : Tgt) (cond : M Bool) (fk fv : M R) (vs : List Nat) (it : Iter) : M R := fun ρ =>
  if (it.src.all (fun p => isLn ρ p.1) && vs.all fun v => !isLn ρ v) = true then (match it.items ρ with
    | none => .bad
    | some ds => match dcompN tgt cond fk fv vs ds [] (wipeR ρ vs) with
      | .ok acc ρ' => .ok (.nw (.dct acc)) (undoR it.src ρ')
      | _ => .bad) else .bad
def eDComp (f : M Iter) (tgt : Tgt) (cond : M Bool) (fk fv : M R) (vs : List Nat) : M R := f.bind (dcompR tgt cond fk fv vs)

section
variable {X : Cx} {c : Cn} {σ0 : St} {W : WX} {σ σ' : St} {ρ ρ' : Ro} {G G' H H' : Hp} {own own' : Own} {vs : List Nat}
theorem tDc_of {f : M Iter} {ts : List Nat} {tgt : Tgt} {cond : M Bool} {fk fv : M R} {Q : VK} (hts : ∀ i ∈ ts, i ∈ vs)
    (h : tD c σ0 W (eDComp f tgt cond fk fv vs) σ H Q) (hu : Und f) : tDc (tI c σ0 W f) (tG c σ0 ts tgt) (tT c σ0 (fun _ _ _ _ => False) cond) (tD c σ0 (fun _ _ _ _ => False) fk) (tD c σ0 (fun _ _ _ _ => False) fv) vs σ H Q := by
  obtain ⟨G, own, ρ, S, q⟩ := h
  refine ⟨G, own, ρ, S, ?_⟩
  unfold eDComp M.bind at q
  cases e : f ρ with
  | bad => rw [e] at q; exact q
  | ex x ρ1 =>
    rw [e] at q
    exact q
  | ok it ρ1 =>
    rw [e] at q
    intro G1 own1 H1 J t1 S1 K Da hDa
    unfold dcompR at q
    dsimp only at q
    by_cases hl : (it.src.all (fun p => isLn ρ1 p.1) && vs.all fun v => !isLn ρ1 v) = true
    · rw [if_pos hl] at q
      obtain ⟨hl1, hl2⟩ := Bool.and_eq_true_iff.mp hl
      have hn : ∀ v ∈ vs, isLn ρ1 v = false := fun v hv => by
        have := List.all_eq_true.mp hl2 v hv
        simpa using this
      cases e2 : it.items ρ1 with
      | none => rw [e2] at q; exact q.elim
      | some ds =>
        rw [e2] at q
        dsimp only at q
        have gDa : G1 Da = none := by
          cases z : G1 Da with
          | none => rfl
          | some o => rw [S1.same Da o z] at hDa; cases hDa
        have oDa : ¬ ao own1 Da := fun ⟨i, z⟩ => by
          obtain ⟨o, w⟩ := S1.there i Da z
          rw [hDa] at w; cases w
        generalize hres : dcompN tgt cond fk fv vs ds [] (wipeR ρ1 vs) = res at q
        have Sw : SR c σ0 G1 own1 (wipeR ρ1 vs) (L2.wipe σ vs) H1 := S1.wipe
        refine ⟨fun i m H' => m = ds.length - i ∧ i ≤ ds.length ∧ ∃ G' own' ρ' acc accV, SR c σ0 G' own' (wipeR ρ' vs) (L2.wipe σ vs) H' ∧ ρ'.length = σ.length ∧ Tr (wipeR ρ1 vs) (L2.wipe σ vs) G1 own1 H1 (wipeR ρ' vs) (L2.wipe σ vs) G' own' H' ∧
          H' Da = some (.dK accV) ∧ (acc.map (·.1) = accV.map (·.1) ∧ Reps c G' (acc.map (·.2)) (accV.map (·.2))) ∧ G' Da = none ∧ ¬ ao own' Da ∧ dcompN tgt cond fk fv vs (ds.drop i) acc (wipeR ρ' vs) = res, ⟨ds.length, rfl, Nat.zero_le _, G1, own1, ρ1, [], [], Sw.updFree gDa oDa, S1.len, Tr.refl.updFree hDa, upd_same, ⟨rfl, .nil⟩, gDa, oDa, hres⟩, ?_⟩
        rintro i m H' ⟨rfl, hle, G', own', ρ', acc, accV, S', hlen, t', hD', ⟨ka, ra⟩, gD', oD', hr⟩
        have hsrc : ∀ p ∈ it.src, (wipeR ρ' vs)[p.1]? = ρ1[p.1]? ∧ (L2.wipe σ vs)[p.1]? = σ[p.1]? ∧ isLn (wipeR ρ' vs) p.1 = true := fun p hp => by
          obtain ⟨k, o, e⟩ := isLn_get (List.all_eq_true.mp hl1 p hp)
          have hj : p.1 ∉ vs := fun z => by
            have w := hn p.1 z
            unfold isLn at w
            rw [e] at w
            cases w
          have ew : (wipeR ρ1 vs)[p.1]? = some (.ln k o) := by rw [wipeR_get, if_neg hj]; exact e
          obtain ⟨e1, e2⟩ := t'.lent p.1 k o ew
          exact ⟨by rw [e1, e], by rw [wipe_get, if_neg hj], by unfold isLn; rw [e1]⟩
        have hitems : it.items (wipeR ρ' vs) = some ds := by
          rw [K.loc (wipeR ρ' vs) ρ1 fun p hp => (hsrc p hp).1]
          exact e2
        obtain ⟨kstop, kgo⟩ := K.go σ0 G' own' (wipeR ρ' vs) (L2.wipe σ vs) H' ds t'.ext S' (fun p hp => (hsrc p hp).2) hitems
        by_cases hlt : i < ds.length
        · have hd : ds[i]? = some ds[i] := List.getElem?_eq_getElem hlt
          obtain ⟨kg, ky⟩ := kgo i _ hd
          have hdrop : ds.drop i = ds[i] :: ds.drop (i + 1) := List.drop_eq_getElem_cons hlt
          rw [hdrop] at hr
          refine .inr ⟨kg, fun H'' => ∃ G'' own'' ρ'' acc accV, SR c σ0 G'' own'' (wipeR ρ'' vs) (L2.wipe σ vs) H'' ∧ ρ''.length = σ.length ∧ Tr (wipeR ρ1 vs) (L2.wipe σ vs) G1 own1 H1 (wipeR ρ'' vs) (L2.wipe σ vs) G'' own'' H'' ∧
            H'' Da = some (.dK accV) ∧ (acc.map (·.1) = accV.map (·.1) ∧ Reps c G'' (acc.map (·.2)) (accV.map (·.2))) ∧ G'' Da = none ∧ ¬ ao own'' Da ∧ dcompN tgt cond fk fv vs (ds.drop (i + 1)) acc (wipeR ρ'' vs) = res, fun H'' z => ⟨ds.length - (i + 1), by omega, rfl, hlt, z⟩, fun x H2 hy => ?_⟩
          obtain ⟨G2, n2, r2⟩ := ky x H2 hy
          have S2 := n2.sr S'
          have t2 := t'.trans (n2.tr (ρ := wipeR ρ' vs) (σ := L2.wipe σ vs) S'.there)
          unfold dcompN at hr
          cases e1 : tgt ds[i] (wipeR ρ' vs) with
          | none => rw [e1] at hr; rw [← hr] at q; exact q.elim
          | some ρa =>
            rw [e1] at hr
            refine ⟨G2, own', wipeR ρ' vs, ds[i], S2, r2, ρa, e1, fun σ3 own3 off t3 S3 => ?_⟩
            have hw3 : L2.wipe σ3 vs = L2.wipe σ vs := wipe_off off hts
            refine ⟨hw3, G2, own3, ρa, S3, ?_⟩
            have t23 := t2.trans t3
            dsimp only at hr
            have dkeep : ∀ {ρb : Ro} {σb : St} {Gb Hb : Hp} {ownb : Own}, Tr (wipeR ρ' vs) (L2.wipe σ vs) G' own' H' ρb σb Gb ownb Hb → Hb Da = some (.dK accV) ∧ Gb Da = none ∧ ¬ ao ownb Da := fun {ρb σb Gb Hb ownb} t => by
              refine ⟨t.keep Da _ hD' oD', ?_, fun z => ?_⟩
              · cases z : Gb Da with
                | none => rfl
                | some o =>
                  rcases t.gnew Da o z with w | w | w
                  · rw [gD'] at w; cases w
                  · rw [hD'] at w; cases w
                  · exact absurd w oD'
              · rcases t.onew Da z with w | w
                · exact oD' w
                · rw [hD'] at w; cases w
            have tin := (n2.tr (ρ := wipeR ρ' vs) (σ := L2.wipe σ vs) S'.there).trans t3
            cases e3 : cond ρa with
            | bad => rw [e3] at hr; rw [← hr] at q; exact q.elim
            | ex x ρb => rw [e3] at hr; rw [← hr] at q; exact q.elim
            | ok bb ρb =>
              rw [e3] at hr
              intro G4 own4 H4 b4 t4 S4 R4
              cases R4
              have t24 := t23.trans t4
              have tin4 := tin.trans t4
              cases bb with
              | false =>
                obtain ⟨d1, d2, d3⟩ := dkeep tin4
                refine ⟨G4, own4, ρb, acc, accV, ?_, by rw [S4.len, off.1, wipe_length], t24.wipeOut, d1, ⟨ka, ra.mono (tin4.ext)⟩, d2, d3, hr⟩
                have := S4.wipe (vs := vs)
                rw [hw3] at this
                exact this
              | true =>
                dsimp only at hr
                refine ⟨G4, own4, ρb, S4, ?_⟩
                cases e4k : fk ρb with
                | bad => rw [e4k] at hr; rw [← hr] at q; exact q.elim
                | ex x ρc => rw [e4k] at hr; rw [← hr] at q; exact q.elim
                | ok rk ρk =>
                  rw [e4k] at hr
                  dsimp only at hr
                  intro G4k own4k H4k yk t4k S4k R4k
                  cases e5k : keyR rk with
                  | none => rw [e5k] at hr; rw [← hr] at q; exact q.elim
                  | some key =>
                    rw [e5k] at hr
                    dsimp only at hr
                    have hyk : yk = kV key := by
                      cases rk with
                      | val d =>
                        exact keyD_rep (R4k.rd S4k.same) e5k
                      | _ => cases e5k
                    subst hyk
                    refine ⟨G4k, own4k, ρk, S4k, ?_⟩
                    have t24k := t24.trans t4k
                    have tin4k := tin4.trans t4k
                    cases e4 : fv ρk with
                    | bad => rw [e4] at hr; rw [← hr] at q; exact q.elim
                    | ex x ρc => rw [e4] at hr; rw [← hr] at q; exact q.elim
                    | ok r ρc =>
                      rw [e4] at hr
                      dsimp only at hr
                      intro G5 own5 H5 y t5 S5 R5
                      have t25 := t24k.trans t5
                      have tin5 := tin4k.trans t5
                      obtain ⟨d1, d2, d3⟩ := dkeep tin5
                      cases e5 : escD r with
                      | none => rw [e5] at hr; rw [← hr] at q; exact q.elim
                      | some dx =>
                        rw [e5] at hr
                        dsimp only at hr
                        by_cases hsz : acc.length < sizeLine
                        · rw [if_pos hsz] at hr
                          have hlk : acc.length = accV.length := by
                            have := congrArg List.length ka
                            rw [List.length_map, List.length_map] at this
                            exact this
                          refine ⟨accV, key, rfl, d1, by rw [← hlk]; exact hsz, ?_⟩
                          obtain ⟨d4, d5, d6⟩ := dkeep tin4k
                          have fin : ∀ G6, Same G5 G6 → Tr (wipeR ρ1 vs) (L2.wipe σ vs) G1 own1 H1 ρc σ3 G6 own5 H5 → SR c σ0 G6 own5 ρc σ3 H5 → G6 Da = none → Rep c G6 dx y →
                              ∃ G'' own'' ρ'' acc2 accV2, SR c σ0 G'' own'' (wipeR ρ'' vs) (L2.wipe σ vs) (upd H5 Da (.dK (putK accV key y))) ∧ ρ''.length = σ.length ∧ Tr (wipeR ρ1 vs) (L2.wipe σ vs) G1 own1 H1 (wipeR ρ'' vs) (L2.wipe σ vs) G'' own'' (upd H5 Da (.dK (putK accV key y))) ∧
                                (upd H5 Da (.dK (putK accV key y))) Da = some (.dK accV2) ∧ (acc2.map (·.1) = accV2.map (·.1) ∧ Reps c G'' (acc2.map (·.2)) (accV2.map (·.2))) ∧ G'' Da = none ∧ ¬ ao own'' Da ∧ dcompN tgt cond fk fv vs (ds.drop (i + 1)) acc2 (wipeR ρ'' vs) = res := fun G6 s6 t6 S6 g6 r6 => by
                            have Sw6 := S6.wipe (vs := vs)
                            rw [hw3] at Sw6
                            exact ⟨G6, own5, ρc, putD acc key dx, putK accV key y, Sw6.updFree g6 d3, by rw [S6.len, off.1, wipe_length], t6.wipeOut.updFree hDa, upd_same, put_keys ka ((ra.mono tin5.ext).mono s6) r6, g6, d3, hr⟩
                          cases r with
                          | sl j => cases e5
                          | val d =>
                            cases e5
                            exact fin G5 (Same.refl _) t25 S5 d2 R5
                          | nw o =>
                            cases e5
                            obtain ⟨P, ow, k⟩ := R5
                            have nP : ¬ P Da := fun p => by
                              rcases (k Da p).2.2.2 with w | w
                              · rw [d4] at w; cases w
                              · exact d6 w
                            refine fin (frzG G5 H5 P) (frz_same fun b p => (k b p).1) (frz_tr t25 fun b p => ⟨(k b p).1, t24k.back (k b p).2.2.2⟩) (S5.frz fun b p => ⟨(k b p).1, (k b p).2.1⟩) (by rw [frz_ne nP]; exact d2) (ow.frz fun b p => (k b p).1)
                        · rw [if_neg hsz] at hr
                          rw [← hr] at q
                          exact q.elim
        · have ed : ds.drop i = [] := List.drop_eq_nil_of_le (by omega)
          rw [ed] at hr
          have hr : Res.ok acc (wipeR ρ' vs) = res := hr
          rw [← hr] at q
          have ei : i = ds.length := by omega
          rw [ei]
          refine .inl ⟨kstop, ?_⟩
          have Su := S'.unwipe hlen
          have tu : Tr ρ σ G own H (wipeR ρ' vs) σ G' own' H' := t1.trans ⟨t'.ext, t'.keep, t'.gnew, t'.onew, fun j k o h => by
            obtain ⟨h1, h2⟩ := (Tr.wipeIn (σ := σ) (G := G1) (own := own1) (H := H1) hn).lent j k o h
            obtain ⟨h3, _⟩ := t'.lent j k o h1
            exact ⟨h3, rfl⟩⟩
          obtain ⟨S2, t2⟩ := SR.undoR (G1 := G') it.src (hu ρ it ρ1 e) Su tu
          exact q G' own' H' (.ref Da) t2 S2 ⟨fun b => b = Da, ⟨Da, accV, rfl, rfl, hD', ka, ra⟩, fun b hb => by
            subst hb
            exact ⟨gD', oD', ⟨_, hD'⟩, t1.back (.inl hDa)⟩⟩
    · rw [if_neg hl] at q
      exact q.elim
/-- {k: v for target in iter if ..}, as a value -/
theorem de_dcomp {kx vx tg iter : Expr} {ifs : List Expr} {scope : Scope} {own : List (Str × Nat)} {pos : Pos} {f : M Iter} {ts : List Nat} {tgt : Tgt} {cond : M Bool} {fk fv : M R} (hc : X.calm = true) (hN : X.N.Nodup) (hi : PI X tg iter (tI c σ0 W f)) (ok : BlkOk X.N X.env.scope scope own) (hu : Und f) (hts : ∀ i ∈ ts, i ∈ own.map (·.2))
    (hg : ∀ (s : Shared) (H : Hp) (C : Addr) (cl : List (Str × Addr)) (fp : List Addr), PG (X.blk s H scope (compEnvC scope cl C X.env) fp) tg (tG c σ0 ts tgt)) (ht : ∀ (s : Shared) (H : Hp) (C : Addr) (cl : List (Str × Addr)) (fp : List Addr), PTs (X.blk s H scope (compEnvC scope cl C X.env) fp) ifs (tT c σ0 (fun _ _ _ _ => False) cond))
    (hk : ∀ (s : Shared) (H : Hp) (C : Addr) (cl : List (Str × Addr)) (fp : List Addr), PE (X.blk s H scope (compEnvC scope cl C X.env) fp) kx (tD c σ0 (fun _ _ _ _ => False) fk))
    (he : ∀ (s : Shared) (H : Hp) (C : Addr) (cl : List (Str × Addr)) (fp : List Addr), PE (X.blk s H scope (compEnvC scope cl C X.env) fp) vx (tD c σ0 (fun _ _ _ _ => False) fv)) (hs : ∀ x, foldedSetIterable iter X.env x = pure x := by intro _; rfl) :
    PE X (.DictComp kx vx [⟨tg, iter, ifs, 0⟩] scope pos) (tD c σ0 W (eDComp f tgt cond fk fv (own.map (·.2)))) :=
  PE.imp (pe_dc hc hN hi ok hg ht hk he hs) fun σ H Q q => tDc_of hts q hu
theorem ps_setDc {i : Nat} {y : Str} {py : Pos} {kx vx tg iter : Expr} {ifs : List Expr} {scope : Scope} {own : List (Str × Nat)} {pos spos : Pos} {wi : TI} {g : TG} {tt : TT} {tk tv : TE} (hc : X.calm = true) (hN : X.N.Nodup) (hy : X.N[i]? = some y) (hyl : X.env.scope.names.lookup y = some .local)
    (hsw : swapsWith (.DictComp kx vx [⟨tg, iter, ifs, 0⟩] scope pos) (some (.Name y py)) spos.line X.env = pure true) (hi : PI X tg iter wi) (ok : BlkOk X.N X.env.scope scope own)
    (hg : ∀ (s : Shared) (H : Hp) (C : Addr) (cl : List (Str × Addr)) (fp : List Addr), PG (X.blk s H scope (compEnvC scope cl C X.env) fp) tg g) (ht : ∀ (s : Shared) (H : Hp) (C : Addr) (cl : List (Str × Addr)) (fp : List Addr), PTs (X.blk s H scope (compEnvC scope cl C X.env) fp) ifs tt)
    (hk : ∀ (s : Shared) (H : Hp) (C : Addr) (cl : List (Str × Addr)) (fp : List Addr), PE (X.blk s H scope (compEnvC scope cl C X.env) fp) kx tk)
    (he : ∀ (s : Shared) (H : Hp) (C : Addr) (cl : List (Str × Addr)) (fp : List Addr), PE (X.blk s H scope (compEnvC scope cl C X.env) fp) vx tv) (hs : ∀ x, foldedSetIterable iter X.env x = pure x := by intro _; rfl) :
    PS X (.Assign [.Name y py] (.DictComp kx vx [⟨tg, iter, ifs, 0⟩] scope pos) spos) (tAsg (tDc wi g tt tk tv (own.map (·.2))) (gName i)) := by
  refine ⟨fun pins s σ H D I h => ?_⟩
  rw [exec_Assign_Name_used _ _ _ _ hsw]
  refine wpAny_bind (wpAny_standAt (wpAny_bind ?_))
  show wpAny _ X.A (do let _ ← comprehension (.DictComp kx vx [⟨tg, iter, ifs, 0⟩] scope pos) scope X.env (firstIterPos [⟨tg, iter, ifs, 0⟩] pos) newDict false (eval iter X.env) (some (assign (.Name y py) X.env))) _ _ s
  have h : tDc wi g tt tk tv (own.map (·.2)) σ H (fun x H1 => gName i x σ H1 D.nx) := h
  refine wpAny_bind (thn (dc_core (Qf := fun _ s' => SP X pins D .next s') hc hN I hi ok hg ht hk he hs h fun L C s' m H' I' q hn f => ?_) fun _ s' hq => wpAny_pure (wpAny_pure hq))
  show wpAny _ _ (assign (.Name y py) X.env (.ref L)) _ _ _
  refine wpAny_assign_Name (store_ok2 (v := V.ref L) I' hN hy (.inl hyl) rfl (fun s2 I2 ⟨a, sb, ha⟩ => ?_) (.inr hyl))
  obtain ⟨f0, f1, f2, f3, f4, f5⟩ := f
  have haC : C ≠ a := by
    rcases ha with z | z
    · rw [z]; exact f1
    · exact fun e => f4 y a z e.symm
  refine ⟨m, hn.sameBut sb haC, fun h3 sb3 => ?_⟩
  exact ⟨_, H', I2.turned (t' := s2.toks) (fun b o hb e => (sb3.2 b hb).trans e) f0 f1 f3 f4 f5, q⟩
theorem sw_trueD {kx vx : Expr} {gs : List Comprehension} {scope : Scope} {pos py : Pos} {y : Str} {l : Nat} {env : Env} (hk : env.scope.kind = .function) (hy : env.scope.names.lookup y = some .local) (hl : (py.line == pos.line) = true)
    (ha : (scope.names.any fun (n, k) => n == y && (k == .local || k == .cell)) = false) : swapsWith (.DictComp kx vx gs scope pos) (some (.Name y py)) l env = pure true := by
  have ky : env.kindOf y = some .local := hy
  have hb : env.blockKind = .function := by unfold Env.blockKind; rw [hk]; rfl
  unfold swapsWith
  simp only [hb, ky, ha, Expr.pos, hl]
  rfl
/-- name = {..} on one line -/
theorem ds_setDComp {i : Nat} {y : Str} {py : Pos} {kx vx tg iter : Expr} {ifs : List Expr} {scope : Scope} {own : List (Str × Nat)} {pos spos : Pos} {f : M Iter} {ts : List Nat} {tgt : Tgt} {cond : M Bool} {fk fv : M R} (hc : X.calm = true) (hN : X.N.Nodup) (hy : X.N[i]? = some y) (hyl : X.env.scope.names.lookup y = some .local)
    (hsw : swapsWith (.DictComp kx vx [⟨tg, iter, ifs, 0⟩] scope pos) (some (.Name y py)) spos.line X.env = pure true) (hi : PI X tg iter (tI c σ0 W f)) (ok : BlkOk X.N X.env.scope scope own) (hu : Und f) (hts : ∀ i ∈ ts, i ∈ own.map (·.2))
    (hg : ∀ (s : Shared) (H : Hp) (C : Addr) (cl : List (Str × Addr)) (fp : List Addr), PG (X.blk s H scope (compEnvC scope cl C X.env) fp) tg (tG c σ0 ts tgt)) (ht : ∀ (s : Shared) (H : Hp) (C : Addr) (cl : List (Str × Addr)) (fp : List Addr), PTs (X.blk s H scope (compEnvC scope cl C X.env) fp) ifs (tT c σ0 (fun _ _ _ _ => False) cond))
    (hk : ∀ (s : Shared) (H : Hp) (C : Addr) (cl : List (Str × Addr)) (fp : List Addr), PE (X.blk s H scope (compEnvC scope cl C X.env) fp) kx (tD c σ0 (fun _ _ _ _ => False) fk))
    (he : ∀ (s : Shared) (H : Hp) (C : Addr) (cl : List (Str × Addr)) (fp : List Addr), PE (X.blk s H scope (compEnvC scope cl C X.env) fp) vx (tD c σ0 (fun _ _ _ _ => False) fv)) (hs : ∀ x, foldedSetIterable iter X.env x = pure x := by intro _; rfl) :
    PS X (.Assign [.Name y py] (.DictComp kx vx [⟨tg, iter, ifs, 0⟩] scope pos) spos) (tS c σ0 W (sAsg i (eDComp f tgt cond fk fv (own.map (·.2))))) :=
  ds_asg (PS.imp (ps_setDc hc hN hy hyl hsw hi ok hg ht hk he hs) fun E σ H q => tDc_of hts q hu)
end
end DL

/-! DLp: defs as packages; the written part; the law's end. -/
namespace DL
open PySem PySem.Spec PyProof.Rows L2

/-- times: ints, a list, a text -/
def opMulA (d e : D) : Option R := match d with
  | .str _ => opRep d e
  | _ => opMul d e
theorem o_mulA {X : Cx} {c : Cn} : OpR X (binaryOp .Mult) (rD c opMulA) := by
  intro pins s σ H x y v u Q I rx ry ⟨G, d, e, r, sg, hd, he, ho, k⟩
  cases d with
  | str z => exact o_rep pins s σ H x y v u Q I rx ry ⟨G, .str z, e, r, sg, hd, he, ho, k⟩
  | non => exact o_mul pins s σ H x y v u Q I rx ry ⟨G, .non, e, r, sg, hd, he, ho, k⟩
  | bl z => exact o_mul pins s σ H x y v u Q I rx ry ⟨G, .bl z, e, r, sg, hd, he, ho, k⟩
  | int z => exact o_mul pins s σ H x y v u Q I rx ry ⟨G, .int z, e, r, sg, hd, he, ho, k⟩
  | tup z => exact o_mul pins s σ H x y v u Q I rx ry ⟨G, .tup z, e, r, sg, hd, he, ho, k⟩
  | lst z => exact o_mul pins s σ H x y v u Q I rx ry ⟨G, .lst z, e, r, sg, hd, he, ho, k⟩
  | dct z => exact o_mul pins s σ H x y v u Q I rx ry ⟨G, .dct z, e, r, sg, hd, he, ho, k⟩
  | ins n z => exact o_mul pins s σ H x y v u Q I rx ry ⟨G, .ins n z, e, r, sg, hd, he, ho, k⟩
  | scr z => exact o_mul pins s σ H x y v u Q I rx ry ⟨G, .scr z, e, r, sg, hd, he, ho, k⟩

theorem eNil_len : ∀ ρ rs ρ', eNil ρ = .ok rs ρ' → rs.length = 0 := fun ρ rs ρ' h => by cases h; rfl

/-- a def of the top: where it stands -/
structure DefK (K : PySem.W.Frag) (mg : Str → Option Value) (x qual : Str) (st : Stmt) (ps : List Str) (f : Addr) (fd : FuncData) : Prop where
  fn : Fun K x qual st f fd
  bi : ∀ us : List Value, us.length = ps.length → bindArgs fd ⟨us, []⟩ = pure (ps.zip us)
  mg : mg x = some (.ref f)
/-- a def that may be called by its name -/
structure CallD (P : Program) (w : World) (K : PySem.W.Frag) (mg : Str → Option Value) (base : Heap) (c : Cn) (k : Nat) (x : Str) (ps : List Str) (F : Ro → Res R) (f : Addr) (fd : FuncData) : Prop where
  ok : FnOk P w K mg base (L2.CX P w) k f fd ps (spD c ps.length F)
  mg : mg x = some (.ref f)
  kp : PySem.W.keepIn K (.ref f) = true
  bi : ∀ us : List Value, us.length = ps.length → bindArgs fd ⟨us, []⟩ = pure (ps.zip us)
section
variable {P : Program} {w : World} {K : PySem.W.Frag} {mg : Str → Option Value} {base : Heap} {c : Cn} {f : Addr} {fd : FuncData}
theorem callD {x qual : Str} {st : Stmt} {N ps : List Str} {k n : Nat} {s : S} (h : DefK K mg x qual st ps f fd) (Sc : FnScope N ps (defScope st)) (hn : N.length - ps.length = n)
    (hbody : ∀ (cdv : Value) (A : Around) (outer : List Env) (sh : Shared) (H : Hp) (E : XK) (σ0 : St) (W : WX), Room k (cxOf (L2.CX P w) P w K mg base N qual (defScope st) f cdv A outer sh H E).A →
      PassesOwn (model P w) (cxOf (L2.CX P w) P w K mg base N qual (defScope st) f cdv A outer sh H E).A (cxOf (L2.CX P w) P w K mg base N qual (defScope st) f cdv A outer sh H E).env (cxOf (L2.CX P w) P w K mg base N qual (defScope st) f cdv A outer sh H E).xe →
      Takes (cxOf (L2.CX P w) P w K mg base N qual (defScope st) f cdv A outer sh H E) W → PSs (cxOf (L2.CX P w) P w K mg base N qual (defScope st) f cdv A outer sh H E) (defBody st) (tS c σ0 W s)) :
    CallD P w K mg base c (k + 1) x ps (runF n s) f fd := ⟨fn_D h.fn Sc hn hbody, h.mg, h.fn.kp, h.bi⟩
theorem defK_mk {h : Heap} {x qual : Str} {st : Stmt} {ps : List Str} {oc : Value} {od an : Option Addr} {osl : Array (Option Value)} {kV doc pm cdv ct : Value} (X : K.In h) (G : h.Ns mainGlobals mg)
    (a : PySem.W.nsIn K mainGlobals x = some (some (.ref f))) (l : K.lookup f = some ⟨oc, od, .func (PySem.W.fnOf x qual (defArgs st) (defBody st) (defScope st) .none kV doc pm an cdv ct), osl⟩)
    (cc : PySem.W.codeIn K cdv qual = true) (k : PySem.W.keepIn K (.ref f) = true)
    (hb : ∀ (kV doc pm : Value) (an : Option Addr) (cdv ct : Value) (us : List Value), us.length = ps.length → bindArgs (PySem.W.fnOf x qual (defArgs st) (defBody st) (defScope st) .none kV doc pm an cdv ct) ⟨us, []⟩ = pure (ps.zip us)) : DefK K mg x qual st ps f (PySem.W.fnOf x qual (defArgs st) (defBody st) (defScope st) .none kV doc pm an cdv ct) :=
  ⟨fun_mk l cc k, hb kV doc pm an cdv ct, PySem.W.mg_of X G a⟩
end
section
variable {X : Cx} {c : Cn} {σ0 : St} {W : WX} {σ : St} {k : Nat} {ps : List Str} {x : Str} {p pos : Pos} {e : Expr} {es : List Expr} {fa : M (List R)} {F : Ro → Res R} {f : Addr} {fd : FuncData}
theorem de_callF (h : CallD X.prog X.w X.K X.mg X.base c k x ps F f fd) (hr : Room k X.A) (hg : Gl X x) (tk : Takes X W)
    (ha : PA X (e :: es) (tA c σ0 W fa)) (hl : (e :: es).length = ps.length) (hfl : ∀ ρ rs ρ', fa ρ = .ok rs ρ' → rs.length = ps.length) (hdb : (x == ("__debug__" : Str)) = false := by decide) (he : starEach (e :: es) X.env = (false, eval e X.env) :: starEach es X.env := by rfl) (hpl : (backTo pos (starEach es X.env)).any (·.1) = false := by rfl) :
    PE X (.Call (.Name x p) (e :: es) [] pos) (tD c σ0 W (eCall F fa)) := de_call h.ok hr hg h.mg h.kp (.all h.bi) tk ha hl hdb he hpl hfl
theorem de_callF0 (h : CallD X.prog X.w X.K X.mg X.base c k x ps F f fd) (hr : Room k X.A) (hg : Gl X x) (tk : Takes X W) (hl : 0 = ps.length) (hdb : (x == ("__debug__" : Str)) = false := by decide) : PE X (.Call (.Name x p) [] [] pos) (tD c σ0 W (eCall F eNil)) :=
  de_call0 h.ok hr hg h.mg h.kp (.all h.bi) tk hl hdb

/-! ### constants of the top -/
theorem de_gInt {i : Int} (hg : Gl X x) (hm : ∃ t, X.mg x = some (.int i t)) (hdb : (x == ("__debug__" : Str)) = false := by decide) : PE X (.Name x pos) (tD c σ0 W (eC (.int i))) := by
  obtain ⟨t, hm⟩ := hm
  exact de_glob hg hm (v := .int i) ⟨t, rfl⟩ (fun _ => .int i) hdb
theorem de_gStr {i : Str} (hg : Gl X x) (hm : ∃ t, X.mg x = some (.str i t)) (hdb : (x == ("__debug__" : Str)) = false := by decide) : PE X (.Name x pos) (tD c σ0 W (eC (.str i))) := by
  obtain ⟨t, hm⟩ := hm
  exact de_glob hg hm (v := .str i) ⟨t, rfl⟩ (fun _ => .str i) hdb
/-- flat data -/
def D.flatV : D → V
  | .non => .non
  | .bl b => .bl b
  | .int i => .int i
  | .str x => .str x
  | _ => .non
theorem rep_flat {G : Hp} {d : D} (h : flatD d = true) : Rep c G d d.flatV := by
  cases d with
  | non => exact .non
  | bl b => exact .bl b
  | int i => exact .int i
  | str x => exact .str x
  | _ => cases h
theorem reps_flat {G : Hp} : ∀ {ds : List D}, ds.all flatD = true → Reps c G ds (ds.map D.flatV)
  | [], _ => .nil
  | d :: ds, h => by
    rw [List.all_cons] at h
    obtain ⟨h1, h2⟩ := Bool.and_eq_true_iff.mp h
    exact .cons (rep_flat h1) (reps_flat h2)
/-- a tuple of flat data in the written part -/
def TupK (K : PySem.W.Frag) (mg : Str → Option Value) (x : Str) (ds : List D) : Prop := ∃ (a : Addr) (o : Obj) (its : Array Value) (n : Nat), mg x = some (.ref a) ∧ K.lookup a = some o ∧ o.cls = .type "tuple" ∧ o.data = .seq its n ∧ its.size ≤ sizeLine ∧ Vals (ds.map D.flatV) its.toList ∧ ds.all flatD = true
theorem de_gTup {ds : List D} (hK : c.K = X.K) (hg : Gl X x) (h : TupK X.K X.mg x ds) (hdb : (x == ("__debug__" : Str)) = false := by decide) : PE X (.Name x pos) (tD c σ0 W (eC (.tup ds))) := by
  obtain ⟨a, o, its, n, hm, hk, hc, hd, hz, hv, hf⟩ := h
  exact de_glob hg hm (v := .ref a) rfl (fun G => .tup (.inr ⟨o, its, n, by rw [hK]; exact hk, hc, hd, hz, hv⟩) (reps_flat hf)) hdb
def absE (d : D) (u : Value) : Bool := match d, u with
  | .non, .none => true
  | .bl a, .bool b => a == b
  | .int a, .int b _ => a == b
  | .str a, .str b _ => a == b
  | _, _ => false
def absEs : List D → List Value → Bool
  | [], [] => true
  | d :: ds, u :: us => absE d u && absEs ds us
  | _, _ => false
theorem absE_of {d : D} {u : Value} (h : absE d u = true) : RelV d.flatV u ∧ flatD d = true := by
  unfold absE at h
  split at h
  · exact ⟨rfl, rfl⟩
  · cases eq_of_beq h; exact ⟨rfl, rfl⟩
  · cases eq_of_beq h; exact ⟨⟨_, rfl⟩, rfl⟩
  · cases eq_of_beq h; exact ⟨⟨_, rfl⟩, rfl⟩
  · cases h
theorem absEs_of : ∀ {ds : List D} {us : List Value}, absEs ds us = true → Vals (ds.map D.flatV) us ∧ ds.all flatD = true
  | [], [], _ => ⟨.nil, rfl⟩
  | d :: ds, u :: us, h => by
    obtain ⟨h1, h2⟩ := Bool.and_eq_true_iff.mp (show (absE d u && absEs ds us) = true from h)
    obtain ⟨i1, i2⟩ := absEs_of h2
    obtain ⟨j1, j2⟩ := absE_of h1
    exact ⟨.cons j1 i1, by rw [List.all_cons, j2, i2]; rfl⟩
  | [], _ :: _, h => by cases h
  | _ :: _, [], h => by cases h
theorem tupK_mk {K : PySem.W.Frag} {mg : Str → Option Value} {h : Heap} {a : Addr} {dd : Option Addr} {its : Array Value} {n : Nat} {sl : Array (Option Value)} {ds : List D} (Xk : K.In h) (G : h.Ns mainGlobals mg)
    (ha : PySem.W.nsIn K mainGlobals x = some (some (.ref a))) (l : K.lookup a = some ⟨.type "tuple", dd, .seq its n, sl⟩) (v : absEs ds its.toList = true) (hz : its.size ≤ sizeLine) : TupK K mg x ds := by
  obtain ⟨i1, i2⟩ := absEs_of v
  exact ⟨a, _, its, n, PySem.W.mg_of Xk G ha, l, rfl, rfl, hz, i1, i2⟩
end

/-! ### the law -/
def spLaw (K : PySem.W.Frag) : Sp := fun vs H Q _ => ∃ (a : Addr) (ns : List Int), vs = [.ref a] ∧ SqL K H a (ns.map V.int) ∧ ns.length ≤ 63 ∧ ∀ H', Q (.bl true) H'
theorem law_end {c : Cn} {F : Ro → Res R} (h : ∀ ns : List Int, ns.length ≤ 63 → ∃ a', F [.fz (.scr ns)] = .ok (.val (.bl true)) a') {vs : List V} {H : Hp} {Q : VK} {E : XK} (q : spLaw c.K vs H Q E) : spD c 1 F vs H Q E := by
  obtain ⟨a, ns, rfl, hS, hl, k⟩ := q
  obtain ⟨a', e⟩ := h ns hl
  refine ⟨H, fun _ _ => False, [.fz (.scr ns)], ⟨Same.refl _, fun _ _ z => z.elim, fun _ _ z => z.elim, fun _ _ _ z => z.elim, rfl, fun i s hs => ?_, fun i s hs z => ?_⟩, rfl, rfl, ?_⟩
  · cases i with
    | zero =>
      cases hs
      exact ⟨_, rfl, .scr hS⟩
    | succ i => simp at hs
  · cases i with
    | zero => cases hs; cases z
    | succ i => simp at hs
  · rw [e]
    intro G' own' H' v _ _ r
    cases r
    exact k H'
theorem law_fn {P : Program} {w : World} {K : PySem.W.Frag} {mg : Str → Option Value} {c : Cn} {k : Nat} {x : Str} {p : Str} {F : Ro → Res R} (hK : c.K = K) (hF : ∀ ns : List Int, ns.length ≤ 63 → ∃ a', F [.fz (.scr ns)] = .ok (.val (.bl true)) a')
    {fa : Addr} (hm : mg x = some (.ref fa)) {st : Stmt} {f : Addr} {fd : FuncData} (D : DefK K mg x x st [p] f fd) (h : ∀ base : Heap, K.In base → base.Ns mainGlobals mg → CallD P w K mg base c k x [p] F f fd) :
    ∃ fd : FuncData, (∀ (s : Shared) (v : Value), BindsTo s fd ⟨[v], []⟩ [(p, v)]) ∧ ∀ base : Heap, K.In base → base.Ns mainGlobals mg → FnOk P w K mg base (L2.CX P w) k fa fd [p] (spLaw K) := by
  have e := D.mg
  rw [hm] at e
  cases e
  exact ⟨fd, fun s v => .of_eq (D.bi [v] rfl), fun base X G => (h base X G).ok.imp fun vs H Q E q => law_end hF (by rw [hK]; exact q)⟩

/-! ### op= -/
def ipAdd : D → D → Option R
  | .int i, .int j => vI (i + j)
  | .str x, .str y => if x.length + y.length ≤ sizeLine then vS (x ++ y) else none
  | _, _ => none
def ipSub : D → D → Option R
  | .int i, .int j => vI (i - j)
  | _, _ => none
section
variable {X : Cx} {c : Cn}
theorem io_add : OpR X (inplaceOp .Add) (rD c ipAdd) := by
  intro pins s σ H x y v u Q I rx ry ⟨G, d, e, r, sg, hd, he, ho, k⟩
  cases d with
  | int i =>
    cases e with
    | int j =>
      cases ho; cases hd; cases he
      exact iop_add pins s σ H _ _ v u Q I rx ry ⟨i, j, rfl, rfl, k G H _ (New.refl sg) (Rep.int _)⟩
    | _ => cases ho
  | str a =>
    cases e with
    | str b =>
      have ho : (if a.length + b.length ≤ sizeLine then vS (a ++ b) else none) = some r := ho
      by_cases hl : a.length + b.length ≤ sizeLine
      · rw [if_pos hl] at ho
        cases ho; cases hd; cases he
        exact iop_add_str pins s σ H _ _ v u Q I rx ry ⟨a, b, rfl, rfl, hl, k G H _ (New.refl sg) (Rep.str _)⟩
      · rw [if_neg hl] at ho; cases ho
    | _ => cases ho
  | _ => cases ho
theorem io_sub : OpR X (inplaceOp .Sub) (rD c ipSub) := by
  intro pins s σ H x y v u Q I rx ry ⟨G, d, e, r, sg, hd, he, ho, k⟩
  cases d with
  | int i =>
    cases e with
    | int j =>
      cases ho; cases hd; cases he
      exact iop_sub pins s σ H _ _ v u Q I rx ry ⟨i, j, rfl, rfl, k G H _ (New.refl sg) (Rep.int _)⟩
    | _ => cases ho
  | _ => cases ho
end
/-! ### what the built-in names hold -/
theorem bo_len : bootBuiltins "len" = some (.builtin "len") := by decide +kernel
theorem bo_abs : bootBuiltins "abs" = some (.builtin "abs") := by decide +kernel
theorem bo_all : bootBuiltins "all" = some (.builtin "all") := by decide +kernel
theorem bo_any : bootBuiltins "any" = some (.builtin "any") := by decide +kernel
theorem bo_sum : bootBuiltins "sum" = some (.builtin "sum") := by decide +kernel
theorem bo_int : bootBuiltins "int" = some (.type "int") := by decide +kernel
theorem bo_str : bootBuiltins "str" = some (.type "str") := by decide +kernel
theorem bo_list : bootBuiltins "list" = some (.type "list") := by decide +kernel
theorem bo_tuple : bootBuiltins "tuple" = some (.type "tuple") := by decide +kernel
theorem bo_bool : bootBuiltins "bool" = some (.type "bool") := by decide +kernel
theorem bo_dict : bootBuiltins "dict" = some (.type "dict") := by decide +kernel
theorem u65 {A : Around} {k : Nat} (r : Room k A) : A.units + 65 < cLine := by have := r.un; omega
end DL

/-! DLq: the denotations, run (simp rules). -/
namespace DL
open PySem PySem.Spec

/-! ### runs in sequence -/
def Res.and {α β : Type} (x : Res α) (k : α → M β) : Res β := match x with
  | .ok a ρ => k a ρ
  | .ex x ρ => .ex x ρ
  | .bad => .bad
def Res.andS {α : Type} (x : Res α) (k : α → S) : Out := match x with
  | .ok a ρ => k a ρ
  | .ex x ρ => .ex x ρ
  | .bad => .bad
def Out.and (x : Out) (k : S) : Out := match x with
  | .nx ρ => k ρ
  | .ret r ρ => .ret r ρ
  | .brk ρ => .brk ρ
  | .cnt ρ => .cnt ρ
  | .ex x ρ => .ex x ρ
  | .bad => .bad
section
variable {α β : Type} {ρ : Ro} {f g : M R} {t u : M Bool} {s s' : S} {op op' : D → D → Option R}
@[simp] theorem and_ok {a : α} {k : α → M β} : (Res.ok a ρ).and k = k a ρ := rfl
@[simp] theorem and_ex {x : Exn} {k : α → M β} : (Res.ex x ρ).and k = .ex x ρ := rfl
@[simp] theorem andS_ok {a : α} {k : α → S} : (Res.ok a ρ).andS k = k a ρ := rfl
@[simp] theorem andS_ex {x : Exn} {k : α → S} : (Res.ex x ρ).andS k = .ex x ρ := rfl
@[simp] theorem oand_nx : (Out.nx ρ).and s = s ρ := rfl
@[simp] theorem oand_ret {r : R} : (Out.ret r ρ).and s = .ret r ρ := rfl
@[simp] theorem oand_brk : (Out.brk ρ).and s = .brk ρ := rfl
@[simp] theorem oand_cnt : (Out.cnt ρ).and s = .cnt ρ := rfl
@[simp] theorem oand_ex {x : Exn} : (Out.ex x ρ).and s = .ex x ρ := rfl
@[simp] theorem x_bind {f : M α} {k : α → M β} : M.bind f k ρ = (f ρ).and k := rfl
@[simp] theorem x_sbind {f : M α} {k : α → S} : sBind f k ρ = (f ρ).andS k := rfl
@[simp] theorem x_ret {a : α} : M.ret a ρ = .ok a ρ := rfl
@[simp] theorem x_ofs {a : α} : M.of (some a) ρ = .ok a ρ := rfl
@[simp] theorem x_seq : sSeq s s' ρ = (s ρ).and s' := by
  unfold sSeq Out.and
  cases s ρ <;> rfl
@[simp] theorem x_next : sNext ρ = .nx ρ := rfl
@[simp] theorem x_brk : sBrk ρ = .brk ρ := rfl
@[simp] theorem x_cnt : sCnt ρ = .cnt ρ := rfl
@[simp] theorem x_retN : sRetN ρ = .ret (.val .non) ρ := rfl
/-! ### values -/
def varK (i : Nat) (ρ : Ro) : Option Sl → Res R
  | some (.fz d) => .ok (.val d) ρ
  | some (.ow _ _) => .ok (.sl i) ρ
  | some (.ln _ _) => .ok (.sl i) ρ
  | _ => .bad
@[simp] theorem varK_fz {i : Nat} {d : D} : varK i ρ (some (.fz d)) = .ok (.val d) ρ := rfl
@[simp] theorem varK_ow {i : Nat} {k : Bool} {o : OV} : varK i ρ (some (.ow k o)) = .ok (.sl i) ρ := rfl
@[simp] theorem varK_ln {i : Nat} {k : Bool} {o : OV} : varK i ρ (some (.ln k o)) = .ok (.sl i) ρ := rfl
@[simp] theorem x_var {i : Nat} : eVar i ρ = varK i ρ (ρ[i]?) := by unfold eVar varK; rfl
@[simp] theorem x_c {d : D} : eC d ρ = .ok (.val d) ρ := rfl
@[simp] theorem dr_val {d : D} : deref ρ (.val d) = some d := rfl
@[simp] theorem dr_nw {o : OV} : deref ρ (.nw o) = some o.toD := rfl
@[simp] theorem dr_sl {i : Nat} : deref ρ (.sl i) = (ρ[i]?).bind Sl.cont := rfl
@[simp] theorem ct_ow {k : Bool} {o : OV} : (Sl.ow k o).cont = some o.toD := rfl
@[simp] theorem ct_ln {k : Bool} {o : OV} : (Sl.ln k o).cont = some o.toD := rfl
@[simp] theorem ct_fz {d : D} : (Sl.fz d).cont = some d := rfl
@[simp] theorem toD_lst {ds : List D} : (OV.lst ds).toD = .lst ds := rfl
@[simp] theorem toD_dct {ds : List (L2.Key × D)} : (OV.dct ds).toD = .dct ds := rfl
@[simp] theorem toD_ins {n : Str} {ds : List (Str × D)} : (OV.ins n ds).toD = .ins n ds := rfl
def op2K (op : D → D → Option R) (x y : Option D) (ρ : Ro) : Res R := match x, y with
  | some d, some e => M.of (op d e) ρ
  | _, _ => .bad
@[simp] theorem op2K_s {d e : D} : op2K op (some d) (some e) ρ = M.of (op d e) ρ := rfl
@[simp] theorem x_opE {a b : R} : opE op a b ρ = op2K op (deref ρ a) (deref ρ b) ρ := rfl
def op1K (op : D → Option R) (x : Option D) (ρ : Ro) : Res R := match x with
  | some d => M.of (op d) ρ
  | _ => .bad
@[simp] theorem op1K_s {op : D → Option R} {d : D} : op1K op (some d) ρ = M.of (op d) ρ := rfl
@[simp] theorem x_opE1 {op : D → Option R} {a : R} : opE1 op a ρ = op1K op (deref ρ a) ρ := rfl
def consK : Option D → Option (List D) → Option (List D)
  | some d, some ds => some (d :: ds)
  | _, _ => none
@[simp] theorem consK_s {d : D} {ds : List D} : consK (some d) (some ds) = some (d :: ds) := rfl
@[simp] theorem drs_nil : derefs ρ [] = some [] := rfl
@[simp] theorem drs_cons {r : R} {rs : List R} : derefs ρ (r :: rs) = consK (deref ρ r) (derefs ρ rs) := rfl
def opnK (op : List D → Option R) (x : Option (List D)) (ρ : Ro) : Res R := match x with
  | some ds => M.of (op ds) ρ
  | none => .bad
@[simp] theorem opnK_s {op : List D → Option R} {ds : List D} : opnK op (some ds) ρ = M.of (op ds) ρ := rfl
@[simp] theorem x_opEn {op : List D → Option R} {rs : List R} : opEn op rs ρ = opnK op (derefs ρ rs) ρ := rfl
@[simp] theorem x_bin : eBin op f g ρ = M.bind f (fun a => M.bind g fun b => opE op a b) ρ := rfl
@[simp] theorem x_un {op : D → Option R} : eUn op f ρ = M.bind f (fun a => opE1 op a) ρ := rfl
@[simp] theorem x_callB {op : List D → Option R} {fa : M (List R)} : eCallB op fa ρ = M.bind fa (fun as => opEn op as) ρ := rfl
def truK (x : Option D) (ρ : Ro) : Res Bool := match x.bind truthD with
  | some b => .ok b ρ
  | none => .bad
@[simp] theorem truK_bl {b : Bool} : truK (some (.bl b)) ρ = .ok b ρ := rfl
@[simp] theorem truK_int {i : Int} : truK (some (.int i)) ρ = .ok (i != 0) ρ := rfl
@[simp] theorem truK_lst {ds : List D} : truK (some (.lst ds)) ρ = .ok (!ds.isEmpty) ρ := rfl
@[simp] theorem x_truthR {r : R} : truthR r ρ = truK (deref ρ r) ρ := rfl
@[simp] theorem x_test : eTest f ρ = M.bind f truthR ρ := rfl
@[simp] theorem x_eB : eB t ρ = M.bind t (fun b => M.ret (.val (.bl b))) ρ := rfl
def Res.ifM {α : Type} (x : Res Bool) (f g : M α) : Res α := match x with
  | .ok true ρ => f ρ
  | .ok false ρ => g ρ
  | .ex x ρ => .ex x ρ
  | .bad => .bad
@[simp] theorem ifM_t {f g : M α} : (Res.ok true ρ).ifM f g = f ρ := rfl
@[simp] theorem ifM_f {f g : M α} : (Res.ok false ρ).ifM f g = g ρ := rfl
theorem ifM_b {b : Bool} {f g : M α} : (Res.ok b ρ).ifM f g = if b = true then f ρ else g ρ := by cases b <;> rfl
@[simp] theorem x_if {f g : M α} : eIf t f g ρ = (t ρ).ifM f g := by
  unfold eIf M.bind Res.ifM
  cases e : t ρ with
  | ok b ρ' => cases b <;> rfl
  | ex x ρ' => rfl
  | bad => rfl
@[simp] theorem x_and : eAnd t u ρ = (t ρ).ifM u (M.ret false) := x_if
@[simp] theorem x_or : eOr t u ρ = (t ρ).ifM (M.ret true) u := x_if
@[simp] theorem x_not : eNot t ρ = M.bind t (fun b => M.ret (!b)) ρ := rfl
@[simp] theorem x_boolR {b : Bool} : boolR (.val (.bl b)) ρ = .ok b ρ := rfl
@[simp] theorem x_bool : eBool f ρ = M.bind f boolR ρ := rfl
@[simp] theorem x_nil : eNil ρ = .ok [] ρ := rfl
@[simp] theorem x_cons {h : M (List R)} : eCons f h ρ = M.bind f (fun r => h.bind fun rs => M.ret (fzR r :: rs)) ρ := rfl
@[simp] theorem fzR_nw {o : OV} : fzR (.nw o) = .val o.toD := rfl
@[simp] theorem fzR_val {d : D} : fzR (.val d) = .val d := rfl
@[simp] theorem fzR_sl {i : Nat} : fzR (.sl i) = .sl i := rfl
@[simp] theorem x_chain {fa fb fc : M R} : eChain op op' fa fb fc ρ = M.bind fa (fun a => fb.bind fun b => (opE op a b).bind (chainK op' b fc)) ρ := rfl
theorem x_chainK {b : R} {fc : M R} {k : Bool} : chainK op' b fc (.val (.bl k)) ρ = if k = true then M.bind fc (fun c => opE op' b c) ρ else .ok (.val (.bl false)) ρ := by cases k <;> rfl
@[simp] theorem x_chainT {b : R} {fc : M R} : chainK op' b fc (.val (.bl true)) ρ = M.bind fc (fun c => opE op' b c) ρ := rfl
@[simp] theorem x_chainF {b : R} {fc : M R} : chainK op' b fc (.val (.bl false)) ρ = .ok (.val (.bl false)) ρ := rfl
@[simp] theorem x_ms {op : Str → List D → Option R} {fa : M (List R)} : eMS op f fa ρ = M.bind f (msK op fa) ρ := rfl
@[simp] theorem x_msK {op : Str → List D → Option R} {fa : M (List R)} {z : Str} : msK op fa (.val (.str z)) ρ = M.bind fa (opEn (op z)) ρ := rfl
@[simp] theorem x_mS0 {g : Str → D} {z : Str} : mS0 g z [] = some (.val (g z)) := rfl
/-! ### operations -/
@[simp] theorem r_vI {i : Int} : vI i = some (.val (.int i)) := rfl
@[simp] theorem r_vB {i : Bool} : vB i = some (.val (.bl i)) := rfl
@[simp] theorem r_vS {i : Str} : vS i = some (.val (.str i)) := rfl
@[simp] theorem r_addI {i j : Int} : opAdd (.int i) (.int j) = some (.val (.int (i + j))) := rfl
@[simp] theorem r_subI {i j : Int} : opSub (.int i) (.int j) = some (.val (.int (i - j))) := rfl
@[simp] theorem r_ltI {i j : Int} : opLt (.int i) (.int j) = some (.val (.bl (decide (i < j)))) := rfl
@[simp] theorem r_leI {i j : Int} : opLe (.int i) (.int j) = some (.val (.bl (decide (i ≤ j)))) := rfl
@[simp] theorem r_gtI {i j : Int} : opGt (.int i) (.int j) = some (.val (.bl (decide (j < i)))) := rfl
@[simp] theorem r_geI {i j : Int} : opGe (.int i) (.int j) = some (.val (.bl (decide (j ≤ i)))) := rfl
@[simp] theorem r_isB {i j : Bool} : opIs (.bl i) (.bl j) = some (.val (.bl (decide (i = j)))) := rfl
theorem r_mulI {i j : Int} (h : mulOk i j = true) : opMulA (.int i) (.int j) = some (.val (.int (i * j))) := by
  show (if mulOk i j = true then vI (i * j) else none) = _
  rw [if_pos h]; rfl
theorem r_modI {i j : Int} (h : 0 < j) : opMod (.int i) (.int j) = some (.val (.int (i % j))) := by
  show (if 0 < j then vI (i % j) else none) = _
  rw [if_pos h]; rfl
theorem r_fdivI {i j : Int} (h : 0 < j) (h2 : j.natAbs.log2 < 9000) : opFdiv (.int i) (.int j) = some (.val (.int (i / j))) := by
  show (if (decide (0 < j) && decide (j.natAbs.log2 < 9000)) = true then vI (i / j) else none) = _
  rw [if_pos (by simp [h, h2])]; rfl
theorem r_addS {x y : Str} (h : x.length + y.length ≤ sizeLine) : opAdd (.str x) (.str y) = some (.val (.str (x ++ y))) := by
  show (if x.length + y.length ≤ sizeLine then vS (x ++ y) else none) = _
  rw [if_pos h]; rfl
theorem r_addL {x y : List D} (h : x.length + y.length ≤ sizeLine) : opAdd (.lst x) (.lst y) = some (.nw (.lst (x ++ y))) := by
  show (if x.length + y.length ≤ sizeLine then some (R.nw (.lst (x ++ y))) else none) = _
  rw [if_pos h]
@[simp] theorem r_eqI {i j : Int} : opEq (.int i) (.int j) = some (.val (.bl (i == j))) := rfl
@[simp] theorem r_neI {i j : Int} : opNe (.int i) (.int j) = some (.val (.bl (!(i == j)))) := rfl
theorem pyOk_str {x : Str} (h : PyData.strOk x = true) : pyOk (.str x) = true := by
  show (true && (PyData.strOk x && true)) = true
  rw [h]; rfl
theorem r_eqS {i j : Str} (h : PyData.strOk i = true) (h' : PyData.strOk j = true) : opEq (.str i) (.str j) = some (.val (.bl (i == j))) := by
  unfold opEq
  rw [pyOk_str h, pyOk_str h']; rfl
theorem r_neS {i j : Str} (h : PyData.strOk i = true) (h' : PyData.strOk j = true) : opNe (.str i) (.str j) = some (.val (.bl (!(i == j)))) := by
  unfold opNe
  rw [pyOk_str h, pyOk_str h']; rfl
theorem r_len_str {x : Str} (h : x.length ≤ sizeLine) : cLen [.str x] = some (.val (.int (x.length : Int))) := by
  show (if x.length ≤ sizeLine then some x.length else none).bind (fun n => vI (n : Int)) = _
  rw [if_pos h]; rfl
@[simp] theorem r_len_lst {x : List D} : cLen [.lst x] = some (.val (.int (x.length : Int))) := rfl
@[simp] theorem r_len_tup {x : List D} : cLen [.tup x] = some (.val (.int (x.length : Int))) := rfl
@[simp] theorem r_int {i : Int} : cInt [.int i] = some (.val (.int i)) := rfl
@[simp] theorem r_intB {b : Bool} : cInt [.bl b] = some (.val (.int (if b then 1 else 0))) := rfl
@[simp] theorem r_abs {i : Int} : cAbs [.int i] = some (.val (.int (if i < 0 then -i else i))) := rfl
@[simp] theorem r_list_l {x : List D} : cList [.lst x] = some (.nw (.lst x)) := rfl
@[simp] theorem r_list_t {x : List D} : cList [.tup x] = some (.nw (.lst x)) := rfl
@[simp] theorem r_tuple_l {x : List D} : cTuple [.lst x] = some (.val (.tup x)) := rfl
@[simp] theorem r_tuple_t {x : List D} : cTuple [.tup x] = some (.val (.tup x)) := rfl
/-! ### displays -/
@[simp] theorem vr_nil : valsR [] = some [] := rfl
@[simp] theorem vr_cons {d : D} {rs : List R} : valsR (.val d :: rs) = (valsR rs).map (d :: ·) := rfl
def lstK (x : Option (List D)) (ρ : Ro) : Res R := match x with
  | some ds => if ds.length ≤ sizeLine then .ok (.nw (.lst ds)) ρ else .bad
  | none => .bad
def tupK (x : Option (List D)) (ρ : Ro) : Res R := match x with
  | some ds => if ds.length ≤ sizeLine then .ok (.val (.tup ds)) ρ else .bad
  | none => .bad
theorem lstK_s {ds : List D} (h : ds.length ≤ sizeLine) : lstK (some ds) ρ = .ok (.nw (.lst ds)) ρ := if_pos h
theorem tupK_s {ds : List D} (h : ds.length ≤ sizeLine) : tupK (some ds) ρ = .ok (.val (.tup ds)) ρ := if_pos h
@[simp] theorem x_lstR {rs : List R} : lstR rs ρ = lstK (valsR rs) ρ := rfl
@[simp] theorem x_tupR {rs : List R} : tupR rs ρ = tupK (valsR rs) ρ := rfl
@[simp] theorem x_lst {fa : M (List R)} : eLst fa ρ = M.bind fa lstR ρ := rfl
@[simp] theorem x_tup {fa : M (List R)} : eTup fa ρ = M.bind fa tupR ρ := rfl
/-! ### statements -/
def Res.ifS (x : Res Bool) (s s' : S) : Out := match x with
  | .ok true ρ => s ρ
  | .ok false ρ => s' ρ
  | .ex x ρ => .ex x ρ
  | .bad => .bad
@[simp] theorem ifS_t : (Res.ok true ρ).ifS s s' = s ρ := rfl
@[simp] theorem ifS_f : (Res.ok false ρ).ifS s s' = s' ρ := rfl
theorem ifS_b {b : Bool} : (Res.ok b ρ).ifS s s' = if b = true then s ρ else s' ρ := by cases b <;> rfl
@[simp] theorem x_sif : sIf t s s' ρ = (t ρ).ifS s s' := by
  unfold sIf sBind Res.ifS
  cases e : t ρ with
  | ok b ρ' => cases b <;> rfl
  | ex x ρ' => rfl
  | bad => rfl
@[simp] theorem x_expr : sExpr f ρ = (f ρ).andS (fun _ => sNext) := rfl
@[simp] theorem x_asg {i : Nat} : sAsg i f ρ = (f ρ).andS (storeR i) := rfl
@[simp] theorem x_sret : sRet f ρ = (f ρ).andS retR := rfl
def okS : Option Sl → Bool
  | some .no => true
  | some (.fz _) => true
  | some (.ow k _) => !k
  | _ => false
@[simp] theorem okS_no : okS (some .no) = true := rfl
@[simp] theorem okS_fz {d : D} : okS (some (.fz d)) = true := rfl
@[simp] theorem okS_ow {k : Bool} {o : OV} : okS (some (.ow k o)) = !k := rfl
theorem okSet_eq {i : Nat} : okSet ρ i = okS (ρ[i]?) := by
  unfold okSet okS
  cases ρ[i]? with
  | none => rfl
  | some s => cases s <;> rfl
@[simp] theorem x_store_val {i : Nat} {d : D} : storeR i (.val d) ρ = if okS (ρ[i]?) = true then .nx (ρ.set i (.fz d)) else .bad := by
  unfold storeR
  rw [okSet_eq]
@[simp] theorem x_store_nw {i : Nat} {o : OV} : storeR i (.nw o) ρ = if okS (ρ[i]?) = true then .nx (ρ.set i (.ow false o)) else .bad := by
  unfold storeR
  rw [okSet_eq]
@[simp] theorem x_ret_val {d : D} : retR (.val d) ρ = .ret (.val d) ρ := rfl
@[simp] theorem x_ret_nw {o : OV} : retR (.nw o) ρ = .ret (.nw o) ρ := rfl
def retK (ρ : Ro) (j : Nat) : Option Sl → Out
  | some (.ow false o) => .ret (.nw o) (ρ.set j .no)
  | _ => .bad
@[simp] theorem retK_ow {j : Nat} {o : OV} : retK ρ j (some (.ow false o)) = .ret (.nw o) (ρ.set j .no) := rfl
@[simp] theorem x_ret_sl {j : Nat} : retR (.sl j) ρ = retK ρ j (ρ[j]?) := by
  unfold retR retK
  rfl
/-! ### a def, a call -/
def finK (a : Ro) : Out → Res R
  | .nx ρ => match keepIo a ρ with
    | some a' => .ok (.val .non) a'
    | none => .bad
  | .ret (.sl _) _ => .bad
  | .ret r ρ => match keepIo a ρ with
    | some a' => .ok r a'
    | none => .bad
  | .ex x ρ => match keepIo a ρ with
    | some a' => .ex x a'
    | none => .bad
  | _ => .bad
theorem x_run {n : Nat} {a : Ro} : runF n s a = finK a (s (a ++ List.replicate n .no)) := by
  unfold runF finK
  rfl
def Oo.res {α : Type} (x : Option Ro) (r : α) : Res α := match x with
  | some a => .ok r a
  | none => .bad
@[simp] theorem oo_s {a : Ro} {r : α} : Oo.res (some a) r = .ok r a := rfl
@[simp] theorem fin_val {a : Ro} {d : D} : finK a (.ret (.val d) ρ) = Oo.res (keepIo a ρ) (.val d) := rfl
@[simp] theorem fin_nw {a : Ro} {o : OV} : finK a (.ret (.nw o) ρ) = Oo.res (keepIo a ρ) (.nw o) := rfl
@[simp] theorem fin_nx {a : Ro} : finK a (.nx ρ) = Oo.res (keepIo a ρ) (.val .non) := rfl
@[simp] theorem kio_nil : keepIo [] ρ = some [] := by cases ρ <;> rfl
@[simp] theorem kio_fz {d : D} {a : Ro} {s : Sl} : keepIo (.fz d :: a) (s :: ρ) = (keepIo a ρ).map (.fz d :: ·) := rfl
@[simp] theorem kio_ow {o o' : OV} {a : Ro} : keepIo (.ow true o :: a) (.ow true o' :: ρ) = (keepIo a ρ).map (.ow true o' :: ·) := rfl
@[simp] theorem x_call {F : Ro → Res R} {fa : M (List R)} : eCall F fa ρ = M.bind fa (callR F) ρ := rfl
def callK (rs : List R) (ρ : Ro) (F : Ro → Res R) (x : Option Ro) (ap : Bool) : Res R := match x with
  | none => .bad
  | some a => if ap = true then (match F a with
    | .ok (.sl _) _ => .bad
    | .ok r a' => match backR rs a' 0 ρ with
      | some ρ' => .ok r ρ'
      | none => .bad
    | .ex x a' => match backR rs a' 0 ρ with
      | some ρ' => .ex x ρ'
      | none => .bad
    | .bad => .bad) else .bad
def Res.back (rs : List R) (ρ : Ro) : Res R → Res R
  | .ok (.sl _) _ => .bad
  | .ok r a' => match backR rs a' 0 ρ with
    | some ρ' => .ok r ρ'
    | none => .bad
  | .ex x a' => match backR rs a' 0 ρ with
    | some ρ' => .ex x ρ'
    | none => .bad
  | .bad => .bad
@[simp] theorem back_val {rs : List R} {d : D} {a' : Ro} : (Res.ok (.val d) a').back rs ρ = Oo.res (backR rs a' 0 ρ) (.val d) := rfl
@[simp] theorem back_nw {rs : List R} {o : OV} {a' : Ro} : (Res.ok (.nw o) a').back rs ρ = Oo.res (backR rs a' 0 ρ) (.nw o) := rfl
@[simp] theorem callK_s {rs : List R} {F : Ro → Res R} {a : Ro} : callK rs ρ F (some a) true = (F a).back rs ρ := by
  unfold callK Res.back
  rfl
@[simp] theorem x_callR {F : Ro → Res R} {rs : List R} : callR F rs ρ = callK rs ρ F (argSls ρ rs) (apartR ρ rs) := by
  unfold callR callK
  rfl
def slK : Option Sl → Option Sl
  | some (.fz d) => some (.fz d)
  | some (.ow _ o) => some (.ow true o)
  | _ => none
@[simp] theorem slK_fz {d : D} : slK (some (.fz d)) = some (.fz d) := rfl
@[simp] theorem slK_ow {k : Bool} {o : OV} : slK (some (.ow k o)) = some (.ow true o) := rfl
@[simp] theorem as_val {d : D} : argSl ρ (.val d) = some (.fz d) := rfl
@[simp] theorem as_sl {i : Nat} : argSl ρ (.sl i) = slK (ρ[i]?) := by
  unfold argSl slK
  rfl
def consS : Option Sl → Option Ro → Option Ro
  | some d, some ds => some (d :: ds)
  | _, _ => none
@[simp] theorem consS_s {d : Sl} {ds : Ro} : consS (some d) (some ds) = some (d :: ds) := rfl
@[simp] theorem ass_nil : argSls ρ [] = some [] := rfl
@[simp] theorem ass_cons {r : R} {rs : List R} : argSls ρ (r :: rs) = consS (argSl ρ r) (argSls ρ rs) := rfl
@[simp] theorem ap_nil : apartR ρ [] = true := rfl
@[simp] theorem ap_val {d : D} {rs : List R} : apartR ρ (.val d :: rs) = apartR ρ rs := rfl
def apK (i : Nat) (rs : List R) : Option Sl → Bool
  | some (.ow _ _) => !rs.any (R.is i)
  | _ => true
@[simp] theorem apK_ow {i : Nat} {rs : List R} {k : Bool} {o : OV} : apK i rs (some (.ow k o)) = !rs.any (R.is i) := rfl
@[simp] theorem apK_fz {i : Nat} {rs : List R} {d : D} : apK i rs (some (.fz d)) = true := rfl
@[simp] theorem ap_sl {i : Nat} {rs : List R} : apartR ρ (.sl i :: rs) = (apK i rs (ρ[i]?) && apartR ρ rs) := by
  show ((match ρ[i]? with
    | some (.ow _ _) => !rs.any (R.is i)
    | _ => true) && apartR ρ rs) = _
  unfold apK
  rfl
@[simp] theorem ris_val {i : Nat} {d : D} : R.is i (.val d) = false := rfl
@[simp] theorem ris_sl {i j : Nat} : R.is i (.sl j) = (j == i) := rfl
@[simp] theorem bk_nil {rs : List R} {a' : Ro} {i : Nat} : backR rs a' i [] = some [] := rfl
@[simp] theorem bk_no {rs : List R} {a' l : Ro} {i : Nat} : backR rs a' i (.no :: l) = (backR rs a' (i + 1) l).map (.no :: ·) := rfl
@[simp] theorem bk_fz {rs : List R} {a' l : Ro} {i : Nat} {d : D} : backR rs a' i (.fz d :: l) = (backR rs a' (i + 1) l).map (.fz d :: ·) := rfl
@[simp] theorem bk_ln {rs : List R} {a' l : Ro} {i : Nat} {k : Bool} {o : OV} : backR rs a' i (.ln k o :: l) = (backR rs a' (i + 1) l).map (.ln k o :: ·) := rfl
def bkK (k : Bool) (o : OV) (r : Option Ro) : Option Sl → Option Ro
  | none => r.map (Sl.ow k o :: ·)
  | some (.ow true o') => r.map (Sl.ow k o' :: ·)
  | _ => none
@[simp] theorem bkK_n {k : Bool} {o : OV} {r : Option Ro} : bkK k o r none = r.map (Sl.ow k o :: ·) := rfl
@[simp] theorem bkK_s {k : Bool} {o o' : OV} {r : Option Ro} : bkK k o r (some (Sl.ow true o')) = r.map (Sl.ow k o' :: ·) := rfl
@[simp] theorem bk_ow {rs : List R} {a' l : Ro} {i : Nat} {k : Bool} {o : OV} : backR rs a' i (.ow k o :: l) = bkK k o (backR rs a' (i + 1) l) (findA i rs a') := by
  show (match findA i rs a' with
    | none => (backR rs a' (i + 1) l).map (Sl.ow k o :: ·)
    | some (.ow true o') => (backR rs a' (i + 1) l).map (Sl.ow k o' :: ·)
    | _ => none) = _
  unfold bkK
  rfl
@[simp] theorem fa_nil {i : Nat} {a : Ro} : findA i [] a = none := rfl
@[simp] theorem fa_val {i : Nat} {d : D} {rs : List R} {s : Sl} {a : Ro} : findA i (.val d :: rs) (s :: a) = findA i rs a := rfl
@[simp] theorem fa_sl {i j : Nat} {rs : List R} {s : Sl} {a : Ro} : findA i (.sl j :: rs) (s :: a) = if j = i then some s else findA i rs a := rfl
/-! ### objects -/
def methK (j : Nat) (mop : OV → List D → Option (D × OV)) (ρ : Ro) (x : Option Sl) (ds : Option (List D)) : Res R := match x, ds with
  | some (.ow k o), some ds => match mop o ds with
    | some (d, o') => .ok (.val d) (ρ.set j (.ow k o'))
    | none => .bad
  | _, _ => .bad
def Oo.meth (j : Nat) (k : Bool) (ρ : Ro) (x : Option (D × OV)) : Res R := match x with
  | some (d, o') => .ok (.val d) (ρ.set j (.ow k o'))
  | none => .bad
@[simp] theorem oo_meth {j : Nat} {k : Bool} {d : D} {o : OV} : Oo.meth j k ρ (some (d, o)) = .ok (.val d) (ρ.set j (.ow k o)) := rfl
@[simp] theorem methK_s {j : Nat} {mop : OV → List D → Option (D × OV)} {k : Bool} {o : OV} {ds : List D} : methK j mop ρ (some (.ow k o)) (some ds) = Oo.meth j k ρ (mop o ds) := rfl
@[simp] theorem x_methR {j : Nat} {mop : OV → List D → Option (D × OV)} {rs : List R} : methR j mop rs ρ = methK j mop ρ (ρ[j]?) (valsR rs) := rfl
def owK (T : String) : Option Sl → Bool
  | some (.ow _ o) => o.ty == T
  | _ => false
@[simp] theorem owK_l {k : Bool} {ds : List D} : owK "list" (some (.ow k (.lst ds))) = true := rfl
@[simp] theorem owK_d {k : Bool} {ds : List (L2.Key × D)} : owK "dict" (some (.ow k (.dct ds))) = true := rfl
@[simp] theorem x_isOw {T : String} {j : Nat} : isOw T ρ j = owK T (ρ[j]?) := rfl
@[simp] theorem x_meth {T : String} {j : Nat} {mop : OV → List D → Option (D × OV)} {fa : M (List R)} : eMeth T j mop fa ρ = if owK T (ρ[j]?) = true then M.bind fa (methR j mop) ρ else .bad := rfl
theorem r_append {ds : List D} {d : D} (h : ds.length < sizeLine) : moAppend (.lst ds) [d] = some (.non, .lst (ds ++ [d])) := if_pos h
@[simp] theorem r_pop0 {d : D} {ds : List D} : moPopAt (.lst (d :: ds)) [.int 0] = some (d, .lst ds) := by
  show (if (decide (-(2 ^ 63) ≤ (0 : Int)) && decide ((0 : Int) < 2 ^ 63)) = true then (seqIndex? 0 (d :: ds).length).bind fun k => ((d :: ds)[k]?).map fun e => (e, OV.lst ((d :: ds).eraseIdx k)) else none) = _
  rw [if_pos (by decide)]
  have e : seqIndex? 0 (d :: ds).length = some 0 := by
    unfold seqIndex?
    simp
  rw [e]
  rfl
def ownK : Option Sl → Bool
  | some (.ow _ _) => true
  | _ => false
@[simp] theorem ownK_s {k : Bool} {o : OV} : ownK (some (.ow k o)) = true := rfl
def setKK (j : Nat) (ρ : Ro) (d : D) (x : Option Sl) (i : Option D) : Out := match x, i with
  | some (.ow k o), some di => match setO o di d with
    | some o' => .nx (ρ.set j (.ow k o'))
    | none => .bad
  | _, _ => .bad
def Oo.set (j : Nat) (k : Bool) (ρ : Ro) : Option OV → Out
  | some o' => .nx (ρ.set j (.ow k o'))
  | none => .bad
@[simp] theorem oo_set {j : Nat} {k : Bool} {o : OV} : Oo.set j k ρ (some o) = .nx (ρ.set j (.ow k o)) := rfl
@[simp] theorem setKK_s {j : Nat} {d di : D} {k : Bool} {o : OV} : setKK j ρ d (some (.ow k o)) (some di) = Oo.set j k ρ (setO o di d) := rfl
@[simp] theorem x_setR {j : Nat} {d : D} {ri : R} : setR j (.val d) ri ρ = setKK j ρ d (ρ[j]?) (deref ρ ri) := by
  unfold setR setKK
  cases ρ[j]? with
  | none => rfl
  | some s => cases s <;> cases deref ρ ri <;> rfl
@[simp] theorem x_setK {j : Nat} {fi : M R} {r : R} : setK j fi r ρ = if ownK (ρ[j]?) = true then (fi ρ).andS (setR j r) else .bad := rfl
@[simp] theorem x_frz_val {d : D} : frzR (.val d) ρ = .ok (.val d) ρ := rfl
@[simp] theorem x_frz_nw {o : OV} : frzR (.nw o) ρ = .ok (.val o.toD) ρ := rfl
@[simp] theorem x_fz : eFz f ρ = (f ρ).and frzR := rfl
@[simp] theorem x_sset {j : Nat} {fv fi : M R} : sSet j fv fi ρ = (eFz fv ρ).andS (setK j fi) := rfl
end
end DL
namespace DL
section
variable {ρ ρ1 ρ2 : Ro} {t : M Bool} {s : S} {o : Out}
theorem while_stop (h : t ρ = .ok false ρ1) : sWhile t s ρ = .nx ρ1 := sWhile_of 1 (by unfold whileN; rw [h]) (fun q => by cases q)
theorem while_go (h : t ρ = .ok true ρ1) (h2 : s ρ1 = .nx ρ2) (h3 : sWhile t s ρ2 = o) (ho : o ≠ .bad) : sWhile t s ρ = o := by
  unfold sWhile at h3
  by_cases ex : ∃ n, whileN t s n ρ2 ≠ .bad
  · rw [dif_pos ex] at h3
    refine sWhile_of (Classical.choose ex + 1) ?_ ho
    unfold whileN
    rw [h]
    dsimp only
    rw [h2]
    exact h3
  · rw [dif_neg ex] at h3
    exact absurd h3.symm ho
end
end DL

/-! DLr: loops and comprehensions, run. -/
namespace DL
open PySem PySem.Spec
section
variable {α β : Type} {ρ ρ' : Ro} {f : M R} {t : M Bool} {s : S} {tgt : Tgt} {body : S} {elt fk fv : M R} {cond : M Bool} {vs : List Nat}
def vK (ρ : Ro) : Option (List D) → Res Iter
  | some ds => .ok (itVals ds) ρ
  | none => .bad
@[simp] theorem vK_s {ds : List D} : vK ρ (some ds) = .ok (itVals ds) ρ := rfl
@[simp] theorem x_itR_val {d : D} : itR (.val d) ρ = vK ρ (itemsD d) := rfl
@[simp] theorem x_itR_nw {o : OV} : itR (.nw o) ρ = vK ρ (itemsD o.toD) := rfl
@[simp] theorem id_lst {ds : List D} : itemsD (.lst ds) = some ds := rfl
@[simp] theorem id_tup {ds : List D} : itemsD (.tup ds) = some ds := rfl
@[simp] theorem id_str {x : Str} : itemsD (.str x) = some (charsD x) := rfl
@[simp] theorem id_scr {ns : List Int} : itemsD (.scr ns) = some (ns.map D.int) := rfl
@[simp] theorem x_itE : itE f ρ = (f ρ).and itR := rfl
def nK (j : Nat) (ρ : Ro) : Option Sl → Res Iter
  | some (.fz d) => vK ρ (itemsD d)
  | some (.ow k (.lst ds)) => .ok (itLent j true) (ρ.set j (.ln k (.lst ds)))
  | some (.ln k (.lst ds)) => .ok (itLent j false) ρ
  | _ => .bad
@[simp] theorem nK_fz {j : Nat} {d : D} : nK j ρ (some (.fz d)) = vK ρ (itemsD d) := rfl
@[simp] theorem nK_ow {j : Nat} {k : Bool} {ds : List D} : nK j ρ (some (.ow k (.lst ds))) = .ok (itLent j true) (ρ.set j (.ln k (.lst ds))) := rfl
@[simp] theorem nK_ln {j : Nat} {k : Bool} {ds : List D} : nK j ρ (some (.ln k (.lst ds))) = .ok (itLent j false) ρ := rfl
@[simp] theorem x_itN {j : Nat} : itN j ρ = nK j ρ (ρ[j]?) := by
  unfold itN nK vK
  rfl
def Res.enum : Res Iter → Res Iter
  | .ok it ρ => .ok ⟨it.src, fun ρ => (it.items ρ).map enumD⟩ ρ
  | .ex x ρ => .ex x ρ
  | .bad => .bad
@[simp] theorem enum_v {ds : List D} : (Res.ok (itVals ds) ρ).enum = .ok (itVals (enumD ds)) ρ := rfl
@[simp] theorem x_itEnum {f : M Iter} : itEnum f ρ = (f ρ).enum := rfl
def rngO (ρ : Ro) : Option (List D) → Res Iter
  | some [.int j] => if fits62 j = true then .ok (itVals (rangeD 0 j.toNat)) ρ else .bad
  | some [.int i, .int j] => if (fits62 i && fits62 j) = true then .ok (itVals (rangeD i (j - i).toNat)) ρ else .bad
  | _ => .bad
def rngK (rs : List R) : M Iter := fun ρ => rngO ρ (derefs ρ rs)
@[simp] theorem x_rngK {rs : List R} : rngK rs ρ = rngO ρ (derefs ρ rs) := rfl
@[simp] theorem rngO_1 {j : Int} : rngO ρ (some [.int j]) = if fits62 j = true then .ok (itVals (rangeD 0 j.toNat)) ρ else .bad := rfl
@[simp] theorem rngO_2 {i j : Int} : rngO ρ (some [.int i, .int j]) = if (fits62 i && fits62 j) = true then .ok (itVals (rangeD i (j - i).toNat)) ρ else .bad := rfl
@[simp] theorem x_range {fa : M (List R)} : itRange fa ρ = (fa ρ).and rngK := by
  unfold itRange M.bind Res.and rngK rngO
  rfl
/-! ### for -/
@[simp] theorem x_for {f : M Iter} : sFor f tgt body ρ = (f ρ).andS (forR tgt body) := rfl
theorem map_u0 (o : Out) : o.map (undoR []) = o := by cases o <;> rfl
@[simp] theorem x_forV {ds : List D} : forR tgt body (itVals ds) ρ = loopF tgt body ds ρ := by
  show (loopF tgt body ds ρ).map (undoR []) = _
  rw [map_u0]
def lnK : Option Sl → Bool
  | some (.ln _ _) => true
  | _ => false
@[simp] theorem lnK_no : lnK (some .no) = false := rfl
@[simp] theorem lnK_fz {d : D} : lnK (some (.fz d)) = false := rfl
@[simp] theorem lnK_ow {k : Bool} {o : OV} : lnK (some (.ow k o)) = false := rfl
@[simp] theorem lnK_ln {k : Bool} {o : OV} : lnK (some (.ln k o)) = true := rfl
@[simp] theorem x_isLn {j : Nat} : isLn ρ j = lnK (ρ[j]?) := rfl
def lnI : Option Sl → Option (List D)
  | some (.ln _ (.lst ds)) => some ds
  | _ => none
@[simp] theorem lnI_s {k : Bool} {ds : List D} : lnI (some (.ln k (.lst ds))) = some ds := rfl
@[simp] theorem x_lnItems {j : Nat} : lnItems j ρ = lnI (ρ[j]?) := rfl
def forK (tgt : Tgt) (body : S) (src : List (Nat × Bool)) (ρ : Ro) : Option (List D) → Out
  | some ds => (loopF tgt body ds ρ).map (undoR src)
  | none => .bad
@[simp] theorem forK_s {ds : List D} {src : List (Nat × Bool)} : forK tgt body src ρ (some ds) = (loopF tgt body ds ρ).map (undoR src) := rfl
@[simp] theorem x_forL {j : Nat} {u : Bool} : forR tgt body (itLent j u) ρ = if lnK (ρ[j]?) = true then forK tgt body [(j, u)] ρ (lnI (ρ[j]?)) else .bad := by
  show (if ([(j, u)].all fun p => isLn ρ p.1) = true then _ else _) = _
  simp only [List.all_cons, List.all_nil, Bool.and_true, x_isLn]
  by_cases h : lnK (ρ[j]?) = true
  · rw [if_pos h, if_pos h]
    show (match lnItems j ρ with
      | none => Out.bad
      | some ds => (loopF tgt body ds ρ).map (undoR [(j, u)])) = _
    rw [x_lnItems]
    cases lnI (ρ[j]?) <;> rfl
  · rw [if_neg h, if_neg h]
@[simp] theorem omap_nx {g : Ro → Ro} : (Out.nx ρ).map g = .nx (g ρ) := rfl
@[simp] theorem omap_ret {g : Ro → Ro} {r : R} : (Out.ret r ρ).map g = .ret r (g ρ) := rfl
@[simp] theorem undo_nil : undoR [] ρ = ρ := rfl
def undoK (j : Nat) (ρ : Ro) : Option Sl → Ro
  | some (.ln k o) => ρ.set j (.ow k o)
  | _ => ρ
@[simp] theorem undoK_s {j : Nat} {k : Bool} {o : OV} : undoK j ρ (some (.ln k o)) = ρ.set j (.ow k o) := rfl
@[simp] theorem undo_t {j : Nat} : undoR [(j, true)] ρ = undoK j ρ (ρ[j]?) := by
  show (match ρ[j]? with
    | some (.ln k o) => undoR [] (ρ.set j (.ow k o))
    | _ => undoR [] ρ) = _
  unfold undoK
  cases ρ[j]? with
  | none => rfl
  | some s => cases s <;> rfl
@[simp] theorem undo_f {j : Nat} : undoR [(j, false)] ρ = ρ := rfl
def Out.loop (o : Out) (k : S) : Out := match o with
  | .nx ρ => k ρ
  | .cnt ρ => k ρ
  | .brk ρ => .nx ρ
  | .ret r ρ => .ret r ρ
  | .ex x ρ => .ex x ρ
  | .bad => .bad
@[simp] theorem lo_nx {k : S} : (Out.nx ρ).loop k = k ρ := rfl
@[simp] theorem lo_cnt {k : S} : (Out.cnt ρ).loop k = k ρ := rfl
@[simp] theorem lo_brk {k : S} : (Out.brk ρ).loop k = .nx ρ := rfl
@[simp] theorem lo_ret {k : S} {r : R} : (Out.ret r ρ).loop k = .ret r ρ := rfl
@[simp] theorem lo_ex {k : S} {x : Exn} : (Out.ex x ρ).loop k = .ex x ρ := rfl
def goK (body : S) (k : S) : Option Ro → Out
  | some ρ => (body ρ).loop k
  | none => .bad
@[simp] theorem goK_s {k : S} : goK body k (some ρ) = (body ρ).loop k := rfl
@[simp] theorem loop_nil : loopF tgt body [] ρ = .nx ρ := rfl
theorem loop_cons {d : D} {ds : List D} : loopF tgt body (d :: ds) ρ = goK body (loopF tgt body ds) (tgt d ρ) := by
  show (match tgt d ρ with
    | none => Out.bad
    | some ρ1 => match body ρ1 with
      | .nx ρ2 => loopF tgt body ds ρ2
      | .cnt ρ2 => loopF tgt body ds ρ2
      | .brk ρ2 => .nx ρ2
      | o => o) = _
  cases tgt d ρ with
  | none => rfl
  | some ρ1 =>
    show _ = (body ρ1).loop _
    dsimp only
    cases body ρ1 <;> rfl
@[simp] theorem x_tgName {i : Nat} {d : D} : tgName i d ρ = if okS (ρ[i]?) = true then some (ρ.set i (.fz d)) else none := by
  unfold tgName
  rw [okSet_eq]
@[simp] theorem x_tgTup {n : Nat} {u : List D → Ro → Option Ro} {ds : List D} : tgTup n u (.tup ds) ρ = if ds.length = n then u ds ρ else none := rfl
@[simp] theorem x_tgCons {t : Tgt} {u : List D → Ro → Option Ro} {d : D} {ds : List D} : tgCons t u (d :: ds) ρ = (t d ρ).bind (u ds) := rfl
@[simp] theorem x_tgNil : tgNil [] ρ = some ρ := rfl
/-- a loop whose turns go on: from state to state -/
theorem loop_inv {ds : List D} (Pv : List D → Ro → Prop) (hs : ∀ d ds ρ, Pv (d :: ds) ρ → ∃ ρ1, tgt d ρ = some ρ1 ∧ ∃ ρ2, (body ρ1 = .nx ρ2 ∨ body ρ1 = .cnt ρ2) ∧ Pv ds ρ2) : ∀ {ρ : Ro}, Pv ds ρ → ∃ ρ', loopF tgt body ds ρ = .nx ρ' ∧ Pv [] ρ' := by
  induction ds with
  | nil => exact fun {ρ} h => ⟨ρ, rfl, h⟩
  | cons d ds ih =>
    intro ρ h
    obtain ⟨ρ1, e1, ρ2, e2, h2⟩ := hs d ds ρ h
    obtain ⟨ρ', e3, h3⟩ := ih h2
    refine ⟨ρ', ?_, h3⟩
    rw [loop_cons, e1, goK_s]
    rcases e2 with e2 | e2
    · rw [e2, lo_nx]; exact e3
    · rw [e2, lo_cnt]; exact e3
/-! ### comprehensions -/
@[simp] theorem x_comp {f : M Iter} : eComp f tgt cond elt vs ρ = (f ρ).and (compR tgt cond elt vs) := rfl
@[simp] theorem x_yes : eYes ρ = .ok true ρ := rfl
@[simp] theorem wipe_nil : wipeR ρ [] = ρ := rfl
@[simp] theorem wipe_cons {v : Nat} : wipeR ρ (v :: vs) = (wipeR ρ vs).set v .no := rfl
def compK (src : List (Nat × Bool)) : Res (List D) → Res R
  | .ok acc ρ => .ok (.nw (.lst acc)) (undoR src ρ)
  | _ => .bad
@[simp] theorem compK_ok {src : List (Nat × Bool)} {acc : List D} : compK src (.ok acc ρ) = .ok (.nw (.lst acc)) (undoR src ρ) := rfl
@[simp] theorem x_compV {ds : List D} : compR tgt cond elt vs (itVals ds) ρ = if (vs.all fun v => !lnK (ρ[v]?)) = true then compK [] (compN tgt cond elt vs ds [] (wipeR ρ vs)) else .bad := by
  show (if (true && vs.all fun v => !isLn ρ v) = true then _ else _) = _
  rw [Bool.true_and]
  show (if (vs.all fun v => !lnK (ρ[v]?)) = true then _ else _) = _
  by_cases h : (vs.all fun v => !lnK (ρ[v]?)) = true
  · rw [if_pos h, if_pos h]
    show (match compN tgt cond elt vs ds [] (wipeR ρ vs) with
      | .ok acc ρ' => Res.ok (R.nw (.lst acc)) (undoR [] ρ')
      | _ => Res.bad) = _
    unfold compK
    rfl
  · rw [if_neg h, if_neg h]
@[simp] theorem x_compL {j : Nat} {u k : Bool} {ds : List D} (hj : ρ[j]? = some (.ln k (.lst ds))) : compR tgt cond elt vs (itLent j u) ρ = if (vs.all fun v => !lnK (ρ[v]?)) = true then compK [(j, u)] (compN tgt cond elt vs ds [] (wipeR ρ vs)) else .bad := by
  show (if ((isLn ρ j && true) && vs.all fun v => !isLn ρ v) = true then _ else _) = _
  have hl : isLn ρ j = true := by rw [x_isLn, hj]; rfl
  rw [hl]
  show (if (vs.all fun v => !lnK (ρ[v]?)) = true then _ else _) = _
  by_cases h : (vs.all fun v => !lnK (ρ[v]?)) = true
  · rw [if_pos h, if_pos h]
    show (match lnItems j ρ with
      | none => Res.bad
      | some ds => match compN tgt cond elt vs ds [] (wipeR ρ vs) with
        | .ok acc ρ' => Res.ok (R.nw (.lst acc)) (undoR [(j, u)] ρ')
        | _ => Res.bad) = _
    rw [x_lnItems, hj]
    show (match compN tgt cond elt vs ds [] (wipeR ρ vs) with
        | .ok acc ρ' => Res.ok (R.nw (.lst acc)) (undoR [(j, u)] ρ')
        | _ => Res.bad) = _
    unfold compK
    rfl
  · rw [if_neg h, if_neg h]
/-- one turn: taken -/
theorem comp_yes {d x : D} {ds acc : List D} {ρ1 ρ2 ρ3 : Ro} {r : R} (h1 : tgt d ρ = some ρ1) (h2 : cond ρ1 = .ok true ρ2) (h3 : elt ρ2 = .ok r ρ3) (h4 : escD r = some x) (h5 : acc.length < sizeLine) :
    compN tgt cond elt vs (d :: ds) acc ρ = compN tgt cond elt vs ds (acc ++ [x]) (wipeR ρ3 vs) := by
  rw [compN]
  simp only [h1, h2, h3, h4]
  rw [if_pos h5]
theorem comp_no {d : D} {ds acc : List D} {ρ1 ρ2 : Ro} (h1 : tgt d ρ = some ρ1) (h2 : cond ρ1 = .ok false ρ2) : compN tgt cond elt vs (d :: ds) acc ρ = compN tgt cond elt vs ds acc (wipeR ρ2 vs) := by
  rw [compN]
  simp only [h1, h2]
/-- the state goes along, an element for each item -/
theorem comp_inv (Pv : Ro → Prop) (Q : D → D → Prop) : ∀ (ds acc : List D) (ρ : Ro), (∀ d ∈ ds, ∀ ρ, Pv ρ → ∃ ρ1 ρ2 ρ3 r x, tgt d ρ = some ρ1 ∧ cond ρ1 = .ok true ρ2 ∧ elt ρ2 = .ok r ρ3 ∧ escD r = some x ∧ Q d x ∧ Pv (wipeR ρ3 vs)) → Pv ρ → acc.length + ds.length ≤ sizeLine →
    ∃ xs ρ', compN tgt cond elt vs ds acc ρ = .ok (acc ++ xs) ρ' ∧ xs.length = ds.length ∧ (∀ x ∈ xs, ∃ d ∈ ds, Q d x) ∧ Pv ρ'
  | [], acc, ρ, _, p, _ => ⟨[], ρ, by rw [List.append_nil]; rfl, rfl, fun x hx => absurd hx List.not_mem_nil, p⟩
  | d :: ds, acc, ρ, h, p, hl => by
    rw [List.length_cons] at hl
    obtain ⟨ρ1, ρ2, ρ3, r, x, h1, h2, h3, h4, hq, hp⟩ := h d List.mem_cons_self ρ p
    obtain ⟨xs, ρ', e, l, q, p'⟩ := comp_inv Pv Q ds (acc ++ [x]) (wipeR ρ3 vs) (fun d hd => h d (List.mem_cons_of_mem _ hd)) hp (by rw [List.length_append, List.length_singleton]; omega)
    refine ⟨x :: xs, ρ', ?_, by rw [List.length_cons, List.length_cons, l], fun y hy => ?_, p'⟩
    · rw [comp_yes h1 h2 h3 h4 (by omega), e, List.append_assoc]; rfl
    · rcases List.mem_cons.mp hy with e | e
      · subst e; exact ⟨d, List.mem_cons_self, hq⟩
      · obtain ⟨d', hd', q'⟩ := q y e
        exact ⟨d', List.mem_cons_of_mem _ hd', q'⟩
/-- no state: a map -/
theorem comp_map (g : D → D) : ∀ (ds acc : List D), (∀ d ∈ ds, ∃ ρ1 ρ2 ρ3 r, tgt d ρ = some ρ1 ∧ cond ρ1 = .ok true ρ2 ∧ elt ρ2 = .ok r ρ3 ∧ escD r = some (g d) ∧ wipeR ρ3 vs = ρ) → acc.length + ds.length ≤ sizeLine →
    compN tgt cond elt vs ds acc ρ = .ok (acc ++ ds.map g) ρ
  | [], acc, _, _ => by rw [List.map_nil, List.append_nil]; rfl
  | d :: ds, acc, h, hl => by
    rw [List.length_cons] at hl
    obtain ⟨ρ1, ρ2, ρ3, r, h1, h2, h3, h4, hp⟩ := h d List.mem_cons_self
    rw [comp_yes h1 h2 h3 h4 (by omega), hp, comp_map g ds (acc ++ [g d]) (fun d hd => h d (List.mem_cons_of_mem _ hd)) (by rw [List.length_append, List.length_singleton]; omega), List.append_assoc]
    rfl
/-- no state: a filter and a map -/
theorem comp_filter (q : D → Bool) (g : D → D) : ∀ (ds acc : List D), (∀ d ∈ ds, ∃ ρ1 ρ2, tgt d ρ = some ρ1 ∧ cond ρ1 = .ok (q d) ρ2 ∧ wipeR ρ2 vs = ρ ∧ (q d = true → ∃ ρ3 r, elt ρ2 = .ok r ρ3 ∧ escD r = some (g d) ∧ wipeR ρ3 vs = ρ)) → acc.length + ds.length ≤ sizeLine →
    compN tgt cond elt vs ds acc ρ = .ok (acc ++ (ds.filter q).map g) ρ
  | [], acc, _, _ => by rw [List.filter_nil, List.map_nil, List.append_nil]; rfl
  | d :: ds, acc, h, hl => by
    rw [List.length_cons] at hl
    obtain ⟨ρ1, ρ2, h1, h2, hw, h3⟩ := h d List.mem_cons_self
    cases e : q d with
    | false =>
      rw [e] at h2
      rw [comp_no h1 h2, hw, comp_filter q g ds acc (fun d hd => h d (List.mem_cons_of_mem _ hd)) (by omega), List.filter_cons, e]
      rfl
    | true =>
      rw [e] at h2
      obtain ⟨ρ3, r, k1, k2, k3⟩ := h3 e
      rw [comp_yes h1 h2 k1 k2 (by omega), k3, comp_filter q g ds (acc ++ [g d]) (fun d hd => h d (List.mem_cons_of_mem _ hd)) (by rw [List.length_append, List.length_singleton]; omega), List.append_assoc, List.filter_cons, e]
      rfl
@[simp] theorem esc_val {d : D} : escD (.val d) = some d := rfl
@[simp] theorem esc_nw {o : OV} : escD (.nw o) = some o.toD := rfl
@[simp] theorem x_dcomp {f : M Iter} : eDComp f tgt cond fk fv vs ρ = (f ρ).and (dcompR tgt cond fk fv vs) := rfl
def dcompK (src : List (Nat × Bool)) : Res (List (L2.Key × D)) → Res R
  | .ok acc ρ => .ok (.nw (.dct acc)) (undoR src ρ)
  | _ => .bad
@[simp] theorem dcompK_ok {src : List (Nat × Bool)} {acc : List (L2.Key × D)} : dcompK src (.ok acc ρ) = .ok (.nw (.dct acc)) (undoR src ρ) := rfl
@[simp] theorem x_dcompV {ds : List D} : dcompR tgt cond fk fv vs (itVals ds) ρ = if (vs.all fun v => !lnK (ρ[v]?)) = true then dcompK [] (dcompN tgt cond fk fv vs ds [] (wipeR ρ vs)) else .bad := by
  show (if (true && vs.all fun v => !isLn ρ v) = true then _ else _) = _
  rw [Bool.true_and]
  show (if (vs.all fun v => !lnK (ρ[v]?)) = true then _ else _) = _
  by_cases h : (vs.all fun v => !lnK (ρ[v]?)) = true
  · rw [if_pos h, if_pos h]
    show (match dcompN tgt cond fk fv vs ds [] (wipeR ρ vs) with
      | .ok acc ρ' => Res.ok (R.nw (.dct acc)) (undoR [] ρ')
      | _ => Res.bad) = _
    unfold dcompK
    rfl
  · rw [if_neg h, if_neg h]
@[simp] theorem x_dcompL {j : Nat} {u k : Bool} {ds : List D} (hj : ρ[j]? = some (.ln k (.lst ds))) : dcompR tgt cond fk fv vs (itLent j u) ρ = if (vs.all fun v => !lnK (ρ[v]?)) = true then dcompK [(j, u)] (dcompN tgt cond fk fv vs ds [] (wipeR ρ vs)) else .bad := by
  show (if ((isLn ρ j && true) && vs.all fun v => !isLn ρ v) = true then _ else _) = _
  have hl : isLn ρ j = true := by rw [x_isLn, hj]; rfl
  rw [hl]
  show (if (vs.all fun v => !lnK (ρ[v]?)) = true then _ else _) = _
  by_cases h : (vs.all fun v => !lnK (ρ[v]?)) = true
  · rw [if_pos h, if_pos h]
    show (match lnItems j ρ with
      | none => Res.bad
      | some ds => match dcompN tgt cond fk fv vs ds [] (wipeR ρ vs) with
        | .ok acc ρ' => Res.ok (R.nw (.dct acc)) (undoR [(j, u)] ρ')
        | _ => Res.bad) = _
    rw [x_lnItems, hj]
    show (match dcompN tgt cond fk fv vs ds [] (wipeR ρ vs) with
        | .ok acc ρ' => Res.ok (R.nw (.dct acc)) (undoR [(j, u)] ρ')
        | _ => Res.bad) = _
    unfold dcompK
    rfl
  · rw [if_neg h, if_neg h]
theorem length_putD (kvs : List (L2.Key × D)) (k : L2.Key) (v : D) : (putD kvs k v).length ≤ kvs.length + 1 := by
  unfold putD
  split
  · rw [List.length_map]; omega
  · rw [List.length_append, List.length_singleton]; omega
theorem dcomp_map (gk : D → L2.Key) (g : D → D) : ∀ (ds : List D) (acc : List (L2.Key × D)), (∀ d ∈ ds, ∃ ρ1 ρ2 rk ρ3 r ρ4, tgt d ρ = some ρ1 ∧ cond ρ1 = .ok true ρ2 ∧ fk ρ2 = .ok rk ρ3 ∧ keyR rk = some (gk d) ∧ fv ρ3 = .ok r ρ4 ∧ escD r = some (g d) ∧ wipeR ρ4 vs = ρ) → acc.length + ds.length ≤ sizeLine →
    dcompN tgt cond fk fv vs ds acc ρ = .ok (ds.foldl (fun acc d => putD acc (gk d) (g d)) acc) ρ
  | [], acc, _, _ => rfl
  | d :: ds, acc, h, hl => by
    rw [List.length_cons] at hl
    obtain ⟨ρ1, ρ2, rk, ρ3, r, ρ4, h1, h2, h3, h4, h5, h6, hp⟩ := h d List.mem_cons_self
    have e : dcompN tgt cond fk fv vs (d :: ds) acc ρ = dcompN tgt cond fk fv vs ds (putD acc (gk d) (g d)) (wipeR ρ4 vs) := by
      rw [dcompN]
      simp only [h1, h2, h3, h4, h5, h6]
      rw [if_pos (by omega)]
    have := length_putD acc (gk d) (g d)
    rw [e, hp, dcomp_map gk g ds _ (fun d hd => h d (List.mem_cons_of_mem _ hd)) (by omega)]
    rfl
theorem keyR_val {d : D} : keyR (.val d) = keyD d := rfl
/-- which keys stand in it -/
theorem putD_any {kvs : List (L2.Key × D)} {k j : L2.Key} {v : D} : ((putD kvs k v).any fun p => decide (p.1 = j)) = ((kvs.any fun p => decide (p.1 = j)) || decide (k = j)) := by
  unfold putD
  by_cases h : (kvs.any fun kv => decide (kv.1 = k)) = true
  · rw [if_pos h, List.any_map]
    have e : ((fun p : L2.Key × D => decide (p.1 = j)) ∘ fun kv : L2.Key × D => if kv.1 = k then (kv.1, v) else kv) = fun p => decide (p.1 = j) := by
      funext p
      show decide ((if p.1 = k then (p.1, v) else p).1 = j) = _
      by_cases q : p.1 = k
      · rw [if_pos q]
      · rw [if_neg q]
    rw [e]
    by_cases z : k = j
    · subst z
      rw [h]; rfl
    · rw [decide_eq_false z, Bool.or_false]
  · rw [if_neg h, List.any_append, List.any_cons, List.any_nil, Bool.or_false]
theorem fold_any {gk : D → L2.Key} {g : D → D} {j : L2.Key} : ∀ (ds : List D) (acc : List (L2.Key × D)), ((ds.foldl (fun acc d => putD acc (gk d) (g d)) acc).any fun p => decide (p.1 = j)) = ((acc.any fun p => decide (p.1 = j)) || ds.any fun d => decide (gk d = j))
  | [], acc => by simp
  | d :: ds, acc => by
    rw [List.foldl_cons, fold_any ds, putD_any, List.any_cons, Bool.or_assoc]
end
end DL
namespace DL
open PySem PySem.Spec
section
variable {ρ : Ro} {f : M R}
/-! ### slices, f-strings, isinstance, op= -/
@[simp] theorem x_nop : eNoP ρ = .ok none ρ := rfl
@[simp] theorem x_eP : eP f ρ = (f ρ).and partR := rfl
def partK (ρ : Ro) : Option D → Res (Option Int)
  | some (.int i) => .ok (some i) ρ
  | _ => .bad
@[simp] theorem partK_s {i : Int} : partK ρ (some (.int i)) = .ok (some i) ρ := rfl
@[simp] theorem x_partR {r : R} : partR r ρ = partK ρ (deref ρ r) := rfl
@[simp] theorem x_eSl {fl fh : M (Option Int)} : eSl f fl fh ρ = (f ρ).and (fun r => M.bind fl fun lo => M.bind fh fun hi => slR r lo hi) := rfl
@[simp] theorem x_slR {r : R} {lo hi : Option Int} : slR r lo hi ρ = op1K (fun d => opSl d lo hi) (deref ρ r) ρ := by
  unfold slR op1K
  rfl
@[simp] theorem r_sl_lst {ds : List D} {lo hi : Option Int} : opSl (.lst ds) lo hi = some (.nw (.lst (cutD ds lo hi))) := rfl
@[simp] theorem r_sl_tup {ds : List D} {lo hi : Option Int} : opSl (.tup ds) lo hi = some (.val (.tup (cutD ds lo hi))) := rfl
@[simp] theorem r_sl_scr {ns : List Int} {lo hi : Option Int} : opSl (.scr ns) lo hi = some (.nw (.lst (cutD (ns.map .int) lo hi))) := rfl
theorem r_sl_str {z : Str} {lo hi : Option Int} (h : z.length ≤ sizeLine) : opSl (.str z) lo hi = some (.val (.str (L2.cutS z lo hi))) := by
  show (if z.length ≤ sizeLine then vS (L2.cutS z lo hi) else none) = _
  rw [if_pos h]; rfl
@[simp] theorem x_fmt : eFmt f ρ = (f ρ).and (fun a => opE1 fmtD a) := rfl
theorem r_fmtS {y : Str} (h : y.length ≤ sizeLine) : fmtD (.str y) = some (.val (.str y)) := by
  show (if y.length ≤ sizeLine then vS y else none) = _
  rw [if_pos h]; rfl
theorem r_fmtI {i : Int} (h : i.natAbs.log2 < 1920) : fmtD (.int i) = some (.val (.str (toString i))) := by
  show (if i.natAbs.log2 < 1920 then vS (toString i) else none) = _
  rw [if_pos h]; rfl
theorem r_strI {i : Int} (h : i.natAbs.log2 < 1920) : cStr [.int i] = some (.val (.str (toString i))) := by
  show (if i.natAbs.log2 < 1920 then vS (toString i) else none) = _
  rw [if_pos h]; rfl
@[simp] theorem x_js_nil {acc : Str} : eJs [] acc ρ = .ok (.val (.str acc)) ρ := rfl
@[simp] theorem x_js_cons {fs : List (M R)} {acc : Str} : eJs (f :: fs) acc ρ = (f ρ).and (joinR (eJs fs) acc) := rfl
theorem x_joinR {k : Str → M R} {acc y : Str} (h : (acc ++ y).length ≤ sizeLine) : joinR k acc (.val (.str y)) ρ = k (acc ++ y) ρ := by
  show (if (acc ++ y).length ≤ sizeLine then k (acc ++ y) else fun _ => .bad) ρ = _
  rw [if_pos h]
@[simp] theorem x_isi {n : String} : eIsi n f ρ = (f ρ).and (isiR n) := rfl
def isiK (n : String) (ρ : Ro) (x : Option D) : Res R := match x.bind (isD n) with
  | some b => .ok (.val (.bl b)) ρ
  | none => .bad
@[simp] theorem x_isiR {n : String} {r : R} : isiR n r ρ = isiK n ρ (deref ρ r) := rfl
theorem isiK_s {n : String} {d : D} {b : Bool} (h : isD n d = some b) : isiK n ρ (some d) = .ok (.val (.bl b)) ρ := by
  show (match isD n d with
    | some b => Res.ok (R.val (.bl b)) ρ
    | none => Res.bad) = _
  rw [h]
def augK (i : Nat) (op : D → D → Option R) (f : M R) (ρ : Ro) : Option Sl → Out
  | some (.fz d) => (f ρ).andS (augR' op i d)
  | _ => .bad
@[simp] theorem augK_s {i : Nat} {op : D → D → Option R} {d : D} : augK i op f ρ (some (.fz d)) = (f ρ).andS (augR' op i d) := rfl
@[simp] theorem x_aug {i : Nat} {op : D → D → Option R} : sAug i op f ρ = augK i op f ρ (ρ[i]?) := by
  unfold sAug augK
  rfl
def augO (i : Nat) (ρ : Ro) : Option R → Out
  | some (.val e) => .nx (ρ.set i (.fz e))
  | _ => .bad
@[simp] theorem augO_s {i : Nat} {e : D} : augO i ρ (some (.val e)) = .nx (ρ.set i (.fz e)) := rfl
@[simp] theorem x_augR {i : Nat} {op : D → D → Option R} {d : D} {r : R} : augR' op i d r ρ = if okS (ρ[i]?) = true then augO i ρ ((deref ρ r).bind (op d)) else .bad := by
  unfold augR' augO
  rw [okSet_eq]
  all_goals
    cases (deref ρ r).bind (op d) with
    | none => rfl
    | some x => cases x <;> rfl
@[simp] theorem r_ipI {i j : Int} : ipAdd (.int i) (.int j) = some (.val (.int (i + j))) := rfl
end
end DL
namespace DL
theorem fin_seq {a ρ ρ' : Ro} {s t : S} {r : Res R} (h : s ρ = .nx ρ') (k : finK a (t ρ') = r) : finK a (sSeq s t ρ) = r := by rw [x_seq, h, oand_nx]; exact k
theorem seq_nx {ρ ρ' : Ro} {s t : S} {o : Out} (h : s ρ = .nx ρ') (k : t ρ' = o) : sSeq s t ρ = o := by rw [x_seq, h, oand_nx]; exact k
end DL

/-! K3d: the denotations. -/
namespace DL
open PySem PySem.Spec PyProof.Rows L2
/-! ## the denotations -/
def K_RESERVED : List D := [.str "after", .str "all", .str "and", .str "arrow", .str "boot", .str "branch", .str "choose", .str "deep", .str "defers", .str "do", .str "end", .str "entry", .str "events", .str "exit", .str "false", .str "feed", .str "from", .str "hears", .str "if", .str "in", .str "inner", .str "is", .str "keep", .str "leaf", .str "none", .str "not", .str "on", .str "one", .str "or", .str "outer", .str "part", .str "queue", .str "recall", .str "shallow", .str "start", .str "tell", .str "tells", .str "to", .str "true", .str "use", .str "value", .str "whole", .str "words"]
/-- _law_pool: slots 0 script, 1 hand, 2 at, 3 cell, 4 size, 5 low, 6 k -/
noncomputable def b1__law_pool : S :=
  (sSeq (sAsg 5 (eBin opMod (eCallB cInt (eCons (eBin opAdd (eBin opAdd (eBin opAdd (eBin opMulA (eVar 5) (eVar 5)) (eBin opMulA (eC (.int 48271)) (eVar 6))) (eVar 2)) (eC (.int 5))) eNil)) (eC (.int 2147483629))))
  (sAsg 4 (eBin opAdd (eBin opMulA (eVar 4) (eC (.int 2147483629))) (eVar 5))))
theorem x_b1__law_pool {ρ : Ro} : b1__law_pool ρ = (sSeq (sAsg 5 (eBin opMod (eCallB cInt (eCons (eBin opAdd (eBin opAdd (eBin opAdd (eBin opMulA (eVar 5) (eVar 5)) (eBin opMulA (eC (.int 48271)) (eVar 6))) (eVar 2)) (eC (.int 5))) eNil)) (eC (.int 2147483629))))
  (sAsg 4 (eBin opAdd (eBin opMulA (eVar 4) (eC (.int 2147483629))) (eVar 5)))) ρ := rfl
noncomputable def b2__law_pool : S :=
  (sSeq (sAsg 4 (eCallB cAbs (eCons (eCallB cInt (eCons (eVar 3) eNil)) eNil)))
  (sSeq (sIf (eBool (eBin opLt (eVar 4) (eBin opPow (eC (.int 10)) (eC (.int 18))))) (sSeq (sAsg 5 (eBin opMod (eCallB cInt (eCons (eBin opAdd (eBin opMulA (eBin opAdd (eVar 4) (eC (.int 7))) (eC (.int 1103515245))) (eBin opMulA (eVar 2) (eC (.int 905842137)))) eNil)) (eC (.int 2147483647))))
  (sSeq (sAsg 4 (eVar 5))
  (sFor (itRange (eCons (eC (.int 7)) eNil)) (tgName 6) b1__law_pool))) sNext)
  (sExpr (eMeth "list" 1 moAppend (eCons (eBin opMod (eCallB cInt (eCons (eVar 4) eNil)) (eBin opPow (eBin opPow (eC (.int 10)) (eC (.int 60))) (eC (.int 10)))) eNil)))))
theorem x_b2__law_pool {ρ : Ro} : b2__law_pool ρ = (sSeq (sAsg 4 (eCallB cAbs (eCons (eCallB cInt (eCons (eVar 3) eNil)) eNil)))
  (sSeq (sIf (eBool (eBin opLt (eVar 4) (eBin opPow (eC (.int 10)) (eC (.int 18))))) (sSeq (sAsg 5 (eBin opMod (eCallB cInt (eCons (eBin opAdd (eBin opMulA (eBin opAdd (eVar 4) (eC (.int 7))) (eC (.int 1103515245))) (eBin opMulA (eVar 2) (eC (.int 905842137)))) eNil)) (eC (.int 2147483647))))
  (sSeq (sAsg 4 (eVar 5))
  (sFor (itRange (eCons (eC (.int 7)) eNil)) (tgName 6) b1__law_pool))) sNext)
  (sExpr (eMeth "list" 1 moAppend (eCons (eBin opMod (eCallB cInt (eCons (eVar 4) eNil)) (eBin opPow (eBin opPow (eC (.int 10)) (eC (.int 60))) (eC (.int 10)))) eNil))))) ρ := rfl
noncomputable def d__law_pool : S :=
  (sSeq (sAsg 1 (eLst eNil))
  (sSeq (sFor (itEnum (itE (eSl (eVar 0) eNoP (eP (eC (.int 63)))))) (tgTup 2 (tgCons (tgName 2) (tgCons (tgName 3) tgNil))) b2__law_pool)
  (sRet (eBin opAdd (eVar 1) (eLst (eCons (eC (.int 0)) eNil))))))
noncomputable def F__law_pool : Ro → Res R := runF 6 d__law_pool
/-- _law_reserved: slots 0 words -/
noncomputable def d__law_reserved : S :=
  (sSeq (sAsg 0 (eC (.str "after all and arrow boot branch choose deep defers do end entry events exit false feed")))
  (sSeq (sAsg 0 (eBin opAdd (eVar 0) (eC (.str " from hears if in inner is keep leaf none not on one or outer part queue recall"))))
  (sSeq (sAsg 0 (eBin opAdd (eVar 0) (eC (.str " shallow start tell tells to true use value whole words"))))
  (sRet (eMS mSplit (eVar 0) (eCons (eC (.str " ")) eNil))))))
noncomputable def F__law_reserved : Ro → Res R := runF 1 d__law_reserved
/-- _law_fixed: slots 0 rows, 1 word, 2 many -/
noncomputable def e1__law_fixed : M R :=
  (eMS mJoin (eC (.str ".")) (eCons (eBin opMulA (eLst (eCons (eC (.str "abcdefghijk9")) eNil)) (eVar 2)) eNil))
theorem x_e1__law_fixed {ρ : Ro} : e1__law_fixed ρ = (eMS mJoin (eC (.str ".")) (eCons (eBin opMulA (eLst (eCons (eC (.str "abcdefghijk9")) eNil)) (eVar 2)) eNil)) ρ := rfl
noncomputable def b2__law_fixed : S :=
  (sSeq (sAsg 0 (eBin opAdd (eVar 0) (eLst (eCons (eVar 1) (eCons (eBin opAdd (eVar 1) (eC (.str "2"))) (eCons (eBin opAdd (eVar 1) (eC (.str "x"))) (eCons (eBin opAdd (eC (.str "a.")) (eVar 1)) eNil)))))))
  (sAsg 0 (eBin opAdd (eVar 0) (eLst (eCons (eBin opAdd (eVar 1) (eC (.str ".a"))) (eCons (eBin opAdd (eVar 1) (eC (.str "."))) eNil))))))
theorem x_b2__law_fixed {ρ : Ro} : b2__law_fixed ρ = (sSeq (sAsg 0 (eBin opAdd (eVar 0) (eLst (eCons (eVar 1) (eCons (eBin opAdd (eVar 1) (eC (.str "2"))) (eCons (eBin opAdd (eVar 1) (eC (.str "x"))) (eCons (eBin opAdd (eC (.str "a.")) (eVar 1)) eNil)))))))
  (sAsg 0 (eBin opAdd (eVar 0) (eLst (eCons (eBin opAdd (eVar 1) (eC (.str ".a"))) (eCons (eBin opAdd (eVar 1) (eC (.str "."))) eNil)))))) ρ := rfl
noncomputable def d__law_fixed : S :=
  (sSeq (sAsg 0 (eLst (eCons (eC (.str "")) (eCons (eC (.str "a")) (eCons (eC (.str "z9")) (eCons (eC (.str "a1b2")) (eCons (eC (.str "1")) (eCons (eC (.str "9a")) (eCons (eC (.str "A")) (eCons (eC (.str "aB")) (eCons (eC (.str "a ")) (eCons (eC (.str " a")) (eCons (eC (.str "a\n")) (eCons (eC (.str "\na")) (eCons (eC (.str "a_b")) (eCons (eC (.str "a-b")) eNil))))))))))))))))
  (sSeq (sAsg 0 (eBin opAdd (eVar 0) (eLst (eCons (eC (.str ".")) (eCons (eC (.str "a.")) (eCons (eC (.str ".a")) (eCons (eC (.str "a..b")) (eCons (eC (.str "a.b")) (eCons (eC (.str "a.in")) (eCons (eC (.str "in.a")) (eCons (eC (.str "a.b1.c22")) (eCons (eC (.str "a.1")) (eCons (eC (.str "a. b")) (eCons (eC (.str "a.B")) eNil))))))))))))))
  (sSeq (sAsg 0 (eBin opAdd (eVar 0) (eLst (eCons (eC (.str "any")) (eCons (eC (.str "tick")) (eCons (eC (.str "event")) (eCons (eC (.str "word")) (eCons (eC (.str "set")) (eCons (eC (.str "le")) (eCons (eC (.str "eq")) (eCons (eC (.str "uses")) (eCons (eC (.str "hear")) (eCons (eC (.str "fed")) (eCons (eC (.str "did")) eNil))))))))))))))
  (sSeq (sAsg 0 (eBin opAdd (eVar 0) (eLst (eCons (eC (.str "abcdefghijkl")) (eCons (eC (.str "abcdefghijklm")) (eCons (eC (.str "q234567890ab")) (eCons (eC (.str "q234567890abc")) eNil)))))))
  (sSeq (sAsg 0 (eBin opAdd (eVar 0) (eLst (eCons (eC (.str "abcdefghijkl.a")) (eCons (eC (.str "a.abcdefghijklm")) (eCons (eMS mJoin (eC (.str ".")) (eCons (eBin opMulA (eLst (eCons (eC (.str "b")) eNil)) (eC (.int 41))) eNil)) eNil))))))
  (sSeq (sAsg 0 (eBin opAdd (eVar 0) (eComp (itRange (eCons (eC (.int 39)) (eCons (eC (.int 43)) eNil))) (tgName 2) eYes e1__law_fixed (([("many", 2)] : List (Str × Nat)).map (·.2)))))
  (sSeq (sFor (itE (eCall F__law_reserved eNil)) (tgName 1) b2__law_fixed)
  (sRet (eVar 0)))))))))
noncomputable def F__law_fixed : Ro → Res R := runF 3 d__law_fixed
/-- _law_right: slots 0 answer, 1 due -/
noncomputable def d__law_right : S :=
  (sRet (eIf (eTest (eVar 1)) (eBin opIs (eVar 0) (eC (.bl true))) (eBin opIs (eVar 0) (eC (.bl false)))))
noncomputable def F__law_right : Ro → Res R := runF 0 d__law_right
/-- _law_is_name: slots 0 text, 1 at, 2 sign -/
noncomputable def b1__law_is_name : S :=
  (sSeq (sIf (eBool (eBin opIn (eVar 2) (eC (.str "abcdefghijklmnopqrstuvwxyz")))) sCnt sNext)
  (sIf (eOr (eBool (eBin opEq (eVar 1) (eC (.int 0)))) (eBool (eBin opNotIn (eVar 2) (eC (.str "0123456789"))))) (sRet (eC (.bl false))) sNext))
theorem x_b1__law_is_name {ρ : Ro} : b1__law_is_name ρ = (sSeq (sIf (eBool (eBin opIn (eVar 2) (eC (.str "abcdefghijklmnopqrstuvwxyz")))) sCnt sNext)
  (sIf (eOr (eBool (eBin opEq (eVar 1) (eC (.int 0)))) (eBool (eBin opNotIn (eVar 2) (eC (.str "0123456789"))))) (sRet (eC (.bl false))) sNext)) ρ := rfl
noncomputable def d__law_is_name : S :=
  (sSeq (sIf (eOr (eNot (eBool (eChain opLe opLe (eC (.int 1)) (eCallB cLen (eCons (eVar 0) eNil)) (eC (.int 12))))) (eBool (eBin opIn (eVar 0) (eCall F__law_reserved eNil)))) (sRet (eC (.bl false))) sNext)
  (sSeq (sFor (itEnum (itN 0)) (tgTup 2 (tgCons (tgName 1) (tgCons (tgName 2) tgNil))) b1__law_is_name)
  (sRet (eC (.bl true)))))
noncomputable def F__law_is_name : Ro → Res R := runF 2 d__law_is_name
/-- is_name: slots 0 text -/
noncomputable def d_is_name : S :=
  (sSeq (sIf (eOr (eNot (eBool (eChain opLe opLe (eC (.int 1)) (eCallB cLen (eCons (eVar 0) eNil)) (eC (.int 12))))) (eOr (eNot (eTest (eMS (mS0 fun z => .bl (Txt.isascii z)) (eVar 0) eNil))) (eNot (eTest (eMS (mS0 fun z => .bl (Txt.isalpha z)) (eBin opIx (eVar 0) (eC (.int 0))) eNil))))) (sRet (eC (.bl false))) sNext)
  (sRet (eIf (eBool (eMS (mS0 fun z => .bl (Txt.isalnum z)) (eVar 0) eNil)) (eIf (eBool (eMS (mS0 fun z => .bl (Txt.islower z)) (eVar 0) eNil)) (eBin opNotIn (eVar 0) (eC (.tup K_RESERVED))) (eC (.bl false))) (eC (.bl false)))))
noncomputable def F_is_name : Ro → Res R := runF 0 d_is_name
/-- _law_is_long: slots 0 text, 1 parts, 2 part -/
noncomputable def e1__law_is_long : M R :=
  (eCall F__law_is_name (eCons (eVar 2) eNil))
theorem x_e1__law_is_long {ρ : Ro} : e1__law_is_long ρ = (eCall F__law_is_name (eCons (eVar 2) eNil)) ρ := rfl
noncomputable def d__law_is_long : S :=
  (sSeq (sAsg 1 (eMS mSplit (eVar 0) (eCons (eC (.str ".")) eNil)))
  (sRet (eIf (eBool (eBin opLe (eCallB cLen (eCons (eVar 1) eNil)) (eC (.int 40)))) (eCallB cAll (eCons (eComp (itN 1) (tgName 2) eYes e1__law_is_long (([("part", 2)] : List (Str × Nat)).map (·.2))) eNil)) (eC (.bl false)))))
noncomputable def F__law_is_long : Ro → Res R := runF 2 d__law_is_long
/-- is_long_name: slots 0 text, 1 pieces, 2 piece -/
noncomputable def e1_is_long_name : M R :=
  (eCall F_is_name (eCons (eVar 2) eNil))
theorem x_e1_is_long_name {ρ : Ro} : e1_is_long_name ρ = (eCall F_is_name (eCons (eVar 2) eNil)) ρ := rfl
noncomputable def d_is_long_name : S :=
  (sSeq (sAsg 1 (eMS mSplit (eVar 0) (eCons (eC (.str ".")) eNil)))
  (sSeq (sIf (eBool (eBin opGt (eCallB cLen (eCons (eVar 1) eNil)) (eC (.int 40)))) (sRet (eC (.bl false))) sNext)
  (sRet (eCallB cAll (eCons (eComp (itN 1) (tgName 2) eYes e1_is_long_name (([("piece", 2)] : List (Str × Nat)).map (·.2))) eNil)))))
noncomputable def F_is_long_name : Ro → Res R := runF 2 d_is_long_name
/-- _law_told: slots 0 text -/
noncomputable def d__law_told : S :=
  (sSeq (sIf (eNot (eTest (eCall F__law_right (eCons (eCall F_is_name (eCons (eVar 0) eNil)) (eCons (eCall F__law_is_name (eCons (eVar 0) eNil)) eNil))))) (sRet (eC (.bl false))) sNext)
  (sRet (eCall F__law_right (eCons (eCall F_is_long_name (eCons (eVar 0) eNil)) (eCons (eCall F__law_is_long (eCons (eVar 0) eNil)) eNil)))))
noncomputable def F__law_told : Ro → Res R := runF 0 d__law_told
/-- _law_draw: slots 0 hand, 1 many, 2 found -/
noncomputable def b1__law_draw : S :=
  (sExpr (eMeth "list" 0 moPopAt (eCons (eC (.int 0)) eNil)))
theorem x_b1__law_draw {ρ : Ro} : b1__law_draw ρ = (sExpr (eMeth "list" 0 moPopAt (eCons (eC (.int 0)) eNil))) ρ := rfl
noncomputable def t2__law_draw : M Bool :=
  (eAnd (eBool (eBin opGt (eCallB cLen (eCons (eVar 0) eNil)) (eC (.int 1)))) (eBool (eBin opEq (eBin opIx (eVar 0) (eC (.int 0))) (eC (.int 0)))))
theorem x_t2__law_draw {ρ : Ro} : t2__law_draw ρ = (eAnd (eBool (eBin opGt (eCallB cLen (eCons (eVar 0) eNil)) (eC (.int 1)))) (eBool (eBin opEq (eBin opIx (eVar 0) (eC (.int 0))) (eC (.int 0))))) ρ := rfl
noncomputable def d__law_draw : S :=
  (sSeq (sWhile t2__law_draw b1__law_draw)
  (sSeq (sAsg 2 (eBin opMod (eCallB cInt (eCons (eBin opIx (eVar 0) (eC (.int 0))) eNil)) (eVar 1)))
  (sSeq (sSet 0 (eBin opFdiv (eBin opIx (eVar 0) (eC (.int 0))) (eVar 1)) (eC (.int 0)))
  (sRet (eVar 2)))))
noncomputable def F__law_draw : Ro → Res R := runF 1 d__law_draw
/-- _law_named: slots 0 hand, 1 most, 2 letters, 3 text, 4 many, 5 k -/
noncomputable def b1__law_named : S :=
  (sAsg 3 (eBin opAdd (eVar 3) (eBin opIx (eBin opAdd (eVar 2) (eC (.str "0123456789"))) (eCall F__law_draw (eCons (eVar 0) (eCons (eC (.int 36)) eNil))))))
theorem x_b1__law_named {ρ : Ro} : b1__law_named ρ = (sAsg 3 (eBin opAdd (eVar 3) (eBin opIx (eBin opAdd (eVar 2) (eC (.str "0123456789"))) (eCall F__law_draw (eCons (eVar 0) (eCons (eC (.int 36)) eNil)))))) ρ := rfl
noncomputable def d__law_named : S :=
  (sSeq (sAsg 2 (eC (.str "abcdefghijklmnopqrstuvwxyz")))
  (sSeq (sAsg 3 (eBin opIx (eVar 2) (eCall F__law_draw (eCons (eVar 0) (eCons (eC (.int 26)) eNil)))))
  (sSeq (sAsg 4 (eCall F__law_draw (eCons (eVar 0) (eCons (eC (.int 4)) eNil))))
  (sSeq (sIf (eBool (eBin opEq (eVar 4) (eC (.int 3)))) (sAsg 4 (eCall F__law_draw (eCons (eVar 0) (eCons (eVar 1) eNil)))) sNext)
  (sSeq (sFor (itRange (eCons (eVar 4) eNil)) (tgName 5) b1__law_named)
  (sRet (eBin opAdd (eVar 3) (eBin opMulA (eC (.str "x")) (eCallB cInt (eCons (eBin opIn (eVar 3) (eCall F__law_reserved eNil)) eNil))))))))))
noncomputable def F__law_named : Ro → Res R := runF 4 d__law_named
/-- _law_alphabet: slots 0 signs -/
noncomputable def d__law_alphabet : S :=
  (sSeq (sAsg 0 (eC (.str " !\"#$&'()*+,-./0123456789:;<=>?@ABCDEFGHIJKLMNOPQRSTUVWXYZ[\\]^_`")))
  (sRet (eBin opAdd (eVar 0) (eC (.str "abcdefghijklmnopqrstuvwxyz{|}~\n")))))
noncomputable def F__law_alphabet : Ro → Res R := runF 1 d__law_alphabet
/-- _law_bent: slots 0 hand, 1 text, 2 place, 3 sign, 4 way -/
noncomputable def d__law_bent : S :=
  (sSeq (sAsg 2 (eCall F__law_draw (eCons (eVar 0) (eCons (eBin opAdd (eCallB cLen (eCons (eVar 1) eNil)) (eC (.int 1))) eNil))))
  (sSeq (sAsg 3 (eBin opIx (eCall F__law_alphabet eNil) (eCall F__law_draw (eCons (eVar 0) (eCons (eC (.int 95)) eNil)))))
  (sSeq (sAsg 4 (eCall F__law_draw (eCons (eVar 0) (eCons (eC (.int 3)) eNil))))
  (sSeq (sIf (eBool (eBin opEq (eVar 4) (eC (.int 0)))) (sRet (eBin opAdd (eBin opAdd (eSl (eVar 1) eNoP (eP (eVar 2))) (eVar 3)) (eSl (eVar 1) (eP (eVar 2)) eNoP))) sNext)
  (sSeq (sIf (eBool (eBin opEq (eVar 4) (eC (.int 1)))) (sRet (eBin opAdd (eSl (eVar 1) eNoP (eP (eVar 2))) (eSl (eVar 1) (eP (eBin opAdd (eVar 2) (eC (.int 1)))) eNoP))) sNext)
  (sRet (eBin opAdd (eBin opAdd (eSl (eVar 1) eNoP (eP (eVar 2))) (eVar 3)) (eSl (eVar 1) (eP (eBin opAdd (eVar 2) (eC (.int 1)))) eNoP))))))))
noncomputable def F__law_bent : Ro → Res R := runF 3 d__law_bent
/-- _law_joined: slots 0 hand, 1 many, 2 most, 3 parts, 4 place, 5 k -/
noncomputable def e1__law_joined : M R :=
  (eCall F__law_named (eCons (eVar 0) (eCons (eVar 2) eNil)))
theorem x_e1__law_joined {ρ : Ro} : e1__law_joined ρ = (eCall F__law_named (eCons (eVar 0) (eCons (eVar 2) eNil))) ρ := rfl
noncomputable def d__law_joined : S :=
  (sSeq (sAsg 1 (eBin opIx (eLst (eCons (eC (.int 1)) (eCons (eC (.int 2)) (eCons (eC (.int 3)) (eCons (eC (.int 4)) (eCons (eC (.int 39)) (eCons (eC (.int 40)) (eCons (eC (.int 41)) (eCons (eC (.int 42)) eNil))))))))) (eCall F__law_draw (eCons (eVar 0) (eCons (eC (.int 8)) eNil)))))
  (sSeq (sAsg 2 (eIf (eBool (eBin opGt (eVar 1) (eC (.int 4)))) (eC (.int 2)) (eC (.int 12))))
  (sSeq (sAsg 3 (eComp (itRange (eCons (eVar 1) eNil)) (tgName 5) eYes e1__law_joined (([("k", 5)] : List (Str × Nat)).map (·.2))))
  (sSeq (sIf (eBool (eBin opEq (eCall F__law_draw (eCons (eVar 0) (eCons (eC (.int 2)) eNil))) (eC (.int 1)))) (sSeq (sAsg 4 (eCall F__law_draw (eCons (eVar 0) (eCons (eVar 1) eNil))))
  (sSet 3 (eCall F__law_bent (eCons (eVar 0) (eCons (eBin opIx (eVar 3) (eVar 4)) eNil))) (eVar 4))) sNext)
  (sRet (eMS mJoin (eC (.str ".")) (eCons (eVar 3) eNil)))))))
noncomputable def F__law_joined : Ro → Res R := runF 5 d__law_joined
/-- _law_any_text: slots 0 hand, 1 way, 2 words, 3 signs, 4 text, 5 at -/
noncomputable def b1__law_any_text : S :=
  (sAsg 4 (eBin opAdd (eVar 4) (eBin opIx (eVar 3) (eCall F__law_draw (eCons (eVar 0) (eCons (eCallB cLen (eCons (eVar 3) eNil)) eNil))))))
theorem x_b1__law_any_text {ρ : Ro} : b1__law_any_text ρ = (sAsg 4 (eBin opAdd (eVar 4) (eBin opIx (eVar 3) (eCall F__law_draw (eCons (eVar 0) (eCons (eCallB cLen (eCons (eVar 3) eNil)) eNil)))))) ρ := rfl
noncomputable def d__law_any_text : S :=
  (sSeq (sAsg 1 (eCall F__law_draw (eCons (eVar 0) (eCons (eC (.int 5)) eNil))))
  (sSeq (sIf (eBool (eBin opEq (eVar 1) (eC (.int 4)))) (sRet (eCall F__law_joined (eCons (eVar 0) eNil))) sNext)
  (sSeq (sIf (eBool (eBin opEq (eVar 1) (eC (.int 3)))) (sSeq (sAsg 2 (eCall F__law_reserved eNil))
  (sRet (eCall F__law_bent (eCons (eVar 0) (eCons (eBin opIx (eVar 2) (eCall F__law_draw (eCons (eVar 0) (eCons (eC (.int 43)) eNil)))) eNil))))) sNext)
  (sSeq (sIf (eBool (eBin opEq (eVar 1) (eC (.int 2)))) (sRet (eCall F__law_bent (eCons (eVar 0) (eCons (eCall F__law_named (eCons (eVar 0) (eCons (eC (.int 12)) eNil))) eNil)))) sNext)
  (sSeq (sAsg 3 (eCall F__law_alphabet eNil))
  (sSeq (sIf (eBool (eBin opEq (eVar 1) (eC (.int 0)))) (sAsg 3 (eC (.str "abcdefghijklmnopqrstuvwxyz0123456789"))) sNext)
  (sSeq (sAsg 4 (eC (.str "")))
  (sSeq (sFor (itRange (eCons (eCall F__law_draw (eCons (eVar 0) (eCons (eC (.int 15)) eNil))) eNil)) (tgName 5) b1__law_any_text)
  (sRet (eVar 4))))))))))
noncomputable def F__law_any_text : Ro → Res R := runF 5 d__law_any_text
/-- _law_taken: slots 0 hand, 1 name, 2 run, 3 holes, 4 numbers, 5 held, 6 others, 7 cut, 8 k -/
noncomputable def e1__law_taken : M R :=
  (eCall F__law_draw (eCons (eVar 0) (eCons (eBin opAdd (eVar 2) (eC (.int 2))) eNil)))
theorem x_e1__law_taken {ρ : Ro} : e1__law_taken ρ = (eCall F__law_draw (eCons (eVar 0) (eCons (eBin opAdd (eVar 2) (eC (.int 2))) eNil))) ρ := rfl
noncomputable def e2__law_taken : M R :=
  (eVar 8)
theorem x_e2__law_taken {ρ : Ro} : e2__law_taken ρ = (eVar 8) ρ := rfl
noncomputable def c3__law_taken : M Bool :=
  (eBool (eBin opNotIn (eVar 8) (eVar 3)))
theorem x_c3__law_taken {ρ : Ro} : c3__law_taken ρ = (eBool (eBin opNotIn (eVar 8) (eVar 3))) ρ := rfl
noncomputable def e4__law_taken : M R :=
  (eBin opAdd (eVar 1) (eBin opMulA (eCallB cStr (eCons (eVar 8) eNil)) (eCallB cInt (eCons (eBin opGt (eVar 8) (eC (.int 1))) eNil))))
theorem x_e4__law_taken {ρ : Ro} : e4__law_taken ρ = (eBin opAdd (eVar 1) (eBin opMulA (eCallB cStr (eCons (eVar 8) eNil)) (eCallB cInt (eCons (eBin opGt (eVar 8) (eC (.int 1))) eNil)))) ρ := rfl
noncomputable def d__law_taken : S :=
  (sSeq (sAsg 2 (eCall F__law_draw (eCons (eVar 0) (eCons (eC (.int 12)) eNil))))
  (sSeq (sIf (eBool (eBin opEq (eCall F__law_draw (eCons (eVar 0) (eCons (eC (.int 8)) eNil))) (eC (.int 7)))) (sAsg 2 (eBin opAdd (eC (.int 100)) (eCall F__law_draw (eCons (eVar 0) (eCons (eC (.int 35)) eNil))))) sNext)
  (sSeq (sAsg 3 (eComp (itRange (eCons (eCall F__law_draw (eCons (eVar 0) (eCons (eC (.int 4)) eNil))) eNil)) (tgName 8) eYes e1__law_taken (([("k", 8)] : List (Str × Nat)).map (·.2))))
  (sSeq (sAsg 4 (eComp (itRange (eCons (eC (.int 1)) (eCons (eBin opAdd (eVar 2) (eC (.int 1))) eNil))) (tgName 8) c3__law_taken e2__law_taken (([("k", 8)] : List (Str × Nat)).map (·.2))))
  (sSeq (sAsg 5 (eComp (itN 4) (tgName 8) eYes e4__law_taken (([("k", 8)] : List (Str × Nat)).map (·.2))))
  (sSeq (sAsg 6 (eLst (eCons (eBin opAdd (eVar 1) (eC (.str "1"))) (eCons (eBin opAdd (eVar 1) (eC (.str "0"))) (eCons (eBin opAdd (eVar 1) (eC (.str "02"))) eNil)))))
  (sSeq (sAsg 6 (eBin opAdd (eVar 6) (eLst (eCons (eBin opAdd (eC (.str "z")) (eVar 1)) (eCons (eBin opAdd (eVar 1) (eC (.str "x"))) eNil)))))
  (sSeq (sAsg 5 (eBin opAdd (eVar 5) (eSl (eVar 6) eNoP (eP (eCall F__law_draw (eCons (eVar 0) (eCons (eC (.int 6)) eNil)))))))
  (sSeq (sAsg 5 (eBin opAdd (eVar 5) (eSl (eVar 5) eNoP (eP (eCall F__law_draw (eCons (eVar 0) (eCons (eC (.int 3)) eNil)))))))
  (sSeq (sAsg 7 (eCall F__law_draw (eCons (eVar 0) (eCons (eBin opAdd (eCallB cLen (eCons (eVar 5) eNil)) (eC (.int 1))) eNil))))
  (sRet (eBin opAdd (eSl (eVar 5) (eP (eVar 7)) eNoP) (eSl (eVar 5) eNoP (eP (eVar 7)))))))))))))))
noncomputable def F__law_taken : Ro → Res R := runF 7 d__law_taken
/-- _law_free: slots 0 name, 1 held, 2 k, 3 found -/
noncomputable def b1__law_free : S :=
  (sSeq (sAsg 3 (eBin opAdd (eVar 0) (eBin opMulA (eCallB cStr (eCons (eVar 2) eNil)) (eCallB cInt (eCons (eBin opGt (eVar 2) (eC (.int 1))) eNil)))))
  (sIf (eBool (eBin opNotIn (eVar 3) (eVar 1))) (sRet (eVar 3)) sNext))
theorem x_b1__law_free {ρ : Ro} : b1__law_free ρ = (sSeq (sAsg 3 (eBin opAdd (eVar 0) (eBin opMulA (eCallB cStr (eCons (eVar 2) eNil)) (eCallB cInt (eCons (eBin opGt (eVar 2) (eC (.int 1))) eNil)))))
  (sIf (eBool (eBin opNotIn (eVar 3) (eVar 1))) (sRet (eVar 3)) sNext)) ρ := rfl
noncomputable def d__law_free : S :=
  (sSeq (sFor (itRange (eCons (eC (.int 1)) (eCons (eBin opAdd (eCallB cLen (eCons (eVar 1) eNil)) (eC (.int 2))) eNil))) (tgName 2) b1__law_free)
  (sRet (eVar 0)))
noncomputable def F__law_free : Ro → Res R := runF 2 d__law_free
/-- fresh: slots 0 name, 1 taken, 2 known, 3 number, 4 word -/
noncomputable def k1_fresh : M R :=
  (eVar 4)
theorem x_k1_fresh {ρ : Ro} : k1_fresh ρ = (eVar 4) ρ := rfl
noncomputable def e2_fresh : M R :=
  (eC (.bl true))
theorem x_e2_fresh {ρ : Ro} : e2_fresh ρ = (eC (.bl true)) ρ := rfl
noncomputable def b3_fresh : S :=
  (sAug 3 ipAdd (eC (.int 1)))
theorem x_b3_fresh {ρ : Ro} : b3_fresh ρ = (sAug 3 ipAdd (eC (.int 1))) ρ := rfl
noncomputable def t4_fresh : M Bool :=
  (eBool (eBin opIn (eJs [(eFmt (eVar 0)), (eFmt (eVar 3))] Str.empty) (eVar 2)))
theorem x_t4_fresh {ρ : Ro} : t4_fresh ρ = (eBool (eBin opIn (eJs [(eFmt (eVar 0)), (eFmt (eVar 3))] Str.empty) (eVar 2))) ρ := rfl
noncomputable def d_fresh : S :=
  (sSeq (sAsg 2 (eDComp (itN 1) (tgName 4) eYes k1_fresh e2_fresh (([("word", 4)] : List (Str × Nat)).map (·.2))))
  (sSeq (sIf (eBool (eBin opNotIn (eVar 0) (eVar 2))) (sRet (eVar 0)) sNext)
  (sSeq (sAsg 3 (eC (.int 2)))
  (sSeq (sWhile t4_fresh b3_fresh)
  (sRet (eJs [(eFmt (eVar 0)), (eFmt (eVar 3))] Str.empty))))))
noncomputable def F_fresh : Ro → Res R := runF 3 d_fresh
/-- _law_chosen: slots 0 hand, 1 name, 2 held, 3 turn, 4 before, 5 due, 6 found, 7 again -/
noncomputable def b1__law_chosen : S :=
  (sSeq (sAsg 4 (eCallB cList (eCons (eVar 2) eNil)))
  (sSeq (sAsg 5 (eCall F__law_free (eCons (eVar 1) (eCons (eVar 4) eNil))))
  (sSeq (sAsg 6 (eCall F_fresh (eCons (eVar 1) (eCons (eVar 2) eNil))))
  (sSeq (sAsg 7 (eCall F_fresh (eCons (eVar 1) (eCons (eCallB cTuple (eCons (eVar 4) eNil)) eNil))))
  (sSeq (sIf (eOr (eNot (eTest (eIsi "str" (eVar 6)))) (eOr (eBool (eBin opNe (eVar 6) (eVar 5))) (eBool (eBin opNe (eVar 2) (eVar 4))))) (sRet (eC (.bl false))) sNext)
  (sSeq (sIf (eOr (eNot (eTest (eIsi "str" (eVar 7)))) (eBool (eBin opNe (eVar 7) (eVar 5)))) (sRet (eC (.bl false))) sNext)
  (sExpr (eMeth "list" 2 moInsert (eCons (eCall F__law_draw (eCons (eVar 0) (eCons (eBin opAdd (eCallB cLen (eCons (eVar 2) eNil)) (eC (.int 1))) eNil))) (eCons (eVar 5) eNil))))))))))
theorem x_b1__law_chosen {ρ : Ro} : b1__law_chosen ρ = (sSeq (sAsg 4 (eCallB cList (eCons (eVar 2) eNil)))
  (sSeq (sAsg 5 (eCall F__law_free (eCons (eVar 1) (eCons (eVar 4) eNil))))
  (sSeq (sAsg 6 (eCall F_fresh (eCons (eVar 1) (eCons (eVar 2) eNil))))
  (sSeq (sAsg 7 (eCall F_fresh (eCons (eVar 1) (eCons (eCallB cTuple (eCons (eVar 4) eNil)) eNil))))
  (sSeq (sIf (eOr (eNot (eTest (eIsi "str" (eVar 6)))) (eOr (eBool (eBin opNe (eVar 6) (eVar 5))) (eBool (eBin opNe (eVar 2) (eVar 4))))) (sRet (eC (.bl false))) sNext)
  (sSeq (sIf (eOr (eNot (eTest (eIsi "str" (eVar 7)))) (eBool (eBin opNe (eVar 7) (eVar 5)))) (sRet (eC (.bl false))) sNext)
  (sExpr (eMeth "list" 2 moInsert (eCons (eCall F__law_draw (eCons (eVar 0) (eCons (eBin opAdd (eCallB cLen (eCons (eVar 2) eNil)) (eC (.int 1))) eNil))) (eCons (eVar 5) eNil)))))))))) ρ := rfl
noncomputable def d__law_chosen : S :=
  (sSeq (sAsg 1 (eCall F__law_named (eCons (eVar 0) (eCons (eC (.int 8)) eNil))))
  (sSeq (sAsg 2 (eCall F__law_taken (eCons (eVar 0) (eCons (eVar 1) eNil))))
  (sSeq (sFor (itRange (eCons (eC (.int 3)) eNil)) (tgName 3) b1__law_chosen)
  (sSeq (sIf (eOr (eBool (eBin opNe (eCall F_fresh (eCons (eVar 1) (eCons (eLst eNil) eNil))) (eVar 1))) (eBool (eBin opNe (eCall F_fresh (eCons (eVar 1) (eCons (eLst (eCons (eVar 1) eNil)) eNil))) (eBin opAdd (eVar 1) (eC (.str "2")))))) (sRet (eC (.bl false))) sNext)
  (sRet (eBin opEq (eCall F_fresh (eCons (eVar 1) (eCons (eTup (eCons (eBin opAdd (eVar 1) (eC (.str "2"))) eNil)) eNil))) (eVar 1)))))))
noncomputable def F__law_chosen : Ro → Res R := runF 7 d__law_chosen
/-- law: slots 0 script, 1 hand, 2 text, 3 k -/
noncomputable def b1_law : S :=
  (sIf (eNot (eTest (eCall F__law_told (eCons (eVar 2) eNil)))) (sRet (eC (.bl false))) sNext)
theorem x_b1_law {ρ : Ro} : b1_law ρ = (sIf (eNot (eTest (eCall F__law_told (eCons (eVar 2) eNil)))) (sRet (eC (.bl false))) sNext) ρ := rfl
noncomputable def b2_law : S :=
  (sIf (eNot (eTest (eCall F__law_told (eCons (eCall F__law_any_text (eCons (eVar 1) eNil)) eNil)))) (sRet (eC (.bl false))) sNext)
theorem x_b2_law {ρ : Ro} : b2_law ρ = (sIf (eNot (eTest (eCall F__law_told (eCons (eCall F__law_any_text (eCons (eVar 1) eNil)) eNil)))) (sRet (eC (.bl false))) sNext) ρ := rfl
noncomputable def d_law : S :=
  (sSeq (sAsg 1 (eCall F__law_pool (eCons (eVar 0) eNil)))
  (sSeq (sFor (itE (eCall F__law_fixed eNil)) (tgName 2) b1_law)
  (sSeq (sFor (itRange (eCons (eC (.int 8)) eNil)) (tgName 3) b2_law)
  (sRet (eIf (eBool (eCall F__law_chosen (eCons (eVar 1) eNil))) (eCall F__law_chosen (eCons (eVar 1) eNil)) (eC (.bl false)))))))
noncomputable def F_law : Ro → Res R := runF 3 d_law
end DL

/-! K3w: the walk. -/
namespace DL
open PySem PySem.Spec PyProof.Rows L2
/-! ## the walk -/
def top (i : Nat) : Stmt := PySem.Challenge.pw_chartsrun_k03_names_and_fresh.main.body.getD i (.Pass ⟨0, 0, 0, 0⟩)
structure Tx (K : PySem.W.Frag) (mg : Str → Option Value) : Prop where
  b_abs : mg "abs" = none
  b_all : mg "all" = none
  b_enumerate : mg "enumerate" = none
  b_int : mg "int" = none
  b_isinstance : mg "isinstance" = none
  b_len : mg "len" = none
  b_list : mg "list" = none
  b_range : mg "range" = none
  b_str : mg "str" = none
  b_tuple : mg "tuple" = none
  c_MOST_PIECES : ∃ t, mg "MOST_PIECES" = some (.int (40) t)
  c_MOST_SIGNS : ∃ t, mg "MOST_SIGNS" = some (.int (12) t)
  c_RESERVED : TupK K mg "RESERVED" K_RESERVED
section
variable {P : Program} {w : World} {K : PySem.W.Frag} {mg : Str → Option Value} {base : Heap} {ca : Str → Option Addr}
abbrev st__law_pool : Stmt := top 8
theorem sc__law_pool : FnScope ["script", "hand", "at", "cell", "size", "low", "k"] ["script"] (defScope st__law_pool) := ⟨rfl, rfl, rfl, by decide +kernel, rfl, by decide +kernel, by decide +kernel⟩
theorem ok__law_pool {f : Addr} {fd : FuncData} (T : Tx K mg) (D : DefK K mg "_law_pool" "_law_pool" st__law_pool ["script"] f fd)  : CallD P w K mg base ⟨K, ca⟩ 1 "_law_pool" ["script"] F__law_pool f fd := by
  have SC := sc__law_pool
  refine callD D SC rfl (fun cdv A outer sh H E σ0 W hr pa tk => ?_)
  exact (dss_cons (ds_asg (ps_set (i := 1) SC.nd rfl (Or.inl rfl) (de_lst da_nil)))
    (dss_cons (ds_for pa rfl (di_enum rfl (by rfl) T.b_enumerate (dsr_E (de_sl rfl (de_var (pv 0)) do_none (do_some de_int))) all_E) (dg_tup rfl rfl (dg_cons (dg_of (pg_name (i := 2) SC.nd rfl (Or.inl rfl))) (dg_cons (dg_of (pg_name (i := 3) SC.nd rfl (Or.inl rfl))) dg_nil))) (dss_cons (ds_asg (ps_set (i := 4) SC.nd rfl (Or.inl rfl) (de_callB cb_abs (by rfl) T.b_abs bo_abs (da_cons (de_callTy cb_int (by rfl) T.b_int bo_int (da_cons (de_var (pv 3)) da_nil)) da_nil))))
    (dss_cons (ds_if (dt_cmp o_lt (de_var (pv 4)) (de_bin o_pow de_int de_int) (nomark _)) (dss_cons (ds_asg (ps_set (i := 5) SC.nd rfl (Or.inl rfl) (de_bin o_mod (de_callTy cb_int (by rfl) T.b_int bo_int (da_cons (de_bin (o_add rfl) (de_bin o_mulA (de_bin (o_add rfl) (de_var (pv 4)) de_int) de_int) (de_bin o_mulA (de_var (pv 2)) de_int)) da_nil)) de_int)))
    (dss_cons (ds_asg (ps_set (i := 4) SC.nd rfl (Or.inl rfl) (de_var (pv 5))))
    (dss_one (ds_for pa rfl (di_range1 (by rfl) T.b_range (da_cons de_int da_nil) (eCons_len eNil_len)) (dg_of (pg_name (i := 6) SC.nd rfl (Or.inl rfl))) (dss_cons (ds_asg (ps_set (i := 5) SC.nd rfl (Or.inl rfl) (de_bin o_mod (de_callTy cb_int (by rfl) T.b_int bo_int (da_cons (de_bin (o_add rfl) (de_bin (o_add rfl) (de_bin (o_add rfl) (de_bin o_mulA (de_var (pv 5)) (de_var (pv 5))) (de_bin o_mulA de_int (de_var (pv 6)))) (de_var (pv 2))) de_int) da_nil)) de_int)))
    (dss_one (ds_asg (ps_set (i := 4) SC.nd rfl (Or.inl rfl) (de_bin (o_add rfl) (de_bin o_mulA (de_var (pv 4)) de_int) (de_var (pv 5))))))) und_range)))) dss_nil)
    (dss_one (ds_expr (de_meth PySem.F.plainAttrs_list PySem.F.slot_list_append PySem.F.type_list_append (by decide) mo_append (pv 1) (da_cons (de_bin o_mod (de_callTy cb_int (by rfl) T.b_int bo_int (da_cons (de_var (pv 4)) da_nil)) (de_bin o_pow (de_bin o_pow de_int de_int) de_int)) da_nil)))))) (und_enum und_vals))
    (dss_one (ds_ret (de_bin (o_add rfl) (de_var (pv 1)) (de_lst (da_cons de_int da_nil)))))))
abbrev st__law_reserved : Stmt := top 10
theorem sc__law_reserved : FnScope ["words"] [] (defScope st__law_reserved) := ⟨rfl, rfl, rfl, by decide +kernel, rfl, by decide +kernel, by decide +kernel⟩
theorem ok__law_reserved {f : Addr} {fd : FuncData} (T : Tx K mg) (D : DefK K mg "_law_reserved" "_law_reserved" st__law_reserved [] f fd)  : CallD P w K mg base ⟨K, ca⟩ 1 "_law_reserved" [] F__law_reserved f fd := by
  have SC := sc__law_reserved
  refine callD D SC rfl (fun cdv A outer sh H E σ0 W hr pa tk => ?_)
  exact (dss_cons (ds_asg (ps_set (i := 0) SC.nd rfl (Or.inl rfl) de_str))
    (dss_cons (ds_asg (ps_set (i := 0) SC.nd rfl (Or.inl rfl) (de_bin (o_add rfl) (de_var (pv 0)) de_str)))
    (dss_cons (ds_asg (ps_set (i := 0) SC.nd rfl (Or.inl rfl) (de_bin (o_add rfl) (de_var (pv 0)) de_str)))
    (dss_one (ds_ret (de_ms PySem.F.slot_str_split PySem.F.type_str_split mm_split (de_var (pv 0)) (da_cons de_str da_nil)))))))
abbrev st__law_fixed : Stmt := top 20
theorem sc__law_fixed : FnScope ["rows", "word", "many"] [] (defScope st__law_fixed) := ⟨rfl, rfl, rfl, by decide +kernel, rfl, by decide +kernel, by decide +kernel⟩
theorem ok__law_fixed {f : Addr} {fd : FuncData} (T : Tx K mg) (D : DefK K mg "_law_fixed" "_law_fixed" st__law_fixed [] f fd) {f__law_reserved : Addr} {fd__law_reserved : FuncData} (h__law_reserved : CallD P w K mg base ⟨K, ca⟩ 1 "_law_reserved" [] F__law_reserved f__law_reserved fd__law_reserved) : CallD P w K mg base ⟨K, ca⟩ 2 "_law_fixed" [] F__law_fixed f fd := by
  have SC := sc__law_fixed
  refine callD D SC rfl (fun cdv A outer sh H E σ0 W hr pa tk => ?_)
  exact (dss_cons (ds_asg (ps_set (i := 0) SC.nd rfl (Or.inl rfl) (de_lst (da_cons de_str (da_cons de_str (da_cons de_str (da_cons de_str (da_cons de_str (da_cons de_str (da_cons de_str (da_cons de_str (da_cons de_str (da_cons de_str (da_cons de_str (da_cons de_str (da_cons de_str (da_cons de_str da_nil)))))))))))))))))
    (dss_cons (ds_asg (ps_set (i := 0) SC.nd rfl (Or.inl rfl) (de_bin (o_add rfl) (de_var (pv 0)) (de_lst (da_cons de_str (da_cons de_str (da_cons de_str (da_cons de_str (da_cons de_str (da_cons de_str (da_cons de_str (da_cons de_str (da_cons de_str (da_cons de_str (da_cons de_str da_nil)))))))))))))))
    (dss_cons (ds_asg (ps_set (i := 0) SC.nd rfl (Or.inl rfl) (de_bin (o_add rfl) (de_var (pv 0)) (de_lst (da_cons de_str (da_cons de_str (da_cons de_str (da_cons de_str (da_cons de_str (da_cons de_str (da_cons de_str (da_cons de_str (da_cons de_str (da_cons de_str (da_cons de_str da_nil)))))))))))))))
    (dss_cons (ds_asg (ps_set (i := 0) SC.nd rfl (Or.inl rfl) (de_bin (o_add rfl) (de_var (pv 0)) (de_lst (da_cons de_str (da_cons de_str (da_cons de_str (da_cons de_str da_nil))))))))
    (dss_cons (ds_asg (ps_set (i := 0) SC.nd rfl (Or.inl rfl) (de_bin (o_add rfl) (de_var (pv 0)) (de_lst (da_cons de_str (da_cons de_str (da_cons (de_ms PySem.F.slot_str_join PySem.F.type_str_join (mm_join rfl) de_str (da_cons (de_bin o_mulA (de_lst (da_cons de_str da_nil)) de_int) da_nil)) da_nil)))))))
    (dss_cons (ds_asg (ps_set (i := 0) SC.nd rfl (Or.inl rfl) (de_bin (o_add rfl) (de_var (pv 0)) (de_comp rfl SC.nd (di_range2 (by rfl) T.b_range (da_cons de_int (da_cons de_int da_nil)) (eCons_len (eCons_len eNil_len))) (own := ([("many", 2)] : List (Str × Nat))) (blkOk_by (by show blkC ["rows", "word", "many"] (defScope st__law_fixed) _ _ = true; decide +kernel)) und_range (by decide) (fun s H C cl fp => (dg_of (pg_name (i := 2) SC.nd rfl (Or.inl rfl)))) (fun s H C cl fp => dts_nil) (fun s H C cl fp => (de_ms PySem.F.slot_str_join PySem.F.type_str_join (mm_join rfl) de_str (da_cons (de_bin o_mulA (de_lst (da_cons de_str da_nil)) (de_var (pv 2))) da_nil)))))))
    (dss_cons (ds_for pa rfl (di_any rfl (dsr_E (de_callF0 h__law_reserved (hr.mono (by decide)) (by rfl) tk rfl)) all_E) (dg_of (pg_name (i := 1) SC.nd rfl (Or.inl rfl))) (dss_cons (ds_asg (ps_set (i := 0) SC.nd rfl (Or.inl rfl) (de_bin (o_add rfl) (de_var (pv 0)) (de_lst (da_cons (de_var (pv 1)) (da_cons (de_bin (o_add rfl) (de_var (pv 1)) de_str) (da_cons (de_bin (o_add rfl) (de_var (pv 1)) de_str) (da_cons (de_bin (o_add rfl) de_str (de_var (pv 1))) da_nil))))))))
    (dss_one (ds_asg (ps_set (i := 0) SC.nd rfl (Or.inl rfl) (de_bin (o_add rfl) (de_var (pv 0)) (de_lst (da_cons (de_bin (o_add rfl) (de_var (pv 1)) de_str) (da_cons (de_bin (o_add rfl) (de_var (pv 1)) de_str) da_nil)))))))) und_vals)
    (dss_one (ds_ret (de_var (pv 0)))))))))))
abbrev st__law_right : Stmt := top 18
theorem sc__law_right : FnScope ["answer", "due"] ["answer", "due"] (defScope st__law_right) := ⟨rfl, rfl, rfl, by decide +kernel, rfl, by decide +kernel, by decide +kernel⟩
theorem ok__law_right {f : Addr} {fd : FuncData} (T : Tx K mg) (D : DefK K mg "_law_right" "_law_right" st__law_right ["answer", "due"] f fd)  : CallD P w K mg base ⟨K, ca⟩ 1 "_law_right" ["answer", "due"] F__law_right f fd := by
  have SC := sc__law_right
  refine callD D SC rfl (fun cdv A outer sh H E σ0 W hr pa tk => ?_)
  exact (dss_one (ds_ret (de_ifExp (dt_truth rfl (de_var (pv 1))) (de_cmp o_is (de_var (pv 0)) de_bl (nomark _)) (de_cmp o_is (de_var (pv 0)) de_bl (nomark _)))))
abbrev st__law_is_name : Stmt := top 13
theorem sc__law_is_name : FnScope ["text", "at", "sign"] ["text"] (defScope st__law_is_name) := ⟨rfl, rfl, rfl, by decide +kernel, rfl, by decide +kernel, by decide +kernel⟩
theorem ok__law_is_name {f : Addr} {fd : FuncData} (T : Tx K mg) (D : DefK K mg "_law_is_name" "_law_is_name" st__law_is_name ["text"] f fd) {f__law_reserved : Addr} {fd__law_reserved : FuncData} (h__law_reserved : CallD P w K mg base ⟨K, ca⟩ 1 "_law_reserved" [] F__law_reserved f__law_reserved fd__law_reserved) : CallD P w K mg base ⟨K, ca⟩ 2 "_law_is_name" ["text"] F__law_is_name f fd := by
  have SC := sc__law_is_name
  refine callD D SC rfl (fun cdv A outer sh H E σ0 W hr pa tk => ?_)
  exact (dss_cons (ds_if (dt_orW (dt_not (dt_chain o_le o_le de_int (de_callB (cb_len rfl) (by rfl) T.b_len bo_len (da_cons (de_var (pv 0)) da_nil)) de_int)) (dt_or1 (dt_cmp (o_in rfl (u65 hr)) (de_var (pv 0)) (de_callF0 h__law_reserved (hr.mono (by decide)) (by rfl) tk rfl) (by with_unfolding_all rfl)))).pt (dss_one (ds_ret de_bl)) dss_nil)
    (dss_cons (ds_for pa rfl (di_enum rfl (by rfl) T.b_enumerate (dsr_N (pv 0)) all_N) (dg_tup rfl rfl (dg_cons (dg_of (pg_name (i := 1) SC.nd rfl (Or.inl rfl))) (dg_cons (dg_of (pg_name (i := 2) SC.nd rfl (Or.inl rfl))) dg_nil))) (dss_cons (ds_if (dt_cmp (o_in rfl (u65 hr)) (de_var (pv 2)) de_str (by with_unfolding_all rfl)) (dss_one ds_continue) dss_nil)
    (dss_one (ds_if (dt_orW (dt_cmp (o_eq rfl hr.units) (de_var (pv 1)) de_int (nomark _)) (dt_or1 (dt_cmp (o_notin rfl (u65 hr)) (de_var (pv 2)) de_str (by with_unfolding_all rfl)))).pt (dss_one (ds_ret de_bl)) dss_nil))) (und_enum und_name))
    (dss_one (ds_ret de_bl))))
abbrev st_is_name : Stmt := top 4
theorem sc_is_name : FnScope ["text"] ["text"] (defScope st_is_name) := ⟨rfl, rfl, rfl, by decide +kernel, rfl, by decide +kernel, by decide +kernel⟩
theorem ok_is_name {f : Addr} {fd : FuncData} (T : Tx K mg) (D : DefK K mg "is_name" "is_name" st_is_name ["text"] f fd)  : CallD P w K mg base ⟨K, ca⟩ 1 "is_name" ["text"] F_is_name f fd := by
  have SC := sc_is_name
  refine callD D SC rfl (fun cdv A outer sh H E σ0 W hr pa tk => ?_)
  exact (dss_cons (ds_if (dt_orW (dt_not (dt_chain o_le o_le de_int (de_callB (cb_len rfl) (by rfl) T.b_len bo_len (da_cons (de_var (pv 0)) da_nil)) (de_gInt (by rfl) T.c_MOST_SIGNS))) (dt_orW (dt_not (dt_truth rfl (de_ms0 PySem.F.slot_str_isascii PySem.F.type_str_isascii (mm_bl mt_isascii) (de_var (pv 0))))) (dt_or1 (dt_not (dt_truth rfl (de_ms0 PySem.F.slot_str_isalpha PySem.F.type_str_isalpha (mm_bl mt_isalpha) (de_ix rfl (hu_of hr) (de_var (pv 0)) de_int (fun _ _ => rfl)))))))).pt (dss_one (ds_ret de_bl)) dss_nil)
    (dss_one (ds_ret (de_and (de_ms0 PySem.F.slot_str_isalnum PySem.F.type_str_isalnum (mm_bl mt_isalnum) (de_var (pv 0))) (de_and (de_ms0 PySem.F.slot_str_islower PySem.F.type_str_islower (mm_bl mt_islower) (de_var (pv 0))) (de_one (de_cmp (o_notin rfl (u65 hr)) (de_var (pv 0)) (de_gTup rfl (by rfl) T.c_RESERVED) (by with_unfolding_all rfl))))))))
abbrev st__law_is_long : Stmt := top 14
theorem sc__law_is_long : FnScope ["text", "parts", "part"] ["text"] (defScope st__law_is_long) := ⟨rfl, rfl, rfl, by decide +kernel, rfl, by decide +kernel, by decide +kernel⟩
theorem ok__law_is_long {f : Addr} {fd : FuncData} (T : Tx K mg) (D : DefK K mg "_law_is_long" "_law_is_long" st__law_is_long ["text"] f fd) {f__law_is_name : Addr} {fd__law_is_name : FuncData} (h__law_is_name : CallD P w K mg base ⟨K, ca⟩ 2 "_law_is_name" ["text"] F__law_is_name f__law_is_name fd__law_is_name) : CallD P w K mg base ⟨K, ca⟩ 3 "_law_is_long" ["text"] F__law_is_long f fd := by
  have SC := sc__law_is_long
  refine callD D SC rfl (fun cdv A outer sh H E σ0 W hr pa tk => ?_)
  exact (dss_cons (ds_asg (ps_set (i := 1) SC.nd rfl (Or.inl rfl) (de_ms PySem.F.slot_str_split PySem.F.type_str_split mm_split (de_var (pv 0)) (da_cons de_str da_nil))))
    (dss_one (ds_ret (de_and (de_cmp o_le (de_callB (cb_len rfl) (by rfl) T.b_len bo_len (da_cons (de_var (pv 1)) da_nil)) de_int (nomark _)) (de_one (de_callB (cb_all rfl) (by rfl) T.b_all bo_all (da_cons (de_comp rfl SC.nd (di_any rfl (dsr_N (pv 1)) all_N) (own := ([("part", 2)] : List (Str × Nat))) (blkOk_by (by show blkC ["text", "parts", "part"] (defScope st__law_is_long) _ _ = true; decide +kernel)) und_name (by decide) (fun s H C cl fp => (dg_of (pg_name (i := 2) SC.nd rfl (Or.inl rfl)))) (fun s H C cl fp => dts_nil) (fun s H C cl fp => (de_callF h__law_is_name (hr.mono (by decide)) (by rfl) takes0 (da_cons (de_var (pv 2)) da_nil) rfl (eCons_len eNil_len)))) da_nil)))))))
abbrev st_is_long_name : Stmt := top 5
theorem sc_is_long_name : FnScope ["text", "pieces", "piece"] ["text"] (defScope st_is_long_name) := ⟨rfl, rfl, rfl, by decide +kernel, rfl, by decide +kernel, by decide +kernel⟩
theorem ok_is_long_name {f : Addr} {fd : FuncData} (T : Tx K mg) (D : DefK K mg "is_long_name" "is_long_name" st_is_long_name ["text"] f fd) {f_is_name : Addr} {fd_is_name : FuncData} (h_is_name : CallD P w K mg base ⟨K, ca⟩ 1 "is_name" ["text"] F_is_name f_is_name fd_is_name) : CallD P w K mg base ⟨K, ca⟩ 2 "is_long_name" ["text"] F_is_long_name f fd := by
  have SC := sc_is_long_name
  refine callD D SC rfl (fun cdv A outer sh H E σ0 W hr pa tk => ?_)
  exact (dss_cons (ds_asg (ps_set (i := 1) SC.nd rfl (Or.inl rfl) (de_ms PySem.F.slot_str_split PySem.F.type_str_split mm_split (de_var (pv 0)) (da_cons de_str da_nil))))
    (dss_cons (ds_if (dt_cmp o_gt (de_callB (cb_len rfl) (by rfl) T.b_len bo_len (da_cons (de_var (pv 1)) da_nil)) (de_gInt (by rfl) T.c_MOST_PIECES) (nomark _)) (dss_one (ds_ret de_bl)) dss_nil)
    (dss_one (ds_ret (de_callB (cb_all rfl) (by rfl) T.b_all bo_all (da_cons (de_comp rfl SC.nd (di_any rfl (dsr_N (pv 1)) all_N) (own := ([("piece", 2)] : List (Str × Nat))) (blkOk_by (by show blkC ["text", "pieces", "piece"] (defScope st_is_long_name) _ _ = true; decide +kernel)) und_name (by decide) (fun s H C cl fp => (dg_of (pg_name (i := 2) SC.nd rfl (Or.inl rfl)))) (fun s H C cl fp => dts_nil) (fun s H C cl fp => (de_callF h_is_name (hr.mono (by decide)) (by rfl) takes0 (da_cons (de_var (pv 2)) da_nil) rfl (eCons_len eNil_len)))) da_nil))))))
abbrev st__law_told : Stmt := top 19
theorem sc__law_told : FnScope ["text"] ["text"] (defScope st__law_told) := ⟨rfl, rfl, rfl, by decide +kernel, rfl, by decide +kernel, by decide +kernel⟩
theorem ok__law_told {f : Addr} {fd : FuncData} (T : Tx K mg) (D : DefK K mg "_law_told" "_law_told" st__law_told ["text"] f fd) {f__law_right : Addr} {fd__law_right : FuncData} (h__law_right : CallD P w K mg base ⟨K, ca⟩ 1 "_law_right" ["answer", "due"] F__law_right f__law_right fd__law_right) {f__law_is_name : Addr} {fd__law_is_name : FuncData} (h__law_is_name : CallD P w K mg base ⟨K, ca⟩ 2 "_law_is_name" ["text"] F__law_is_name f__law_is_name fd__law_is_name) {f_is_name : Addr} {fd_is_name : FuncData} (h_is_name : CallD P w K mg base ⟨K, ca⟩ 1 "is_name" ["text"] F_is_name f_is_name fd_is_name) {f__law_is_long : Addr} {fd__law_is_long : FuncData} (h__law_is_long : CallD P w K mg base ⟨K, ca⟩ 3 "_law_is_long" ["text"] F__law_is_long f__law_is_long fd__law_is_long) {f_is_long_name : Addr} {fd_is_long_name : FuncData} (h_is_long_name : CallD P w K mg base ⟨K, ca⟩ 2 "is_long_name" ["text"] F_is_long_name f_is_long_name fd_is_long_name) : CallD P w K mg base ⟨K, ca⟩ 4 "_law_told" ["text"] F__law_told f fd := by
  have SC := sc__law_told
  refine callD D SC rfl (fun cdv A outer sh H E σ0 W hr pa tk => ?_)
  exact (dss_cons (ds_if (dt_not (dt_truth rfl (de_callF h__law_right (hr.mono (by decide)) (by rfl) tk (da_cons (de_callF h_is_name (hr.mono (by decide)) (by rfl) tk (da_cons (de_var (pv 0)) da_nil) rfl (eCons_len eNil_len)) (da_cons (de_callF h__law_is_name (hr.mono (by decide)) (by rfl) tk (da_cons (de_var (pv 0)) da_nil) rfl (eCons_len eNil_len)) da_nil)) rfl (eCons_len (eCons_len eNil_len))))) (dss_one (ds_ret de_bl)) dss_nil)
    (dss_one (ds_ret (de_callF h__law_right (hr.mono (by decide)) (by rfl) tk (da_cons (de_callF h_is_long_name (hr.mono (by decide)) (by rfl) tk (da_cons (de_var (pv 0)) da_nil) rfl (eCons_len eNil_len)) (da_cons (de_callF h__law_is_long (hr.mono (by decide)) (by rfl) tk (da_cons (de_var (pv 0)) da_nil) rfl (eCons_len eNil_len)) da_nil)) rfl (eCons_len (eCons_len eNil_len))))))
abbrev st__law_draw : Stmt := top 9
theorem sc__law_draw : FnScope ["hand", "many", "found"] ["hand", "many"] (defScope st__law_draw) := ⟨rfl, rfl, rfl, by decide +kernel, rfl, by decide +kernel, by decide +kernel⟩
theorem ok__law_draw {f : Addr} {fd : FuncData} (T : Tx K mg) (D : DefK K mg "_law_draw" "_law_draw" st__law_draw ["hand", "many"] f fd)  : CallD P w K mg base ⟨K, ca⟩ 1 "_law_draw" ["hand", "many"] F__law_draw f fd := by
  have SC := sc__law_draw
  refine callD D SC rfl (fun cdv A outer sh H E σ0 W hr pa tk => ?_)
  exact (dss_cons (ds_while pa (dt_andW (dt_cmp o_gt (de_callB (cb_len rfl) (by rfl) T.b_len bo_len (da_cons (de_var (pv 0)) da_nil)) de_int (nomark _)) (dt_and1 (dt_cmp (o_eq rfl hr.units) (de_ix rfl (hu_of hr) (de_var (pv 0)) de_int (fun _ _ => rfl)) de_int (nomark _)))).pt (dss_one (ds_expr (de_meth PySem.F.plainAttrs_list PySem.F.slot_list_pop PySem.F.type_list_pop (by decide) mo_popAt (pv 0) (da_cons de_int da_nil)))))
    (dss_cons (ds_asg (ps_set (i := 2) SC.nd rfl (Or.inl rfl) (de_bin o_mod (de_callTy cb_int (by rfl) T.b_int bo_int (da_cons (de_ix rfl (hu_of hr) (de_var (pv 0)) de_int (fun _ _ => rfl)) da_nil)) (de_var (pv 1)))))
    (dss_cons (ds_sub (hu_of hr) (pv 0) de_int (de_bin o_fdiv (de_ix rfl (hu_of hr) (de_var (pv 0)) de_int (fun _ _ => rfl)) (de_var (pv 1))))
    (dss_one (ds_ret (de_var (pv 2)))))))
abbrev st__law_named : Stmt := top 11
theorem sc__law_named : FnScope ["hand", "most", "letters", "text", "many", "k"] ["hand", "most"] (defScope st__law_named) := ⟨rfl, rfl, rfl, by decide +kernel, rfl, by decide +kernel, by decide +kernel⟩
theorem ok__law_named {f : Addr} {fd : FuncData} (T : Tx K mg) (D : DefK K mg "_law_named" "_law_named" st__law_named ["hand", "most"] f fd) {f__law_draw : Addr} {fd__law_draw : FuncData} (h__law_draw : CallD P w K mg base ⟨K, ca⟩ 1 "_law_draw" ["hand", "many"] F__law_draw f__law_draw fd__law_draw) {f__law_reserved : Addr} {fd__law_reserved : FuncData} (h__law_reserved : CallD P w K mg base ⟨K, ca⟩ 1 "_law_reserved" [] F__law_reserved f__law_reserved fd__law_reserved) : CallD P w K mg base ⟨K, ca⟩ 2 "_law_named" ["hand", "most"] F__law_named f fd := by
  have SC := sc__law_named
  refine callD D SC rfl (fun cdv A outer sh H E σ0 W hr pa tk => ?_)
  exact (dss_cons (ds_asg (ps_set (i := 2) SC.nd rfl (Or.inl rfl) de_str))
    (dss_cons (ds_asg (ps_set (i := 3) SC.nd rfl (Or.inl rfl) (de_ix rfl (hu_of hr) (de_var (pv 2)) (de_callF h__law_draw (hr.mono (by decide)) (by rfl) tk (da_cons (de_var (pv 0)) (da_cons de_int da_nil)) rfl (eCons_len (eCons_len eNil_len))) (fun _ _ => rfl))))
    (dss_cons (ds_asg (ps_set (i := 4) SC.nd rfl (Or.inl rfl) (de_callF h__law_draw (hr.mono (by decide)) (by rfl) tk (da_cons (de_var (pv 0)) (da_cons de_int da_nil)) rfl (eCons_len (eCons_len eNil_len)))))
    (dss_cons (ds_if (dt_cmp (o_eq rfl hr.units) (de_var (pv 4)) de_int (nomark _)) (dss_one (ds_asg (ps_set (i := 4) SC.nd rfl (Or.inl rfl) (de_callF h__law_draw (hr.mono (by decide)) (by rfl) tk (da_cons (de_var (pv 0)) (da_cons (de_var (pv 1)) da_nil)) rfl (eCons_len (eCons_len eNil_len)))))) dss_nil)
    (dss_cons (ds_for pa rfl (di_range1 (by rfl) T.b_range (da_cons (de_var (pv 4)) da_nil) (eCons_len eNil_len)) (dg_of (pg_name (i := 5) SC.nd rfl (Or.inl rfl))) (dss_one (ds_asg (ps_set (i := 3) SC.nd rfl (Or.inl rfl) (de_bin (o_add rfl) (de_var (pv 3)) (de_ix rfl (hu_of hr) (de_bin (o_add rfl) (de_var (pv 2)) de_str) (de_callF h__law_draw (hr.mono (by decide)) (by rfl) tk (da_cons (de_var (pv 0)) (da_cons de_int da_nil)) rfl (eCons_len (eCons_len eNil_len))) (fun _ _ => rfl)))))) und_range)
    (dss_one (ds_ret (de_bin (o_add rfl) (de_var (pv 3)) (de_bin o_mulA de_str (de_callTy cb_int (by rfl) T.b_int bo_int (da_cons (de_cmp (o_in rfl (u65 hr)) (de_var (pv 3)) (de_callF0 h__law_reserved (hr.mono (by decide)) (by rfl) tk rfl) (by with_unfolding_all rfl)) da_nil)))))))))))
abbrev st__law_alphabet : Stmt := top 12
theorem sc__law_alphabet : FnScope ["signs"] [] (defScope st__law_alphabet) := ⟨rfl, rfl, rfl, by decide +kernel, rfl, by decide +kernel, by decide +kernel⟩
theorem ok__law_alphabet {f : Addr} {fd : FuncData} (T : Tx K mg) (D : DefK K mg "_law_alphabet" "_law_alphabet" st__law_alphabet [] f fd)  : CallD P w K mg base ⟨K, ca⟩ 1 "_law_alphabet" [] F__law_alphabet f fd := by
  have SC := sc__law_alphabet
  refine callD D SC rfl (fun cdv A outer sh H E σ0 W hr pa tk => ?_)
  exact (dss_cons (ds_asg (ps_set (i := 0) SC.nd rfl (Or.inl rfl) de_str))
    (dss_one (ds_ret (de_bin (o_add rfl) (de_var (pv 0)) de_str))))
abbrev st__law_bent : Stmt := top 15
theorem sc__law_bent : FnScope ["hand", "text", "place", "sign", "way"] ["hand", "text"] (defScope st__law_bent) := ⟨rfl, rfl, rfl, by decide +kernel, rfl, by decide +kernel, by decide +kernel⟩
theorem ok__law_bent {f : Addr} {fd : FuncData} (T : Tx K mg) (D : DefK K mg "_law_bent" "_law_bent" st__law_bent ["hand", "text"] f fd) {f__law_draw : Addr} {fd__law_draw : FuncData} (h__law_draw : CallD P w K mg base ⟨K, ca⟩ 1 "_law_draw" ["hand", "many"] F__law_draw f__law_draw fd__law_draw) {f__law_alphabet : Addr} {fd__law_alphabet : FuncData} (h__law_alphabet : CallD P w K mg base ⟨K, ca⟩ 1 "_law_alphabet" [] F__law_alphabet f__law_alphabet fd__law_alphabet) : CallD P w K mg base ⟨K, ca⟩ 2 "_law_bent" ["hand", "text"] F__law_bent f fd := by
  have SC := sc__law_bent
  refine callD D SC rfl (fun cdv A outer sh H E σ0 W hr pa tk => ?_)
  exact (dss_cons (ds_asg (ps_set (i := 2) SC.nd rfl (Or.inl rfl) (de_callF h__law_draw (hr.mono (by decide)) (by rfl) tk (da_cons (de_var (pv 0)) (da_cons (de_bin (o_add rfl) (de_callB (cb_len rfl) (by rfl) T.b_len bo_len (da_cons (de_var (pv 1)) da_nil)) de_int) da_nil)) rfl (eCons_len (eCons_len eNil_len)))))
    (dss_cons (ds_asg (ps_set (i := 3) SC.nd rfl (Or.inl rfl) (de_ix rfl (hu_of hr) (de_callF0 h__law_alphabet (hr.mono (by decide)) (by rfl) tk rfl) (de_callF h__law_draw (hr.mono (by decide)) (by rfl) tk (da_cons (de_var (pv 0)) (da_cons de_int da_nil)) rfl (eCons_len (eCons_len eNil_len))) (fun _ _ => rfl))))
    (dss_cons (ds_asg (ps_set (i := 4) SC.nd rfl (Or.inl rfl) (de_callF h__law_draw (hr.mono (by decide)) (by rfl) tk (da_cons (de_var (pv 0)) (da_cons de_int da_nil)) rfl (eCons_len (eCons_len eNil_len)))))
    (dss_cons (ds_if (dt_cmp (o_eq rfl hr.units) (de_var (pv 4)) de_int (nomark _)) (dss_one (ds_ret (de_bin (o_add rfl) (de_bin (o_add rfl) (de_sl rfl (de_var (pv 1)) do_none (do_some (de_var (pv 2)))) (de_var (pv 3))) (de_sl rfl (de_var (pv 1)) (do_some (de_var (pv 2))) do_none)))) dss_nil)
    (dss_cons (ds_if (dt_cmp (o_eq rfl hr.units) (de_var (pv 4)) de_int (nomark _)) (dss_one (ds_ret (de_bin (o_add rfl) (de_sl rfl (de_var (pv 1)) do_none (do_some (de_var (pv 2)))) (de_sl rfl (de_var (pv 1)) (do_some (de_bin (o_add rfl) (de_var (pv 2)) de_int)) do_none)))) dss_nil)
    (dss_one (ds_ret (de_bin (o_add rfl) (de_bin (o_add rfl) (de_sl rfl (de_var (pv 1)) do_none (do_some (de_var (pv 2)))) (de_var (pv 3))) (de_sl rfl (de_var (pv 1)) (do_some (de_bin (o_add rfl) (de_var (pv 2)) de_int)) do_none)))))))))
abbrev st__law_joined : Stmt := top 16
theorem sc__law_joined : FnScope ["hand", "many", "most", "parts", "place", "k"] ["hand"] (defScope st__law_joined) := ⟨rfl, rfl, rfl, by decide +kernel, rfl, by decide +kernel, by decide +kernel⟩
theorem ok__law_joined {f : Addr} {fd : FuncData} (T : Tx K mg) (D : DefK K mg "_law_joined" "_law_joined" st__law_joined ["hand"] f fd) {f__law_draw : Addr} {fd__law_draw : FuncData} (h__law_draw : CallD P w K mg base ⟨K, ca⟩ 1 "_law_draw" ["hand", "many"] F__law_draw f__law_draw fd__law_draw) {f__law_named : Addr} {fd__law_named : FuncData} (h__law_named : CallD P w K mg base ⟨K, ca⟩ 2 "_law_named" ["hand", "most"] F__law_named f__law_named fd__law_named) {f__law_bent : Addr} {fd__law_bent : FuncData} (h__law_bent : CallD P w K mg base ⟨K, ca⟩ 2 "_law_bent" ["hand", "text"] F__law_bent f__law_bent fd__law_bent) : CallD P w K mg base ⟨K, ca⟩ 3 "_law_joined" ["hand"] F__law_joined f fd := by
  have SC := sc__law_joined
  refine callD D SC rfl (fun cdv A outer sh H E σ0 W hr pa tk => ?_)
  exact (dss_cons (ds_asg (ps_set (i := 1) SC.nd rfl (Or.inl rfl) (de_ix rfl (hu_of hr) (de_lst (da_cons de_int (da_cons de_int (da_cons de_int (da_cons de_int (da_cons de_int (da_cons de_int (da_cons de_int (da_cons de_int da_nil))))))))) (de_callF h__law_draw (hr.mono (by decide)) (by rfl) tk (da_cons (de_var (pv 0)) (da_cons de_int da_nil)) rfl (eCons_len (eCons_len eNil_len))) (fun _ _ => rfl))))
    (dss_cons (ds_asg (ps_set (i := 2) SC.nd rfl (Or.inr rfl) (de_ifExp (dt_cmp o_gt (de_var (pv 1)) de_int (nomark _)) de_int de_int)))
    (dss_cons (ds_setComp rfl SC.nd rfl rfl (sw_true rfl rfl rfl rfl) (di_range1 (by rfl) T.b_range (da_cons (de_var (pv 1)) da_nil) (eCons_len eNil_len)) (own := ([("k", 5)] : List (Str × Nat))) (blkOk_by (by show blkC ["hand", "many", "most", "parts", "place", "k"] (defScope st__law_joined) _ _ = true; decide +kernel)) und_range (by decide) (fun s H C cl fp => (dg_of (pg_name (i := 5) SC.nd rfl (Or.inl rfl)))) (fun s H C cl fp => dts_nil) (fun s H C cl fp => (de_callF h__law_named (hr.mono (by decide)) (by rfl) takes0 (da_cons (de_var (pv 0)) (da_cons (de_var (pv 2)) da_nil)) rfl (eCons_len (eCons_len eNil_len)))))
    (dss_cons (ds_if (dt_cmp (o_eq rfl hr.units) (de_callF h__law_draw (hr.mono (by decide)) (by rfl) tk (da_cons (de_var (pv 0)) (da_cons de_int da_nil)) rfl (eCons_len (eCons_len eNil_len))) de_int (nomark _)) (dss_cons (ds_asg (ps_set (i := 4) SC.nd rfl (Or.inl rfl) (de_callF h__law_draw (hr.mono (by decide)) (by rfl) tk (da_cons (de_var (pv 0)) (da_cons (de_var (pv 1)) da_nil)) rfl (eCons_len (eCons_len eNil_len)))))
    (dss_one (ds_sub (hu_of hr) (pv 3) (de_var (pv 4)) (de_callF h__law_bent (hr.mono (by decide)) (by rfl) tk (da_cons (de_var (pv 0)) (da_cons (de_ix rfl (hu_of hr) (de_var (pv 3)) (de_var (pv 4)) (fun _ _ => rfl)) da_nil)) rfl (eCons_len (eCons_len eNil_len)))))) dss_nil)
    (dss_one (ds_ret (de_ms PySem.F.slot_str_join PySem.F.type_str_join (mm_join rfl) de_str (da_cons (de_var (pv 3)) da_nil))))))))
abbrev st__law_any_text : Stmt := top 17
theorem sc__law_any_text : FnScope ["hand", "way", "words", "signs", "text", "at"] ["hand"] (defScope st__law_any_text) := ⟨rfl, rfl, rfl, by decide +kernel, rfl, by decide +kernel, by decide +kernel⟩
theorem ok__law_any_text {f : Addr} {fd : FuncData} (T : Tx K mg) (D : DefK K mg "_law_any_text" "_law_any_text" st__law_any_text ["hand"] f fd) {f__law_draw : Addr} {fd__law_draw : FuncData} (h__law_draw : CallD P w K mg base ⟨K, ca⟩ 1 "_law_draw" ["hand", "many"] F__law_draw f__law_draw fd__law_draw) {f__law_joined : Addr} {fd__law_joined : FuncData} (h__law_joined : CallD P w K mg base ⟨K, ca⟩ 3 "_law_joined" ["hand"] F__law_joined f__law_joined fd__law_joined) {f__law_reserved : Addr} {fd__law_reserved : FuncData} (h__law_reserved : CallD P w K mg base ⟨K, ca⟩ 1 "_law_reserved" [] F__law_reserved f__law_reserved fd__law_reserved) {f__law_bent : Addr} {fd__law_bent : FuncData} (h__law_bent : CallD P w K mg base ⟨K, ca⟩ 2 "_law_bent" ["hand", "text"] F__law_bent f__law_bent fd__law_bent) {f__law_named : Addr} {fd__law_named : FuncData} (h__law_named : CallD P w K mg base ⟨K, ca⟩ 2 "_law_named" ["hand", "most"] F__law_named f__law_named fd__law_named) {f__law_alphabet : Addr} {fd__law_alphabet : FuncData} (h__law_alphabet : CallD P w K mg base ⟨K, ca⟩ 1 "_law_alphabet" [] F__law_alphabet f__law_alphabet fd__law_alphabet) : CallD P w K mg base ⟨K, ca⟩ 4 "_law_any_text" ["hand"] F__law_any_text f fd := by
  have SC := sc__law_any_text
  refine callD D SC rfl (fun cdv A outer sh H E σ0 W hr pa tk => ?_)
  exact (dss_cons (ds_asg (ps_set (i := 1) SC.nd rfl (Or.inl rfl) (de_callF h__law_draw (hr.mono (by decide)) (by rfl) tk (da_cons (de_var (pv 0)) (da_cons de_int da_nil)) rfl (eCons_len (eCons_len eNil_len)))))
    (dss_cons (ds_if (dt_cmp (o_eq rfl hr.units) (de_var (pv 1)) de_int (nomark _)) (dss_one (ds_ret (de_callF h__law_joined (hr.mono (by decide)) (by rfl) tk (da_cons (de_var (pv 0)) da_nil) rfl (eCons_len eNil_len)))) dss_nil)
    (dss_cons (ds_if (dt_cmp (o_eq rfl hr.units) (de_var (pv 1)) de_int (nomark _)) (dss_cons (ds_asg (ps_set (i := 2) SC.nd rfl (Or.inl rfl) (de_callF0 h__law_reserved (hr.mono (by decide)) (by rfl) tk rfl)))
    (dss_one (ds_ret (de_callF h__law_bent (hr.mono (by decide)) (by rfl) tk (da_cons (de_var (pv 0)) (da_cons (de_ix rfl (hu_of hr) (de_var (pv 2)) (de_callF h__law_draw (hr.mono (by decide)) (by rfl) tk (da_cons (de_var (pv 0)) (da_cons de_int da_nil)) rfl (eCons_len (eCons_len eNil_len))) (fun _ _ => rfl)) da_nil)) rfl (eCons_len (eCons_len eNil_len)))))) dss_nil)
    (dss_cons (ds_if (dt_cmp (o_eq rfl hr.units) (de_var (pv 1)) de_int (nomark _)) (dss_one (ds_ret (de_callF h__law_bent (hr.mono (by decide)) (by rfl) tk (da_cons (de_var (pv 0)) (da_cons (de_callF h__law_named (hr.mono (by decide)) (by rfl) tk (da_cons (de_var (pv 0)) (da_cons de_int da_nil)) rfl (eCons_len (eCons_len eNil_len))) da_nil)) rfl (eCons_len (eCons_len eNil_len))))) dss_nil)
    (dss_cons (ds_asg (ps_set (i := 3) SC.nd rfl (Or.inl rfl) (de_callF0 h__law_alphabet (hr.mono (by decide)) (by rfl) tk rfl)))
    (dss_cons (ds_if (dt_cmp (o_eq rfl hr.units) (de_var (pv 1)) de_int (nomark _)) (dss_one (ds_asg (ps_set (i := 3) SC.nd rfl (Or.inl rfl) de_str))) dss_nil)
    (dss_cons (ds_asg (ps_set (i := 4) SC.nd rfl (Or.inl rfl) de_str))
    (dss_cons (ds_for pa rfl (di_range1 (by rfl) T.b_range (da_cons (de_callF h__law_draw (hr.mono (by decide)) (by rfl) tk (da_cons (de_var (pv 0)) (da_cons de_int da_nil)) rfl (eCons_len (eCons_len eNil_len))) da_nil) (eCons_len eNil_len)) (dg_of (pg_name (i := 5) SC.nd rfl (Or.inl rfl))) (dss_one (ds_asg (ps_set (i := 4) SC.nd rfl (Or.inl rfl) (de_bin (o_add rfl) (de_var (pv 4)) (de_ix rfl (hu_of hr) (de_var (pv 3)) (de_callF h__law_draw (hr.mono (by decide)) (by rfl) tk (da_cons (de_var (pv 0)) (da_cons (de_callB (cb_len rfl) (by rfl) T.b_len bo_len (da_cons (de_var (pv 3)) da_nil)) da_nil)) rfl (eCons_len (eCons_len eNil_len))) (fun _ _ => rfl)))))) und_range)
    (dss_one (ds_ret (de_var (pv 4))))))))))))
abbrev st__law_taken : Stmt := top 22
theorem sc__law_taken : FnScope ["hand", "name", "run", "holes", "numbers", "held", "others", "cut", "k"] ["hand", "name"] (defScope st__law_taken) := ⟨rfl, rfl, rfl, by decide +kernel, rfl, by decide +kernel, by decide +kernel⟩
theorem ok__law_taken {f : Addr} {fd : FuncData} (T : Tx K mg) (D : DefK K mg "_law_taken" "_law_taken" st__law_taken ["hand", "name"] f fd) {f__law_draw : Addr} {fd__law_draw : FuncData} (h__law_draw : CallD P w K mg base ⟨K, ca⟩ 1 "_law_draw" ["hand", "many"] F__law_draw f__law_draw fd__law_draw) : CallD P w K mg base ⟨K, ca⟩ 2 "_law_taken" ["hand", "name"] F__law_taken f fd := by
  have SC := sc__law_taken
  refine callD D SC rfl (fun cdv A outer sh H E σ0 W hr pa tk => ?_)
  exact (dss_cons (ds_asg (ps_set (i := 2) SC.nd rfl (Or.inr rfl) (de_callF h__law_draw (hr.mono (by decide)) (by rfl) tk (da_cons (de_var (pv 0)) (da_cons de_int da_nil)) rfl (eCons_len (eCons_len eNil_len)))))
    (dss_cons (ds_if (dt_cmp (o_eq rfl hr.units) (de_callF h__law_draw (hr.mono (by decide)) (by rfl) tk (da_cons (de_var (pv 0)) (da_cons de_int da_nil)) rfl (eCons_len (eCons_len eNil_len))) de_int (nomark _)) (dss_one (ds_asg (ps_set (i := 2) SC.nd rfl (Or.inr rfl) (de_bin (o_add rfl) de_int (de_callF h__law_draw (hr.mono (by decide)) (by rfl) tk (da_cons (de_var (pv 0)) (da_cons de_int da_nil)) rfl (eCons_len (eCons_len eNil_len))))))) dss_nil)
    (dss_cons (ds_asg (ps_set (i := 3) SC.nd rfl (Or.inr rfl) (de_comp rfl SC.nd (di_range1 (by rfl) T.b_range (da_cons (de_callF h__law_draw (hr.mono (by decide)) (by rfl) tk (da_cons (de_var (pv 0)) (da_cons de_int da_nil)) rfl (eCons_len (eCons_len eNil_len))) da_nil) (eCons_len eNil_len)) (own := ([("k", 8)] : List (Str × Nat))) (blkOk_by (by show blkC ["hand", "name", "run", "holes", "numbers", "held", "others", "cut", "k"] (defScope st__law_taken) _ _ = true; decide +kernel)) und_range (by decide) (fun s H C cl fp => (dg_of (pg_name (i := 8) SC.nd rfl (Or.inl rfl)))) (fun s H C cl fp => dts_nil) (fun s H C cl fp => (de_callF h__law_draw (hr.mono (by decide)) (by rfl) takes0 (da_cons (de_var (pv 0)) (da_cons (de_bin (o_add rfl) (de_var (pv 2)) de_int) da_nil)) rfl (eCons_len (eCons_len eNil_len)))))))
    (dss_cons (ds_setComp rfl SC.nd rfl rfl (sw_true rfl rfl rfl rfl) (di_range2 (by rfl) T.b_range (da_cons de_int (da_cons (de_bin (o_add rfl) (de_var (pv 2)) de_int) da_nil)) (eCons_len (eCons_len eNil_len))) (own := ([("k", 8)] : List (Str × Nat))) (blkOk_by (by show blkC ["hand", "name", "run", "holes", "numbers", "held", "others", "cut", "k"] (defScope st__law_taken) _ _ = true; decide +kernel)) und_range (by decide) (fun s H C cl fp => (dg_of (pg_name (i := 8) SC.nd rfl (Or.inl rfl)))) (fun s H C cl fp => (dts_one (dt_cmp (o_notin rfl (u65 hr)) (de_var (pv 8)) (de_var (pv 3)) (by with_unfolding_all rfl)))) (fun s H C cl fp => (de_var (pv 8))))
    (dss_cons (ds_setComp rfl SC.nd rfl rfl (sw_true rfl rfl rfl rfl) (di_any rfl (dsr_N (pv 4)) all_N) (own := ([("k", 8)] : List (Str × Nat))) (blkOk_by (by show blkC ["hand", "name", "run", "holes", "numbers", "held", "others", "cut", "k"] (defScope st__law_taken) _ _ = true; decide +kernel)) und_name (by decide) (fun s H C cl fp => (dg_of (pg_name (i := 8) SC.nd rfl (Or.inl rfl)))) (fun s H C cl fp => dts_nil) (fun s H C cl fp => (de_bin (o_add rfl) (de_var (pv 1)) (de_bin o_mulA (de_callTy cb_str (by rfl) T.b_str bo_str (da_cons (de_var (pv 8)) da_nil)) (de_callTy cb_int (by rfl) T.b_int bo_int (da_cons (de_cmp o_gt (de_var (pv 8)) de_int (nomark _)) da_nil))))))
    (dss_cons (ds_asg (ps_set (i := 6) SC.nd rfl (Or.inl rfl) (de_lst (da_cons (de_bin (o_add rfl) (de_var (pv 1)) de_str) (da_cons (de_bin (o_add rfl) (de_var (pv 1)) de_str) (da_cons (de_bin (o_add rfl) (de_var (pv 1)) de_str) da_nil))))))
    (dss_cons (ds_asg (ps_set (i := 6) SC.nd rfl (Or.inl rfl) (de_bin (o_add rfl) (de_var (pv 6)) (de_lst (da_cons (de_bin (o_add rfl) de_str (de_var (pv 1))) (da_cons (de_bin (o_add rfl) (de_var (pv 1)) de_str) da_nil))))))
    (dss_cons (ds_asg (ps_set (i := 5) SC.nd rfl (Or.inl rfl) (de_bin (o_add rfl) (de_var (pv 5)) (de_sl rfl (de_var (pv 6)) do_none (do_some (de_callF h__law_draw (hr.mono (by decide)) (by rfl) tk (da_cons (de_var (pv 0)) (da_cons de_int da_nil)) rfl (eCons_len (eCons_len eNil_len))))))))
    (dss_cons (ds_asg (ps_set (i := 5) SC.nd rfl (Or.inl rfl) (de_bin (o_add rfl) (de_var (pv 5)) (de_sl rfl (de_var (pv 5)) do_none (do_some (de_callF h__law_draw (hr.mono (by decide)) (by rfl) tk (da_cons (de_var (pv 0)) (da_cons de_int da_nil)) rfl (eCons_len (eCons_len eNil_len))))))))
    (dss_cons (ds_asg (ps_set (i := 7) SC.nd rfl (Or.inl rfl) (de_callF h__law_draw (hr.mono (by decide)) (by rfl) tk (da_cons (de_var (pv 0)) (da_cons (de_bin (o_add rfl) (de_callB (cb_len rfl) (by rfl) T.b_len bo_len (da_cons (de_var (pv 5)) da_nil)) de_int) da_nil)) rfl (eCons_len (eCons_len eNil_len)))))
    (dss_one (ds_ret (de_bin (o_add rfl) (de_sl rfl (de_var (pv 5)) (do_some (de_var (pv 7))) do_none) (de_sl rfl (de_var (pv 5)) do_none (do_some (de_var (pv 7)))))))))))))))))
abbrev st__law_free : Stmt := top 21
theorem sc__law_free : FnScope ["name", "held", "k", "found"] ["name", "held"] (defScope st__law_free) := ⟨rfl, rfl, rfl, by decide +kernel, rfl, by decide +kernel, by decide +kernel⟩
theorem ok__law_free {f : Addr} {fd : FuncData} (T : Tx K mg) (D : DefK K mg "_law_free" "_law_free" st__law_free ["name", "held"] f fd)  : CallD P w K mg base ⟨K, ca⟩ 1 "_law_free" ["name", "held"] F__law_free f fd := by
  have SC := sc__law_free
  refine callD D SC rfl (fun cdv A outer sh H E σ0 W hr pa tk => ?_)
  exact (dss_cons (ds_for pa rfl (di_range2 (by rfl) T.b_range (da_cons de_int (da_cons (de_bin (o_add rfl) (de_callB (cb_len rfl) (by rfl) T.b_len bo_len (da_cons (de_var (pv 1)) da_nil)) de_int) da_nil)) (eCons_len (eCons_len eNil_len))) (dg_of (pg_name (i := 2) SC.nd rfl (Or.inl rfl))) (dss_cons (ds_asg (ps_set (i := 3) SC.nd rfl (Or.inl rfl) (de_bin (o_add rfl) (de_var (pv 0)) (de_bin o_mulA (de_callTy cb_str (by rfl) T.b_str bo_str (da_cons (de_var (pv 2)) da_nil)) (de_callTy cb_int (by rfl) T.b_int bo_int (da_cons (de_cmp o_gt (de_var (pv 2)) de_int (nomark _)) da_nil))))))
    (dss_one (ds_if (dt_cmp (o_notin rfl (u65 hr)) (de_var (pv 3)) (de_var (pv 1)) (by with_unfolding_all rfl)) (dss_one (ds_ret (de_var (pv 3)))) dss_nil))) und_range)
    (dss_one (ds_ret (de_var (pv 0)))))
abbrev st_fresh : Stmt := top 6
theorem sc_fresh : FnScope ["name", "taken", "known", "number", "word"] ["name", "taken"] (defScope st_fresh) := ⟨rfl, rfl, rfl, by decide +kernel, rfl, by decide +kernel, by decide +kernel⟩
theorem ok_fresh {f : Addr} {fd : FuncData} (T : Tx K mg) (D : DefK K mg "fresh" "fresh" st_fresh ["name", "taken"] f fd)  : CallD P w K mg base ⟨K, ca⟩ 1 "fresh" ["name", "taken"] F_fresh f fd := by
  have SC := sc_fresh
  refine callD D SC rfl (fun cdv A outer sh H E σ0 W hr pa tk => ?_)
  exact (dss_cons (ds_setDComp rfl SC.nd rfl rfl (sw_trueD rfl rfl rfl rfl) (di_any rfl (dsr_N (pv 1)) all_N) (own := ([("word", 4)] : List (Str × Nat))) (blkOk_by (by show blkC ["name", "taken", "known", "number", "word"] (defScope st_fresh) _ _ = true; decide +kernel)) und_name (by decide) (fun s H C cl fp => (dg_of (pg_name (i := 4) SC.nd rfl (Or.inl rfl)))) (fun s H C cl fp => dts_nil) (fun s H C cl fp => (de_var (pv 4))) (fun s H C cl fp => de_bl))
    (dss_cons (ds_if (dt_cmp (o_notin rfl (u65 hr)) (de_var (pv 0)) (de_var (pv 2)) (by with_unfolding_all rfl)) (dss_one (ds_ret (de_var (pv 0)))) dss_nil)
    (dss_cons (ds_asg (ps_set (i := 3) SC.nd rfl (Or.inl rfl) de_int))
    (dss_cons (ds_while pa (dt_cmp (o_in rfl (u65 hr)) (de_joined (.cons (de_fmt (de_var (pv 0))) (.cons (de_fmt (de_var (pv 3))) .nil))) (de_var (pv 2)) (by with_unfolding_all rfl)) (dss_one (ds_aug (i := 3) SC.nd rfl (Or.inl rfl) de_int io_add)))
    (dss_one (ds_ret (de_joined (.cons (de_fmt (de_var (pv 0))) (.cons (de_fmt (de_var (pv 3))) .nil)))))))))
abbrev st__law_chosen : Stmt := top 23
theorem sc__law_chosen : FnScope ["hand", "name", "held", "turn", "before", "due", "found", "again"] ["hand"] (defScope st__law_chosen) := ⟨rfl, rfl, rfl, by decide +kernel, rfl, by decide +kernel, by decide +kernel⟩
theorem ok__law_chosen {f : Addr} {fd : FuncData} (T : Tx K mg) (D : DefK K mg "_law_chosen" "_law_chosen" st__law_chosen ["hand"] f fd) {f__law_named : Addr} {fd__law_named : FuncData} (h__law_named : CallD P w K mg base ⟨K, ca⟩ 2 "_law_named" ["hand", "most"] F__law_named f__law_named fd__law_named) {f__law_taken : Addr} {fd__law_taken : FuncData} (h__law_taken : CallD P w K mg base ⟨K, ca⟩ 2 "_law_taken" ["hand", "name"] F__law_taken f__law_taken fd__law_taken) {f__law_free : Addr} {fd__law_free : FuncData} (h__law_free : CallD P w K mg base ⟨K, ca⟩ 1 "_law_free" ["name", "held"] F__law_free f__law_free fd__law_free) {f_fresh : Addr} {fd_fresh : FuncData} (h_fresh : CallD P w K mg base ⟨K, ca⟩ 1 "fresh" ["name", "taken"] F_fresh f_fresh fd_fresh) {f__law_draw : Addr} {fd__law_draw : FuncData} (h__law_draw : CallD P w K mg base ⟨K, ca⟩ 1 "_law_draw" ["hand", "many"] F__law_draw f__law_draw fd__law_draw) : CallD P w K mg base ⟨K, ca⟩ 3 "_law_chosen" ["hand"] F__law_chosen f fd := by
  have SC := sc__law_chosen
  refine callD D SC rfl (fun cdv A outer sh H E σ0 W hr pa tk => ?_)
  exact (dss_cons (ds_asg (ps_set (i := 1) SC.nd rfl (Or.inl rfl) (de_callF h__law_named (hr.mono (by decide)) (by rfl) tk (da_cons (de_var (pv 0)) (da_cons de_int da_nil)) rfl (eCons_len (eCons_len eNil_len)))))
    (dss_cons (ds_asg (ps_set (i := 2) SC.nd rfl (Or.inl rfl) (de_callF h__law_taken (hr.mono (by decide)) (by rfl) tk (da_cons (de_var (pv 0)) (da_cons (de_var (pv 1)) da_nil)) rfl (eCons_len (eCons_len eNil_len)))))
    (dss_cons (ds_for pa rfl (di_range1 (by rfl) T.b_range (da_cons de_int da_nil) (eCons_len eNil_len)) (dg_of (pg_name (i := 3) SC.nd rfl (Or.inl rfl))) (dss_cons (ds_asg (ps_set (i := 4) SC.nd rfl (Or.inl rfl) (de_callTy (cb_list rfl) (by rfl) T.b_list bo_list (da_cons (de_var (pv 2)) da_nil))))
    (dss_cons (ds_asg (ps_set (i := 5) SC.nd rfl (Or.inl rfl) (de_callF h__law_free (hr.mono (by decide)) (by rfl) tk (da_cons (de_var (pv 1)) (da_cons (de_var (pv 4)) da_nil)) rfl (eCons_len (eCons_len eNil_len)))))
    (dss_cons (ds_asg (ps_set (i := 6) SC.nd rfl (Or.inl rfl) (de_callF h_fresh (hr.mono (by decide)) (by rfl) tk (da_cons (de_var (pv 1)) (da_cons (de_var (pv 2)) da_nil)) rfl (eCons_len (eCons_len eNil_len)))))
    (dss_cons (ds_asg (ps_set (i := 7) SC.nd rfl (Or.inl rfl) (de_callF h_fresh (hr.mono (by decide)) (by rfl) tk (da_cons (de_var (pv 1)) (da_cons (de_callTy (cb_tuple rfl) (by rfl) T.b_tuple bo_tuple (da_cons (de_var (pv 4)) da_nil)) da_nil)) rfl (eCons_len (eCons_len eNil_len)))))
    (dss_cons (ds_if (dt_orW (dt_not (dt_truth rfl (de_isi rfl (by rfl) T.b_isinstance (by rfl) T.b_str bo_str (de_var (pv 6))))) (dt_orW (dt_cmp (o_ne rfl hr.units) (de_var (pv 6)) (de_var (pv 5)) (nomark _)) (dt_or1 (dt_cmp (o_ne rfl hr.units) (de_var (pv 2)) (de_var (pv 4)) (nomark _))))).pt (dss_one (ds_ret de_bl)) dss_nil)
    (dss_cons (ds_if (dt_orW (dt_not (dt_truth rfl (de_isi rfl (by rfl) T.b_isinstance (by rfl) T.b_str bo_str (de_var (pv 7))))) (dt_or1 (dt_cmp (o_ne rfl hr.units) (de_var (pv 7)) (de_var (pv 5)) (nomark _)))).pt (dss_one (ds_ret de_bl)) dss_nil)
    (dss_one (ds_expr (de_meth PySem.F.plainAttrs_list PySem.F.slot_list_insert PySem.F.type_list_insert (by decide) mo_insert (pv 2) (da_cons (de_callF h__law_draw (hr.mono (by decide)) (by rfl) tk (da_cons (de_var (pv 0)) (da_cons (de_bin (o_add rfl) (de_callB (cb_len rfl) (by rfl) T.b_len bo_len (da_cons (de_var (pv 2)) da_nil)) de_int) da_nil)) rfl (eCons_len (eCons_len eNil_len))) (da_cons (de_var (pv 5)) da_nil))))))))))) und_range)
    (dss_cons (ds_if (dt_orW (dt_cmp (o_ne rfl hr.units) (de_callF h_fresh (hr.mono (by decide)) (by rfl) tk (da_cons (de_var (pv 1)) (da_cons (de_lst da_nil) da_nil)) rfl (eCons_len (eCons_len eNil_len))) (de_var (pv 1)) (nomark _)) (dt_or1 (dt_cmp (o_ne rfl hr.units) (de_callF h_fresh (hr.mono (by decide)) (by rfl) tk (da_cons (de_var (pv 1)) (da_cons (de_lst (da_cons (de_var (pv 1)) da_nil)) da_nil)) rfl (eCons_len (eCons_len eNil_len))) (de_bin (o_add rfl) (de_var (pv 1)) de_str) (nomark _)))).pt (dss_one (ds_ret de_bl)) dss_nil)
    (dss_one (ds_ret (de_cmp (o_eq rfl hr.units) (de_callF h_fresh (hr.mono (by decide)) (by rfl) tk (da_cons (de_var (pv 1)) (da_cons (de_tup (da_cons (de_bin (o_add rfl) (de_var (pv 1)) de_str) da_nil)) da_nil)) rfl (eCons_len (eCons_len eNil_len))) (de_var (pv 1)) (nomark _))))))))
abbrev st_law : Stmt := top 24
theorem sc_law : FnScope ["script", "hand", "text", "k"] ["script"] (defScope st_law) := ⟨rfl, rfl, rfl, by decide +kernel, rfl, by decide +kernel, by decide +kernel⟩
theorem ok_law {f : Addr} {fd : FuncData} (T : Tx K mg) (D : DefK K mg "law" "law" st_law ["script"] f fd) {f__law_pool : Addr} {fd__law_pool : FuncData} (h__law_pool : CallD P w K mg base ⟨K, ca⟩ 1 "_law_pool" ["script"] F__law_pool f__law_pool fd__law_pool) {f__law_fixed : Addr} {fd__law_fixed : FuncData} (h__law_fixed : CallD P w K mg base ⟨K, ca⟩ 2 "_law_fixed" [] F__law_fixed f__law_fixed fd__law_fixed) {f__law_told : Addr} {fd__law_told : FuncData} (h__law_told : CallD P w K mg base ⟨K, ca⟩ 4 "_law_told" ["text"] F__law_told f__law_told fd__law_told) {f__law_any_text : Addr} {fd__law_any_text : FuncData} (h__law_any_text : CallD P w K mg base ⟨K, ca⟩ 4 "_law_any_text" ["hand"] F__law_any_text f__law_any_text fd__law_any_text) {f__law_chosen : Addr} {fd__law_chosen : FuncData} (h__law_chosen : CallD P w K mg base ⟨K, ca⟩ 3 "_law_chosen" ["hand"] F__law_chosen f__law_chosen fd__law_chosen) : CallD P w K mg base ⟨K, ca⟩ 5 "law" ["script"] F_law f fd := by
  have SC := sc_law
  refine callD D SC rfl (fun cdv A outer sh H E σ0 W hr pa tk => ?_)
  exact (dss_cons (ds_asg (ps_set (i := 1) SC.nd rfl (Or.inl rfl) (de_callF h__law_pool (hr.mono (by decide)) (by rfl) tk (da_cons (de_var (pv 0)) da_nil) rfl (eCons_len eNil_len))))
    (dss_cons (ds_for pa rfl (di_any rfl (dsr_E (de_callF0 h__law_fixed (hr.mono (by decide)) (by rfl) tk rfl)) all_E) (dg_of (pg_name (i := 2) SC.nd rfl (Or.inl rfl))) (dss_one (ds_if (dt_not (dt_truth rfl (de_callF h__law_told (hr.mono (by decide)) (by rfl) tk (da_cons (de_var (pv 2)) da_nil) rfl (eCons_len eNil_len)))) (dss_one (ds_ret de_bl)) dss_nil)) und_vals)
    (dss_cons (ds_for pa rfl (di_range1 (by rfl) T.b_range (da_cons de_int da_nil) (eCons_len eNil_len)) (dg_of (pg_name (i := 3) SC.nd rfl (Or.inl rfl))) (dss_one (ds_if (dt_not (dt_truth rfl (de_callF h__law_told (hr.mono (by decide)) (by rfl) tk (da_cons (de_callF h__law_any_text (hr.mono (by decide)) (by rfl) tk (da_cons (de_var (pv 1)) da_nil) rfl (eCons_len eNil_len)) da_nil) rfl (eCons_len eNil_len)))) (dss_one (ds_ret de_bl)) dss_nil)) und_range)
    (dss_one (ds_ret (de_and (de_callF h__law_chosen (hr.mono (by decide)) (by rfl) tk (da_cons (de_var (pv 1)) da_nil) rfl (eCons_len eNil_len)) (de_one (de_callF h__law_chosen (hr.mono (by decide)) (by rfl) tk (da_cons (de_var (pv 1)) da_nil) rfl (eCons_len eNil_len)))))))))
end
theorem all_mk {l : PySem.W.OpenLaw} {w : World} {K : PySem.W.Frag} {h : Heap} {mg : Str → Option Value} {fa : Addr} (X : K.In h) (G : h.Ns mainGlobals mg) (hfa : mg "law" = some (.ref fa))
    {f0 : Addr} {od0 an0 : Option Addr} {sl0 : Array (Option Value)} {oc0 kV0 dc0 pm0 cd0 ct0 : Value}
    {f1 : Addr} {od1 an1 : Option Addr} {sl1 : Array (Option Value)} {oc1 kV1 dc1 pm1 cd1 ct1 : Value}
    {f2 : Addr} {od2 an2 : Option Addr} {sl2 : Array (Option Value)} {oc2 kV2 dc2 pm2 cd2 ct2 : Value}
    {f3 : Addr} {od3 an3 : Option Addr} {sl3 : Array (Option Value)} {oc3 kV3 dc3 pm3 cd3 ct3 : Value}
    {f4 : Addr} {od4 an4 : Option Addr} {sl4 : Array (Option Value)} {oc4 kV4 dc4 pm4 cd4 ct4 : Value}
    {f5 : Addr} {od5 an5 : Option Addr} {sl5 : Array (Option Value)} {oc5 kV5 dc5 pm5 cd5 ct5 : Value}
    {f6 : Addr} {od6 an6 : Option Addr} {sl6 : Array (Option Value)} {oc6 kV6 dc6 pm6 cd6 ct6 : Value}
    {f7 : Addr} {od7 an7 : Option Addr} {sl7 : Array (Option Value)} {oc7 kV7 dc7 pm7 cd7 ct7 : Value}
    {f8 : Addr} {od8 an8 : Option Addr} {sl8 : Array (Option Value)} {oc8 kV8 dc8 pm8 cd8 ct8 : Value}
    {f9 : Addr} {od9 an9 : Option Addr} {sl9 : Array (Option Value)} {oc9 kV9 dc9 pm9 cd9 ct9 : Value}
    {f10 : Addr} {od10 an10 : Option Addr} {sl10 : Array (Option Value)} {oc10 kV10 dc10 pm10 cd10 ct10 : Value}
    {f11 : Addr} {od11 an11 : Option Addr} {sl11 : Array (Option Value)} {oc11 kV11 dc11 pm11 cd11 ct11 : Value}
    {f12 : Addr} {od12 an12 : Option Addr} {sl12 : Array (Option Value)} {oc12 kV12 dc12 pm12 cd12 ct12 : Value}
    {f13 : Addr} {od13 an13 : Option Addr} {sl13 : Array (Option Value)} {oc13 kV13 dc13 pm13 cd13 ct13 : Value}
    {f14 : Addr} {od14 an14 : Option Addr} {sl14 : Array (Option Value)} {oc14 kV14 dc14 pm14 cd14 ct14 : Value}
    {f15 : Addr} {od15 an15 : Option Addr} {sl15 : Array (Option Value)} {oc15 kV15 dc15 pm15 cd15 ct15 : Value}
    {f16 : Addr} {od16 an16 : Option Addr} {sl16 : Array (Option Value)} {oc16 kV16 dc16 pm16 cd16 ct16 : Value}
    {f17 : Addr} {od17 an17 : Option Addr} {sl17 : Array (Option Value)} {oc17 kV17 dc17 pm17 cd17 ct17 : Value}
    {f18 : Addr} {od18 an18 : Option Addr} {sl18 : Array (Option Value)} {oc18 kV18 dc18 pm18 cd18 ct18 : Value}
    {f19 : Addr} {od19 an19 : Option Addr} {sl19 : Array (Option Value)} {oc19 kV19 dc19 pm19 cd19 ct19 : Value}
    {t_MOST_PIECES : Tok}
    {t_MOST_SIGNS : Tok}
    {q_RESERVED : Addr} {dd_RESERVED : Option Addr} {it_RESERVED : Array Value} {n_RESERVED : Nat} {s_RESERVED : Array (Option Value)}
    (a0 : PySem.W.nsIn K mainGlobals "_law_pool" = some (some (.ref f0))) (l0 : K.lookup f0 = some ⟨oc0, od0, .func (PySem.W.fnOf "_law_pool" "_law_pool" (defArgs st__law_pool) (defBody st__law_pool) (defScope st__law_pool) .none kV0 dc0 pm0 an0 cd0 ct0), sl0⟩) (c0 : PySem.W.codeIn K cd0 "_law_pool" = true) (k0 : PySem.W.keepIn K (.ref f0) = true)
    (a1 : PySem.W.nsIn K mainGlobals "_law_reserved" = some (some (.ref f1))) (l1 : K.lookup f1 = some ⟨oc1, od1, .func (PySem.W.fnOf "_law_reserved" "_law_reserved" (defArgs st__law_reserved) (defBody st__law_reserved) (defScope st__law_reserved) .none kV1 dc1 pm1 an1 cd1 ct1), sl1⟩) (c1 : PySem.W.codeIn K cd1 "_law_reserved" = true) (k1 : PySem.W.keepIn K (.ref f1) = true)
    (a2 : PySem.W.nsIn K mainGlobals "_law_fixed" = some (some (.ref f2))) (l2 : K.lookup f2 = some ⟨oc2, od2, .func (PySem.W.fnOf "_law_fixed" "_law_fixed" (defArgs st__law_fixed) (defBody st__law_fixed) (defScope st__law_fixed) .none kV2 dc2 pm2 an2 cd2 ct2), sl2⟩) (c2 : PySem.W.codeIn K cd2 "_law_fixed" = true) (k2 : PySem.W.keepIn K (.ref f2) = true)
    (a3 : PySem.W.nsIn K mainGlobals "_law_right" = some (some (.ref f3))) (l3 : K.lookup f3 = some ⟨oc3, od3, .func (PySem.W.fnOf "_law_right" "_law_right" (defArgs st__law_right) (defBody st__law_right) (defScope st__law_right) .none kV3 dc3 pm3 an3 cd3 ct3), sl3⟩) (c3 : PySem.W.codeIn K cd3 "_law_right" = true) (k3 : PySem.W.keepIn K (.ref f3) = true)
    (a4 : PySem.W.nsIn K mainGlobals "_law_is_name" = some (some (.ref f4))) (l4 : K.lookup f4 = some ⟨oc4, od4, .func (PySem.W.fnOf "_law_is_name" "_law_is_name" (defArgs st__law_is_name) (defBody st__law_is_name) (defScope st__law_is_name) .none kV4 dc4 pm4 an4 cd4 ct4), sl4⟩) (c4 : PySem.W.codeIn K cd4 "_law_is_name" = true) (k4 : PySem.W.keepIn K (.ref f4) = true)
    (a5 : PySem.W.nsIn K mainGlobals "is_name" = some (some (.ref f5))) (l5 : K.lookup f5 = some ⟨oc5, od5, .func (PySem.W.fnOf "is_name" "is_name" (defArgs st_is_name) (defBody st_is_name) (defScope st_is_name) .none kV5 dc5 pm5 an5 cd5 ct5), sl5⟩) (c5 : PySem.W.codeIn K cd5 "is_name" = true) (k5 : PySem.W.keepIn K (.ref f5) = true)
    (a6 : PySem.W.nsIn K mainGlobals "_law_is_long" = some (some (.ref f6))) (l6 : K.lookup f6 = some ⟨oc6, od6, .func (PySem.W.fnOf "_law_is_long" "_law_is_long" (defArgs st__law_is_long) (defBody st__law_is_long) (defScope st__law_is_long) .none kV6 dc6 pm6 an6 cd6 ct6), sl6⟩) (c6 : PySem.W.codeIn K cd6 "_law_is_long" = true) (k6 : PySem.W.keepIn K (.ref f6) = true)
    (a7 : PySem.W.nsIn K mainGlobals "is_long_name" = some (some (.ref f7))) (l7 : K.lookup f7 = some ⟨oc7, od7, .func (PySem.W.fnOf "is_long_name" "is_long_name" (defArgs st_is_long_name) (defBody st_is_long_name) (defScope st_is_long_name) .none kV7 dc7 pm7 an7 cd7 ct7), sl7⟩) (c7 : PySem.W.codeIn K cd7 "is_long_name" = true) (k7 : PySem.W.keepIn K (.ref f7) = true)
    (a8 : PySem.W.nsIn K mainGlobals "_law_told" = some (some (.ref f8))) (l8 : K.lookup f8 = some ⟨oc8, od8, .func (PySem.W.fnOf "_law_told" "_law_told" (defArgs st__law_told) (defBody st__law_told) (defScope st__law_told) .none kV8 dc8 pm8 an8 cd8 ct8), sl8⟩) (c8 : PySem.W.codeIn K cd8 "_law_told" = true) (k8 : PySem.W.keepIn K (.ref f8) = true)
    (a9 : PySem.W.nsIn K mainGlobals "_law_draw" = some (some (.ref f9))) (l9 : K.lookup f9 = some ⟨oc9, od9, .func (PySem.W.fnOf "_law_draw" "_law_draw" (defArgs st__law_draw) (defBody st__law_draw) (defScope st__law_draw) .none kV9 dc9 pm9 an9 cd9 ct9), sl9⟩) (c9 : PySem.W.codeIn K cd9 "_law_draw" = true) (k9 : PySem.W.keepIn K (.ref f9) = true)
    (a10 : PySem.W.nsIn K mainGlobals "_law_named" = some (some (.ref f10))) (l10 : K.lookup f10 = some ⟨oc10, od10, .func (PySem.W.fnOf "_law_named" "_law_named" (defArgs st__law_named) (defBody st__law_named) (defScope st__law_named) .none kV10 dc10 pm10 an10 cd10 ct10), sl10⟩) (c10 : PySem.W.codeIn K cd10 "_law_named" = true) (k10 : PySem.W.keepIn K (.ref f10) = true)
    (a11 : PySem.W.nsIn K mainGlobals "_law_alphabet" = some (some (.ref f11))) (l11 : K.lookup f11 = some ⟨oc11, od11, .func (PySem.W.fnOf "_law_alphabet" "_law_alphabet" (defArgs st__law_alphabet) (defBody st__law_alphabet) (defScope st__law_alphabet) .none kV11 dc11 pm11 an11 cd11 ct11), sl11⟩) (c11 : PySem.W.codeIn K cd11 "_law_alphabet" = true) (k11 : PySem.W.keepIn K (.ref f11) = true)
    (a12 : PySem.W.nsIn K mainGlobals "_law_bent" = some (some (.ref f12))) (l12 : K.lookup f12 = some ⟨oc12, od12, .func (PySem.W.fnOf "_law_bent" "_law_bent" (defArgs st__law_bent) (defBody st__law_bent) (defScope st__law_bent) .none kV12 dc12 pm12 an12 cd12 ct12), sl12⟩) (c12 : PySem.W.codeIn K cd12 "_law_bent" = true) (k12 : PySem.W.keepIn K (.ref f12) = true)
    (a13 : PySem.W.nsIn K mainGlobals "_law_joined" = some (some (.ref f13))) (l13 : K.lookup f13 = some ⟨oc13, od13, .func (PySem.W.fnOf "_law_joined" "_law_joined" (defArgs st__law_joined) (defBody st__law_joined) (defScope st__law_joined) .none kV13 dc13 pm13 an13 cd13 ct13), sl13⟩) (c13 : PySem.W.codeIn K cd13 "_law_joined" = true) (k13 : PySem.W.keepIn K (.ref f13) = true)
    (a14 : PySem.W.nsIn K mainGlobals "_law_any_text" = some (some (.ref f14))) (l14 : K.lookup f14 = some ⟨oc14, od14, .func (PySem.W.fnOf "_law_any_text" "_law_any_text" (defArgs st__law_any_text) (defBody st__law_any_text) (defScope st__law_any_text) .none kV14 dc14 pm14 an14 cd14 ct14), sl14⟩) (c14 : PySem.W.codeIn K cd14 "_law_any_text" = true) (k14 : PySem.W.keepIn K (.ref f14) = true)
    (a15 : PySem.W.nsIn K mainGlobals "_law_taken" = some (some (.ref f15))) (l15 : K.lookup f15 = some ⟨oc15, od15, .func (PySem.W.fnOf "_law_taken" "_law_taken" (defArgs st__law_taken) (defBody st__law_taken) (defScope st__law_taken) .none kV15 dc15 pm15 an15 cd15 ct15), sl15⟩) (c15 : PySem.W.codeIn K cd15 "_law_taken" = true) (k15 : PySem.W.keepIn K (.ref f15) = true)
    (a16 : PySem.W.nsIn K mainGlobals "_law_free" = some (some (.ref f16))) (l16 : K.lookup f16 = some ⟨oc16, od16, .func (PySem.W.fnOf "_law_free" "_law_free" (defArgs st__law_free) (defBody st__law_free) (defScope st__law_free) .none kV16 dc16 pm16 an16 cd16 ct16), sl16⟩) (c16 : PySem.W.codeIn K cd16 "_law_free" = true) (k16 : PySem.W.keepIn K (.ref f16) = true)
    (a17 : PySem.W.nsIn K mainGlobals "fresh" = some (some (.ref f17))) (l17 : K.lookup f17 = some ⟨oc17, od17, .func (PySem.W.fnOf "fresh" "fresh" (defArgs st_fresh) (defBody st_fresh) (defScope st_fresh) .none kV17 dc17 pm17 an17 cd17 ct17), sl17⟩) (c17 : PySem.W.codeIn K cd17 "fresh" = true) (k17 : PySem.W.keepIn K (.ref f17) = true)
    (a18 : PySem.W.nsIn K mainGlobals "_law_chosen" = some (some (.ref f18))) (l18 : K.lookup f18 = some ⟨oc18, od18, .func (PySem.W.fnOf "_law_chosen" "_law_chosen" (defArgs st__law_chosen) (defBody st__law_chosen) (defScope st__law_chosen) .none kV18 dc18 pm18 an18 cd18 ct18), sl18⟩) (c18 : PySem.W.codeIn K cd18 "_law_chosen" = true) (k18 : PySem.W.keepIn K (.ref f18) = true)
    (a19 : PySem.W.nsIn K mainGlobals "law" = some (some (.ref f19))) (l19 : K.lookup f19 = some ⟨oc19, od19, .func (PySem.W.fnOf "law" "law" (defArgs st_law) (defBody st_law) (defScope st_law) .none kV19 dc19 pm19 an19 cd19 ct19), sl19⟩) (c19 : PySem.W.codeIn K cd19 "law" = true) (k19 : PySem.W.keepIn K (.ref f19) = true)
    (z_abs : PySem.W.nsIn K mainGlobals "abs" = some none)
    (z_all : PySem.W.nsIn K mainGlobals "all" = some none)
    (z_enumerate : PySem.W.nsIn K mainGlobals "enumerate" = some none)
    (z_int : PySem.W.nsIn K mainGlobals "int" = some none)
    (z_isinstance : PySem.W.nsIn K mainGlobals "isinstance" = some none)
    (z_len : PySem.W.nsIn K mainGlobals "len" = some none)
    (z_list : PySem.W.nsIn K mainGlobals "list" = some none)
    (z_range : PySem.W.nsIn K mainGlobals "range" = some none)
    (z_str : PySem.W.nsIn K mainGlobals "str" = some none)
    (z_tuple : PySem.W.nsIn K mainGlobals "tuple" = some none)
    (v_MOST_PIECES : PySem.W.nsIn K mainGlobals "MOST_PIECES" = some (some (.int (40) t_MOST_PIECES)))
    (v_MOST_SIGNS : PySem.W.nsIn K mainGlobals "MOST_SIGNS" = some (some (.int (12) t_MOST_SIGNS)))
    (v_RESERVED : PySem.W.nsIn K mainGlobals "RESERVED" = some (some (.ref q_RESERVED))) (u_RESERVED : K.lookup q_RESERVED = some ⟨.type "tuple", dd_RESERVED, .seq it_RESERVED n_RESERVED, s_RESERVED⟩) (x_RESERVED : absEs K_RESERVED it_RESERVED.toList = true) (y_RESERVED : it_RESERVED.size ≤ sizeLine)
    (hF : ∀ ns : List Int, ns.length ≤ 63 → ∃ a', F_law [.fz (.scr ns)] = .ok (.val (.bl true)) a') :
    ∃ fd : FuncData, (∀ (s : Shared) (v : Value), BindsTo s fd ⟨[v], []⟩ [("script", v)]) ∧ ∀ base : Heap, K.In base → base.Ns mainGlobals mg → FnOk l.prog w K mg base (L2.CX l.prog w) 5 fa fd ["script"] (spLaw K) := by
  have T : Tx K mg := ⟨PySem.W.mg_none_of X G z_abs, PySem.W.mg_none_of X G z_all, PySem.W.mg_none_of X G z_enumerate, PySem.W.mg_none_of X G z_int, PySem.W.mg_none_of X G z_isinstance, PySem.W.mg_none_of X G z_len, PySem.W.mg_none_of X G z_list, PySem.W.mg_none_of X G z_range, PySem.W.mg_none_of X G z_str, PySem.W.mg_none_of X G z_tuple, ⟨_, PySem.W.mg_of X G v_MOST_PIECES⟩, ⟨_, PySem.W.mg_of X G v_MOST_SIGNS⟩, tupK_mk X G v_RESERVED u_RESERVED x_RESERVED y_RESERVED⟩
  have D0 := defK_mk (x := "_law_pool") (qual := "_law_pool") (st := st__law_pool) (ps := ["script"]) X G a0 l0 c0 k0 fun _ _ _ _ _ _ us hl => match us, hl with | [_], _ => rfl
  have D1 := defK_mk (x := "_law_reserved") (qual := "_law_reserved") (st := st__law_reserved) (ps := []) X G a1 l1 c1 k1 fun _ _ _ _ _ _ us hl => match us, hl with | [], _ => rfl
  have D2 := defK_mk (x := "_law_fixed") (qual := "_law_fixed") (st := st__law_fixed) (ps := []) X G a2 l2 c2 k2 fun _ _ _ _ _ _ us hl => match us, hl with | [], _ => rfl
  have D3 := defK_mk (x := "_law_right") (qual := "_law_right") (st := st__law_right) (ps := ["answer", "due"]) X G a3 l3 c3 k3 fun _ _ _ _ _ _ us hl => match us, hl with | [_, _], _ => rfl
  have D4 := defK_mk (x := "_law_is_name") (qual := "_law_is_name") (st := st__law_is_name) (ps := ["text"]) X G a4 l4 c4 k4 fun _ _ _ _ _ _ us hl => match us, hl with | [_], _ => rfl
  have D5 := defK_mk (x := "is_name") (qual := "is_name") (st := st_is_name) (ps := ["text"]) X G a5 l5 c5 k5 fun _ _ _ _ _ _ us hl => match us, hl with | [_], _ => rfl
  have D6 := defK_mk (x := "_law_is_long") (qual := "_law_is_long") (st := st__law_is_long) (ps := ["text"]) X G a6 l6 c6 k6 fun _ _ _ _ _ _ us hl => match us, hl with | [_], _ => rfl
  have D7 := defK_mk (x := "is_long_name") (qual := "is_long_name") (st := st_is_long_name) (ps := ["text"]) X G a7 l7 c7 k7 fun _ _ _ _ _ _ us hl => match us, hl with | [_], _ => rfl
  have D8 := defK_mk (x := "_law_told") (qual := "_law_told") (st := st__law_told) (ps := ["text"]) X G a8 l8 c8 k8 fun _ _ _ _ _ _ us hl => match us, hl with | [_], _ => rfl
  have D9 := defK_mk (x := "_law_draw") (qual := "_law_draw") (st := st__law_draw) (ps := ["hand", "many"]) X G a9 l9 c9 k9 fun _ _ _ _ _ _ us hl => match us, hl with | [_, _], _ => rfl
  have D10 := defK_mk (x := "_law_named") (qual := "_law_named") (st := st__law_named) (ps := ["hand", "most"]) X G a10 l10 c10 k10 fun _ _ _ _ _ _ us hl => match us, hl with | [_, _], _ => rfl
  have D11 := defK_mk (x := "_law_alphabet") (qual := "_law_alphabet") (st := st__law_alphabet) (ps := []) X G a11 l11 c11 k11 fun _ _ _ _ _ _ us hl => match us, hl with | [], _ => rfl
  have D12 := defK_mk (x := "_law_bent") (qual := "_law_bent") (st := st__law_bent) (ps := ["hand", "text"]) X G a12 l12 c12 k12 fun _ _ _ _ _ _ us hl => match us, hl with | [_, _], _ => rfl
  have D13 := defK_mk (x := "_law_joined") (qual := "_law_joined") (st := st__law_joined) (ps := ["hand"]) X G a13 l13 c13 k13 fun _ _ _ _ _ _ us hl => match us, hl with | [_], _ => rfl
  have D14 := defK_mk (x := "_law_any_text") (qual := "_law_any_text") (st := st__law_any_text) (ps := ["hand"]) X G a14 l14 c14 k14 fun _ _ _ _ _ _ us hl => match us, hl with | [_], _ => rfl
  have D15 := defK_mk (x := "_law_taken") (qual := "_law_taken") (st := st__law_taken) (ps := ["hand", "name"]) X G a15 l15 c15 k15 fun _ _ _ _ _ _ us hl => match us, hl with | [_, _], _ => rfl
  have D16 := defK_mk (x := "_law_free") (qual := "_law_free") (st := st__law_free) (ps := ["name", "held"]) X G a16 l16 c16 k16 fun _ _ _ _ _ _ us hl => match us, hl with | [_, _], _ => rfl
  have D17 := defK_mk (x := "fresh") (qual := "fresh") (st := st_fresh) (ps := ["name", "taken"]) X G a17 l17 c17 k17 fun _ _ _ _ _ _ us hl => match us, hl with | [_, _], _ => rfl
  have D18 := defK_mk (x := "_law_chosen") (qual := "_law_chosen") (st := st__law_chosen) (ps := ["hand"]) X G a18 l18 c18 k18 fun _ _ _ _ _ _ us hl => match us, hl with | [_], _ => rfl
  have D19 := defK_mk (x := "law") (qual := "law") (st := st_law) (ps := ["script"]) X G a19 l19 c19 k19 fun _ _ _ _ _ _ us hl => match us, hl with | [_], _ => rfl
  refine law_fn (c := ⟨K, fun _ => none⟩) rfl hF hfa D19 fun base _ _ => ?_
  have h0 := ok__law_pool (P := l.prog) (w := w) (base := base) (ca := fun _ => none) T D0 
  have h1 := ok__law_reserved (P := l.prog) (w := w) (base := base) (ca := fun _ => none) T D1 
  have h2 := ok__law_fixed (P := l.prog) (w := w) (base := base) (ca := fun _ => none) T D2 h1
  have h3 := ok__law_right (P := l.prog) (w := w) (base := base) (ca := fun _ => none) T D3 
  have h4 := ok__law_is_name (P := l.prog) (w := w) (base := base) (ca := fun _ => none) T D4 h1
  have h5 := ok_is_name (P := l.prog) (w := w) (base := base) (ca := fun _ => none) T D5 
  have h6 := ok__law_is_long (P := l.prog) (w := w) (base := base) (ca := fun _ => none) T D6 h4
  have h7 := ok_is_long_name (P := l.prog) (w := w) (base := base) (ca := fun _ => none) T D7 h5
  have h8 := ok__law_told (P := l.prog) (w := w) (base := base) (ca := fun _ => none) T D8 h3 h4 h5 h6 h7
  have h9 := ok__law_draw (P := l.prog) (w := w) (base := base) (ca := fun _ => none) T D9 
  have h10 := ok__law_named (P := l.prog) (w := w) (base := base) (ca := fun _ => none) T D10 h9 h1
  have h11 := ok__law_alphabet (P := l.prog) (w := w) (base := base) (ca := fun _ => none) T D11 
  have h12 := ok__law_bent (P := l.prog) (w := w) (base := base) (ca := fun _ => none) T D12 h9 h11
  have h13 := ok__law_joined (P := l.prog) (w := w) (base := base) (ca := fun _ => none) T D13 h9 h10 h12
  have h14 := ok__law_any_text (P := l.prog) (w := w) (base := base) (ca := fun _ => none) T D14 h9 h13 h1 h12 h10 h11
  have h15 := ok__law_taken (P := l.prog) (w := w) (base := base) (ca := fun _ => none) T D15 h9
  have h16 := ok__law_free (P := l.prog) (w := w) (base := base) (ca := fun _ => none) T D16 
  have h17 := ok_fresh (P := l.prog) (w := w) (base := base) (ca := fun _ => none) T D17 
  have h18 := ok__law_chosen (P := l.prog) (w := w) (base := base) (ca := fun _ => none) T D18 h10 h15 h16 h17 h9
  have h19 := ok_law (P := l.prog) (w := w) (base := base) (ca := fun _ => none) T D19 h0 h2 h8 h14 h18
  exact h19
theorem walk {l : PySem.W.OpenLaw} {q : Program} {loose : List Str} {XP : (Str → Option Value) → Heap → Prop} {YP : World → Heap → Prop} {d : DefRec} {K : Params → PySem.W.Frag} (hn : l.most = some 63) (hdf : d.params.defaults = [])
    (hY : ∀ (w : World) (h : Heap), YP w h → (K w.params).In h)
    (F : ∀ (w : World) (mg : Str → Option Value) (fa : Addr) (h : Heap), (K w.params).In h → h.Ns mainGlobals mg → mg d.name = some (.ref fa) →
      ∃ fd : FuncData, (∀ (s : Shared) (u : Value), BindsTo s fd ⟨[u], []⟩ [("script", u)]) ∧ ∀ base : Heap, (K w.params).In base → base.Ns mainGlobals mg → FnOk l.prog w (K w.params) mg base (L2.CX l.prog w) 5 fa fd ["script"] (spLaw (K w.params))) :
    PySem.W.WalkO q loose XP YP l.row.toRowW d [] (fun f vs => PySem.call f vs) := by
  refine L2.walk_of (n := 63) (k := 5) (x := "script") (CX := fun w => L2.CX l.prog w) (sp := fun w => spLaw (K w.params)) hn (by decide) hdf ⟨rfl, by decide, by decide⟩ hY F (fun _ _ a ns hl _ hS => ⟨a, ns, rfl, hS, hl, fun _ => rfl⟩) fun w H s e s' z => ?_
  obtain ⟨_, _, _, _, _, _, _, _, _, _, _, _, z⟩ := z
  exact z.elim
end DL

/-! K3m: what the defs of k03 compute. -/
namespace DL
open PySem PySem.Spec
abbrev HS (k : Bool) (hs : List Int) : Sl := .ow k (.lst (hs.map .int))
theorem run_right (b c : Bool) : F__law_right [.fz (.bl b), .fz (.bl c)] = .ok (.val (.bl (b == c))) [.fz (.bl b), .fz (.bl c)] := by
  unfold F__law_right d__law_right
  rw [x_run]
  cases b <;> cases c <;> simp
theorem ix_0 {d : D} {ds : List D} : opIx (.lst (d :: ds)) (.int 0) = some (.val d) := by
  show (L2.atI (d :: ds) 0).map R.val = _
  rw [show L2.atI (d :: ds) 0 = some d from L2.atI_nat (xs := d :: ds) (j := 0) rfl]
  rfl
theorem set_0 {d e : D} {ds : List D} : setO (.lst (d :: ds)) (.int 0) e = some (.lst (e :: ds)) := by
  show (L2.ixN (d :: ds).length 0).map (fun j => OV.lst ((d :: ds).set j e)) = _
  have : L2.ixN (d :: ds).length 0 = some 0 := by
    unfold L2.ixN
    simp
  rw [this]
  rfl
theorem log_ok {m : Int} (h : m ≤ 1000) (h0 : 0 < m) : m.natAbs.log2 < 9000 := by
  have := Nat.log2_le_self m.natAbs
  omega
theorem draw_loop (many : Int) : ∀ (xs : List Int) (x : Int), ∃ h hs', sWhile t2__law_draw b1__law_draw
    [HS true (x :: xs), .fz (.int many), .no] = .nx [HS true (h :: hs'), .fz (.int many), .no]
  | [], x => ⟨x, [], while_stop (by simp [t2__law_draw])⟩
  | y :: ys, x => by
    by_cases hx : x = 0
    · obtain ⟨h, hs', e⟩ := draw_loop many ys y
      refine ⟨h, hs', while_go (ρ1 := [HS true (x :: y :: ys), .fz (.int many), .no]) (ρ2 := [HS true (y :: ys), .fz (.int many), .no]) ?_ ?_ e (fun q => by cases q)⟩
      · have : decide ((1 : Int) < (ys.length : Int) + 1 + 1) = true := decide_eq_true (by omega)
        simp [t2__law_draw, ix_0, hx, this]
      · simp [b1__law_draw]
    · refine ⟨x, y :: ys, while_stop ?_⟩
      have : decide ((1 : Int) < (ys.length : Int) + 1 + 1) = true := decide_eq_true (by omega)
      simp [t2__law_draw, ix_0, hx, this]
theorem draw (hs : List Int) (hne : hs ≠ []) (many : Int) (h0 : 0 < many) (h1 : many ≤ 1000) : ∃ d hs', hs' ≠ [] ∧ 0 ≤ d ∧ d < many ∧ F__law_draw [HS true hs, .fz (.int many)] = .ok (.val (.int d)) [HS true hs', .fz (.int many)] := by
  obtain ⟨x, xs, rfl⟩ := List.exists_cons_of_ne_nil hne
  obtain ⟨h, hs', e⟩ := draw_loop many xs x
  refine ⟨h % many, h / many :: hs', List.cons_ne_nil _ _, Int.emod_nonneg _ (by omega), Int.emod_lt_of_pos _ h0, ?_⟩
  unfold F__law_draw d__law_draw
  rw [x_run]
  show finK _ (sSeq _ _ [HS true (x :: xs), .fz (.int many), .no]) = _
  rw [x_seq, e]
  simp [ix_0, set_0, r_modI h0, r_fdivI h0 (log_ok h1 h0)]

/-! ### the pool -/
def Fr (s : Sl) : Prop := s = .no ∨ ∃ d, s = .fz d
theorem Fr.ok {s : Sl} (h : Fr s) : okS (some s) = true := by rcases h with rfl | ⟨d, rfl⟩ <;> rfl
theorem Fr.fz {d : D} : Fr (.fz d) := .inr ⟨d, rfl⟩
theorem Fr.no : Fr .no := .inl rfl
theorem r_pow {i j : Int} (h : (decide (0 ≤ j) && decide ((Builtin.Int.intBits i : Int) * j ≤ 2 ^ 27)) = true) : opPow (.int i) (.int j) = some (.val (.int (i ^ j.toNat))) := by
  show (if (decide (0 ≤ j) && decide ((Builtin.Int.intBits i : Int) * j ≤ 2 ^ 27)) = true then vI (i ^ j.toNat) else none) = _
  rw [if_pos h]; rfl
theorem mulL {i j : Int} (h1 : 0 ≤ i) (h2 : i < 2 ^ 64) : mulOk i j = true := by
  unfold mulOk
  simp only [Bool.or_eq_true, Bool.and_eq_true, decide_eq_true_eq]
  exact .inl ⟨by omega, h2⟩
theorem mulR {i j : Int} (h1 : 0 ≤ j) (h2 : j < 2 ^ 64) : mulOk i j = true := by
  unfold mulOk
  simp only [Bool.or_eq_true, Bool.and_eq_true, decide_eq_true_eq]
  exact .inr ⟨by omega, h2⟩
def PIn (s0 s1 s3 : Sl) (a : Int) (ks : List D) (ρ : Ro) : Prop := (∀ d ∈ ks, ∃ k, d = .int k) ∧ ∃ z l s6, ρ = [s0, s1, .fz (.int a), s3, .fz (.int z), .fz (.int l), s6] ∧ 0 ≤ l ∧ l < 2 ^ 32 ∧ Fr s6
theorem pool_in {s0 s1 s3 : Sl} {a : Int} {ks : List D} {ρ : Ro} (h : PIn s0 s1 s3 a ks ρ) : ∃ ρ', loopF (tgName 6) b1__law_pool ks ρ = .nx ρ' ∧ PIn s0 s1 s3 a [] ρ' := by
  refine loop_inv (PIn s0 s1 s3 a) ?_ h
  rintro d ds ρ ⟨hd, z, l, s6, rfl, l0, l1, f6⟩
  obtain ⟨k, rfl⟩ := hd _ List.mem_cons_self
  refine ⟨[s0, s1, .fz (.int a), s3, .fz (.int z), .fz (.int l), .fz (.int k)], by simp [f6.ok], ?_⟩
  refine ⟨[s0, s1, .fz (.int a), s3, .fz (.int (z * 2147483629 + (l * l + 48271 * k + a + 5) % 2147483629)), .fz (.int ((l * l + 48271 * k + a + 5) % 2147483629)), .fz (.int k)], .inl ?_, fun d h => hd d (List.mem_cons_of_mem _ h), _, _, _, rfl, Int.emod_nonneg _ (by decide), ?_, .fz⟩
  · simp [b1__law_pool, r_mulI (mulL l0 (Int.lt_trans l1 (by decide))), r_mulI (mulL (i := 48271) (j := k) (by decide) (by decide)), r_mulI (mulR (i := z) (j := 2147483629) (by decide) (by decide)), r_modI (j := 2147483629)]
  · exact Int.lt_trans (Int.emod_lt_of_pos _ (by decide)) (by decide)
def POut (s0 : Sl) (ks : List D) (ρ : Ro) : Prop := (∀ d ∈ ks, ∃ a z, d = .tup [.int a, .int z]) ∧ ∃ hs s2 s3 s4 s5 s6, ρ = [s0, HS false hs, s2, s3, s4, s5, s6] ∧ Fr s2 ∧ Fr s3 ∧ Fr s4 ∧ Fr s5 ∧ Fr s6 ∧ hs.length + ks.length ≤ 63
theorem pool_out {s0 : Sl} {ks : List D} {ρ : Ro} (h : POut s0 ks ρ) : ∃ ρ', loopF (tgTup 2 (tgCons (tgName 2) (tgCons (tgName 3) tgNil))) b2__law_pool ks ρ = .nx ρ' ∧ POut s0 [] ρ' := by
  refine loop_inv (POut s0) ?_ h
  rintro d ds ρ ⟨hd, hs, s2, s3, s4, s5, s6, rfl, f2, f3, f4, f5, f6, hl⟩
  obtain ⟨a, z, rfl⟩ := hd _ List.mem_cons_self
  rw [List.length_cons] at hl
  have hsz : hs.length < sizeLine := by have := sizeLine_eq; omega
  have hp : (0 : Int) < (10 ^ 60) ^ 10 := Int.pow_pos (Int.pow_pos (by decide))
  have e18 : opPow (.int 10) (.int 18) = some (.val (.int (10 ^ 18))) := r_pow (by decide +kernel)
  have e60 : opPow (.int 10) (.int 60) = some (.val (.int (10 ^ 60))) := r_pow (by decide +kernel)
  have e600 : opPow (.int (10 ^ 60)) (.int 10) = some (.val (.int ((10 ^ 60) ^ 10))) := r_pow (by decide +kernel)
  generalize ((10 : Int) ^ 60) ^ 10 = T6 at hp e600
  generalize (10 : Int) ^ 60 = T5 at e60 e600
  generalize (10 : Int) ^ 18 = B at e18
  have app : ∀ v : Int, moAppend (.lst (hs.map .int)) [.int v] = some (.non, .lst ((hs ++ [v]).map .int)) := fun v => by
    rw [r_append (by rw [List.length_map]; exact hsz), List.map_append]; rfl
  refine ⟨[s0, HS false hs, .fz (.int a), .fz (.int z), s4, s5, s6], by simp [f2.ok, f3.ok], ?_⟩
  generalize hz : (if z < 0 then -z else z) = y
  by_cases hb : y < B
  · obtain ⟨ρ2, e2, _, y2, l2, s6', rfl, _, _, f6'⟩ := pool_in (s0 := s0) (s1 := HS false hs) (s3 := .fz (.int z)) (a := a) (ks := rangeD 0 7)
      (ρ := [s0, HS false hs, .fz (.int a), .fz (.int z), .fz (.int (((y + 7) * 1103515245 + a * 905842137) % 2147483647)), .fz (.int (((y + 7) * 1103515245 + a * 905842137) % 2147483647)), s6])
      ⟨fun d h => by
        obtain ⟨i, _, rfl⟩ := List.mem_map.mp h
        exact ⟨_, rfl⟩, _, _, _, rfl, Int.emod_nonneg _ (by decide), Int.lt_trans (Int.emod_lt_of_pos _ (by decide)) (by decide), f6⟩
    refine ⟨[s0, HS false (hs ++ [y2 % T6]), .fz (.int a), .fz (.int z), .fz (.int y2), .fz (.int l2), s6'], .inl ?_, fun d h => hd d (List.mem_cons_of_mem _ h), _, _, _, _, _, _, rfl, .fz, .fz, .fz, .fz, f6', by simp; omega⟩
    have fit : fits62 7 = true := by decide
    have t7 : (7 : Int).toNat = 7 := rfl
    simp only [HS] at e2
    simp [b2__law_pool, hz, e18, hb, f4.ok, f5.ok, r_mulI (mulR (i := y + 7) (j := 1103515245) (by decide) (by decide)), r_mulI (mulR (i := a) (j := 905842137) (by decide) (by decide)), r_modI (j := 2147483647), fit, t7, e2, e60, e600, r_modI hp, app]
  · refine ⟨[s0, HS false (hs ++ [y % T6]), .fz (.int a), .fz (.int z), .fz (.int y), s5, s6], .inl ?_, fun d h => hd d (List.mem_cons_of_mem _ h), _, _, _, _, _, _, rfl, .fz, .fz, .fz, f5, f6, by simp; omega⟩
    simp [b2__law_pool, hz, e18, hb, f4.ok, e60, e600, r_modI hp, app]
theorem pool (ns : List Int) : ∃ hs, hs ≠ [] ∧ F__law_pool [.fz (.scr ns)] = .ok (.nw (.lst (hs.map .int))) [.fz (.scr ns)] := by
  have hcut : (cutD (ns.map D.int) none (some 63)).length ≤ 63 := by
    unfold cutD
    rw [List.length_take]
    have : HT.sIx (ns.map D.int).length (ns.map D.int).length (some 63) ≤ 63 := by
      show (if (63 : Int) < 0 then (63 + ((ns.map D.int).length : Int)).toNat else min (63 : Int).toNat (ns.map D.int).length) ≤ 63
      rw [if_neg (by decide)]
      exact Nat.min_le_left _ _
    omega
  have hmem : ∀ d ∈ cutD (ns.map D.int) none (some 63), ∃ z, d = D.int z := fun d h => by
    unfold cutD at h
    have := List.mem_of_mem_drop (List.mem_of_mem_take h)
    obtain ⟨z, _, rfl⟩ := List.mem_map.mp this
    exact ⟨z, rfl⟩
  obtain ⟨ρ', e, _, hs, s2, s3, s4, s5, s6, rfl, _, _, _, _, _, hl⟩ := pool_out (s0 := .fz (.scr ns)) (ks := enumD (cutD (ns.map D.int) none (some 63))) (ρ := [.fz (.scr ns), HS false [], .no, .no, .no, .no, .no])
    ⟨fun d h => by
      obtain ⟨p, hp, rfl⟩ := List.mem_map.mp h
      obtain ⟨x, i⟩ := p
      obtain ⟨z, rfl⟩ := hmem x (List.fst_mem_of_mem_zipIdx hp)
      exact ⟨_, z, rfl⟩, [], .no, .no, .no, .no, .no, rfl, .no, .no, .no, .no, .no, by rw [enumD_len]; simpa using hcut⟩
  refine ⟨hs ++ [0], by simp, ?_⟩
  unfold F__law_pool d__law_pool
  rw [x_run]
  have hs0 : ([] : List D).length ≤ sizeLine := Nat.zero_le _
  have hs1 : ([D.int 0] : List D).length ≤ sizeLine := by have := sizeLine_eq; simp; omega
  have add : opAdd (.lst (hs.map .int)) (.lst [.int 0]) = some (.nw (.lst ((hs ++ [0]).map .int))) := by
    rw [r_addL (by have := sizeLine_eq; simp at hl ⊢; omega), List.map_append]; rfl
  simp only [HS, List.map_nil] at e
  simp [lstK_s hs0, lstK_s hs1, e, add]
end DL

/-! K3n: k03: names. -/
namespace DL
open PySem PySem.Spec
abbrev cs (x : Str) : List Nat := x.cps.toList
def Asc (n : Nat) (x : Str) : Prop := x.length ≤ n ∧ ∀ c ∈ cs x, c < 128
instance {n : Nat} {x : Str} : Decidable (Asc n x) := inferInstanceAs (Decidable (_ ∧ _))
theorem len_cs (x : Str) : x.length = (cs x).length := by simp [cs, Str.length]
theorem cs_append (x y : Str) : cs (x ++ y) = cs x ++ cs y := by
  show (x ++ y).cps.toList = _
  rw [Str.cps_append, Array.toList_append]
theorem cs_ext {x y : Str} (h : cs x = cs y) : x = y := Str.ext' (Array.toList_inj.mp h)
theorem Asc.append {m n : Nat} {x y : Str} (h : Asc m x) (k : Asc n y) : Asc (m + n) (x ++ y) := by
  refine ⟨by rw [Str.length_append]; exact Nat.add_le_add h.1 k.1, fun c hc => ?_⟩
  rw [cs_append] at hc
  rcases List.mem_append.mp hc with z | z
  · exact h.2 c z
  · exact k.2 c z
theorem Asc.mono {m n : Nat} {x : Str} (h : Asc m x) (l : m ≤ n) : Asc n x := ⟨Nat.le_trans h.1 l, h.2⟩
theorem Asc.one {c : Nat} (h : c < 128) : Asc 1 ⟨#[c]⟩ := ⟨by simp [Str.length], fun d hd => by
  have : d = c := by simpa [cs] using hd
  omega⟩
theorem Asc.ok {n : Nat} {x : Str} (h : Asc n x) : PyData.strOk x = true := by
  unfold PyData.strOk
  rw [← Array.all_toList, List.all_eq_true]
  intro c hc
  have := h.2 c hc
  exact decide_eq_true (by omega)
theorem Asc.sz {n : Nat} {x : Str} (h : Asc n x) (l : n ≤ 100000 := by decide) : x.length ≤ sizeLine := by
  have := sizeLine_eq
  have := h.1
  omega
def words : List Str := (["after", "all", "and", "arrow", "boot", "branch", "choose", "deep", "defers", "do", "end", "entry", "events", "exit", "false", "feed", "from", "hears", "if", "in", "inner", "is", "keep", "leaf", "none", "not", "on", "one", "or", "outer", "part", "queue", "recall", "shallow", "start", "tell", "tells", "to", "true", "use", "value", "whole", "words"] : List String).map Str.ofString
theorem K_eq : K_RESERVED = words.map .str := rfl
theorem run_reserved : F__law_reserved [] = .ok (.nw (.lst (words.map .str))) [] := by
  unfold F__law_reserved d__law_reserved
  rw [x_run]
  have e1 : opAdd (.str "after all and arrow boot branch choose deep defers do end entry events exit false feed") (.str " from hears if in inner is keep leaf none not on one or outer part queue recall") = some (.val (.str ("after all and arrow boot branch choose deep defers do end entry events exit false feed" ++ " from hears if in inner is keep leaf none not on one or outer part queue recall"))) := r_addS (by decide +kernel)
  have e2 : opAdd (.str ("after all and arrow boot branch choose deep defers do end entry events exit false feed" ++ " from hears if in inner is keep leaf none not on one or outer part queue recall")) (.str " shallow start tell tells to true use value whole words") = some (.val (.str ("after all and arrow boot branch choose deep defers do end entry events exit false feed" ++ " from hears if in inner is keep leaf none not on one or outer part queue recall" ++ " shallow start tell tells to true use value whole words"))) := r_addS (by decide +kernel)
  have e3 : mSplit ("after all and arrow boot branch choose deep defers do end entry events exit false feed" ++ " from hears if in inner is keep leaf none not on one or outer part queue recall" ++ " shallow start tell tells to true use value whole words") [.str " "] = some (.nw (.lst (words.map .str))) := by
    generalize hz : ("after all and arrow boot branch choose deep defers do end entry events exit false feed" ++ " from hears if in inner is keep leaf none not on one or outer part queue recall" ++ " shallow start tell tells to true use value whole words" : Str) = z
    have h1 : ((((" " : Str).length != 0) && decide (z.length + 2 ≤ sizeLine)) = true) := by rw [← hz]; decide +kernel
    have h2 : Txt.split z " " = words := by rw [← hz]; decide +kernel
    show (if (((" " : Str).length != 0) && decide (z.length + 2 ≤ sizeLine)) = true then some (R.nw (.lst ((Txt.split z " ").map .str))) else none) = _
    rw [if_pos h1, h2]
  simp [e1, e2, e3]
def inW (x : Str) : Bool := words.any (· == x)
theorem any_words (x : Str) : ((words.map D.str).any fun z => eqF z (.str x)) = inW x := by
  rw [List.any_map]; rfl
def az (c : Nat) : Bool := decide (c ∈ cs "abcdefghijklmnopqrstuvwxyz")
def dg (c : Nat) : Bool := decide (c ∈ cs "0123456789")
/-! ### is_name -/
def hd0 (x : Str) : Nat := (cs x).headD 0
def isName (x : Str) : Bool := decide (1 ≤ x.length) && decide (x.length ≤ 12) && Txt.isascii x && Unicode.isAlpha (hd0 x) && Txt.isalnum x && Txt.islower x && !inW x
theorem ix_head {x : Str} (h : 1 ≤ x.length) (hz : x.length ≤ sizeLine) : opIx (.str x) (.int 0) = some (.val (.str ⟨#[hd0 x]⟩)) := by
  show (if x.length ≤ sizeLine then (L2.atI x.cps.toList 0).bind (fun c => vS ⟨#[c]⟩) else none) = _
  rw [if_pos hz]
  have e : L2.atI x.cps.toList 0 = some (hd0 x) := by
    unfold hd0
    rw [len_cs] at h
    cases q : cs x with
    | nil => rw [q] at h; simp at h
    | cons a l =>
      have q : x.cps.toList = a :: l := q
      rw [q]
      exact L2.atI_nat (xs := a :: l) (j := 0) rfl
  rw [e]; rfl
theorem isalpha1 (c : Nat) : Txt.isalpha ⟨#[c]⟩ = Unicode.isAlpha c := by
  unfold Txt.isalpha
  simp [Str.length]
theorem notin_words (x : Str) : opNotIn (.str x) (.tup K_RESERVED) = some (.val (.bl (!inW x))) := by
  unfold opNotIn
  have : inB (.str x) (.tup K_RESERVED) = some (inW x) := by
    show (if (flatD (.str x) && K_RESERVED.all flatD) = true then some (K_RESERVED.any fun z => eqF z (.str x)) else none) = _
    rw [if_pos (by rfl), K_eq, any_words]
  rw [this]; rfl
theorem run_is_name {x : Str} (hz : x.length ≤ sizeLine) : F_is_name [.fz (.str x)] = .ok (.val (.bl (isName x))) [.fz (.str x)] := by
  unfold F_is_name d_is_name
  rw [x_run]
  by_cases h1 : 1 ≤ x.length
  · have i1 : decide ((1 : Int) ≤ (x.length : Int)) = true := decide_eq_true (by omega)
    by_cases h2 : x.length ≤ 12
    · have i2 : decide ((x.length : Int) ≤ 12) = true := decide_eq_true (by omega)
      cases h3 : Txt.isascii x with
      | false => simp [r_len_str hz, i1, i2, isName, h1, h2, h3]
      | true =>
        cases h4 : Unicode.isAlpha (hd0 x) with
        | false =>
          simp [r_len_str hz, i1, i2, isName, h1, h2, h3, h4, ix_head h1 hz, isalpha1]
        | true =>
          cases h5 : Txt.isalnum x with
          | false => simp [r_len_str hz, i1, i2, isName, h1, h2, h3, h4, ix_head h1 hz, isalpha1, h5]
          | true =>
            cases h6 : Txt.islower x with
            | false => simp [r_len_str hz, i1, i2, isName, h1, h2, h3, h4, ix_head h1 hz, isalpha1, h5, h6]
            | true => simp [r_len_str hz, i1, i2, isName, h1, h2, h3, h4, ix_head h1 hz, isalpha1, h5, h6, notin_words]
    · have i2 : decide ((x.length : Int) ≤ 12) = false := decide_eq_false (by omega)
      simp [r_len_str hz, i1, i2, isName, h1, h2]
  · have i1 : decide ((1 : Int) ≤ (x.length : Int)) = false := decide_eq_false (by omega)
    simp [r_len_str hz, i1, isName, h1]
end DL

/-! K3o: k03: the law's own is_name; both are one. -/
namespace DL
open PySem PySem.Spec
def memS (c : Nat) (y : Str) : Bool := decide (c ∈ cs y)
theorem in_one (c : Nat) (y : Str) : opIn (.str ⟨#[c]⟩) (.str y) = some (.val (.bl (memS c y))) := by
  unfold opIn
  show (some (occB ⟨#[c]⟩ y)).bind vB = _
  have : occB ⟨#[c]⟩ y = memS c y := StrLaws.found_one y c
  rw [this]; rfl
theorem notin_one (c : Nat) (y : Str) : opNotIn (.str ⟨#[c]⟩) (.str y) = some (.val (.bl (!memS c y))) := by
  unfold opNotIn
  show (some (occB ⟨#[c]⟩ y)).bind (fun b => vB (!b)) = _
  have : occB ⟨#[c]⟩ y = memS c y := StrLaws.found_one y c
  rw [this]; rfl
theorem pyOk_strs {ws : List Str} (h : ∀ w ∈ ws, PyData.strOk w = true) : pyOk (.lst (ws.map .str)) = true := by
  have e1 : ∀ ws : List Str, D.datas (ws.map D.str) = true := fun ws => by
    induction ws with
    | nil => rfl
    | cons w ws ih => show (true && D.datas (ws.map D.str)) = true; rw [ih]; rfl
  have e2 : ∀ ws : List Str, (∀ w ∈ ws, PyData.strOk w = true) → PyData.canLayAll0 (D.pys (ws.map D.str)) = true := fun ws h => by
    induction ws with
    | nil => rfl
    | cons w ws ih =>
      show (PyData.strOk w && PyData.canLayAll0 (D.pys (ws.map D.str))) = true
      rw [h w List.mem_cons_self, ih fun v hv => h v (List.mem_cons_of_mem _ hv)]; rfl
  have e0 : ∀ ws : List Str, PyData.depthAll (D.pys (ws.map D.str)) = 0 := fun ws => by
    induction ws with
    | nil => rfl
    | cons w ws ih => show max 0 (PyData.depthAll (D.pys (ws.map D.str))) = 0; rw [ih]; rfl
  have e3 : ∀ ws : List Str, PyData.depth (.list (D.pys (ws.map D.str))) ≤ 64 := fun ws => by
    show PyData.depthAll (D.pys (ws.map D.str)) + 1 ≤ 64
    rw [e0]; decide
  unfold pyOk SeqAt.shaped
  have d1 : (D.lst (ws.map .str)).data = true := e1 ws
  have d2 : (D.lst (ws.map .str)).py.canLay0 = true := e2 ws h
  have d3 : (D.lst (ws.map .str)).py.depth ≤ 64 := e3 ws
  rw [d1, d2, decide_eq_true d3]; rfl
theorem words_ok : ∀ w ∈ words, PyData.strOk w = true := by decide +kernel
theorem in_words {x : Str} (h : PyData.strOk x = true) : opIn (.str x) (.lst (words.map .str)) = some (.val (.bl (inW x))) := by
  unfold opIn
  have : inB (.str x) (.lst (words.map .str)) = some (inW x) := by
    show (if (pyOk (.str x) && pyOk (.lst (words.map .str))) = true then some ((words.map D.str).any fun z => eqF z (.str x)) else none) = _
    rw [pyOk_str h, pyOk_strs words_ok, any_words]; rfl
  rw [this]; rfl
def chk : Nat → List Nat → Bool
  | _, [] => true
  | i, c :: l => (az c || (i != 0 && dg c)) && chk (i + 1) l
def lawName (x : Str) : Bool := decide (1 ≤ x.length) && decide (x.length ≤ 12) && !inW x && chk 0 (cs x)
theorem chk_loop {s0 : Sl} : ∀ (l : List Nat) (i : Nat) (s1 s2 : Sl), Fr s1 → Fr s2 → ∃ s1' s2', loopF (tgTup 2 (tgCons (tgName 1) (tgCons (tgName 2) tgNil))) b1__law_is_name (((l.map fun c => D.str ⟨#[c]⟩).zipIdx i).map fun p => D.tup [.int (p.2 : Nat), p.1]) [s0, s1, s2] =
    if chk i l = true then .nx [s0, s1', s2'] else .ret (.val (.bl false)) [s0, s1', s2']
  | [], i, s1, s2, _, _ => ⟨s1, s2, rfl⟩
  | c :: l, i, s1, s2, f1, f2 => by
    rw [List.map_cons, List.zipIdx_cons, List.map_cons, loop_cons]
    cases ha : az c with
    | true =>
      obtain ⟨s1', s2', e⟩ := chk_loop (s0 := s0) l (i + 1) (.fz (.int i)) (.fz (.str ⟨#[c]⟩)) .fz .fz
      refine ⟨s1', s2', ?_⟩
      have ha' : memS c "abcdefghijklmnopqrstuvwxyz" = true := ha
      have ek : chk i (c :: l) = chk (i + 1) l := by show ((az c || _) && _) = _; rw [ha]; rfl
      rw [ek, ← e]
      simp [f1.ok, f2.ok, x_b1__law_is_name, in_one, ha']
    | false =>
      have ha' : memS c "abcdefghijklmnopqrstuvwxyz" = false := ha
      by_cases hi : i = 0
      · refine ⟨.fz (.int i), .fz (.str ⟨#[c]⟩), ?_⟩
        have ek : chk i (c :: l) = false := by show ((az c || (i != 0 && dg c)) && _) = _; rw [ha, hi]; rfl
        rw [ek]
        simp [f1.ok, f2.ok, x_b1__law_is_name, in_one, ha', hi]
      · have hi' : ((i : Int) == 0) = false := by
          rw [beq_eq_false_iff_ne]; omega
        have hi2 : (i != 0) = true := by simpa using hi
        cases hd : dg c with
        | true =>
          obtain ⟨s1', s2', e⟩ := chk_loop (s0 := s0) l (i + 1) (.fz (.int i)) (.fz (.str ⟨#[c]⟩)) .fz .fz
          refine ⟨s1', s2', ?_⟩
          have hd' : memS c "0123456789" = true := hd
          have ek : chk i (c :: l) = chk (i + 1) l := by show ((az c || (i != 0 && dg c)) && _) = _; rw [ha, hi2, hd]; rfl
          rw [ek, ← e]
          simp [f1.ok, f2.ok, x_b1__law_is_name, in_one, notin_one, ha', hd', hi']
        | false =>
          refine ⟨.fz (.int i), .fz (.str ⟨#[c]⟩), ?_⟩
          have hd' : memS c "0123456789" = false := hd
          have ek : chk i (c :: l) = false := by show ((az c || (i != 0 && dg c)) && _) = _; rw [ha, hi2, hd]; rfl
          rw [ek]
          simp [f1.ok, f2.ok, x_b1__law_is_name, in_one, notin_one, ha', hd', hi']
theorem run_lawName {x : Str} (hz : x.length ≤ sizeLine) (hs : PyData.strOk x = true) : F__law_is_name [.fz (.str x)] = .ok (.val (.bl (lawName x))) [.fz (.str x)] := by
  unfold F__law_is_name d__law_is_name
  rw [x_run]
  by_cases h1 : 1 ≤ x.length
  · have i1 : decide ((1 : Int) ≤ (x.length : Int)) = true := decide_eq_true (by omega)
    by_cases h2 : x.length ≤ 12
    · have i2 : decide ((x.length : Int) ≤ 12) = true := decide_eq_true (by omega)
      cases h3 : inW x with
      | true => simp [r_len_str hz, i1, i2, lawName, h1, h2, h3, run_reserved, in_words hs]
      | false =>
        obtain ⟨s1', s2', e⟩ := chk_loop (s0 := .fz (.str x)) (cs x) 0 .no .no .no .no
        have e : loopF (tgTup 2 (tgCons (tgName 1) (tgCons (tgName 2) tgNil))) b1__law_is_name (enumD (charsD x)) [.fz (.str x), .no, .no] = _ := e
        cases hc : chk 0 (cs x) with
        | true => rw [hc] at e; simp [r_len_str hz, i1, i2, lawName, h1, h2, h3, run_reserved, in_words hs, e, hc]
        | false => rw [hc] at e; simp [r_len_str hz, i1, i2, lawName, h1, h2, h3, run_reserved, in_words hs, e, hc]
    · have i2 : decide ((x.length : Int) ≤ 12) = false := decide_eq_false (by omega)
      simp [r_len_str hz, i1, i2, lawName, h1, h2]
  · have i1 : decide ((1 : Int) ≤ (x.length : Int)) = false := decide_eq_false (by omega)
    simp [r_len_str hz, i1, lawName, h1]
end DL

/-! K3p: k03: is_name is the law's; long names; told. -/
namespace DL
open PySem PySem.Spec
theorem fact_a : ∀ c < 128, Unicode.isAlpha c = (decide (65 ≤ c ∧ c ≤ 90) || decide (97 ≤ c ∧ c ≤ 122)) := by decide +kernel
theorem fact_n : ∀ c < 128, Unicode.isAlnum c = (decide (65 ≤ c ∧ c ≤ 90) || decide (97 ≤ c ∧ c ≤ 122) || decide (48 ≤ c ∧ c ≤ 57)) := by decide +kernel
theorem fact_l : ∀ c < 128, Unicode.isLower c = decide (97 ≤ c ∧ c ≤ 122) := by decide +kernel
theorem fact_u : ∀ c < 128, (Unicode.isUpper c || Unicode.isTitle c) = decide (65 ≤ c ∧ c ≤ 90) := by decide +kernel
theorem fact_z : ∀ c < 128, az c = decide (97 ≤ c ∧ c ≤ 122) := by decide +kernel
theorem fact_d : ∀ c < 128, dg c = decide (48 ≤ c ∧ c ≤ 57) := by decide +kernel
theorem az_lt : ∀ c ∈ cs "abcdefghijklmnopqrstuvwxyz", c < 128 := by decide +kernel
theorem dg_lt : ∀ c ∈ cs "0123456789", c < 128 := by decide +kernel
theorem az_of {c : Nat} (h : az c = true) : c < 128 := az_lt c (of_decide_eq_true h)
theorem dgc_of {c : Nat} (h : dg c = true) : c < 128 := dg_lt c (of_decide_eq_true h)
theorem arr_all {p : Nat → Bool} {x : Str} : x.cps.all p = (cs x).all p := by rw [← Array.all_toList]
theorem arr_any {p : Nat → Bool} {x : Str} : x.cps.any p = (cs x).any p := by rw [← Array.any_toList]
theorem chk_all : ∀ (l : List Nat) (i : Nat), i ≠ 0 → chk i l = l.all fun c => az c || dg c
  | [], _, _ => rfl
  | c :: l, i, h => by
    show ((az c || (i != 0 && dg c)) && chk (i + 1) l) = ((az c || dg c) && l.all _)
    rw [chk_all l (i + 1) (by omega)]
    have : (i != 0) = true := by simpa using h
    rw [this, Bool.true_and]
theorem name_is {x : Str} : isName x = lawName x := by
  unfold isName lawName
  by_cases h1 : 1 ≤ x.length
  · by_cases h2 : x.length ≤ 12
    · rw [decide_eq_true h1, decide_eq_true h2]
      cases hw : inW x with
      | true => simp
      | false =>
        have key : (Txt.isascii x && Unicode.isAlpha (hd0 x) && Txt.isalnum x && Txt.islower x) = chk 0 (cs x) := by
          unfold Txt.isascii Txt.isalnum Txt.islower hd0
          rw [arr_all, arr_all, arr_any, arr_any]
          have hl : decide (x.length > 0) = true := decide_eq_true h1
          rw [hl, Bool.true_and]
          rw [len_cs] at h1
          cases q : cs x with
          | nil => rw [q] at h1; simp at h1
          | cons a l =>
            show _ = ((az a || (0 != 0 && dg a)) && chk 1 l)
            rw [chk_all l 1 (by decide)]
            have z0 : ((0 : Nat) != 0) = false := rfl
            rw [z0, Bool.false_and, Bool.or_false, List.headD_cons]
            rw [Bool.eq_iff_iff]
            simp only [Bool.and_eq_true, List.all_eq_true, List.any_eq_true, decide_eq_true_eq, Bool.not_eq_true', Bool.or_eq_true, Bool.not_eq_eq_eq_not, Bool.not_true]
            constructor
            · rintro ⟨⟨⟨hA, ha⟩, hn⟩, ⟨_, hu⟩⟩
              have nu : ∀ c ∈ a :: l, (Unicode.isUpper c || Unicode.isTitle c) = false := fun c hc => by
                cases e : (Unicode.isUpper c || Unicode.isTitle c) with
                | false => rfl
                | true =>
                  have : (List.any (a :: l) fun c => Unicode.isUpper c || Unicode.isTitle c) = true := List.any_eq_true.mpr ⟨c, hc, e⟩
                  rw [this] at hu; cases hu
              refine ⟨?_, fun c hc => ?_⟩
              · have a128 := hA a List.mem_cons_self
                have h := nu a List.mem_cons_self
                rw [fact_u a a128] at h
                rw [fact_a a a128, h, Bool.false_or] at ha
                rw [fact_z a a128]; exact ha
              · have c128 := hA c (List.mem_cons_of_mem _ hc)
                have h := nu c (List.mem_cons_of_mem _ hc)
                rw [fact_u c c128] at h
                have hn := hn c (List.mem_cons_of_mem _ hc)
                rw [fact_n c c128, h, Bool.false_or] at hn
                rw [fact_z c c128, fact_d c c128]
                simpa using hn
            · rintro ⟨ha, hl⟩
              have good : ∀ c ∈ a :: l, c < 128 ∧ Unicode.isAlnum c = true ∧ (Unicode.isUpper c || Unicode.isTitle c) = false := fun c hc => by
                have hc : az c = true ∨ dg c = true := by
                  rcases List.mem_cons.mp hc with e | e
                  · subst e; exact .inl ha
                  · simpa using hl c e
                rcases hc with e | e
                · have c128 := az_of e
                  rw [fact_z c c128] at e
                  have e' := of_decide_eq_true e
                  refine ⟨c128, ?_, ?_⟩
                  · rw [fact_n c c128, e]; simp
                  · rw [fact_u c c128]; exact decide_eq_false (by omega)
                · have c128 := dgc_of e
                  rw [fact_d c c128] at e
                  have e' := of_decide_eq_true e
                  refine ⟨c128, ?_, ?_⟩
                  · rw [fact_n c c128, e]; simp
                  · rw [fact_u c c128]; exact decide_eq_false (by omega)
              have a128 := az_of ha
              have hz := ha
              rw [fact_z a a128] at hz
              refine ⟨⟨⟨fun c hc => (good c hc).1, ?_⟩, fun c hc => (good c hc).2.1⟩, ⟨a, List.mem_cons_self, ?_⟩, ?_⟩
              · rw [fact_a a a128, hz]; simp
              · rw [fact_l a a128]; exact hz
              · rw [List.any_eq_false]
                intro c hc
                rw [(good c hc).2.2]; simp
        have e1 : (true && true && Txt.isascii x && Unicode.isAlpha (hd0 x) && Txt.isalnum x && Txt.islower x && !false) = (Txt.isascii x && Unicode.isAlpha (hd0 x) && Txt.isalnum x && Txt.islower x) := by simp
        rw [e1, key]
        simp
    · rw [decide_eq_false h2]; simp
  · rw [decide_eq_false h1]; simp
/-! ### long names -/
theorem split_mem {x y p : Str} (h : p ∈ Txt.split x y) : p.length ≤ x.length ∧ ∀ c ∈ cs p, c ∈ cs x := by
  unfold Txt.split at h
  split at h
  · rw [List.mem_singleton] at h; subst h; exact ⟨Nat.le_refl _, fun c h => h⟩
  · split at h
    · rw [List.mem_singleton] at h; subst h; exact ⟨Nat.le_refl _, fun c h => h⟩
    · unfold Builtin.Str.partsBetween at h
      obtain ⟨⟨i, j⟩, _, rfl⟩ := List.mem_map.mp h
      refine ⟨?_, fun c hc => ?_⟩
      · show (x.cps.extract i j).size ≤ x.cps.size
        rw [Array.size_extract]
        omega
      · have hc : c ∈ (x.cps.extract i j).toList := hc
        rw [Array.toList_extract] at hc
        exact List.mem_of_mem_drop (List.mem_of_mem_take hc)
theorem Asc.piece {n : Nat} {x y p : Str} (h : Asc n x) (hp : p ∈ Txt.split x y) : Asc n p := by
  obtain ⟨h1, h2⟩ := split_mem hp
  exact ⟨Nat.le_trans h1 h.1, fun c hc => h.2 c (h2 c hc)⟩
theorem r_split {x : Str} (hz : x.length + 2 ≤ sizeLine) : mSplit x [.str "."] = some (.nw (.lst ((Txt.split x ".").map .str))) := by
  have h1 : ((("." : Str).length != 0) && decide (x.length + 2 ≤ sizeLine)) = true := by
    rw [decide_eq_true hz]; decide +kernel
  show (if ((("." : Str).length != 0) && decide (x.length + 2 ≤ sizeLine)) = true then some (R.nw (.lst ((Txt.split x ".").map .str))) else none) = _
  rw [if_pos h1]
def onStr (f : Str → Bool) : D → D
  | .str p => .bl (f p)
  | d => d
theorem bools_on {f : Str → Bool} : ∀ ps : List Str, boolsD ((ps.map D.str).map (onStr f)) = some (ps.map f)
  | [] => rfl
  | p :: ps => by
    show (boolsD ((ps.map D.str).map (onStr f))).map (f p :: ·) = _
    rw [bools_on ps]; rfl
theorem all_on {f : Str → Bool} (ps : List Str) : cAll [.lst ((ps.map D.str).map (onStr f))] = some (.val (.bl (ps.all f))) := by
  show (boolsD ((ps.map D.str).map (onStr f))).bind (fun bs => vB (bs.all id)) = _
  rw [bools_on]
  show vB ((ps.map f).all id) = _
  rw [List.all_map]; rfl
def longN (f : Str → Bool) (x : Str) : Bool := decide ((Txt.split x ".").length ≤ 40) && (Txt.split x ".").all f
theorem split_len {n : Nat} {x : Str} (h : Asc n x) (hn : n ≤ 100000) : (Txt.split x ".").length ≤ sizeLine := by
  have hs := sizeLine_eq
  have h1 := h.1
  unfold Txt.split
  split
  · simp; omega
  · split
    · simp; omega
    · rw [length_partsBetween]
      have := StrLaws.occ_length_le x "." 0 x.length (x.length + 1)
      omega
theorem comp_names {F : Ro → Res R} {f : Str → Bool} {n : Nat} {x : Str} (h : Asc n x) (hn : n ≤ 100000) (hF : ∀ p, Asc n p → F [.fz (.str p)] = .ok (.val (.bl (f p))) [.fz (.str p)]) (e : M R) (he : ∀ ρ, e ρ = eCall F (eCons (eVar 2) eNil) ρ) (k : Bool) :
    compN (tgName 2) eYes e [2] ((Txt.split x ".").map .str) [] [.fz (.str x), .ln k (.lst ((Txt.split x ".").map .str)), .no] = .ok (((Txt.split x ".").map D.str).map (onStr f)) [.fz (.str x), .ln k (.lst ((Txt.split x ".").map .str)), .no] := by
  have := comp_map (ρ := [.fz (.str x), .ln k (.lst ((Txt.split x ".").map .str)), .no]) (tgt := tgName 2) (cond := eYes) (elt := e) (vs := [2]) (onStr f) ((Txt.split x ".").map .str) [] (fun d hd => by
    obtain ⟨p, hp, rfl⟩ := List.mem_map.mp hd
    refine ⟨[.fz (.str x), .ln k (.lst ((Txt.split x ".").map .str)), .fz (.str p)], [.fz (.str x), .ln k (.lst ((Txt.split x ".").map .str)), .fz (.str p)], [.fz (.str x), .ln k (.lst ((Txt.split x ".").map .str)), .fz (.str p)], .val (.bl (f p)), by simp, by simp, ?_, rfl, ?_⟩
    · rw [he]
      simp [hF p (h.piece hp)]
    · simp) (by
      rw [List.length_nil, Nat.zero_add, List.length_map]
      exact split_len h hn)
  simpa using this
theorem run_is_long {n : Nat} {x : Str} (h : Asc n x) (hn : n ≤ 100000) : F_is_long_name [.fz (.str x)] = .ok (.val (.bl (longN isName x))) [.fz (.str x)] := by
  unfold F_is_long_name d_is_long_name
  rw [x_run]
  have hz : x.length + 2 ≤ sizeLine := by have := sizeLine_eq; have := h.1; omega
  have c1 := comp_names (F := F_is_name) (f := isName) h hn (fun p hp => run_is_name (hp.sz hn)) e1_is_long_name (fun ρ => rfl) false
  generalize hw : (Txt.split x ".").map D.str = ps at c1
  have hl : ps.length = (Txt.split x ".").length := by rw [← hw, List.length_map]
  have hsp : mSplit x [.str "."] = some (.nw (.lst ps)) := by rw [← hw]; exact r_split hz
  have hall : cAll [.lst (ps.map (onStr isName))] = some (.val (.bl ((Txt.split x ".").all isName))) := by rw [← hw]; exact all_on _
  unfold longN
  by_cases h40 : (Txt.split x ".").length ≤ 40
  · have i1 : decide ((40 : Int) < ps.length) = false := decide_eq_false (by omega)
    have xl := x_compL (tgt := tgName 2) (cond := eYes) (elt := e1_is_long_name) (vs := [2]) (ρ := [Sl.fz (.str x), .ln false (.lst ps), .no]) (j := 1) (u := true) (k := false) (ds := ps) rfl
    simp [hsp, i1, xl, c1, hall, h40]
  · have i1 : decide ((40 : Int) < ps.length) = true := decide_eq_true (by omega)
    simp [hsp, i1, h40]
theorem run_law_long {n : Nat} {x : Str} (h : Asc n x) (hn : n ≤ 100000) : F__law_is_long [.fz (.str x)] = .ok (.val (.bl (longN lawName x))) [.fz (.str x)] := by
  unfold F__law_is_long d__law_is_long
  rw [x_run]
  have hz : x.length + 2 ≤ sizeLine := by have := sizeLine_eq; have := h.1; omega
  have c1 := comp_names (F := F__law_is_name) (f := lawName) h hn (fun p hp => run_lawName (hp.sz hn) hp.ok) e1__law_is_long (fun ρ => rfl) false
  generalize hw : (Txt.split x ".").map D.str = ps at c1
  have hl : ps.length = (Txt.split x ".").length := by rw [← hw, List.length_map]
  have hsp : mSplit x [.str "."] = some (.nw (.lst ps)) := by rw [← hw]; exact r_split hz
  have hall : cAll [.lst (ps.map (onStr lawName))] = some (.val (.bl ((Txt.split x ".").all lawName))) := by rw [← hw]; exact all_on _
  unfold longN
  by_cases h40 : (Txt.split x ".").length ≤ 40
  · have i1 : decide ((ps.length : Int) ≤ 40) = true := decide_eq_true (by omega)
    have xl := x_compL (tgt := tgName 2) (cond := eYes) (elt := e1__law_is_long) (vs := [2]) (ρ := [Sl.fz (.str x), .ln false (.lst ps), .no]) (j := 1) (u := true) (k := false) (ds := ps) rfl
    simp [hsp, i1, xl, c1, hall, h40]
  · have i1 : decide ((ps.length : Int) ≤ 40) = false := decide_eq_false (by omega)
    simp [hsp, i1, h40]
theorem run_told {n : Nat} {x : Str} (h : Asc n x) (hn : n ≤ 100000) : F__law_told [.fz (.str x)] = .ok (.val (.bl true)) [.fz (.str x)] := by
  unfold F__law_told d__law_told
  rw [x_run]
  have e1 : lawName = isName := (funext fun x => (name_is (x := x)).symm)
  simp [run_is_name (h.sz hn), run_lawName (h.sz hn) h.ok, run_is_long h hn, run_law_long h hn, run_right, e1]
end DL

/-! K3q: k03: the texts. -/
namespace DL
open PySem PySem.Spec
theorem ix_chr {z : Str} {n : Nat} (h : Asc n z) (hn : n ≤ 100000) {i : Int} (h0 : 0 ≤ i) (h1 : i < z.length) : ∃ c, c < 128 ∧ opIx (.str z) (.int i) = some (.val (.str ⟨#[c]⟩)) := by
  obtain ⟨j, rfl⟩ := Int.eq_ofNat_of_zero_le h0
  have hj : j < (cs z).length := by rw [← len_cs]; omega
  have e : L2.atI z.cps.toList (j : Int) = some (cs z)[j] := L2.atI_nat (List.getElem?_eq_getElem hj)
  refine ⟨(cs z)[j], h.2 _ (List.getElem_mem hj), ?_⟩
  show (if z.length ≤ sizeLine then (L2.atI z.cps.toList (j : Int)).bind (fun c => vS ⟨#[c]⟩) else none) = _
  rw [if_pos (h.sz hn), e]; rfl
theorem ix_lst {ds : List D} {i : Int} (h0 : 0 ≤ i) (h1 : i < ds.length) : ∃ d ∈ ds, opIx (.lst ds) (.int i) = some (.val d) := by
  obtain ⟨j, rfl⟩ := Int.eq_ofNat_of_zero_le h0
  have hj : j < ds.length := by omega
  have e : L2.atI ds (j : Int) = some ds[j] := L2.atI_nat (List.getElem?_eq_getElem hj)
  refine ⟨ds[j], List.getElem_mem hj, ?_⟩
  show (L2.atI ds (j : Int)).map R.val = _
  rw [e]; rfl
theorem fits_of {i : Int} (h0 : 0 ≤ i) (h1 : i ≤ 100000) : fits62 i = true := by
  unfold fits62
  simp only [Bool.and_eq_true, decide_eq_true_eq]
  omega
theorem range_int {lo : Int} {n : Nat} {d : D} (h : d ∈ rangeD lo n) : ∃ k : Nat, k < n ∧ d = .int (lo + k) := by
  obtain ⟨i, hi, rfl⟩ := List.mem_map.mp h
  exact ⟨i, List.mem_range.mp hi, rfl⟩
theorem range_len {lo : Int} {n : Nat} : (rangeD lo n).length = n := by unfold rangeD; simp
theorem addA {m n : Nat} {x y : Str} (h : Asc m x) (k : Asc n y) (l : m + n ≤ 100000) : opAdd (.str x) (.str y) = some (.val (.str (x ++ y))) := by
  refine r_addS ?_
  have := sizeLine_eq
  have := h.1
  have := k.1
  omega
/-! ### joined texts -/
theorem glued_cs (sep : Str) : ∀ (ws : List Str) (acc : Array Nat) (P : Nat → Prop), (∀ c ∈ acc.toList, P c) → (∀ c ∈ cs sep, P c) → (∀ w ∈ ws, ∀ c ∈ cs w, P c) → ∀ c ∈ (ws.foldl (fun acc p => acc ++ sep.cps ++ p.cps) acc).toList, P c
  | [], _, _, h, _, _ => h
  | w :: ws, acc, P, h, hs, hw => by
    refine glued_cs sep ws _ P (fun c hc => ?_) hs fun v hv => hw v (List.mem_cons_of_mem _ hv)
    rw [Array.toList_append, Array.toList_append] at hc
    rcases List.mem_append.mp hc with z | z
    · rcases List.mem_append.mp z with z | z
      · exact h c z
      · exact hs c z
    · exact hw w List.mem_cons_self c z
theorem sum_le {n : Nat} : ∀ {ws : List Str}, (∀ w ∈ ws, Asc n w) → (ws.map (·.length)).sum ≤ ws.length * n
  | [], _ => Nat.zero_le _
  | w :: ws, h => by
    have h1 := (h w List.mem_cons_self).1
    have h2 := sum_le fun v hv => h v (List.mem_cons_of_mem _ hv)
    rw [List.map_cons, List.sum_cons, List.length_cons, Nat.succ_mul]
    omega
theorem join_asc {ws : List Str} {n m : Nat} (h : ∀ w ∈ ws, Asc n w) (hl : ws.length ≤ m) : Asc (m * (n + 1)) (Txt.join "." ws) := by
  have hd : ("." : Str).length = 1 := by decide +kernel
  refine ⟨?_, ?_⟩
  · show (Builtin.Str.glued "." ws).length ≤ _
    rw [size_glued, hd]
    have := sum_le h
    have h2 : ws.length * (n + 1) ≤ m * (n + 1) := Nat.mul_le_mul_right _ hl
    rw [Nat.mul_add] at h2
    omega
  · cases ws with
    | nil => intro c hc; exact absurd hc (by show ¬ c ∈ ([] : List Nat); simp)
    | cons w ws =>
      refine glued_cs "." ws w.cps (fun c => c < 128) (h w List.mem_cons_self).2 (by decide +kernel) fun v hv => (h v (List.mem_cons_of_mem _ hv)).2
theorem strs_map : ∀ ws : List Str, strsD (ws.map .str) = some ws
  | [] => rfl
  | w :: ws => by
    show (strsD (ws.map D.str)).map (w :: ·) = _
    rw [strs_map ws]; rfl
theorem r_join {ws : List Str} {n m : Nat} (h : ∀ w ∈ ws, Asc n w) (hl : ws.length ≤ m) (hb : m * (n + 1) ≤ 100000) : mJoin "." [.lst (ws.map .str)] = some (.val (.str (Txt.join "." ws))) := by
  have hj : joinOk "." ws = true := by
    unfold joinOk
    have hd : ("." : Str).length = 1 := by decide +kernel
    rw [hd]
    refine decide_eq_true ?_
    have := sum_le h
    have h2 : ws.length * (n + 1) ≤ m * (n + 1) := Nat.mul_le_mul_right _ hl
    rw [Nat.mul_add] at h2
    omega
  show (strsD (ws.map .str)).bind (fun ys => if joinOk "." ys = true then vS (Txt.join "." ys) else none) = _
  rw [strs_map]
  show (if joinOk "." ws = true then vS (Txt.join "." ws) else none) = _
  rw [if_pos hj]; rfl
theorem flat_rep {α : Type} (d : α) : ∀ k : Nat, (List.replicate k [d]).flatten = List.replicate k d
  | 0 => rfl
  | k + 1 => by rw [List.replicate_succ, List.flatten_cons, flat_rep d k, List.replicate_succ]; rfl
theorem r_mul1 {d : D} {k : Int} (h0 : 0 ≤ k) (h1 : k ≤ 100000) : opMulA (.lst [d]) (.int k) = some (.nw (.lst (List.replicate k.toNat d))) := by
  have hc : (decide (-(2 ^ 63) ≤ k) && decide (k < 2 ^ 63) && decide ([d].length * k.toNat ≤ sizeLine)) = true := by
    have := sizeLine_eq
    simp only [Bool.and_eq_true, decide_eq_true_eq, List.length_singleton]
    omega
  show (if (decide (-(2 ^ 63) ≤ k) && decide (k < 2 ^ 63) && decide ([d].length * k.toNat ≤ sizeLine)) = true then some (R.nw (.lst (List.replicate k.toNat [d]).flatten)) else none) = _
  rw [if_pos hc, flat_rep]
theorem join_rep {w : Str} {n : Nat} {k : Int} (h : Asc n w) (h0 : 0 ≤ k) (h1 : k.toNat * (n + 1) ≤ 100000) : ∃ x, mJoin "." [.lst (List.replicate k.toNat (.str w))] = some (.val (.str x)) ∧ Asc (k.toNat * (n + 1)) x := by
  have hw : ∀ v ∈ List.replicate k.toNat w, Asc n v := fun v hv => by rw [List.eq_of_mem_replicate hv]; exact h
  have hl : (List.replicate k.toNat w).length ≤ k.toNat := by rw [List.length_replicate]; exact Nat.le_refl _
  have e : (List.replicate k.toNat w).map D.str = List.replicate k.toNat (.str w) := List.map_replicate
  refine ⟨_, ?_, join_asc hw hl⟩
  rw [← e]
  exact r_join hw hl h1
def AD (d : D) : Prop := ∃ x, d = .str x ∧ Asc 1000 x
/-! ### the alphabets -/
def letters : Str := "abcdefghijklmnopqrstuvwxyz"
def signs0 : Str := " !\"#$&'()*+,-./0123456789:;<=>?@ABCDEFGHIJKLMNOPQRSTUVWXYZ[\\]^_`" ++ "abcdefghijklmnopqrstuvwxyz{|}~\n"
theorem signs0_asc : Asc 95 signs0 := by decide +kernel
theorem signs0_len : signs0.length = 95 := by decide +kernel
theorem run_alphabet : F__law_alphabet [] = .ok (.val (.str signs0)) [] := by
  unfold F__law_alphabet d__law_alphabet
  rw [x_run]
  have e : opAdd (.str " !\"#$&'()*+,-./0123456789:;<=>?@ABCDEFGHIJKLMNOPQRSTUVWXYZ[\\]^_`") (.str "abcdefghijklmnopqrstuvwxyz{|}~\n") = some (.val (.str signs0)) := r_addS (by decide +kernel)
  simp [e]
/-! ### a drawn name -/
def l36 : Str := "abcdefghijklmnopqrstuvwxyz" ++ "0123456789"
theorem l36_asc : Asc 36 l36 := by decide +kernel
theorem l36_len : l36.length = 36 := by decide +kernel
theorem add36 : opAdd (.str "abcdefghijklmnopqrstuvwxyz") (.str "0123456789") = some (.val (.str l36)) := r_addS (by decide +kernel)
theorem bk_fr {rs : List R} {a' l : Ro} {i : Nat} {s : Sl} (h : Fr s) : backR rs a' i (s :: l) = (backR rs a' (i + 1) l).map (s :: ·) := by rcases h with rfl | ⟨d, rfl⟩ <;> rfl
def PNm (s1 : Sl) (ks : List D) (ρ : Ro) : Prop := ∃ hs x s4 s5, hs ≠ [] ∧ ρ = [HS true hs, s1, .fz (.str "abcdefghijklmnopqrstuvwxyz"), .fz (.str x), s4, s5] ∧ Fr s4 ∧ Fr s5 ∧ Asc (13 - ks.length) x ∧ ks.length ≤ 12
theorem named_loop {s1 : Sl} (f1 : Fr s1) {ks : List D} {ρ : Ro} (h : PNm s1 ks ρ) : ∃ ρ', loopF (tgName 5) b1__law_named ks ρ = .nx ρ' ∧ PNm s1 [] ρ' := by
  refine loop_inv (PNm s1) ?_ h
  rintro d ds ρ ⟨hs, x, s4, s5, hne, rfl, f4, f5, ax, hl⟩
  rw [List.length_cons] at ax hl
  obtain ⟨v, hs', hne', v0, v1, e⟩ := draw hs hne 36 (by decide) (by decide)
  simp only [HS] at e
  obtain ⟨c, hc, ec⟩ := ix_chr l36_asc (by decide) v0 (by rw [l36_len]; exact v1)
  have ax' := ax.append (Asc.one hc)
  refine ⟨[HS true hs, s1, .fz (.str "abcdefghijklmnopqrstuvwxyz"), .fz (.str x), s4, .fz d], by simp [f5.ok], ?_⟩
  refine ⟨[HS true hs', s1, .fz (.str "abcdefghijklmnopqrstuvwxyz"), .fz (.str (x ++ ⟨#[c]⟩)), s4, .fz d], .inl ?_, hs', x ++ ⟨#[c]⟩, s4, .fz d, hne', rfl, f4, .fz, ax'.mono (by omega), by omega⟩
  have ea := addA ax (Asc.one hc) (by omega)
  simp [x_b1__law_named, add36, e, ec, ea, bk_fr f1, bk_fr f4]
theorem x_lits : (0 : Int) < 26 := by decide
theorem rep_x (b : Bool) : ∃ y : Str, opMulA (.str "x") (.int (if b then 1 else 0)) = some (.val (.str y)) ∧ Asc 1 y := by
  cases b with
  | true => exact ⟨Txt.mul "x" 1, by
      show (if (decide (-(2 ^ 63) ≤ (1 : Int)) && decide ((1 : Int) < 2 ^ 63) && decide (("x" : Str).length * (1 : Int).toNat ≤ sizeLine)) = true then vS (Txt.mul "x" 1) else none) = _
      rw [if_pos (by decide +kernel)]; rfl, by decide +kernel⟩
  | false => exact ⟨Txt.mul "x" 0, by
      show (if (decide (-(2 ^ 63) ≤ (0 : Int)) && decide ((0 : Int) < 2 ^ 63) && decide (("x" : Str).length * (0 : Int).toNat ≤ sizeLine)) = true then vS (Txt.mul "x" 0) else none) = _
      rw [if_pos (by decide +kernel)]; rfl, by decide +kernel⟩
theorem letters_asc : Asc 26 "abcdefghijklmnopqrstuvwxyz" := by decide +kernel
theorem letters_len : ("abcdefghijklmnopqrstuvwxyz" : Str).length = 26 := by decide +kernel
theorem run_named {hs : List Int} (hne : hs ≠ []) {most : Int} (m1 : 1 ≤ most) (m2 : most ≤ 12) : ∃ x hs', hs' ≠ [] ∧ Asc 14 x ∧ F__law_named [HS true hs, .fz (.int most)] = .ok (.val (.str x)) [HS true hs', .fz (.int most)] := by
  obtain ⟨v1, hs1, n1, a1, b1, e1⟩ := draw hs hne 26 (by decide) (by decide)
  obtain ⟨v2, hs2, n2, a2, b2, e2⟩ := draw hs1 n1 4 (by decide) (by decide)
  simp only [HS] at e1 e2
  obtain ⟨c, hc, ec⟩ := ix_chr letters_asc (by decide) a1 (by rw [letters_len]; exact b1)
  -- how many more
  obtain ⟨many, hs3, n3, a3, b3, e3⟩ : ∃ many hs3, hs3 ≠ [] ∧ 0 ≤ many ∧ many ≤ 12 ∧ sIf (eBool (eBin opEq (eVar 4) (eC (.int 3)))) (sAsg 4 (eCall F__law_draw (eCons (eVar 0) (eCons (eVar 1) eNil)))) sNext [HS true hs2, .fz (.int most), .fz (.str "abcdefghijklmnopqrstuvwxyz"), .fz (.str ⟨#[c]⟩), .fz (.int v2), .no] =
      .nx [HS true hs3, .fz (.int most), .fz (.str "abcdefghijklmnopqrstuvwxyz"), .fz (.str ⟨#[c]⟩), .fz (.int many), .no] := by
    by_cases h3 : v2 = 3
    · obtain ⟨v3, hs3, n3, a3, b3, e3⟩ := draw hs2 n2 most (by omega) (by omega)
      simp only [HS] at e3
      exact ⟨v3, hs3, n3, a3, by omega, by simp [h3, e3]⟩
    · have h3' : (v2 == 3) = false := by simpa using h3
      exact ⟨v2, hs2, n2, a2, by omega, by simp [h3']⟩
  obtain ⟨ρ', e4, hs4, x, s4, s5, n4, rfl, f4, f5, ax, _⟩ := named_loop (s1 := .fz (.int most)) .fz (ks := rangeD 0 many.toNat) (ρ := [HS true hs3, .fz (.int most), .fz (.str "abcdefghijklmnopqrstuvwxyz"), .fz (.str ⟨#[c]⟩), .fz (.int many), .no])
    ⟨hs3, ⟨#[c]⟩, .fz (.int many), .no, n3, rfl, .fz, .no, (Asc.one hc).mono (by rw [range_len]; omega), by rw [range_len]; omega⟩
  simp only [HS] at e3 e4
  have ax : Asc 13 x := ax
  obtain ⟨y, ey, ay⟩ := rep_x (inW x)
  refine ⟨x ++ y, hs4, n4, ax.append ay, ?_⟩
  unfold F__law_named d__law_named
  rw [x_run]
  have ew := in_words ax.ok
  have ea := addA ax ay (by decide)
  simp only [x_seq]
  have st1 : sAsg 2 (eC (.str "abcdefghijklmnopqrstuvwxyz")) ([HS true hs, .fz (.int most)] ++ List.replicate 4 Sl.no) = .nx [HS true hs, .fz (.int most), .fz (.str "abcdefghijklmnopqrstuvwxyz"), .no, .no, .no] := by simp
  rw [st1, oand_nx]
  have st2 : sAsg 3 (eBin opIx (eVar 2) (eCall F__law_draw (eCons (eVar 0) (eCons (eC (.int 26)) eNil)))) [HS true hs, .fz (.int most), .fz (.str "abcdefghijklmnopqrstuvwxyz"), .no, .no, .no] = .nx [HS true hs1, .fz (.int most), .fz (.str "abcdefghijklmnopqrstuvwxyz"), .fz (.str ⟨#[c]⟩), .no, .no] := by simp [e1, ec]
  rw [x_seq, st2, oand_nx]
  have st3 : sAsg 4 (eCall F__law_draw (eCons (eVar 0) (eCons (eC (.int 4)) eNil))) [HS true hs1, .fz (.int most), .fz (.str "abcdefghijklmnopqrstuvwxyz"), .fz (.str ⟨#[c]⟩), .no, .no] = .nx [HS true hs2, .fz (.int most), .fz (.str "abcdefghijklmnopqrstuvwxyz"), .fz (.str ⟨#[c]⟩), .fz (.int v2), .no] := by simp [e2]
  rw [x_seq, st3, oand_nx, x_seq, e3, oand_nx]
  have fit := fits_of a3 (by omega)
  simp [fit, e4, run_reserved, ew, ey, ea, bk_fr f4, bk_fr f5]
end DL

/-! K3r: k03: bent, joined, any text, the fixed ones. -/
namespace DL
open PySem PySem.Spec
theorem Asc.cut {n : Nat} {z : Str} (h : Asc n z) (lo hi : Option Int) : Asc n (L2.cutS z lo hi) := by
  have hs : ∀ c ∈ cs (L2.cutS z lo hi), c ∈ cs z := fun c hc => by
    have hc : c ∈ ((z.cps.toList.drop (HT.sIx z.length 0 lo)).take (HT.sIx z.length z.length hi - HT.sIx z.length 0 lo)) := hc
    exact List.mem_of_mem_drop (List.mem_of_mem_take hc)
  refine ⟨?_, fun c hc => h.2 c (hs c hc)⟩
  have e : (L2.cutS z lo hi).length = ((z.cps.toList.drop (HT.sIx z.length 0 lo)).take (HT.sIx z.length z.length hi - HT.sIx z.length 0 lo)).length := by
    rw [len_cs]; rfl
  rw [e, List.length_take, List.length_drop]
  have := h.1
  rw [len_cs] at this
  have : z.cps.toList.length ≤ n := this
  omega
theorem run_bent {hs : List Int} (hne : hs ≠ []) {n : Nat} {x : Str} (ax : Asc n x) (hn : n ≤ 900) : ∃ y hs', hs' ≠ [] ∧ Asc (n + 1 + n) y ∧ F__law_bent [HS true hs, .fz (.str x)] = .ok (.val (.str y)) [HS true hs', .fz (.str x)] := by
  have hl := ax.1
  obtain ⟨v1, hs1, n1, a1, b1, e1⟩ := draw hs hne ((x.length : Int) + 1) (by omega) (by omega)
  obtain ⟨v2, hs2, n2, a2, b2, e2⟩ := draw hs1 n1 95 (by decide) (by decide)
  obtain ⟨v3, hs3, n3, a3, b3, e3⟩ := draw hs2 n2 3 (by decide) (by decide)
  simp only [HS] at e1 e2 e3
  obtain ⟨c, hc, ec⟩ := ix_chr signs0_asc (by decide) a2 (by rw [signs0_len]; exact b2)
  have hz : x.length ≤ sizeLine := ax.sz (by omega)
  have k1 := ax.cut none (some v1)
  have k2 := ax.cut (some v1) none
  have k3 := ax.cut (some (v1 + 1)) none
  by_cases h0 : v3 = 0
  · refine ⟨L2.cutS x none (some v1) ++ ⟨#[c]⟩ ++ L2.cutS x (some v1) none, hs3, n3, (k1.append (Asc.one hc)).append k2, ?_⟩
    unfold F__law_bent d__law_bent
    rw [x_run]
    have ea := addA k1 (Asc.one hc) (by omega)
    have eb := addA (k1.append (Asc.one hc)) k2 (by omega)
    simp [r_len_str hz, e1, e2, e3, run_alphabet, ec, h0, r_sl_str hz, ea, eb]
  · have h0' : (v3 == 0) = false := by simpa using h0
    by_cases h1 : v3 = 1
    · refine ⟨L2.cutS x none (some v1) ++ L2.cutS x (some (v1 + 1)) none, hs3, n3, (k1.append k3).mono (by omega), ?_⟩
      unfold F__law_bent d__law_bent
      rw [x_run]
      have eb := addA k1 k3 (by omega)
      simp [r_len_str hz, e1, e2, e3, run_alphabet, ec, h1, r_sl_str hz, eb]
    · have h1' : (v3 == 1) = false := by simpa using h1
      refine ⟨L2.cutS x none (some v1) ++ ⟨#[c]⟩ ++ L2.cutS x (some (v1 + 1)) none, hs3, n3, (k1.append (Asc.one hc)).append k3, ?_⟩
      unfold F__law_bent d__law_bent
      rw [x_run]
      have ea := addA k1 (Asc.one hc) (by omega)
      have eb := addA (k1.append (Asc.one hc)) k3 (by omega)
      simp [r_len_str hz, e1, e2, e3, run_alphabet, ec, h0', h1', r_sl_str hz, ea, eb]
/-! ### joined -/
theorem strs_of {P : Str → Prop} : ∀ {ds : List D}, (∀ d ∈ ds, ∃ x, d = .str x ∧ P x) → ∃ ws : List Str, ds = ws.map .str ∧ ∀ w ∈ ws, P w
  | [], _ => ⟨[], rfl, fun w h => absurd h List.not_mem_nil⟩
  | d :: ds, h => by
    obtain ⟨x, rfl, px⟩ := h d List.mem_cons_self
    obtain ⟨ws, rfl, pw⟩ := strs_of fun d hd => h d (List.mem_cons_of_mem _ hd)
    exact ⟨x :: ws, rfl, fun w hw => by
      rcases List.mem_cons.mp hw with e | e
      · subst e; exact px
      · exact pw w e⟩
theorem ix_strs {ws : List Str} {i : Int} (h0 : 0 ≤ i) (h1 : i < ws.length) : ∃ w ∈ ws, opIx (.lst (ws.map .str)) (.int i) = some (.val (.str w)) := by
  obtain ⟨d, hd, e⟩ := ix_lst (ds := ws.map .str) h0 (by rw [List.length_map]; exact h1)
  obtain ⟨w, hw, rfl⟩ := List.mem_map.mp hd
  exact ⟨w, hw, e⟩
theorem set_strs {ws : List Str} {i : Int} {w : Str} (h0 : 0 ≤ i) (h1 : i < ws.length) : setO (.lst (ws.map .str)) (.int i) (.str w) = some (.lst ((ws.set i.toNat w).map .str)) := by
  show (L2.ixN (ws.map D.str).length i).map (fun j => OV.lst ((ws.map D.str).set j (.str w))) = _
  have e : L2.ixN (ws.map D.str).length i = some i.toNat := by
    unfold L2.ixN
    rw [List.length_map, if_pos h0, if_pos h1]
  rw [e, List.map_set]; rfl
def joinList : List D := [.int 1, .int 2, .int 3, .int 4, .int 39, .int 40, .int 41, .int 42]
theorem join_many : ∀ d ∈ joinList, ∃ m : Int, d = .int m ∧ 1 ≤ m ∧ m ≤ 42 := by
  intro d hd
  simp only [joinList, List.mem_cons, List.not_mem_nil, or_false] at hd
  rcases hd with h | h | h | h | h | h | h | h <;> exact ⟨_, h, by decide, by decide⟩
theorem run_joined {hs : List Int} (hne : hs ≠ []) : ∃ y hs', hs' ≠ [] ∧ Asc 2000 y ∧ F__law_joined [HS true hs] = .ok (.val (.str y)) [HS true hs'] := by
  obtain ⟨v1, hs1, n1, a1, b1, e1⟩ := draw hs hne 8 (by decide) (by decide)
  simp only [HS] at e1
  obtain ⟨d, hd, ed⟩ := ix_lst (ds := joinList) a1 (by exact b1)
  obtain ⟨m, rfl, m1, m2⟩ := join_many d hd
  obtain ⟨most, hm1, hm2, em⟩ : ∃ most : Int, 1 ≤ most ∧ most ≤ 12 ∧ eIf (eBool (eBin opGt (eVar 1) (eC (.int 4)))) (eC (.int 2)) (eC (.int 12)) [HS true hs1, .fz (.int m), .no, .no, .no, .no] = .ok (.val (.int most)) [HS true hs1, .fz (.int m), .no, .no, .no, .no] := by
    by_cases h4 : 4 < m
    · exact ⟨2, by decide, by decide, by simp [h4]⟩
    · exact ⟨12, by decide, by decide, by simp [h4]⟩
  -- the parts
  obtain ⟨xs, ρ', ec, lx, qx, ⟨hs2, n2, rfl⟩⟩ := comp_inv (tgt := tgName 5) (cond := eYes) (elt := e1__law_joined) (vs := [5]) (fun ρ => ∃ hs, hs ≠ [] ∧ ρ = [HS true hs, .fz (.int m), .fz (.int most), .no, .no, .no]) (fun _ x => ∃ w, x = .str w ∧ Asc 14 w) (rangeD 0 m.toNat) [] [HS true hs1, .fz (.int m), .fz (.int most), .no, .no, .no]
    (fun d hd ρ ⟨hs, hn, hρ⟩ => by
      subst hρ
      obtain ⟨x, hs', hn', ax, ex⟩ := run_named hn hm1 hm2
      simp only [HS] at ex
      exact ⟨[HS true hs, .fz (.int m), .fz (.int most), .no, .no, .fz d], [HS true hs, .fz (.int m), .fz (.int most), .no, .no, .fz d], [HS true hs', .fz (.int m), .fz (.int most), .no, .no, .fz d], .val (.str x), .str x, by simp, by simp, by simp [e1__law_joined, ex], rfl, ⟨x, rfl, ax⟩, hs', hn', by simp⟩)
    ⟨hs1, n1, rfl⟩ (by rw [List.length_nil, range_len]; have := sizeLine_eq; omega)
  rw [List.nil_append] at ec
  obtain ⟨ws, rfl, aw⟩ := strs_of fun x hx => let ⟨_, _, q⟩ := qx x hx; q
  rw [List.length_map, range_len] at lx
  have fit := fits_of (i := m) (by omega) (by omega)
  have hwl : (ws.length : Int) = m := by omega
  -- one is bent
  obtain ⟨v3, hs3, n3, a3, b3, e3⟩ := draw hs2 n2 2 (by decide) (by decide)
  simp only [HS] at e3 ec
  obtain ⟨ws', s4, hs4, n4, aw', lw', e4⟩ : ∃ (ws' : List Str) (s4 : Sl) (hs4 : List Int), hs4 ≠ [] ∧ (∀ w ∈ ws', Asc 29 w) ∧ ws'.length = ws.length ∧
      sIf (eBool (eBin opEq (eCall F__law_draw (eCons (eVar 0) (eCons (eC (.int 2)) eNil))) (eC (.int 1)))) (sSeq (sAsg 4 (eCall F__law_draw (eCons (eVar 0) (eCons (eVar 1) eNil))))
        (sSet 3 (eCall F__law_bent (eCons (eVar 0) (eCons (eBin opIx (eVar 3) (eVar 4)) eNil))) (eVar 4))) sNext [HS true hs2, .fz (.int m), .fz (.int most), .ow false (.lst (ws.map .str)), .no, .no] =
      .nx [HS true hs4, .fz (.int m), .fz (.int most), .ow false (.lst (ws'.map .str)), s4, .no] := by
    by_cases h1 : v3 = 1
    · obtain ⟨v4, hs4, n4, a4, b4, e4⟩ := draw hs3 n3 m (by omega) (by omega)
      obtain ⟨w, hw, ew⟩ := ix_strs (ws := ws) a4 (by omega)
      obtain ⟨y, hs5, n5, ay, e5⟩ := run_bent n4 (aw w hw) (by decide)
      simp only [HS] at e4 e5
      refine ⟨ws.set v4.toNat y, .fz (.int v4), hs5, n5, fun u hu => ?_, by rw [List.length_set], ?_⟩
      · rcases List.mem_or_eq_of_mem_set hu with h | h
        · exact (aw u h).mono (by decide)
        · subst h; exact ay
      · simp [e3, h1, e4, ew, e5, set_strs a4 (show v4 < ws.length by omega)]
    · have h1' : (v3 == 1) = false := by simpa using h1
      exact ⟨ws, .no, hs3, n3, fun w hw => (aw w hw).mono (by decide), rfl, by simp [e3, h1']⟩
  have hj := r_join (n := 29) (m := 42) aw' (by omega) (by decide)
  refine ⟨Txt.join "." ws', hs4, n4, (join_asc (n := 29) (m := 42) aw' (by omega)).mono (by decide), ?_⟩
  unfold F__law_joined d__law_joined
  rw [x_run]
  have hb : backR [.sl 0] [HS true hs4] 0 [] = some [] := rfl
  have st1 : sAsg 1 (eBin opIx (eLst (eCons (eC (.int 1)) (eCons (eC (.int 2)) (eCons (eC (.int 3)) (eCons (eC (.int 4)) (eCons (eC (.int 39)) (eCons (eC (.int 40)) (eCons (eC (.int 41)) (eCons (eC (.int 42)) eNil))))))))) (eCall F__law_draw (eCons (eVar 0) (eCons (eC (.int 8)) eNil))))
      ([HS true hs] ++ List.replicate 5 Sl.no) = .nx [HS true hs1, .fz (.int m), .no, .no, .no, .no] := by
    have ed' : opIx (.lst [.int 1, .int 2, .int 3, .int 4, .int 39, .int 40, .int 41, .int 42]) (.int v1) = some (.val (.int m)) := ed
    simp [e1, ed', lstK_s, sizeLine_eq]
  have st2 : sAsg 2 (eIf (eBool (eBin opGt (eVar 1) (eC (.int 4)))) (eC (.int 2)) (eC (.int 12))) [HS true hs1, .fz (.int m), .no, .no, .no, .no] = .nx [HS true hs1, .fz (.int m), .fz (.int most), .no, .no, .no] := by
    rw [x_asg, em]
    simp
  rw [x_seq, st1, oand_nx, x_seq, st2, oand_nx]
  have st3 : sAsg 3 (eComp (itRange (eCons (eVar 1) eNil)) (tgName 5) eYes e1__law_joined (([("k", 5)] : List (Str × Nat)).map (·.2))) [HS true hs1, .fz (.int m), .fz (.int most), .no, .no, .no] = .nx [HS true hs2, .fz (.int m), .fz (.int most), .ow false (.lst (ws.map .str)), .no, .no] := by
    simp [fit, ec]
  rw [x_seq, st3, oand_nx, x_seq, e4, oand_nx]
  simp [hj]
end DL

/-! K3s: k03: any text, the fixed ones. -/
namespace DL
open PySem PySem.Spec
def PAt (s1 s2 : Sl) (z : Str) (ks : List D) (ρ : Ro) : Prop := ∃ hs x s5, hs ≠ [] ∧ ρ = [HS true hs, s1, s2, .fz (.str z), .fz (.str x), s5] ∧ Fr s5 ∧ Asc (15 - ks.length) x ∧ ks.length ≤ 15
theorem any_loop {s1 s2 : Sl} (f1 : Fr s1) (f2 : Fr s2) {z : Str} (az : Asc 95 z) (hz : 1 ≤ z.length) {ks : List D} {ρ : Ro} (h : PAt s1 s2 z ks ρ) : ∃ ρ', loopF (tgName 5) b1__law_any_text ks ρ = .nx ρ' ∧ PAt s1 s2 z [] ρ' := by
  refine loop_inv (PAt s1 s2 z) ?_ h
  rintro d ds ρ ⟨hs, x, s5, hne, rfl, f5, ax, hl⟩
  rw [List.length_cons] at ax hl
  have hzl := az.1
  obtain ⟨v, hs', hne', v0, v1, e⟩ := draw hs hne (z.length : Int) (by omega) (by omega)
  simp only [HS] at e
  obtain ⟨c, hc, ec⟩ := ix_chr az (by decide) v0 v1
  have ax' := ax.append (Asc.one hc)
  refine ⟨[HS true hs, s1, s2, .fz (.str z), .fz (.str x), .fz d], by simp [f5.ok], ?_⟩
  refine ⟨[HS true hs', s1, s2, .fz (.str z), .fz (.str (x ++ ⟨#[c]⟩)), .fz d], .inl ?_, hs', x ++ ⟨#[c]⟩, .fz d, hne', rfl, .fz, ax'.mono (by omega), by omega⟩
  have ea := addA ax (Asc.one hc) (by omega)
  simp [x_b1__law_any_text, r_len_str (az.sz), e, ec, ea, bk_fr f1, bk_fr f2]
theorem words_asc : ∀ w ∈ words, Asc 10 w := by decide +kernel
theorem words_len : words.length = 43 := by decide +kernel
theorem alnum_asc : Asc 95 "abcdefghijklmnopqrstuvwxyz0123456789" := by decide +kernel
theorem alnum_len : 1 ≤ ("abcdefghijklmnopqrstuvwxyz0123456789" : Str).length := by decide +kernel
theorem run_any {hs : List Int} (hne : hs ≠ []) : ∃ y hs', hs' ≠ [] ∧ Asc 2000 y ∧ F__law_any_text [HS true hs] = .ok (.val (.str y)) [HS true hs'] := by
  obtain ⟨v1, hs1, n1, a1, b1, e1⟩ := draw hs hne 5 (by decide) (by decide)
  simp only [HS] at e1
  have st1 : sAsg 1 (eCall F__law_draw (eCons (eVar 0) (eCons (eC (.int 5)) eNil))) ([HS true hs] ++ List.replicate 5 Sl.no) = .nx [HS true hs1, .fz (.int v1), .no, .no, .no, .no] := by simp [e1]
  unfold F__law_any_text d__law_any_text
  by_cases h4 : v1 = 4
  · obtain ⟨y, hs2, n2, ay, e2⟩ := run_joined n1
    simp only [HS] at e2
    refine ⟨y, hs2, n2, ay, ?_⟩
    rw [x_run, x_seq, st1, oand_nx]
    simp [h4, e2]
  · have h4' : (v1 == 4) = false := by simpa using h4
    by_cases h3 : v1 = 3
    · obtain ⟨v2, hs2, n2, a2, b2, e2⟩ := draw hs1 n1 43 (by decide) (by decide)
      obtain ⟨w, hw, ew⟩ := ix_strs (ws := words) a2 (by rw [words_len]; exact b2)
      obtain ⟨y, hs3, n3, ay, e3⟩ := run_bent n2 (words_asc w hw) (by decide)
      simp only [HS] at e2 e3
      refine ⟨y, hs3, n3, ay.mono (by decide), ?_⟩
      rw [x_run, x_seq, st1, oand_nx]
      simp [h3, run_reserved, e2, ew, e3]
    · have h3' : (v1 == 3) = false := by simpa using h3
      by_cases h2 : v1 = 2
      · obtain ⟨x, hs2, n2, ax, e2⟩ := run_named n1 (most := 12) (by decide) (by decide)
        obtain ⟨y, hs3, n3, ay, e3⟩ := run_bent n2 ax (by decide)
        simp only [HS] at e2 e3
        refine ⟨y, hs3, n3, ay.mono (by decide), ?_⟩
        rw [x_run, x_seq, st1, oand_nx]
        simp [h2, e2, e3]
      · have h2' : (v1 == 2) = false := by simpa using h2
        obtain ⟨z, az, hz, ez⟩ : ∃ z : Str, Asc 95 z ∧ 1 ≤ z.length ∧ sIf (eBool (eBin opEq (eVar 1) (eC (.int 0)))) (sAsg 3 (eC (.str "abcdefghijklmnopqrstuvwxyz0123456789"))) sNext [HS true hs1, .fz (.int v1), .no, .fz (.str signs0), .no, .no] =
            .nx [HS true hs1, .fz (.int v1), .no, .fz (.str z), .no, .no] := by
          by_cases h0 : v1 = 0
          · exact ⟨_, alnum_asc, alnum_len, by simp [h0]⟩
          · have h0' : (v1 == 0) = false := by simpa using h0
            exact ⟨signs0, signs0_asc, by rw [signs0_len]; decide, by simp [h0']⟩
        obtain ⟨v2, hs2, n2, a2, b2, e2⟩ := draw hs1 n1 15 (by decide) (by decide)
        obtain ⟨ρ', e3, hs3, x, s5, n3, rfl, f5, ax, _⟩ := any_loop (s1 := .fz (.int v1)) (s2 := .no) .fz .no az hz (ks := rangeD 0 v2.toNat) (ρ := [HS true hs2, .fz (.int v1), .no, .fz (.str z), .fz (.str ""), .no])
          ⟨hs2, "", .no, n2, rfl, .no, ⟨by have : ("" : Str).length = 0 := by decide +kernel
                                           rw [this]; exact Nat.zero_le _, by decide +kernel⟩, by rw [range_len]; omega⟩
        simp only [HS] at e2 e3 ez
        refine ⟨x, hs3, n3, ax.mono (by decide), ?_⟩
        have fit := fits_of a2 (by omega)
        rw [x_run]
        refine fin_seq st1 ?_
        refine fin_seq (ρ' := [HS true hs1, .fz (.int v1), .no, .no, .no, .no]) (by simp [h4']) ?_
        refine fin_seq (ρ' := [HS true hs1, .fz (.int v1), .no, .no, .no, .no]) (by simp [h3']) ?_
        refine fin_seq (ρ' := [HS true hs1, .fz (.int v1), .no, .no, .no, .no]) (by simp [h2']) ?_
        refine fin_seq (ρ' := [HS true hs1, .fz (.int v1), .no, .fz (.str signs0), .no, .no]) (by simp [run_alphabet]) ?_
        refine fin_seq ez ?_
        refine fin_seq (ρ' := [HS true hs1, .fz (.int v1), .no, .fz (.str z), .fz (.str ""), .no]) (by simp) ?_
        refine fin_seq (ρ' := [HS true hs3, .fz (.int v1), .no, .fz (.str z), .fz (.str x), s5]) (by simp [e2, fit, e3]) ?_
        simp
/-! ### the fixed texts -/
def PFx (ks : List D) (ρ : Ro) : Prop := (∀ d ∈ ks, ∃ w, d = .str w ∧ Asc 10 w) ∧ ∃ ds s1 s2, ρ = [.ow false (.lst ds), s1, s2] ∧ Fr s1 ∧ (∀ d ∈ ds, AD d) ∧ ds.length + 6 * ks.length ≤ 1000
theorem lit {d : Str} (h : Asc 1000 d) : AD (.str d) := ⟨d, rfl, h⟩
theorem lst4 {a b c d : D} {ρ : Ro} : lstK (some [a, b, c, d]) ρ = .ok (.nw (.lst [a, b, c, d])) ρ := lstK_s (by have := sizeLine_eq; simp; omega)
theorem lst2 {a b : D} {ρ : Ro} : lstK (some [a, b]) ρ = .ok (.nw (.lst [a, b])) ρ := lstK_s (by have := sizeLine_eq; simp; omega)
theorem fixed_loop {ks : List D} {ρ : Ro} (h : PFx ks ρ) : ∃ ρ', loopF (tgName 1) b2__law_fixed ks ρ = .nx ρ' ∧ PFx [] ρ' := by
  refine loop_inv PFx ?_ h
  rintro d ds ρ ⟨hd, rs, s1, s2, rfl, f1, ar, hl⟩
  rw [List.length_cons] at hl
  obtain ⟨w, rfl, aw⟩ := hd _ List.mem_cons_self
  have l2 : Asc 1 "2" := by decide +kernel
  have lx : Asc 1 "x" := by decide +kernel
  have la : Asc 2 "a." := by decide +kernel
  have lb : Asc 2 ".a" := by decide +kernel
  have ld : Asc 1 "." := by decide +kernel
  refine ⟨[.ow false (.lst rs), .fz (.str w), s2], by simp [f1.ok], ?_⟩
  have hz := sizeLine_eq
  have e1 : opAdd (.lst rs) (.lst [.str w, .str (w ++ "2"), .str (w ++ "x"), .str ("a." ++ w)]) = some (.nw (.lst (rs ++ [.str w, .str (w ++ "2"), .str (w ++ "x"), .str ("a." ++ w)]))) := r_addL (by simp; omega)
  have e2 : opAdd (.lst (rs ++ [.str w, .str (w ++ "2"), .str (w ++ "x"), .str ("a." ++ w)])) (.lst [.str (w ++ ".a"), .str (w ++ ".")]) = some (.nw (.lst (rs ++ [.str w, .str (w ++ "2"), .str (w ++ "x"), .str ("a." ++ w)] ++ [.str (w ++ ".a"), .str (w ++ ".")]))) := r_addL (by simp; omega)
  refine ⟨[.ow false (.lst (rs ++ [.str w, .str (w ++ "2"), .str (w ++ "x"), .str ("a." ++ w)] ++ [.str (w ++ ".a"), .str (w ++ ".")])), .fz (.str w), s2], .inl ?_, fun d h => hd d (List.mem_cons_of_mem _ h), _, _, _, rfl, .fz, fun d h => ?_, by simp; omega⟩
  · rw [x_b2__law_fixed]
    refine seq_nx (ρ' := [.ow false (.lst (rs ++ [.str w, .str (w ++ "2"), .str (w ++ "x"), .str ("a." ++ w)])), .fz (.str w), s2]) ?_ ?_
    · simp [lst4, e1, addA aw l2, addA aw lx, addA la aw]
    · simp only [List.append_assoc] at e2 ⊢
      simp [lst2, e2, addA aw lb, addA aw ld]
  · rcases List.mem_append.mp h with h | h
    · rcases List.mem_append.mp h with h | h
      · exact ar d h
      · simp only [List.mem_cons, List.not_mem_nil, or_false] at h
        rcases h with rfl | rfl | rfl | rfl
        · exact ⟨_, rfl, aw.mono (by decide)⟩
        · exact ⟨_, rfl, (aw.append l2).mono (by decide)⟩
        · exact ⟨_, rfl, (aw.append lx).mono (by decide)⟩
        · exact ⟨_, rfl, (la.append aw).mono (by decide)⟩
    · simp only [List.mem_cons, List.not_mem_nil, or_false] at h
      rcases h with rfl | rfl
      · exact ⟨_, rfl, (aw.append lb).mono (by decide)⟩
      · exact ⟨_, rfl, (aw.append ld).mono (by decide)⟩
end DL

/-! K3t: k03: the fixed texts. -/
namespace DL
open PySem PySem.Spec
def fx1 : List D := [.str "", .str "a", .str "z9", .str "a1b2", .str "1", .str "9a", .str "A", .str "aB", .str "a ", .str " a", .str "a\n", .str "\na", .str "a_b", .str "a-b"]
def fw1 : List Str := (["", "a", "z9", "a1b2", "1", "9a", "A", "aB", "a ", " a", "a\n", "\na", "a_b", "a-b"] : List String).map Str.ofString
theorem fx1_eq : fx1 = fw1.map .str := rfl
theorem fw1_ok : ∀ w ∈ fw1, Asc 1000 w := by decide +kernel
theorem fx1_ok : ∀ d ∈ fx1, AD d := by
  rw [fx1_eq]
  intro d hd
  obtain ⟨w, hw, rfl⟩ := List.mem_map.mp hd
  exact ⟨w, rfl, fw1_ok w hw⟩
def fx2 : List D := [.str ".", .str "a.", .str ".a", .str "a..b", .str "a.b", .str "a.in", .str "in.a", .str "a.b1.c22", .str "a.1", .str "a. b", .str "a.B"]
def fw2 : List Str := ([".", "a.", ".a", "a..b", "a.b", "a.in", "in.a", "a.b1.c22", "a.1", "a. b", "a.B"] : List String).map Str.ofString
theorem fx2_eq : fx2 = fw2.map .str := rfl
theorem fw2_ok : ∀ w ∈ fw2, Asc 1000 w := by decide +kernel
theorem fx2_ok : ∀ d ∈ fx2, AD d := by
  rw [fx2_eq]
  intro d hd
  obtain ⟨w, hw, rfl⟩ := List.mem_map.mp hd
  exact ⟨w, rfl, fw2_ok w hw⟩
def fx3 : List D := [.str "any", .str "tick", .str "event", .str "word", .str "set", .str "le", .str "eq", .str "uses", .str "hear", .str "fed", .str "did"]
def fw3 : List Str := (["any", "tick", "event", "word", "set", "le", "eq", "uses", "hear", "fed", "did"] : List String).map Str.ofString
theorem fx3_eq : fx3 = fw3.map .str := rfl
theorem fw3_ok : ∀ w ∈ fw3, Asc 1000 w := by decide +kernel
theorem fx3_ok : ∀ d ∈ fx3, AD d := by
  rw [fx3_eq]
  intro d hd
  obtain ⟨w, hw, rfl⟩ := List.mem_map.mp hd
  exact ⟨w, rfl, fw3_ok w hw⟩
def fx4 : List D := [.str "abcdefghijkl", .str "abcdefghijklm", .str "q234567890ab", .str "q234567890abc"]
def fw4 : List Str := (["abcdefghijkl", "abcdefghijklm", "q234567890ab", "q234567890abc"] : List String).map Str.ofString
theorem fx4_eq : fx4 = fw4.map .str := rfl
theorem fw4_ok : ∀ w ∈ fw4, Asc 1000 w := by decide +kernel
theorem fx4_ok : ∀ d ∈ fx4, AD d := by
  rw [fx4_eq]
  intro d hd
  obtain ⟨w, hw, rfl⟩ := List.mem_map.mp hd
  exact ⟨w, rfl, fw4_ok w hw⟩
def fx5 : List D := [.str "abcdefghijkl.a", .str "a.abcdefghijklm"]
def fw5 : List Str := (["abcdefghijkl.a", "a.abcdefghijklm"] : List String).map Str.ofString
theorem fx5_eq : fx5 = fw5.map .str := rfl
theorem fw5_ok : ∀ w ∈ fw5, Asc 1000 w := by decide +kernel
theorem fx5_ok : ∀ d ∈ fx5, AD d := by
  rw [fx5_eq]
  intro d hd
  obtain ⟨w, hw, rfl⟩ := List.mem_map.mp hd
  exact ⟨w, rfl, fw5_ok w hw⟩
theorem ad_app {xs ys : List D} (h : ∀ d ∈ xs, AD d) (k : ∀ d ∈ ys, AD d) : ∀ d ∈ xs ++ ys, AD d := fun d hd => by
  rcases List.mem_append.mp hd with z | z
  · exact h d z
  · exact k d z
theorem rows_step {f : M R} {A B C : List D} (hB : f [.ow false (.lst A), .no, .no] = .ok (.nw (.lst B)) [.ow false (.lst A), .no, .no]) (hC : opAdd (.lst A) (.lst B) = some (.nw (.lst C))) : sAsg 0 (eBin opAdd (eVar 0) f) [.ow false (.lst A), .no, .no] = .nx [.ow false (.lst C), .no, .no] := by
  simp [hB, hC]
theorem fixed_comp (L : List D) : ∃ xs, (∀ d ∈ xs, AD d) ∧ xs.length = 4 ∧ compN (tgName 2) eYes e1__law_fixed [2] (rangeD 39 4) [] [.ow false (.lst L), .no, .no] = .ok xs [.ow false (.lst L), .no, .no] := by
  have hz := sizeLine_eq
  have k9 : Asc 12 "abcdefghijk9" := by decide +kernel
  have l1 : ([.str "abcdefghijk9"] : List D).length ≤ sizeLine := by simp; omega
  obtain ⟨xs, ρ', ec, lx, qx, hρ⟩ := comp_inv (tgt := tgName 2) (cond := eYes) (elt := e1__law_fixed) (vs := [2]) (fun ρ => ρ = [.ow false (.lst L), .no, .no]) (fun _ x => AD x) (rangeD 39 4) [] [.ow false (.lst L), .no, .no]
    (fun d hd ρ hρ => by
      subst hρ
      obtain ⟨k, hk, rfl⟩ := range_int hd
      obtain ⟨y, ey, ay⟩ := join_rep (k := (39 : Int) + k) k9 (by omega) (by omega)
      have em : opMulA (.lst [.str "abcdefghijk9"]) (.int ((39 : Int) + k)) = some (.nw (.lst (List.replicate ((39 : Int) + k).toNat (.str "abcdefghijk9")))) := r_mul1 (by omega) (by omega)
      have ay' : Asc 1000 y := ay.mono (by omega)
      clear ay
      generalize List.replicate ((39 : Int) + k).toNat (D.str "abcdefghijk9") = Lk at ey em
      refine ⟨[.ow false (.lst L), .no, .fz (.int ((39 : Int) + k))], [.ow false (.lst L), .no, .fz (.int ((39 : Int) + k))], [.ow false (.lst L), .no, .fz (.int ((39 : Int) + k))], .val (.str y), .str y, by simp, by simp, ?_, rfl, ⟨y, rfl, ay'⟩, by simp⟩
      rw [x_e1__law_fixed]
      simp -implicitDefEqProofs [lstK_s l1, em, ey])
    rfl (by rw [List.length_nil, range_len]; omega)
  rw [List.nil_append] at ec
  rw [range_len] at lx
  subst hρ
  exact ⟨xs, fun d hd => let ⟨_, _, q⟩ := qx d hd; q, lx, ec⟩
theorem run_fixed : ∃ ds, (∀ d ∈ ds, AD d) ∧ F__law_fixed [] = .ok (.nw (.lst ds)) [] := by
  have hz := sizeLine_eq
  have b41 : Asc 1 "b" := by decide +kernel
  obtain ⟨x5, e5, a5⟩ := join_rep (k := 41) b41 (by decide) (by decide)
  have m5 : opMulA (.lst [.str "b"]) (.int 41) = some (.nw (.lst (List.replicate (41 : Int).toNat (.str "b")))) := r_mul1 (by decide) (by decide)
  generalize List.replicate (41 : Int).toNat (D.str "b") = Lb at m5 e5
  have lb1 : ([.str "b"] : List D).length ≤ sizeLine := by simp; omega
  obtain ⟨xs, ax, lx, ec⟩ := fixed_comp (fx1 ++ fx2 ++ fx3 ++ fx4 ++ (fx5 ++ [D.str x5]))
  have l12 : opAdd (.lst fx1) (.lst fx2) = some (.nw (.lst (fx1 ++ fx2))) := r_addL (by rw [hz]; simp [fx1, fx2, fx3, fx4])
  have l23 : opAdd (.lst (fx1 ++ fx2)) (.lst fx3) = some (.nw (.lst (fx1 ++ fx2 ++ fx3))) := r_addL (by rw [hz]; simp [fx1, fx2, fx3, fx4])
  have l34 : opAdd (.lst (fx1 ++ fx2 ++ fx3)) (.lst fx4) = some (.nw (.lst (fx1 ++ fx2 ++ fx3 ++ fx4))) := r_addL (by rw [hz]; simp [fx1, fx2, fx3, fx4])
  have l45 : opAdd (.lst (fx1 ++ fx2 ++ fx3 ++ fx4)) (.lst (fx5 ++ [D.str x5])) = some (.nw (.lst (fx1 ++ fx2 ++ fx3 ++ fx4 ++ (fx5 ++ [D.str x5])))) := r_addL (by rw [hz]; simp [fx1, fx2, fx3, fx4, fx5])
  have len : (fx1 ++ fx2 ++ fx3 ++ fx4 ++ (fx5 ++ [D.str x5])).length = 43 := by simp [fx1, fx2, fx3, fx4, fx5]
  have l56 : opAdd (.lst (fx1 ++ fx2 ++ fx3 ++ fx4 ++ (fx5 ++ [D.str x5]))) (.lst xs) = some (.nw (.lst (fx1 ++ fx2 ++ fx3 ++ fx4 ++ (fx5 ++ [D.str x5]) ++ xs))) := r_addL (by rw [len, lx]; omega)
  have a6 := ad_app (ad_app (ad_app (ad_app (ad_app fx1_ok fx2_ok) fx3_ok) fx4_ok) (ad_app fx5_ok fun d hd => by
    rw [List.mem_singleton] at hd
    exact ⟨x5, hd, a5.mono (by decide)⟩)) ax
  have len6 : (fx1 ++ fx2 ++ fx3 ++ fx4 ++ (fx5 ++ [D.str x5]) ++ xs).length = 47 := by rw [List.length_append, len, lx]
  obtain ⟨ρ', ef, _, ds, s1, s2, rfl, f1, ar, hl⟩ := fixed_loop (ks := words.map .str) (ρ := [.ow false (.lst (fx1 ++ fx2 ++ fx3 ++ fx4 ++ (fx5 ++ [D.str x5]) ++ xs)), .no, .no])
    ⟨fun d hd => by
      obtain ⟨w, hw, rfl⟩ := List.mem_map.mp hd
      exact ⟨w, rfl, words_asc w hw⟩, _, _, _, rfl, .no, a6, by rw [len6, List.length_map, words_len]; decide⟩
  refine ⟨ds, ar, ?_⟩
  clear ax a6 len6 len lx hl ar
  generalize fx1 ++ fx2 = A2 at *
  generalize A2 ++ fx3 = A3 at *
  generalize A3 ++ fx4 = A4 at *
  generalize hA5 : A4 ++ (fx5 ++ [D.str x5]) = A5 at *
  generalize A5 ++ xs = A6 at *
  unfold F__law_fixed d__law_fixed
  rw [x_run]
  refine fin_seq (ρ' := [.ow false (.lst fx1), .no, .no]) (by simp [lstK_s, sizeLine_eq, fx1]) ?_
  refine fin_seq (rows_step (by simp [lstK_s, sizeLine_eq, fx2]) l12) ?_
  refine fin_seq (rows_step (by simp [lstK_s, sizeLine_eq, fx3]) l23) ?_
  refine fin_seq (rows_step (by simp [lstK_s, sizeLine_eq, fx4]) l34) ?_
  refine fin_seq (rows_step (by simp [lstK_s, sizeLine_eq, fx5, m5, e5]) l45) ?_
  have fit1 : fits62 39 = true := by decide
  have fit2 : fits62 43 = true := by decide
  have d4 : ((43 : Int) - 39).toNat = 4 := by decide
  refine fin_seq (rows_step (by simp [fit1, fit2, d4, ec]) l56) ?_
  refine fin_seq (ρ' := [.ow false (.lst ds), s1, s2]) (by simp [run_reserved, ef]) ?_
  simp
end DL

/-! K3u: k03: fresh. -/
namespace DL
open PySem PySem.Spec
def Sn (k : Nat) : Str := toString ((k : Nat) : Int)
def decN (l : List Nat) : Nat := l.foldl (fun a c => 10 * a + (c - 48)) 0
theorem Sn_dec : ∀ k < 1000, decN (cs (Sn k)) = k ∧ Asc 3 (Sn k) ∧ 1 ≤ (Sn k).length := by decide +kernel
def cand (name : Str) (k : Nat) : Str := if k = 1 then name else name ++ Sn k
theorem app_inj {x y z : Str} (h : x ++ y = x ++ z) : y = z := by
  have := congrArg cs h
  rw [cs_append, cs_append] at this
  exact cs_ext (List.append_cancel_left this)
theorem app_ne {x y : Str} (h : 1 ≤ y.length) : x ≠ x ++ y := fun e => by
  have := congrArg Str.length e
  rw [Str.length_append] at this
  omega
theorem cand_inj {name : Str} {j k : Nat} (hj : j < 1000) (hk : k < 1000) (h : cand name j = cand name k) : j = k := by
  unfold cand at h
  by_cases h1 : j = 1
  · by_cases h2 : k = 1
    · omega
    · rw [if_pos h1, if_neg h2] at h
      exact absurd h (app_ne (Sn_dec k hk).2.2)
  · by_cases h2 : k = 1
    · rw [if_neg h1, if_pos h2] at h
      exact absurd h.symm (app_ne (Sn_dec j hj).2.2)
    · rw [if_neg h1, if_neg h2] at h
      have := app_inj h
      rw [← (Sn_dec j hj).1, ← (Sn_dec k hk).1, this]
theorem pigeon {f : Nat → Str} : ∀ (n : Nat) (ws : List Str), (∀ j k, 1 ≤ j → j ≤ n → 1 ≤ k → k ≤ n → f j = f k → j = k) → (∀ j, 1 ≤ j → j ≤ n → f j ∈ ws) → n ≤ ws.length
  | 0, _, _, _ => Nat.zero_le _
  | n + 1, ws, hi, hm => by
    have hl := List.length_erase_of_mem (hm (n + 1) (by omega) (by omega))
    have hp := List.length_pos_of_mem (hm (n + 1) (by omega) (by omega))
    have := pigeon n (ws.erase (f (n + 1))) (fun j k a b c d e => hi j k a (by omega) c (by omega) e) fun j h1 h2 => by
      refine (List.mem_erase_of_ne fun e => ?_).mpr (hm j h1 (by omega))
      have := hi j (n + 1) h1 (by omega) (by omega) (by omega) e
      omega
    omega
/-- the first free one -/
def Free (name : Str) (ws : List Str) (y : Str) : Prop := ∃ k, 1 ≤ k ∧ y = cand name k ∧ y ∉ ws ∧ ∀ j, 1 ≤ j → j < k → cand name j ∈ ws
theorem Free.one {name : Str} {ws : List Str} {y z : Str} (h : Free name ws y) (h' : Free name ws z) : y = z := by
  obtain ⟨k, a, rfl, b, c⟩ := h
  obtain ⟨k', a', rfl, b', c'⟩ := h'
  rcases Nat.lt_trichotomy k k' with h | h | h
  · exact absurd (c' k a h) b
  · rw [h]
  · exact absurd (c k' a' h) b'
theorem exists_free (name : Str) (ws : List Str) (hl : ws.length ≤ 900) : ∃ k, 1 ≤ k ∧ k ≤ ws.length + 1 ∧ cand name k ∉ ws ∧ ∀ j, 1 ≤ j → j < k → cand name j ∈ ws := by
  have : ¬ ∀ j, 1 ≤ j → j ≤ ws.length + 1 → cand name j ∈ ws := fun h => by
    have := pigeon (ws.length + 1) ws (fun j k a b c d e => cand_inj (by omega) (by omega) e) h
    omega
  -- the least one
  have key : ∀ n, (∀ j, 1 ≤ j → j ≤ n → cand name j ∈ ws) ∨ ∃ k, 1 ≤ k ∧ k ≤ n ∧ cand name k ∉ ws ∧ ∀ j, 1 ≤ j → j < k → cand name j ∈ ws := fun n => by
    induction n with
    | zero => exact .inl fun j h1 h2 => by omega
    | succ n ih =>
      rcases ih with ih | ⟨k, a, b, c, d⟩
      · by_cases h : cand name (n + 1) ∈ ws
        · refine .inl fun j h1 h2 => ?_
          by_cases e : j = n + 1
          · rw [e]; exact h
          · exact ih j h1 (by omega)
        · exact .inr ⟨n + 1, by omega, Nat.le_refl _, h, fun j h1 h2 => ih j h1 (by omega)⟩
      · exact .inr ⟨k, a, by omega, c, d⟩
  rcases key (ws.length + 1) with h | ⟨k, a, b, c, d⟩
  · exact absurd h this
  · exact ⟨k, a, b, c, d⟩
/-! ### _law_free -/
theorem notin_strs {ws : List Str} {x : Str} (hx : PyData.strOk x = true) (hw : ∀ w ∈ ws, PyData.strOk w = true) : opNotIn (.str x) (.lst (ws.map .str)) = some (.val (.bl (!decide (x ∈ ws)))) := by
  unfold opNotIn
  have : inB (.str x) (.lst (ws.map .str)) = some (decide (x ∈ ws)) := by
    show (if (pyOk (.str x) && pyOk (.lst (ws.map .str))) = true then some ((ws.map D.str).any fun z => eqF z (.str x)) else none) = _
    rw [pyOk_str hx, pyOk_strs hw, if_pos (by rfl), List.any_map]
    congr 1
    have : ((fun z => eqF z (D.str x)) ∘ D.str) = fun w : Str => w == x := rfl
    rw [this]
    rw [Bool.eq_iff_iff, List.any_eq_true, decide_eq_true_eq]
    constructor
    · rintro ⟨w, hw, e⟩
      rw [← eq_of_beq e]; exact hw
    · exact fun h => ⟨x, h, beq_self_eq_true x⟩
  rw [this]; rfl
theorem log_small {k : Nat} (h : k < 1000) : ((k : Nat) : Int).natAbs.log2 < 1920 := by
  have := Nat.log2_le_self k
  have e : ((k : Nat) : Int).natAbs = k := rfl
  rw [e]; omega
theorem mul_1 {x : Str} {n : Nat} (h : Asc n x) (hn : n ≤ 1000) : opMulA (.str x) (.int 1) = some (.val (.str x)) := by
  have hz := sizeLine_eq
  have h1 := h.1
  have hc : (decide (-(2 ^ 63) ≤ (1 : Int)) && decide ((1 : Int) < 2 ^ 63) && decide (x.length * (1 : Int).toNat ≤ sizeLine)) = true := by
    have : (1 : Int).toNat = 1 := rfl
    simp only [Bool.and_eq_true, decide_eq_true_eq, this]
    omega
  show (if (decide (-(2 ^ 63) ≤ (1 : Int)) && decide ((1 : Int) < 2 ^ 63) && decide (x.length * (1 : Int).toNat ≤ sizeLine)) = true then vS (Txt.mul x 1) else none) = _
  rw [if_pos hc]
  have e : Txt.mul x 1 = x := by
    unfold Txt.mul
    rw [if_neg (by decide), if_pos (by simp)]
  rw [e]; rfl
theorem mul_0 {x : Str} : opMulA (.str x) (.int 0) = some (.val (.str Str.empty)) := by
  have hc : (decide (-(2 ^ 63) ≤ (0 : Int)) && decide ((0 : Int) < 2 ^ 63) && decide (x.length * (0 : Int).toNat ≤ sizeLine)) = true := by
    have : (0 : Int).toNat = 0 := rfl
    simp [this]
  show (if (decide (-(2 ^ 63) ≤ (0 : Int)) && decide ((0 : Int) < 2 ^ 63) && decide (x.length * (0 : Int).toNat ≤ sizeLine)) = true then vS (Txt.mul x 0) else none) = _
  rw [if_pos hc]
  have e : Txt.mul x 0 = Str.empty := by
    unfold Txt.mul
    rw [if_pos (by decide)]
  rw [e]; rfl
theorem app_empty (x : Str) : x ++ Str.empty = x := cs_ext (by rw [cs_append]; exact List.append_nil _)
theorem empty_app (x : Str) : Str.empty ++ x = x := cs_ext (by rw [cs_append]; rfl)
theorem empty_asc : Asc 0 Str.empty := ⟨Nat.le_refl _, fun c h => absurd h (by show ¬ c ∈ ([] : List Nat); exact List.not_mem_nil)⟩
theorem Asc.cand {name : Str} {n k : Nat} (h : Asc n name) (hk : k < 1000) : Asc (n + 3) (cand name k) := by
  unfold DL.cand
  split
  · exact h.mono (by omega)
  · exact h.append (Sn_dec k hk).2.1
end DL

/-! K3v: k03: fresh and free run. -/
namespace DL
open PySem PySem.Spec
theorem free_found {name : Str} {n : Nat} (an : Asc n name) (hn : n ≤ 900) {k : Nat} (h1 : 1 ≤ k) (hk : k < 1000) {s1 s3 : Sl} (f3 : Fr s3) :
    sAsg 3 (eBin opAdd (eVar 0) (eBin opMulA (eCallB cStr (eCons (eVar 2) eNil)) (eCallB cInt (eCons (eBin opGt (eVar 2) (eC (.int 1))) eNil)))) [.fz (.str name), s1, .fz (.int k), s3] = .nx [.fz (.str name), s1, .fz (.int k), .fz (.str (cand name k))] := by
  have es : cStr [.int (k : Int)] = some (.val (.str (Sn k))) := r_strI (log_small hk)
  obtain ⟨_, as, _⟩ := Sn_dec k hk
  by_cases h : k = 1
  · subst h
    have e0 : opAdd (.str name) (.str Str.empty) = some (.val (.str name)) := by rw [addA an empty_asc (by omega), app_empty]
    have ec : cand name 1 = name := if_pos rfl
    rw [ec]
    have es : cStr [.int 1] = some (.val (.str (Sn 1))) := es
    simp [es, mul_0, e0, f3.ok]
  · have hg : decide ((1 : Int) < (k : Int)) = true := decide_eq_true (by omega)
    have ec : cand name k = name ++ Sn k := if_neg h
    have e1 := addA an as (by omega)
    rw [ec]
    have hg' : (1 : Int) < (k : Int) := by omega
    simp [es, hg', mul_1 as (by decide), e1, f3.ok]
theorem free_loop {name : Str} {ws : List Str} {n : Nat} (an : Asc n name) (hn : n ≤ 900) (aw : ∀ w ∈ ws, PyData.strOk w = true) {k0 : Nat} (hk : k0 < 1000) (hf : cand name k0 ∉ ws) (hb : ∀ j, 1 ≤ j → j < k0 → cand name j ∈ ws) :
    ∀ (m a : Nat) (s2 s3 : Sl), Fr s2 → Fr s3 → 1 ≤ a → a ≤ k0 → k0 < a + m → ∃ s2' s3', loopF (tgName 2) b1__law_free ((List.range' a m).map fun i => .int (i : Nat)) [.fz (.str name), .ow true (.lst (ws.map .str)), s2, s3] =
      .ret (.val (.str (cand name k0))) [.fz (.str name), .ow true (.lst (ws.map .str)), s2', s3']
  | 0, a, s2, s3, _, _, _, h1, h2 => by omega
  | m + 1, a, s2, s3, f2, f3, ha, h1, h2 => by
    rw [List.range'_succ, List.map_cons, loop_cons]
    have st := free_found an hn ha (by omega : a < 1000) (s1 := .ow true (.lst (ws.map .str))) f3
    have ni := notin_strs (an.cand (by omega : a < 1000)).ok aw
    by_cases e : a = k0
    · subst e
      refine ⟨.fz (.int a), .fz (.str (cand name a)), ?_⟩
      have hd : decide (cand name a ∈ ws) = false := decide_eq_false hf
      rw [hd] at ni
      have tg : tgName 2 (.int (a : Nat)) [.fz (.str name), .ow true (.lst (ws.map .str)), s2, s3] = some [.fz (.str name), .ow true (.lst (ws.map .str)), .fz (.int (a : Nat)), s3] := by simp [f2.ok]
      rw [tg, goK_s, x_b1__law_free, x_seq, st, oand_nx]
      simp [ni]
    · obtain ⟨s2', s3', ih⟩ := free_loop an hn aw hk hf hb m (a + 1) (.fz (.int (a : Nat))) (.fz (.str (cand name a))) .fz .fz (by omega) (by omega) (by omega)
      refine ⟨s2', s3', ?_⟩
      have hd : decide (cand name a ∈ ws) = true := decide_eq_true (hb a ha (by omega))
      rw [hd] at ni
      have tg : tgName 2 (.int (a : Nat)) [.fz (.str name), .ow true (.lst (ws.map .str)), s2, s3] = some [.fz (.str name), .ow true (.lst (ws.map .str)), .fz (.int (a : Nat)), s3] := by simp [f2.ok]
      rw [tg, goK_s, x_b1__law_free, x_seq, st, oand_nx]
      have z : sIf (eBool (eBin opNotIn (eVar 3) (eVar 1))) (sRet (eVar 3)) sNext [.fz (.str name), .ow true (.lst (ws.map .str)), .fz (.int (a : Nat)), .fz (.str (cand name a))] = .nx [.fz (.str name), .ow true (.lst (ws.map .str)), .fz (.int (a : Nat)), .fz (.str (cand name a))] := by simp [ni]
      rw [z, lo_nx]
      exact ih
theorem range_eq (m : Nat) : rangeD 1 m = (List.range' 1 m).map fun i => D.int (i : Nat) := by
  unfold rangeD
  rw [List.range'_eq_map_range, List.map_map]
  congr 1
theorem run_free {name : Str} {ws : List Str} {n : Nat} (an : Asc n name) (hn : n ≤ 900) (aw : ∀ w ∈ ws, PyData.strOk w = true) (hl : ws.length ≤ 900) : ∃ y, Free name ws y ∧ Asc (n + 3) y ∧ F__law_free [.fz (.str name), .ow true (.lst (ws.map .str))] = .ok (.val (.str y)) [.fz (.str name), .ow true (.lst (ws.map .str))] := by
  obtain ⟨k, h1, h2, hf, hb⟩ := exists_free name ws hl
  refine ⟨cand name k, ⟨k, h1, rfl, hf, hb⟩, an.cand (by omega), ?_⟩
  obtain ⟨s2', s3', e⟩ := free_loop an hn aw (by omega) hf hb (ws.length + 1) 1 .no .no .no .no (by decide) h1 (by omega)
  unfold F__law_free d__law_free
  rw [x_run]
  have fit1 : fits62 1 = true := by decide
  have fit2 : fits62 ((ws.length : Int) + 2) = true := fits_of (by omega) (by omega)
  have et : ((ws.length : Int) + 2 - 1).toNat = ws.length + 1 := by omega
  rw [← range_eq] at e
  simp -implicitDefEqProofs [fit1, fit2, et, e]
/-! ### fresh -/
def Keys (kvs : List (L2.Key × D)) (ws : List Str) : Prop := ∀ x, (kvs.any fun p => decide (p.1 = .inr x)) = decide (x ∈ ws)
theorem in_dct {kvs : List (L2.Key × D)} {ws : List Str} (h : Keys kvs ws) (x : Str) : opIn (.str x) (.dct kvs) = some (.val (.bl (decide (x ∈ ws)))) := by
  unfold opIn
  show (some (kvs.any fun p => decide (p.1 = .inr x))).bind vB = _
  rw [h x]; rfl
theorem notin_dct {kvs : List (L2.Key × D)} {ws : List Str} (h : Keys kvs ws) (x : Str) : opNotIn (.str x) (.dct kvs) = some (.val (.bl (!decide (x ∈ ws)))) := by
  unfold opNotIn
  show (some (kvs.any fun p => decide (p.1 = .inr x))).bind (fun b => vB (!b)) = _
  rw [h x]; rfl
theorem keys_fold (ws : List Str) : Keys ((ws.map D.str).foldl (fun acc d => putD acc (match d with | .str x => .inr x | _ => .inl 0) (.bl true)) []) ws := fun x => by
  rw [fold_any (gk := fun d => match d with | .str x => .inr x | _ => .inl 0) (g := fun _ => .bl true)]
  rw [List.any_nil, Bool.false_or, List.any_map]
  rw [Bool.eq_iff_iff, List.any_eq_true, decide_eq_true_eq]
  constructor
  · rintro ⟨w, hw, e⟩
    have e : (Sum.inr w : L2.Key) = .inr x := of_decide_eq_true e
    cases e
    exact hw
  · exact fun h => ⟨x, h, decide_eq_true rfl⟩
theorem js_name {name : Str} {n : Nat} (an : Asc n name) (hn : n ≤ 900) {k : Nat} (h1 : 2 ≤ k) (hk : k < 1000) {s1 s2 s4 : Sl} :
    eJs [(eFmt (eVar 0)), (eFmt (eVar 3))] Str.empty [.fz (.str name), s1, s2, .fz (.int k), s4] = .ok (.val (.str (cand name k))) [.fz (.str name), s1, s2, .fz (.int k), s4] := by
  have hz := sizeLine_eq
  obtain ⟨_, as, _⟩ := Sn_dec k hk
  have e1 : fmtD (.str name) = some (.val (.str name)) := r_fmtS (an.sz (by omega))
  have e2 : fmtD (.int (k : Int)) = some (.val (.str (Sn k))) := r_fmtI (log_small hk)
  have l1 : (Str.empty ++ name).length ≤ sizeLine := by rw [empty_app]; exact an.sz (by omega)
  have l2 : (name ++ Sn k).length ≤ sizeLine := (an.append as).sz (by omega)
  have ec : cand name k = name ++ Sn k := if_neg (by omega)
  simp [e1, e2, x_joinR l1, x_joinR l2, empty_app, ec]
theorem fresh_while {name : Str} {ws : List Str} {n : Nat} (an : Asc n name) (hn : n ≤ 900) {kvs : List (L2.Key × D)} (hk : Keys kvs ws) {s1 s4 : Sl} {k0 : Nat} (hk0 : k0 < 1000) (hf : cand name k0 ∉ ws) (hb : ∀ j, 1 ≤ j → j < k0 → cand name j ∈ ws) :
    ∀ (d k : Nat), 2 ≤ k → k + d = k0 → sWhile t4_fresh b3_fresh [.fz (.str name), s1, .ow false (.dct kvs), .fz (.int k), s4] = .nx [.fz (.str name), s1, .ow false (.dct kvs), .fz (.int k0), s4]
  | 0, k, h2, e => by
    have e : k = k0 := e
    subst e
    have hd : decide (cand name k ∈ ws) = false := decide_eq_false hf
    have ej := js_name an hn h2 hk0 (s1 := s1) (s2 := .ow false (.dct kvs)) (s4 := s4)
    have ei := in_dct hk (cand name k)
    rw [hd] at ei
    refine while_stop ?_
    rw [x_t4_fresh, x_bool, x_bind, x_bin, x_bind, ej]
    simp [ei]
  | d + 1, k, h2, e => by
    have hd : decide (cand name k ∈ ws) = true := decide_eq_true (hb k (by omega) (by omega))
    have ej := js_name an hn h2 (by omega : k < 1000) (s1 := s1) (s2 := .ow false (.dct kvs)) (s4 := s4)
    have ei := in_dct hk (cand name k)
    rw [hd] at ei
    have ih := fresh_while an hn hk hk0 hf hb (s1 := s1) (s4 := s4) d (k + 1) (by omega) (by omega)
    refine while_go (ρ1 := [.fz (.str name), s1, .ow false (.dct kvs), .fz (.int k), s4]) (ρ2 := [.fz (.str name), s1, .ow false (.dct kvs), .fz (.int ((k + 1 : Nat) : Int)), s4]) ?_ ?_ ih (fun q => by cases q)
    · rw [x_t4_fresh, x_bool, x_bind, x_bin, x_bind, ej]
      simp [ei]
    · rw [x_b3_fresh]
      simp
theorem fresh_core {name : Str} {ws : List Str} {n : Nat} (an : Asc n name) (hn : n ≤ 900) (hl : ws.length ≤ 900) {kvs : List (L2.Key × D)} (hk : Keys kvs ws) {s1 : Sl} {a a' : Ro} (hkeep : ∀ l, keepIo a (.fz (.str name) :: s1 :: l) = some a') :
    ∃ y, Free name ws y ∧ finK a (sSeq (sIf (eBool (eBin opNotIn (eVar 0) (eVar 2))) (sRet (eVar 0)) sNext)
      (sSeq (sAsg 3 (eC (.int 2))) (sSeq (sWhile t4_fresh b3_fresh) (sRet (eJs [(eFmt (eVar 0)), (eFmt (eVar 3))] Str.empty)))) [.fz (.str name), s1, .ow false (.dct kvs), .no, .no]) = .ok (.val (.str y)) a' := by
  obtain ⟨k, h1, h2, hf, hb⟩ := exists_free name ws hl
  refine ⟨cand name k, ⟨k, h1, rfl, hf, hb⟩, ?_⟩
  have ni := notin_dct hk name
  by_cases e : k = 1
  · subst e
    have ec : cand name 1 = name := if_pos rfl
    rw [ec] at hf ⊢
    have hd : decide (name ∈ ws) = false := decide_eq_false hf
    rw [hd] at ni
    simp [ni, hkeep]
  · have hd : decide (name ∈ ws) = true := decide_eq_true (by
      have := hb 1 (by decide) (by omega)
      rwa [show cand name 1 = name from if_pos rfl] at this)
    rw [hd] at ni
    have ew := fresh_while an hn hk (s1 := s1) (s4 := .no) (by omega : k < 1000) hf hb (k - 2) 2 (by decide) (by omega)
    have ej := js_name an hn (by omega : 2 ≤ k) (by omega : k < 1000) (s1 := s1) (s2 := .ow false (.dct kvs)) (s4 := .no)
    refine fin_seq (ρ' := [.fz (.str name), s1, .ow false (.dct kvs), .no, .no]) (by simp [ni]) ?_
    refine fin_seq (ρ' := [.fz (.str name), s1, .ow false (.dct kvs), .fz (.int ((2 : Nat) : Int)), .no]) (by simp) ?_
    refine fin_seq ew ?_
    rw [x_sret, ej]
    simp [hkeep]
theorem dcomp_known {ws : List Str} (hl : ws.length ≤ 900) {s0 s1 : Sl} : dcompN (tgName 4) eYes k1_fresh e2_fresh [4] (ws.map .str) [] [s0, s1, .no, .no, .no] = .ok ((ws.map D.str).foldl (fun acc d => putD acc (match d with | .str x => .inr x | _ => .inl 0) (.bl true)) []) [s0, s1, .no, .no, .no] := by
  have hz := sizeLine_eq
  refine dcomp_map (gk := fun d => match d with | .str x => .inr x | _ => .inl 0) (g := fun _ => .bl true) (ws.map .str) [] (fun d hd => ?_) (by rw [List.length_nil, List.length_map]; omega)
  obtain ⟨w, hw, rfl⟩ := List.mem_map.mp hd
  exact ⟨[s0, s1, .no, .no, .fz (.str w)], [s0, s1, .no, .no, .fz (.str w)], .val (.str w), [s0, s1, .no, .no, .fz (.str w)], .val (.bl true), [s0, s1, .no, .no, .fz (.str w)], by simp, by simp, by simp [x_k1_fresh], rfl, by simp [x_e2_fresh], rfl, by simp⟩
theorem run_fresh_ow {name : Str} {ws : List Str} {n : Nat} (an : Asc n name) (hn : n ≤ 900) (hl : ws.length ≤ 900) : ∃ y, Free name ws y ∧ F_fresh [.fz (.str name), .ow true (.lst (ws.map .str))] = .ok (.val (.str y)) [.fz (.str name), .ow true (.lst (ws.map .str))] := by
  obtain ⟨y, hy, e⟩ := fresh_core an hn hl (keys_fold ws) (s1 := .ow true (.lst (ws.map .str))) (a := [.fz (.str name), .ow true (.lst (ws.map .str))]) (a' := [.fz (.str name), .ow true (.lst (ws.map .str))]) (fun l => rfl)
  refine ⟨y, hy, ?_⟩
  unfold F_fresh d_fresh
  rw [x_run]
  refine fin_seq ?_ e
  have ed := dcomp_known hl (s0 := .fz (.str name)) (s1 := .ln true (.lst (ws.map .str)))
  have xl := x_dcompL (tgt := tgName 4) (cond := eYes) (fk := k1_fresh) (fv := e2_fresh) (vs := [4]) (ρ := [.fz (.str name), .ln true (.lst (ws.map .str)), .no, .no, .no]) (j := 1) (u := true) (k := true) (ds := ws.map .str) rfl
  simp [xl, ed]
theorem run_fresh_fz {name : Str} {ws : List Str} {n : Nat} (an : Asc n name) (hn : n ≤ 900) (hl : ws.length ≤ 900) {d : D} (hd : itemsD d = some (ws.map .str)) : ∃ y, Free name ws y ∧ F_fresh [.fz (.str name), .fz d] = .ok (.val (.str y)) [.fz (.str name), .fz d] := by
  obtain ⟨y, hy, e⟩ := fresh_core an hn hl (keys_fold ws) (s1 := .fz d) (a := [.fz (.str name), .fz d]) (a' := [.fz (.str name), .fz d]) (fun l => rfl)
  refine ⟨y, hy, ?_⟩
  unfold F_fresh d_fresh
  rw [x_run]
  refine fin_seq ?_ e
  have ed := dcomp_known hl (s0 := .fz (.str name)) (s1 := .fz d)
  simp [hd, ed]
end DL

/-! K3x: k03: what is taken. -/
namespace DL
open PySem PySem.Spec
theorem pyOk_ints (hs : List Int) : pyOk (.lst (hs.map .int)) = true := by
  have e1 : ∀ ws : List Int, D.datas (ws.map D.int) = true := fun ws => by
    induction ws with
    | nil => rfl
    | cons w ws ih => show (true && D.datas (ws.map D.int)) = true; rw [ih]; rfl
  have e2 : ∀ ws : List Int, PyData.canLayAll0 (D.pys (ws.map D.int)) = true := fun ws => by
    induction ws with
    | nil => rfl
    | cons w ws ih =>
      show (true && PyData.canLayAll0 (D.pys (ws.map D.int))) = true
      rw [ih]; rfl
  have e0 : ∀ ws : List Int, PyData.depthAll (D.pys (ws.map D.int)) = 0 := fun ws => by
    induction ws with
    | nil => rfl
    | cons w ws ih => show max 0 (PyData.depthAll (D.pys (ws.map D.int))) = 0; rw [ih]; rfl
  unfold pyOk SeqAt.shaped
  have d1 : (D.lst (hs.map .int)).data = true := e1 hs
  have d2 : (D.lst (hs.map .int)).py.canLay0 = true := e2 hs
  have d3 : (D.lst (hs.map .int)).py.depth ≤ 64 := by
    show PyData.depthAll (D.pys (hs.map D.int)) + 1 ≤ 64
    rw [e0]; decide
  rw [d1, d2, decide_eq_true d3]; rfl
def notH (hs : List Int) (d : D) : Bool := !((hs.map D.int).any fun z => eqF z d)
theorem notin_ints (hs : List Int) (k : Int) : opNotIn (.int k) (.lst (hs.map .int)) = some (.val (.bl (notH hs (.int k)))) := by
  unfold opNotIn
  have : inB (.int k) (.lst (hs.map .int)) = some ((hs.map D.int).any fun z => eqF z (.int k)) := by
    show (if (pyOk (.int k) && pyOk (.lst (hs.map .int))) = true then some ((hs.map D.int).any fun z => eqF z (.int k)) else none) = _
    rw [pyOk_ints, if_pos (by rfl)]
  rw [this]; rfl
def P20 (d : D) : Prop := ∃ x, d = .str x ∧ Asc 20 x
def okL (n : Nat) (ds : List D) : Prop := (∀ d ∈ ds, P20 d) ∧ ds.length ≤ n
theorem okL.app {m n : Nat} {xs ys : List D} (h : okL m xs) (k : okL n ys) : okL (m + n) (xs ++ ys) :=
  ⟨fun d hd => by
    rcases List.mem_append.mp hd with z | z
    · exact h.1 d z
    · exact k.1 d z, by rw [List.length_append]; exact Nat.add_le_add h.2 k.2⟩
theorem okL.cut {n : Nat} {xs : List D} (h : okL n xs) (lo hi : Option Int) : okL n (cutD xs lo hi) :=
  ⟨fun d hd => h.1 d (List.mem_of_mem_drop (List.mem_of_mem_take hd)), by
    unfold cutD
    rw [List.length_take, List.length_drop]
    have := h.2
    omega⟩
theorem addL {m n : Nat} {xs ys : List D} (h : okL m xs) (k : okL n ys) (l : m + n ≤ 100000) : opAdd (.lst xs) (.lst ys) = some (.nw (.lst (xs ++ ys))) := by
  refine r_addL ?_
  have := sizeLine_eq
  have := h.2
  have := k.2
  omega
theorem e4_run {name : Str} (an : Asc 14 name) {k : Nat} (h1 : 1 ≤ k) (hk : k < 1000) {s0 s2 s3 s4 s5 s6 s7 : Sl} :
    e4__law_taken [s0, .fz (.str name), s2, s3, s4, s5, s6, s7, .fz (.int k)] = .ok (.val (.str (cand name k))) [s0, .fz (.str name), s2, s3, s4, s5, s6, s7, .fz (.int k)] := by
  have es : cStr [.int (k : Int)] = some (.val (.str (Sn k))) := r_strI (log_small hk)
  obtain ⟨_, as, _⟩ := Sn_dec k hk
  rw [x_e4__law_taken]
  by_cases h : k = 1
  · subst h
    have e0 : opAdd (.str name) (.str Str.empty) = some (.val (.str name)) := by rw [addA an empty_asc (by omega), app_empty]
    have ec : cand name 1 = name := if_pos rfl
    rw [ec]
    have es : cStr [.int 1] = some (.val (.str (Sn 1))) := es
    simp -implicitDefEqProofs [es, mul_0, e0]
  · have ec : cand name k = name ++ Sn k := if_neg h
    have e1 := addA an as (by omega)
    rw [ec]
    have hg' : (1 : Int) < (k : Int) := by omega
    simp -implicitDefEqProofs [es, hg', mul_1 as (by decide), e1]
theorem run_taken {hs : List Int} (hne : hs ≠ []) {name : Str} (an : Asc 14 name) : ∃ (ws : List Str) (hs' : List Int), hs' ≠ [] ∧ (∀ w ∈ ws, Asc 20 w) ∧ ws.length ≤ 600 ∧ F__law_taken [HS true hs, .fz (.str name)] = .ok (.nw (.lst (ws.map .str))) [HS true hs', .fz (.str name)] := by
  have hz := sizeLine_eq
  obtain ⟨v1, hs1, n1, a1, b1, e1⟩ := draw hs hne 12 (by decide) (by decide)
  obtain ⟨v2, hs2, n2, a2, b2, e2⟩ := draw hs1 n1 8 (by decide) (by decide)
  simp only [HS] at e1 e2
  obtain ⟨run, hs3, n3, a3, b3, e3⟩ : ∃ (run : Int) (hs3 : List Int), hs3 ≠ [] ∧ 0 ≤ run ∧ run ≤ 134 ∧ sIf (eBool (eBin opEq (eCall F__law_draw (eCons (eVar 0) (eCons (eC (.int 8)) eNil))) (eC (.int 7)))) (sAsg 2 (eBin opAdd (eC (.int 100)) (eCall F__law_draw (eCons (eVar 0) (eCons (eC (.int 35)) eNil))))) sNext [HS true hs1, .fz (.str name), .fz (.int v1), .no, .no, .no, .no, .no, .no] =
      .nx [HS true hs3, .fz (.str name), .fz (.int run), .no, .no, .no, .no, .no, .no] := by
    by_cases h : v2 = 7
    · obtain ⟨v3, hs3, n3, a3, b3, e3⟩ := draw hs2 n2 35 (by decide) (by decide)
      simp only [HS] at e3
      exact ⟨100 + v3, hs3, n3, by omega, by omega, by simp -implicitDefEqProofs [e2, h, e3]⟩
    · have h' : (v2 == 7) = false := by simpa using h
      exact ⟨v1, hs2, n2, a1, by omega, by simp -implicitDefEqProofs [e2, h']⟩
  -- the holes
  obtain ⟨v4, hs4, n4, a4, b4, e4⟩ := draw hs3 n3 4 (by decide) (by decide)
  obtain ⟨xs, ρ', ec, lx, qx, ⟨hs5, n5, rfl⟩⟩ := comp_inv (tgt := tgName 8) (cond := eYes) (elt := e1__law_taken) (vs := [8]) (fun ρ => ∃ hs, hs ≠ [] ∧ ρ = [HS true hs, .fz (.str name), .fz (.int run), .no, .no, .no, .no, .no, .no]) (fun _ x => ∃ i : Int, x = .int i) (rangeD 0 v4.toNat) [] [HS true hs4, .fz (.str name), .fz (.int run), .no, .no, .no, .no, .no, .no]
    (fun d hd ρ ⟨hs, hn, hρ⟩ => by
      subst hρ
      obtain ⟨v, hs', hn', c0, c1, ex⟩ := draw hs hn (run + 2) (by omega) (by omega)
      simp only [HS] at ex
      exact ⟨[HS true hs, .fz (.str name), .fz (.int run), .no, .no, .no, .no, .no, .fz d], [HS true hs, .fz (.str name), .fz (.int run), .no, .no, .no, .no, .no, .fz d], [HS true hs', .fz (.str name), .fz (.int run), .no, .no, .no, .no, .no, .fz d], .val (.int v), .int v, by simp, by simp, by simp -implicitDefEqProofs [x_e1__law_taken, ex], rfl, ⟨v, rfl⟩, hs', hn', by simp⟩)
    ⟨hs4, n4, rfl⟩ (by rw [List.length_nil, range_len]; omega)
  rw [List.nil_append] at ec
  obtain ⟨hl, rfl⟩ : ∃ hl : List Int, xs = hl.map .int := by
    clear ec lx
    induction xs with
    | nil => exact ⟨[], rfl⟩
    | cons x xs ih =>
      obtain ⟨_, _, i, rfl⟩ := qx x List.mem_cons_self
      obtain ⟨hl, rfl⟩ := ih fun x hx => qx x (List.mem_cons_of_mem _ hx)
      exact ⟨i :: hl, rfl⟩
  -- the numbers
  have ef := comp_filter (tgt := tgName 8) (cond := c3__law_taken) (elt := e2__law_taken) (vs := [8]) (ρ := [HS true hs5, .fz (.str name), .fz (.int run), .ow false (.lst (hl.map .int)), .no, .no, .no, .no, .no]) (notH hl) id (rangeD 1 run.toNat) [] (fun d hd => by
    obtain ⟨k, hk, rfl⟩ := range_int hd
    refine ⟨[HS true hs5, .fz (.str name), .fz (.int run), .ow false (.lst (hl.map .int)), .no, .no, .no, .no, .fz (.int (1 + k))], [HS true hs5, .fz (.str name), .fz (.int run), .ow false (.lst (hl.map .int)), .no, .no, .no, .no, .fz (.int (1 + k))], by simp, by simp -implicitDefEqProofs [x_c3__law_taken, notin_ints], by simp, fun _ => ⟨[HS true hs5, .fz (.str name), .fz (.int run), .ow false (.lst (hl.map .int)), .no, .no, .no, .no, .fz (.int (1 + k))], .val (.int (1 + k)), by simp [x_e2__law_taken], rfl, by simp⟩⟩) (by rw [List.length_nil, range_len]; omega)
  rw [List.nil_append, List.map_id] at ef
  have hnum : ∀ d ∈ (rangeD 1 run.toNat).filter (notH hl), ∃ k : Nat, 1 ≤ k ∧ k < 1000 ∧ d = .int k := fun d hd => by
    obtain ⟨k, hk, rfl⟩ := range_int (List.mem_filter.mp hd).1
    exact ⟨1 + k, by omega, by omega, by simp⟩
  have hnl : ((rangeD 1 run.toNat).filter (notH hl)).length ≤ 134 := by
    have := List.length_filter_le (notH hl) (rangeD 1 run.toNat)
    rw [range_len] at this
    omega
  generalize (rangeD 1 run.toNat).filter (notH hl) = nums at ef hnum hnl
  -- the names
  obtain ⟨ys, ρ', eg, ly, qy, hρ⟩ := comp_inv (tgt := tgName 8) (cond := eYes) (elt := e4__law_taken) (vs := [8]) (fun ρ => ρ = [HS true hs5, .fz (.str name), .fz (.int run), .ow false (.lst (hl.map .int)), .ln false (.lst nums), .no, .no, .no, .no]) (fun _ x => P20 x) nums [] [HS true hs5, .fz (.str name), .fz (.int run), .ow false (.lst (hl.map .int)), .ln false (.lst nums), .no, .no, .no, .no]
    (fun d hd ρ hρ => by
      subst hρ
      obtain ⟨k, k1, k2, rfl⟩ := hnum d hd
      exact ⟨[HS true hs5, .fz (.str name), .fz (.int run), .ow false (.lst (hl.map .int)), .ln false (.lst nums), .no, .no, .no, .fz (.int k)], [HS true hs5, .fz (.str name), .fz (.int run), .ow false (.lst (hl.map .int)), .ln false (.lst nums), .no, .no, .no, .fz (.int k)], [HS true hs5, .fz (.str name), .fz (.int run), .ow false (.lst (hl.map .int)), .ln false (.lst nums), .no, .no, .no, .fz (.int k)], .val (.str (cand name k)), .str (cand name k), by simp, by simp, e4_run an k1 k2, rfl, ⟨_, rfl, (an.cand k2).mono (by decide)⟩, by simp⟩)
    rfl (by rw [List.length_nil]; omega)
  rw [List.nil_append] at eg
  subst hρ
  have oy : okL 134 ys := ⟨fun d hd => let ⟨_, _, q⟩ := qy d hd; q, by rw [ly]; exact hnl⟩
  clear qy ly hnum hnl qx
  -- the others
  have l1 : Asc 1 "1" := by decide +kernel
  have l0 : Asc 1 "0" := by decide +kernel
  have l02 : Asc 2 "02" := by decide +kernel
  have lz : Asc 1 "z" := by decide +kernel
  have lx' : Asc 1 "x" := by decide +kernel
  obtain ⟨O3, hO3⟩ : ∃ O : List D, O = [.str (name ++ "1"), .str (name ++ "0"), .str (name ++ "02")] := ⟨_, rfl⟩
  obtain ⟨O2, hO2⟩ : ∃ O : List D, O = [.str ("z" ++ name), .str (name ++ "x")] := ⟨_, rfl⟩
  have o3 : okL 3 O3 := hO3 ▸ ⟨fun d h => by
    simp only [List.mem_cons, List.not_mem_nil, or_false] at h
    rcases h with rfl | rfl | rfl
    · exact ⟨_, rfl, (an.append l1).mono (by decide)⟩
    · exact ⟨_, rfl, (an.append l0).mono (by decide)⟩
    · exact ⟨_, rfl, (an.append l02).mono (by decide)⟩, Nat.le_refl _⟩
  have o2 : okL 2 O2 := hO2 ▸ ⟨fun d h => by
    simp only [List.mem_cons, List.not_mem_nil, or_false] at h
    rcases h with rfl | rfl
    · exact ⟨_, rfl, (lz.append an).mono (by decide)⟩
    · exact ⟨_, rfl, (an.append lx').mono (by decide)⟩, Nat.le_refl _⟩
  have len3 : ([.str (name ++ "1"), .str (name ++ "0"), .str (name ++ "02")] : List D).length ≤ sizeLine := by simp; omega
  have len2 : ([.str ("z" ++ name), .str (name ++ "x")] : List D).length ≤ sizeLine := by simp; omega
  have ea1 := addA an l1 (by decide)
  have ea0 := addA an l0 (by decide)
  have ea02 := addA an l02 (by decide)
  have eaz := addA lz an (by decide)
  have eax := addA an lx' (by decide)
  have ls3 : ∀ ρ, lstK (some [.str (name ++ "1"), .str (name ++ "0"), .str (name ++ "02")]) ρ = .ok (.nw (.lst O3)) ρ := fun ρ => by rw [hO3]; exact lstK_s len3
  have ls2 : ∀ ρ, lstK (some [.str ("z" ++ name), .str (name ++ "x")]) ρ = .ok (.nw (.lst O2)) ρ := fun ρ => by rw [hO2]; exact lstK_s len2
  have o5 := o3.app o2
  have e32 := addL o3 o2 (by decide)
  clear hO3 hO2
  generalize O3 ++ O2 = O5 at o5 e32
  obtain ⟨v6, hs6, n6, a6, b6, e6⟩ := draw hs5 n5 6 (by decide) (by decide)
  obtain ⟨v7, hs7, n7, a7, b7, e7⟩ := draw hs6 n6 3 (by decide) (by decide)
  have o8 := oy.app (o5.cut none (some v6))
  have e8 := addL oy (o5.cut none (some v6)) (by decide)
  generalize ys ++ cutD O5 none (some v6) = Y8 at o8 e8
  have o9 := o8.app (o8.cut none (some v7))
  have e9 := addL o8 (o8.cut none (some v7)) (by decide)
  generalize Y8 ++ cutD Y8 none (some v7) = Y9 at o9 e9
  have l9 := o9.2
  obtain ⟨v8, hs8, n8, a8, b8, e10⟩ := draw hs7 n7 ((Y9.length : Int) + 1) (by omega) (by omega)
  simp only [HS] at e4 e6 e7 e10 ec ef eg e3
  have o10 := (o9.cut (some v8) none).app (o9.cut none (some v8))
  have e11 := addL (o9.cut (some v8) none) (o9.cut none (some v8)) (by decide)
  obtain ⟨ws, hws, aw⟩ := strs_of (P := Asc 20) (ds := cutD Y9 (some v8) none ++ cutD Y9 none (some v8)) o10.1
  have l10 := o10.2
  rw [hws] at e11 l10
  rw [List.length_map] at l10
  refine ⟨ws, hs8, n8, aw, by omega, ?_⟩
  unfold F__law_taken d__law_taken
  rw [x_run]
  have fit4 := fits_of a4 (by omega)
  have fit1 : fits62 1 = true := by decide
  have fitr : fits62 (run + 1) = true := fits_of (by omega) (by omega)
  have er : (run + 1 - 1).toNat = run.toNat := by omega
  refine fin_seq (ρ' := [HS true hs1, .fz (.str name), .fz (.int v1), .no, .no, .no, .no, .no, .no]) (by simp -implicitDefEqProofs [e1]) ?_
  refine fin_seq e3 ?_
  refine fin_seq (ρ' := [HS true hs5, .fz (.str name), .fz (.int run), .ow false (.lst (hl.map .int)), .no, .no, .no, .no, .no]) (by simp -implicitDefEqProofs [e4, fit4, ec]) ?_
  refine fin_seq (ρ' := [HS true hs5, .fz (.str name), .fz (.int run), .ow false (.lst (hl.map .int)), .ow false (.lst nums), .no, .no, .no, .no]) (by simp -implicitDefEqProofs [fit1, fitr, er, ef]) ?_
  have xl := x_compL (tgt := tgName 8) (cond := eYes) (elt := e4__law_taken) (vs := [8]) (ρ := [HS true hs5, .fz (.str name), .fz (.int run), .ow false (.lst (hl.map .int)), .ln false (.lst nums), .no, .no, .no, .no]) (j := 4) (u := true) (k := false) (ds := nums) rfl
  simp only [HS] at xl
  refine fin_seq (ρ' := [HS true hs5, .fz (.str name), .fz (.int run), .ow false (.lst (hl.map .int)), .ow false (.lst nums), .ow false (.lst ys), .no, .no, .no]) (by simp -implicitDefEqProofs [xl, eg]) ?_
  refine fin_seq (ρ' := [HS true hs5, .fz (.str name), .fz (.int run), .ow false (.lst (hl.map .int)), .ow false (.lst nums), .ow false (.lst ys), .ow false (.lst O3), .no, .no]) (by simp -implicitDefEqProofs [ea1, ea0, ea02, ls3]) ?_
  refine fin_seq (ρ' := [HS true hs5, .fz (.str name), .fz (.int run), .ow false (.lst (hl.map .int)), .ow false (.lst nums), .ow false (.lst ys), .ow false (.lst O5), .no, .no]) (by simp -implicitDefEqProofs [eaz, eax, ls2, e32]) ?_
  refine fin_seq (ρ' := [HS true hs6, .fz (.str name), .fz (.int run), .ow false (.lst (hl.map .int)), .ow false (.lst nums), .ow false (.lst Y8), .ow false (.lst O5), .no, .no]) (by simp -implicitDefEqProofs [e6, e8]) ?_
  refine fin_seq (ρ' := [HS true hs7, .fz (.str name), .fz (.int run), .ow false (.lst (hl.map .int)), .ow false (.lst nums), .ow false (.lst Y9), .ow false (.lst O5), .no, .no]) (by simp -implicitDefEqProofs [e7, e9]) ?_
  refine fin_seq (ρ' := [HS true hs8, .fz (.str name), .fz (.int run), .ow false (.lst (hl.map .int)), .ow false (.lst nums), .ow false (.lst Y9), .ow false (.lst O5), .fz (.int v8), .no]) (by simp -implicitDefEqProofs [e10]) ?_
  simp -implicitDefEqProofs [e11]
end DL

/-! K3y: k03: the law. -/
namespace DL
open PySem PySem.Spec
theorem eqv_self : ∀ ws : List Str, PyData.eqvAll (D.pys (ws.map D.str)) (D.pys (ws.map D.str)) = true
  | [] => rfl
  | w :: ws => by
    show ((w == w) && PyData.eqvAll (D.pys (ws.map D.str)) (D.pys (ws.map D.str))) = true
    rw [eqv_self ws, beq_self_eq_true]; rfl
theorem ne_lst {ws : List Str} (h : ∀ w ∈ ws, PyData.strOk w = true) : opNe (.lst (ws.map .str)) (.lst (ws.map .str)) = some (.val (.bl false)) := by
  unfold opNe
  rw [pyOk_strs h, if_pos (by rfl)]
  show vB (!PyData.eqvAll (D.pys (ws.map D.str)) (D.pys (ws.map D.str))) = _
  rw [eqv_self]; rfl
theorem ne_str {x : Str} (h : PyData.strOk x = true) : opNe (.str x) (.str x) = some (.val (.bl false)) := by
  rw [r_neS h h, beq_self_eq_true]; rfl
theorem eq_str {x : Str} (h : PyData.strOk x = true) : opEq (.str x) (.str x) = some (.val (.bl true)) := by
  rw [r_eqS h h, beq_self_eq_true]
theorem is_str (x : Str) : isD "str" (.str x) = some true := by
  show L2.kitB "str" "str" = some true
  decide +kernel
theorem ins_strs {ws : List Str} {v : Int} {y : Str} (h0 : 0 ≤ v) (h1 : v ≤ 1000) (hl : ws.length ≤ 900) : moInsert (.lst (ws.map .str)) [.int v, .str y] = some (.non, .lst ((ws.take v.toNat ++ [y] ++ ws.drop v.toNat).map .str)) := by
  have hz := sizeLine_eq
  have hc : (decide (0 ≤ v) && decide (v < 2 ^ 63) && decide ((ws.map D.str).length < sizeLine)) = true := by
    rw [List.length_map]
    simp only [Bool.and_eq_true, decide_eq_true_eq]
    omega
  show (if (decide (0 ≤ v) && decide (v < 2 ^ 63) && decide ((ws.map D.str).length < sizeLine)) = true then some (D.non, OV.lst ((ws.map D.str).take v.toNat ++ [.str y] ++ (ws.map D.str).drop v.toNat)) else none) = _
  rw [if_pos hc, List.map_append, List.map_append, List.map_take, List.map_drop]; rfl
def Fo (s : Sl) : Prop := okS (some s) = true
theorem Fr.fo {s : Sl} (h : Fr s) : Fo s := h.ok
def PCh (name : Str) (ks : List D) (ρ : Ro) : Prop := ∃ (hs : List Int) (ws : List Str) (s3 s4 s5 s6 s7 : Sl), hs ≠ [] ∧ ρ = [HS true hs, .fz (.str name), .ow false (.lst (ws.map .str)), s3, s4, s5, s6, s7] ∧ Fr s3 ∧ Fo s4 ∧ Fr s5 ∧ Fr s6 ∧ Fr s7 ∧ (∀ w ∈ ws, Asc 20 w) ∧ ws.length + ks.length ≤ 700
theorem chosen_loop {name : Str} (an : Asc 14 name) {ks : List D} {ρ : Ro} (h : PCh name ks ρ) : ∃ ρ', loopF (tgName 3) b1__law_chosen ks ρ = .nx ρ' ∧ PCh name [] ρ' := by
  refine loop_inv (PCh name) ?_ h
  rintro d ds ρ ⟨hs, ws, s3, s4, s5, s6, s7, hne, rfl, f3, f4, f5, f6, f7, aw, hl⟩
  rw [List.length_cons] at hl
  have aw' : ∀ w ∈ ws, PyData.strOk w = true := fun w hw => (aw w hw).ok
  obtain ⟨y, fy, ay, ey⟩ := run_free an (by decide) aw' (by omega)
  obtain ⟨y2, fy2, ey2⟩ := run_fresh_ow an (by decide) (ws := ws) (by omega)
  obtain ⟨y3, fy3, ey3⟩ := run_fresh_fz an (by decide) (ws := ws) (by omega) (d := .tup (ws.map .str)) rfl
  have h2 := fy2.one fy
  have h3 := fy3.one fy
  subst h2 h3
  obtain ⟨v, hs', hne', v0, v1, ev⟩ := draw hs hne ((ws.length : Int) + 1) (by omega) (by omega)
  simp only [HS] at ev
  have f4' : okS (some s4) = true := f4
  have ei := ins_strs (ws := ws) (y := y3) v0 (by omega) (by omega)
  have hisd := fun ρ => isiK_s (ρ := ρ) (is_str y3)
  have hns := ne_str ay.ok
  have hnl := ne_lst aw'
  have hll : (ws.map D.str).length = ws.length := List.length_map _
  generalize hW : ws.map D.str = W at *
  refine ⟨[HS true hs, .fz (.str name), .ow false (.lst W), .fz d, s4, s5, s6, s7], by simp [f3.ok], ?_⟩
  refine ⟨[HS true hs', .fz (.str name), .ow false (.lst ((ws.take v.toNat ++ [y3] ++ ws.drop v.toNat).map .str)), .fz d, .ow false (.lst W), .fz (.str y3), .fz (.str y3), .fz (.str y3)], .inl ?_, hs', ws.take v.toNat ++ [y3] ++ ws.drop v.toNat, .fz d, .ow false (.lst W), _, _, _, hne', rfl, .fz, rfl, .fz, .fz, .fz, ?_, ?_⟩
  · rw [x_b1__law_chosen]
    refine seq_nx (ρ' := [HS true hs, .fz (.str name), .ow false (.lst W), .fz d, .ow false (.lst W), s5, s6, s7]) (by simp -implicitDefEqProofs [f4']) ?_
    refine seq_nx (ρ' := [HS true hs, .fz (.str name), .ow false (.lst W), .fz d, .ow false (.lst W), .fz (.str y3), s6, s7]) (by simp -implicitDefEqProofs [ey, f5.ok, bk_fr f5, bk_fr f6, bk_fr f7]) ?_
    refine seq_nx (ρ' := [HS true hs, .fz (.str name), .ow false (.lst W), .fz d, .ow false (.lst W), .fz (.str y3), .fz (.str y3), s7]) (by simp -implicitDefEqProofs [ey2, f6.ok, bk_fr f6, bk_fr f7]) ?_
    refine seq_nx (ρ' := [HS true hs, .fz (.str name), .ow false (.lst W), .fz d, .ow false (.lst W), .fz (.str y3), .fz (.str y3), .fz (.str y3)]) (by simp -implicitDefEqProofs [ey3, f7.ok, bk_fr f7]) ?_
    refine seq_nx (ρ' := [HS true hs, .fz (.str name), .ow false (.lst W), .fz d, .ow false (.lst W), .fz (.str y3), .fz (.str y3), .fz (.str y3)]) (by simp -implicitDefEqProofs [hisd, hns, hnl]) ?_
    refine seq_nx (ρ' := [HS true hs, .fz (.str name), .ow false (.lst W), .fz d, .ow false (.lst W), .fz (.str y3), .fz (.str y3), .fz (.str y3)]) (by simp -implicitDefEqProofs [hisd, hns]) ?_
    have ei' := ei
    rw [← hll] at ev
    simp only [List.map_append, List.map_cons, List.map_nil, List.append_assoc] at ei' ⊢
    simp -implicitDefEqProofs [ev, ei']
  · intro w hw
    rcases List.mem_append.mp hw with hw | hw
    · rcases List.mem_append.mp hw with hw | hw
      · exact aw w (List.mem_of_mem_take hw)
      · rw [List.mem_singleton] at hw
        subst hw
        exact ay.mono (by decide)
    · exact aw w (List.mem_of_mem_drop hw)
  · rw [List.length_append, List.length_append, List.length_take, List.length_drop, List.length_singleton]
    omega
theorem fa_vals {rs : List R} (h : ∀ r ∈ rs, ∃ d, r = .val d) : ∀ (a : Ro) (i : Nat), findA i rs a = none := by
  induction rs with
  | nil => exact fun a i => rfl
  | cons r rs ih =>
    intro a i
    obtain ⟨d, rfl⟩ := h r List.mem_cons_self
    cases a with
    | nil => rfl
    | cons s a => exact ih (fun r hr => h r (List.mem_cons_of_mem _ hr)) a i
theorem bk_vals {rs : List R} (h : ∀ r ∈ rs, ∃ d, r = .val d) {a : Ro} : ∀ (l : Ro) (i : Nat), backR rs a i l = some l
  | [], _ => rfl
  | s :: l, i => by
    have ih := bk_vals h (a := a) l (i + 1)
    cases s with
    | no => rw [bk_no, ih]; rfl
    | fz d => rw [bk_fz, ih]; rfl
    | ln k o => rw [bk_ln, ih]; rfl
    | ow k o => rw [bk_ow, ih, fa_vals h]; rfl
theorem bk_v2 {d e : D} {a l : Ro} {i : Nat} : backR [.val d, .val e] a i l = some l := bk_vals (fun r hr => by
  simp only [List.mem_cons, List.not_mem_nil, or_false] at hr
  rcases hr with rfl | rfl
  · exact ⟨d, rfl⟩
  · exact ⟨e, rfl⟩) l i
theorem Sn2 : Sn 2 = "2" := by decide +kernel
theorem run_chosen {hs : List Int} (hne : hs ≠ []) : ∃ hs', hs' ≠ [] ∧ F__law_chosen [HS true hs] = .ok (.val (.bl true)) [HS true hs'] := by
  have hz := sizeLine_eq
  obtain ⟨name, hs1, n1, an, e1⟩ := run_named hne (most := 8) (by decide) (by decide)
  obtain ⟨ws, hs2, n2, aw, hl, e2⟩ := run_taken n1 an
  obtain ⟨ρ', e3, hs3, ws3, s3, s4, s5, s6, s7, n3, rfl, f3, f4, f5, f6, f7, _, _⟩ := chosen_loop an (ks := rangeD 0 3) (ρ := [HS true hs2, .fz (.str name), .ow false (.lst (ws.map .str)), .no, .no, .no, .no, .no])
    ⟨hs2, ws, .no, .no, .no, .no, .no, n2, rfl, .no, rfl, .no, .no, .no, aw, by rw [range_len]; simp; omega⟩
  simp only [HS] at e1 e2 e3
  refine ⟨hs3, n3, ?_⟩
  have l2 : Asc 1 "2" := by decide +kernel
  have ea := addA an l2 (by decide)
  have c1 : cand name 1 = name := if_pos rfl
  have c2 : cand name 2 = name ++ "2" := by rw [← Sn2]; exact if_neg (by decide)
  have lt2 : 1 ≤ ("2" : Str).length := by decide +kernel
  obtain ⟨y1, g1, r1⟩ := run_fresh_fz an (by decide) (ws := []) (by decide) (d := .lst []) rfl
  have q1 : y1 = name := g1.one ⟨1, Nat.le_refl _, c1.symm, List.not_mem_nil, fun j h1 h2 => by omega⟩
  obtain ⟨y2, g2, r2⟩ := run_fresh_fz an (by decide) (ws := [name]) (by simp) (d := .lst [.str name]) rfl
  have q2 : y2 = name ++ "2" := g2.one ⟨2, by decide, c2.symm, fun h => by
    rw [List.mem_singleton] at h
    exact app_ne lt2 h.symm, fun j h1 h2 => by
      have : j = 1 := by omega
      subst this
      rw [c1]; exact List.mem_singleton_self _⟩
  obtain ⟨y3, g3, r3⟩ := run_fresh_fz an (by decide) (ws := [name ++ "2"]) (by simp) (d := .tup [.str (name ++ "2")]) rfl
  have q3 : y3 = name := g3.one ⟨1, Nat.le_refl _, c1.symm, fun h => by
    rw [List.mem_singleton] at h
    exact app_ne lt2 h, fun j h1 h2 => by omega⟩
  subst q1 q2
  rw [q3] at r3
  have hn1 := ne_str an.ok
  have hn2 := ne_str (an.append l2).ok
  have he := eq_str an.ok
  have t0 : ∀ ρ, lstK (some []) ρ = .ok (.nw (.lst [])) ρ := fun ρ => lstK_s (Nat.zero_le _)
  have t1 : ∀ ρ, lstK (some [.str y1]) ρ = .ok (.nw (.lst [.str y1])) ρ := fun ρ => lstK_s (by simp; omega)
  have t2 : ∀ ρ, tupK (some [.str (y1 ++ "2")]) ρ = .ok (.val (.tup [.str (y1 ++ "2")])) ρ := fun ρ => tupK_s (by simp; omega)
  have fit : fits62 3 = true := by decide
  have e33 : ((3 : Int)).toNat = 3 := rfl
  unfold F__law_chosen d__law_chosen
  rw [x_run]
  refine fin_seq (ρ' := [HS true hs1, .fz (.str y1), .no, .no, .no, .no, .no, .no]) (by simp -implicitDefEqProofs [e1]) ?_
  refine fin_seq (ρ' := [HS true hs2, .fz (.str y1), .ow false (.lst (ws.map .str)), .no, .no, .no, .no, .no]) (by simp -implicitDefEqProofs [e2]) ?_
  refine fin_seq (ρ' := [HS true hs3, .fz (.str y1), .ow false (.lst (ws3.map .str)), s3, s4, s5, s6, s7]) (by simp -implicitDefEqProofs [fit, e33, e3]) ?_
  refine fin_seq (ρ' := [HS true hs3, .fz (.str y1), .ow false (.lst (ws3.map .str)), s3, s4, s5, s6, s7]) (by simp -implicitDefEqProofs [t0, t1, r1, r2, bk_v2, hn1, hn2, ea]) ?_
  simp -implicitDefEqProofs [t2, r3, bk_v2, he, ea]
/-! ### the law -/
def PL2 (s0 : Sl) (ks : List D) (ρ : Ro) : Prop := ∃ (hs : List Int) (s2 s3 : Sl), hs ≠ [] ∧ ρ = [s0, HS false hs, s2, s3] ∧ Fr s2 ∧ Fr s3
def PL1 (s0 : Sl) (hs : List Int) (ks : List D) (ρ : Ro) : Prop := (∀ d ∈ ks, AD d) ∧ ∃ (s2 : Sl), ρ = [s0, HS false hs, s2, .no] ∧ Fr s2
theorem law_loop1 {s0 : Sl} (f0 : Fr s0) {hs : List Int} {ks : List D} {ρ : Ro} (h : PL1 s0 hs ks ρ) : ∃ ρ', loopF (tgName 2) b1_law ks ρ = .nx ρ' ∧ PL1 s0 hs [] ρ' := by
  refine loop_inv (PL1 s0 hs) ?_ h
  rintro d ds ρ ⟨hd, s2, rfl, f2⟩
  obtain ⟨x, rfl, ax⟩ := hd _ List.mem_cons_self
  have et := run_told ax (by decide)
  have hv : ∀ (a l : Ro) (i : Nat), backR [.val (.str x)] a i l = some l := fun a l i => bk_vals (fun r hr => by
    rw [List.mem_singleton] at hr
    exact ⟨_, hr⟩) l i
  refine ⟨[s0, HS false hs, .fz (.str x), .no], by simp [f2.ok], [s0, HS false hs, .fz (.str x), .no], .inl ?_, fun d h => hd d (List.mem_cons_of_mem _ h), _, rfl, .fz⟩
  rw [x_b1_law]
  simp -implicitDefEqProofs [et, hv]
theorem law_loop2 {s0 : Sl} (f0 : Fr s0) {ks : List D} {ρ : Ro} (h : PL2 s0 ks ρ) : ∃ ρ', loopF (tgName 3) b2_law ks ρ = .nx ρ' ∧ PL2 s0 [] ρ' := by
  refine loop_inv (PL2 s0) ?_ h
  rintro d ds ρ ⟨hs, s2, s3, hne, rfl, f2, f3⟩
  obtain ⟨x, hs', hne', ax, ex⟩ := run_any hne
  have et := run_told ax (by decide)
  simp only [HS] at ex
  have hv : ∀ (a l : Ro) (i : Nat), backR [.val (.str x)] a i l = some l := fun a l i => bk_vals (fun r hr => by
    rw [List.mem_singleton] at hr
    exact ⟨_, hr⟩) l i
  refine ⟨[s0, HS false hs, s2, .fz d], by simp [f3.ok], [s0, HS false hs', s2, .fz d], .inl ?_, hs', s2, _, hne', rfl, f2, .fz⟩
  rw [x_b2_law]
  simp -implicitDefEqProofs [ex, et, hv, bk_fr f0, bk_fr f2]
theorem law_true : ∀ ns : List Int, ns.length ≤ 63 → ∃ a', F_law [.fz (.scr ns)] = .ok (.val (.bl true)) a' := fun ns _ => by
  obtain ⟨hs, hne, ep⟩ := pool ns
  obtain ⟨ds, ad, ef⟩ := run_fixed
  obtain ⟨ρ1, e1, _, s2, rfl, f2⟩ := law_loop1 (s0 := .fz (.scr ns)) .fz (hs := hs) (ks := ds) (ρ := [.fz (.scr ns), HS false hs, .no, .no]) ⟨ad, .no, rfl, .no⟩
  obtain ⟨ρ2, e2, hs2, s2', s3', n2, rfl, f2', f3'⟩ := law_loop2 (s0 := .fz (.scr ns)) .fz (ks := rangeD 0 8) (ρ := [.fz (.scr ns), HS false hs, s2, .no]) ⟨hs, s2, .no, hne, rfl, f2, .no⟩
  obtain ⟨hs3, n3, e3⟩ := run_chosen n2
  obtain ⟨hs4, n4, e4⟩ := run_chosen n3
  simp only [HS] at e1 e2 e3 e4
  refine ⟨[.fz (.scr ns)], ?_⟩
  have fit : fits62 8 = true := by decide
  have e88 : ((8 : Int)).toNat = 8 := rfl
  unfold F_law d_law
  rw [x_run]
  refine fin_seq (ρ' := [.fz (.scr ns), HS false hs, .no, .no]) (by simp -implicitDefEqProofs [ep]) ?_
  refine fin_seq (ρ' := [.fz (.scr ns), HS false hs, s2, .no]) (by simp -implicitDefEqProofs [ef, e1]) ?_
  refine fin_seq (ρ' := [.fz (.scr ns), HS false hs2, s2', s3']) (by simp -implicitDefEqProofs [fit, e88, e2]) ?_
  simp -implicitDefEqProofs [e3, e4, bk_fr f2', bk_fr f3']
end DL

open PySem PySem.W PyProof.Rows in
set_option maxRecDepth 100000 in
set_option maxHeartbeats 0 in
theorem PySem.Challenge.cw_chartsrun_k03_names_and_fresh_holds : PySem.Challenge.rw_chartsrun_k03_names_and_fresh.Holds := by
  w_on; o_law; k_head; (case hw => w_witness2)
  k_fill
  refine DL.walk (l := PySem.Challenge.rw_chartsrun_k03_names_and_fresh) rfl rfl (fun w h Y => PySem.W.kIn_of Y) ?F
  case F =>
    intro w mg fa h KX G hmg
    refine' DL.all_mk KX G hmg ?a0 ?l0 ?c0 ?k0 ?a1 ?l1 ?c1 ?k1 ?a2 ?l2 ?c2 ?k2 ?a3 ?l3 ?c3 ?k3 ?a4 ?l4 ?c4 ?k4 ?a5 ?l5 ?c5 ?k5 ?a6 ?l6 ?c6 ?k6 ?a7 ?l7 ?c7 ?k7 ?a8 ?l8 ?c8 ?k8 ?a9 ?l9 ?c9 ?k9 ?a10 ?l10 ?c10 ?k10 ?a11 ?l11 ?c11 ?k11 ?a12 ?l12 ?c12 ?k12 ?a13 ?l13 ?c13 ?k13 ?a14 ?l14 ?c14 ?k14 ?a15 ?l15 ?c15 ?k15 ?a16 ?l16 ?c16 ?k16 ?a17 ?l17 ?c17 ?k17 ?a18 ?l18 ?c18 ?k18 ?a19 ?l19 ?c19 ?k19 ?z_abs ?z_all ?z_enumerate ?z_int ?z_isinstance ?z_len ?z_list ?z_range ?z_str ?z_tuple ?v_MOST_PIECES ?v_MOST_SIGNS ?v_RESERVED ?u_RESERVED ?x_RESERVED ?y_RESERVED DL.law_true
    (case a0 => k_is)
    (case l0 => k_is)
    (case c0 => k_is)
    (case k0 => k_is)
    (case a1 => k_is)
    (case l1 => k_is)
    (case c1 => k_is)
    (case k1 => k_is)
    (case a2 => k_is)
    (case l2 => k_is)
    (case c2 => k_is)
    (case k2 => k_is)
    (case a3 => k_is)
    (case l3 => k_is)
    (case c3 => k_is)
    (case k3 => k_is)
    (case a4 => k_is)
    (case l4 => k_is)
    (case c4 => k_is)
    (case k4 => k_is)
    (case a5 => k_is)
    (case l5 => k_is)
    (case c5 => k_is)
    (case k5 => k_is)
    (case a6 => k_is)
    (case l6 => k_is)
    (case c6 => k_is)
    (case k6 => k_is)
    (case a7 => k_is)
    (case l7 => k_is)
    (case c7 => k_is)
    (case k7 => k_is)
    (case a8 => k_is)
    (case l8 => k_is)
    (case c8 => k_is)
    (case k8 => k_is)
    (case a9 => k_is)
    (case l9 => k_is)
    (case c9 => k_is)
    (case k9 => k_is)
    (case a10 => k_is)
    (case l10 => k_is)
    (case c10 => k_is)
    (case k10 => k_is)
    (case a11 => k_is)
    (case l11 => k_is)
    (case c11 => k_is)
    (case k11 => k_is)
    (case a12 => k_is)
    (case l12 => k_is)
    (case c12 => k_is)
    (case k12 => k_is)
    (case a13 => k_is)
    (case l13 => k_is)
    (case c13 => k_is)
    (case k13 => k_is)
    (case a14 => k_is)
    (case l14 => k_is)
    (case c14 => k_is)
    (case k14 => k_is)
    (case a15 => k_is)
    (case l15 => k_is)
    (case c15 => k_is)
    (case k15 => k_is)
    (case a16 => k_is)
    (case l16 => k_is)
    (case c16 => k_is)
    (case k16 => k_is)
    (case a17 => k_is)
    (case l17 => k_is)
    (case c17 => k_is)
    (case k17 => k_is)
    (case a18 => k_is)
    (case l18 => k_is)
    (case c18 => k_is)
    (case k18 => k_is)
    (case a19 => k_is)
    (case l19 => k_is)
    (case c19 => k_is)
    (case k19 => k_is)
    (case z_abs => k_is)
    (case z_all => k_is)
    (case z_enumerate => k_is)
    (case z_int => k_is)
    (case z_isinstance => k_is)
    (case z_len => k_is)
    (case z_list => k_is)
    (case z_range => k_is)
    (case z_str => k_is)
    (case z_tuple => k_is)
    (case v_MOST_PIECES => k_is)
    (case v_MOST_SIGNS => k_is)
    (case v_RESERVED => k_is)
    (case u_RESERVED => k_is)
    (case x_RESERVED => decide +kernel)
    (case y_RESERVED => decide +kernel)
