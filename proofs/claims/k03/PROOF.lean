import PyProof.Rows.All
import Wide.All
import OpenK.AllK
import Wide.FinOn
import HandS.ForMost
import HandS.ForExc
import HandS.CallSlots
import HandS.IsInst
import HandS.TupAny
import HandS.Style
import HandS.Conv
import HandS.SortInts
import HandS.Walk
import HandS.Zip
import KE.GoesMore
import PySem.Challenge.RW_signcleave_k03_signs_of_orders
set_option Elab.async false
set_option linter.all false
set_option maxRecDepth 100000
/-! data, trees of owned objects, what stands of them in the heap -/
namespace DL
open PySem L2

/-- frozen data -/
inductive D where
  | non | bl (b : Bool) | int (i : Int) | str (s : Str)
  | lst (ds : List D) | tup (ds : List D) | scr (ns : List Int)
  | dK (kds : List (Key × D)) | dT (kds : List (List Key × D))
  | ins (c : Str) (fds : List (Str × D))

/-- owned trees; al i: the tree that slot i owns -/
inductive T where
  | fz (d : D) | ol (ts : List T) | oi (c : Str) (fts : List (Str × T)) | al (i : Nat)

abbrev Env := List (Option T)
structure Exn where
  cls : Str
  fds : List (Str × D)
inductive Out (α : Type) where
  | ok (a : α) (Γ : Env) | exc (x : Exn) (Γ : Env) | bad
abbrev M (α : Type) := Env → Out α

def Out.bind {α β : Type} (o : Out α) (k : α → M β) : Out β := match o with
  | .ok a Γ => k a Γ
  | .exc x Γ => .exc x Γ
  | .bad => .bad
def Out.Wp {α : Type} (o : Out α) (P : α → Env → Prop) (E : Exn → Env → Prop) : Prop := match o with
  | .ok a Γ => P a Γ
  | .exc x Γ => E x Γ
  | .bad => False
theorem Out.wp_bind {α β : Type} {o : Out α} {k : α → M β} {P : β → Env → Prop} {E : Exn → Env → Prop} (h : (o.bind k).Wp P E) : o.Wp (fun a Γ => (k a Γ).Wp P E) E := by
  cases o with
  | ok a Γ => exact h
  | exc x Γ => exact h
  | bad => exact h
theorem Out.bind_assoc {α β γ : Type} (o : Out α) (k : α → M β) (l : β → M γ) : (o.bind k).bind l = o.bind fun a Γ => (k a Γ).bind l := by
  cases o <;> rfl
theorem Out.wp_assoc {α β γ : Type} {o : Out α} {k : α → M β} {l : β → M γ} {P : γ → Env → Prop} {E : Exn → Env → Prop} (h : ((o.bind k).bind l).Wp P E) : (o.bind fun a Γ => (k a Γ).bind l).Wp P E := by
  rw [← Out.bind_assoc]
  exact h
theorem Out.wp_mono {α : Type} {o : Out α} {P P' : α → Env → Prop} {E E' : Exn → Env → Prop} (h : o.Wp P E) (hp : ∀ a Γ, P a Γ → P' a Γ) (he : ∀ x Γ, E x Γ → E' x Γ) : o.Wp P' E' := by
  cases o with
  | ok a Γ => exact hp _ _ h
  | exc x Γ => exact he _ _ h
  | bad => exact h

/-! ### frozen data in a heap -/
mutual
inductive Dt (K : PySem.W.Frag) (cl : Str → Option Addr) (F : Hp) : V → D → Prop
  | non : Dt K cl F .non .non
  | bl (b : Bool) : Dt K cl F (.bl b) (.bl b)
  | int (i : Int) : Dt K cl F (.int i) (.int i)
  | str (s : Str) : Dt K cl F (.str s) (.str s)
  | lst {a : Addr} {vs : List V} {ds : List D} : F a = some (.lst vs) → vs.length ≤ sizeLine → Dts K cl F vs ds → Dt K cl F (.ref a) (.lst ds)
  | tup {a : Addr} {vs : List V} {ds : List D} : SqT K F a vs → vs.length ≤ sizeLine → Dts K cl F vs ds → Dt K cl F (.ref a) (.tup ds)
  | scr {a : Addr} {ns : List Int} : SqL K F a (ns.map V.int) → ns.length ≤ sizeLine → Dt K cl F (.ref a) (.scr ns)
  | dK {a : Addr} {kvs : List (Key × V)} {kds : List (Key × D)} : F a = some (.dK kvs) → kvs.map (·.1) = kds.map (·.1) → Dts K cl F (kvs.map (·.2)) (kds.map (·.2)) → Dt K cl F (.ref a) (.dK kds)
  | dT {a : Addr} {kvs : List (List Key × V)} {kds : List (List Key × D)} : F a = some (.dT kvs) → kvs.map (·.1) = kds.map (·.1) → Dts K cl F (kvs.map (·.2)) (kds.map (·.2)) → Dt K cl F (.ref a) (.dT kds)
  | ins {a C dx : Addr} {c : Str} {fs : List (Str × V)} {fds : List (Str × D)} : F a = some (.ins C dx fs) → cl c = some C → fs.map (·.1) = fds.map (·.1) → Dts K cl F (fs.map (·.2)) (fds.map (·.2)) → Dt K cl F (.ref a) (.ins c fds)
inductive Dts (K : PySem.W.Frag) (cl : Str → Option Addr) (F : Hp) : List V → List D → Prop
  | nil : Dts K cl F [] []
  | cons {v : V} {vs : List V} {d : D} {ds : List D} : Dt K cl F v d → Dts K cl F vs ds → Dts K cl F (v :: vs) (d :: ds)
end
def Sub (F H : Hp) : Prop := ∀ a o, F a = some o → H a = some o
theorem Sub.refl (F : Hp) : Sub F F := fun _ _ h => h
theorem Sub.trans {F G H : Hp} (a : Sub F G) (b : Sub G H) : Sub F H := fun x o h => b x o (a x o h)
theorem Sub.sqT {K : PySem.W.Frag} {F H : Hp} {a : Addr} {vs : List V} (e : Sub F H) (h : SqT K F a vs) : SqT K H a vs := by
  rcases h with (h | ⟨o, h⟩) | h
  · exact Or.inl (Or.inl (e _ _ h))
  · exact Or.inl (Or.inr ⟨o, e _ _ h⟩)
  · exact Or.inr h
theorem Sub.sqL {K : PySem.W.Frag} {F H : Hp} {a : Addr} {vs : List V} (e : Sub F H) (h : SqL K F a vs) : SqL K H a vs := by
  rcases h with (h | ⟨o, h⟩) | h
  · exact Or.inl (Or.inl (e _ _ h))
  · exact Or.inl (Or.inr ⟨o, e _ _ h⟩)
  · exact Or.inr h
section
variable {K : PySem.W.Frag} {cl : Str → Option Addr} {F F' : Hp}
mutual
theorem Dt.mono (e : Sub F F') : ∀ {v : V} {d : D}, Dt K cl F v d → Dt K cl F' v d
  | _, _, .non => .non
  | _, _, .bl b => .bl b
  | _, _, .int i => .int i
  | _, _, .str s => .str s
  | _, _, .lst h hl hs => .lst (e _ _ h) hl (Dts.mono e hs)
  | _, _, .tup h hl hs => .tup (e.sqT h) hl (Dts.mono e hs)
  | _, _, .scr h hl => .scr (e.sqL h) hl
  | _, _, .dK h hk hs => .dK (e _ _ h) hk (Dts.mono e hs)
  | _, _, .dT h hk hs => .dT (e _ _ h) hk (Dts.mono e hs)
  | _, _, .ins h hc hk hs => .ins (e _ _ h) hc hk (Dts.mono e hs)
theorem Dts.mono (e : Sub F F') : ∀ {vs : List V} {ds : List D}, Dts K cl F vs ds → Dts K cl F' vs ds
  | _, _, .nil => .nil
  | _, _, .cons h hs => .cons (Dt.mono e h) (Dts.mono e hs)
end
theorem Dts.length : ∀ {vs : List V} {ds : List D}, Dts K cl F vs ds → vs.length = ds.length
  | _, _, .nil => rfl
  | _, _, .cons _ hs => congrArg (· + 1) (Dts.length hs)
theorem Dts.get : ∀ {vs : List V} {ds : List D} {i : Nat} {d : D}, Dts K cl F vs ds → ds[i]? = some d → ∃ v, vs[i]? = some v ∧ Dt K cl F v d
  | _, _, _, _, .nil, e => by simp at e
  | _, _, 0, _, .cons h _, e => by simp at e; subst e; exact ⟨_, rfl, h⟩
  | _, _, i + 1, d, .cons _ hs, e => by
    obtain ⟨v, h1, h2⟩ := Dts.get (i := i) (d := d) hs (by simpa using e)
    exact ⟨v, by simpa using h1, h2⟩
theorem Dts.getV : ∀ {vs : List V} {ds : List D} {i : Nat} {v : V}, Dts K cl F vs ds → vs[i]? = some v → ∃ d, ds[i]? = some d ∧ Dt K cl F v d
  | _, _, _, _, .nil, e => by simp at e
  | _, _, 0, _, .cons h _, e => by simp at e; subst e; exact ⟨_, rfl, h⟩
  | _, _, i + 1, d, .cons _ hs, e => by
    obtain ⟨v, h1, h2⟩ := Dts.getV (i := i) (v := d) hs (by simpa using e)
    exact ⟨v, by simpa using h1, h2⟩
theorem Dts.append : ∀ {vs ws : List V} {ds es : List D}, Dts K cl F vs ds → Dts K cl F ws es → Dts K cl F (vs ++ ws) (ds ++ es)
  | _, _, _, _, .nil, h => h
  | _, _, _, _, .cons h hs, h2 => .cons h (Dts.append hs h2)
theorem Dts.take : ∀ {vs : List V} {ds : List D} (n : Nat), Dts K cl F vs ds → Dts K cl F (vs.take n) (ds.take n)
  | _, _, 0, _ => .nil
  | _, _, _ + 1, .nil => .nil
  | _, _, n + 1, .cons h hs => .cons h (Dts.take n hs)
theorem Dts.drop : ∀ {vs : List V} {ds : List D} (n : Nat), Dts K cl F vs ds → Dts K cl F (vs.drop n) (ds.drop n)
  | _, _, 0, h => h
  | _, _, _ + 1, .nil => .nil
  | _, _, n + 1, .cons _ hs => Dts.drop n hs
theorem Dts.set {v : V} {d : D} (h : Dt K cl F v d) : ∀ {vs : List V} {ds : List D} (n : Nat), Dts K cl F vs ds → Dts K cl F (vs.set n v) (ds.set n d)
  | _, _, _, .nil => .nil
  | _, _, 0, .cons _ hs => .cons h hs
  | _, _, n + 1, .cons q hs => .cons q (Dts.set h n hs)
theorem Dts.reverse : ∀ {vs : List V} {ds : List D}, Dts K cl F vs ds → Dts K cl F vs.reverse ds.reverse
  | _, _, .nil => .nil
  | _, _, .cons h hs => by
    rw [List.reverse_cons, List.reverse_cons]
    exact (Dts.reverse hs).append (.cons h .nil)
theorem Dts.ints : ∀ {vs : List V} {ns : List Int}, Dts K cl F vs (ns.map D.int) → vs = ns.map V.int
  | _, [], h => by cases h; rfl
  | _, n :: ns, h => by
    cases h with
    | cons h hs => cases h; rw [Dts.ints hs]; rfl
theorem Dts.ofInts : ∀ {ns : List Int}, Dts K cl F (ns.map V.int) (ns.map D.int)
  | [] => .nil
  | n :: ns => .cons (.int n) Dts.ofInts
end

/-! ### owned trees -/
mutual
inductive OwT (K : PySem.W.Frag) (cl : Str → Option Addr) (F H : Hp) : (Addr → Prop) → V → T → Prop
  | fz {S : Addr → Prop} {v : V} {d : D} : Dt K cl F v d → OwT K cl F H S v (.fz d)
  | ol {S : Addr → Prop} {a : Addr} {vs : List V} {ts : List T} (sub : Addr → Option Nat) : H a = some (.lst vs) → vs.length ≤ sizeLine → S a → OwTs K cl F H (fun i b => S b ∧ b ≠ a ∧ sub b = some i) 0 vs ts → OwT K cl F H S (.ref a) (.ol ts)
  | oi {S : Addr → Prop} {a C dx : Addr} {c : Str} {fs : List (Str × V)} {fts : List (Str × T)} (sub : Addr → Option Nat) : H a = some (.ins C dx fs) → cl c = some C → S a → fs.map (·.1) = fts.map (·.1) →
      OwTs K cl F H (fun i b => S b ∧ b ≠ a ∧ sub b = some i) 0 (fs.map (·.2)) (fts.map (·.2)) → OwT K cl F H S (.ref a) (.oi c fts)
inductive OwTs (K : PySem.W.Frag) (cl : Str → Option Addr) (F H : Hp) : (Nat → Addr → Prop) → Nat → List V → List T → Prop
  | nil {Si : Nat → Addr → Prop} {i : Nat} : OwTs K cl F H Si i [] []
  | cons {Si : Nat → Addr → Prop} {i : Nat} {v : V} {vs : List V} {t : T} {ts : List T} : OwT K cl F H (Si i) v t → OwTs K cl F H Si (i + 1) vs ts → OwTs K cl F H Si i (v :: vs) (t :: ts)
end
section
variable {K : PySem.W.Frag} {cl : Str → Option Addr} {F F' H H' : Hp}
mutual
/-- kept, where the frozen grows and the owned stays -/
theorem OwT.keep (e : Sub F F') : ∀ {S S' : Addr → Prop} {v : V} {t : T}, (∀ a o, S a → H a = some o → H' a = some o) → (∀ a, S a → S' a) → OwT K cl F H S v t → OwT K cl F' H' S' v t
  | _, _, _, _, _, _, .fz h => .fz (h.mono e)
  | _, _, _, _, k, m, .ol sub h hl s hs => .ol sub (k _ _ s h) hl (m _ s) (OwTs.keep e (fun _ a o q => k a o q.1) (fun _ a q => ⟨m a q.1, q.2⟩) hs)
  | _, _, _, _, k, m, .oi sub h hc s hk hs => .oi sub (k _ _ s h) hc (m _ s) hk (OwTs.keep e (fun _ a o q => k a o q.1) (fun _ a q => ⟨m a q.1, q.2⟩) hs)
theorem OwTs.keep (e : Sub F F') : ∀ {Si Si' : Nat → Addr → Prop} {i : Nat} {vs : List V} {ts : List T}, (∀ j a o, Si j a → H a = some o → H' a = some o) → (∀ j a, Si j a → Si' j a) → OwTs K cl F H Si i vs ts → OwTs K cl F' H' Si' i vs ts
  | _, _, _, _, _, _, _, .nil => .nil
  | _, _, _, _, _, k, m, .cons h hs => .cons (OwT.keep e (k _) (m _) h) (OwTs.keep e k m hs)
end
end
mutual
def T.toD : T → Option D
  | .fz d => some d
  | .ol ts => (T.toDs ts).map D.lst
  | .oi c fts => (T.toFs fts).map (D.ins c)
  | .al _ => none
def T.toDs : List T → Option (List D)
  | [] => some []
  | t :: ts => match T.toD t, T.toDs ts with
    | some d, some ds => some (d :: ds)
    | _, _ => none
def T.toFs : List (Str × T) → Option (List (Str × D))
  | [] => some []
  | (f, t) :: r => match T.toD t, T.toFs r with
    | some d, some ds => some ((f, d) :: ds)
    | _, _ => none
end
theorem T.toFs_eq : ∀ {fts : List (Str × T)} {fds : List (Str × D)}, T.toFs fts = some fds → fts.map (·.1) = fds.map (·.1) ∧ T.toDs (fts.map (·.2)) = some (fds.map (·.2))
  | [], fds, h => by
    simp [T.toFs] at h
    subst h
    exact ⟨rfl, rfl⟩
  | (f, t) :: r, fds, h => by
    unfold T.toFs at h
    cases h1 : T.toD t with
    | none => simp [h1] at h
    | some d =>
      cases h2 : T.toFs r with
      | none => simp [h1, h2] at h
      | some ds =>
        simp [h1, h2] at h
        subst h
        obtain ⟨e1, e2⟩ := T.toFs_eq h2
        refine ⟨by simp [e1], ?_⟩
        show T.toDs (t :: r.map (·.2)) = _
        unfold T.toDs
        rw [h1, e2]
        rfl
section
variable {K : PySem.W.Frag} {cl : Str → Option Addr} {F F' H : Hp}
mutual
/-- an owned tree as data of any heap that has its objects -/
theorem OwT.data (e : Sub F F') : ∀ {S : Addr → Prop} {v : V} {t : T} {d : D}, (∀ a o, S a → H a = some o → F' a = some o) → OwT K cl F H S v t → t.toD = some d → Dt K cl F' v d
  | _, _, _, _, _, .fz h, q => by
    have q' : some _ = some _ := q
    cases q'
    exact h.mono e
  | _, _, .ol ts, d, k, .ol sub h hl s hs, q => by
    unfold T.toD at q
    cases h1 : T.toDs ts with
    | none => rw [h1] at q; cases q
    | some ds =>
      rw [h1] at q
      have q' : some (D.lst ds) = some d := q
      cases q'
      exact .lst (k _ _ s h) hl (OwTs.data e (fun _ a o z => k a o z.1) hs h1)
  | _, _, .oi c fts, d, k, .oi sub h hc s hk hs, q => by
    unfold T.toD at q
    cases h1 : T.toFs fts with
    | none => rw [h1] at q; cases q
    | some ds =>
      rw [h1] at q
      have q' : some (D.ins c ds) = some d := q
      cases q'
      obtain ⟨e1, e2⟩ := T.toFs_eq h1
      exact .ins (k _ _ s h) hc (hk.trans e1) (OwTs.data e (fun _ a o z => k a o z.1) hs e2)
theorem OwTs.data (e : Sub F F') : ∀ {Si : Nat → Addr → Prop} {i : Nat} {vs : List V} {ts : List T} {ds : List D}, (∀ j a o, Si j a → H a = some o → F' a = some o) → OwTs K cl F H Si i vs ts → T.toDs ts = some ds → Dts K cl F' vs ds
  | _, _, _, _, _, _, .nil, q => by
    have q' : some _ = some _ := q
    cases q'
    exact .nil
  | _, _, _, t :: ts, ds, k, .cons h hs, q => by
    unfold T.toDs at q
    cases h1 : T.toD t with
    | none => simp [h1] at q
    | some d =>
      cases h2 : T.toDs ts with
      | none => simp [h1, h2] at q
      | some es =>
        simp [h1, h2] at q
        subst q
        exact .cons (OwT.data e (k _) h h1) (OwTs.data e k hs h2)
end
theorem OwTs.length : ∀ {Si : Nat → Addr → Prop} {i : Nat} {vs : List V} {ts : List T}, OwTs K cl F H Si i vs ts → vs.length = ts.length
  | _, _, _, _, .nil => rfl
  | _, _, _, _, .cons _ hs => congrArg (· + 1) (OwTs.length hs)
theorem OwTs.get : ∀ {Si : Nat → Addr → Prop} {i j : Nat} {vs : List V} {ts : List T} {t : T}, OwTs K cl F H Si i vs ts → ts[j]? = some t → ∃ v, vs[j]? = some v ∧ OwT K cl F H (Si (i + j)) v t
  | _, _, _, _, _, _, .nil, e => by simp at e
  | _, _, 0, _, _, _, .cons h _, e => by simp at e; subst e; exact ⟨_, rfl, h⟩
  | _, i, j + 1, _, _, t, .cons _ hs, e => by
    obtain ⟨v, h1, h2⟩ := OwTs.get (j := j) (t := t) hs (by simpa using e)
    refine ⟨v, by simpa using h1, ?_⟩
    rw [show i + (j + 1) = i + 1 + j by omega]
    exact h2
theorem OwTs.set {Si : Nat → Addr → Prop} : ∀ {i j : Nat} {vs : List V} {ts : List T} {v : V} {t : T}, OwTs K cl F H Si i vs ts → OwT K cl F H (Si (i + j)) v t → OwTs K cl F H Si i (vs.set j v) (ts.set j t)
  | _, _, _, _, _, _, .nil, _ => .nil
  | _, 0, _, _, _, _, .cons _ hs, q => .cons q hs
  | i, j + 1, _, _, _, _, .cons h hs, q => .cons h (OwTs.set (j := j) hs (by rw [show i + 1 + j = i + (j + 1) by omega]; exact q))
theorem OwTs.append {Si : Nat → Addr → Prop} : ∀ {i : Nat} {vs ws : List V} {ts us : List T}, OwTs K cl F H Si i vs ts → OwTs K cl F H Si (i + ts.length) ws us → OwTs K cl F H Si i (vs ++ ws) (ts ++ us)
  | _, _, _, _, _, .nil, q => q
  | i, _, _, _ :: ts, _, .cons h hs, q => .cons h (OwTs.append hs (by rw [show i + 1 + ts.length = i + (ts.length + 1) by omega]; exact q))
theorem OwTs.ofDts {Si : Nat → Addr → Prop} : ∀ {i : Nat} {vs : List V} {ds : List D}, Dts K cl F vs ds → OwTs K cl F H Si i vs (ds.map T.fz)
  | _, _, _, .nil => .nil
  | _, _, _, .cons h hs => .cons (.fz h) (OwTs.ofDts hs)
theorem OwTs.dts {Si : Nat → Addr → Prop} : ∀ {i : Nat} {vs : List V} {ds : List D}, OwTs K cl F H Si i vs (ds.map T.fz) → Dts K cl F vs ds
  | _, _, [], .nil => .nil
  | _, _, d :: ds, .cons h hs => by
    cases h with
    | fz h => exact .cons h (OwTs.dts hs)
end
end DL
/-! the state: slots, things in hand, the heap -/
namespace DL
open PySem L2

structure Cc where
  K : PySem.W.Frag
  cl : Str → Option Addr
  H0 : Hp
  F0 : Hp
  mu : Addr → Prop
  pin : Nat → Option V
  cv : Nat → Bool
abbrev Root := Sum Nat Nat
abbrev Hand := List (V × T)

/-- one thing in hand -/
def TempOk (C : Cc) (σ : St) (F H : Hp) (S : Addr → Prop) (v : V) : T → Prop
  | .al i => σ[i]? = some (some v) ∧ C.cv i = false
  | t => OwT C.K C.cl F H S v t
def TempsOk (C : Cc) (σ : St) (F H : Hp) (ow : Addr → Option Root) : Hand → Prop
  | [] => True
  | (v, t) :: τ => TempOk C σ F H (fun a => ow a = some (.inr τ.length)) v t ∧ TempsOk C σ F H ow τ

structure Rl (C : Cc) (σ : St) (H : Hp) (Γ : Env) (τ : Hand) (F : Hp) (ow : Addr → Option Root) : Prop where
  ex : Sub F H
  old : Sub C.F0 F
  new : ∀ a o, F a = some o → C.F0 a = some o ∨ C.H0 a = none ∨ C.mu a
  frame : ∀ a o, C.H0 a = some o → ¬ C.mu a → H a = some o
  ownF : ∀ a r, ow a = some r → F a = none
  ownH : ∀ a r, ow a = some r → ∃ o, H a = some o
  ownN : ∀ a r, ow a = some r → C.mu a ∨ C.H0 a = none
  slots : ∀ i t, Γ[i]? = some (some t) → ∃ v, σ[i]? = some (some v) ∧ OwT C.K C.cl F H (fun a => ow a = some (.inl i)) v t
  temps : TempsOk C σ F H ow τ
  pins : ∀ i v, C.pin i = some v → σ[i]? = some (some v)
  len : σ.length = Γ.length
def Rel (C : Cc) (σ : St) (H : Hp) (Γ : Env) (τ : Hand) : Prop := ∃ F ow, Rl C σ H Γ τ F ow

section
variable {C : Cc} {σ σ' : St} {F F' H H' : Hp} {Γ : Env} {τ : Hand} {ow ow' : Addr → Option Root} {v : V} {t : T} {d : D}
theorem TempOk.keep {S S' : Addr → Prop} (e : Sub F F') (k : ∀ a o, S a → H a = some o → H' a = some o) (m : ∀ a, S a → S' a) (h : TempOk C σ F H S v t) (hσ : ∀ i, t = .al i → σ[i]? = some (some v) → σ'[i]? = some (some v)) : TempOk C σ' F' H' S' v t := by
  cases t with
  | al i => exact ⟨hσ i rfl h.1, h.2⟩
  | fz d => exact OwT.keep e k m h
  | ol ts => exact OwT.keep e k m h
  | oi c ts => exact OwT.keep e k m h
theorem TempsOk.keep (e : Sub F F') : ∀ {τ : Hand}, (∀ a o j, j < τ.length → ow a = some (.inr j) → H a = some o → H' a = some o) → (∀ a j, j < τ.length → ow a = some (.inr j) → ow' a = some (.inr j)) → TempsOk C σ F H ow τ → TempsOk C σ F' H' ow' τ
  | [], _, _, _ => trivial
  | (v, t) :: τ, k, m, h => ⟨TempOk.keep e (fun a o q => k a o _ (Nat.lt_succ_self _) q) (fun a q => m a _ (Nat.lt_succ_self _) q) h.1 (fun _ _ z => z), TempsOk.keep e (fun a o j hj => k a o j (Nat.lt_succ_of_lt hj)) (fun a j hj => m a j (Nat.lt_succ_of_lt hj)) h.2⟩
/-- the things in hand bear any change of slots if none of them is an alias -/
theorem TempsOk.restate (hσ : ∀ (i : Nat) (v : V), σ[i]? = some (some v) → σ'[i]? = some (some v)) : ∀ {τ : Hand}, TempsOk C σ F H ow τ → TempsOk C σ' F H ow τ
  | [], _ => trivial
  | (v, t) :: τ, h => ⟨TempOk.keep (Sub.refl F) (fun _ _ _ q => q) (fun _ q => q) h.1 (fun i _ z => hσ i v z), TempsOk.restate hσ h.2⟩
theorem OwT.notAl {K : PySem.W.Frag} {cl : Str → Option Addr} {S : Addr → Prop} (h : OwT K cl F H S v t) : ∀ i, t ≠ .al i := by
  intro i e
  subst e
  cases h
theorem TempOk.of {S : Addr → Prop} (h : OwT C.K C.cl F H S v t) : TempOk C σ F H S v t := by
  cases t with
  | al i => cases h
  | fz d => exact h
  | ol ts => exact h
  | oi c ts => exact h
theorem TempOk.own {S : Addr → Prop} (h : TempOk C σ F H S v t) (n : ∀ i, t ≠ .al i) : OwT C.K C.cl F H S v t := by
  cases t with
  | al i => exact absurd rfl (n i)
  | fz d => exact h
  | ol ts => exact h
  | oi c ts => exact h

/-- nothing that stood is changed; the frozen may grow by new things -/
theorem Rl.grow (R : Rl C σ H Γ τ F ow) (hH : Sub H H') (hF : Sub F F') (hx : Sub F' H') (hn : ∀ a o, F' a = some o → F a = some o ∨ H a = none) : Rl C σ H' Γ τ F' ow where
  ex := hx
  old := R.old.trans hF
  new := fun a o e => by
    rcases hn a o e with h | h
    · exact R.new a o h
    · cases q : C.H0 a with
      | none => exact .inr (.inl rfl)
      | some u =>
        by_cases hm : C.mu a
        · exact .inr (.inr hm)
        · rw [R.frame a u q hm] at h
          cases h
  frame := fun a o e hm => hH _ _ (R.frame a o e hm)
  ownF := fun a r e => by
    cases q : F' a with
    | none => rfl
    | some o =>
      rcases hn a o q with h | h
      · rw [R.ownF a r e] at h
        cases h
      · obtain ⟨u, hu⟩ := R.ownH a r e
        rw [h] at hu
        cases hu
  ownH := fun a r e => (R.ownH a r e).imp fun o h => hH _ _ h
  ownN := R.ownN
  slots := fun i t e => (R.slots i t e).imp fun v h => ⟨h.1, h.2.keep hF (fun a o _ q => hH a o q) (fun _ q => q)⟩
  temps := R.temps.keep hF (fun a o _ _ _ q => hH a o q) (fun _ _ _ q => q)
  pins := R.pins
  len := R.len
theorem Rl.push (R : Rl C σ H Γ τ F ow) (h : Dt C.K C.cl F v d) : Rl C σ H Γ ((v, .fz d) :: τ) F ow :=
  ⟨R.ex, R.old, R.new, R.frame, R.ownF, R.ownH, R.ownN, R.slots, ⟨.fz h, R.temps⟩, R.pins, R.len⟩
theorem Rl.pop {p : V × T} (R : Rl C σ H Γ (p :: τ) F ow) : Rl C σ H Γ τ F ow :=
  ⟨R.ex, R.old, R.new, R.frame, R.ownF, R.ownH, R.ownN, R.slots, R.temps.2, R.pins, R.len⟩
theorem Rel.pop {p : V × T} (R : Rel C σ H Γ (p :: τ)) : Rel C σ H Γ τ := let ⟨F, ow, R⟩ := R; ⟨F, ow, R.pop⟩
theorem Rel.drop {υ : Hand} (R : Rel C σ H Γ (υ ++ τ)) : Rel C σ H Γ τ := by
  induction υ with
  | nil => exact R
  | cons p υ ih => exact ih R.pop
/-- a new object, frozen at once -/
theorem Rl.newF {p : Addr} {o : HO} (R : Rl C σ H Γ τ F ow) (hp : H p = none) : Rl C σ (upd H p o) Γ τ (upd F p o) ow ∧ Sub F (upd F p o) := by
  have nF : F p = none := by
    cases q : F p with
    | none => rfl
    | some u =>
      rw [R.ex p u q] at hp
      cases hp
  have s1 : Sub H (upd H p o) := fun a u e => by
    rw [upd_ne (ne_of_none e hp)]
    exact e
  have s2 : Sub F (upd F p o) := fun a u e => by
    rw [upd_ne (ne_of_none e nF)]
    exact e
  refine ⟨R.grow s1 s2 (fun a u e => ?_) (fun a u e => ?_), s2⟩
  · by_cases h : a = p
    · subst h
      rw [upd_same] at e ⊢
      exact e
    · rw [upd_ne h] at e ⊢
      exact R.ex a u e
  · by_cases h : a = p
    · subst h
      exact .inr hp
    · rw [upd_ne h] at e
      exact .inl e
/-- a new object that is not frozen and not owned -/
theorem Rl.newH {p : Addr} {o : HO} (R : Rl C σ H Γ τ F ow) (hp : H p = none) : Rl C σ (upd H p o) Γ τ F ow :=
  R.grow (fun a u e => by rw [upd_ne (ne_of_none e hp)]; exact e) (Sub.refl F) (fun a u e => by rw [upd_ne (ne_of_none (R.ex a u e) hp)]; exact R.ex a u e) (fun a u e => .inl e)
/-- roots of a given kind are given to another root, or away -/
theorem Rl.reown (R : Rl C σ H Γ τ F ow) (f : Root → Option Root) {τ' : Hand} {Γ' : Env} (hn : σ'.length = Γ'.length) (hp : ∀ i v, C.pin i = some v → σ'[i]? = some (some v))
    (hs : ∀ i t, Γ'[i]? = some (some t) → ∃ v, σ'[i]? = some (some v) ∧ OwT C.K C.cl F H (fun a => ∃ r, ow a = some r ∧ f r = some (.inl i)) v t)
    (ht : TempsOk C σ' F H (fun a => (ow a).bind f) τ') : Rl C σ' H Γ' τ' F (fun a => (ow a).bind f) := by
  have key : ∀ a r, (ow a).bind f = some r → ∃ q, ow a = some q ∧ f q = some r := fun a r e => by
    cases h : ow a with
    | none => rw [h] at e; cases e
    | some q => rw [h] at e; exact ⟨q, rfl, e⟩
  refine ⟨R.ex, R.old, R.new, R.frame, fun a r e => ?_, fun a r e => ?_, fun a r e => ?_, fun i t e => ?_, ht, hp, hn⟩
  · obtain ⟨q, h, _⟩ := key a r e
    exact R.ownF a q h
  · obtain ⟨q, h, _⟩ := key a r e
    exact R.ownH a q h
  · obtain ⟨q, h, _⟩ := key a r e
    exact R.ownN a q h
  · obtain ⟨v, h1, h2⟩ := hs i t e
    refine ⟨v, h1, h2.keep (Sub.refl F) (fun _ _ _ q => q) (fun a q => ?_)⟩
    obtain ⟨r, e1, e2⟩ := q
    show (ow a).bind f = some (.inl i)
    rw [e1]
    exact e2
/-- a root's objects are frozen -/
theorem Rl.freeze (R : Rl C σ H Γ τ F ow) (r : Root) {τ' : Hand} {Γ' : Env} {F' : Hp} (hn : Γ'.length = Γ.length) (hF' : ∀ a, F' a = if ow a = some r then H a else F a)
    (hs : Sub F F' → ∀ i t, Γ'[i]? = some (some t) → ∃ v, σ[i]? = some (some v) ∧ OwT C.K C.cl F' H (fun a => ow a = some (.inl i) ∧ some (Sum.inl i) ≠ some r) v t)
    (ht : Sub F F' → TempsOk C σ F' H (fun a => if ow a = some r then none else ow a) τ') : Rl C σ H Γ' τ' F' (fun a => if ow a = some r then none else ow a) := by
  have sF : Sub F F' := fun a o e => by
    rw [hF', if_neg (fun z => by rw [R.ownF a r z] at e; cases e)]
    exact e
  have key : ∀ a q, (if ow a = some r then none else ow a) = some q → ow a = some q ∧ ow a ≠ some r := fun a q e => by
    by_cases h : ow a = some r
    · rw [if_pos h] at e; cases e
    · rw [if_neg h] at e; exact ⟨e, h⟩
  refine ⟨fun a o e => ?_, R.old.trans sF, fun a o e => ?_, R.frame, fun a q e => ?_, fun a q e => ?_, fun a q e => ?_, fun i t e => ?_, ht sF, R.pins, R.len.trans hn.symm⟩
  · rw [hF'] at e
    split at e
    · exact e
    · exact R.ex a o e
  · rw [hF'] at e
    split at e
    · rename_i h
      rcases R.ownN a r h with z | z
      · exact .inr (.inr z)
      · exact .inr (.inl z)
    · exact R.new a o e
  · obtain ⟨h1, h2⟩ := key a q e
    rw [hF', if_neg h2]
    exact R.ownF a q h1
  · exact R.ownH a q (key a q e).1
  · exact R.ownN a q (key a q e).1
  · obtain ⟨v, h1, h2⟩ := hs sF i t e
    refine ⟨v, h1, h2.keep (Sub.refl F') (fun _ _ _ q => q) (fun a q => ?_)⟩
    show (if ow a = some r then none else ow a) = some (.inl i)
    rw [if_neg (fun z => q.2 (q.1.symm.trans z)), q.1]
/-- the top of the hand is frozen -/
theorem Rel.freezeTop (R : Rel C σ H Γ ((v, t) :: τ)) (n : ∀ i, t ≠ .al i) (h : t.toD = some d) : Rel C σ H Γ ((v, .fz d) :: τ) := by
  obtain ⟨F, ow, R⟩ := R
  refine ⟨fun a => if ow a = some (.inr τ.length) then H a else F a, _, R.freeze (.inr τ.length) rfl (fun _ => rfl) (fun sF i t' e => ?_) (fun sF => ⟨?_, ?_⟩)⟩
  · obtain ⟨w, h1, h2⟩ := R.slots i t' e
    exact ⟨w, h1, h2.keep sF (fun _ _ _ q => q) (fun a q => ⟨q, fun z => by cases z⟩)⟩
  · exact .fz ((R.temps.1.own n).data sF (fun a o s q => by
      show (if ow a = some (.inr τ.length) then H a else F a) = some o
      rw [if_pos s]
      exact q) h)
  · refine R.temps.2.keep sF (fun _ _ _ _ _ q => q) (fun a j hj q => ?_)
    show (if ow a = some (.inr τ.length) then none else ow a) = some (.inr j)
    rw [if_neg (fun z => by
      rw [q] at z
      cases z
      exact absurd hj (Nat.lt_irrefl _))]
    exact q
/-- slot i is frozen -/
theorem Rel.freezeSlot {i : Nat} (R : Rel C σ H Γ τ) (hi : Γ[i]? = some (some t)) (h : t.toD = some d) : Rel C σ H (Γ.set i (some (.fz d))) τ := by
  obtain ⟨F, ow, R⟩ := R
  have hlt : i < Γ.length := (List.getElem?_eq_some_iff.mp hi).1
  refine ⟨fun a => if ow a = some (.inl i) then H a else F a, _, R.freeze (.inl i) (by simp) (fun _ => rfl) (fun sF j t' e => ?_) (fun sF => ?_)⟩
  · by_cases hj : j = i
    · subst hj
      rw [List.getElem?_set_self hlt] at e
      cases e
      obtain ⟨w, h1, h2⟩ := R.slots j t hi
      exact ⟨w, h1, .fz (h2.data sF (fun a o s q => by
        show (if ow a = some (.inl j) then H a else F a) = some o
        rw [if_pos s]
        exact q) h)⟩
    · rw [List.getElem?_set_ne (Ne.symm hj)] at e
      obtain ⟨w, h1, h2⟩ := R.slots j t' e
      exact ⟨w, h1, h2.keep sF (fun _ _ _ q => q) (fun a q => ⟨q, fun z => by cases z; exact hj rfl⟩)⟩
  · refine R.temps.keep sF (fun _ _ _ _ _ q => q) (fun a j hj q => ?_)
    show (if ow a = some (.inl i) then none else ow a) = some (.inr j)
    rw [if_neg (fun z => by rw [q] at z; cases z)]
    exact q
/-- an alias on top, its slot frozen, is that data -/
theorem Rel.aliasFz {i : Nat} (R : Rel C σ H Γ ((v, .al i) :: τ)) (hi : Γ[i]? = some (some (.fz d))) : Rel C σ H Γ ((v, .fz d) :: τ) := by
  obtain ⟨F, ow, R⟩ := R
  refine ⟨F, ow, R.ex, R.old, R.new, R.frame, R.ownF, R.ownH, R.ownN, R.slots, ⟨?_, R.temps.2⟩, R.pins, R.len⟩
  obtain ⟨w, h1, h2⟩ := R.slots i _ hi
  have e : σ[i]? = some (some v) := R.temps.1.1
  rw [h1] at e
  cases e
  cases h2 with
  | fz h => exact .fz h
/-- the top of the hand goes into slot i -/
theorem Rel.store {i : Nat} (R : Rel C σ H Γ ((v, t) :: τ)) (n : ∀ i, t ≠ .al i) (hp : C.pin i = none) (ha : ∀ p ∈ τ, p.2 ≠ .al i) : Rel C (σ.set i (some v)) H (Γ.set i (some t)) τ := by
  obtain ⟨F, ow, R⟩ := R
  refine ⟨F, _, R.reown (fun r => if r = .inr τ.length then some (.inl i) else if r = .inl i then none else some r) (by simpa using R.len) (fun j w e => ?_) (fun j t' e => ?_) ?_⟩
  · have hj : i ≠ j := fun z => by
      subst z
      rw [hp] at e
      cases e
    rw [List.getElem?_set_ne hj]
    exact R.pins j w e
  · by_cases hj : i = j
    · subst hj
      have hlt : i < Γ.length := by
        have := (List.getElem?_eq_some_iff.mp e).1
        simpa using this
      rw [List.getElem?_set_self hlt] at e
      cases e
      have hl : i < σ.length := by rw [R.len]; exact hlt
      refine ⟨v, by rw [List.getElem?_set_self hl], (R.temps.1.own n).keep (Sub.refl F) (fun _ _ _ q => q) (fun a q => ⟨_, q, ?_⟩)⟩
      rw [if_pos rfl]
    · rw [List.getElem?_set_ne hj] at e
      obtain ⟨w, h1, h2⟩ := R.slots j t' e
      refine ⟨w, by rw [List.getElem?_set_ne hj]; exact h1, h2.keep (Sub.refl F) (fun _ _ _ q => q) (fun a q => ⟨_, q, ?_⟩)⟩
      rw [if_neg (fun z => by cases z), if_neg (fun z => by cases z; exact hj rfl)]
  · have go : ∀ (υ : Hand), (∀ p ∈ υ, p.2 ≠ .al i) → υ.length ≤ τ.length → TempsOk C σ F H ow υ → TempsOk C (σ.set i (some v)) F H (fun a => (ow a).bind fun r => if r = .inr τ.length then some (.inl i) else if r = .inl i then none else some r) υ := by
      intro υ
      induction υ with
      | nil => intro _ _ _; trivial
      | cons p υ ih =>
        intro ha hle h
        obtain ⟨w, t'⟩ := p
        refine ⟨h.1.keep (Sub.refl F) (fun _ _ _ q => q) (fun a q => ?_) (fun j ej q => ?_), ih (fun p hp => ha p (List.mem_cons_of_mem _ hp)) (Nat.le_of_succ_le hle) h.2⟩
        · show (ow a).bind _ = _
          rw [show ow a = some (.inr υ.length) from q]
          show (if (Sum.inr υ.length : Root) = .inr τ.length then some (Sum.inl i) else if (Sum.inr υ.length : Root) = .inl i then none else some (Sum.inr υ.length)) = _
          rw [if_neg (fun z => by
            have z' : υ.length = τ.length := Sum.inr.inj z
            have : (w, t') :: υ ≠ [] := List.cons_ne_nil _ _
            simp at hle
            omega), if_neg (fun z => by cases z)]
        · have hj : i ≠ j := fun z => by
            subst z
            exact ha (w, t') List.mem_cons_self ej
          rw [List.getElem?_set_ne hj]
          exact q
    exact go τ ha (Nat.le_refl _) R.temps.2
/-- a slot is forgotten, or what it holds -/
theorem Rel.forget {i : Nat} (R : Rel C σ H Γ τ) : Rel C σ H (Γ.set i none) τ := by
  obtain ⟨F, ow, R⟩ := R
  refine ⟨F, ow, R.ex, R.old, R.new, R.frame, R.ownF, R.ownH, R.ownN, fun j t e => ?_, R.temps, R.pins, by simpa using R.len⟩
  by_cases hj : i = j
  · subst hj
    rw [List.getElem?_set] at e
    split at e
    · split at e
      · cases e
      · cases e
    · rename_i h
      exact absurd rfl h
  · rw [List.getElem?_set_ne hj] at e
    exact R.slots j t e
end
end DL
/-! readings by meanings; expressions -/
namespace DL
open PySem L2

def emp : Hp := fun _ => none
theorem sub_emp (F : Hp) : Sub emp F := fun _ _ h => by cases h

def XOk (C : Cc) (F H : Hp) (cls : Value) (d : Option Addr) (x : Exn) : Prop :=
  ∃ Ca dd fs, cls = .ref Ca ∧ C.cl x.cls = some Ca ∧ d = some dd ∧ H dd = some (.xd fs) ∧ fs.map (·.1) = x.fds.map (·.1) ∧ Dts C.K C.cl F (fs.map (·.2)) (x.fds.map (·.2))
def RelX (C : Cc) (σ : St) (H : Hp) (Γ : Env) (τ : Hand) (cls : Value) (d : Option Addr) (x : Exn) : Prop := ∃ F ow, Rl C σ H Γ τ F ow ∧ XOk C F H cls d x
theorem RelX.pop {C : Cc} {σ : St} {H : Hp} {Γ : Env} {τ : Hand} {cls : Value} {d : Option Addr} {x : Exn} {p : V × T} (R : RelX C σ H Γ (p :: τ) cls d x) : RelX C σ H Γ τ cls d x := let ⟨F, ow, R, q⟩ := R; ⟨F, ow, R.pop, q⟩
theorem RelX.drop {C : Cc} {σ : St} {H : Hp} {Γ : Env} {τ : Hand} {cls : Value} {d : Option Addr} {x : Exn} {υ : Hand} (R : RelX C σ H Γ (υ ++ τ) cls d x) : RelX C σ H Γ τ cls d x := by
  induction υ with
  | nil => exact R
  | cons p υ ih => exact ih R.pop

/-- what is wanted of an exception -/
abbrev wx (C : Cc) (W : WX) (σ : St) (τ : Hand) : Exn → Env → Prop := fun x Γ' => ∀ cls d H', RelX C σ H' Γ' τ cls d x → W cls d σ H'
def rd (C : Cc) (W : WX) (f : M T) : TE := fun σ H Q => ∃ Γ τ, Rel C σ H Γ τ ∧ (f Γ).Wp (fun t Γ' => ∀ v H', Rel C σ H' Γ' ((v, t) :: τ) → Q v H') (wx C W σ τ)
def rdT (C : Cc) (W : WX) (f : M Bool) : TT := fun σ H Q => ∃ Γ τ, Rel C σ H Γ τ ∧ (f Γ).Wp (fun b Γ' => ∀ H', Rel C σ H' Γ' τ → Q b H') (wx C W σ τ)
def rdA (C : Cc) (W : WX) (f : M (List T)) : TA := fun σ H Q => ∃ Γ τ, Rel C σ H Γ τ ∧ (f Γ).Wp (fun ts Γ' => ∀ vs H', vs.length = ts.length → Rel C σ H' Γ' ((vs.zip ts).reverse ++ τ) → Q vs H') (wx C W σ τ)

section
variable {X : Cx}
theorem pe_sub {e : Expr} {t t' : TE} (h : PE X e t) (m : ∀ σ H Q, t' σ H Q → t σ H Q) : PE X e t' := ⟨fun pins s σ H Q I q => h.run pins s σ H Q I (m σ H Q q)⟩
theorem pt_sub {e : Expr} {t t' : TT} (h : PT X e t) (m : ∀ σ H Q, t' σ H Q → t σ H Q) : PT X e t' := ⟨fun pins s σ H Q I q => h.run pins s σ H Q I (m σ H Q q)⟩
theorem pa_sub {e : List Expr} {t t' : TA} (h : PA X e t) (m : ∀ σ H Q, t' σ H Q → t σ H Q) : PA X e t' := ⟨fun pos pins s σ H Q I q => h.run pos pins s σ H Q I (m σ H Q q)⟩
theorem ps_sub {e : Stmt} {t t' : TS} (h : PS X e t) (m : ∀ D σ H, t' D σ H → t D σ H) : PS X e t' := ⟨fun pins s σ H D I q => h.run pins s σ H D I (m D σ H q)⟩
theorem pss_sub {e : List Stmt} {t t' : TS} (h : PSs X e t) (m : ∀ D σ H, t' D σ H → t D σ H) : PSs X e t' := ⟨fun pins s σ H D I q => h.run pins s σ H D I (m D σ H q)⟩
end

/-! ### combinators -/
def bindM {α β : Type} (f : M α) (k : α → M β) : M β := fun Γ => (f Γ).bind k
def retM {α : Type} (a : α) : M α := fun Γ => .ok a Γ
def optM {α : Type} : Option α → M α
  | some a => fun Γ => .ok a Γ
  | none => fun _ => .bad
def look (Γ : Env) : T → Option D
  | .al i => match Γ[i]? with
    | some (some t) => t.toD
    | _ => none
  | t => t.toD
/-- what is in hand, as data (no freezing) -/
def lookM (t : T) : M D := fun Γ => match look Γ t with
  | some d => .ok d Γ
  | none => .bad
/-- an alias is frozen, a new thing stays owned -/
def settle (t : T) : M T := match t with
  | .al i => fun Γ => match Γ[i]? with
    | some (some t') => match t'.toD with
      | some d => .ok (.fz d) (Γ.set i (some (.fz d)))
      | none => .bad
    | _ => .bad
  | t => fun Γ => .ok t Γ
/-- all is frozen -/
def frz (t : T) : M T := match t with
  | .al i => fun Γ => match Γ[i]? with
    | some (some t') => match t'.toD with
      | some d => .ok (.fz d) (Γ.set i (some (.fz d)))
      | none => .bad
    | _ => .bad
  | t => fun Γ => match t.toD with
    | some d => .ok (.fz d) Γ
    | none => .bad
def settled (f : M T) : M T := bindM f settle
def frozen (f : M T) : M T := bindM f frz

section
variable {C : Cc} {W : WX} {σ : St} {H H' : Hp} {Γ : Env} {τ : Hand} {v : V} {t : T} {d : D}
theorem Rel.settle {P : T → Env → Prop} {E : Exn → Env → Prop} (R : Rel C σ H Γ ((v, t) :: τ)) (h : (DL.settle t Γ).Wp P E) : ∃ t' Γ', (∀ i, t' ≠ .al i) ∧ Rel C σ H Γ' ((v, t') :: τ) ∧ P t' Γ' := by
  cases t with
  | al i =>
    unfold DL.settle at h
    cases e : Γ[i]? with
    | none => simp only [e] at h; exact h.elim
    | some o =>
      cases o with
      | none => simp only [e] at h; exact h.elim
      | some t' =>
        cases e2 : t'.toD with
        | none => simp only [e, e2] at h; exact h.elim
        | some d =>
          simp only [e, e2] at h
          have hlt : i < Γ.length := (List.getElem?_eq_some_iff.mp e).1
          exact ⟨.fz d, _, fun j z => by (cases z), (R.freezeSlot e e2).aliasFz (by rw [List.getElem?_set_self hlt]), h⟩
  | fz d => exact ⟨_, _, fun j z => by (cases z), R, h⟩
  | ol ts => exact ⟨_, _, fun j z => by (cases z), R, h⟩
  | oi c ts => exact ⟨_, _, fun j z => by (cases z), R, h⟩
theorem Rel.frz {P : T → Env → Prop} {E : Exn → Env → Prop} (R : Rel C σ H Γ ((v, t) :: τ)) (h : (DL.frz t Γ).Wp P E) : ∃ d Γ', Rel C σ H Γ' ((v, .fz d) :: τ) ∧ P (.fz d) Γ' := by
  cases t with
  | al i =>
    unfold DL.frz at h
    cases e : Γ[i]? with
    | none => simp only [e] at h; exact h.elim
    | some o =>
      cases o with
      | none => simp only [e] at h; exact h.elim
      | some t' =>
        cases e2 : t'.toD with
        | none => simp only [e, e2] at h; exact h.elim
        | some d =>
          simp only [e, e2] at h
          have hlt : i < Γ.length := (List.getElem?_eq_some_iff.mp e).1
          exact ⟨d, _, (R.freezeSlot e e2).aliasFz (by rw [List.getElem?_set_self hlt]), h⟩
  | fz d => exact ⟨d, _, R, h⟩
  | ol ts =>
    unfold DL.frz at h
    cases e2 : (T.ol ts).toD with
    | none => simp only [e2] at h; exact h.elim
    | some d =>
      simp only [e2] at h
      exact ⟨d, _, R.freezeTop (fun j z => by cases z) e2, h⟩
  | oi c ts =>
    unfold DL.frz at h
    cases e2 : (T.oi c ts).toD with
    | none => simp only [e2] at h; exact h.elim
    | some d =>
      simp only [e2] at h
      exact ⟨d, _, R.freezeTop (fun j z => by cases z) e2, h⟩
theorem Rl.look {F : Hp} {ow : Addr → Option Root} {S : Addr → Prop} (R : Rl C σ H Γ τ F ow) (h : TempOk C σ F H S v t) (e : DL.look Γ t = some d) : Dt C.K C.cl H v d := by
  cases t with
  | al i =>
    unfold DL.look at e
    cases e1 : Γ[i]? with
    | none => simp only [e1] at e; cases e
    | some o =>
      cases o with
      | none => simp only [e1] at e; cases e
      | some t' =>
        simp only [e1] at e
        obtain ⟨w, h1, h2⟩ := R.slots i t' e1
        have hv : σ[i]? = some (some v) := h.1
        rw [h1] at hv
        cases hv
        exact h2.data R.ex (fun _ _ _ q => q) e
  | fz d => exact OwT.data R.ex (fun _ _ _ q => q) h e
  | ol ts => exact OwT.data R.ex (fun _ _ _ q => q) h e
  | oi c ts => exact OwT.data R.ex (fun _ _ _ q => q) h e
theorem wp_lookM {P : D → Env → Prop} {E : Exn → Env → Prop} (h : (lookM t Γ).Wp P E) : ∃ d, DL.look Γ t = some d ∧ P d Γ := by
  unfold lookM at h
  cases e : DL.look Γ t with
  | none => simp only [e] at h; exact h.elim
  | some d => simp only [e] at h; exact ⟨d, rfl, h⟩
theorem wp_optM {α : Type} {o : Option α} {P : α → Env → Prop} {E : Exn → Env → Prop} (h : (optM o Γ).Wp P E) : ∃ a, o = some a ∧ P a Γ := by
  cases o with
  | none => exact h.elim
  | some a => exact ⟨a, rfl, h⟩
/-- the running of two readings in a row -/
theorem rd_bind {α : Type} {f : M T} {k : T → M α} {Q : VK} {P : α → Env → Prop} (R : Rel C σ H Γ τ) (h : (bindM f k Γ).Wp P (wx C W σ τ))
    (hq : ∀ t Γ' v H', Rel C σ H' Γ' ((v, t) :: τ) → (k t Γ').Wp P (wx C W σ τ) → Q v H') : rd C W f σ H Q :=
  ⟨Γ, τ, R, Out.wp_mono (Out.wp_bind h) (fun t Γ' w v H' R' => hq t Γ' v H' R' w) (fun _ _ z => z)⟩
theorem wx_pop {p : V × T} {x : Exn} {Γ' : Env} (h : wx C W σ τ x Γ') : wx C W σ (p :: τ) x Γ' := fun cls d H' R => h cls d H' R.pop
theorem wx_drop {υ : Hand} {x : Exn} {Γ' : Env} (h : wx C W σ τ x Γ') : wx C W σ (υ ++ τ) x Γ' := fun cls d H' R => h cls d H' R.drop
theorem wp_under {α : Type} {o : Out α} {p : V × T} {P : α → Env → Prop} (h : o.Wp P (wx C W σ τ)) : o.Wp P (wx C W σ (p :: τ)) := Out.wp_mono h (fun _ _ q => q) (fun _ _ q => wx_pop q)
theorem wp_underL {α : Type} {o : Out α} {υ : Hand} {P : α → Env → Prop} (h : o.Wp P (wx C W σ τ)) : o.Wp P (wx C W σ (υ ++ τ)) := Out.wp_mono h (fun _ _ q => q) (fun _ _ q => wx_drop q)
/-- a value of no heap's in hand -/
theorem Rel.scal (R : Rel C σ H Γ τ) (h : Dt C.K C.cl emp v d) : Rel C σ H Γ ((v, .fz d) :: τ) := by
  obtain ⟨F, ow, R⟩ := R
  exact ⟨F, ow, R.push (h.mono (sub_emp F))⟩
end

/-! ### constants and names -/
def constM (d : D) : M T := fun Γ => .ok (.fz d) Γ
def varM (i : Nat) : M T := fun Γ => match Γ[i]? with
  | some (some (.fz d)) => .ok (.fz d) Γ
  | some (some _) => .ok (.al i) Γ
  | _ => .bad
section
variable {X : Cx} {C : Cc} {W : WX}
theorem de_scal {e : Expr} {v : V} {d : D} (h : PE X e (tC v)) (hd : Dt C.K C.cl emp v d) : PE X e (rd C W (constM d)) :=
  pe_sub h fun σ H Q ⟨Γ, τ, R, w⟩ => w v H (R.scal hd)
theorem de_int {i j pos} : PE X (.Constant (.int i) j pos) (rd C W (constM (.int i))) := de_scal pe_int (.int i)
theorem de_bl {b j pos} : PE X (.Constant (.bool b) j pos) (rd C W (constM (.bl b))) := de_scal pe_bl (.bl b)
theorem de_non {j pos} : PE X (.Constant .none j pos) (rd C W (constM .non)) := de_scal pe_non .non
theorem de_str {x j pos} : PE X (.Constant (.str x) j pos) (rd C W (constM (.str x))) := de_scal pe_str (.str x)
theorem de_tvar {e : Expr} {i : Nat} (hcv : C.cv i = false) (h : PE X e (tVar i)) : PE X e (rd C W (varM i)) := pe_sub h fun σ H Q ⟨Γ, τ, R, w⟩ => by
  obtain ⟨F, ow, R⟩ := R
  unfold varM at w
  cases e : Γ[i]? with
  | none => simp only [e] at w; exact w.elim
  | some o =>
    cases o with
    | none => simp only [e] at w; exact w.elim
    | some t =>
      obtain ⟨v, h1, h2⟩ := R.slots i t e
      refine ⟨v, h1, ?_⟩
      cases t with
      | fz d =>
        simp only [e] at w
        cases h2 with
        | fz h2 => exact w v H ⟨F, ow, R.push h2⟩
      | ol ts =>
        simp only [e] at w
        exact w v H ⟨F, ow, R.ex, R.old, R.new, R.frame, R.ownF, R.ownH, R.ownN, R.slots, ⟨⟨h1, hcv⟩, R.temps⟩, R.pins, R.len⟩
      | oi c ts =>
        simp only [e] at w
        exact w v H ⟨F, ow, R.ex, R.old, R.new, R.frame, R.ownF, R.ownH, R.ownN, R.slots, ⟨⟨h1, hcv⟩, R.temps⟩, R.pins, R.len⟩
      | al k => cases h2
theorem de_var (i : Nat) {x : Str} {pos : Pos} (hcv : C.cv i = false) (hN : X.N[i]? = some x := by rfl) (hv : Vis X.env.scope x := by first | exact Or.inl rfl | exact Or.inr (Or.inl rfl) | exact Or.inr (Or.inr rfl)) (hd : (x == ("__debug__" : Str)) = false := by decide)
    (hcd : (x == ("__classdict__" : Str)) = false := by decide) : PE X (.Name x pos) (rd C W (varM i)) := de_tvar hcv (pe_var hN hv hd hcd)
/-- a name that holds data alone (a comprehension's own) -/
def varF (i : Nat) : M T := fun Γ => match Γ[i]? with
  | some (some (.fz d)) => .ok (.fz d) Γ
  | _ => .bad
theorem de_varF (i : Nat) {x : Str} {pos : Pos} (hN : X.N[i]? = some x := by rfl) (hv : Vis X.env.scope x := by first | exact Or.inl rfl | exact Or.inr (Or.inl rfl) | exact Or.inr (Or.inr rfl)) (hd : (x == ("__debug__" : Str)) = false := by decide)
    (hcd : (x == ("__classdict__" : Str)) = false := by decide) : PE X (.Name x pos) (rd C W (varF i)) := pe_sub (pe_var hN hv hd hcd) fun σ H Q ⟨Γ, τ, R, w⟩ => by
  obtain ⟨F, ow, R⟩ := R
  unfold varF at w
  split at w
  · rename_i d e
    obtain ⟨v, h1, h2⟩ := R.slots i _ e
    cases h2 with
    | fz h2 => exact ⟨v, h1, w v H ⟨F, ow, R.push h2⟩⟩
  · exact w.elim
theorem de_glob {x : Str} {v : V} {u : Value} {d : D} {pos : Pos} (hg : Gl X x) (hm : X.mg x = some u) (r : RelV v u) (hd : Dt C.K C.cl emp v d) (hb : (x == ("__debug__" : Str)) = false := by decide) : PE X (.Name x pos) (rd C W (constM d)) := de_scal (pe_glob hg hm r hb) hd

/-! ### operators whose value is of no heap's -/
def op2 (f : D → D → Option D) (a b : M T) : M T := bindM a fun t1 => bindM b fun t2 => bindM (lookM t1) fun d1 => bindM (lookM t2) fun d2 => bindM (optM (f d1 d2)) fun d => retM (.fz d)
def op1 (f : D → Option D) (a : M T) : M T := bindM a fun t1 => bindM (lookM t1) fun d1 => bindM (optM (f d1)) fun d => retM (.fz d)
def Sc2 (K : PySem.W.Frag) (cl : Str → Option Addr) (r : R2) (f : D → D → Option D) : Prop := ∀ H v1 v2 d1 d2 d (Q : VK), Dt K cl H v1 d1 → Dt K cl H v2 d2 → f d1 d2 = some d → (∀ v, Dt K cl emp v d → Q v H) → r v1 v2 H Q
def Sc1 (K : PySem.W.Frag) (cl : Str → Option Addr) (r : V → Hp → VK → Prop) (f : D → Option D) : Prop := ∀ H v1 d1 d (Q : VK), Dt K cl H v1 d1 → f d1 = some d → (∀ v, Dt K cl emp v d → Q v H) → r v1 H Q
theorem de_rop {e : Expr} {r : R2} {f : D → D → Option D} {fa fb : M T} (h : PE X e (tOp r (rd C W fa) (rd C W fb))) (s : Sc2 C.K C.cl r f) : PE X e (rd C W (op2 f fa fb)) := pe_sub h fun σ H Q ⟨Γ, τ, R, w⟩ => by
  refine rd_bind R w fun t1 Γ1 v1 H1 R1 w1 => ?_
  refine rd_bind R1 (wp_under w1) fun t2 Γ2 v2 H2 R2 w2 => ?_
  obtain ⟨d1, e1, w3⟩ := wp_lookM (Out.wp_bind w2)
  obtain ⟨d2, e2, w4⟩ := wp_lookM (Out.wp_bind w3)
  obtain ⟨d, e3, w5⟩ := wp_optM (Out.wp_bind w4)
  obtain ⟨F, ow, R2⟩ := R2
  exact s H2 v1 v2 d1 d2 d Q (R2.look R2.temps.2.1 e1) (R2.look R2.temps.1 e2) e3 fun v hv => w5 v H2 (Rel.scal ⟨F, ow, R2.pop.pop⟩ hv)
theorem de_op {op : Operator} {r : R2} {f : D → D → Option D} {fa fb : M T} {a b : Expr} {pos : Pos} (ho : OpR X (binaryOp op) r) (s : Sc2 C.K C.cl r f) (ha : PE X a (rd C W fa)) (hb : PE X b (rd C W fb)) : PE X (.BinOp a op b pos) (rd C W (op2 f fa fb)) := de_rop (pe_op ho ha hb) s
theorem de_cmp {op : CmpOp} {r : R2} {f : D → D → Option D} {fa fb : M T} {a b : Expr} {pos : Pos} (ho : OpR X (compareOp op) r) (s : Sc2 C.K C.cl r f) (ha : PE X a (rd C W fa)) (hb : PE X b (rd C W fb)) (hm : behindInMarks op b = false) : PE X (.Compare a [op] [b] pos) (rd C W (op2 f fa fb)) := de_rop (pe_cmpR ho ha hb hm) s
theorem de_un {op : UnaryOp} {r : V → Hp → VK → Prop} {f : D → Option D} {fa : M T} {a : Expr} {pos : Pos} (ho : UnR X (unaryOp op) r) (s : Sc1 C.K C.cl r f) (ha : PE X a (rd C W fa)) : PE X (.UnaryOp op a pos) (rd C W (op1 f fa)) := pe_sub (pe_un ho ha) fun σ H Q ⟨Γ, τ, R, w⟩ => by
  refine rd_bind R w fun t1 Γ1 v1 H1 R1 w1 => ?_
  obtain ⟨d1, e1, w3⟩ := wp_lookM (Out.wp_bind w1)
  obtain ⟨d, e3, w5⟩ := wp_optM (Out.wp_bind w3)
  obtain ⟨F, ow, R1⟩ := R1
  exact s H1 v1 d1 d Q (R1.look R1.temps.1 e1) e3 fun v hv => w5 v H1 (Rel.scal ⟨F, ow, R1.pop⟩ hv)
end

/-! ### the operators -/
def addD : D → D → Option D
  | .int i, .int j => some (.int (i + j))
  | _, _ => none
def subD : D → D → Option D
  | .int i, .int j => some (.int (i - j))
  | _, _ => none
def small64 (i : Int) : Bool := decide (-(2 ^ 64) < i) && decide (i < 2 ^ 64)
def mulD : D → D → Option D
  | .int i, .int j => if small64 i || small64 j then some (.int (i * j)) else none
  | _, _ => none
def modD : D → D → Option D
  | .int i, .int j => if 0 < j then some (.int (i % j)) else none
  | _, _ => none
def divD : D → D → Option D
  | .int i, .int j => if 0 < j ∧ j < 1073741824 then some (.int (i / j)) else none
  | _, _ => none
def powD : D → D → Option D
  | .int i, .int j => if 0 ≤ j ∧ j ≤ 1000000 ∧ i.natAbs < 2 ^ 64 then some (.int (i ^ j.toNat)) else none
  | _, _ => none
def negD : D → Option D
  | .int i => some (.int (-i))
  | _ => none
def ltD : D → D → Option D
  | .int i, .int j => some (.bl (decide (i < j)))
  | _, _ => none
def leD : D → D → Option D
  | .int i, .int j => some (.bl (decide (i ≤ j)))
  | _, _ => none
def gtD : D → D → Option D
  | .int i, .int j => some (.bl (decide (j < i)))
  | _, _ => none
def geD : D → D → Option D
  | .int i, .int j => some (.bl (decide (j ≤ i)))
  | _, _ => none
def D.isNon : D → Bool
  | .non => true
  | _ => false
def isNonD : D → D → Option D
  | d, .non => some (.bl d.isNon)
  | _, _ => none
def notNonD : D → D → Option D
  | d, .non => some (.bl (!d.isNon))
  | _, _ => none
section
variable {K : PySem.W.Frag} {cl : Str → Option Addr}
/-- what two whole numbers give -/
theorem sc_int {g : Int → Int → V} {C : Int → Int → Prop} {f : D → D → Option D} (hf : ∀ d1 d2 d, f d1 d2 = some d → ∃ i j, d1 = .int i ∧ d2 = .int j ∧ C i j ∧ Dt K cl emp (g i j) d) : Sc2 K cl (rI C g) f := by
  intro H v1 v2 d1 d2 d Q h1 h2 e q
  obtain ⟨i, j, rfl, rfl, c, z⟩ := hf d1 d2 d e
  cases h1
  cases h2
  exact ⟨i, j, rfl, rfl, c, q _ z⟩
theorem sc_int0 {g : Int → Int → V} {f : D → D → Option D} (hf : ∀ d1 d2 d, f d1 d2 = some d → ∃ i j, d1 = .int i ∧ d2 = .int j ∧ Dt K cl emp (g i j) d) : Sc2 K cl (rI0 g) f := by
  intro H v1 v2 d1 d2 d Q h1 h2 e q
  obtain ⟨i, j, rfl, rfl, z⟩ := hf d1 d2 d e
  cases h1
  cases h2
  exact ⟨i, j, rfl, rfl, q _ z⟩
theorem sc_add : Sc2 K cl (rI0 fun i j => .int (i + j)) addD := sc_int0 fun d1 d2 d e => by
  unfold addD at e
  split at e <;> cases e
  exact ⟨_, _, rfl, rfl, .int _⟩
theorem sc_sub : Sc2 K cl (rI0 fun i j => .int (i - j)) subD := sc_int0 fun d1 d2 d e => by
  unfold subD at e
  split at e <;> cases e
  exact ⟨_, _, rfl, rfl, .int _⟩
theorem sc_mul : Sc2 K cl (rI CMul fun i j => .int (i * j)) mulD := sc_int fun d1 d2 d e => by
  unfold mulD at e
  split at e
  · split at e <;> cases e
    rename_i i j h
    refine ⟨_, _, rfl, rfl, ?_, .int _⟩
    simp only [small64, Bool.or_eq_true, Bool.and_eq_true, decide_eq_true_eq] at h
    exact h
  · cases e
theorem sc_mod : Sc2 K cl (rI (fun _ j => 0 < j) fun i j => .int (i % j)) modD := sc_int fun d1 d2 d e => by
  unfold modD at e
  split at e
  · split at e <;> cases e
    rename_i h
    exact ⟨_, _, rfl, rfl, h, .int _⟩
  · cases e
theorem sc_div : Sc2 K cl (rI CDiv fun i j => .int (i / j)) divD := sc_int fun d1 d2 d e => by
  unfold divD at e
  split at e
  · split at e <;> cases e
    rename_i h
    exact ⟨_, _, rfl, rfl, h, .int _⟩
  · cases e
theorem sc_pow : Sc2 K cl (rI CPow fun i j => .int (i ^ j.toNat)) powD := sc_int fun d1 d2 d e => by
  unfold powD at e
  split at e
  · split at e <;> cases e
    rename_i h
    exact ⟨_, _, rfl, rfl, h, .int _⟩
  · cases e
theorem sc_lt : Sc2 K cl (rI0 fun i j => .bl (decide (i < j))) ltD := sc_int0 fun d1 d2 d e => by
  unfold ltD at e
  split at e <;> cases e
  exact ⟨_, _, rfl, rfl, .bl _⟩
theorem sc_le : Sc2 K cl (rI0 fun i j => .bl (decide (i ≤ j))) leD := sc_int0 fun d1 d2 d e => by
  unfold leD at e
  split at e <;> cases e
  exact ⟨_, _, rfl, rfl, .bl _⟩
theorem sc_gt : Sc2 K cl (rI0 fun i j => .bl (decide (j < i))) gtD := sc_int0 fun d1 d2 d e => by
  unfold gtD at e
  split at e <;> cases e
  exact ⟨_, _, rfl, rfl, .bl _⟩
theorem sc_ge : Sc2 K cl (rI0 fun i j => .bl (decide (j ≤ i))) geD := sc_int0 fun d1 d2 d e => by
  unfold geD at e
  split at e <;> cases e
  exact ⟨_, _, rfl, rfl, .bl _⟩
theorem sc_neg : Sc1 K cl (rU fun i => .int (-i)) negD := by
  intro H v1 d1 d Q h1 e q
  unfold negD at e
  split at e <;> cases e
  cases h1
  exact ⟨_, rfl, q _ (.int _)⟩
theorem Dt.nonIff {F : Hp} {v : V} {d : D} (h : Dt K cl F v d) : decide (v = .non) = d.isNon := by
  cases h <;> rfl
theorem sc_isN : Sc2 K cl (fun x y H Q => y = .non ∧ Q (.bl (decide (x = .non))) H) isNonD := by
  intro H v1 v2 d1 d2 d Q h1 h2 e q
  unfold isNonD at e
  split at e <;> cases e
  cases h2
  refine ⟨rfl, ?_⟩
  rw [h1.nonIff]
  exact q _ (.bl _)
theorem sc_notN : Sc2 K cl (fun x y H Q => y = .non ∧ Q (.bl (!decide (x = .non))) H) notNonD := by
  intro H v1 v2 d1 d2 d Q h1 h2 e q
  unfold notNonD at e
  split at e <;> cases e
  cases h2
  refine ⟨rfl, ?_⟩
  rw [h1.nonIff]
  exact q _ (.bl _)
end
end DL
/-! tests, equality, sequences, calls of built-ins -/
namespace DL
open PySem L2

/-! ### tests -/
def D.toB : D → Option Bool
  | .bl b => some b
  | _ => none
def boolM (f : M T) : M Bool := bindM f fun t => bindM (lookM t) fun d => optM d.toB
def andM (f g : M Bool) : M Bool := bindM f fun b => if b then g else retM false
def orM (f g : M Bool) : M Bool := bindM f fun b => if b then retM true else g
def notM (f : M Bool) : M Bool := bindM f fun b => retM (!b)
def ofB (f : M Bool) : M T := bindM f fun b => retM (.fz (.bl b))
def ifM {α : Type} (c : M Bool) (f g : M α) : M α := bindM c fun b => if b then f else g
section
variable {X : Cx} {C : Cc} {W : WX}
theorem rdT_bool {f : M T} {σ : St} {H : Hp} {Q : Bool → Hp → Prop} (h : rdT C W (boolM f) σ H Q) : rd C W f σ H fun x H1 => ∃ c, x = .bl c ∧ Q c H1 := by
  obtain ⟨Γ, τ, R, w⟩ := h
  refine rd_bind R w fun t Γ1 v H1 R1 w1 => ?_
  obtain ⟨d, e1, w2⟩ := wp_lookM (Out.wp_bind w1)
  obtain ⟨b, e2, w3⟩ := wp_optM w2
  obtain ⟨F, ow, R1⟩ := R1
  have hd := R1.look R1.temps.1 e1
  cases d with
  | bl b' =>
    cases e2
    cases hd
    exact ⟨_, rfl, w3 H1 ⟨F, ow, R1.pop⟩⟩
  | _ => cases e2
theorem dt_val {e : Expr} {f : M T} (h : PE X e (rd C W f)) (he : ∀ whole, isTrue e X.env whole = (do let v ← whole; standAt e.pos; holding [v] (truthy v)) := by intro _; rfl) : PT X e (rdT C W (boolM f)) :=
  pt_sub (pt_val h he) fun σ H Q q => rdT_bool q
theorem dt_cmp {op : CmpOp} {r : R2} {f : D → D → Option D} {fa fb : M T} {a b : Expr} {pos : Pos} (ho : OpR X (compareOp op) r) (s : Sc2 C.K C.cl r f) (ha : PE X a (rd C W fa)) (hb : PE X b (rd C W fb)) (hm : behindInMarks op b = false) : PT X (.Compare a [op] [b] pos) (rdT C W (boolM (op2 f fa fb))) :=
  pt_sub (pt_cmpR ho ha hb hm) fun σ H Q q => by
    obtain ⟨Γ, τ, R, w⟩ := rdT_bool q
    refine rd_bind R w fun t1 Γ1 v1 H1 R1 w1 => ?_
    refine rd_bind R1 (wp_under w1) fun t2 Γ2 v2 H2 R2 w2 => ?_
    obtain ⟨d1, e1, w3⟩ := wp_lookM (Out.wp_bind w2)
    obtain ⟨d2, e2, w4⟩ := wp_lookM (Out.wp_bind w3)
    obtain ⟨d, e3, w5⟩ := wp_optM (Out.wp_bind w4)
    obtain ⟨F, ow, R2⟩ := R2
    exact s H2 v1 v2 d1 d2 d _ (R2.look R2.temps.2.1 e1) (R2.look R2.temps.1 e2) e3 fun v hv => w5 v H2 (Rel.scal ⟨F, ow, R2.pop.pop⟩ hv)
theorem rdT_bind {α : Type} {f : M Bool} {k : Bool → M α} {σ : St} {H : Hp} {Γ : Env} {τ : Hand} {Q : Bool → Hp → Prop} {P : α → Env → Prop} (R : Rel C σ H Γ τ) (h : (bindM f k Γ).Wp P (wx C W σ τ))
    (hq : ∀ b Γ' H', Rel C σ H' Γ' τ → (k b Γ').Wp P (wx C W σ τ) → Q b H') : rdT C W f σ H Q :=
  ⟨Γ, τ, R, Out.wp_mono (Out.wp_bind h) (fun b Γ' w H' R' => hq b Γ' H' R' w) (fun _ _ z => z)⟩
theorem rdT_and {f g : M Bool} {σ : St} {H : Hp} {Q : Bool → Hp → Prop} (h : rdT C W (andM f g) σ H Q) : tAnd (rdT C W f) (rdT C W g) σ H Q := by
  obtain ⟨Γ, τ, R, w⟩ := h
  refine rdT_bind R w fun b Γ1 H1 R1 w1 => ?_
  cases b with
  | true => exact ⟨Γ1, τ, R1, w1⟩
  | false => exact w1 H1 R1
theorem rdT_or {f g : M Bool} {σ : St} {H : Hp} {Q : Bool → Hp → Prop} (h : rdT C W (orM f g) σ H Q) : tOr (rdT C W f) (rdT C W g) σ H Q := by
  obtain ⟨Γ, τ, R, w⟩ := h
  refine rdT_bind R w fun b Γ1 H1 R1 w1 => ?_
  cases b with
  | true => exact w1 H1 R1
  | false => exact ⟨Γ1, τ, R1, w1⟩
theorem pw_sub {e : Expr} {t t' : TT} (h : PW X e t) (m : ∀ σ H Q, t' σ H Q → t σ H Q) : PW X e t' := ⟨fun wh pins s σ H Q I q => h.run wh pins s σ H Q I (m σ H Q q)⟩
theorem dw_and1 {a : Expr} {f : M Bool} {pos : Pos} (ha : PT X a (rdT C W f)) : PW X (.BoolOp .And [a] pos) (rdT C W f) := pw_and1 ha
theorem dw_or1 {a : Expr} {f : M Bool} {pos : Pos} (ha : PT X a (rdT C W f)) : PW X (.BoolOp .Or [a] pos) (rdT C W f) := pw_or1 ha
theorem dw_and {a b : Expr} {rest : List Expr} {f g : M Bool} {pos : Pos} (ha : PT X a (rdT C W f)) (hb : PW X (.BoolOp .And (b :: rest) pos) (rdT C W g)) : PW X (.BoolOp .And (a :: b :: rest) pos) (rdT C W (andM f g)) := pw_sub (pw_and ha hb) fun σ H Q q => rdT_and q
theorem dw_or {a b : Expr} {rest : List Expr} {f g : M Bool} {pos : Pos} (ha : PT X a (rdT C W f)) (hb : PW X (.BoolOp .Or (b :: rest) pos) (rdT C W g)) : PW X (.BoolOp .Or (a :: b :: rest) pos) (rdT C W (orM f g)) := pw_sub (pw_or ha hb) fun σ H Q q => rdT_or q
theorem dt_not {a : Expr} {f : M Bool} {pos : Pos} (ha : PT X a (rdT C W f)) : PT X (.UnaryOp .Not a pos) (rdT C W (notM f)) := pt_sub (pt_not ha) fun σ H Q ⟨Γ, τ, R, w⟩ => rdT_bind R w fun b Γ1 H1 R1 w1 => w1 H1 R1
/-- as values, bools alone -/
def andV (f g : M T) : M T := bindM (boolM f) fun b => if b then bindM g settle else retM (.fz (.bl false))
def orV (f g : M T) : M T := bindM (boolM f) fun b => if b then retM (.fz (.bl true)) else bindM g settle
def notV (f : M T) : M T := bindM (boolM f) fun b => retM (.fz (.bl (!b)))
theorem rd_settle {f : M T} {σ : St} {H : Hp} {Γ : Env} {τ : Hand} {Q : VK} (R : Rel C σ H Γ τ) (h : (bindM f settle Γ).Wp (fun t Γ' => ∀ v H', Rel C σ H' Γ' ((v, t) :: τ) → Q v H') (wx C W σ τ)) : rd C W f σ H Q :=
  rd_bind R h fun t Γ1 v H1 R1 w1 => by
    obtain ⟨t', Γ2, _, R2, w2⟩ := R1.settle w1
    exact w2 v H1 R2
theorem boolM_bind {α : Type} {f : M T} {k : Bool → M α} {σ : St} {H : Hp} {Γ : Env} {τ : Hand} {Q : VK} {P : α → Env → Prop} (R : Rel C σ H Γ τ) (h : (bindM (boolM f) k Γ).Wp P (wx C W σ τ))
    (hq : ∀ b Γ' H', Rel C σ H' Γ' τ → (k b Γ').Wp P (wx C W σ τ) → Q (.bl b) H') : rd C W f σ H Q := by
  have z : rdT C W (boolM f) σ H (fun b H' => Q (.bl b) H') := rdT_bind R h hq
  obtain ⟨Γ', τ', R', w'⟩ := rdT_bool z
  exact ⟨Γ', τ', R', Out.wp_mono w' (fun t Γ'' q v H' R'' => by
    obtain ⟨c, e, q⟩ := q v H' R''
    rw [e]
    exact q) fun _ _ q => q⟩
theorem de_one {a : Expr} {op} {f : M T} {pos : Pos} (h : PE X a (rd C W f)) : PE X (.BoolOp op [a] pos) (rd C W f) := pe_one h
theorem de_and {a b : Expr} {rest : List Expr} {f g : M T} {pos : Pos} (ha : PE X a (rd C W f)) (hb : PE X (.BoolOp .And (b :: rest) pos) (rd C W g)) : PE X (.BoolOp .And (a :: b :: rest) pos) (rd C W (andV f g)) :=
  pe_sub (pe_and ha hb) fun σ H Q ⟨Γ, τ, R, w⟩ => by
    refine boolM_bind R w fun b Γ1 H1 R1 w1 => ⟨b, rfl, ?_⟩
    cases b with
    | true => exact rd_settle R1 w1
    | false => exact w1 _ H1 (R1.scal (.bl false))
theorem de_or {a b : Expr} {rest : List Expr} {f g : M T} {pos : Pos} (ha : PE X a (rd C W f)) (hb : PE X (.BoolOp .Or (b :: rest) pos) (rd C W g)) : PE X (.BoolOp .Or (a :: b :: rest) pos) (rd C W (orV f g)) :=
  pe_sub (pe_or ha hb) fun σ H Q ⟨Γ, τ, R, w⟩ => by
    refine boolM_bind R w fun b Γ1 H1 R1 w1 => ⟨b, rfl, ?_⟩
    cases b with
    | true => exact w1 _ H1 (R1.scal (.bl true))
    | false => exact rd_settle R1 w1
theorem de_not {a : Expr} {f : M T} {pos : Pos} (ha : PE X a (rd C W f)) : PE X (.UnaryOp .Not a pos) (rd C W (notV f)) :=
  pe_sub (pe_not ha) fun σ H Q ⟨Γ, τ, R, w⟩ => by
    refine boolM_bind R w fun b Γ1 H1 R1 w1 => ⟨b, rfl, ?_⟩
    exact w1 _ H1 (R1.scal (.bl _))
theorem de_if {c a b : Expr} {fc : M Bool} {fa fb : M T} {pos : Pos} (hc : PT X c (rdT C W fc)) (ha : PE X a (rd C W fa)) (hb : PE X b (rd C W fb)) : PE X (.IfExp c a b pos) (rd C W (ifM fc fa fb)) :=
  pe_sub (pe_ifExp hc ha hb) fun σ H Q ⟨Γ, τ, R, w⟩ => by
    refine rdT_bind R w fun b Γ1 H1 R1 w1 => ?_
    cases b with
    | true => exact ⟨Γ1, τ, R1, w1⟩
    | false => exact ⟨Γ1, τ, R1, w1⟩
end

/-! ### equality of data -/
mutual
def D.eqb : D → D → Bool
  | .non, .non => true
  | .bl a, .bl b => a == b
  | .bl a, .int j => (if a then 1 else 0) == j
  | .int i, .bl b => i == (if b then 1 else 0)
  | .int i, .int j => i == j
  | .str x, .str y => x == y
  | .lst xs, .lst ys => D.eqbs xs ys
  | .tup xs, .tup ys => D.eqbs xs ys
  | _, _ => false
def D.eqbs : List D → List D → Bool
  | [], [] => true
  | x :: xs, y :: ys => D.eqb x y && D.eqbs xs ys
  | _, _ => false
end
mutual
/-- plain data, so deep at the most -/
def D.fit : Nat → D → Bool
  | _, .non => true
  | _, .bl _ => true
  | _, .int _ => true
  | _, .str x => PyData.strOk x
  | n + 1, .lst xs => D.fits n xs
  | n + 1, .tup xs => D.fits n xs
  | _, _ => false
def D.fits : Nat → List D → Bool
  | _, [] => true
  | n, x :: xs => D.fit n x && D.fits n xs
end
mutual
def D.py : D → PyData
  | .non => .none
  | .bl b => .bool b
  | .int i => .int i
  | .str x => .str x
  | .lst xs => .list (D.pys xs)
  | .tup xs => .tuple (D.pys xs)
  | _ => .none
def D.pys : List D → List PyData
  | [] => []
  | x :: xs => D.py x :: D.pys xs
end
mutual
theorem D.eqb_py : ∀ (n m : Nat) (a b : D), a.fit n = true → b.fit m = true → a.eqb b = PyData.eqv a.py b.py
  | n, m, a, b, h1, h2 => by
    cases a with
    | non => cases b <;> first | rfl | (cases m <;> cases h2)
    | bl x => cases b <;> first | rfl | (cases m <;> cases h2)
    | int x => cases b <;> first | rfl | (cases m <;> cases h2)
    | str x => cases b <;> first | rfl | (cases m <;> cases h2)
    | lst xs =>
      cases n with
      | zero => cases h1
      | succ n =>
        cases b with
        | lst ys =>
          cases m with
          | zero => cases h2
          | succ m => exact D.eqbs_py n m xs ys h1 h2
        | _ => first | rfl | (cases m <;> cases h2)
    | tup xs =>
      cases n with
      | zero => cases h1
      | succ n =>
        cases b with
        | tup ys =>
          cases m with
          | zero => cases h2
          | succ m => exact D.eqbs_py n m xs ys h1 h2
        | _ => first | rfl | (cases m <;> cases h2)
    | _ => cases n <;> cases h1
theorem D.eqbs_py : ∀ (n m : Nat) (xs ys : List D), D.fits n xs = true → D.fits m ys = true → D.eqbs xs ys = PyData.eqvAll (D.pys xs) (D.pys ys)
  | n, m, [], [], _, _ => rfl
  | n, m, [], y :: ys, _, _ => rfl
  | n, m, x :: xs, [], _, _ => rfl
  | n, m, x :: xs, y :: ys, h1, h2 => by
    unfold D.fits at h1 h2
    rw [Bool.and_eq_true] at h1 h2
    unfold D.eqbs
    rw [D.eqb_py n m x y h1.1 h2.1, D.eqbs_py n m xs ys h1.2 h2.2]
    rfl
end
mutual
theorem D.fit_lay : ∀ (n : Nat) (a : D), a.fit n = true → a.py.canLay0 = true ∧ a.py.depth ≤ n
  | n, a, h => by
    cases a with
    | non => exact ⟨rfl, Nat.zero_le _⟩
    | bl x => exact ⟨rfl, Nat.zero_le _⟩
    | int x => exact ⟨rfl, Nat.zero_le _⟩
    | str x =>
      have h' : PyData.strOk x = true := by
        unfold D.fit at h
        exact h
      exact ⟨h', Nat.zero_le _⟩
    | lst xs =>
      cases n with
      | zero => cases h
      | succ n =>
        obtain ⟨h1, h2⟩ := D.fits_lay n xs h
        exact ⟨h1, Nat.succ_le_succ h2⟩
    | tup xs =>
      cases n with
      | zero => cases h
      | succ n =>
        obtain ⟨h1, h2⟩ := D.fits_lay n xs h
        exact ⟨h1, Nat.succ_le_succ h2⟩
    | _ => cases n <;> cases h
theorem D.fits_lay : ∀ (n : Nat) (xs : List D), D.fits n xs = true → PyData.canLayAll0 (D.pys xs) = true ∧ PyData.depthAll (D.pys xs) ≤ n
  | n, [], _ => ⟨rfl, Nat.zero_le _⟩
  | n, x :: xs, h => by
    unfold D.fits at h
    rw [Bool.and_eq_true] at h
    obtain ⟨a1, a2⟩ := D.fit_lay n x h.1
    obtain ⟨b1, b2⟩ := D.fits_lay n xs h.2
    refine ⟨?_, Nat.max_le.mpr ⟨a2, b2⟩⟩
    show (x.py.canLay0 && PyData.canLayAll0 (D.pys xs)) = true
    rw [a1, b1]
    rfl
end
section
variable {K : PySem.W.Frag} {cl : Str → Option Addr} {H : Hp}
mutual
theorem Dt.dp : ∀ {n : Nat} {v : V} {d : D}, Dt K cl H v d → d.fit n = true → Dp K H v d.py
  | _, _, _, .non, _ => .non
  | _, _, _, .bl b, _ => .bl b
  | _, _, _, .int i, _ => .int i
  | _, _, _, .str s, _ => .str s
  | n, _, _, .lst h hl hs, f => by
    cases n with
    | zero => cases f
    | succ n => exact .lst (SqL.of h) (Dts.dp hs f)
  | n, _, _, .tup h hl hs, f => by
    cases n with
    | zero => cases f
    | succ n => exact .tup h (Dts.dp hs f)
  | n, _, _, .scr h hl, f => by cases n <;> cases f
  | n, _, _, .dK h _ hs, f => by cases n <;> cases f
  | n, _, _, .dT h _ hs, f => by cases n <;> cases f
  | n, _, _, .ins h _ _ hs, f => by cases n <;> cases f
theorem Dts.dp : ∀ {n : Nat} {vs : List V} {ds : List D}, Dts K cl H vs ds → D.fits n ds = true → DpAll K H vs (D.pys ds)
  | _, _, _, .nil, _ => .nil
  | n, _, _, .cons h hs, f => by
    unfold D.fits at f
    rw [Bool.and_eq_true] at f
    exact .cons (Dt.dp h f.1) (Dts.dp hs f.2)
end
theorem D.shaped {d : D} (h : d.fit 64 = true) : SeqAt.shaped d.py = true := by
  obtain ⟨h1, h2⟩ := D.fit_lay 64 d h
  unfold SeqAt.shaped
  rw [h1, decide_eq_true h2]
  rfl
def eqD (a b : D) : Option D := if a.fit 64 && b.fit 64 then some (.bl (a.eqb b)) else none
def neD (a b : D) : Option D := if a.fit 64 && b.fit 64 then some (.bl (!a.eqb b)) else none
theorem sc_eq : Sc2 K cl (rEqD K) eqD := by
  intro H v1 v2 d1 d2 d Q h1 h2 e q
  unfold eqD at e
  split at e <;> cases e
  rename_i h
  rw [Bool.and_eq_true] at h
  refine ⟨_, _, h1.dp h.1, h2.dp h.2, D.shaped h.1, D.shaped h.2, ?_⟩
  rw [← D.eqb_py 64 64 d1 d2 h.1 h.2]
  exact q _ (.bl _)
theorem sc_ne : Sc2 K cl (rNeD K) neD := by
  intro H v1 v2 d1 d2 d Q h1 h2 e q
  unfold neD at e
  split at e <;> cases e
  rename_i h
  rw [Bool.and_eq_true] at h
  refine ⟨_, _, h1.dp h.1, h2.dp h.2, D.shaped h.1, D.shaped h.2, ?_⟩
  rw [← D.eqb_py 64 64 d1 d2 h.1 h.2]
  exact q _ (.bl _)
end

/-! ### sequences in hand -/
def T.fzs : List T → Option (List D)
  | [] => some []
  | .fz d :: ts => (T.fzs ts).map (d :: ·)
  | _ :: _ => none
theorem T.fzs_eq : ∀ {ts : List T} {ds : List D}, T.fzs ts = some ds → ts = ds.map T.fz
  | [], ds, h => by
    simp [T.fzs] at h
    subst h
    rfl
  | .fz d :: ts, ds, h => by
    unfold T.fzs at h
    cases e : T.fzs ts with
    | none => rw [e] at h; cases h
    | some es =>
      rw [e] at h
      cases h
      rw [T.fzs_eq e]
      rfl
  | .ol _ :: _, _, h => by cases h
  | .oi _ _ :: _, _, h => by cases h
  | .al _ :: _, _, h => by cases h
inductive Sq where
  | l (ds : List D) | t (ds : List D) | s (ns : List Int)
def Sq.ds : Sq → List D
  | .l ds => ds
  | .t ds => ds
  | .s ns => ns.map D.int
def T.sq : T → Option Sq
  | .fz (.lst ds) => some (.l ds)
  | .fz (.tup ds) => some (.t ds)
  | .fz (.scr ns) => some (.s ns)
  | .ol ts => (T.fzs ts).map Sq.l
  | _ => none
def sqOf (Γ : Env) : T → Option Sq
  | .al i => match Γ[i]? with
    | some (some t) => t.sq
    | _ => none
  | t => t.sq
def sqM (t : T) : M Sq := fun Γ => match sqOf Γ t with
  | some q => .ok q Γ
  | none => .bad
/-- what stands at the address -/
def SqOk (C : Cc) (F H : Hp) (a : Addr) (vs : List V) : Sq → Prop
  | .l _ => H a = some (.lst vs)
  | .t _ => SqT C.K F a vs
  | .s _ => SqL C.K H a vs
section
variable {C : Cc} {W : WX} {σ : St} {H H' F : Hp} {Γ : Env} {τ : Hand} {v : V} {t : T} {q : Sq} {ow : Addr → Option Root}
theorem wp_sqM {P : Sq → Env → Prop} {E : Exn → Env → Prop} (h : (sqM t Γ).Wp P E) : ∃ q, sqOf Γ t = some q ∧ P q Γ := by
  unfold sqM at h
  cases e : sqOf Γ t with
  | none => simp only [e] at h; exact h.elim
  | some q => simp only [e] at h; exact ⟨q, rfl, h⟩
theorem OwT.sq {S : Addr → Prop} (hx : Sub F H) (h : OwT C.K C.cl F H S v t) (e : t.sq = some q) : ∃ a vs, v = .ref a ∧ SqOk C F H a vs q ∧ Dts C.K C.cl F vs q.ds ∧ vs.length ≤ sizeLine := by
  cases h with
  | fz hd =>
    cases hd with
    | lst h1 hl h2 => cases e; exact ⟨_, _, rfl, hx _ _ h1, h2, hl⟩
    | tup h1 hl h2 => cases e; exact ⟨_, _, rfl, h1, h2, hl⟩
    | scr h1 hl => cases e; exact ⟨_, _, rfl, hx.sqL h1, Dts.ofInts, by rw [List.length_map]; exact hl⟩
    | _ => cases e
  | ol sub h1 hl s h2 =>
    rename_i ts
    cases e1 : T.fzs ts with
    | none => simp [T.sq, e1] at e
    | some ds =>
      simp [T.sq, e1] at e
      subst e
      rw [T.fzs_eq e1] at h2
      exact ⟨_, _, rfl, h1, h2.dts, hl⟩
  | oi sub h1 _ s _ h2 => cases e
theorem Rl.sq {S : Addr → Prop} (R : Rl C σ H Γ τ F ow) (h : TempOk C σ F H S v t) (e : sqOf Γ t = some q) : ∃ a vs, v = .ref a ∧ SqOk C F H a vs q ∧ Dts C.K C.cl F vs q.ds ∧ vs.length ≤ sizeLine := by
  cases t with
  | al i =>
    unfold sqOf at e
    cases e1 : Γ[i]? with
    | none => simp only [e1] at e; cases e
    | some o =>
      cases o with
      | none => simp only [e1] at e; cases e
      | some t' =>
        simp only [e1] at e
        obtain ⟨w, h1, h2⟩ := R.slots i t' e1
        have hv : σ[i]? = some (some v) := h.1
        rw [h1] at hv
        cases hv
        exact h2.sq R.ex e
  | fz d => exact OwT.sq R.ex h e
  | ol ts => exact OwT.sq R.ex h e
  | oi c ts => exact OwT.sq R.ex h e
end

/-! ### items -/
def ixD (d : D) (xs : List D) : Option D := match d with
  | .int i => atI xs i
  | _ => none
def strIx (d i : D) : Option D := match d, i with
  | .str z, .int i => if z.length ≤ sizeLine then (atI z.cps.toList i).map fun c => .str ⟨#[c]⟩ else none
  | _, _ => none
def ixM (a b : M T) : M T := bindM a fun t1 => bindM b fun t2 => bindM (lookM t2) fun i => bindM (sqM t1) fun q => bindM (optM (ixD i q.ds)) fun d => retM (.fz d)
section
variable {X : Cx} {C : Cc} {W : WX}
theorem Dts.atI {K : PySem.W.Frag} {cl : Str → Option Addr} {F : Hp} {vs : List V} {ds : List D} {i : Int} {d : D} (h : Dts K cl F vs ds) (e : L2.atI ds i = some d) : ∃ v, L2.atI vs i = some v ∧ Dt K cl F v d := by
  unfold L2.atI at e ⊢
  rw [h.length]
  cases e1 : ixN ds.length i with
  | none => rw [e1] at e; cases e
  | some j =>
    rw [e1] at e
    exact h.get e
theorem de_ix {a b : Expr} {fa fb : M T} {pos : Pos} (ha : PE X a (rd C W fa)) (hb : PE X b (rd C W fb)) (hK : C.K = X.K) (hs : PlainIx b := by exact fun _ _ => rfl) : PE X (.Subscript a b pos) (rd C W (ixM fa fb)) :=
  pe_sub (pe_ix (ix_list.or ix_tup) ha hb hs) fun σ H Q ⟨Γ, τ, R, w⟩ => by
    refine rd_bind R w fun t1 Γ1 v1 H1 R1 w1 => ?_
    refine rd_bind R1 (wp_under w1) fun t2 Γ2 v2 H2 R2 w2 => ?_
    obtain ⟨i, e1, w3⟩ := wp_lookM (Out.wp_bind w2)
    obtain ⟨q, e2, w4⟩ := wp_sqM (Out.wp_bind w3)
    obtain ⟨d, e3, w5⟩ := wp_optM (Out.wp_bind w4)
    obtain ⟨F, ow, R2⟩ := R2
    have hi := R2.look R2.temps.1 e1
    obtain ⟨p, vs, rfl, hq, hd, _⟩ := R2.sq R2.temps.2.1 e2
    cases i with
    | int i =>
      cases hi
      obtain ⟨v, e4, hv⟩ := Dts.atI hd e3
      have fin := w5 v H2 ⟨F, ow, R2.pop.pop.push hv⟩
      rw [← hK]
      cases q with
      | l ds => exact .inl ⟨p, vs, i, v, rfl, rfl, SqL.of hq, e4, fin⟩
      | t ds => exact .inr ⟨p, vs, i, v, rfl, rfl, R2.ex.sqT hq, e4, fin⟩
      | s ns => exact .inl ⟨p, vs, i, v, rfl, rfl, hq, e4, fin⟩
    | _ => cases e3
theorem sc_strIx {K : PySem.W.Frag} {cl : Str → Option Addr} : Sc2 K cl rIxS strIx := by
  intro H v1 v2 d1 d2 d Q h1 h2 e q
  unfold strIx at e
  split at e
  · split at e
    · rename_i z i hz
      cases h1
      cases h2
      cases e1 : L2.atI z.cps.toList i with
      | none => rw [e1] at e; cases e
      | some c =>
        rw [e1] at e
        cases e
        exact ⟨z, i, c, rfl, rfl, hz, e1, q _ (.str _)⟩
    · cases e
  · cases e
theorem de_ixStr {a b : Expr} {fa fb : M T} {pos : Pos} (ha : PE X a (rd C W fa)) (hb : PE X b (rd C W fb)) (hs : PlainIx b := by exact fun _ _ => rfl) : PE X (.Subscript a b pos) (rd C W (op2 strIx fa fb)) := de_rop (pe_ix ix_str ha hb hs) sc_strIx
end

/-! ### arguments -/
def argsM : List (M T) → M (List T)
  | [] => retM []
  | f :: fs => bindM f fun t => bindM (argsM fs) fun ts => retM (t :: ts)
section
variable {X : Cx} {C : Cc} {W : WX}
theorem da_nil : PA X [] (rdA C W (argsM [])) := pa_sub pa_nil fun σ H Q ⟨Γ, τ, R, w⟩ => w [] H rfl R
theorem da_cons {e : Expr} {es : List Expr} {f : M T} {fs : List (M T)} (ha : PE X e (rd C W f)) (hr : PA X es (rdA C W (argsM fs))) (hs : starEach (e :: es) X.env = (false, eval e X.env) :: starEach es X.env := by rfl) : PA X (e :: es) (rdA C W (argsM (f :: fs))) :=
  pa_sub (pa_cons ha hr hs) fun σ H Q ⟨Γ, τ, R, w⟩ => by
    refine rd_bind R w fun t Γ1 v H1 R1 w1 => ?_
    refine ⟨Γ1, (v, t) :: τ, R1, Out.wp_mono (Out.wp_bind (wp_under w1)) (fun ts Γ2 w2 vs H2 hl R2 => w2 (v :: vs) H2 (by simp [hl]) ?_) (fun _ _ z => z)⟩
    rw [List.zip_cons_cons, List.reverse_cons, List.append_assoc]
    exact R2
theorem da_frz {e : Expr} {f : M T} (ha : PE X e (rd C W f)) : PE X e (rd C W (frozen f)) := pe_sub ha fun σ H Q ⟨Γ, τ, R, w⟩ => by
  refine rd_bind R w fun t Γ1 v H1 R1 w1 => ?_
  obtain ⟨d, Γ2, R2, w2⟩ := R1.frz w1
  exact w2 v H1 R2
theorem da_settle {e : Expr} {f : M T} (ha : PE X e (rd C W f)) : PE X e (rd C W (settled f)) := pe_sub ha fun σ H Q ⟨Γ, τ, R, w⟩ => rd_settle R w
end
/-- all in hand, as data -/
def looks (Γ : Env) : List T → Option (List D)
  | [] => some []
  | t :: ts => match look Γ t, looks Γ ts with
    | some d, some ds => some (d :: ds)
    | _, _ => none
def looksM (ts : List T) : M (List D) := fun Γ => match looks Γ ts with
  | some ds => .ok ds Γ
  | none => .bad
/-- a call whose value is of no heap's -/
def callD (f : List D → Option D) (a : M (List T)) : M T := bindM a fun ts => bindM (looksM ts) fun ds => bindM (optM (f ds)) fun d => retM (.fz d)
def ScC (K : PySem.W.Frag) (cl : Str → Option Addr) (r : List V → Hp → VK → Prop) (f : List D → Option D) : Prop := ∀ H vs ds d (Q : VK), Dts K cl H vs ds → f ds = some d → (∀ v, Dt K cl emp v d → Q v H) → r vs H Q
section
variable {X : Cx} {C : Cc} {W : WX}
theorem Rl.looks {σ : St} {H F : Hp} {Γ : Env} {ow : Addr → Option Root} : ∀ {vs : List V} {ts : List T} {τ : Hand} {ds : List D}, vs.length = ts.length → Rl C σ H Γ ((vs.zip ts).reverse ++ τ) F ow → DL.looks Γ ts = some ds → Dts C.K C.cl H vs ds := by
  intro vs
  induction vs with
  | nil =>
    intro ts τ ds hl R e
    cases ts with
    | nil => cases e; exact .nil
    | cons t ts => cases hl
  | cons v vs ih =>
    intro ts τ ds hl R e
    cases ts with
    | nil => cases hl
    | cons t ts =>
      unfold DL.looks at e
      cases e1 : DL.look Γ t with
      | none => simp [e1] at e
      | some d =>
        cases e2 : DL.looks Γ ts with
        | none => simp [e1, e2] at e
        | some es =>
          simp [e1, e2] at e
          subst e
          rw [List.zip_cons_cons, List.reverse_cons, List.append_assoc] at R
          have R' : Rl C σ H Γ ((vs.zip ts).reverse ++ ((v, t) :: τ)) F ow := R
          have top : ∀ (υ : Hand), TempsOk C σ F H ow (υ ++ ((v, t) :: τ)) → TempOk C σ F H (fun a => ow a = some (.inr τ.length)) v t := by
            intro υ
            induction υ with
            | nil => intro h; exact h.1
            | cons p υ ih => intro h; exact ih h.2
          exact .cons (R.look (top _ R'.temps) e1) (ih (Nat.succ.inj hl) R' e2)
theorem wp_looksM {Γ : Env} {ts : List T} {P : List D → Env → Prop} {E : Exn → Env → Prop} (h : (looksM ts Γ).Wp P E) : ∃ ds, DL.looks Γ ts = some ds ∧ P ds Γ := by
  unfold looksM at h
  cases e : DL.looks Γ ts with
  | none => simp only [e] at h; exact h.elim
  | some ds => simp only [e] at h; exact ⟨ds, rfl, h⟩
theorem rdA_bind {α : Type} {f : M (List T)} {k : List T → M α} {σ : St} {H : Hp} {Γ : Env} {τ : Hand} {Q : List V → Hp → Prop} {P : α → Env → Prop} (R : Rel C σ H Γ τ) (h : (bindM f k Γ).Wp P (wx C W σ τ))
    (hq : ∀ ts Γ' vs H', vs.length = ts.length → Rel C σ H' Γ' ((vs.zip ts).reverse ++ τ) → (k ts Γ').Wp P (wx C W σ τ) → Q vs H') : rdA C W f σ H Q :=
  ⟨Γ, τ, R, Out.wp_mono (Out.wp_bind h) (fun ts Γ' w vs H' hl R' => hq ts Γ' vs H' hl R' w) (fun _ _ z => z)⟩
theorem de_rcall {e : Expr} {r : List V → Hp → VK → Prop} {f : List D → Option D} {fa : M (List T)} (h : PE X e (tCB r (rdA C W fa))) (s : ScC C.K C.cl r f) : PE X e (rd C W (callD f fa)) := pe_sub h fun σ H Q ⟨Γ, τ, R, w⟩ => by
  refine rdA_bind R w fun ts Γ1 vs H1 hl R1 w1 => ?_
  obtain ⟨ds, e1, w2⟩ := wp_looksM (Out.wp_bind w1)
  obtain ⟨d, e2, w3⟩ := wp_optM (Out.wp_bind w2)
  obtain ⟨F, ow, R1⟩ := R1
  exact s H1 vs ds d Q (R1.looks hl e1) e2 fun v hv => w3 v H1 ((Rel.drop ⟨F, ow, R1⟩).scal hv)
theorem de_callB {id : String} {x : Str} {r : List V → Hp → VK → Prop} {f : List D → Option D} {e : Expr} {es : List Expr} {fa : M (List T)} {p pos : Pos} (hc : CallR X (.builtin id) r) (s : ScC C.K C.cl r f) (hg : Gl X x) (hm : X.mg x = none) (hv : bootBuiltins x = some (.builtin id)) (ha : PA X (e :: es) (rdA C W fa))
    (hn : x ≠ "__name__" := by decide) (hdb : (x == ("__debug__" : Str)) = false := by decide) (he : starEach (e :: es) X.env = (false, eval e X.env) :: starEach es X.env := by rfl) (hpl : (backTo pos (starEach es X.env)).any (·.1) = false := by rfl) : PE X (.Call (.Name x p) (e :: es) [] pos) (rd C W (callD f fa)) :=
  de_rcall (pe_callB hc hg hm hv ha hn hdb he hpl) s
theorem de_callTy {T' : String} {x : Str} {r : List V → Hp → VK → Prop} {f : List D → Option D} {e : Expr} {es : List Expr} {fa : M (List T)} {p pos : Pos} (hc : CallR X (.type T') r) (s : ScC C.K C.cl r f) (hg : Gl X x) (hm : X.mg x = none) (hv : bootBuiltins x = some (.type T')) (ha : PA X (e :: es) (rdA C W fa))
    (hn : x ≠ "__name__" := by decide) (hdb : (x == ("__debug__" : Str)) = false := by decide) (he : starEach (e :: es) X.env = (false, eval e X.env) :: starEach es X.env := by rfl) (hpl : (backTo pos (starEach es X.env)).any (·.1) = false := by rfl) : PE X (.Call (.Name x p) (e :: es) [] pos) (rd C W (callD f fa)) :=
  de_rcall (pe_callTy hc hg hm hv ha hn hdb he hpl) s
end

/-! ### built-ins of no heap's value -/
def lenD : List D → Option D
  | [.lst ds] => some (.int ds.length)
  | [.tup ds] => some (.int ds.length)
  | [.scr ns] => some (.int ns.length)
  | [.str z] => if z.length ≤ sizeLine then some (.int z.length) else none
  | _ => none
def bools : List D → Option (List Bool)
  | [] => some []
  | .bl b :: ds => (bools ds).map (b :: ·)
  | _ :: _ => none
def allD : List D → Option D
  | [.lst ds] => (bools ds).map fun bs => .bl (bs.all id)
  | _ => none
def anyD : List D → Option D
  | [.lst ds] => (bools ds).map fun bs => .bl (bs.any id)
  | _ => none
def intD : List D → Option D
  | [.int i] => some (.int i)
  | [.bl b] => some (.int (if b then 1 else 0))
  | _ => none
section
variable {K : PySem.W.Frag} {cl : Str → Option Addr}
theorem Dts.one {F : Hp} {vs : List V} {d : D} (h : Dts K cl F vs [d]) : ∃ v, vs = [v] ∧ Dt K cl F v d := by
  cases h with
  | cons h hs => cases hs; exact ⟨_, rfl, h⟩
theorem Dts.two {F : Hp} {vs : List V} {d e : D} (h : Dts K cl F vs [d, e]) : ∃ v w, vs = [v, w] ∧ Dt K cl F v d ∧ Dt K cl F w e := by
  cases h with
  | cons h hs =>
    obtain ⟨w, rfl, h2⟩ := hs.one
    exact ⟨_, w, rfl, h, h2⟩
def rLen (K : PySem.W.Frag) : List V → Hp → VK → Prop := fun xs H Q => (∃ p ys, xs = [.ref p] ∧ (SqL K H p ys ∨ SqT K H p ys) ∧ Q (.int ys.length) H) ∨ ∃ z, xs = [.str z] ∧ z.length ≤ sizeLine ∧ Q (.int z.length) H
theorem sc_len : ScC K cl (rLen K) lenD := by
  intro H vs ds d Q h e q
  unfold lenD at e
  split at e
  · cases e
    obtain ⟨v, rfl, hv⟩ := h.one
    cases hv with
    | lst h1 _ h2 =>
      refine .inl ⟨_, _, rfl, .inl (SqL.of h1), ?_⟩
      rw [h2.length]
      exact q _ (.int _)
  · cases e
    obtain ⟨v, rfl, hv⟩ := h.one
    cases hv with
    | tup h1 _ h2 =>
      refine .inl ⟨_, _, rfl, .inr h1, ?_⟩
      rw [h2.length]
      exact q _ (.int _)
  · cases e
    obtain ⟨v, rfl, hv⟩ := h.one
    cases hv with
    | scr h1 _ =>
      refine .inl ⟨_, _, rfl, .inl h1, ?_⟩
      rw [List.length_map]
      exact q _ (.int _)
  · split at e <;> cases e
    rename_i hz
    obtain ⟨v, rfl, hv⟩ := h.one
    cases hv
    exact .inr ⟨_, rfl, hz, q _ (.int _)⟩
  · cases e
theorem cr_lenD {X : Cx} : CallR X (.builtin "len") (rLen X.K) := call_len_seq.or call_len_str
theorem Dts.bools {F : Hp} : ∀ {vs : List V} {ds : List D} {bs : List Bool}, Dts K cl F vs ds → DL.bools ds = some bs → vs = bs.map V.bl
  | _, _, bs, .nil, e => by
    simp [DL.bools] at e
    subst e
    rfl
  | _, _, bs, .cons h hs, e => by
    rename_i d ds
    cases d with
    | bl b =>
      unfold DL.bools at e
      cases e1 : DL.bools ds with
      | none => rw [e1] at e; cases e
      | some cs =>
        rw [e1] at e
        cases e
        cases h
        rw [Dts.bools hs e1]
        rfl
    | _ => cases e
theorem sc_all : ScC K cl (rAll K) allD := by
  intro H vs ds d Q h e q
  unfold allD at e
  split at e
  · rename_i es
    obtain ⟨v, rfl, hv⟩ := h.one
    cases e1 : bools es with
    | none => rw [e1] at e; cases e
    | some bs =>
      rw [e1] at e
      cases e
      cases hv with
      | lst h1 _ h2 => exact ⟨_, bs, rfl, SqL.of (by rw [← h2.bools e1]; exact h1), q _ (.bl _)⟩
  · cases e
theorem sc_any : ScC K cl (rAny K) anyD := by
  intro H vs ds d Q h e q
  unfold anyD at e
  split at e
  · rename_i es
    obtain ⟨v, rfl, hv⟩ := h.one
    cases e1 : bools es with
    | none => rw [e1] at e; cases e
    | some bs =>
      rw [e1] at e
      cases e
      cases hv with
      | lst h1 _ h2 => exact ⟨_, bs, rfl, SqL.of (by rw [← h2.bools e1]; exact h1), q _ (.bl _)⟩
  · cases e
theorem sc_intc : ScC K cl (fun xs H Q => (∃ i, xs = [.int i] ∧ Q (.int i) H) ∨ ∃ k, xs = [.bl k] ∧ Q (.int (if k then 1 else 0)) H) intD := by
  intro H vs ds d Q h e q
  unfold intD at e
  split at e
  · cases e
    obtain ⟨v, rfl, hv⟩ := h.one
    cases hv
    exact .inl ⟨_, rfl, q _ (.int _)⟩
  · cases e
    obtain ⟨v, rfl, hv⟩ := h.one
    cases hv
    exact .inr ⟨_, rfl, q _ (.int _)⟩
  · cases e
end
end DL
/-! new lists and tuples -/
namespace DL
open PySem L2

def guardM (b : Bool) : M Unit := fun Γ => if b then .ok () Γ else .bad
theorem wp_guardM {b : Bool} {Γ : Env} {P : Unit → Env → Prop} {E : Exn → Env → Prop} (h : (guardM b Γ).Wp P E) : b = true ∧ P () Γ := by
  unfold guardM at h
  cases b with
  | true => exact ⟨rfl, h⟩
  | false => exact h.elim
section
variable {C : Cc} {W : WX} {σ : St} {H H' F : Hp} {Γ : Env} {τ : Hand} {v : V} {t : T} {d : D} {ow : Addr → Option Root} {p : Addr}
theorem Rl.drop {υ : Hand} (R : Rl C σ H Γ (υ ++ τ) F ow) : Rl C σ H Γ τ F ow := by
  induction υ with
  | nil => exact R
  | cons p υ ih => exact ih R.pop
theorem Rl.noOwn (R : Rl C σ H Γ τ F ow) (hp : H p = none) : ow p = none := by
  cases e : ow p with
  | none => rfl
  | some r =>
    obtain ⟨o, h⟩ := R.ownH p r e
    rw [hp] at h
    cases h
theorem Rl.freshN (R : Rl C σ H Γ τ F ow) (hp : H p = none) : C.mu p ∨ C.H0 p = none := by
  cases q : C.H0 p with
  | none => exact .inr rfl
  | some u =>
    by_cases hm : C.mu p
    · exact .inl hm
    · rw [R.frame p u q hm] at hp
      cases hp
/-- a new object that the hand owns -/
theorem Rl.newOwn {o : HO} {v : V} {t : T} (R : Rl C σ H Γ τ F ow) (hp : H p = none) (ht : ∀ S : Addr → Prop, S p → OwT C.K C.cl F (upd H p o) S v t) : ∃ ow', Rl C σ (upd H p o) Γ ((v, t) :: τ) F ow' := by
  have R1 := R.newH (o := o) hp
  have hn := R.noOwn hp
  have hne : ∀ a r, ow a = some r → a ≠ p := fun a r e z => by
    subst z
    rw [hn] at e
    cases e
  refine ⟨fun a => if a = p then some (.inr τ.length) else ow a, R1.ex, R1.old, R1.new, R1.frame, fun a r e => ?_, fun a r e => ?_, fun a r e => ?_, fun i t' e => ?_, ⟨TempOk.of (ht _ (if_pos rfl)), ?_⟩, R1.pins, R1.len⟩
  · by_cases h : a = p
    · subst h
      cases q : F a with
      | none => rfl
      | some u =>
        rw [R.ex a u q] at hp
        cases hp
    · rw [if_neg h] at e
      exact R1.ownF a r e
  · by_cases h : a = p
    · subst h
      exact ⟨_, upd_same⟩
    · rw [if_neg h] at e
      exact R1.ownH a r e
  · by_cases h : a = p
    · subst h
      exact R.freshN hp
    · rw [if_neg h] at e
      exact R1.ownN a r e
  · obtain ⟨w, h1, h2⟩ := R1.slots i t' e
    refine ⟨w, h1, h2.keep (Sub.refl F) (fun _ _ _ q => q) (fun a q => ?_)⟩
    show (if a = p then some (Sum.inr τ.length) else ow a) = some (.inl i)
    rw [if_neg (hne a _ q)]
    exact q
  · refine R1.temps.keep (Sub.refl F) (fun _ _ _ _ _ q => q) (fun a j hj q => ?_)
    show (if a = p then some (Sum.inr τ.length) else ow a) = some (.inr j)
    rw [if_neg (hne a _ q)]
    exact q
theorem Rl.newListF {vs : List V} {ds : List D} (R : Rl C σ H Γ τ F ow) (hp : H p = none) (hl : vs.length ≤ sizeLine) (hd : Dts C.K C.cl F vs ds) : ∃ ow', Rl C σ (upd H p (.lst vs)) Γ ((.ref p, .ol (ds.map T.fz)) :: τ) F ow' :=
  R.newOwn hp fun S s => .ol (fun _ => none) upd_same hl s (OwTs.ofDts hd)
theorem Rl.newList {vs : List V} {ds : List D} (R : Rl C σ H Γ τ F ow) (hp : H p = none) (hl : vs.length ≤ sizeLine) (hd : Dts C.K C.cl F vs ds) : Rel C σ (upd H p (.lst vs)) Γ ((.ref p, .ol (ds.map T.fz)) :: τ) :=
  ⟨F, R.newListF hp hl hd⟩
theorem Rl.newTup {vs : List V} {ds : List D} (R : Rl C σ H Γ τ F ow) (hp : H p = none) (hl : vs.length ≤ sizeLine) (hd : Dts C.K C.cl F vs ds) : Rel C σ (upd H p (.tup vs)) Γ ((.ref p, .fz (.tup ds)) :: τ) := by
  obtain ⟨R1, s⟩ := R.newF (o := .tup vs) hp
  exact ⟨_, ow, R1.push (.tup (SqT.of upd_same) hl (hd.mono s))⟩
/-- all in hand is data -/
theorem Rl.hands : ∀ {vs : List V} {ts : List T} {τ : Hand} {ds : List D}, vs.length = ts.length → Rl C σ H Γ ((vs.zip ts).reverse ++ τ) F ow → T.fzs ts = some ds → Dts C.K C.cl F vs ds := by
  intro vs
  induction vs with
  | nil =>
    intro ts τ ds hl R e
    cases ts with
    | nil => cases e; exact .nil
    | cons t ts => cases hl
  | cons v vs ih =>
    intro ts τ ds hl R e
    cases ts with
    | nil => cases hl
    | cons t ts =>
      have e' := T.fzs_eq e
      cases ds with
      | nil => cases e'
      | cons d ds =>
        have e2 : t = .fz d ∧ ts = ds.map T.fz := by
          have := List.cons.inj e'
          exact this
        obtain ⟨rfl, e3⟩ := e2
        rw [List.zip_cons_cons, List.reverse_cons, List.append_assoc] at R
        have R' : Rl C σ H Γ ((vs.zip ts).reverse ++ ((v, .fz d) :: τ)) F ow := R
        have top : ∀ (υ : Hand), TempsOk C σ F H ow (υ ++ ((v, .fz d) :: τ)) → TempOk C σ F H (fun a => ow a = some (.inr τ.length)) v (.fz d) := by
          intro υ
          induction υ with
          | nil => intro h; exact h.1
          | cons p υ ih => intro h; exact ih h.2
        have e4 : T.fzs ts = some ds := by
          unfold T.fzs at e
          cases q : T.fzs ts with
          | none => rw [q] at e; cases e
          | some es => rw [q] at e; cases e; rfl
        have z := top _ R'.temps
        cases z with
        | fz z => exact .cons z (ih (Nat.succ.inj hl) R' e4)
end

/-! ### displays -/
def lstM (a : M (List T)) : M T := bindM a fun ts => bindM (optM (T.fzs ts)) fun ds => bindM (guardM (decide (ds.length ≤ sizeLine))) fun _ => retM (.ol (ds.map T.fz))
def tupM (a : M (List T)) : M T := bindM a fun ts => bindM (optM (T.fzs ts)) fun ds => bindM (guardM (decide (ds.length ≤ sizeLine))) fun _ => retM (.fz (.tup ds))
section
variable {X : Cx} {C : Cc} {W : WX}
theorem de_lst {es : List Expr} {f : M (List T)} {pos : Pos} (h : PA X es (rdA C W f)) : PE X (.List es pos) (rd C W (lstM f)) := pe_sub (pe_lst h) fun σ H Q ⟨Γ, τ, R, w⟩ => by
  refine rdA_bind R w fun ts Γ1 vs H1 hl R1 w1 => ?_
  obtain ⟨ds, e1, w2⟩ := wp_optM (Out.wp_bind w1)
  obtain ⟨e2, w3⟩ := wp_guardM (Out.wp_bind w2)
  obtain ⟨F, ow, R1⟩ := R1
  have hd := R1.hands hl e1
  have hl' : vs.length ≤ sizeLine := by rw [hd.length]; exact of_decide_eq_true e2
  exact ⟨hl', fun p hp => w3 _ _ (R1.drop.newList hp hl' hd)⟩
theorem de_tup {es : List Expr} {f : M (List T)} {x1} {pos : Pos} (h : PA X es (rdA C W f)) : PE X (.Tuple es x1 pos) (rd C W (tupM f)) := pe_sub (pe_tup h) fun σ H Q ⟨Γ, τ, R, w⟩ => by
  refine rdA_bind R w fun ts Γ1 vs H1 hl R1 w1 => ?_
  obtain ⟨ds, e1, w2⟩ := wp_optM (Out.wp_bind w1)
  obtain ⟨e2, w3⟩ := wp_guardM (Out.wp_bind w2)
  obtain ⟨F, ow, R1⟩ := R1
  have hd := R1.hands hl e1
  have hl' : vs.length ≤ sizeLine := by rw [hd.length]; exact of_decide_eq_true e2
  exact ⟨hl', fun p hp => w3 _ _ (R1.drop.newTup hp hl' hd)⟩

/-! ### copies -/
theorem rdA_one {α : Type} {f : M T} {k : T → M α} {σ : St} {H : Hp} {Γ : Env} {τ : Hand} {Q : List V → Hp → Prop} {P : α → Env → Prop} (R : Rel C σ H Γ τ) (h : (bindM f k Γ).Wp P (wx C W σ τ))
    (hq : ∀ t Γ' v H', Rel C σ H' Γ' ((v, t) :: τ) → (k t Γ').Wp P (wx C W σ τ) → Q [v] H') : rdA C W (argsM [f]) σ H Q := by
  refine ⟨Γ, τ, R, ?_⟩
  show (Out.bind (f Γ) fun t => bindM (argsM []) fun ts => retM (t :: ts)).Wp _ _
  have h' := Out.wp_bind h
  cases e : f Γ with
  | ok t Γ1 =>
    rw [e] at h'
    intro vs H' hl R'
    cases vs with
    | nil => cases hl
    | cons v vs =>
      cases vs with
      | nil => exact hq t Γ1 v H' R' h'
      | cons _ _ => cases hl
  | exc x Γ1 =>
    rw [e] at h'
    exact h'
  | bad =>
    rw [e] at h'
    exact h'
def listM (f : M T) : M T := bindM f fun t => bindM (sqM t) fun q => retM (.ol (q.ds.map T.fz))
def tupleM (f : M T) : M T := bindM f fun t => bindM (sqM t) fun q => retM (.fz (.tup q.ds))
theorem de_list {e : Expr} {f : M T} {p pos : Pos} (hK : C.K = X.K) (hg : Gl X "list") (hm : X.mg "list" = none) (ha : PE X e (rd C W f)) (hs : starEach [e] X.env = (false, eval e X.env) :: starEach [] X.env := by rfl) : PE X (.Call (.Name "list" p) [e] [] pos) (rd C W (listM f)) :=
  pe_sub (pe_callTy call_list_of hg hm (by decide +kernel) (da_cons ha da_nil hs) (he := hs)) fun σ H Q ⟨Γ, τ, R, w⟩ => by
    refine rdA_one R w fun t Γ1 v H1 R1 w1 => ?_
    obtain ⟨q, e1, w2⟩ := wp_sqM (Out.wp_bind w1)
    obtain ⟨F, ow, R1⟩ := R1
    obtain ⟨a, vs, rfl, hq, hd, hz⟩ := R1.sq R1.temps.1 e1
    refine ⟨a, vs, rfl, ?_, fun l hl => w2 _ _ (R1.pop.newList hl hz hd)⟩
    rw [← hK]
    cases q with
    | l ds => exact .inl (SqL.of hq)
    | t ds => exact .inr (R1.ex.sqT hq)
    | s ns => exact .inl hq
theorem de_tuple {e : Expr} {f : M T} {p pos : Pos} (hK : C.K = X.K) (hg : Gl X "tuple") (hm : X.mg "tuple" = none) (ha : PE X e (rd C W f)) (hs : starEach [e] X.env = (false, eval e X.env) :: starEach [] X.env := by rfl) : PE X (.Call (.Name "tuple" p) [e] [] pos) (rd C W (tupleM f)) :=
  pe_sub (pe_callTy call_tuple_of hg hm (by decide +kernel) (da_cons ha da_nil hs) (he := hs)) fun σ H Q ⟨Γ, τ, R, w⟩ => by
    refine rdA_one R w fun t Γ1 v H1 R1 w1 => ?_
    obtain ⟨q, e1, w2⟩ := wp_sqM (Out.wp_bind w1)
    obtain ⟨F, ow, R1⟩ := R1
    obtain ⟨a, vs, rfl, hq, hd, hz⟩ := R1.sq R1.temps.1 e1
    refine ⟨a, vs, rfl, ?_⟩
    rw [← hK]
    cases q with
    | l ds => exact .inl ⟨SqL.of hq, fun l hl => w2 _ _ (R1.pop.newTup hl hz hd)⟩
    | t ds => exact .inr ⟨R1.ex.sqT hq, w2 _ _ ⟨F, ow, R1.pop.push (.tup hq hz hd)⟩⟩
    | s ns => exact .inl ⟨hq, fun l hl => w2 _ _ (R1.pop.newTup hl hz hd)⟩

/-! ### slices -/
def rdO (C : Cc) (W : WX) (f : M (Option Int)) : TO := fun σ H Q => ∃ Γ τ, Rel C σ H Γ τ ∧ (f Γ).Wp (fun o Γ' => ∀ H', Rel C σ H' Γ' τ → Q o H') (wx C W σ τ)
def D.toI : D → Option Int
  | .int i => some i
  | _ => none
def intM (f : M T) : M Int := bindM f fun t => bindM (lookM t) fun d => optM d.toI
def partM (f : M T) : M (Option Int) := bindM (intM f) fun i => retM (some i)
theorem po_sub {e : Option Expr} {t t' : TO} (h : PO X e t) (m : ∀ σ H Q, t' σ H Q → t σ H Q) : PO X e t' := ⟨fun pins s σ H Q I q => h.run pins s σ H Q I (m σ H Q q)⟩
theorem do_none : PO X none (rdO C W (retM none)) := po_sub po_none fun σ H Q ⟨Γ, τ, R, w⟩ => w H R
theorem intM_bind {α : Type} {f : M T} {k : Int → M α} {σ : St} {H : Hp} {Γ : Env} {τ : Hand} {Q : VK} {P : α → Env → Prop} (R : Rel C σ H Γ τ) (h : (bindM (intM f) k Γ).Wp P (wx C W σ τ))
    (hq : ∀ i Γ' H', Rel C σ H' Γ' τ → (k i Γ').Wp P (wx C W σ τ) → Q (.int i) H') : rd C W f σ H Q := by
  refine ⟨Γ, τ, R, ?_⟩
  have h1 := Out.wp_bind (Out.wp_bind h)
  refine Out.wp_mono h1 (fun t Γ1 w v H1 R1 => ?_) fun _ _ z => z
  obtain ⟨d, e1, w2⟩ := wp_lookM (Out.wp_bind w)
  obtain ⟨i, e2, w3⟩ := wp_optM w2
  obtain ⟨F, ow, R1⟩ := R1
  have hd := R1.look R1.temps.1 e1
  cases d with
  | int j =>
    cases e2
    cases hd
    exact hq _ _ H1 ⟨F, ow, R1.pop⟩ w3
  | _ => cases e2
theorem do_some {e : Expr} {f : M T} (h : PE X e (rd C W f)) : PO X (some e) (rdO C W (partM f)) := po_sub (po_some h) fun σ H Q ⟨Γ, τ, R, w⟩ =>
  intM_bind R w fun i Γ1 H1 R1 w1 => ⟨i, rfl, w1 H1 R1⟩
def cutL {α : Type} (xs : List α) (lo hi : Option Int) : List α := (xs.drop (HT.sIx xs.length 0 lo)).take (HT.sIx xs.length xs.length hi - HT.sIx xs.length 0 lo)
theorem Dts.cut {K : PySem.W.Frag} {cl : Str → Option Addr} {F : Hp} {vs : List V} {ds : List D} {lo hi : Option Int} (h : Dts K cl F vs ds) : Dts K cl F (cutV vs lo hi) (cutL ds lo hi) := by
  unfold cutV cutL
  rw [h.length]
  exact (h.drop _).take _
def Sq.cut (lo hi : Option Int) : Sq → T
  | .l ds => .ol ((cutL ds lo hi).map T.fz)
  | .t ds => .fz (.tup (cutL ds lo hi))
  | .s ns => .ol ((cutL (ns.map D.int) lo hi).map T.fz)
def sliceM (f : M T) (lo hi : M (Option Int)) : M T := bindM f fun t => bindM lo fun l => bindM hi fun h => bindM (sqM t) fun q => retM (q.cut l h)
theorem rdO_bind {α : Type} {f : M (Option Int)} {k : Option Int → M α} {σ : St} {H : Hp} {Γ : Env} {τ : Hand} {Q : Option Int → Hp → Prop} {P : α → Env → Prop} (R : Rel C σ H Γ τ) (h : (bindM f k Γ).Wp P (wx C W σ τ))
    (hq : ∀ o Γ' H', Rel C σ H' Γ' τ → (k o Γ').Wp P (wx C W σ τ) → Q o H') : rdO C W f σ H Q :=
  ⟨Γ, τ, R, Out.wp_mono (Out.wp_bind h) (fun o Γ' w H' R' => hq o Γ' H' R' w) (fun _ _ z => z)⟩
theorem de_slice {e : Expr} {lo hi : Option Expr} {f : M T} {fl fh : M (Option Int)} {p2 pos : Pos} (hK : C.K = X.K) (he : PE X e (rd C W f)) (hl : PO X lo (rdO C W fl)) (hh : PO X hi (rdO C W fh)) : PE X (.Subscript e (.Slice lo hi none p2) pos) (rd C W (sliceM f fl fh)) :=
  pe_sub (pe_slice (sl_list.or sl_tupA) he hl hh) fun σ H Q ⟨Γ, τ, R, w⟩ => by
    refine rd_bind R w fun t Γ1 v H1 R1 w1 => ?_
    refine rdO_bind R1 (wp_under w1) fun l Γ2 H2 R2 w2 => ?_
    refine rdO_bind R2 w2 fun h Γ3 H3 R3 w3 => ?_
    obtain ⟨q, e1, w4⟩ := wp_sqM (Out.wp_bind w3)
    obtain ⟨F, ow, R3⟩ := R3
    obtain ⟨a, vs, rfl, hq, hd, hz⟩ := R3.sq R3.temps.1 e1
    have hc : (cutV vs l h).length ≤ sizeLine := Nat.le_trans (cutV_length vs l h) hz
    rw [← hK]
    cases q with
    | l ds => exact .inl ⟨a, vs, rfl, SqL.of hq, fun p hp => w4 _ _ (R3.pop.newList hp hc hd.cut)⟩
    | s ns => exact .inl ⟨a, vs, rfl, hq, fun p hp => w4 _ _ (R3.pop.newList hp hc hd.cut)⟩
    | t ds =>
      refine .inr ⟨a, vs, rfl, R3.ex.sqT hq, fun z => ?_, fun _ p hp => w4 _ _ (R3.pop.newTup hp hc hd.cut)⟩
      have e2 : cutL ds l h = ds := by
        have hl : vs.length = ds.length := hd.length
        unfold cutL
        rw [← hl, z.1, z.2, List.drop_zero, Nat.sub_zero, hl]
        exact List.take_length
      have w5 := w4 (.ref a) H3
      rw [show Sq.cut l h (.t ds) = .fz (.tup ds) by show T.fz (D.tup (cutL ds l h)) = _; rw [e2]] at w5
      exact w5 ⟨F, ow, R3.pop.push (.tup hq hz hd)⟩
/-- xs[::-1] -/
def revM (f : M T) : M T := bindM f fun t => bindM (sqM t) fun q => match q with
  | .l ds => retM (.ol (ds.reverse.map T.fz))
  | .s ns => retM (.ol ((ns.map D.int).reverse.map T.fz))
  | .t _ => fun _ => .bad
theorem de_rev {e : Expr} {f : M T} {k : Nat} {p1 p2 p3 pos : Pos} (hK : C.K = X.K) (he : PE X e (rd C W f)) : PE X (.Subscript e (.Slice none none (some (.UnaryOp .USub (.Constant (.int 1) k p1) p2)) p3) pos) (rd C W (revM f)) :=
  pe_sub (pe_revL he) fun σ H Q ⟨Γ, τ, R, w⟩ => by
    refine rd_bind R w fun t Γ1 v H1 R1 w1 => ?_
    obtain ⟨q, e1, w4⟩ := wp_sqM (Out.wp_bind w1)
    obtain ⟨F, ow, R1⟩ := R1
    obtain ⟨a, vs, rfl, hq, hd, hz⟩ := R1.sq R1.temps.1 e1
    rw [← hK]
    cases q with
    | l ds => exact ⟨a, vs, rfl, SqL.of hq, fun p hp => w4 _ _ (R1.pop.newList hp (by rw [List.length_reverse]; exact hz) hd.reverse)⟩
    | s ns => exact ⟨a, vs, rfl, hq, fun p hp => w4 _ _ (R1.pop.newList hp (by rw [List.length_reverse]; exact hz) hd.reverse)⟩
    | t ds => exact w4.elim

/-! ### + of lists, of tuples; * -/
def catM (a b : M T) : M T := bindM a fun t1 => bindM b fun t2 => bindM (sqM t1) fun q1 => bindM (sqM t2) fun q2 => match q1, q2 with
  | .l xs, .l ys => bindM (guardM (decide (xs.length + ys.length ≤ sizeLine))) fun _ => retM (.ol ((xs ++ ys).map T.fz))
  | .t xs, .t ys => bindM (guardM (decide (xs.length + ys.length ≤ sizeLine))) fun _ => retM (.fz (.tup (xs ++ ys)))
  | _, _ => fun _ => .bad
theorem de_cat {a b : Expr} {fa fb : M T} {pos : Pos} (hK : C.K = X.K) (ha : PE X a (rd C W fa)) (hb : PE X b (rd C W fb)) : PE X (.BinOp a .Add b pos) (rd C W (catM fa fb)) :=
  pe_sub (pe_op (op_cat.or op_catA) ha hb) fun σ H Q ⟨Γ, τ, R, w⟩ => by
    refine rd_bind R w fun t1 Γ1 v1 H1 R1 w1 => ?_
    refine rd_bind R1 (wp_under w1) fun t2 Γ2 v2 H2 R2 w2 => ?_
    obtain ⟨q1, e1, w3⟩ := wp_sqM (Out.wp_bind w2)
    obtain ⟨q2, e2, w4⟩ := wp_sqM (Out.wp_bind w3)
    obtain ⟨F, ow, R2⟩ := R2
    obtain ⟨a1, vs1, rfl, hq1, hd1, hz1⟩ := R2.sq R2.temps.2.1 e1
    obtain ⟨a2, vs2, rfl, hq2, hd2, hz2⟩ := R2.sq R2.temps.1 e2
    rw [← hK]
    cases q1 with
    | l xs =>
      cases q2 with
      | l ys =>
        obtain ⟨e3, w5⟩ := wp_guardM (Out.wp_bind w4)
        have hl : vs1.length + vs2.length ≤ sizeLine := by
          rw [hd1.length, hd2.length]
          exact of_decide_eq_true e3
        exact .inl ⟨a1, a2, vs1, vs2, rfl, rfl, hq1, hq2, hl, fun p hp => w5 _ _ (R2.pop.pop.newList hp (by rw [List.length_append]; exact hl) (hd1.append hd2))⟩
      | t ys => exact w4.elim
      | s ys => exact w4.elim
    | t xs =>
      cases q2 with
      | l ys => exact w4.elim
      | t ys =>
        obtain ⟨e3, w5⟩ := wp_guardM (Out.wp_bind w4)
        have hl : vs1.length + vs2.length ≤ sizeLine := by
          rw [hd1.length, hd2.length]
          exact of_decide_eq_true e3
        refine .inr ⟨a1, a2, vs1, vs2, rfl, rfl, R2.ex.sqT hq1, R2.ex.sqT hq2, hl, fun z => ?_, fun _ z => ?_, fun _ _ p hp => w5 _ _ (R2.pop.pop.newTup hp (by rw [List.length_append]; exact hl) (hd1.append hd2))⟩
        · subst z
          have e4 : xs = [] := by
            cases xs with
            | nil => rfl
            | cons _ _ => cases hd1
          subst e4
          exact w5 _ _ ⟨F, ow, R2.pop.pop.push (.tup hq2 hz2 hd2)⟩
        · subst z
          have e4 : ys = [] := by
            cases ys with
            | nil => rfl
            | cons _ _ => cases hd2
          subst e4
          rw [List.append_nil] at w5
          exact w5 _ _ ⟨F, ow, R2.pop.pop.push (.tup hq1 hz1 hd1)⟩
      | s ys => exact w4.elim
    | s xs => exact w4.elim
def repL {α : Type} (xs : List α) (k : Int) : List α := (List.replicate k.toNat xs).flatten
def repM (a b : M T) : M T := bindM a fun t1 => bindM b fun t2 => bindM (sqM t1) fun q1 => bindM (lookM t2) fun d2 => bindM (optM d2.toI) fun k => match q1 with
  | .l xs => bindM (guardM (decide (-(2 ^ 63) ≤ k) && decide (k < 2 ^ 63) && decide (xs.length * k.toNat ≤ sizeLine))) fun _ => retM (.ol ((repL xs k).map T.fz))
  | _ => fun _ => .bad
theorem Dts.rep {K : PySem.W.Frag} {cl : Str → Option Addr} {F : Hp} {vs : List V} {ds : List D} (h : Dts K cl F vs ds) : ∀ n : Nat, Dts K cl F (List.replicate n vs).flatten (List.replicate n ds).flatten
  | 0 => .nil
  | n + 1 => by
    rw [List.replicate_succ, List.replicate_succ, List.flatten_cons, List.flatten_cons]
    exact h.append (Dts.rep h n)
theorem de_rep {a b : Expr} {fa fb : M T} {pos : Pos} (ha : PE X a (rd C W fa)) (hb : PE X b (rd C W fb)) : PE X (.BinOp a .Mult b pos) (rd C W (repM fa fb)) :=
  pe_sub (pe_op op_rep ha hb) fun σ H Q ⟨Γ, τ, R, w⟩ => by
    refine rd_bind R w fun t1 Γ1 v1 H1 R1 w1 => ?_
    refine rd_bind R1 (wp_under w1) fun t2 Γ2 v2 H2 R2 w2 => ?_
    obtain ⟨q1, e1, w3⟩ := wp_sqM (Out.wp_bind w2)
    obtain ⟨d2, e2, w4⟩ := wp_lookM (Out.wp_bind w3)
    obtain ⟨k, e3, w5⟩ := wp_optM (Out.wp_bind w4)
    obtain ⟨F, ow, R2⟩ := R2
    obtain ⟨a1, vs1, rfl, hq1, hd1, hz1⟩ := R2.sq R2.temps.2.1 e1
    have hi := R2.look R2.temps.1 e2
    cases d2 with
    | int j =>
      have ek : j = k := Option.some.inj e3
      subst ek
      cases hi
      cases q1 with
      | l xs =>
        obtain ⟨e4, w6⟩ := wp_guardM (Out.wp_bind w5)
        simp only [Bool.and_eq_true, decide_eq_true_eq] at e4
        have hl : vs1.length * j.toNat ≤ sizeLine := by
          rw [hd1.length]
          exact e4.2
        refine ⟨a1, _, vs1, rfl, rfl, hq1, e4.1.1, e4.1.2, hl, fun p hp => w6 _ _ (R2.pop.pop.newList hp ?_ (hd1.rep _))⟩
        rw [List.length_flatten, List.map_replicate, List.sum_replicate_nat, Nat.mul_comm]
        exact hl
      | t xs => exact w5.elim
      | s xs => exact w5.elim
    | _ => cases e3
end
end DL
/-! what is walked; statements; loops; comprehensions -/
namespace DL
open PySem L2

/-- J gives the things ds, while υ is in hand -/
structure IterD (C : Cc) (J : It) (ds : List D) (υ : Hand) : Prop where
  go : ∀ i H σ Γ τ, Rel C σ H Γ (υ ++ τ) → i < ds.length → J.go i H
  yld : ∀ i H σ Γ τ x H', Rel C σ H Γ (υ ++ τ) → i < ds.length → J.yld i H x H' → ∃ d, ds[i]? = some d ∧ Rel C σ H' Γ ((x, .fz d) :: (υ ++ τ))
  stop : ∀ H σ Γ τ, Rel C σ H Γ (υ ++ τ) → J.stop ds.length H
  fz : ∀ p ∈ υ, ∃ d, p.2 = .fz d
  len : ∀ H σ Γ τ, Rel C σ H Γ (υ ++ τ) → ds.length ≤ sizeLine
theorem IterD.noal {C : Cc} {J : It} {ds : List D} {υ : Hand} (I : IterD C J ds υ) : ∀ p ∈ υ, ∀ i, p.2 ≠ .al i := fun p hp i e => by
  obtain ⟨d, q⟩ := I.fz p hp
  rw [q] at e
  cases e
def rdI (C : Cc) (W : WX) (f : M (List D)) : TI := fun σ H R => ∃ Γ τ, Rel C σ H Γ τ ∧ (f Γ).Wp (fun ds Γ' => ∀ J H' υ, Rel C σ H' Γ' (υ ++ τ) → IterD C J ds υ → R J H') (wx C W σ τ)
theorem pi_sub {X : Cx} {tg e : Expr} {t t' : TI} (h : PI X tg e t) (m : ∀ σ H R, t' σ H R → t σ H R) : PI X tg e t' := ⟨fun pins s σ H R I q => h.run pins s σ H R I (m σ H R q)⟩

/-! ### sources -/
/-- a list, frozen -/
def seqIt (f : M T) : M (List D) := bindM f fun t => bindM (frz t) fun t' => bindM (sqM t') fun q => retM q.ds
section
variable {C : Cc} {K : PySem.W.Frag}
theorem iter_list {a : Addr} {ds : List D} : IterD C (Itl C.K a) ds [(.ref a, .fz (.lst ds))] where
  go := fun i H σ Γ τ R hi => by
    obtain ⟨F, ow, R⟩ := R
    have h := R.temps.1
    cases h with
    | fz h =>
      cases h with
      | lst h1 _ h2 =>
        obtain ⟨v, e, _⟩ := h2.get (List.getElem?_eq_getElem hi)
        exact ⟨_, v, SqL.of (R.ex _ _ h1), e⟩
  yld := fun i H σ Γ τ x H' R hi y => by
    obtain ⟨F, ow, R⟩ := R
    have h := R.temps.1
    obtain ⟨rfl, y⟩ := y
    cases h with
    | fz h =>
      cases h with
      | lst h1 _ h2 =>
        obtain ⟨d, e, hd⟩ := h2.getV (y _ (SqL.of (R.ex _ _ h1)))
        exact ⟨d, e, F, ow, R.push hd⟩
  stop := fun H σ Γ τ R => by
    obtain ⟨F, ow, R⟩ := R
    have h := R.temps.1
    cases h with
    | fz h =>
      cases h with
      | lst h1 _ h2 => exact ⟨_, SqL.of (R.ex _ _ h1), by rw [h2.length]; exact Nat.le_refl _⟩
  fz := fun p hp => by
    cases hp with
    | head => exact ⟨_, rfl⟩
    | tail _ hp => cases hp
  len := fun H σ Γ τ R => by
    obtain ⟨F, ow, R⟩ := R
    have h := R.temps.1
    cases h with
    | fz h =>
      cases h with
      | lst _ hl h2 => rw [← h2.length]; exact hl
theorem iter_tup {a : Addr} {ds : List D} : IterD C (Itt C.K a) ds [(.ref a, .fz (.tup ds))] where
  go := fun i H σ Γ τ R hi => by
    obtain ⟨F, ow, R⟩ := R
    have h := R.temps.1
    cases h with
    | fz h =>
      cases h with
      | tup h1 _ h2 =>
        obtain ⟨v, e, _⟩ := h2.get (List.getElem?_eq_getElem hi)
        exact ⟨_, v, R.ex.sqT h1, e⟩
  yld := fun i H σ Γ τ x H' R hi y => by
    obtain ⟨F, ow, R⟩ := R
    have h := R.temps.1
    obtain ⟨rfl, y⟩ := y
    cases h with
    | fz h =>
      cases h with
      | tup h1 _ h2 =>
        obtain ⟨d, e, hd⟩ := h2.getV (y _ (R.ex.sqT h1))
        exact ⟨d, e, F, ow, R.push hd⟩
  stop := fun H σ Γ τ R => by
    obtain ⟨F, ow, R⟩ := R
    have h := R.temps.1
    cases h with
    | fz h =>
      cases h with
      | tup h1 _ h2 => exact ⟨_, R.ex.sqT h1, by rw [h2.length]; exact Nat.le_refl _⟩
  fz := fun p hp => by
    cases hp with
    | head => exact ⟨_, rfl⟩
    | tail _ hp => cases hp
  len := fun H σ Γ τ R => by
    obtain ⟨F, ow, R⟩ := R
    have h := R.temps.1
    cases h with
    | fz h =>
      cases h with
      | tup _ hl h2 => rw [← h2.length]; exact hl
theorem iter_scr {a : Addr} {ns : List Int} : IterD C (Itl C.K a) (ns.map D.int) [(.ref a, .fz (.scr ns))] where
  go := fun i H σ Γ τ R hi => by
    obtain ⟨F, ow, R⟩ := R
    have h := R.temps.1
    cases h with
    | fz h =>
      cases h with
      | scr h1 _ =>
        rw [List.length_map] at hi
        exact ⟨_, .int ns[i], R.ex.sqL h1, by rw [List.getElem?_map, List.getElem?_eq_getElem hi]; rfl⟩
  yld := fun i H σ Γ τ x H' R hi y => by
    obtain ⟨F, ow, R⟩ := R
    have h := R.temps.1
    obtain ⟨rfl, y⟩ := y
    cases h with
    | fz h =>
      cases h with
      | scr h1 _ =>
        have e := y _ (R.ex.sqL h1)
        rw [List.length_map] at hi
        rw [List.getElem?_map, List.getElem?_eq_getElem hi] at e
        have e' : V.int ns[i] = x := Option.some.inj e
        subst e'
        exact ⟨.int ns[i], by rw [List.getElem?_map, List.getElem?_eq_getElem hi]; rfl, F, ow, R.push (.int _)⟩
  stop := fun H σ Γ τ R => by
    obtain ⟨F, ow, R⟩ := R
    have h := R.temps.1
    cases h with
    | fz h =>
      cases h with
      | scr h1 _ => exact ⟨_, R.ex.sqL h1, by rw [List.length_map, List.length_map]; exact Nat.le_refl _⟩
  fz := fun p hp => by
    cases hp with
    | head => exact ⟨_, rfl⟩
    | tail _ hp => cases hp
  len := fun H σ Γ τ R => by
    obtain ⟨F, ow, R⟩ := R
    have h := R.temps.1
    cases h with
    | fz h =>
      cases h with
      | scr _ hl => rw [List.length_map]; exact hl
def rangeL (lo : Int) (n : Nat) : List D := (List.range n).map fun i : Nat => D.int (lo + (i : Int))
theorem iter_range {lo : Int} {n : Nat} (hz : n ≤ sizeLine) : IterD C (Itr lo n) (rangeL lo n) [] where
  go := fun i H σ Γ τ R hi => by
    have : (rangeL lo n).length = n := by simp [rangeL]
    rw [this] at hi
    exact hi
  yld := fun i H σ Γ τ x H' R hi y => by
    have : (rangeL lo n).length = n := by simp [rangeL]
    rw [this] at hi
    obtain ⟨rfl, rfl⟩ := y
    exact ⟨.int (lo + i), by simp [rangeL, hi], R.scal (.int _)⟩
  stop := fun H σ Γ τ R => by
    have : (rangeL lo n).length = n := by simp [rangeL]
    rw [this]
    exact Nat.le_refl _
  fz := fun p hp => by cases hp
  len := fun H σ Γ τ R => by simpa [rangeL] using hz
theorem iter_str {z : Str} (hz : z.length ≤ sizeLine) : IterD C (Its z) (z.cps.toList.map fun c => D.str ⟨#[c]⟩) [] where
  go := fun i H σ Γ τ R hi => by
    simp at hi
    exact hi
  yld := fun i H σ Γ τ x H' R hi y => by
    simp at hi
    obtain ⟨rfl, c, e, rfl⟩ := y
    refine ⟨.str ⟨#[c]⟩, ?_, R.scal (.str _)⟩
    rw [List.getElem?_map, Array.getElem?_toList, e]
    rfl
  stop := fun H σ Γ τ R => by
    show z.cps.size ≤ _
    simp
  fz := fun p hp => by cases hp
  len := fun H σ Γ τ R => by
    rw [List.length_map, Array.length_toList]
    exact hz
end
section
variable {X : Cx} {C : Cc} {W : WX} {tg : Expr}
theorem di_list {e : Expr} {f : M T} (hK : C.K = X.K) (he : PE X e (rd C W f)) : PI X tg e (rdI C W (bindM f fun t => bindM (frz t) fun t' => bindM (sqM t') fun q => match q with | .t _ => fun _ => .bad | q => retM q.ds)) :=
  pi_sub (pi_list he) fun σ H R' ⟨Γ, τ, R, w⟩ => by
    refine rd_bind R w fun t Γ1 v H1 R1 w1 => ?_
    obtain ⟨d, Γ2, R2, w2⟩ := R1.frz (Out.wp_bind w1)
    obtain ⟨q, e1, w3⟩ := wp_sqM (Out.wp_bind w2)
    rw [← hK]
    obtain ⟨F, ow, R2⟩ := R2
    obtain ⟨a, vs, rfl, hq, hd, hz⟩ := R2.sq R2.temps.1 e1
    cases d with
    | lst ds => cases e1; exact ⟨a, rfl, ⟨vs, SqL.of hq⟩, w3 _ _ _ ⟨F, ow, R2⟩ iter_list⟩
    | scr ns => cases e1; exact ⟨a, rfl, ⟨vs, hq⟩, w3 _ _ _ ⟨F, ow, R2⟩ iter_scr⟩
    | tup ds => cases e1; exact w3.elim
    | _ => cases e1
theorem di_tup {e : Expr} {f : M T} (hK : C.K = X.K) (he : PE X e (rd C W f)) : PI X tg e (rdI C W (bindM f fun t => bindM (frz t) fun t' => bindM (sqM t') fun q => match q with | .t ds => retM ds | _ => fun _ => .bad)) :=
  pi_sub (pi_tup he) fun σ H R' ⟨Γ, τ, R, w⟩ => by
    refine rd_bind R w fun t Γ1 v H1 R1 w1 => ?_
    obtain ⟨d, Γ2, R2, w2⟩ := R1.frz (Out.wp_bind w1)
    obtain ⟨q, e1, w3⟩ := wp_sqM (Out.wp_bind w2)
    rw [← hK]
    obtain ⟨F, ow, R2⟩ := R2
    obtain ⟨a, vs, rfl, hq, hd, hz⟩ := R2.sq R2.temps.1 e1
    cases d with
    | tup ds => cases e1; exact ⟨a, rfl, ⟨vs, R2.ex.sqT hq⟩, w3 _ _ _ ⟨F, ow, R2⟩ iter_tup⟩
    | lst ds => cases e1; exact w3.elim
    | scr ns => cases e1; exact w3.elim
    | _ => cases e1
/-- a list or a tuple -/
theorem pi_seq {e : Expr} {te : TE} (he : PE X e te) : PI X tg e (fun σ H R => te σ H fun x H1 => ∃ a, x = .ref a ∧ ((∃ xs, SqL X.K H1 a xs) ∧ R (Itl X.K a) H1 ∨ (∃ xs, SqT X.K H1 a xs) ∧ R (Itt X.K a) H1)) := by
  refine ⟨fun pins s σ H R I h => ?_⟩
  refine wpAny_mono (he.run pins s σ H _ I h) (fun v s1 hv => ?_) fun _ _ z => z
  obtain ⟨x, H1, I1, r1, a, rfl, q1⟩ := hv
  cases r1
  rcases q1 with ⟨⟨xs, hq⟩, q⟩ | ⟨⟨xs, hq⟩, q⟩
  · obtain ⟨its, rv, pl, hz⟩ := I1.list hq
    refine PySem.wpAny_pyIter_list pl.isList ?_
    refine ⟨s1.heap.objs.size, [s1.heap.objs.size], _, _, H1, rfl, I1.kept (t' := s1.toks) fun b o e => Heap.get?_push_of_some _ e, turn_list a _, ⟨_, Heap.get?_push_size _ rfl, rfl, rfl⟩, fun b hb => ?_, q⟩
    have e : b = s1.heap.objs.size := by simpa using hb
    subst e
    exact I1.fpOk (Nat.le_refl _) (I1.hok.fresh (Nat.le_refl _))
  · obtain ⟨its, rv, pl, hz⟩ := I1.tuple hq
    refine PySem.wpAny_pyIter_tuple (show s1.heap.IsTuple a its.toArray from pl) ?_
    refine ⟨s1.heap.objs.size, [s1.heap.objs.size], _, _, H1, rfl, I1.kept (t' := s1.toks) fun b o e => Heap.get?_push_of_some _ e, turn_tuple a _, ⟨_, Heap.get?_push_size _ rfl, rfl, rfl⟩, fun b hb => ?_, q⟩
    have e : b = s1.heap.objs.size := by simpa using hb
    subst e
    exact I1.fpOk (Nat.le_refl _) (I1.hok.fresh (Nat.le_refl _))
theorem di_seq {e : Expr} {f : M T} (hK : C.K = X.K) (he : PE X e (rd C W f)) : PI X tg e (rdI C W (seqIt f)) :=
  pi_sub (pi_seq he) fun σ H R' ⟨Γ, τ, R, w⟩ => by
    refine rd_bind R w fun t Γ1 v H1 R1 w1 => ?_
    obtain ⟨d, Γ2, R2, w2⟩ := R1.frz (Out.wp_bind w1)
    obtain ⟨q, e1, w3⟩ := wp_sqM (Out.wp_bind w2)
    rw [← hK]
    obtain ⟨F, ow, R2⟩ := R2
    obtain ⟨a, vs, rfl, hq, hd, hz⟩ := R2.sq R2.temps.1 e1
    cases d with
    | lst ds => cases e1; exact ⟨a, rfl, .inl ⟨⟨vs, SqL.of hq⟩, w3 _ _ _ ⟨F, ow, R2⟩ iter_list⟩⟩
    | scr ns => cases e1; exact ⟨a, rfl, .inl ⟨⟨vs, hq⟩, w3 _ _ _ ⟨F, ow, R2⟩ iter_scr⟩⟩
    | tup ds => cases e1; exact ⟨a, rfl, .inr ⟨⟨vs, R2.ex.sqT hq⟩, w3 _ _ _ ⟨F, ow, R2⟩ iter_tup⟩⟩
    | _ => cases e1
def rngOk (lo hi : Int) : Bool := decide (-(2 ^ 62) ≤ lo) && decide (lo < 2 ^ 62) && decide (-(2 ^ 62) ≤ hi) && decide (hi < 2 ^ 62) && decide ((hi - lo).toNat ≤ sizeLine)
def range1 (f : M T) : M (List D) := bindM (intM f) fun n => bindM (guardM (rngOk 0 n)) fun _ => retM (rangeL 0 n.toNat)
def range2 (f g : M T) : M (List D) := bindM (intM f) fun lo => bindM (intM g) fun hi => bindM (guardM (rngOk lo hi)) fun _ => retM (rangeL lo (hi - lo).toNat)
theorem di_range1 {a : Expr} {f : M T} {p pos : Pos} (hg : Gl X "range") (hm : X.mg "range" = none) (ha : PE X a (rd C W f)) (hs : starEach [a] X.env = [(false, eval a X.env)] := by rfl) : PI X tg (.Call (.Name "range" p) [a] [] pos) (rdI C W (range1 f)) :=
  pi_sub (pi_range1 hg hm (pa_cons ha pa_nil hs) hs) fun σ H R' ⟨Γ, τ, R, w⟩ => by
    refine intM_bind R w fun n Γ1 H1 R1 w1 => ?_
    obtain ⟨e, w2⟩ := wp_guardM (Out.wp_bind w1)
    simp only [rngOk, Bool.and_eq_true, decide_eq_true_eq] at e
    exact ⟨n, rfl, e.1.1.2, e.1.2, w2 _ _ [] R1 (iter_range (by simpa using e.2))⟩
theorem di_range2 {a b : Expr} {f g : M T} {p pos : Pos} (hg : Gl X "range") (hm : X.mg "range" = none) (ha : PE X a (rd C W f)) (hb : PE X b (rd C W g)) (hs : starEach [a, b] X.env = [(false, eval a X.env), (false, eval b X.env)] := by rfl) (hs2 : starEach [b] X.env = [(false, eval b X.env)] := by rfl) :
    PI X tg (.Call (.Name "range" p) [a, b] [] pos) (rdI C W (range2 f g)) :=
  pi_sub (pi_range2 hg hm (pa_cons ha (pa_cons hb pa_nil hs2) (by rw [hs, hs2])) hs hs2) fun σ H R' ⟨Γ, τ, R, w⟩ => by
    refine intM_bind R w fun lo Γ1 H1 R1 w1 => ?_
    refine intM_bind R1 w1 fun hi Γ2 H2 R2 w2 => ?_
    obtain ⟨e, w3⟩ := wp_guardM (Out.wp_bind w2)
    simp only [rngOk, Bool.and_eq_true, decide_eq_true_eq] at e
    exact ⟨lo, hi, rfl, ⟨e.1.1.1.1, e.1.1.1.2, e.1.1.2, e.1.2⟩, w3 _ _ [] R2 (iter_range e.2)⟩
def strIt (f : M T) : M (List D) := bindM f fun t => bindM (lookM t) fun d => match d with
  | .str z => bindM (guardM (decide (z.length ≤ sizeLine))) fun _ => retM (z.cps.toList.map fun c => D.str ⟨#[c]⟩)
  | _ => fun _ => .bad
theorem di_str {e : Expr} {f : M T} (he : PE X e (rd C W f)) : PI X tg e (rdI C W (strIt f)) :=
  pi_sub (pi_str he) fun σ H R' ⟨Γ, τ, R, w⟩ => by
    refine rd_bind R w fun t Γ1 v H1 R1 w1 => ?_
    obtain ⟨d, e1, w2⟩ := wp_lookM (Out.wp_bind w1)
    obtain ⟨F, ow, R1⟩ := R1
    have hd := R1.look R1.temps.1 e1
    cases d with
    | str z =>
      cases hd
      obtain ⟨e2, w3⟩ := wp_guardM (Out.wp_bind w2)
      exact ⟨z, rfl, w3 _ _ [] ⟨F, ow, R1.pop⟩ (iter_str (of_decide_eq_true e2))⟩
    | _ => exact w2.elim
end

/-! ### statements -/
inductive Flow where
  | next | ret (t : T) | brk | cont
def NoAl (τ : Hand) : Prop := ∀ p ∈ τ, ∀ i, p.2 ≠ .al i
def rdS (C : Cc) (W : WX) (f : M Flow) : TS := fun D σ H => ∃ Γ τ, NoAl τ ∧ Rel C σ H Γ τ ∧ (f Γ).Wp (fun fl Γ' => match fl with
  | .next => ∀ σ' H', Rel C σ' H' Γ' τ → D.nx σ' H'
  | .ret t => (∀ i, t ≠ .al i) ∧ ∀ v σ' H', Rel C σ' H' Γ' ((v, t) :: τ) → D.rt v H'
  | .brk => ∀ σ' H', Rel C σ' H' Γ' τ → D.bk σ' H'
  | .cont => ∀ σ' H', Rel C σ' H' Γ' τ → D.ct σ' H') (fun x Γ' => ∀ cls d σ' H', RelX C σ' H' Γ' τ cls d x → W cls d σ' H')
def seqM (f g : M Flow) : M Flow := bindM f fun fl => match fl with
  | .next => g
  | fl => retM fl
def skipM : M Flow := retM .next
def exprM (f : M T) : M Flow := bindM f fun _ => retM .next
/-- slot i owns what the call hands on -/
def moveT (t : T) : M T := match t with
  | .al i => fun Γ => match Γ[i]? with
    | some (some t') => .ok t' (Γ.set i none)
    | _ => .bad
  | t => fun Γ => .ok t Γ
def retS (f : M T) : M Flow := bindM f fun t => bindM (settle t) fun t' => retM (.ret t')
def setM (i : Nat) (f : M T) : M Flow := bindM f fun t => bindM (settle t) fun t' => fun Γ => .ok .next (Γ.set i (some t'))
def ifS (c : M Bool) (f g : M Flow) : M Flow := ifM c f g
section
variable {X : Cx} {C : Cc} {W : WX}
theorem wx_any {σ : St} {τ : Hand} {x : Exn} {Γ' : Env} (h : ∀ cls d σ' H', RelX C σ' H' Γ' τ cls d x → W cls d σ' H') : wx C W σ τ x Γ' := fun cls d H' R => h cls d σ H' R
abbrev wxS (C : Cc) (W : WX) (τ : Hand) : Exn → Env → Prop := fun x Γ' => ∀ cls d σ' H', RelX C σ' H' Γ' τ cls d x → W cls d σ' H'
/-- an expression within a statement -/
theorem rdS_bind {α : Type} {f : M T} {k : T → M α} {σ : St} {H : Hp} {Γ : Env} {τ : Hand} {Q : VK} {P : α → Env → Prop} (R : Rel C σ H Γ τ) (h : (bindM f k Γ).Wp P (wxS C W τ))
    (hq : ∀ t Γ' v H', Rel C σ H' Γ' ((v, t) :: τ) → (k t Γ').Wp P (wxS C W τ) → Q v H') : rd C W f σ H Q :=
  ⟨Γ, τ, R, Out.wp_mono (Out.wp_bind h) (fun t Γ' w v H' R' => hq t Γ' v H' R' w) (fun _ _ z => wx_any z)⟩
theorem rdS_bindT {α : Type} {f : M Bool} {k : Bool → M α} {σ : St} {H : Hp} {Γ : Env} {τ : Hand} {Q : Bool → Hp → Prop} {P : α → Env → Prop} (R : Rel C σ H Γ τ) (h : (bindM f k Γ).Wp P (wxS C W τ))
    (hq : ∀ b Γ' H', Rel C σ H' Γ' τ → (k b Γ').Wp P (wxS C W τ) → Q b H') : rdT C W f σ H Q :=
  ⟨Γ, τ, R, Out.wp_mono (Out.wp_bind h) (fun b Γ' w H' R' => hq b Γ' H' R' w) (fun _ _ z => wx_any z)⟩
theorem rdS_bindI {α : Type} {f : M (List D)} {k : List D → M α} {σ : St} {H : Hp} {Γ : Env} {τ : Hand} {Q : It → Hp → Prop} {P : α → Env → Prop} (R : Rel C σ H Γ τ) (h : (bindM f k Γ).Wp P (wxS C W τ))
    (hq : ∀ ds Γ' J H' υ, Rel C σ H' Γ' (υ ++ τ) → IterD C J ds υ → (k ds Γ').Wp P (wxS C W τ) → Q J H') : rdI C W f σ H Q :=
  ⟨Γ, τ, R, Out.wp_mono (Out.wp_bind h) (fun ds Γ' w J H' υ R' I => hq ds Γ' J H' υ R' I w) (fun _ _ z => wx_any z)⟩
theorem ds_nil : PSs X [] (rdS C W skipM) := pss_sub pss_nil fun D σ H ⟨Γ, τ, n, R, w⟩ => w σ H R
theorem ds_pass {pos : Pos} : PS X (.Pass pos) (rdS C W skipM) := ps_sub ps_pass fun D σ H ⟨Γ, τ, n, R, w⟩ => w σ H R
theorem ds_break {pos : Pos} : PS X (.Break pos) (rdS C W (retM .brk)) := ps_sub ps_break fun D σ H ⟨Γ, τ, n, R, w⟩ => w σ H R
theorem ds_continue {pos : Pos} : PS X (.Continue pos) (rdS C W (retM .cont)) := ps_sub ps_continue fun D σ H ⟨Γ, τ, n, R, w⟩ => w σ H R
theorem ds_doc {x j pos pos'} : PS X (.Expr (.Constant (.str x) j pos) pos') (rdS C W skipM) := ps_sub ps_doc fun D σ H ⟨Γ, τ, n, R, w⟩ => w σ H R
theorem ds_cons {st : Stmt} {rest : List Stmt} {f g : M Flow} (h1 : PS X st (rdS C W f)) (h2 : PSs X rest (rdS C W g)) : PSs X (st :: rest) (rdS C W (seqM f g)) := pss_sub (pss_cons h1 h2) fun D σ H ⟨Γ, τ, n, R, w⟩ => by
  refine ⟨Γ, τ, n, R, Out.wp_mono (Out.wp_bind w) (fun fl Γ' w' => ?_) (fun _ _ z => z)⟩
  cases fl with
  | next => exact fun σ' H' R' => ⟨Γ', τ, n, R', w'⟩
  | ret t => exact w'
  | brk => exact w'
  | cont => exact w'
theorem ds_one {st : Stmt} {f : M Flow} (h1 : PS X st (rdS C W f)) : PSs X [st] (rdS C W f) := pss_one h1
theorem ds_expr {e : Expr} {f : M T} {pos : Pos} (he : PE X e (rd C W f)) (hs : swapsWith e none pos.line X.env = pure false := by rfl) : PS X (.Expr e pos) (rdS C W (exprM f)) := ps_sub (ps_expr he hs) fun D σ H ⟨Γ, τ, n, R, w⟩ =>
  rdS_bind R w fun t Γ1 v H1 R1 w1 => w1 σ H1 R1.pop
theorem ds_ret {e : Expr} {f : M T} {pos : Pos} (he : PE X e (rd C W f)) : PS X (.Return (some e) pos) (rdS C W (retS f)) := ps_sub (ps_ret he) fun D σ H ⟨Γ, τ, n, R, w⟩ => by
  refine rdS_bind R w fun t Γ1 v H1 R1 w1 => ?_
  obtain ⟨t', Γ2, _, R2, w2⟩ := R1.settle (Out.wp_bind w1)
  exact w2.2 v σ H1 R2
theorem ds_retN {pos : Pos} : PS X (.Return none pos) (rdS C W (retM (.ret (.fz .non)))) := ps_sub ps_retN fun D σ H ⟨Γ, τ, n, R, w⟩ => w.2 .non σ H (R.scal .non)
theorem ds_set {i : Nat} {x : Str} {e : Expr} {f : M T} {pos pos' : Pos} (hN : X.N.Nodup) (hi : X.N[i]? = some x) (hx : Loc X.env.scope x) (hp : C.pin i = none) (he : PE X e (rd C W f)) (hs : swapsWith e (some (.Name x pos')) pos.line X.env = pure false := by rfl)
    (hf : X.fn x = true ∨ X.env.scope.names.lookup x = some .local := by first | exact .inl rfl | exact .inr rfl | assumption) : PS X (.Assign [.Name x pos'] e pos) (rdS C W (setM i f)) := ps_sub (ps_set hN hi hx he hs hf) fun D σ H ⟨Γ, τ, n, R, w⟩ => by
  refine rdS_bind R w fun t Γ1 v H1 R1 w1 => ?_
  obtain ⟨t', Γ2, na, R2, w2⟩ := R1.settle (Out.wp_bind w1)
  exact w2 _ _ (R2.store na hp (fun p hp' => n p hp' i))
theorem ds_if {c : Expr} {a b : List Stmt} {fc : M Bool} {f g : M Flow} {pos : Pos} (hc : PT X c (rdT C W fc)) (ha : PSs X a (rdS C W f)) (hb : PSs X b (rdS C W g)) : PS X (.If c a b pos) (rdS C W (ifS fc f g)) := ps_sub (ps_if hc ha hb) fun D σ H ⟨Γ, τ, n, R, w⟩ => by
  refine rdS_bindT R w fun b Γ1 H1 R1 w1 => ?_
  cases b with
  | true => exact ⟨Γ1, τ, n, R1, w1⟩
  | false => exact ⟨Γ1, τ, n, R1, w1⟩
end
end DL
/-! targets, loops, comprehensions -/
namespace DL
open PySem L2

section
variable {C : Cc} {σ σ' : St} {F F' H H' : Hp} {Γ Γ' : Env} {τ τ' υ : Hand} {ow ow' : Addr → Option Root} {v : V} {t : T} {d : D}
/-- frozen things in hand are laid on another hand -/
theorem Rl.relay (hυ : ∀ p ∈ υ, ∃ d, p.2 = .fz d) (R : Rl C σ H Γ (υ ++ τ) F ow) (R' : Rl C σ' H' Γ' τ' F' ow') (hs : Sub F F') : Rl C σ' H' Γ' (υ ++ τ') F' ow' := by
  induction υ with
  | nil => exact R'
  | cons p υ ih =>
    obtain ⟨w, t'⟩ := p
    obtain ⟨d, e⟩ := hυ (w, t') List.mem_cons_self
    have e' : t' = .fz d := e
    subst e'
    have h := R.temps.1
    cases h with
    | fz h => exact (ih (fun p hp => hυ p (List.mem_cons_of_mem _ hp)) R.pop).push (h.mono hs)
/-- what lies under the top is let go -/
theorem Rel.under (R : Rel C σ H Γ ((v, t) :: (υ ++ τ))) (n : ∀ i, t ≠ .al i) : Rel C σ H Γ ((v, t) :: τ) := by
  obtain ⟨F, ow, R⟩ := R
  have key : ∀ {Q : Addr → Prop} {a : Addr} {r : Root}, ow a = some r → r ≠ .inr (υ ++ τ).length → r ≠ .inr τ.length → (ow a).bind (fun r => if r = .inr (υ ++ τ).length then some (.inr τ.length) else if r = .inr τ.length then none else some r) = some r := fun {Q a r} e n1 n2 => by
    rw [e]
    show (if r = .inr (υ ++ τ).length then some (Sum.inr τ.length) else if r = .inr τ.length then none else some r) = some r
    rw [if_neg n1, if_neg n2]
  refine ⟨F, _, R.reown (fun r => if r = .inr (υ ++ τ).length then some (.inr τ.length) else if r = .inr τ.length then none else some r) R.len R.pins (fun i t' e => ?_) ⟨?_, ?_⟩⟩
  · obtain ⟨w, h1, h2⟩ := R.slots i t' e
    refine ⟨w, h1, h2.keep (Sub.refl F) (fun _ _ _ q => q) (fun a q => ⟨_, q, ?_⟩)⟩
    rw [if_neg (fun z => by cases z), if_neg (fun z => by cases z)]
  · refine TempOk.of ((R.temps.1.own n).keep (Sub.refl F) (fun _ _ _ q => q) (fun a q => ?_))
    show (ow a).bind _ = _
    rw [show ow a = some (.inr (υ ++ τ).length) from q]
    show (if (Sum.inr (υ ++ τ).length : Root) = .inr (υ ++ τ).length then some (Sum.inr τ.length) else _) = _
    rw [if_pos rfl]
  · have hd : Rl C σ H Γ τ F ow := R.pop.drop
    refine hd.temps.keep (Sub.refl F) (fun _ _ _ _ _ q => q) (fun a j hj q => key (Q := fun _ => True) q (fun z => ?_) (fun z => ?_))
    · have z' : j = (υ ++ τ).length := Sum.inr.inj z
      rw [List.length_append] at z'
      omega
    · have z' : j = τ.length := Sum.inr.inj z
      omega
theorem Rl.noAlias (R : Rl C σ H Γ τ F ow) {i : Nat} (hc : C.cv i = true) : ∀ p ∈ τ, p.2 ≠ .al i := by
  have go : ∀ (τ : Hand), TempsOk C σ F H ow τ → ∀ p ∈ τ, p.2 ≠ .al i := by
    intro τ
    induction τ with
    | nil => intro _ p hp; cases hp
    | cons q τ ih =>
      intro h p hp
      obtain ⟨w, t'⟩ := q
      cases hp with
      | head =>
        intro e
        have e' : t' = .al i := e
        subst e'
        have z := h.1.2
        rw [hc] at z
        cases z
      | tail _ hp => exact ih h.2 p hp
  exact go τ R.temps
end

/-! ### targets -/
def rdG (C : Cc) (is : List Nat) (g : D → M Unit) : TG := fun v σ H Q => ∃ Γ τ d, (∀ p ∈ τ, ∀ i ∈ is, p.2 ≠ .al i) ∧ Rel C σ H Γ ((v, .fz d) :: τ) ∧
  (g d Γ).Wp (fun _ Γ' => ∀ σ' H', (∀ i, i ∉ is → σ'[i]? = σ[i]?) → σ'.length = σ.length → Rel C σ' H' Γ' τ → Q σ' H') (fun _ _ => False)
def nameG (i : Nat) (d : D) : M Unit := fun Γ => .ok () (Γ.set i (some (.fz d)))
def namesG : List Nat → List D → M Unit
  | [], [] => retM ()
  | i :: is, d :: ds => bindM (nameG i d) fun _ => namesG is ds
  | _, _ => fun _ => .bad
def tupG (is : List Nat) (d : D) : M Unit := match d with
  | .tup ds => namesG is ds
  | _ => fun _ => .bad
def gNames : List Nat → TGs
  | [] => gNil
  | i :: is => gCons (gName i) (gNames is)
section
variable {X : Cx} {C : Cc}
theorem pg_sub' {tg : Expr} {t t' : TG} (h : PG X tg t) (m : ∀ v σ H Q, t' v σ H Q → t v σ H Q) : PG X tg t' := ⟨fun pins s σ H v u Q I r q => h.run pins s σ H v u Q I r (m v σ H Q q)⟩
theorem dg_name {i : Nat} {x : Str} {pos : Pos} (hp : C.pin i = none) (hN : X.N.Nodup) (hi : X.N[i]? = some x) (hx : Loc X.env.scope x) (hf : X.fn x = true ∨ X.env.scope.names.lookup x = some .local := by first | exact .inl rfl | exact .inr rfl | assumption) : PG X (.Name x pos) (rdG C [i] (nameG i)) :=
  pg_sub' (pg_name hN hi hx hf) fun v σ H Q ⟨Γ, τ, d, na, R, w⟩ => by
    refine w _ _ (fun j hj => ?_) (by simp) (R.store (fun _ z => by cases z) hp (fun p hp => na p hp i List.mem_cons_self))
    rw [List.getElem?_set_ne]
    intro z
    subst z
    exact hj List.mem_cons_self
theorem names_go {C : Cc} : ∀ {is : List Nat} {ds : List D} {vs : List V} {σ : St} {H F : Hp} {ow : Addr → Option Root} {Γ : Env} {τ : Hand} {Q : St → Hp → Prop}, (∀ i ∈ is, C.pin i = none) → (∀ p ∈ τ, ∀ i ∈ is, p.2 ≠ .al i) → Rl C σ H Γ τ F ow → Dts C.K C.cl F vs ds →
    (namesG is ds Γ).Wp (fun _ Γ' => ∀ σ' H', (∀ i, i ∉ is → σ'[i]? = σ[i]?) → σ'.length = σ.length → Rel C σ' H' Γ' τ → Q σ' H') (fun _ _ => False) → gNames is vs σ H Q
  | [], [], _, σ, H, _, _, _, _, _, _, _, R, .nil, w => ⟨rfl, w σ H (fun _ _ => rfl) rfl ⟨_, _, R⟩⟩
  | i :: is, d :: ds, _, σ, H, F, ow, Γ, τ, Q, hp, na, R, .cons (v := v) h hs, w => by
    refine ⟨v, _, rfl, ?_⟩
    have R1 : Rel C (σ.set i (some v)) H (Γ.set i (some (.fz d))) τ := Rel.store ⟨F, ow, R.push h⟩ (fun _ z => by cases z) (hp i List.mem_cons_self) (fun p hp => na p hp i List.mem_cons_self)
    have e1 : ∃ ow', Rl C (σ.set i (some v)) H (Γ.set i (some (.fz d))) τ F ow' := by
      refine ⟨fun a => (ow a).bind fun r => if r = .inl i then none else some r, R.reown (fun r => if r = .inl i then none else some r) (by simpa using R.len) (fun j w e => ?_) (fun j t' e => ?_) ?_⟩
      · have hj : i ≠ j := fun z => by
          subst z
          rw [hp i List.mem_cons_self] at e
          cases e
        rw [List.getElem?_set_ne hj]
        exact R.pins j w e
      · by_cases hj : i = j
        · subst hj
          have hlt : i < Γ.length := by
            have := (List.getElem?_eq_some_iff.mp e).1
            simpa using this
          rw [List.getElem?_set_self hlt] at e
          cases e
          have hl : i < σ.length := by rw [R.len]; exact hlt
          exact ⟨v, by rw [List.getElem?_set_self hl], .fz h⟩
        · rw [List.getElem?_set_ne hj] at e
          obtain ⟨w, h1, h2⟩ := R.slots j t' e
          refine ⟨w, by rw [List.getElem?_set_ne hj]; exact h1, h2.keep (Sub.refl F) (fun _ _ _ q => q) (fun a q => ⟨_, q, ?_⟩)⟩
          rw [if_neg (fun z => by cases z; exact hj rfl)]
      · have go : ∀ (υ : Hand), (∀ p ∈ υ, p.2 ≠ .al i) → TempsOk C σ F H ow υ → TempsOk C (σ.set i (some v)) F H (fun a => (ow a).bind fun r => if r = .inl i then none else some r) υ := by
          intro υ
          induction υ with
          | nil => intro _ _; trivial
          | cons p υ ih =>
            intro ha h
            obtain ⟨w, t'⟩ := p
            refine ⟨h.1.keep (Sub.refl F) (fun _ _ _ q => q) (fun a q => ?_) (fun j ej q => ?_), ih (fun p hp => ha p (List.mem_cons_of_mem _ hp)) h.2⟩
            · show (ow a).bind _ = _
              rw [show ow a = some (.inr υ.length) from q]
              show (if (Sum.inr υ.length : Root) = .inl i then none else some (Sum.inr υ.length)) = _
              rw [if_neg (fun z => by cases z)]
            · have hj : i ≠ j := fun z => by
                subst z
                exact ha (w, t') List.mem_cons_self ej
              rw [List.getElem?_set_ne hj]
              exact q
        exact go τ (fun p hp => na p hp i List.mem_cons_self) R.temps
    obtain ⟨ow', R2⟩ := e1
    refine names_go (fun j hj => hp j (List.mem_cons_of_mem _ hj)) (fun p hp j hj => na p hp j (List.mem_cons_of_mem _ hj)) R2 hs ?_
    refine Out.wp_mono (show (namesG is ds (Γ.set i (some (.fz d)))).Wp _ _ from w) (fun _ Γ' w' σ' H' e l R' => w' σ' H' (fun j hj => ?_) (by rw [l, List.length_set]) R') (fun _ _ z => z)
    have n1 : j ≠ i := fun z => hj (by rw [z]; exact List.mem_cons_self)
    have n2 : j ∉ is := fun z => hj (List.mem_cons_of_mem _ z)
    rw [e j n2, List.getElem?_set_ne (Ne.symm n1)]
  | [], _ :: _, _, _, _, _, _, _, _, _, _, _, _, _, w => w.elim
  | _ :: _, [], _, _, _, _, _, _, _, _, _, _, _, _, w => w.elim
theorem dg_tup {tg : Expr} {n : Nat} (is : List Nat) (hK : C.K = X.K) (hn : is.length = n) (hp : ∀ i ∈ is, C.pin i = none) (h : PG X tg (gTup X.K n (gNames is))) : PG X tg (rdG C is (tupG is)) :=
  pg_sub' h fun v σ H Q ⟨Γ, τ, d, na, R, w⟩ => by
    cases d with
    | tup ds =>
      obtain ⟨F, ow, R⟩ := R
      have z := R.temps.1
      cases z with
      | fz z =>
        cases z with
        | tup h1 _ h2 =>
          refine ⟨_, _, rfl, by rw [← hK]; exact R.ex.sqT h1, ?_, names_go hp na R.pop h2 w⟩
          rw [h2.length, ← hn]
          have len : ∀ (is : List Nat) (ds : List D) (Γ : Env), (namesG is ds Γ).Wp (fun _ _ => True) (fun _ _ => True) → ds.length = is.length := by
            intro is
            induction is with
            | nil =>
              intro ds Γ w
              cases ds with
              | nil => rfl
              | cons _ _ => exact w.elim
            | cons i is ih =>
              intro ds Γ w
              cases ds with
              | nil => exact w.elim
              | cons d ds => exact congrArg (· + 1) (ih ds _ (Out.wp_bind (show (bindM (nameG i d) (fun _ => namesG is ds) Γ).Wp _ _ from w)))
          exact len is ds Γ (Out.wp_mono w (fun _ _ _ => trivial) (fun _ _ _ => trivial))
    | _ => exact w.elim
end

/-! ### for -/
def loopM (g : D → M Unit) (body : M Flow) : List D → M Flow
  | [] => retM .next
  | d :: ds => bindM (g d) fun _ => bindM body fun fl => match fl with
    | .next => loopM g body ds
    | .cont => loopM g body ds
    | .brk => retM .next
    | .ret t => retM (.ret t)
def forM (fi : M (List D)) (g : D → M Unit) (body : M Flow) : M Flow := bindM fi fun ds => loopM g body ds
section
variable {X : Cx} {C : Cc} {W : WX}
theorem wp_target {α : Type} {o : Out Unit} {k : Unit → M α} {P : α → Env → Prop} {E : Exn → Env → Prop} (h : (o.bind k).Wp P E) (hn : ∀ x Γ, o ≠ .exc x Γ) : o.Wp (fun u Γ => (k u Γ).Wp P E) (fun _ _ => False) := by
  cases o with
  | ok u Γ => exact h
  | exc x Γ => exact absurd rfl (hn x Γ)
  | bad => exact h
theorem namesG_noexc : ∀ (is : List Nat) (ds : List D) (Γ : Env) (x : Exn) (Γ' : Env), namesG is ds Γ ≠ .exc x Γ'
  | [], [], _, _, _ => fun z => by cases z
  | i :: is, d :: ds, Γ, x, Γ' => fun z => namesG_noexc is ds _ x Γ' z
  | [], _ :: _, _, _, _ => fun z => by cases z
  | _ :: _, [], _, _, _ => fun z => by cases z
/-- a target's store raises nothing -/
def Quiet (g : D → M Unit) : Prop := ∀ d Γ x Γ', g d Γ ≠ .exc x Γ'
theorem quiet_name (i : Nat) : Quiet (nameG i) := fun _ _ _ _ z => by cases z
theorem quiet_tup (is : List Nat) : Quiet (tupG is) := fun d Γ x Γ' z => by
  cases d with
  | tup ds => exact namesG_noexc is ds Γ x Γ' z
  | _ => cases z
theorem ds_for {tg iter : Expr} {body : List Stmt} {fi : M (List D)} {g : D → M Unit} {is : List Nat} {fb : M Flow} {pos : Pos} (hp : PassesOwn (model X.prog X.w) X.A X.env X.xe) (hc : X.calm = true) (hq : Quiet g) (hi : PI X tg iter (rdI C W fi)) (hg : PG X tg (rdG C is g)) (hb : PSs X body (rdS C W fb))
    (hs : ∀ x, foldedSetIterable iter X.env x = pure x := by intro _; rfl) : PS X (.For tg iter body [] pos) (rdS C W (forM fi g fb)) := ps_sub (ps_for hp hc hi hg hb hs) fun D σ H ⟨Γ, τ, n, R, w⟩ => by
  refine rdS_bindI R w fun ds Γ1 J H1 υ R1 I w1 => ?_
  have nal : NoAl (υ ++ τ) := fun p hp i => by
    rcases List.mem_append.mp hp with h | h
    · exact I.noal p h i
    · exact n p h i
  refine ⟨fun i m σ H => m = ds.length - i ∧ i ≤ ds.length ∧ ∃ Γ, Rel C σ H Γ (υ ++ τ) ∧ (loopM g fb (ds.drop i) Γ).Wp (fun fl Γ' => match fl with
    | .next => ∀ σ' H', Rel C σ' H' Γ' τ → D.nx σ' H'
    | .ret t => (∀ i, t ≠ .al i) ∧ ∀ v σ' H', Rel C σ' H' Γ' ((v, t) :: τ) → D.rt v H'
    | .brk => ∀ σ' H', Rel C σ' H' Γ' τ → D.bk σ' H'
    | .cont => ∀ σ' H', Rel C σ' H' Γ' τ → D.ct σ' H') (wxS C W τ), ⟨ds.length, by simp, Nat.zero_le _, Γ1, R1, by rw [List.drop_zero]; exact w1⟩, ?_⟩
  rintro i m σ2 H2 ⟨rfl, hle, Γ2, R2, w2⟩
  by_cases hlt : i < ds.length
  · refine .inr ⟨I.go i H2 σ2 Γ2 τ R2 hlt, fun σ' H' => ∃ Γ, Rel C σ' H' Γ (υ ++ τ) ∧ (loopM g fb (ds.drop (i + 1)) Γ).Wp _ (wxS C W τ), fun σ' H' ⟨Γ3, R3, w3⟩ => ⟨ds.length - (i + 1), by omega, rfl, hlt, Γ3, R3, w3⟩, fun x H' y => ?_⟩
    obtain ⟨d, e, R3⟩ := I.yld i H2 σ2 Γ2 τ x H' R2 hlt y
    have ed : ds.drop i = d :: ds.drop (i + 1) := by
      rw [List.drop_eq_getElem_cons hlt]
      rw [List.getElem?_eq_getElem hlt] at e
      rw [Option.some.inj e]
    rw [ed] at w2
    refine ⟨Γ2, υ ++ τ, d, fun p hp i _ => nal p hp i, R3, Out.wp_mono (wp_target w2 (hq d Γ2)) (fun _ Γ3 w3 σ' H'' _ _ R4 => ?_) (fun _ _ z => z)⟩
    refine ⟨Γ3, υ ++ τ, nal, R4, Out.wp_mono (Out.wp_bind w3) (fun fl Γ4 w4 => ?_) (fun x Γ4 w4 cls dd σ5 H5 RX => w4 cls dd σ5 H5 RX.drop)⟩
    cases fl with
    | next => exact fun σ5 H5 R5 => ⟨Γ4, R5, w4⟩
    | cont => exact fun σ5 H5 R5 => ⟨Γ4, R5, w4⟩
    | brk => exact fun σ5 H5 R5 => w4 σ5 H5 R5.drop
    | ret t => exact ⟨w4.1, fun v σ5 H5 R5 => w4.2 v σ5 H5 (R5.under w4.1)⟩
  · have e : i = ds.length := by omega
    subst e
    rw [List.drop_length] at w2
    exact .inl ⟨I.stop H2 σ2 Γ2 τ R2, w2 σ2 H2 R2.drop⟩
/-- while, so many turns at the most -/
def whileM (c : M Bool) (body : M Flow) : Nat → M Flow
  | 0 => fun _ => .bad
  | n + 1 => bindM c fun b => if b then bindM body fun fl => match fl with
      | .next => whileM c body n
      | .cont => whileM c body n
      | .brk => retM .next
      | .ret t => retM (.ret t)
    else retM .next
theorem ds_while {c : Expr} {body : List Stmt} {fc : M Bool} {fb : M Flow} {pos : Pos} (k : Nat) (hp : PassesOwn (model X.prog X.w) X.A X.env X.xe) (hc : PT X c (rdT C W fc)) (hb : PSs X body (rdS C W fb)) : PS X (.While c body [] pos) (rdS C W (whileM fc fb k)) := ps_sub (ps_while hp hc hb) fun D σ H ⟨Γ, τ, n, R, w⟩ => by
  refine ⟨fun m σ H => ∃ Γ, Rel C σ H Γ τ ∧ (whileM fc fb m Γ).Wp (fun fl Γ' => match fl with
    | .next => ∀ σ' H', Rel C σ' H' Γ' τ → D.nx σ' H'
    | .ret t => (∀ i, t ≠ .al i) ∧ ∀ v σ' H', Rel C σ' H' Γ' ((v, t) :: τ) → D.rt v H'
    | .brk => ∀ σ' H', Rel C σ' H' Γ' τ → D.bk σ' H'
    | .cont => ∀ σ' H', Rel C σ' H' Γ' τ → D.ct σ' H') (wxS C W τ), ⟨k, Γ, R, w⟩, ?_⟩
  rintro m σ2 H2 ⟨Γ2, R2, w2⟩
  cases m with
  | zero => exact w2.elim
  | succ m =>
    refine rdS_bindT R2 w2 fun b Γ3 H3 R3 w3 => ?_
    cases b with
    | true =>
      refine ⟨fun σ' H' => ∃ Γ, Rel C σ' H' Γ τ ∧ (whileM fc fb m Γ).Wp _ (wxS C W τ), fun σ' H' ⟨Γ4, R4, w4⟩ => ⟨m, Nat.lt_succ_self m, Γ4, R4, w4⟩, Γ3, τ, n, R3, Out.wp_mono (Out.wp_bind w3) (fun fl Γ4 w4 => ?_) (fun _ _ z => z)⟩
      cases fl with
      | next => exact fun σ5 H5 R5 => ⟨Γ4, R5, w4⟩
      | cont => exact fun σ5 H5 R5 => ⟨Γ4, R5, w4⟩
      | brk => exact fun σ5 H5 R5 => w4 σ5 H5 R5
      | ret t => exact w4
    | false => exact w3 σ2 H3 R3
end
end DL
/-! comprehensions -/
namespace DL
open PySem L2

def wipeE (Γ : Env) : List Nat → Env
  | [] => Γ
  | i :: is => (wipeE Γ is).set i none
theorem wipeE_length (Γ : Env) : ∀ is : List Nat, (wipeE Γ is).length = Γ.length
  | [] => rfl
  | i :: is => by
    unfold wipeE
    rw [List.length_set, wipeE_length Γ is]
theorem wipeE_some {Γ : Env} {j : Nat} {t : T} : ∀ {is : List Nat}, (wipeE Γ is)[j]? = some (some t) → Γ[j]? = some (some t) ∧ j ∉ is
  | [], h => ⟨h, by simp⟩
  | i :: is, h => by
    unfold wipeE at h
    by_cases e : i = j
    · subst e
      rw [List.getElem?_set] at h
      split at h
      · split at h <;> cases h
      · rename_i n
        exact absurd rfl n
    · rw [List.getElem?_set_ne e] at h
      obtain ⟨h1, h2⟩ := wipeE_some h
      exact ⟨h1, fun z => by
        cases z with
        | head => exact e rfl
        | tail _ z => exact h2 z⟩
theorem wipe_in {σ : St} {j : Nat} : ∀ {vs : List Nat}, j ∈ vs → j < σ.length → (wipe σ vs)[j]? = some none
  | i :: vs, h, hl => by
    unfold wipe
    by_cases e : i = j
    · subst e
      rw [List.getElem?_set_self (by rw [wipe_length]; exact hl)]
    · rw [List.getElem?_set_ne e]
      cases h with
      | head => exact absurd rfl e
      | tail _ h => exact wipe_in h hl
theorem wipe_ext {σ σ' : St} {vs : List Nat} (hl : σ'.length = σ.length) (h : ∀ i, i ∉ vs → σ'[i]? = σ[i]?) : wipe σ' vs = wipe σ vs := by
  apply List.ext_getElem?
  intro i
  by_cases hi : i ∈ vs
  · by_cases hlt : i < σ.length
    · rw [wipe_in hi hlt, wipe_in hi (by rw [hl]; exact hlt)]
    · rw [List.getElem?_eq_none (by rw [wipe_length, hl]; omega), List.getElem?_eq_none (by rw [wipe_length]; omega)]
  · rw [wipe_out hi, wipe_out hi]
    exact h i hi
section
variable {C : Cc} {σ : St} {H F : Hp} {Γ : Env} {τ : Hand} {vs : List Nat} {ow : Addr → Option Root}
theorem temps_wipe (hv : ∀ i ∈ vs, C.cv i = true) {σ' : St} (hs : ∀ i, i ∉ vs → σ'[i]? = σ[i]?) : ∀ {τ : Hand}, TempsOk C σ F H ow τ → TempsOk C σ' F H ow τ
  | [], _ => trivial
  | (v, t) :: τ, h => by
    refine ⟨?_, temps_wipe hv hs h.2⟩
    cases t with
    | al i =>
      obtain ⟨h1, h2⟩ := h.1
      have n : i ∉ vs := fun z => by
        rw [hv i z] at h2
        cases h2
      exact ⟨by rw [hs i n]; exact h1, h2⟩
    | fz d => exact h.1
    | ol ts => exact h.1
    | oi c ts => exact h.1
theorem Rel.wipe (hv : ∀ i ∈ vs, C.cv i = true ∧ C.pin i = none) (R : Rel C σ H Γ τ) : Rel C (L2.wipe σ vs) H (wipeE Γ vs) τ := by
  obtain ⟨F, ow, R⟩ := R
  refine ⟨F, ow, R.ex, R.old, R.new, R.frame, R.ownF, R.ownH, R.ownN, fun j t e => ?_, temps_wipe (fun i hi => (hv i hi).1) (fun i hi => wipe_out hi) R.temps, fun i v e => ?_, by rw [wipe_length, wipeE_length]; exact R.len⟩
  · obtain ⟨e1, n⟩ := wipeE_some e
    obtain ⟨w, h1, h2⟩ := R.slots j t e1
    exact ⟨w, by rw [wipe_out n]; exact h1, h2⟩
  · have n : i ∉ vs := fun z => by
      rw [(hv i z).2] at e
      cases e
    rw [wipe_out n]
    exact R.pins i v e
theorem Rel.unwipe {σ' : St} (hv : ∀ i ∈ vs, C.cv i = true ∧ C.pin i = none) (hs : ∀ i, i ∉ vs → σ'[i]? = σ[i]?) (hl : σ'.length = σ.length) (hno : ∀ j ∈ vs, ∀ t, Γ[j]? ≠ some (some t)) (R : Rel C σ H Γ τ) : Rel C σ' H Γ τ := by
  obtain ⟨F, ow, R⟩ := R
  refine ⟨F, ow, R.ex, R.old, R.new, R.frame, R.ownF, R.ownH, R.ownN, fun j t e => ?_, temps_wipe (fun i hi => (hv i hi).1) hs R.temps, fun i v e => ?_, by rw [hl]; exact R.len⟩
  · have n : j ∉ vs := fun z => hno j z t e
    obtain ⟨w, h1, h2⟩ := R.slots j t e
    exact ⟨w, by rw [hs j n]; exact h1, h2⟩
  · have n : i ∉ vs := fun z => by
      rw [(hv i z).2] at e
      cases e
    rw [hs i n]
    exact R.pins i v e
end

/-- nothing may be raised here -/
def noX {α : Type} (f : M α) : M α := fun Γ => match f Γ with
  | .exc _ _ => .bad
  | o => o
abbrev W0 : WX := fun _ _ _ _ => False
def fzD (f : M T) : M D := bindM (frozen f) fun t => match t with
  | .fz d => retM d
  | _ => fun _ => .bad
/-- one turn: the thing, or none where the test is not met -/
def turnL (vs : List Nat) (g : D → M Unit) (ft : M Bool) (fe : M T) (d : D) : M (Option D) := bindM (g d) fun _ => bindM (noX ft) fun b => bindM (if b then bindM (noX (fzD fe)) fun e => retM (some e) else retM none) fun o => fun Γ => .ok o (wipeE Γ vs)
def compL (vs : List Nat) (g : D → M Unit) (ft : M Bool) (fe : M T) : List D → M (List D)
  | [] => retM []
  | d :: ds => bindM (turnL vs g ft fe d) fun o => bindM (compL vs g ft fe ds) fun es => retM (o.toList ++ es)
def compM (vs : List Nat) (fi : M (List D)) (g : D → M Unit) (ft : M Bool) (fe : M T) : M T := bindM fi fun ds => fun Γ => (compL vs g ft fe ds (wipeE Γ vs)).bind fun es => retM (.ol (es.map T.fz))
section
variable {α : Type} {o : Out α} {P : α → Env → Prop} {E E' : Exn → Env → Prop}
theorem wp_noX {f : M α} {Γ : Env} (h : (noX f Γ).Wp P E) : (f Γ).Wp P E' := by
  unfold noX at h
  cases e : f Γ with
  | ok a Γ' => rw [e] at h; exact h
  | exc x Γ' => rw [e] at h; exact h.elim
  | bad => rw [e] at h; exact h.elim
end
section
variable {X : Cx} {C : Cc} {W : WX}
theorem wp_fzD {f : M T} {σ : St} {H : Hp} {Γ : Env} {τ : Hand} {Q : VK} {P : D → Env → Prop} {E : Exn → Env → Prop} (R : Rel C σ H Γ τ) (h : (noX (fzD f) Γ).Wp P E) (hq : ∀ d Γ' v H', Rel C σ H' Γ' ((v, .fz d) :: τ) → P d Γ' → Q v H') : rd C W0 f σ H Q := by
  refine ⟨Γ, τ, R, ?_⟩
  have h1 : (fzD f Γ).Wp P (fun _ _ => False) := wp_noX h
  have h2 := Out.wp_bind (Out.wp_bind h1)
  refine Out.wp_mono h2 (fun t Γ1 w v H1 R1 => ?_) (fun _ _ z => z.elim)
  obtain ⟨d, Γ2, R2, w2⟩ := R1.frz (Out.wp_mono w (fun _ _ q => q) (fun _ _ q => q))
  exact hq d Γ2 v H1 R2 w2
/-- the new list, one thing longer -/
theorem Rel.append {σ : St} {H : Hp} {Γ : Env} {τ υ : Hand} {D' : Addr} {acc : List D} {y : V} {e : D} (hυ : ∀ p ∈ υ, ∃ d, p.2 = .fz d) (R : Rel C σ H Γ ((y, .fz e) :: (υ ++ ((.ref D', .ol (acc.map T.fz)) :: τ)))) (hz : acc.length < sizeLine) :
    ∃ vs, H D' = some (.lst vs) ∧ vs.length < sizeLine ∧ Rel C σ (upd H D' (.lst (vs ++ [y]))) Γ (υ ++ ((.ref D', .ol ((acc ++ [e]).map T.fz)) :: τ)) := by
  obtain ⟨F, ow, R⟩ := R
  have hy := R.temps.1
  cases hy with
  | fz hy =>
    have Rb : Rl C σ H Γ ((.ref D', .ol (acc.map T.fz)) :: τ) F ow := R.pop.drop
    have hD := Rb.temps.1.own (fun _ z => by cases z)
    cases hD with
    | ol sub h1 hl hS h2 =>
      rename_i vs
      have hd : Dts C.K C.cl F vs acc := h2.dts
      have hlen : vs.length = acc.length := hd.length
      refine ⟨vs, h1, by rw [hlen]; exact hz, F, ow, ?_⟩
      have hDF : F D' = none := R.ownF D' _ hS
      have fr : ∀ a o, a ≠ D' → H a = some o → upd H D' (.lst (vs ++ [y])) a = some o := fun a o n h => by
        rw [upd_ne n]
        exact h
      have nF : ∀ a o, F a = some o → a ≠ D' := fun a o e z => by
        subst z
        rw [hDF] at e
        cases e
      have Rt : Rl C σ H Γ τ F ow := Rb.pop
      have R2 : Rl C σ (upd H D' (.lst (vs ++ [y]))) Γ ((.ref D', .ol ((acc ++ [e]).map T.fz)) :: τ) F ow := by
        refine ⟨fun a o q => fr a o (nF a o q) (R.ex a o q), R.old, R.new, fun a o q hm => ?_, R.ownF, fun a r q => ?_, R.ownN, fun i t q => ?_, ⟨?_, ?_⟩, R.pins, R.len⟩
        · refine fr a o (fun z => ?_) (R.frame a o q hm)
          subst z
          rcases R.ownN a _ hS with z | z
          · exact hm z
          · rw [z] at q
            cases q
        · by_cases h : a = D'
          · subst h
            exact ⟨_, upd_same⟩
          · obtain ⟨o, ho⟩ := R.ownH a r q
            exact ⟨o, fr a o h ho⟩
        · obtain ⟨w, g1, g2⟩ := R.slots i t q
          refine ⟨w, g1, g2.keep (Sub.refl F) (fun a o s z => fr a o (fun z' => ?_) z) (fun _ z => z)⟩
          subst z'
          have s' : ow a = some (.inl i) := s
          rw [hS] at s'
          cases s'
        · refine OwT.ol (fun _ => none) upd_same (by rw [List.length_append, hlen]; exact hz) hS (OwTs.ofDts (hd.append (.cons hy .nil)))
        · refine Rt.temps.keep (Sub.refl F) (fun a o j hj s z => fr a o (fun z' => ?_) z) (fun _ _ _ z => z)
          subst z'
          rw [hS] at s
          have s' : τ.length = j := Sum.inr.inj (Option.some.inj s)
          omega
      exact R.pop.relay hυ R2 (Sub.refl F)
theorem wp_quiet {α : Type} {o : Out α} {P : α → Env → Prop} {E E' : Exn → Env → Prop} (h : o.Wp P E) (hn : ∀ x Γ, o ≠ .exc x Γ) : o.Wp P E' := by
  cases o with
  | ok u Γ => exact h
  | exc x Γ => exact absurd rfl (hn x Γ)
  | bad => exact h
theorem lc_rd {vs is : List Nat} {fi : M (List D)} {g : D → M Unit} {ft : M Bool} {fe : M T} (hv : ∀ i ∈ vs, C.cv i = true ∧ C.pin i = none) (his : ∀ i ∈ is, i ∈ vs) (hq : Quiet g) {σ : St} {H : Hp} {Q : VK}
    (h : rd C W (compM vs fi g ft fe) σ H Q) : tLc (rdI C W fi) (rdG C is g) (rdT C W0 ft) (rd C W0 fe) vs σ H Q := by
  obtain ⟨Γ, τ, R, w⟩ := h
  refine ⟨Γ, τ, R, Out.wp_mono (Out.wp_bind w) (fun ds Γ1 w1 J H1 υ R1 I D' hD => ?_) (fun _ _ z => z)⟩
  have w1' := Out.wp_bind w1
  have hlen := I.len H1 σ Γ1 τ R1
  refine ⟨fun i m H => m = ds.length - i ∧ i ≤ ds.length ∧ ∃ Γ acc, acc.length ≤ i ∧ Rel C (wipe σ vs) H Γ (υ ++ ((.ref D', .ol (acc.map T.fz)) :: τ)) ∧ (∀ j ∈ vs, ∀ t, Γ[j]? ≠ some (some t)) ∧
    (compL vs g ft fe (ds.drop i) Γ).Wp (fun es Γ' => ∀ v H', Rel C σ H' Γ' ((v, .ol ((acc ++ es).map T.fz)) :: τ) → Q v H') (fun _ _ => True), ⟨ds.length, by simp, Nat.zero_le _, wipeE Γ1 vs, [], Nat.le_refl _, ?_, ?_, ?_⟩, ?_⟩
  · obtain ⟨F, ow, R1⟩ := Rel.wipe hv R1
    obtain ⟨ow3, R3⟩ := R1.drop.newListF (vs := []) (ds := []) hD (Nat.zero_le _) .nil
    exact ⟨F, ow3, R1.relay I.fz R3 (Sub.refl F)⟩
  · intro j hj t e
    exact (wipeE_some e).2 hj
  · rw [List.drop_zero]
    exact Out.wp_mono w1' (fun es Γ' z => z) (fun _ _ _ => trivial)
  · rintro i m H2 ⟨rfl, hle, Γ2, acc, hacc, R2, hno, w2⟩
    by_cases hlt : i < ds.length
    · refine .inr ⟨I.go i H2 _ Γ2 _ R2 hlt, fun H' => ∃ Γ acc, acc.length ≤ i + 1 ∧ Rel C (wipe σ vs) H' Γ (υ ++ ((.ref D', .ol (acc.map T.fz)) :: τ)) ∧ (∀ j ∈ vs, ∀ t, Γ[j]? ≠ some (some t)) ∧
        (compL vs g ft fe (ds.drop (i + 1)) Γ).Wp (fun es Γ' => ∀ v H', Rel C σ H' Γ' ((v, .ol ((acc ++ es).map T.fz)) :: τ) → Q v H') (fun _ _ => True), fun H' ⟨Γ3, acc3, a3, R3, n3, w3⟩ => ⟨ds.length - (i + 1), by omega, rfl, hlt, Γ3, acc3, a3, R3, n3, w3⟩, fun x H' y => ?_⟩
      obtain ⟨d, e, R3⟩ := I.yld i H2 _ Γ2 _ x H' R2 hlt y
      have ed : ds.drop i = d :: ds.drop (i + 1) := by
        rw [List.drop_eq_getElem_cons hlt]
        rw [List.getElem?_eq_getElem hlt] at e
        rw [Option.some.inj e]
      rw [ed] at w2
      have w3 := wp_quiet (E' := fun _ _ => False) (Out.wp_bind (Out.wp_bind w2)) (hq d Γ2)
      have R3' := R3
      obtain ⟨F, ow, R3⟩ := R3
      refine ⟨Γ2, _, d, fun p hp j hj => R3.pop.noAlias (hv j (his j hj)).1 p hp, R3', Out.wp_mono w3 (fun _ Γ3 w4 σ2 H3 e1 e2 R4 => ?_) (fun _ _ z => z)⟩
      have ew : wipe σ2 vs = wipe σ vs := wipe_ext (by rw [e2, wipe_length]) fun j hj => by
        rw [e1 j (fun z => hj (his j z)), wipe_out hj]
      have w5 := Out.wp_bind w4
      refine ⟨ew, Γ3, _, R4, Out.wp_mono (wp_noX w5) (fun b Γ4 w6 H4 R5 => ?_) (fun _ _ z => z)⟩
      cases b with
      | true =>
        refine wp_fzD R5 (Out.wp_bind (Out.wp_bind w6)) fun e Γ5 y H6 R6 w7 => ?_
        obtain ⟨vs', h1, h2, R7⟩ := R6.append I.fz (by omega)
        refine ⟨vs', h1, h2, wipeE Γ5 vs, acc ++ [e], by rw [List.length_append]; exact Nat.succ_le_succ hacc, ?_, fun j hj t q => (wipeE_some q).2 hj, ?_⟩
        · rw [← ew]
          exact R7.wipe hv
        · refine Out.wp_mono (Out.wp_bind (show (bindM (compL vs g ft fe (ds.drop (i + 1))) (fun es => retM ((some e).toList ++ es)) (wipeE Γ5 vs)).Wp _ _ from w7)) (fun es Γ' z => ?_) (fun _ _ _ => trivial)
          rw [List.append_assoc]
          exact z
      | false =>
        refine ⟨wipeE Γ4 vs, acc, Nat.le_succ_of_le hacc, ?_, fun j hj t q => (wipeE_some q).2 hj, ?_⟩
        · rw [← ew]
          exact R5.wipe hv
        · exact Out.wp_mono (Out.wp_bind (show (bindM (compL vs g ft fe (ds.drop (i + 1))) (fun es => retM ((none : Option D).toList ++ es)) (wipeE Γ4 vs)).Wp _ _ from w6)) (fun es Γ' z => z) (fun _ _ _ => trivial)
    · have e : i = ds.length := by omega
      subst e
      rw [List.drop_length] at w2
      refine .inl ⟨I.stop H2 _ Γ2 _ R2, w2 _ _ ?_⟩
      rw [List.append_nil]
      exact Rel.unwipe hv (fun j hj => (wipe_out hj).symm) (wipe_length σ vs).symm hno R2.drop
theorem dts_nil : PTs X [] (rdT C W0 (retM true)) := ⟨fun pins s σ H Q I h => pts_nil.run pins s σ H Q I (by obtain ⟨Γ, τ, R, w⟩ := h; exact w H R)⟩
theorem dts_one {c : Expr} {f : M Bool} (h : PT X c (rdT C W0 f)) : PTs X [c] (rdT C W0 f) := pts_one h
theorem de_comp {elt tg iter : Expr} {ifs : List Expr} {scope : Scope} {own : List (Str × Nat)} {pos : Pos} {is : List Nat} {fi : M (List D)} {g : D → M Unit} {ft : M Bool} {fe : M T} (hc : X.calm = true) (hN : X.N.Nodup) (hv : ∀ i ∈ own.map (·.2), C.cv i = true ∧ C.pin i = none) (his : ∀ i ∈ is, i ∈ own.map (·.2)) (hq : Quiet g)
    (hi : PI X tg iter (rdI C W fi)) (ok : BlkOk X.N X.env.scope scope own)
    (hg : ∀ (s : Shared) (H : Hp) (c : Addr) (cl : List (Str × Addr)) (fp : List Addr), PG (X.blk s H scope (compEnvC scope cl c X.env) fp) tg (rdG C is g)) (ht : ∀ (s : Shared) (H : Hp) (c : Addr) (cl : List (Str × Addr)) (fp : List Addr), PTs (X.blk s H scope (compEnvC scope cl c X.env) fp) ifs (rdT C W0 ft))
    (he : ∀ (s : Shared) (H : Hp) (c : Addr) (cl : List (Str × Addr)) (fp : List Addr), PE (X.blk s H scope (compEnvC scope cl c X.env) fp) elt (rd C W0 fe)) (hs : ∀ x, foldedSetIterable iter X.env x = pure x := by intro _; rfl) :
    PE X (.ListComp elt [⟨tg, iter, ifs, 0⟩] scope pos) (rd C W (compM (own.map (·.2)) fi g ft fe)) := pe_sub (pe_lc hc hN hi ok hg ht he hs) fun σ H Q q => lc_rd hv his hq q
theorem ds_setComp {i : Nat} {y : Str} {py : Pos} {elt tg iter : Expr} {ifs : List Expr} {scope : Scope} {own : List (Str × Nat)} {pos spos : Pos} {is : List Nat} {fi : M (List D)} {g : D → M Unit} {ft : M Bool} {fe : M T} (hp : C.pin i = none) (hc : X.calm = true) (hN : X.N.Nodup) (hy : X.N[i]? = some y) (hyl : X.env.scope.names.lookup y = some .local)
    (hsw : swapsWith (.ListComp elt [⟨tg, iter, ifs, 0⟩] scope pos) (some (.Name y py)) spos.line X.env = pure true) (hv : ∀ i ∈ own.map (·.2), C.cv i = true ∧ C.pin i = none) (his : ∀ i ∈ is, i ∈ own.map (·.2)) (hq : Quiet g) (hi : PI X tg iter (rdI C W fi)) (ok : BlkOk X.N X.env.scope scope own)
    (hg : ∀ (s : Shared) (H : Hp) (c : Addr) (cl : List (Str × Addr)) (fp : List Addr), PG (X.blk s H scope (compEnvC scope cl c X.env) fp) tg (rdG C is g)) (ht : ∀ (s : Shared) (H : Hp) (c : Addr) (cl : List (Str × Addr)) (fp : List Addr), PTs (X.blk s H scope (compEnvC scope cl c X.env) fp) ifs (rdT C W0 ft))
    (he : ∀ (s : Shared) (H : Hp) (c : Addr) (cl : List (Str × Addr)) (fp : List Addr), PE (X.blk s H scope (compEnvC scope cl c X.env) fp) elt (rd C W0 fe)) (hs : ∀ x, foldedSetIterable iter X.env x = pure x := by intro _; rfl) :
    PS X (.Assign [.Name y py] (.ListComp elt [⟨tg, iter, ifs, 0⟩] scope pos) spos) (rdS C W (setM i (compM (own.map (·.2)) fi g ft fe))) := ps_sub (ps_setLc hc hN hy hyl hsw hi ok hg ht he hs) fun D σ H ⟨Γ, τ, n, R, w⟩ => by
  refine lc_rd hv his hq (rdS_bind R w fun t Γ1 v H1 R1 w1 => ?_)
  obtain ⟨t', Γ2, na, R2, w2⟩ := R1.settle (Out.wp_bind w1)
  exact w2 _ _ (R2.store na hp (fun p hp' => n p hp' i))
end
end DL
/-! own defs: promises by meanings, calls -/
namespace DL
open PySem L2

abbrev FSem := List T → Out T
section
variable (K : PySem.W.Frag) (cl : Str → Option Addr)
/-- the first parameter handed by reference (ref), the others as data -/
def ArgsOk (F H : Hp) (S : Addr → Prop) (ref : Bool) (vs : List V) (ts : List T) : Prop := match ref with
  | true => ∃ v0 vr t0 dr, vs = v0 :: vr ∧ ts = t0 :: dr.map T.fz ∧ OwT K cl F H S v0 t0 ∧ Dts K cl F vr dr
  | false => ∃ ds, ts = ds.map T.fz ∧ Dts K cl F vs ds
structure After (F H : Hp) (S : Addr → Prop) (F' H' : Hp) (S0 Sr : Addr → Prop) : Prop where
  sub : Sub F F'
  ex : Sub F' H'
  new : ∀ a o, F' a = some o → F a = some o ∨ H a = none ∨ S a
  frame : ∀ a o, H a = some o → ¬ S a → H' a = some o
  own : ∀ a, S0 a ∨ Sr a → F' a = none ∧ (∃ o, H' a = some o) ∧ (S a ∨ H a = none)
  apart : ∀ a, S0 a → Sr a → False
def Back (F' H' : Hp) (S0 : Addr → Prop) (ref : Bool) (vs : List V) (Γ' : Env) : Prop := ref = true → ∀ v0 vr t0, vs = v0 :: vr → Γ'[0]? = some (some t0) → OwT K cl F' H' S0 v0 t0
def XOk' (F H : Hp) (cls : Value) (d : Option Addr) (x : Exn) : Prop :=
  ∃ Ca dd fs, cls = .ref Ca ∧ cl x.cls = some Ca ∧ d = some dd ∧ H dd = some (.xd fs) ∧ fs.map (·.1) = x.fds.map (·.1) ∧ Dts K cl F (fs.map (·.2)) (x.fds.map (·.2))
def spOf (n : Nat) (ref : Bool) (f : FSem) : Sp := fun vs H Q E => vs.length = n ∧ ∃ (F : Hp) (S : Addr → Prop) (ts : List T), Sub F H ∧ (∀ a, S a → F a = none ∧ ∃ o, H a = some o) ∧ (ref = false → ∀ a, ¬ S a) ∧ ArgsOk K cl F H S ref vs ts ∧
  (f ts).Wp (fun t Γ' => (∀ i, t ≠ .al i) ∧ ∀ v H' F' S0 Sr, After F H S F' H' S0 Sr → OwT K cl F' H' Sr v t → Back K cl F' H' S0 ref vs Γ' → Q v H')
    (fun x Γ' => ∀ cls d H' F' S0, After F H S F' H' S0 (fun _ => False) → Back K cl F' H' S0 ref vs Γ' → XOk' K cl F' H' cls d x → E cls d H')
end
def initE (n : Nat) (ts : List T) : Env := ts.map some ++ List.replicate (n - ts.length) none
/-- what a body means as a def of n names -/
def callF (n : Nat) (den : M Flow) : FSem := fun ts => match den (initE n ts) with
  | .ok (.ret t) Γ' => .ok t Γ'
  | .ok .next Γ' => .ok (.fz .non) Γ'
  | .exc x Γ' => .exc x Γ'
  | _ => .bad
abbrev WE' (E : XK) : WX := fun cls d _ H => E cls d H
def refPin (ref : Bool) (vs : List V) : Nat → Option V := fun i => if ref && i == 0 then vs[0]? else none
/-- a body's run from its promise's beginning to its end -/
theorem body_ok {K : PySem.W.Frag} {cl : Str → Option Addr} {X : Cx} {body : List Stmt} {n k : Nat} {ref : Bool} {den : M Flow} {cv : Nat → Bool} {N : List Str} {vs : List V} {H : Hp} {Q : VK} {E : XK} (hN : N.length = n) (hkn : k ≤ n)
    (hb : ∀ H0 F0 mu, PSs X body (rdS ⟨K, cl, H0, F0, mu, refPin ref vs, cv⟩ (WE' E) den)) (h : spOf K cl k ref (callF n den) vs H Q E) :
    ∃ t, PSs X body t ∧ t { nx := fun _ H' => Q .non H', rt := Q } (start N vs) H := by
  obtain ⟨hk, F, S, ts, hF, hS, hns, ha, w⟩ := h
  classical
  refine ⟨_, hb H F S, initE n ts, [], (fun p hp => (by cases hp)), ?_, ?_⟩
  · have hlen : vs.length = ts.length := by
      cases ref with
      | true =>
        obtain ⟨v0, vr, t0, dr, rfl, rfl, _, h2⟩ := ha
        simp [h2.length]
      | false =>
        obtain ⟨ds, rfl, h2⟩ := ha
        simp [h2.length]
    have hget : ∀ i t, (initE n ts)[i]? = some (some t) → ts[i]? = some t := fun i t e => by
      unfold initE at e
      by_cases hi : i < ts.length
      · rw [List.getElem?_append_left (by simpa using hi), List.getElem?_map] at e
        cases q : ts[i]? with
        | none => rw [q] at e; cases e
        | some u => rw [q] at e; cases e; rfl
      · rw [List.getElem?_append_right (by simpa using hi)] at e
        rw [List.getElem?_replicate] at e
        split at e <;> cases e
    have hst : ∀ (i : Nat) v, vs[i]? = some v → (start N vs)[i]? = some (some v) := fun i v e => by
      unfold L2.start
      have hi : i < vs.length := (List.getElem?_eq_some_iff.mp e).1
      rw [List.getElem?_append_left (by simpa using hi), List.getElem?_map, e]
      rfl
    refine ⟨F, fun a => if S a then some (.inl 0) else none, hF, Sub.refl F, fun a o e => .inl e, fun a o e _ => e, fun a r e => ?_, fun a r e => ?_, fun a r e => ?_, fun i t e => ?_, trivial, fun i v e => ?_, ?_⟩
    · by_cases hs : S a
      · exact (hS a hs).1
      · rw [if_neg hs] at e; cases e
    · by_cases hs : S a
      · exact (hS a hs).2
      · rw [if_neg hs] at e; cases e
    · by_cases hs : S a
      · exact .inl hs
      · rw [if_neg hs] at e; cases e
    · have et := hget i t e
      cases ref with
      | true =>
        obtain ⟨v0, vr, t0, dr, rfl, rfl, h1, h2⟩ := ha
        cases i with
        | zero =>
          have e1 : t0 = t := by simpa using et
          subst e1
          refine ⟨v0, hst 0 v0 rfl, h1.keep (Sub.refl F) (fun _ _ _ q => q) (fun a q => ?_)⟩
          show (if S a then some (Sum.inl 0) else none) = some (Sum.inl 0)
          rw [if_pos q]
        | succ i =>
          rw [List.getElem?_cons_succ, List.getElem?_map] at et
          cases q : dr[i]? with
          | none => rw [q] at et; cases et
          | some d =>
            rw [q] at et
            cases et
            obtain ⟨v, e1, e2⟩ := h2.get q
            exact ⟨v, hst (i + 1) v e1, .fz e2⟩
      | false =>
        obtain ⟨ds, rfl, h2⟩ := ha
        rw [List.getElem?_map] at et
        cases q : ds[i]? with
        | none => rw [q] at et; cases et
        | some d =>
          rw [q] at et
          cases et
          obtain ⟨v, e1, e2⟩ := h2.get q
          exact ⟨v, hst i v e1, .fz e2⟩
    · have e' : (if ref && i == 0 then vs[0]? else none) = some v := e
      split at e'
      · rename_i hc
        have hi : i = 0 := by
          rw [Bool.and_eq_true] at hc
          simpa using hc.2
        subst hi
        exact hst 0 v e'
      · cases e'
    · unfold L2.start initE
      simp [hlen, hN]
  · have key : ∀ {t : T} {Γ' : Env} {v : V} {σ' : St} {H' : Hp}, (∀ i, t ≠ .al i) → Rel ⟨K, cl, H, F, S, refPin ref vs, cv⟩ σ' H' Γ' [(v, t)] → ∃ F' S0 Sr, After F H S F' H' S0 Sr ∧ OwT K cl F' H' Sr v t ∧ Back K cl F' H' S0 ref vs Γ' := by
      intro t Γ' v σ' H' na R
      obtain ⟨F', ow, R⟩ := R
      refine ⟨F', fun a => ow a = some (.inl 0), fun a => ow a = some (.inr 0), ⟨R.old, R.ex, fun a o e => R.new a o e, R.frame, fun a h => ?_, fun a h1 h2 => by rw [h1] at h2; cases h2⟩, R.temps.1.own na, fun hr v0 vr t0 e0 e1 => ?_⟩
      · rcases h with h | h
        · exact ⟨R.ownF a _ h, R.ownH a _ h, R.ownN a _ h⟩
        · exact ⟨R.ownF a _ h, R.ownH a _ h, R.ownN a _ h⟩
      · obtain ⟨w0, h1, h2⟩ := R.slots 0 t0 e1
        have hp : refPin ref vs 0 = some v0 := by
          unfold refPin
          rw [hr, e0]
          rfl
        have h3 := R.pins 0 v0 hp
        rw [h1] at h3
        cases h3
        exact h2
    have w' : (match den (initE n ts) with | .ok (.ret t) Γ' => Out.ok t Γ' | .ok .next Γ' => .ok (.fz .non) Γ' | .exc x Γ' => .exc x Γ' | _ => .bad).Wp _ _ := w
    cases e : den (initE n ts) with
    | ok fl Γ' =>
      rw [e] at w'
      cases fl with
      | next =>
        intro σ' H' R
        obtain ⟨F', S0, Sr, h1, h2, h3⟩ := key (fun _ z => by cases z) (R.scal .non)
        exact w'.2 _ _ _ _ _ h1 h2 h3
      | ret t =>
        refine ⟨w'.1, fun v σ' H' R => ?_⟩
        obtain ⟨F', S0, Sr, h1, h2, h3⟩ := key w'.1 R
        exact w'.2 _ _ _ _ _ h1 h2 h3
      | brk => exact w'.elim
      | cont => exact w'.elim
    | exc x Γ' =>
      rw [e] at w'
      intro cls d σ' H' RX
      obtain ⟨F', ow, R, Ca, dd, fs, x1, x2, x3, x4, x5, x6⟩ := RX
      refine w' cls d H' F' (fun a => ow a = some (.inl 0)) ⟨R.old, R.ex, fun a o e => R.new a o e, R.frame, fun a h => ?_, fun a h1 h2 => h2.elim⟩ (fun hr v0 vr t0 e0 e1 => ?_) ⟨Ca, dd, fs, x1, x2, x3, x4, x5, x6⟩
      · rcases h with h | h
        · exact ⟨R.ownF a _ h, R.ownH a _ h, R.ownN a _ h⟩
        · exact h.elim
      · obtain ⟨w0, h1, h2⟩ := R.slots 0 t0 e1
        have hp : refPin ref vs 0 = some v0 := by
          unfold refPin
          rw [hr, e0]
          rfl
        have h3 := R.pins 0 v0 hp
        rw [h1] at h3
        cases h3
        exact h2
    | bad =>
      rw [e] at w'
      exact w'.elim

/-! ### calls of such defs -/
def D.scal : D → Bool
  | .non => true
  | .bl _ => true
  | .int _ => true
  | .str _ => true
  | _ => false
def T.isAl : T → Bool
  | .al _ => true
  | _ => false
def T.scal : T → Bool
  | .fz d => d.scal
  | _ => false
theorem Dt.scal {K : PySem.W.Frag} {cl : Str → Option Addr} {F : Hp} {v : V} {d : D} (h : Dt K cl F v d) (e : d.scal = true) : Dt K cl emp v d := by
  cases h with
  | non => exact .non
  | bl b => exact .bl b
  | int i => exact .int i
  | str s => exact .str s
  | _ => cases e
theorem Dts.scal {K : PySem.W.Frag} {cl : Str → Option Addr} {F : Hp} : ∀ {vs : List V} {ds : List D}, Dts K cl F vs ds → ds.all D.scal = true → Dts K cl emp vs ds
  | _, _, .nil, _ => .nil
  | _, _, .cons h hs, e => by
    rw [List.all_cons, Bool.and_eq_true] at e
    exact .cons (h.scal e.1) (Dts.scal hs e.2)
/-- what is data all through; aliases are lent, where the answer is of no heap's -/
def call0 (f : FSem) (fa : M (List T)) : M T := bindM fa fun ts => bindM (looksM ts) fun ds => fun Γ => match f (ds.map T.fz) with
  | .ok t _ => if !t.isAl && ((T.fzs ts).isSome || t.scal) then .ok t Γ else .bad
  | .exc x _ => if (T.fzs ts).isSome || x.fds.all (fun p => p.2.scal) then .exc x Γ else .bad
  | .bad => .bad
theorem T.notAl {t : T} (h : (!t.isAl) = true) : ∀ i, t ≠ .al i := fun i e => by
  subst e
  cases h
theorem argsM_len : ∀ {fs : List (M T)} {Γ : Env} {ts : List T} {Γ' : Env}, argsM fs Γ = .ok ts Γ' → ts.length = fs.length
  | [], Γ, ts, Γ', h => by
    cases h
    rfl
  | f :: fs, Γ, ts, Γ', h => by
    have h' : (f Γ).bind (fun t => bindM (argsM fs) fun ts => retM (t :: ts)) = .ok ts Γ' := h
    cases e : f Γ with
    | ok t Γ1 =>
      rw [e] at h'
      have h2 : (argsM fs Γ1).bind (fun ts => retM (t :: ts)) = .ok ts Γ' := h'
      cases e2 : argsM fs Γ1 with
      | ok us Γ2 =>
        rw [e2] at h2
        cases h2
        exact congrArg (· + 1) (argsM_len e2)
      | exc x Γ2 => rw [e2] at h2; cases h2
      | bad => rw [e2] at h2; cases h2
    | exc x Γ1 => rw [e] at h'; cases h'
    | bad => rw [e] at h'; cases h'
section
variable {X : Cx} {C : Cc} {W : WX}
theorem Rl.callee {σ : St} {H H' F F' : Hp} {Γ : Env} {τ : Hand} {ow : Addr → Option Root} {S0 Sr : Addr → Prop} {v : V} {t : T} (R : Rl C σ H Γ τ F ow) (A : After F H (fun _ => False) F' H' S0 Sr) (na : ∀ i, t ≠ .al i) (h : OwT C.K C.cl F' H' Sr v t) : Rel C σ H' Γ ((v, t) :: τ) := by
  classical
  have R1 : Rl C σ H' Γ τ F' ow := R.grow (fun a o e => A.frame a o e id) A.sub A.ex (fun a o e => by
    rcases A.new a o e with z | z | z
    · exact .inl z
    · exact .inr z
    · exact z.elim)
  have hfresh : ∀ a, Sr a → H a = none := fun a s => by
    rcases (A.own a (.inr s)).2.2 with z | z
    · exact z.elim
    · exact z
  have hno : ∀ a, Sr a → ow a = none := fun a s => R.noOwn (hfresh a s)
  have hne : ∀ a r, ow a = some r → ¬ Sr a := fun a r e s => by
    rw [hno a s] at e
    cases e
  refine ⟨F', fun a => if Sr a then some (.inr τ.length) else ow a, R1.ex, R1.old, R1.new, R1.frame, fun a r e => ?_, fun a r e => ?_, fun a r e => ?_, fun i t' e => ?_, ⟨TempOk.of (h.keep (Sub.refl F') (fun _ _ _ q => q) (fun a q => if_pos q)), ?_⟩, R1.pins, R1.len⟩
  · by_cases s : Sr a
    · exact (A.own a (.inr s)).1
    · rw [if_neg s] at e
      exact R1.ownF a r e
  · by_cases s : Sr a
    · exact (A.own a (.inr s)).2.1
    · rw [if_neg s] at e
      exact R1.ownH a r e
  · by_cases s : Sr a
    · exact R.freshN (hfresh a s)
    · rw [if_neg s] at e
      exact R1.ownN a r e
  · obtain ⟨w, h1, h2⟩ := R1.slots i t' e
    refine ⟨w, h1, h2.keep (Sub.refl F') (fun _ _ _ q => q) (fun a q => ?_)⟩
    show (if Sr a then some (Sum.inr τ.length) else ow a) = some (.inl i)
    rw [if_neg (hne a _ q)]
    exact q
  · refine R1.temps.keep (Sub.refl F') (fun _ _ _ _ _ q => q) (fun a j hj q => ?_)
    show (if Sr a then some (Sum.inr τ.length) else ow a) = some (.inr j)
    rw [if_neg (hne a _ q)]
    exact q
theorem Rl.calleeX {σ : St} {H H' F F' : Hp} {Γ : Env} {τ : Hand} {ow : Addr → Option Root} {S0 Sr : Addr → Prop} (R : Rl C σ H Γ τ F ow) (A : After F H (fun _ => False) F' H' S0 Sr) : Rl C σ H' Γ τ F' ow := R.grow (fun a o e => A.frame a o e id) A.sub A.ex (fun a o e => by
  rcases A.new a o e with z | z | z
  · exact .inl z
  · exact .inr z
  · exact z.elim)
/-- the call itself, from what is in hand -/
theorem call_go {n : Nat} {f : FSem} {σ : St} {H : Hp} {Γ : Env} {τ : Hand} {ts : List T} {vs : List V} {Q : VK} (hn : vs.length = n) (hl : vs.length = ts.length) (R : Rel C σ H Γ ((vs.zip ts).reverse ++ τ))
    (w : (bindM (looksM ts) (fun ds => fun Γ => match f (ds.map T.fz) with
      | .ok t _ => if !t.isAl && ((T.fzs ts).isSome || t.scal) then Out.ok t Γ else .bad
      | .exc x _ => if (T.fzs ts).isSome || x.fds.all (fun p => p.2.scal) then .exc x Γ else .bad
      | .bad => .bad) Γ).Wp (fun t Γ' => ∀ v H', Rel C σ H' Γ' ((v, t) :: τ) → Q v H') (wx C W σ τ)) :
    spOf C.K C.cl n false f vs H Q (fun cls d H' => W cls d σ H') := by
  obtain ⟨ds, e1, w2⟩ := wp_looksM (Out.wp_bind w)
  obtain ⟨F, ow, R⟩ := R
  refine ⟨hn, ?_⟩
  cases e2 : T.fzs ts with
  | some ds' =>
    have hd := R.hands hl e2
    have ed : ds' = ds := by
      have e3 := T.fzs_eq e2
      subst e3
      have go : ∀ (es : List D), looks Γ (es.map T.fz) = some es := by
        intro es
        induction es with
        | nil => rfl
        | cons d es ih =>
          show (match look Γ (T.fz d), looks Γ (es.map T.fz) with | some d, some ds => some (d :: ds) | _, _ => none) = _
          rw [ih]
          rfl
      rw [go ds'] at e1
      exact Option.some.inj e1
    subst ed
    refine ⟨F, fun _ => False, ds'.map T.fz, R.ex, fun a z => z.elim, fun _ a z => z, ⟨ds', rfl, hd⟩, ?_⟩
    simp only [e2, Option.isSome_some, Bool.true_or, Bool.and_true, if_true] at w2
    cases e3 : f (ds'.map T.fz) with
    | ok t Γ' =>
      simp only [e3] at w2
      split at w2
      · rename_i hs
        exact ⟨T.notAl hs, fun v H' F' S0 Sr A h _ => w2 v H' (R.drop.callee A (T.notAl hs) h)⟩
      · exact w2.elim
    | exc x Γ' =>
      simp only [e3] at w2
      refine fun cls d H' F' S0 A _ hx => w2 cls d H' ⟨F', ow, R.drop.calleeX A, hx⟩
    | bad => simp only [e3] at w2; exact w2.elim
  | none =>
    have hd : Dts C.K C.cl H vs ds := R.looks hl e1
    refine ⟨H, fun _ => False, ds.map T.fz, Sub.refl H, fun a z => z.elim, fun _ a z => z, ⟨ds, rfl, hd⟩, ?_⟩
    simp only [e2, Option.isSome_none, Bool.false_or] at w2
    cases e3 : f (ds.map T.fz) with
    | ok t Γ' =>
      simp only [e3] at w2
      split at w2
      · rename_i hs
        rw [Bool.and_eq_true] at hs
        refine ⟨T.notAl hs.1, fun v H' F' S0 Sr A h _ => ?_⟩
        refine w2 v H' ?_
        cases t with
        | fz d =>
          cases h with
          | fz h =>
            have R1 : Rl C σ H' Γ τ F ow := R.drop.grow (fun a o e => A.frame a o e id) (Sub.refl F) (fun a o e => A.frame a o (R.ex a o e) id) (fun a o e => .inl e)
            exact Rel.scal ⟨F, ow, R1⟩ (h.scal hs.2)
        | _ => cases hs.2
      · exact w2.elim
    | exc x Γ' =>
      simp only [e3] at w2
      refine fun cls d H' F' S0 A _ hx => ?_
      split at w2
      · rename_i hs
        have R1 : Rl C σ H' Γ τ F ow := R.drop.grow (fun a o e => A.frame a o e id) (Sub.refl F) (fun a o e => A.frame a o (R.ex a o e) id) (fun a o e => .inl e)
        obtain ⟨Ca, dd, fs, x1, x2, x3, x4, x5, x6⟩ := hx
        refine w2 cls d H' ⟨F, ow, R1, Ca, dd, fs, x1, x2, x3, x4, x5, (x6.scal ?_).mono (sub_emp F)⟩
        rw [List.all_map]
        exact hs
      · exact w2.elim
    | bad => simp only [e3] at w2; exact w2.elim
theorem de_call {k n : Nat} {f : Addr} {fd : FuncData} {ps : List Str} {fs : FSem} {x : Str} {e : Expr} {es : List Expr} {fa : M (List T)} {p pos : Pos} (hK : C.K = X.K) (tk : Takes X W) (G : FnOk X.prog X.w X.K X.mg X.base (L2.CX X.prog X.w) k f fd ps (spOf C.K C.cl n false fs))
    (hr : Room k X.A) (hg : Gl X x) (hm : X.mg x = some (.ref f)) (hk : PySem.W.keepIn X.K (.ref f) = true) (hb : Binds X.K fd ps []) (ha : PA X (e :: es) (rdA C W fa)) (hfa : ∀ Γ ts Γ', fa Γ = .ok ts Γ' → ts.length = n)
    (hdb : (x == ("__debug__" : Str)) = false := by decide) (he : starEach (e :: es) X.env = (false, eval e X.env) :: starEach es X.env := by rfl) (hpl : (backTo pos (starEach es X.env)).any (·.1) = false := by rfl) : PE X (.Call (.Name x p) (e :: es) [] pos) (rd C W (call0 fs fa)) :=
  pe_sub (pe_callSD (E := fun σ cls d H => W cls d σ H) G hr hg hm hk hb .nil (fun σ => passAt tk σ) ha hdb he hpl) fun σ H Q ⟨Γ, τ, R, w⟩ => by
    refine ⟨Γ, τ, R, ?_⟩
    have w1 := Out.wp_bind w
    cases q : fa Γ with
    | ok ts Γ1 =>
      rw [q] at w1
      intro vs H1 hl R1
      rw [List.append_nil]
      exact call_go (hl.trans (hfa _ _ _ q)) hl R1 w1
    | exc x' Γ1 => rw [q] at w1; exact w1
    | bad => rw [q] at w1; exact w1
end
end DL
/-! what is changed in place; calls by reference -/
namespace DL
open PySem L2

section
variable {C : Cc} {W : WX} {σ : St} {H F : Hp} {Γ : Env} {τ : Hand} {ow : Addr → Option Root} {v : V} {t t' : T} {i : Nat} {a : Addr} {o : HO}
/-- the object at a, of slot i's tree, is changed -/
theorem Rl.mutSlot (R : Rl C σ H Γ τ F ow) (ha : ow a = some (.inl i)) (hs : ∃ v, σ[i]? = some (some v) ∧ OwT C.K C.cl F (upd H a o) (fun b => ow b = some (.inl i)) v t') : Rl C σ (upd H a o) (Γ.set i (some t')) τ F ow := by
  have hDF : F a = none := R.ownF a _ ha
  have fr : ∀ b u, b ≠ a → H b = some u → upd H a o b = some u := fun b u n h => by
    rw [upd_ne n]
    exact h
  have nF : ∀ b u, F b = some u → b ≠ a := fun b u e z => by
    subst z
    rw [hDF] at e
    cases e
  refine ⟨fun b u q => fr b u (nF b u q) (R.ex b u q), R.old, R.new, fun b u q hm => ?_, R.ownF, fun b r q => ?_, R.ownN, fun j t2 q => ?_, ?_, R.pins, by simpa using R.len⟩
  · refine fr b u (fun z => ?_) (R.frame b u q hm)
    subst z
    rcases R.ownN b _ ha with z | z
    · exact hm z
    · rw [z] at q
      cases q
  · by_cases h : b = a
    · subst h
      exact ⟨_, upd_same⟩
    · obtain ⟨u, hu⟩ := R.ownH b r q
      exact ⟨u, fr b u h hu⟩
  · by_cases hj : i = j
    · subst hj
      have hlt : i < Γ.length := by
        have := (List.getElem?_eq_some_iff.mp q).1
        simpa using this
      rw [List.getElem?_set_self hlt] at q
      cases q
      exact hs
    · rw [List.getElem?_set_ne hj] at q
      obtain ⟨w, g1, g2⟩ := R.slots j t2 q
      refine ⟨w, g1, g2.keep (Sub.refl F) (fun b u s z => fr b u (fun z' => ?_) z) (fun _ z => z)⟩
      subst z'
      have s' : ow b = some (.inl j) := s
      rw [ha] at s'
      cases s'
      exact hj rfl
  · refine R.temps.keep (Sub.refl F) (fun b u j _ s z => fr b u (fun z' => ?_) z) (fun _ _ _ z => z)
    subst z'
    rw [ha] at s
    cases s
/-- slot i's list -/
theorem Rl.slotList {ts : List T} (R : Rl C σ H Γ τ F ow) (hi : Γ[i]? = some (some (.ol ts))) : ∃ (a : Addr) (vs : List V) (sub : Addr → Option Nat), σ[i]? = some (some (.ref a)) ∧ H a = some (.lst vs) ∧ vs.length ≤ sizeLine ∧ ow a = some (.inl i) ∧ OwTs C.K C.cl F H (fun j b => ow b = some (.inl i) ∧ b ≠ a ∧ sub b = some j) 0 vs ts := by
  obtain ⟨v, h1, h2⟩ := R.slots i _ hi
  cases h2 with
  | ol sub g1 g2 g3 g4 => exact ⟨_, _, sub, h1, g1, g2, g3, g4⟩
end

/-! ### x.append(e), x.pop(..), x[k] = e of an owned list -/
def appendT (o t : T) : M T := match o, t with
  | .al i, .fz d => fun Γ => match Γ[i]? with
    | some (some (.ol ts)) => if ts.length < sizeLine then .ok (.fz .non) (Γ.set i (some (.ol (ts ++ [.fz d])))) else .bad
    | _ => .bad
  | _, _ => fun _ => .bad
/-- what is in hand is an owned list's name -/
def olM (o : T) : M Unit := match o with
  | .al i => fun Γ => match Γ[i]? with
    | some (some (.ol _)) => .ok () Γ
    | _ => .bad
  | _ => fun _ => .bad
def appendM (fo fe : M T) : M T := bindM fo fun o => bindM (olM o) fun _ => bindM (frozen fe) fun t => appendT o t
def popAtT (o : T) (k : D) : M T := match o, k with
  | .al i, .int k => fun Γ => match Γ[i]? with
    | some (some (.ol ts)) => match ixN ts.length k with
      | some j => match ts[j]? with
        | some (.fz d) => .ok (.fz d) (Γ.set i (some (.ol (ts.eraseIdx j))))
        | _ => .bad
      | none => .bad
    | _ => .bad
  | _, _ => fun _ => .bad
def popAtM (fo fk : M T) : M T := bindM fo fun o => bindM (olM o) fun _ => bindM fk fun t => bindM (lookM t) fun k => popAtT o k
def popT (o : T) : M T := match o with
  | .al i => fun Γ => match Γ[i]? with
    | some (some (.ol ts)) => match ts[ts.length - 1]? with
      | some (.fz d) => .ok (.fz d) (Γ.set i (some (.ol ts.dropLast)))
      | _ => .bad
    | _ => .bad
  | _ => fun _ => .bad
def popM (fo : M T) : M T := bindM fo fun o => popT o
def clearT (o : T) : M T := match o with
  | .al i => fun Γ => match Γ[i]? with
    | some (some (.ol ts)) => .ok (.fz .non) (Γ.set i (some (.ol [])))
    | _ => .bad
  | _ => fun _ => .bad
def clearM (fo : M T) : M T := bindM fo fun o => clearT o
section
variable {X : Cx} {C : Cc} {W : WX}
theorem ol_frz {K : PySem.W.Frag} {cl : Str → Option Addr} {F H H' : Hp} {S : Addr → Prop} {a : Addr} {vs : List V} {ts : List T} {sub : Addr → Option Nat} (k : ∀ b o, S b → b ≠ a → H b = some o → H' b = some o) (h : OwTs K cl F H (fun j b => S b ∧ b ≠ a ∧ sub b = some j) 0 vs ts) : OwTs K cl F H' (fun j b => S b ∧ b ≠ a ∧ sub b = some j) 0 vs ts :=
  h.keep (Sub.refl F) (fun _ b o q z => k b o q.1 q.2.1 z) (fun _ _ q => q)
theorem OwTs.reix {K : PySem.W.Frag} {cl : Str → Option Addr} {F H : Hp} : ∀ {Si Si' : Nat → Addr → Prop} {i i' : Nat} {vs : List V} {ts : List T}, (∀ k a, Si (i + k) a → Si' (i' + k) a) → OwTs K cl F H Si i vs ts → OwTs K cl F H Si' i' vs ts
  | _, _, _, _, _, _, _, .nil => .nil
  | _, _, i, i', _, _, m, .cons h hs => .cons (h.keep (Sub.refl F) (fun _ _ _ q => q) (fun a q => m 0 a q)) (OwTs.reix (fun k a q => by
      have := m (k + 1) a (by rw [show i + (k + 1) = i + 1 + k by omega]; exact q)
      rw [show i' + 1 + k = i' + (k + 1) by omega]
      exact this) hs)
theorem OwTs.erase {K : PySem.W.Frag} {cl : Str → Option Addr} {F H : Hp} {S : Addr → Prop} {a : Addr} {sub : Addr → Option Nat} : ∀ {j : Nat} {vs : List V} {ts : List T}, OwTs K cl F H (fun m b => S b ∧ b ≠ a ∧ sub b = some m) 0 vs ts → j < vs.length →
    OwTs K cl F H (fun m b => S b ∧ b ≠ a ∧ ((sub b).bind fun m => if m < j then some m else some (m - 1)) = some m) 0 (vs.eraseIdx j) (ts.eraseIdx j) := by
  intro j vs ts h hj
  have go : ∀ (vs : List V) (ts : List T) (i j : Nat) (J : Nat), J = i + j → OwTs K cl F H (fun m b => S b ∧ b ≠ a ∧ sub b = some m) i vs ts → OwTs K cl F H (fun m b => S b ∧ b ≠ a ∧ ((sub b).bind fun m => if m < J then some m else some (m - 1)) = some m) i (vs.eraseIdx j) (ts.eraseIdx j) := by
    intro vs
    induction vs with
    | nil =>
      intro ts i j J eJ h
      cases h
      exact .nil
    | cons v vs ih =>
      intro ts i j J eJ h
      cases h with
      | cons h hs =>
        cases j with
        | zero =>
          refine OwTs.reix (fun k b q => ⟨q.1, q.2.1, ?_⟩) hs
          rw [q.2.2]
          show (if i + 1 + k < J then some (i + 1 + k) else some (i + 1 + k - 1)) = some (i + k)
          rw [if_neg (by omega)]
          congr 1
          omega
        | succ j =>
          refine .cons (h.keep (Sub.refl F) (fun _ _ _ q => q) (fun b q => ⟨q.1, q.2.1, ?_⟩)) (ih _ _ _ J (by omega) hs)
          rw [q.2.2]
          show (if i < J then some i else some (i - 1)) = some i
          rw [if_pos (by omega)]
  exact go vs ts 0 j j (by omega) h
theorem tyV_list {K : PySem.W.Frag} {H : Hp} {a : Addr} {vs : List V} (h : H a = some (.lst vs)) : tyV K "list" (.ref a) H := Or.inl ⟨rfl, _, SqL.of h⟩
theorem olAt {Γ : Env} {i : Nat} : (∃ ts, Γ[i]? = some (some (T.ol ts))) ∨ ∀ ts, Γ[i]? ≠ some (some (T.ol ts)) := by
  cases e : Γ[i]? with
  | none => exact .inr fun _ z => by cases z
  | some o =>
    cases o with
    | none => exact .inr fun _ z => by cases z
    | some t =>
      cases t with
      | ol ts => exact .inl ⟨ts, rfl⟩
      | _ => exact .inr fun _ z => by cases z
theorem wp_appendT {Γ : Env} {i : Nat} {d : D} {P : T → Env → Prop} {E : Exn → Env → Prop} (h : (appendT (.al i) (.fz d) Γ).Wp P E) : ∃ ts, Γ[i]? = some (some (T.ol ts)) ∧ ts.length < sizeLine ∧ P (.fz .non) (Γ.set i (some (.ol (ts ++ [.fz d])))) := by
  unfold appendT at h
  rcases olAt (Γ := Γ) (i := i) with ⟨ts, e⟩ | n
  · simp only [e] at h
    by_cases hz : ts.length < sizeLine
    · rw [if_pos hz] at h
      exact ⟨ts, e, hz, h⟩
    · rw [if_neg hz] at h
      exact h.elim
  · simp only at h
    exact h.elim
theorem wp_popAtT {Γ : Env} {i : Nat} {k : Int} {P : T → Env → Prop} {E : Exn → Env → Prop} (h : (popAtT (.al i) (.int k) Γ).Wp P E) : ∃ ts j d, Γ[i]? = some (some (T.ol ts)) ∧ ixN ts.length k = some j ∧ ts[j]? = some (T.fz d) ∧ P (.fz d) (Γ.set i (some (.ol (ts.eraseIdx j)))) := by
  unfold popAtT at h
  rcases olAt (Γ := Γ) (i := i) with ⟨ts, e⟩ | n
  · simp only [e] at h
    cases ej : ixN ts.length k with
    | none => simp only [ej] at h; exact h.elim
    | some j =>
      simp only [ej] at h
      cases ed : ts[j]? with
      | none => simp only [ed] at h; exact h.elim
      | some t =>
        cases t with
        | fz d => simp only [ed] at h; exact ⟨ts, j, d, e, ej, ed, h⟩
        | _ => simp only [ed] at h; exact h.elim
  · simp only at h
    exact h.elim
theorem wp_olM {σ : St} {H : Hp} {Γ : Env} {τ : Hand} {v : V} {o : T} {P : Unit → Env → Prop} {E : Exn → Env → Prop} (R : Rel C σ H Γ ((v, o) :: τ)) (h : (olM o Γ).Wp P E) : ∃ i a vs, o = .al i ∧ v = .ref a ∧ H a = some (.lst vs) ∧ P () Γ := by
  cases o with
  | al i =>
    unfold olM at h
    obtain ⟨F, ow, R⟩ := R
    rcases olAt (Γ := Γ) (i := i) with ⟨ts, e⟩ | n
    · simp only [e] at h
      obtain ⟨a, vs, sub, h1, h2, _⟩ := R.slotList e
      have h3 := R.temps.1.1
      rw [h1] at h3
      cases h3
      exact ⟨i, a, vs, rfl, rfl, h2, h⟩
    · simp only at h
      exact h.elim
  | _ => exact h.elim
theorem de_append {o e : Expr} {fo fe : M T} {apos pos : Pos} (hK : C.K = X.K) (ho : PE X o (rd C W fo)) (he : PE X e (rd C W fe)) (hs : starEach [e] X.env = (false, eval e X.env) :: starEach [] X.env := by rfl) (hbase : attributeBase o "append" X.env (eval o X.env) = eval o X.env := by rfl)
    (hfew : ((backTo pos (starEach [e] X.env)).all (fun x => !x.1) && (backToKw pos (keywordEach [] X.env)).all (fun x => x.1.isSome) && decide ([e].length + ([] : List Keyword).length + (if ([] : List Keyword).isEmpty then 0 else 1) < 30)) = true := by rfl)
    (hline : (apos.endLine == pos.line) = true := by rfl) : PE X (.Call (.Attribute o "append" apos) [e] [] pos) (rd C W (appendM fo fe)) := pe_sub (pe_bm PySem.F.plainAttrs_list PySem.F.slot_list_append PySem.F.type_list_append mt_append ho (pa_cons he pa_nil hs) hbase hfew hline hs rfl) fun σ H Q ⟨Γ, τ, R, w⟩ => by
  refine rd_bind R w fun t0 Γ1 v0 H1 R1 w1 => ?_
  obtain ⟨i, a, vs0, rfl, rfl, h0, w2⟩ := wp_olM R1 (Out.wp_bind w1)
  refine ⟨tyV_list h0, ?_⟩
  have w2' := wp_under (p := (V.ref a, T.al i)) w2
  refine rd_bind R1 (Out.wp_assoc w2') fun t Γ2 y H2 R2 w3 => ?_
  obtain ⟨d, Γ3, R3, w4⟩ := R2.frz (Out.wp_bind w3)
  obtain ⟨F, ow, R3⟩ := R3
  obtain ⟨ts, et, hz, w5⟩ := wp_appendT w4
  obtain ⟨a', vs, sub, h1, h2, h3, h4, h5⟩ := R3.slotList et
  have h6 := R3.temps.2.1.1
  rw [h1] at h6
  cases h6
  have hd := R3.temps.1
  cases hd with
  | fz hd =>
    have hl : vs.length = ts.length := h5.length
    refine ⟨a, vs, y, rfl, rfl, h2, by rw [hl]; exact hz, w5 _ _ (Rel.scal ⟨F, ow, ?_⟩ .non)⟩
    refine R3.pop.pop.mutSlot h4 ⟨_, h1, .ol sub upd_same (by rw [List.length_append, hl]; exact hz) h4 ?_⟩
    refine OwTs.append (us := [T.fz d]) (ol_frz (fun b u _ n z => by rw [upd_ne n]; exact z) h5) (.cons (.fz hd) .nil)
theorem de_popAt {o e : Expr} {fo fe : M T} {apos pos : Pos} (ho : PE X o (rd C W fo)) (he : PE X e (rd C W fe)) (hs : starEach [e] X.env = (false, eval e X.env) :: starEach [] X.env := by rfl) (hbase : attributeBase o "pop" X.env (eval o X.env) = eval o X.env := by rfl)
    (hfew : ((backTo pos (starEach [e] X.env)).all (fun x => !x.1) && (backToKw pos (keywordEach [] X.env)).all (fun x => x.1.isSome) && decide ([e].length + ([] : List Keyword).length + (if ([] : List Keyword).isEmpty then 0 else 1) < 30)) = true := by rfl)
    (hline : (apos.endLine == pos.line) = true := by rfl) : PE X (.Call (.Attribute o "pop" apos) [e] [] pos) (rd C W (popAtM fo fe)) := pe_sub (pe_bm PySem.F.plainAttrs_list PySem.F.slot_list_pop PySem.F.type_list_pop mt_popAt ho (pa_cons he pa_nil hs) hbase hfew hline hs rfl) fun σ H Q ⟨Γ, τ, R, w⟩ => by
  refine rd_bind R w fun t0 Γ1 v0 H1 R1 w1 => ?_
  obtain ⟨i, a, vs0, rfl, rfl, h0, w2⟩ := wp_olM R1 (Out.wp_bind w1)
  refine ⟨tyV_list h0, ?_⟩
  refine rd_bind R1 (wp_under w2) fun t Γ2 y H2 R2 w3 => ?_
  obtain ⟨k, ek, w4⟩ := wp_lookM (Out.wp_bind w3)
  obtain ⟨F, ow, R2⟩ := R2
  have hk := R2.look R2.temps.1 ek
  cases k with
  | int k =>
    cases hk
    obtain ⟨ts, j, d, et, ej, ed, w5⟩ := wp_popAtT w4
    obtain ⟨a', vs, sub, h1, h2, h3, h4, h5⟩ := R2.slotList et
    have h6 := R2.temps.2.1.1
    rw [h1] at h6
    cases h6
    have hl : vs.length = ts.length := h5.length
    obtain ⟨y, e1, e2⟩ := h5.get ed
    cases e2 with
    | fz e2 =>
      obtain ⟨b1, b2, b3, b4⟩ := ixN_seq ej
      have b5 : (ts.length : Int) ≤ 16777216 := by
        have z : sizeLine = 16777216 := by decide
        rw [← hl]
        rw [z] at h3
        omega
      have R3 := R2.pop.pop.mutSlot (o := .lst (vs.eraseIdx j)) (t' := .ol (ts.eraseIdx j)) h4 ⟨_, h1, .ol (fun b => (sub b).bind fun m => if m < j then some m else some (m - 1)) upd_same (Nat.le_trans (len_erase vs j) h3) h4 (OwTs.erase (ol_frz (fun b u _ n z => by rw [upd_ne n]; exact z) h5) (by rw [hl]; exact b2))⟩
      exact ⟨a, vs, k, j, y, rfl, rfl, h2, by omega, by omega, by rw [hl]; exact b1, e1, w5 _ _ ⟨F, ow, R3.push e2⟩⟩
  | _ => exact w4.elim

/-! ### x[k] = e -/
def setIxT (o : T) (k : D) (d : D) : M Unit := match o, k with
  | .al i, .int k => fun Γ => match Γ[i]? with
    | some (some (.ol ts)) => match ixN ts.length k with
      | some j => .ok () (Γ.set i (some (.ol (ts.set j (.fz d)))))
      | none => .bad
    | _ => .bad
  | _, _ => fun _ => .bad
theorem wp_setIxT {Γ : Env} {i : Nat} {k : Int} {d : D} {P : Unit → Env → Prop} {E : Exn → Env → Prop} (h : (setIxT (.al i) (.int k) d Γ).Wp P E) : ∃ ts j, Γ[i]? = some (some (T.ol ts)) ∧ ixN ts.length k = some j ∧ P () (Γ.set i (some (.ol (ts.set j (.fz d))))) := by
  unfold setIxT at h
  rcases olAt (Γ := Γ) (i := i) with ⟨ts, e⟩ | n
  · simp only [e] at h
    cases ej : ixN ts.length k with
    | none => simp only [ej] at h; exact h.elim
    | some j => simp only [ej] at h; exact ⟨ts, j, e, ej, h⟩
  · simp only at h
    exact h.elim
/-- the store of data at a place; the things that are looked up raise nothing -/
def subG (fo fk : M T) (d : D) : M Unit := noX (bindM fo fun o => bindM fk fun t => bindM (lookM t) fun k => setIxT o k d)
theorem noX_quiet {α : Type} {f : M α} {Γ Γ' : Env} {x : Exn} : noX f Γ ≠ .exc x Γ' := fun z => by
  unfold noX at z
  cases e : f Γ with
  | ok a Γ1 => rw [e] at z; cases z
  | exc y Γ1 => rw [e] at z; cases z
  | bad => rw [e] at z; cases z
theorem quiet_sub (fo fk : M T) : Quiet (subG fo fk) := fun d Γ x Γ' => noX_quiet
theorem dg_sub {o k : Expr} {fo fk : M T} {pos : Pos} (ho : PE X o (rd C W fo)) (hk : PE X k (rd C W fk))
    (ha : ∀ v, assign (.Subscript o k pos) X.env v = (do
      let ov ← holding [v] (eval o X.env)
      let iv ← holding [v, ov] (eval k X.env)
      standAt pos
      holding [v, ov, iv] (setItem ov iv v)
      release [v, ov, iv] []) := by intro _; rfl) : PG X (.Subscript o k pos) (rdG C [] (subG fo fk)) :=
  pg_sub' (pg_sub ho hk set_list ha) fun v σ H Q ⟨Γ, τ, d, na, R, w⟩ => by
    have w0 := wp_noX (E' := wx C W σ ((v, .fz d) :: τ)) w
    refine rd_bind R w0 fun o Γ1 ov H1 R1 w1 => ?_
    refine rd_bind R1 (wp_under w1) fun t Γ2 kv H2 R2 w2 => ?_
    obtain ⟨k, ek, w3⟩ := wp_lookM (Out.wp_bind w2)
    obtain ⟨F, ow, R2⟩ := R2
    have hk := R2.look R2.temps.1 ek
    cases k with
    | int k =>
      cases hk
      cases o with
      | al i =>
        obtain ⟨ts, j, et, ej, w4⟩ := wp_setIxT w3
        obtain ⟨a, vs, sub, h1, h2, h3, h4, h5⟩ := R2.slotList et
        have h6 := R2.temps.2.1.1
        rw [h1] at h6
        cases h6
        have hd := R2.temps.2.2.1
        cases hd with
        | fz hd =>
          have hl : vs.length = ts.length := h5.length
          refine ⟨a, vs, k, j, rfl, rfl, h2, by rw [hl]; exact ej, w4 _ _ (fun _ _ => rfl) rfl ⟨F, ow, ?_⟩⟩
          refine R2.pop.pop.pop.mutSlot h4 ⟨_, h1, .ol sub upd_same (by rw [List.length_set]; exact h3) h4 ?_⟩
          exact OwTs.set (ol_frz (fun b u _ n z => by rw [upd_ne n]; exact z) h5) (.fz hd)
      | _ => exact w3.elim
    | _ => cases o <;> exact w3.elim
/-- target = value, any target -/
def asgM (fe : M T) (g : D → M Unit) : M Flow := bindM (fzD fe) fun d => bindM (g d) fun _ => retM .next
theorem rdS_fzD {α : Type} {f : M T} {k : D → M α} {σ : St} {H : Hp} {Γ : Env} {τ : Hand} {Q : VK} {P : α → Env → Prop} (R : Rel C σ H Γ τ) (h : (bindM (fzD f) k Γ).Wp P (wxS C W τ))
    (hq : ∀ d Γ' v H', Rel C σ H' Γ' ((v, .fz d) :: τ) → (k d Γ').Wp P (wxS C W τ) → Q v H') : rd C W f σ H Q := by
  refine ⟨Γ, τ, R, ?_⟩
  have h1 := Out.wp_bind (Out.wp_bind (Out.wp_bind h))
  refine Out.wp_mono h1 (fun t Γ1 w v H1 R1 => ?_) (fun _ _ z => wx_any z)
  obtain ⟨d, Γ2, R2, w2⟩ := R1.frz w
  exact hq d Γ2 v H1 R2 w2
theorem ds_asg {tg e : Expr} {fe : M T} {g : D → M Unit} {is : List Nat} {pos : Pos} (hq : Quiet g) (he : PE X e (rd C W fe)) (hg : PG X tg (rdG C is g)) (hs : swapsWithSole [tg] e pos.line X.env = pure false := by rfl) (hw : swappedStores [tg] e X.env = pure none := by rfl)
    (h1 : (assignEach [tg] X.env).map (·.2) = [assign tg X.env] := by rfl) : PS X (.Assign [tg] e pos) (rdS C W (asgM fe g)) := ps_sub (ps_asg he hg hs hw h1) fun D σ H ⟨Γ, τ, n, R, w⟩ => by
  refine rdS_fzD R w fun d Γ1 v H1 R1 w1 => ?_
  exact ⟨Γ1, τ, d, fun p hp i _ => n p hp i, R1, Out.wp_mono (wp_target w1 (hq d Γ1)) (fun _ Γ2 w2 σ' H' _ _ R2 => w2 σ' H' R2) (fun _ _ z => z)⟩
/-! ### several targets of any kind -/
def rdGs (C : Cc) (is : List Nat) (g : List D → M Unit) : TGs := fun vs σ H Q => ∃ Γ τ ds, vs.length = ds.length ∧ (∀ p ∈ τ, ∀ i ∈ is, p.2 ≠ .al i) ∧ Rel C σ H Γ (vs.zip (ds.map T.fz) ++ τ) ∧
  (g ds Γ).Wp (fun _ Γ' => ∀ σ' H', (∀ i, i ∉ is → σ'[i]? = σ[i]?) → σ'.length = σ.length → Rel C σ' H' Γ' τ → Q σ' H') (fun _ _ => False)
def nilG : List D → M Unit
  | [] => retM ()
  | _ :: _ => fun _ => .bad
def consG (g : D → M Unit) (gs : List D → M Unit) : List D → M Unit
  | d :: ds => bindM (g d) fun _ => gs ds
  | [] => fun _ => .bad
theorem pgs_sub' {ts : List Expr} {t t' : TGs} (h : PGs X ts t) (m : ∀ vs σ H Q, t' vs σ H Q → t vs σ H Q) : PGs X ts t' := ⟨fun pins s σ H v u Q I r q => h.run pins s σ H v u Q I r (m v σ H Q q)⟩
theorem dgs_nil : PGs X [] (rdGs C [] nilG) := pgs_sub' pgs_nil fun vs σ H Q ⟨Γ, τ, ds, hl, na, R, w⟩ => by
  cases ds with
  | nil =>
    cases vs with
    | nil => exact ⟨rfl, w σ H (fun _ _ => rfl) rfl R⟩
    | cons _ _ => cases hl
  | cons _ _ => exact w.elim
theorem zip_noAl : ∀ {vs : List V} {ds : List D} {i : Nat}, ∀ p ∈ vs.zip (ds.map T.fz), p.2 ≠ .al i
  | [], _, _, p, hp => by cases hp
  | v :: vs, [], _, p, hp => by cases hp
  | v :: vs, d :: ds, i, p, hp => by
    cases hp with
    | head => intro z; cases z
    | tail _ hp => exact zip_noAl p hp
theorem dgs_cons {e : Expr} {es : List Expr} {is is' : List Nat} {g : D → M Unit} {gs : List D → M Unit} (hq : Quiet g) (h1 : PG X e (rdG C is g)) (h2 : PGs X es (rdGs C is' gs))
    (hs : (assignEach (e :: es) X.env).map (·.2) = assign e X.env :: (assignEach es X.env).map (·.2) := by rfl) : PGs X (e :: es) (rdGs C (is ++ is') (consG g gs)) := pgs_sub' (pgs_cons h1 h2 hs) fun vs σ H Q ⟨Γ, τ, ds, hl, na, R, w⟩ => by
  cases ds with
  | nil => exact w.elim
  | cons d ds =>
    cases vs with
    | nil => cases hl
    | cons v vs =>
      refine ⟨v, vs, rfl, Γ, vs.zip (ds.map T.fz) ++ τ, d, fun p hp i hi => ?_, R, Out.wp_mono (wp_quiet (Out.wp_bind w) (hq d Γ)) (fun _ Γ1 w1 σ1 H1 e1 l1 R1 => ?_) (fun _ _ z => z)⟩
      · rcases List.mem_append.mp hp with h | h
        · exact zip_noAl p h
        · exact na p h i (List.mem_append_left _ hi)
      · refine ⟨Γ1, τ, ds, Nat.succ.inj hl, fun p hp i hi => na p hp i (List.mem_append_right _ hi), R1, Out.wp_mono w1 (fun _ Γ2 w2 σ2 H2 e2 l2 R2 => w2 σ2 H2 (fun i hi => ?_) (l2.trans l1) R2) (fun _ _ z => z)⟩
        rw [e2 i (fun z => hi (List.mem_append_right _ z)), e1 i (fun z => hi (List.mem_append_left _ z))]
theorem Rl.pushs {σ : St} {H F : Hp} {Γ : Env} {τ : Hand} {ow : Addr → Option Root} : ∀ {vs : List V} {ds : List D}, Rl C σ H Γ τ F ow → Dts C.K C.cl F vs ds → Rl C σ H Γ (vs.zip (ds.map T.fz) ++ τ) F ow
  | _, _, R, .nil => R
  | _, _, R, .cons h hs => (Rl.pushs R hs).push h
def tupGs (gs : List D → M Unit) (n : Nat) (d : D) : M Unit := match d with
  | .tup ds => if ds.length = n then gs ds else fun _ => .bad
  | _ => fun _ => .bad
def QuietS (gs : List D → M Unit) : Prop := ∀ ds Γ x Γ', gs ds Γ ≠ .exc x Γ'
theorem quiet_nil : QuietS nilG := fun ds Γ x Γ' z => by
  cases ds <;> cases z
theorem quiet_cons {g : D → M Unit} {gs : List D → M Unit} (h : Quiet g) (hs : QuietS gs) : QuietS (consG g gs) := fun ds Γ x Γ' z => by
  cases ds with
  | nil => cases z
  | cons d ds =>
    have z' : (g d Γ).bind (fun _ => gs ds) = .exc x Γ' := z
    cases e : g d Γ with
    | ok u Γ1 => rw [e] at z'; exact hs ds Γ1 x Γ' z'
    | exc y Γ1 => exact h d Γ y Γ1 e
    | bad => rw [e] at z'; cases z'
theorem quiet_tupGs {gs : List D → M Unit} {n : Nat} (hs : QuietS gs) : Quiet (tupGs gs n) := fun d Γ x Γ' z => by
  cases d with
  | tup ds =>
    unfold tupGs at z
    simp only at z
    split at z
    · exact hs ds Γ x Γ' z
    · cases z
  | _ => cases z
theorem dg_tupGs {es : List Expr} {k n : Nat} {is : List Nat} {gs : List D → M Unit} {pos : Pos} (hK : C.K = X.K) (hc : X.calm = true) (h : PGs X es (rdGs C is gs)) (hn : (assignEach es X.env).length = n := by rfl) (hst : (assignEach es X.env).findIdx? (·.1) = none := by rfl) :
    PG X (.Tuple es k pos) (rdG C is (tupGs gs n)) := pg_sub' (pg_tup hc h hn hst) fun v σ H Q ⟨Γ, τ, d, na, R, w⟩ => by
  cases d with
  | tup ds =>
    obtain ⟨F, ow, R⟩ := R
    have z := R.temps.1
    unfold tupGs at w
    simp only at w
    split at w
    · rename_i hl
      cases z with
      | fz z =>
        cases z with
        | tup g1 _ g2 => exact ⟨_, _, rfl, by rw [← hK]; exact R.ex.sqT g1, by rw [g2.length]; exact hl, Γ, τ, ds, g2.length, na, ⟨F, ow, R.pop.pushs g2⟩, w⟩
    · exact w.elim
  | _ => exact w.elim

/-! ### a call whose first argument is handed by reference -/
def joinAt (Γ' : Env) : Option T := match Γ'[0]? with
  | some o => o
  | none => none
def callRT (f : FSem) (o : T) (ds : List D) : M T := match o with
  | .al i => fun Γ => match Γ[i]? with
    | some (some t0) => match f (t0 :: ds.map T.fz) with
      | .ok t Γ' => if !t.isAl then .ok t (Γ.set i (joinAt Γ')) else .bad
      | .exc x Γ' => .exc x (Γ.set i (joinAt Γ'))
      | .bad => .bad
    | _ => .bad
  | _ => fun _ => .bad
def callR (f : FSem) (fa : M (List T)) : M T := bindM fa fun ts => match ts with
  | o :: tr => bindM (optM (T.fzs tr)) fun ds => callRT f o ds
  | [] => fun _ => .bad
theorem wp_callRT {Γ : Env} {i : Nat} {f : FSem} {ds : List D} {P : T → Env → Prop} {E : Exn → Env → Prop} (h : (callRT f (.al i) ds Γ).Wp P E) : ∃ t0, Γ[i]? = some (some t0) ∧ (f (t0 :: ds.map T.fz)).Wp (fun t Γ' => (∀ i, t ≠ .al i) ∧ P t (Γ.set i (joinAt Γ'))) (fun x Γ' => E x (Γ.set i (joinAt Γ'))) := by
  unfold callRT at h
  cases e : Γ[i]? with
  | none => simp only [e] at h; exact h.elim
  | some o =>
    cases o with
    | none => simp only [e] at h; exact h.elim
    | some t0 =>
      refine ⟨t0, rfl, ?_⟩
      simp only [e] at h
      cases q : f (t0 :: ds.map T.fz) with
      | ok t Γ' =>
        simp only [q] at h
        split at h
        · rename_i hs
          exact ⟨T.notAl hs, h⟩
        · exact h.elim
      | exc x Γ' => simp only [q] at h; exact h
      | bad => simp only [q] at h; exact h.elim
/-- behind such a call -/
theorem Rl.calleeR {σ : St} {H H' F F' : Hp} {Γ : Env} {τ : Hand} {ow : Addr → Option Root} {i : Nat} {t0 : T} {S0 Sr : Addr → Prop} {v0 : V} {ot : Option T} (R : Rl C σ H Γ τ F ow) (hv : σ[i]? = some (some v0)) (A : After F H (fun a => ow a = some (.inl i)) F' H' S0 Sr)
    (h0 : ∀ t, ot = some t → OwT C.K C.cl F' H' S0 v0 t) : ∃ ow', Rl C σ H' (Γ.set i ot) τ F' ow' ∧ (∀ a, Sr a → ow' a = some (.inr τ.length)) ∧ True := by
  classical
  have ex : ∀ a r, ow a = some r → r ≠ .inl i → ¬ S0 a ∧ ¬ Sr a := fun a r e n => by
    have no : ∀ s : S0 a ∨ Sr a, False := fun s => by
      rcases (A.own a s).2.2 with z | z
      · have z' : ow a = some (.inl i) := z
        rw [e] at z'
        exact n (Option.some.inj z')
      · obtain ⟨o, ho⟩ := R.ownH a r e
        rw [z] at ho
        cases ho
    exact ⟨fun s => no (.inl s), fun s => no (.inr s)⟩
  refine ⟨fun a => if S0 a then some (.inl i) else if Sr a then some (.inr τ.length) else if ow a = some (.inl i) then none else ow a, ⟨A.ex, R.old.trans A.sub, fun a o e => ?_, fun a o e hm => ?_, fun a r e => ?_, fun a r e => ?_, fun a r e => ?_, fun j t e => ?_, ?_, R.pins, by simpa using R.len⟩, fun a s => ?_, trivial⟩
  · rcases A.new a o e with z | z | z
    · exact R.new a o z
    · rcases R.freshN z with q | q
      · exact .inr (.inr q)
      · exact .inr (.inl q)
    · rcases R.ownN a _ z with q | q
      · exact .inr (.inr q)
      · exact .inr (.inl q)
  · refine A.frame a o (R.frame a o e hm) (fun z => ?_)
    rcases R.ownN a _ z with q | q
    · exact hm q
    · rw [q] at e
      cases e
  · by_cases s0 : S0 a
    · exact (A.own a (.inl s0)).1
    · by_cases sr : Sr a
      · exact (A.own a (.inr sr)).1
      · rw [if_neg s0, if_neg sr] at e
        by_cases q : ow a = some (.inl i)
        · rw [if_pos q] at e; cases e
        · rw [if_neg q] at e
          cases z : F' a with
          | none => rfl
          | some u =>
            rcases A.new a u z with y | y | y
            · rw [R.ownF a r e] at y; cases y
            · obtain ⟨o, ho⟩ := R.ownH a r e
              rw [y] at ho
              cases ho
            · exact absurd y q
  · by_cases s0 : S0 a
    · exact (A.own a (.inl s0)).2.1
    · by_cases sr : Sr a
      · exact (A.own a (.inr sr)).2.1
      · rw [if_neg s0, if_neg sr] at e
        by_cases q : ow a = some (.inl i)
        · rw [if_pos q] at e; cases e
        · rw [if_neg q] at e
          obtain ⟨o, ho⟩ := R.ownH a r e
          exact ⟨o, A.frame a o ho q⟩
  · have lift : (ow a = some (.inl i) ∨ H a = none) → C.mu a ∨ C.H0 a = none := fun z => by
      rcases z with z | z
      · exact R.ownN a _ z
      · exact R.freshN z
    by_cases s0 : S0 a
    · exact lift (A.own a (.inl s0)).2.2
    · by_cases sr : Sr a
      · exact lift (A.own a (.inr sr)).2.2
      · rw [if_neg s0, if_neg sr] at e
        by_cases q : ow a = some (.inl i)
        · rw [if_pos q] at e; cases e
        · rw [if_neg q] at e
          exact R.ownN a r e
  · by_cases hj : i = j
    · subst hj
      have hlt : i < Γ.length := by
        have := (List.getElem?_eq_some_iff.mp e).1
        simpa using this
      rw [List.getElem?_set_self hlt] at e
      exact ⟨v0, hv, (h0 t (Option.some.inj e)).keep (Sub.refl F') (fun _ _ _ q => q) (fun a q => if_pos q)⟩
    · rw [List.getElem?_set_ne hj] at e
      obtain ⟨w, g1, g2⟩ := R.slots j t e
      have n : (Sum.inl j : Root) ≠ .inl i := fun z => hj (Sum.inl.inj z).symm
      refine ⟨w, g1, g2.keep A.sub (fun a o s z => A.frame a o z (fun y => ?_)) (fun a q => ?_)⟩
      · have s' : ow a = some (.inl j) := s
        rw [y] at s'
        exact n (Option.some.inj s').symm
      · have q' : ow a = some (.inl j) := q
        obtain ⟨z1, z2⟩ := ex a _ q' n
        show (if S0 a then some (Sum.inl i) else if Sr a then some (.inr τ.length) else if ow a = some (.inl i) then none else ow a) = some (.inl j)
        rw [if_neg z1, if_neg z2, if_neg (fun y => by rw [q'] at y; exact n (Option.some.inj y)), q']
  · refine R.temps.keep A.sub (fun a o j _ s z => A.frame a o z (fun y => ?_)) (fun a j hj q => ?_)
    · have y' : ow a = some (.inl i) := y
      rw [s] at y'
      cases y'
    · have n : (Sum.inr j : Root) ≠ .inl i := fun z => by cases z
      obtain ⟨z1, z2⟩ := ex a _ q n
      show (if S0 a then some (Sum.inl i) else if Sr a then some (.inr τ.length) else if ow a = some (.inl i) then none else ow a) = some (.inr j)
      rw [if_neg z1, if_neg z2, if_neg (fun y => by rw [q] at y; cases y), q]
  · show (if S0 a then some (Sum.inl i) else if Sr a then some (.inr τ.length) else if ow a = some (.inl i) then none else ow a) = some (.inr τ.length)
    rw [if_neg (fun z => A.apart a z s), if_pos s]
theorem zip_rev_cons {v : V} {o : T} {vs : List V} {ts : List T} {τ : Hand} : ((v :: vs).zip (o :: ts)).reverse ++ τ = (vs.zip ts).reverse ++ ((v, o) :: τ) := by
  rw [List.zip_cons_cons, List.reverse_cons, List.append_assoc]
  rfl
theorem de_callR {k n : Nat} {f : Addr} {fd : FuncData} {ps : List Str} {fs : FSem} {x : Str} {e : Expr} {es : List Expr} {fa : M (List T)} {p pos : Pos} (hK : C.K = X.K) (tk : Takes X W) (G : FnOk X.prog X.w X.K X.mg X.base (L2.CX X.prog X.w) k f fd ps (spOf C.K C.cl n true fs))
    (hr : Room k X.A) (hg : Gl X x) (hm : X.mg x = some (.ref f)) (hk : PySem.W.keepIn X.K (.ref f) = true) (hb : Binds X.K fd ps []) (ha : PA X (e :: es) (rdA C W fa)) (hfa : ∀ Γ ts Γ', fa Γ = .ok ts Γ' → ts.length = n)
    (hdb : (x == ("__debug__" : Str)) = false := by decide) (he : starEach (e :: es) X.env = (false, eval e X.env) :: starEach es X.env := by rfl) (hpl : (backTo pos (starEach es X.env)).any (·.1) = false := by rfl) : PE X (.Call (.Name x p) (e :: es) [] pos) (rd C W (callR fs fa)) :=
  pe_sub (pe_callSD (E := fun σ cls d H => W cls d σ H) G hr hg hm hk hb .nil (fun σ => passAt tk σ) ha hdb he hpl) fun σ H Q ⟨Γ, τ, R, w⟩ => by
    refine ⟨Γ, τ, R, ?_⟩
    have w1 := Out.wp_bind w
    cases q : fa Γ with
    | ok ts Γ1 =>
      rw [q] at w1
      intro vs H1 hl R1
      rw [List.append_nil]
      refine ⟨hl.trans (hfa _ _ _ q), ?_⟩
      cases ts with
      | nil => exact w1.elim
      | cons o tr =>
        cases vs with
        | nil => cases hl
        | cons v0 vr =>
          have w2 : (bindM (optM (T.fzs tr)) (fun ds => callRT fs o ds) Γ1).Wp _ _ := w1
          obtain ⟨ds, e1, w3⟩ := wp_optM (Out.wp_bind w2)
          cases o with
          | al i =>
            obtain ⟨t0, e2, w4⟩ := wp_callRT w3
            rw [zip_rev_cons] at R1
            obtain ⟨F, ow, R1⟩ := R1
            have hd : Dts C.K C.cl F vr ds := R1.hands (Nat.succ.inj hl) e1
            have Rt : Rl C σ H1 Γ1 ((v0, .al i) :: τ) F ow := R1.drop
            have hv : σ[i]? = some (some v0) := Rt.temps.1.1
            obtain ⟨u, g1, g2⟩ := Rt.slots i t0 e2
            rw [hv] at g1
            cases g1
            refine ⟨F, fun a => ow a = some (.inl i), t0 :: ds.map T.fz, R1.ex, fun a s => ⟨R1.ownF a _ s, R1.ownH a _ s⟩, (fun z => by cases z), ⟨v0, vr, t0, ds, rfl, rfl, g2, hd⟩, Out.wp_mono w4 (fun t Γ' w5 => ⟨w5.1, fun v H' F' S0 Sr A ho bk => ?_⟩) (fun x' Γ' w5 cls dd H' F' S0 A bk hx => ?_)⟩
            · have h0 : ∀ t, joinAt Γ' = some t → OwT C.K C.cl F' H' S0 v0 t := fun t z => by
                refine bk rfl v0 vr t rfl ?_
                unfold joinAt at z
                split at z
                · rename_i o' eo
                  rw [eo, z]
                · cases z
              obtain ⟨ow', R2, hs, _⟩ := Rt.pop.calleeR (t0 := t0) hv A h0
              exact w5.2 v H' ⟨F', ow', R2.ex, R2.old, R2.new, R2.frame, R2.ownF, R2.ownH, R2.ownN, R2.slots, ⟨TempOk.of (ho.keep (Sub.refl F') (fun _ _ _ z => z) (fun a z => hs a z)), R2.temps⟩, R2.pins, R2.len⟩
            · have h0 : ∀ t, joinAt Γ' = some t → OwT C.K C.cl F' H' S0 v0 t := fun t z => by
                refine bk rfl v0 vr t rfl ?_
                unfold joinAt at z
                split at z
                · rename_i o' eo
                  rw [eo, z]
                · cases z
              obtain ⟨ow', R2, hs, _⟩ := Rt.pop.calleeR (t0 := t0) hv A h0
              exact w5 cls dd H' ⟨F', ow', R2, hx⟩
          | _ => exact w3.elim
    | exc x' Γ1 => rw [q] at w1; exact w1
    | bad => rw [q] at w1; exact w1
end
end DL
/-! isinstance, list(range), parallel assignment, keyword calls -/
namespace DL
open PySem L2

/-! ### isinstance -/
def D.ty : D → Option String
  | .non => some "NoneType"
  | .bl _ => some "bool"
  | .int _ => some "int"
  | .str _ => some "str"
  | .lst _ => some "list"
  | .tup _ => some "tuple"
  | .scr _ => some "list"
  | .dK _ => some "dict"
  | .dT _ => some "dict"
  | .ins _ _ => none
/-- the answer for a class, by types -/
def isTy (t c : String) : Bool := t == c || (t == "bool" && c == "int")
def okTy (c : String) : Bool := c == "bool" || c == "int" || c == "str" || c == "list" || c == "tuple"
theorem kit_is (t c : String) (ht : t = "NoneType" ∨ t = "bool" ∨ t = "int" ∨ t = "str" ∨ t = "list" ∨ t = "tuple" ∨ t = "dict") (hc : okTy c = true) : kitB t c = some (isTy t c) := by
  have hc' : c = "bool" ∨ c = "int" ∨ c = "str" ∨ c = "list" ∨ c = "tuple" := by
    simp only [okTy, Bool.or_eq_true, beq_iff_eq] at hc
    rcases hc with (((h | h) | h) | h) | h
    · exact .inl h
    · exact .inr (.inl h)
    · exact .inr (.inr (.inl h))
    · exact .inr (.inr (.inr (.inl h)))
    · exact .inr (.inr (.inr (.inr h)))
  rcases ht with rfl | rfl | rfl | rfl | rfl | rfl | rfl <;> rcases hc' with rfl | rfl | rfl | rfl | rfl <;> decide +kernel
theorem Dt.tyX {K : PySem.W.Frag} {cl : Str → Option Addr} {H : Hp} {v : V} {d : D} {t : String} (h : Dt K cl H v d) (e : d.ty = some t) : TyX K H v (.type t) := by
  cases h with
  | non => cases e; exact .base .non
  | bl b => cases e; exact .base (.bl b)
  | int i => cases e; exact .base (.int i)
  | str s => cases e; exact .base (.str s)
  | lst h _ _ => cases e; exact .base (.lst h)
  | tup h _ _ =>
    cases e
    rcases h with (h | ⟨o, h⟩) | ⟨o, _, _, h1, h2, _⟩
    · exact .base (.tup h)
    · exact .fTuple h
    · exact .kTuple h1 h2
  | scr h _ =>
    cases e
    rcases h with (h | ⟨o, h⟩) | ⟨o, _, _, h1, h2, _⟩
    · exact .base (.lst h)
    · exact .base (.frz h)
    · exact .kList h1 h2
  | dK h _ _ => cases e; exact .base (.dK h)
  | dT h _ _ => cases e; exact .base (.dT h)
  | ins _ _ _ _ => cases e
theorem D.ty_in {d : D} {t : String} (e : d.ty = some t) : t = "NoneType" ∨ t = "bool" ∨ t = "int" ∨ t = "str" ∨ t = "list" ∨ t = "tuple" ∨ t = "dict" := by
  cases d <;> cases e <;> simp
def isiM (cs : List String) (f : M T) : M T := bindM f fun t => bindM (lookM t) fun d => bindM (optM d.ty) fun n => retM (.fz (.bl (cs.any (isTy n))))
section
variable {X : Cx} {C : Cc} {W : WX}
theorem de_isi {e : Expr} {f : M T} {c : Str} {cn : String} {p p2 pos : Pos} (hK : C.K = X.K) (hok : okTy cn = true) (hg : Gl X "isinstance") (hm : X.mg "isinstance" = none) (hgc : Gl X c) (hmc : X.mg c = none) (hvc : bootBuiltins c = some (.type cn)) (he : PE X e (rd C W f))
    (hs : starEach [e, .Name c p2] X.env = (false, eval e X.env) :: starEach [.Name c p2] X.env := by rfl) (hs2 : starEach [.Name c p2] X.env = (false, eval (.Name c p2) X.env) :: starEach [] X.env := by rfl) (hpl : (backTo pos (starEach [.Name c p2] X.env)).any (·.1) = false := by rfl)
    (hn : c ≠ "__name__" := by decide) (hd : (c == ("__debug__" : Str)) = false := by decide) : PE X (.Call (.Name "isinstance" p) [e, .Name c p2] [] pos) (rd C W (isiM [cn] f)) :=
  pe_sub (pe_callB call_isi hg hm (by decide +kernel) (pa_cons he (pa_cons (pe_bltn (v := .ty cn) hgc hmc hvc rfl hn hd) pa_nil hs2) hs) (he := hs) (hpl := hpl)) fun σ H Q ⟨Γ, τ, R, w⟩ => by
    refine rd_bind R w fun t Γ1 v H1 R1 w1 => ?_
    obtain ⟨d, e1, w2⟩ := wp_lookM (Out.wp_bind w1)
    obtain ⟨n, e2, w3⟩ := wp_optM (Out.wp_bind w2)
    obtain ⟨F, ow, R1⟩ := R1
    have hd' := R1.look R1.temps.1 e1
    refine ⟨v, .ty cn, .type n, .type cn, isTy n cn, rfl, .ty cn, by rw [← hK]; exact hd'.tyX e2, kit_ty (kit_is n cn (D.ty_in e2) hok), ?_⟩
    have w4 := w3 (.bl (isTy n cn)) H1
    have eb : [cn].any (isTy n) = isTy n cn := by simp
    rw [eb] at w4
    exact w4 (Rel.scal ⟨F, ow, R1.pop⟩ (.bl _))
theorem de_isi2 {e : Expr} {f : M T} {c c' : Str} {cn cn' : String} {p p2 p3 p4 pos : Pos} {kk : Nat} (hK : C.K = X.K) (hok : okTy cn = true) (hok' : okTy cn' = true) (hg : Gl X "isinstance") (hm : X.mg "isinstance" = none) (hgc : Gl X c) (hmc : X.mg c = none) (hvc : bootBuiltins c = some (.type cn)) (hgc' : Gl X c') (hmc' : X.mg c' = none) (hvc' : bootBuiltins c' = some (.type cn')) (he : PE X e (rd C W f))
    (hs : starEach [e, .Tuple [.Name c p2, .Name c' p3] kk p4] X.env = (false, eval e X.env) :: starEach [.Tuple [.Name c p2, .Name c' p3] kk p4] X.env := by rfl) (hs2 : starEach [.Tuple [.Name c p2, .Name c' p3] kk p4] X.env = (false, eval (.Tuple [.Name c p2, .Name c' p3] kk p4) X.env) :: starEach [] X.env := by rfl) (hpl : (backTo pos (starEach [.Tuple [.Name c p2, .Name c' p3] kk p4] X.env)).any (·.1) = false := by rfl)
    (hs3 : starEach [.Name c p2, .Name c' p3] X.env = (false, eval (.Name c p2) X.env) :: starEach [.Name c' p3] X.env := by rfl) (hs4 : starEach [.Name c' p3] X.env = (false, eval (.Name c' p3) X.env) :: starEach [] X.env := by rfl)
    (hn : c ≠ "__name__" := by decide) (hd : (c == ("__debug__" : Str)) = false := by decide) (hn' : c' ≠ "__name__" := by decide) (hd' : (c' == ("__debug__" : Str)) = false := by decide) : PE X (.Call (.Name "isinstance" p) [e, .Tuple [.Name c p2, .Name c' p3] kk p4] [] pos) (rd C W (isiM [cn, cn'] f)) :=
  pe_sub (pe_callB call_isiT hg hm (by decide +kernel) (pa_cons he (pa_cons (pe_tup (pa_cons (pe_bltn (v := .ty cn) hgc hmc hvc rfl hn hd) (pa_cons (pe_bltn (v := .ty cn') hgc' hmc' hvc' rfl hn' hd') pa_nil hs4) hs3)) pa_nil hs2) hs) (he := hs) (hpl := hpl)) fun σ H Q ⟨Γ, τ, R, w⟩ => by
    refine rd_bind R w fun t Γ1 v H1 R1 w1 => ?_
    obtain ⟨d, e1, w2⟩ := wp_lookM (Out.wp_bind w1)
    obtain ⟨n, e2, w3⟩ := wp_optM (Out.wp_bind w2)
    obtain ⟨F, ow, R1⟩ := R1
    have hd' := R1.look R1.temps.1 e1
    refine ⟨by show 2 ≤ sizeLine; decide, fun p hp => ?_⟩
    have hsub : Sub H1 (upd H1 p (.tup [.ty cn, .ty cn'])) := fun a o z => by
      rw [upd_ne (ne_of_none z hp)]
      exact z
    refine ⟨v, p, [.ty cn, .ty cn'], .type n, [.type cn, .type cn'], isTy n cn || isTy n cn', rfl, upd_same, .cons (.ty cn) (.cons (.ty cn') .nil), by rw [← hK]; exact (hd'.mono hsub).tyX e2, ?_, ?_⟩
    · refine kitAny_cons (kit_ty (kit_is n cn (D.ty_in e2) hok)) (fun z => ?_) (fun z => by rw [z]; rfl)
      refine kitAny_cons (kit_ty (kit_is n cn' (D.ty_in e2) hok')) (fun z' => ?_) (fun z' => by rw [z', Bool.or_true])
      rw [z, z']
      exact kitAny_nil
    · have w4 := w3 (.bl (isTy n cn || isTy n cn')) (upd H1 p (.tup [.ty cn, .ty cn']))
      have eb : [cn, cn'].any (isTy n) = (isTy n cn || isTy n cn') := by simp
      rw [eb] at w4
      exact w4 (Rel.scal ⟨F, ow, R1.pop.newH hp⟩ (.bl _))

/-! ### list(range(..)) -/
def listRg (fi : M (List D)) : M T := bindM fi fun ds => retM (.ol (ds.map T.fz))
theorem rangeL_dts {K : PySem.W.Frag} {cl : Str → Option Addr} {F : Hp} (lo : Int) : ∀ (ks : List Nat), Dts K cl F (ks.map fun i => V.int (lo + (i : Nat))) (ks.map fun i : Nat => D.int (lo + (i : Int)))
  | [] => .nil
  | k :: ks => .cons (.int _) (rangeL_dts lo ks)
theorem de_listRg1 {a : Expr} {f : M T} {p p2 pos pos2 : Pos} (hc : X.calm = true) (hg : Gl X "list") (hm : X.mg "list" = none) (hg2 : Gl X "range") (hm2 : X.mg "range" = none) (ha : PE X a (rd C W f)) (na : starEach [a] X.env = (false, eval a X.env) :: starEach [] X.env := by rfl)
    (nb : starEach [.Call (.Name "range" p2) [a] [] pos2] X.env = (false, eval (.Call (.Name "range" p2) [a] [] pos2) X.env) :: starEach [] X.env := by rfl) : PE X (.Call (.Name "list" p) [.Call (.Name "range" p2) [a] [] pos2] [] pos) (rd C W (listRg (range1 f))) :=
  pe_sub (pe_listRg hc hg hm (prg_1 hg2 hm2 ha na) nb) fun σ H Q ⟨Γ, τ, R, w⟩ => by
    have w0 : (bindM (intM f) (fun n => bindM (bindM (guardM (rngOk 0 n)) fun _ => retM (rangeL 0 n.toNat)) fun ds => retM (T.ol (ds.map T.fz))) Γ).Wp _ _ := Out.wp_assoc w
    refine intM_bind R w0 fun n Γ1 H1 R1 w1 => ⟨n, rfl, ?_⟩
    obtain ⟨e, w2⟩ := wp_guardM (Out.wp_bind (Out.wp_bind w1))
    simp only [rngOk, Bool.and_eq_true, decide_eq_true_eq] at e
    have hz : (n - 0).toNat ≤ 2 ^ 24 := e.2
    refine ⟨⟨e.1.1.1.1, e.1.1.1.2, e.1.1.2, e.1.2, hz⟩, fun q hq => w2 _ _ ?_⟩
    obtain ⟨F, ow, R1⟩ := R1
    have hl : (rgV 0 n).length ≤ sizeLine := by rw [rgV_length]; exact hz
    have := R1.newList (vs := rgV 0 n) (ds := rangeL 0 n.toNat) hq hl (by
      unfold rgV rangeL
      rw [Int.sub_zero]
      exact rangeL_dts 0 _)
    exact this

/-! ### a, b = e1, e2 -/
def parM (i j : Nat) (fa : M (List T)) : M Flow := bindM fa fun ts => match ts with
  | [t1, t2] => if t1.isAl || t2.isAl then fun _ => .bad else fun Γ => .ok .next ((Γ.set i (some t1)).set j (some t2))
  | _ => fun _ => .bad
theorem ds_par {i j : Nat} {x y : Str} {a b : Expr} {fa : M (List T)} {px py pt : Pos} {kt k2 pt2} {pos : Pos} (hpi : C.pin i = none) (hpj : C.pin j = none) (hc : X.calm = true) (hN : X.N.Nodup) (hi : X.N[i]? = some x) (hj : X.N[j]? = some y) (hij : i ≠ j)
    (hx : X.env.scope.names.lookup x = some .local) (hy : X.env.scope.names.lookup y = some .local) (ha : PA X [a, b] (rdA C W fa))
    (hw : swappedStores [.Tuple [.Name x px, .Name y py] kt pt] (.Tuple [a, b] k2 pt2) X.env = pure (some [x, y]))
    (hs : swapsWithSole [.Tuple [.Name x px, .Name y py] kt pt] (.Tuple [a, b] k2 pt2) pos.line X.env = pure false := by rfl) :
    PS X (.Assign [.Tuple [.Name x px, .Name y py] kt pt] (.Tuple [a, b] k2 pt2) pos) (rdS C W (parM i j fa)) := ps_sub (ps_par hc hN hi hj hij hx hy ha hw hs) fun D σ H ⟨Γ, τ, n, R, w⟩ => by
  have w1 := Out.wp_bind w
  refine ⟨Γ, τ, R, Out.wp_mono w1 (fun ts Γ1 w2 vs H1 hl R1 => ?_) (fun _ _ z => wx_any z)⟩
  match ts, vs, hl, w2, R1 with
  | [t1, t2], [v1, v2], _, w2, R1 =>
    refine ⟨v1, v2, rfl, ?_⟩
    simp only at w2
    split at w2
    · exact w2.elim
    · rename_i hal
      have hal' : t1.isAl = false ∧ t2.isAl = false := by simpa using hal
      have n1 : ∀ k, t1 ≠ .al k := T.notAl (by rw [hal'.1]; rfl)
      have n2 : ∀ k, t2 ≠ .al k := T.notAl (by rw [hal'.2]; rfl)
      have R2 : Rel C (σ.set j (some v2)) H1 (Γ1.set j (some t2)) ((v1, t1) :: τ) := Rel.store (v := v2) (t := t2) R1 n2 hpj (fun p hp => by
        cases hp with
        | head => exact n1 j
        | tail _ hp => exact n p hp j)
      have R3 := R2.store n1 hpi (fun p hp => n p hp i)
      rw [List.set_comm _ _ (Ne.symm hij), List.set_comm _ _ (Ne.symm hij)] at R3
      exact w2 _ _ R3
  | [], _, _, w2, _ => exact w2.elim
  | [_], _, _, w2, _ => exact w2.elim
  | _ :: _ :: _ :: _, _, _, w2, _ => exact w2.elim

/-! ### f(e, .., k = v, ..) -/
def pick {α : Type} (is : List Nat) (l : List α) : List α := is.filterMap fun i => l[i]?
theorem Dts.pick {K : PySem.W.Frag} {cl : Str → Option Addr} {F : Hp} {vs : List V} {ds : List D} (h : Dts K cl F vs ds) : ∀ is : List Nat, Dts K cl F (pick is vs) (pick is ds)
  | [] => .nil
  | i :: is => by
    unfold DL.pick
    rw [List.filterMap_cons, List.filterMap_cons]
    cases e : ds[i]? with
    | none =>
      have e2 : vs[i]? = none := by
        rw [List.getElem?_eq_none_iff] at e ⊢
        rw [h.length]
        exact e
      rw [e2]
      exact Dts.pick h is
    | some d =>
      obtain ⟨v, e1, hv⟩ := h.get e
      rw [e1]
      exact .cons hv (Dts.pick h is)
theorem vals_pick {vs : List V} {us : List Value} (h : Vals vs us) : ∀ is : List Nat, Vals (pick is vs) (pick is us)
  | [] => .nil
  | i :: is => by
    unfold pick
    rw [List.filterMap_cons, List.filterMap_cons]
    cases e : vs[i]? with
    | none =>
      rw [h.none_of e]
      exact vals_pick h is
    | some v =>
      obtain ⟨u, e1, hu⟩ := h.get e
      rw [e1]
      exact .cons hu (vals_pick h is)
theorem pk_sub {kws : List Keyword} {t t' : TA} (h : PK X kws t) (m : ∀ σ H Q, t' σ H Q → t σ H Q) : PK X kws t' := ⟨fun pos pins s σ H Q I q => h.run pos pins s σ H Q I (m σ H Q q)⟩
theorem dk_nil : PK X [] (rdA C W (argsM [])) := pk_sub pk_nil fun σ H Q ⟨Γ, τ, R, w⟩ => w [] H rfl R
theorem dk_cons {nm : Option Str} {e : Expr} {kws : List Keyword} {f : M T} {fs : List (M T)} {kpos : Pos} (ha : PE X e (rd C W f)) (hr : PK X kws (rdA C W (argsM fs))) : PK X (⟨nm, e, kpos⟩ :: kws) (rdA C W (argsM (f :: fs))) :=
  pk_sub (pk_cons ha hr) fun σ H Q ⟨Γ, τ, R, w⟩ => by
    refine rd_bind R w fun t Γ1 v H1 R1 w1 => ?_
    refine ⟨Γ1, (v, t) :: τ, R1, Out.wp_mono (Out.wp_bind (wp_under w1)) (fun ts Γ2 w2 vs H2 hl R2 => w2 (v :: vs) H2 (by simp [hl]) ?_) (fun _ _ z => z)⟩
    rw [List.zip_cons_cons, List.reverse_cons, List.append_assoc]
    exact R2
def callK (is : List Nat) (f : FSem) (fa fk : M (List T)) : M T := bindM fa fun ts => bindM fk fun us => bindM (optM (T.fzs (ts ++ us))) fun ds => fun Γ => match f ((pick is ds).map T.fz) with
  | .ok t _ => if !t.isAl then .ok t Γ else .bad
  | .exc x _ => .exc x Γ
  | .bad => .bad
theorem run_kw {CX : CXT} {k : Nat} {f : Addr} {fd : FuncData} {ps ks : List Str} {sp : Sp} {is : List Nat} {n : Nat} {E : St → XK} {pins : List (Addr × Obj)} {σ : St} {H : Hp} {s : Shared} {Q : VK} {us ws : List Value} {vs zs : List V} (G : FnOk X.prog X.w X.K X.mg X.base CX k f fd ps sp) (hr : Room k X.A)
    (hb : ∀ (s : Shared) (us ws : List Value), us.length = n → ws.length = ks.length → BindsTo s fd ⟨us, ks.zip ws⟩ (ps.zip (pick is (us ++ ws)))) (hx : PassesAt CX X σ (E σ)) (I : Inv X pins σ H s) (r : Vals vs us) (rz : Vals zs ws) (hn : vs.length = n) (hm : zs.length = ks.length)
    (h : sp (pick is (vs ++ zs)) H Q (E σ)) : wpAny (model X.prog X.w) X.A (call (.ref f) us (ks.zip ws)) (EP X pins σ Q) X.xe s := by
  have r2 : Vals (pick is (vs ++ zs)) (pick is (us ++ ws)) := vals_pick (r.append rz) is
  refine wpAny_call (codeAny_mono (G.run X.A X.stack s H ⟨us, ks.zip ws⟩ (pick is (us ++ ws)) (pick is (vs ++ zs)) Q (E σ) hr I.env0 (hb s us ws (by rw [← r.length]; exact hn) (by rw [← rz.length]; exact hm)) r2 h) fun rs s' hq => ?_)
  cases rs with
  | error e => exact hx pins H s e s' I hq
  | ok fl =>
    cases fl with
    | ret u => exact I.after hq
    | next => exact False.elim hq
    | brk => exact False.elim hq
    | cont => exact False.elim hq
theorem pe_kw0 {CX : CXT} {k : Nat} {f : Addr} {fd : FuncData} {ps ks : List Str} {sp : Sp} {is : List Nat} {E : St → XK} {x : Str} {p pos : Pos} {kws : List Keyword} {tk : TA} (G : FnOk X.prog X.w X.K X.mg X.base CX k f fd ps sp) (hr : Room k X.A) (hg : Gl X x) (hm : X.mg x = some (.ref f)) (hk : PySem.W.keepIn X.K (.ref f) = true)
    (hb : ∀ (s : Shared) (us ws : List Value), us.length = 0 → ws.length = ks.length → BindsTo s fd ⟨us, ks.zip ws⟩ (ps.zip (pick is (us ++ ws)))) (hx : ∀ σ, PassesAt CX X σ (E σ)) (hkw : PK X kws tk) (hall : (backToKw pos (keywordEach kws X.env)).all (·.1.isSome) = true := by rfl)
    (hks : (backToKw pos (keywordEach kws X.env)).filterMap (·.1) = ks := by rfl) (hdb : (x == ("__debug__" : Str)) = false := by decide) (hpl : ((backTo pos (starEach [] X.env)).any (·.1) || (backToKw pos (keywordEach kws X.env)).any (·.1.isNone)) = false := by rfl) :
    PE X (.Call (.Name x p) [] kws pos) (fun σ H Q => tk σ H fun zs H2 => zs.length = ks.length ∧ sp (pick is ([] ++ zs)) H2 Q (E σ)) := by
  refine ⟨fun pins s σ H Q I h => wpAny_Call_Name_kw (ld_glob I hg hm ?_ hdb)⟩
  refine PySem.W.callWith_KW0 (h₀ := X.base) I.ok.mod.kin hk hall (thn (hkw.run pos pins s σ H _ I h) fun ws s2 hw => ?_) hpl
  obtain ⟨zs, H2, I2, rz, hl, q2⟩ := hw
  refine ⟨I2.kIn, ?_⟩
  rw [hks]
  exact run_kw (us := []) (vs := []) G hr hb (hx σ) I2 .nil rz rfl hl q2
theorem pe_kw {CX : CXT} {k n : Nat} {f : Addr} {fd : FuncData} {ps ks : List Str} {sp : Sp} {is : List Nat} {E : St → XK} {x : Str} {e : Expr} {es : List Expr} {p pos : Pos} {kws : List Keyword} {t tk : TA} (G : FnOk X.prog X.w X.K X.mg X.base CX k f fd ps sp) (hr : Room k X.A) (hg : Gl X x) (hm : X.mg x = some (.ref f)) (hk : PySem.W.keepIn X.K (.ref f) = true)
    (hb : ∀ (s : Shared) (us ws : List Value), us.length = n → ws.length = ks.length → BindsTo s fd ⟨us, ks.zip ws⟩ (ps.zip (pick is (us ++ ws)))) (hx : ∀ σ, PassesAt CX X σ (E σ)) (ha : PA X (e :: es) t) (hkw : PK X kws tk) (hall : (backToKw pos (keywordEach kws X.env)).all (·.1.isSome) = true := by rfl)
    (hks : (backToKw pos (keywordEach kws X.env)).filterMap (·.1) = ks := by rfl) (hdb : (x == ("__debug__" : Str)) = false := by decide) (he : starEach (e :: es) X.env = (false, eval e X.env) :: starEach es X.env := by rfl)
    (hpl : ((backTo pos (starEach (e :: es) X.env)).any (·.1) || (backToKw pos (keywordEach kws X.env)).any (·.1.isNone)) = false := by rfl) :
    PE X (.Call (.Name x p) (e :: es) kws pos) (fun σ H Q => t σ H fun vs H1 => tk σ H1 fun zs H2 => vs.length = n ∧ zs.length = ks.length ∧ sp (pick is (vs ++ zs)) H2 Q (E σ)) := by
  refine ⟨fun pins s σ H Q I h => wpAny_Call_Name_kw (ld_glob I hg hm ?_ hdb)⟩
  refine PySem.W.callWith_KW (h₀ := X.base) I.ok.mod.kin hk hall (thn (ha.run pos pins s σ H _ I h) fun us s1 hv => ?_) hpl he
  obtain ⟨vs, H1, I1, r, q⟩ := hv
  refine thn (hkw.run pos pins s1 σ H1 _ I1 q) fun ws s2 hw => ?_
  obtain ⟨zs, H2, I2, rz, hl, hl2, q2⟩ := hw
  refine ⟨I2.kIn, ?_⟩
  rw [hks]
  exact run_kw G hr hb (hx σ) I2 r rz hl hl2 q2
theorem call_goK {n : Nat} {f : FSem} {is : List Nat} {σ : St} {H : Hp} {Γ : Env} {τ : Hand} {ts : List T} {vs : List V} {Q : VK} (hn : is.length = n) (hin : ∀ i ∈ is, i < vs.length) (hl : vs.length = ts.length) (R : Rel C σ H Γ ((vs.zip ts).reverse ++ τ))
    (w : (bindM (optM (T.fzs ts)) (fun ds => fun Γ => match f ((pick is ds).map T.fz) with
      | .ok t _ => if !t.isAl then Out.ok t Γ else .bad
      | .exc x _ => .exc x Γ
      | .bad => .bad) Γ).Wp (fun t Γ' => ∀ v H', Rel C σ H' Γ' ((v, t) :: τ) → Q v H') (wx C W σ τ)) :
    spOf C.K C.cl n false f (pick is vs) H Q (fun cls d H' => W cls d σ H') := by
  obtain ⟨ds, e1, w2⟩ := wp_optM (Out.wp_bind w)
  obtain ⟨F, ow, R⟩ := R
  have hd := R.hands hl e1
  have hlen : (pick is vs).length = n := by
    rw [← hn]
    clear w w2 hn
    induction is with
    | nil => rfl
    | cons i is ih =>
      have h1 : i < vs.length := hin i List.mem_cons_self
      unfold pick
      rw [List.filterMap_cons, List.getElem?_eq_getElem h1]
      exact congrArg (· + 1) (ih fun j hj => hin j (List.mem_cons_of_mem _ hj))
  refine ⟨hlen, F, fun _ => False, (pick is ds).map T.fz, R.ex, fun a z => z.elim, fun _ a z => z, ⟨pick is ds, rfl, hd.pick is⟩, ?_⟩
  cases e3 : f ((pick is ds).map T.fz) with
  | ok t Γ' =>
    simp only [e3] at w2
    split at w2
    · rename_i hs
      exact ⟨T.notAl hs, fun v H' F' S0 Sr A h _ => w2 v H' (R.drop.callee A (T.notAl hs) h)⟩
    · exact w2.elim
  | exc x Γ' =>
    simp only [e3] at w2
    exact fun cls d H' F' S0 A _ hx => w2 cls d H' ⟨F', ow, R.drop.calleeX A, hx⟩
  | bad => simp only [e3] at w2; exact w2.elim
theorem de_kw0 {k n m : Nat} {f : Addr} {fd : FuncData} {ps ks : List Str} {fs : FSem} {is : List Nat} {x : Str} {fk : M (List T)} {p pos : Pos} {kws : List Keyword} (tk : Takes X W) (G : FnOk X.prog X.w X.K X.mg X.base (L2.CX X.prog X.w) k f fd ps (spOf C.K C.cl n false fs)) (hr : Room k X.A) (hg : Gl X x) (hm : X.mg x = some (.ref f)) (hk : PySem.W.keepIn X.K (.ref f) = true)
    (hb : ∀ (s : Shared) (us ws : List Value), us.length = 0 → ws.length = ks.length → BindsTo s fd ⟨us, ks.zip ws⟩ (ps.zip (pick is (us ++ ws)))) (hkw : PK X kws (rdA C W fk)) (hfk : ∀ Γ ts Γ', fk Γ = .ok ts Γ' → ts.length = ks.length) (hn : is.length = n) (hin : ∀ i ∈ is, i < ks.length)
    (hall : (backToKw pos (keywordEach kws X.env)).all (·.1.isSome) = true := by rfl) (hks : (backToKw pos (keywordEach kws X.env)).filterMap (·.1) = ks := by rfl) (hdb : (x == ("__debug__" : Str)) = false := by decide) (hpl : ((backTo pos (starEach [] X.env)).any (·.1) || (backToKw pos (keywordEach kws X.env)).any (·.1.isNone)) = false := by rfl) :
    PE X (.Call (.Name x p) [] kws pos) (rd C W (callK is fs (argsM []) fk)) :=
  pe_sub (pe_kw0 (E := fun σ cls d H => W cls d σ H) G hr hg hm hk hb (fun σ => passAt tk σ) hkw hall hks hdb hpl) fun σ H Q ⟨Γ, τ, R, w⟩ => by
    have w0 : (bindM fk (fun us => bindM (optM (T.fzs ([] ++ us))) fun ds => fun Γ => match fs ((pick is ds).map T.fz) with
      | .ok t _ => if !t.isAl then Out.ok t Γ else .bad
      | .exc x _ => .exc x Γ
      | .bad => .bad) Γ).Wp _ _ := w
    refine ⟨Γ, τ, R, ?_⟩
    have w1 := Out.wp_bind w0
    cases q : fk Γ with
    | ok ts Γ1 =>
      rw [q] at w1
      intro vs H1 hl R1
      have hl' := hl.trans (hfk _ _ _ q)
      exact ⟨hl', call_goK hn (by rw [List.nil_append, hl']; exact hin) hl R1 w1⟩
    | exc x' Γ1 => rw [q] at w1; exact w1
    | bad => rw [q] at w1; exact w1
theorem de_kw {k n m : Nat} {f : Addr} {fd : FuncData} {ps ks : List Str} {fs : FSem} {is : List Nat} {x : Str} {e : Expr} {es : List Expr} {fa fk : M (List T)} {p pos : Pos} {kws : List Keyword} (tk : Takes X W) (G : FnOk X.prog X.w X.K X.mg X.base (L2.CX X.prog X.w) k f fd ps (spOf C.K C.cl n false fs)) (hr : Room k X.A) (hg : Gl X x) (hm : X.mg x = some (.ref f)) (hk : PySem.W.keepIn X.K (.ref f) = true)
    (hb : ∀ (s : Shared) (us ws : List Value), us.length = m → ws.length = ks.length → BindsTo s fd ⟨us, ks.zip ws⟩ (ps.zip (pick is (us ++ ws)))) (ha : PA X (e :: es) (rdA C W fa)) (hfa : ∀ Γ ts Γ', fa Γ = .ok ts Γ' → ts.length = m) (hkw : PK X kws (rdA C W fk)) (hfk : ∀ Γ ts Γ', fk Γ = .ok ts Γ' → ts.length = ks.length) (hn : is.length = n) (hin : ∀ i ∈ is, i < m + ks.length)
    (hall : (backToKw pos (keywordEach kws X.env)).all (·.1.isSome) = true := by rfl) (hks : (backToKw pos (keywordEach kws X.env)).filterMap (·.1) = ks := by rfl) (hdb : (x == ("__debug__" : Str)) = false := by decide) (he : starEach (e :: es) X.env = (false, eval e X.env) :: starEach es X.env := by rfl)
    (hpl : ((backTo pos (starEach (e :: es) X.env)).any (·.1) || (backToKw pos (keywordEach kws X.env)).any (·.1.isNone)) = false := by rfl) :
    PE X (.Call (.Name x p) (e :: es) kws pos) (rd C W (callK is fs fa fk)) :=
  pe_sub (pe_kw (E := fun σ cls d H => W cls d σ H) G hr hg hm hk hb (fun σ => passAt tk σ) ha hkw hall hks hdb he hpl) fun σ H Q ⟨Γ, τ, R, w⟩ => by
    refine ⟨Γ, τ, R, ?_⟩
    have w1 := Out.wp_bind w
    cases q : fa Γ with
    | ok ts Γ1 =>
      rw [q] at w1
      intro vs H1 hl R1
      have hl' := hl.trans (hfa _ _ _ q)
      refine ⟨Γ1, _, R1, ?_⟩
      have w2 := Out.wp_bind (wp_underL (υ := (vs.zip ts).reverse) w1)
      cases q2 : fk Γ1 with
      | ok us Γ2 =>
        rw [q2] at w2
        intro zs H2 hl2 R2
        have hl2' := hl2.trans (hfk _ _ _ q2)
        have eh : (zs.zip us).reverse ++ ((vs.zip ts).reverse ++ τ) = ((vs ++ zs).zip (ts ++ us)).reverse ++ τ := by
          rw [List.zip_append hl, List.reverse_append, List.append_assoc]
        rw [eh] at R2
        refine ⟨hl', hl2', call_goK hn (by rw [List.length_append, hl', hl2']; exact hin) (by rw [List.length_append, List.length_append, hl, hl2]) R2 ?_⟩
        have w3 := Out.wp_bind w1
        rw [q2] at w3
        exact w3
      | exc x' Γ2 => rw [q2] at w2; exact w2
      | bad => rw [q2] at w2; exact w2
    | exc x' Γ1 => rw [q] at w1; exact w1
    | bad => rw [q] at w1; exact w1
end
end DL
/-! enumerate over a tuple -/
namespace DL
open PySem PySem.Spec L2 PyProof.Rows
open AutoSeq1 (wpAny_loadPart')

theorem meets_enumT (l : Addr) (items : Array Value) (n : Nat) (dct : Option Addr) (sl : Array (Option Value)) :
    Meets (Builtin.«enumerate.__new__» ⟨[.type "enumerate", .ref l], []⟩) (fun _ R s => s.heap.get? l = some { cls := .type "tuple", dict := dct, data := .seq items n, slots := sl } ∧
      R (.ok (.ret (.ref (s.heap.push { cls := .type "tuple_iterator", data := .fields #[.ref l, .int 0 0] }).objs.size)))
        { s with heap := (s.heap.push { cls := .type "tuple_iterator", data := .fields #[.ref l, .int 0 0] }).push { cls := .type "enumerate", data := .fields #[.none, .bool false, .ref s.heap.objs.size, rawInt 0, .none, .none] } }) :=
  .of_wp fun prog w A R s hyp => by
    obtain ⟨hp, g, d, tk, os⟩ := s
    obtain ⟨hl, hR⟩ := hyp
    have hsub := sub_enumerate
    have hT : Heap.IsTuple (Shared.heap ⟨hp, g, d, tk, os⟩) l items := ⟨_, hl, rfl, n, rfl⟩
    wp_walk using wpAny_loadPart' hl
    refine wpAny_stack_any fun st => wpAny_pure ?_
    split
    · rename_i c _ _ _ _ _
      cases (c == Value.type "enumerate")
      · wp_walk using wpAny_loadPart' hl, wpAny_pyIter_tuple hT
        exact ⟨_, rfl, hR⟩
      · wp_walk using wpAny_loadPart' hl, wpAny_pyIter_tuple hT
        exact ⟨_, rfl, hR⟩
    · wp_walk using wpAny_loadPart' hl, wpAny_pyIter_tuple hT
      exact ⟨_, rfl, hR⟩
section
variable {prog : Program} {w : World} {A : Around} {E : Value → Shared → Prop} {s : Shared}
theorem call_enumT {l : Addr} {items : Array Value} {Q : Value → Shared → Prop} (hL : s.heap.IsTuple l items)
    (h : ∀ h', IsEnum h' (s.heap.objs.size + 1) s.heap.objs.size 0 .none → h'.IsTupleIter s.heap.objs.size l 0 → h'.objs.size = s.heap.objs.size + 2 →
      (∀ b o, s.heap.get? b = some o → h'.get? b = some o) → Q (.ref (s.heap.objs.size + 1)) { s with heap := h' }) : wpAny (model prog w) A (call (.type "enumerate") [.ref l]) Q E s := by
  obtain ⟨⟨c, dct, dt, sl⟩, hl, hc, n, hd⟩ := hL
  replace hc : c = .type "tuple" := hc
  replace hd : dt = .seq items n := hd
  subst hc hd
  refine callType_new F.called_enumerate (by decide) (F.typeCall_enumerate_1 _) (F.newCall_enumerate_1 _) (fun obj => F.args_object_init_2 obj _) F.entry_enumerate_new (meets_enumT l items n dct sl) ⟨hl, ?_⟩
  have hz : (s.heap.push { cls := .type "tuple_iterator", data := .fields #[.ref l, .int 0 0] }).objs.size = s.heap.objs.size + 1 := Heap.size_push ..
  show _ ∧ _
  rw [hz]
  have he : IsEnum ((s.heap.push { cls := .type "tuple_iterator", data := .fields #[.ref l, .int 0 0] }).push { cls := .type "enumerate", data := .fields #[.none, .bool false, .ref s.heap.objs.size, rawInt 0, .none, .none] }) (s.heap.objs.size + 1) s.heap.objs.size 0 .none := by
    have z := Heap.get?_push_size (s.heap.push { cls := .type "tuple_iterator", data := .fields #[.ref l, .int 0 0] }) (o := { cls := .type "enumerate", data := .fields #[.none, .bool false, .ref s.heap.objs.size, rawInt 0, .none, .none] }) rfl
    rw [hz] at z
    exact z
  exact ⟨⟨_, he, rfl⟩, h _ he ⟨_, Heap.get?_push_of_some _ (Heap.get?_push_size _ rfl), rfl, rfl⟩ (by rw [Heap.size_push, hz]) fun b o x => Heap.get?_push_of_some _ (Heap.get?_push_of_some _ x)⟩
end
/-- the tuple at a, each item in a new pair with its place -/
def IteT (K : PySem.W.Frag) (a : Addr) : It :=
  ⟨fun i H => ∃ (xs : List V) (x : V), SqT K H a xs ∧ xs[i]? = some x, fun i H v H' => ∃ T x, v = .ref T ∧ H T = none ∧ H' = upd H T (.tup [.int (i : Nat), x]) ∧ ∀ xs, SqT K H a xs → xs[i]? = some x, fun i H => ∃ xs : List V, SqT K H a xs ∧ xs.length = i⟩
theorem turn_enumT {P : Program} {w : World} {K : PySem.W.Frag} {elts : List Expr} {kk : Nat} {tpos : Pos} (a e it : Addr) :
    Turn P w K (.Tuple elts kk tpos) (IteT K a) [e, it] e (fun i h => (∃ old, IsEnum h e it ((i : Nat) : Int) old) ∧ h.IsTupleIter it a i ∧ e ≠ it) where
  mem := by simp
  obj := fun i h st b hb => by
    obtain ⟨⟨old, he⟩, ⟨o, ho, hc, hd⟩, _⟩ := st
    have e' : b = e ∨ b = it := by simpa using hb
    rcases e' with z | z
    · rw [z]
      exact ⟨_, he, fun v q => nomatch q⟩
    · rw [z]
      exact ⟨o, ho, fun v q => by rw [hd] at q; cases q⟩
  keep := fun i h h' st k => let ⟨⟨old, he⟩, hi, hne⟩ := st; ⟨⟨old, k e (by simp) _ he⟩, hi.at fun o q => k it (by simp) o q, hne⟩
  item := by
    intro X hP hw hK hc i pins s σ H E I hf st hg
    subst hP hw hK
    obtain ⟨⟨old, he⟩, hit, hne⟩ := st
    obtain ⟨xs, x, hq, hx⟩ := hg
    obtain ⟨its, rv, p, hz⟩ := I.tuple hq
    obtain ⟨u, hu, ru⟩ := rv.get hx
    have pt : s.heap.IsTuple a its.toArray := p
    obtain ⟨ot, ht1, ht2, ht3⟩ := id p
    obtain ⟨oi, hi1, hi2, hi3⟩ := id hit
    have nai : a ≠ it := fun z => by
      subst z
      rw [ht1] at hi1
      cases hi1
      rw [ht2] at hi2
      exact absurd hi2 (by decide)
    have nea : e ≠ a := fun z => by
      subst z
      have he' : s.heap.get? e = some _ := he
      rw [ht1] at he'
      cases he'
      exact absurd (show Value.type "enumerate" = Value.type "tuple" from ht2) (by decide)
    have hel : e < s.heap.objs.size := Heap.lt_size he
    have hil : it < s.heap.objs.size := Heap.lt_size hi1
    have hlt : i < its.toArray.size := by
      have := (List.getElem?_eq_some_iff.mp hu).1
      simpa using this
    refine wpAny_pyNext_enum_itemD (Draws.tuple (A := X.A.in1) (show X.A.in1.handled = none from I.ok.hd hc) it a nai its.toArray) he ⟨hit, pt⟩ hlt hne (by simp [hne, nea]) fun y h' tk hy ho hst hT hsz hk => ?_
    have ey : y = u := by
      have z : its.toArray[i]? = some u := by simpa using hu
      rw [z] at hy
      exact (Option.some.inj hy).symm
    subst ey
    refine ⟨_, rfl, wpAny_letOwnedTupleGo_enum (s := { s with heap := h', toks := tk + 1 }) ho fun h'' he' sb => ?_⟩
    have hT2 : h''.get? s.heap.objs.size = some { cls := .type "tuple", data := .seq #[.int i tk, y] } := (sb.2 _ (Nat.ne_of_gt hel)).trans hT
    have new : ObjOk X.prog X.w (upd H s.heap.objs.size (.tup [.int (i : Nat), x])) h'' s.heap.objs.size (.tup [.int (i : Nat), x]) :=
      ⟨by show 2 ≤ sizeLine; decide, [.int i tk, y], .cons ⟨_, rfl⟩ (.cons ru .nil), ⟨_, hT2, rfl, _, rfl⟩⟩
    have I1 : Inv X pins σ (upd H s.heap.objs.size (.tup [.int (i : Nat), x])) { s with heap := h'', toks := tk + 1 } :=
      I.turnedNew (ch := [e, it]) (fun b ob hb q => (sb.2 b (fun z => hb (by simp [z]))).trans (hk b ob (fun z => hb (by simp [z])) (fun z => hb (by simp [z])) q)) hf (Nat.le_refl _) new
    refine ⟨.ref s.heap.objs.size, _, I1, rfl, ⟨_, x, rfl, I.hok.fresh (Nat.le_refl _), rfl, fun ys hy => by rw [I.tuple_inj hy hq]; exact hx⟩, ⟨⟨y, ?_⟩, hst.1.at fun o q => (sb.2 it (Ne.symm hne)).trans q, hne⟩, fun b hb => ?_⟩
    · have e1 : ((i + 1 : Nat) : Int) = (i : Int) + 1 := by omega
      rw [e1]
      exact he'
    · have hb' : b < s.heap.objs.size := by
        have e' : b = e ∨ b = it := by simpa using hb
        rcases e' with z | z
        · rw [z]; exact hel
        · rw [z]; exact hil
      rw [upd_ne (Nat.ne_of_lt hb')]
      exact (hf b hb).1
  done := by
    intro X hP hw hK hc i pins s σ H E I hf st hg
    subst hP hw hK
    obtain ⟨⟨old, he⟩, hit, hne⟩ := st
    obtain ⟨xs, hq, hx⟩ := hg
    obtain ⟨its, rv, p, hz⟩ := I.tuple hq
    obtain ⟨f0, f1, f2, f3, f4, f5⟩ := hf it (by simp)
    obtain ⟨ot, ht1, ht2, ht3⟩ := id p
    obtain ⟨oi, hi1, hi2, hi3⟩ := id hit
    have nai : a ≠ it := fun z => by
      subst z
      rw [ht1] at hi1
      cases hi1
      rw [ht2] at hi2
      exact absurd hi2 (by decide)
    have hl := rv.length
    have hn : its.toArray.size = i := by
      rw [List.size_toArray, ← hl]
      exact hx
    refine wpAny_pyNext_enum_endD (Draws.tuple (A := X.A.in1) (show X.A.in1.handled = none from I.ok.hd hc) it a nai its.toArray) he ⟨?_, p⟩ fun h' eb => ⟨rfl, I.turned (t' := s.toks) (fun b o hb q => eb b o hb q) f0 f1 f3 f4 f5⟩
    rw [hn]
    exact hit
  self := fun A i s Q E st h => let ⟨⟨_, he⟩, _⟩ := st; wpAny_pyIter_enum he h
theorem pi_enumA {X : Cx} {e : Expr} {ta : TA} {p pos tpos : Pos} {elts : List Expr} {kk : Nat} (hg : Gl X "enumerate") (hm : X.mg "enumerate" = none) (ha : PA X [e] ta) (hs : starEach [e] X.env = [(false, eval e X.env)] := by rfl) :
    PI X (.Tuple elts kk tpos) (.Call (.Name "enumerate" p) [e] [] pos) (fun σ H R => ta σ H fun vs H1 => ∃ a xs, vs = [.ref a] ∧ (SqL X.K H1 a xs ∧ R (Ite X.K a) H1 ∨ SqT X.K H1 a xs ∧ R (IteT X.K a) H1)) := by
  refine ⟨fun pins s σ H R I h => ?_⟩
  refine Call_ (ld_blt I hg hm boot_enumerate (PyProof.Rows.callWith_type1 (thn (ha.run pos pins s σ H _ I h) fun us s1 hu => ?_) hs rfl))
  obtain ⟨vs, H1, I1, r1, a, xs, ex, q1⟩ := hu
  subst ex
  cases r1 with
  | cons r rr =>
    cases rr
    cases r
    have fresh2 : ∀ b ∈ [s1.heap.objs.size + 1, s1.heap.objs.size], FpOk X pins H1 b := fun b hb => by
      have e' : b = s1.heap.objs.size + 1 ∨ b = s1.heap.objs.size := by simpa using hb
      have hle : s1.heap.objs.size ≤ b := by
        rcases e' with z | z
        · rw [z]; exact Nat.le_add_right _ _
        · rw [z]; exact Nat.le_refl _
      exact I1.fpOk hle (I1.hok.fresh hle)
    rcases q1 with ⟨hq, q⟩ | ⟨hq, q⟩
    · obtain ⟨its, rv, p', hz⟩ := I1.list hq
      refine call_enumerate_list p'.isList fun h' he hit hsz hk => wpAny_pyIter_enum he ?_
      exact ⟨s1.heap.objs.size + 1, [s1.heap.objs.size + 1, s1.heap.objs.size], _, _, H1, rfl, I1.kept (t' := s1.toks) hk, turn_enum a (s1.heap.objs.size + 1) s1.heap.objs.size, ⟨⟨.none, he⟩, hit, Nat.succ_ne_self _⟩, fresh2, q⟩
    · obtain ⟨its, rv, p', hz⟩ := I1.tuple hq
      refine call_enumT (show s1.heap.IsTuple a its.toArray from p') fun h' he hit hsz hk => wpAny_pyIter_enum he ?_
      exact ⟨s1.heap.objs.size + 1, [s1.heap.objs.size + 1, s1.heap.objs.size], _, _, H1, rfl, I1.kept (t' := s1.toks) hk, turn_enumT a (s1.heap.objs.size + 1) s1.heap.objs.size, ⟨⟨.none, he⟩, hit, Nat.succ_ne_self _⟩, fresh2, q⟩
/-- the things with their places -/
def enumL (ds : List D) : List D := (List.range ds.length).filterMap fun i : Nat => ds[i]?.map fun d => D.tup [.int (i : Int), d]
theorem enumL_length (ds : List D) : (enumL ds).length = ds.length := by
  unfold enumL
  have h : ∀ (ks : List Nat), (∀ k ∈ ks, k < ds.length) → (ks.filterMap fun i : Nat => ds[i]?.map fun d => D.tup [.int (i : Int), d]).length = ks.length := by
    intro ks
    induction ks with
    | nil => intro _; rfl
    | cons k ks ih =>
      intro h
      rw [List.filterMap_cons, List.getElem?_eq_getElem (h k List.mem_cons_self)]
      exact congrArg (· + 1) (ih fun j hj => h j (List.mem_cons_of_mem _ hj))
  rw [h _ (fun k hk => List.mem_range.mp hk), List.length_range]
theorem enumL_get {ds : List D} {i : Nat} {d : D} (h : ds[i]? = some d) : (enumL ds)[i]? = some (.tup [.int (i : Int), d]) := by
  have hi : i < ds.length := (List.getElem?_eq_some_iff.mp h).1
  have key : ∀ n, n ≤ ds.length → ∀ j, j < n → ((List.range n).filterMap fun i : Nat => ds[i]?.map fun d => D.tup [.int (i : Int), d])[j]? = ds[j]?.map fun d => D.tup [.int (j : Int), d] := by
    intro n
    induction n with
    | zero => intro _ j hj; omega
    | succ n ih =>
      intro hn j hj
      rw [List.range_succ, List.filterMap_append]
      have hl : ((List.range n).filterMap fun i : Nat => ds[i]?.map fun d => D.tup [.int (i : Int), d]).length = n := by
        have h : ∀ (ks : List Nat), (∀ k ∈ ks, k < ds.length) → (ks.filterMap fun i : Nat => ds[i]?.map fun d => D.tup [.int (i : Int), d]).length = ks.length := by
          intro ks
          induction ks with
          | nil => intro _; rfl
          | cons k ks ih =>
            intro h
            rw [List.filterMap_cons, List.getElem?_eq_getElem (h k List.mem_cons_self)]
            exact congrArg (· + 1) (ih fun j hj => h j (List.mem_cons_of_mem _ hj))
        rw [h _ (fun k hk => Nat.lt_of_lt_of_le (List.mem_range.mp hk) (Nat.le_of_succ_le hn)), List.length_range]
      by_cases hjn : j < n
      · rw [List.getElem?_append_left (by rw [hl]; exact hjn)]
        exact ih (Nat.le_of_succ_le hn) j hjn
      · have ej : j = n := by omega
        subst ej
        rw [List.getElem?_append_right (by rw [hl]; exact Nat.le_refl _), hl, Nat.sub_self, List.filterMap_cons, List.getElem?_eq_getElem (show j < ds.length by omega)]
        rfl
  have z := key ds.length (Nat.le_refl _) i hi
  rw [h] at z
  exact z
section
variable {X : Cx} {C : Cc} {W : WX}
theorem Rl.newPair {σ : L2.St} {H F : Hp} {Γ : Env} {τ : Hand} {ow : Addr → Option Root} {p : Addr} {x y : V} {d e : D} (R : Rl C σ H Γ τ F ow) (hp : H p = none) (hx : Dt C.K C.cl F x d) (hy : Dt C.K C.cl F y e) : Rel C σ (upd H p (.tup [x, y])) Γ ((.ref p, .fz (.tup [d, e])) :: τ) :=
  R.newTup hp (by show 2 ≤ sizeLine; decide) (.cons hx (.cons hy .nil))
theorem iter_enumL {a : Addr} {ds : List D} : IterD C (Ite C.K a) (enumL ds) [(.ref a, .fz (.lst ds))] where
  go := fun i H σ Γ τ R hi => by
    rw [enumL_length] at hi
    obtain ⟨F, ow, R⟩ := R
    have h := R.temps.1
    cases h with
    | fz h =>
      cases h with
      | lst h1 _ h2 =>
        obtain ⟨v, e, _⟩ := h2.get (List.getElem?_eq_getElem hi)
        exact ⟨_, v, SqL.of (R.ex _ _ h1), e⟩
  yld := fun i H σ Γ τ x H' R hi y => by
    obtain ⟨F, ow, R⟩ := R
    have h := R.temps.1
    obtain ⟨p, z, rfl, hp, rfl, y⟩ := y
    cases h with
    | fz h =>
      cases h with
      | lst h1 _ h2 =>
        obtain ⟨d, e, hd⟩ := h2.getV (y _ (SqL.of (R.ex _ _ h1)))
        exact ⟨_, enumL_get e, R.newPair hp (.int _) hd⟩
  stop := fun H σ Γ τ R => by
    obtain ⟨F, ow, R⟩ := R
    have h := R.temps.1
    cases h with
    | fz h =>
      cases h with
      | lst h1 _ h2 => exact ⟨_, SqL.of (R.ex _ _ h1), by rw [enumL_length, h2.length]; exact Nat.le_refl _⟩
  fz := fun p hp => by
    cases hp with
    | head => exact ⟨_, rfl⟩
    | tail _ hp => cases hp
  len := fun H σ Γ τ R => by
    obtain ⟨F, ow, R⟩ := R
    have h := R.temps.1
    cases h with
    | fz h =>
      cases h with
      | lst _ hl h2 => rw [enumL_length, ← h2.length]; exact hl
theorem iter_enumT {a : Addr} {ds : List D} : IterD C (IteT C.K a) (enumL ds) [(.ref a, .fz (.tup ds))] where
  go := fun i H σ Γ τ R hi => by
    rw [enumL_length] at hi
    obtain ⟨F, ow, R⟩ := R
    have h := R.temps.1
    cases h with
    | fz h =>
      cases h with
      | tup h1 _ h2 =>
        obtain ⟨v, e, _⟩ := h2.get (List.getElem?_eq_getElem hi)
        exact ⟨_, v, R.ex.sqT h1, e⟩
  yld := fun i H σ Γ τ x H' R hi y => by
    obtain ⟨F, ow, R⟩ := R
    have h := R.temps.1
    obtain ⟨p, z, rfl, hp, rfl, y⟩ := y
    cases h with
    | fz h =>
      cases h with
      | tup h1 _ h2 =>
        obtain ⟨d, e, hd⟩ := h2.getV (y _ (R.ex.sqT h1))
        exact ⟨_, enumL_get e, R.newPair hp (.int _) hd⟩
  stop := fun H σ Γ τ R => by
    obtain ⟨F, ow, R⟩ := R
    have h := R.temps.1
    cases h with
    | fz h =>
      cases h with
      | tup h1 _ h2 => exact ⟨_, R.ex.sqT h1, by rw [enumL_length, h2.length]⟩
  fz := fun p hp => by
    cases hp with
    | head => exact ⟨_, rfl⟩
    | tail _ hp => cases hp
  len := fun H σ Γ τ R => by
    obtain ⟨F, ow, R⟩ := R
    have h := R.temps.1
    cases h with
    | fz h =>
      cases h with
      | tup _ hl h2 => rw [enumL_length, ← h2.length]; exact hl
def enumIt (f : M T) : M (List D) := bindM f fun t => bindM (frz t) fun t' => bindM (sqM t') fun q => match q with
  | .s _ => fun _ => .bad
  | q => retM (enumL q.ds)
theorem di_enum {e : Expr} {f : M T} {p pos tpos : Pos} {elts : List Expr} {kk : Nat} (hK : C.K = X.K) (hg : Gl X "enumerate") (hm : X.mg "enumerate" = none) (he : PE X e (rd C W f)) (hs : starEach [e] X.env = [(false, eval e X.env)] := by rfl) :
    PI X (.Tuple elts kk tpos) (.Call (.Name "enumerate" p) [e] [] pos) (rdI C W (enumIt f)) :=
  pi_sub (pi_enumA hg hm (pa_cons he pa_nil hs) hs) fun σ H R' ⟨Γ, τ, R, w⟩ => by
    refine rd_bind R w fun t Γ1 v H1 R1 w1 => ?_
    obtain ⟨d, Γ2, R2, w2⟩ := R1.frz (Out.wp_bind w1)
    obtain ⟨q, e1, w3⟩ := wp_sqM (Out.wp_bind w2)
    obtain ⟨F, ow, R2⟩ := R2
    obtain ⟨a, vs, rfl, hq, hd, hz⟩ := R2.sq R2.temps.1 e1
    refine ⟨a, vs, rfl, ?_⟩
    rw [← hK]
    cases d with
    | lst ds => cases e1; exact .inl ⟨SqL.of hq, w3 _ _ _ ⟨F, ow, R2⟩ iter_enumL⟩
    | tup ds => cases e1; exact .inr ⟨R2.ex.sqT hq, w3 _ _ _ ⟨F, ow, R2⟩ iter_enumT⟩
    | scr ns => cases e1; exact w3.elim
    | _ => cases e1
end
end DL
/-! operators by kinds; a def from its body -/
namespace DL
open PySem L2

/-! ### +, *, items by whatever kind -/
def addT (t1 t2 : T) : M T := fun Γ => match look Γ t1, look Γ t2 with
  | some (.int i), some (.int j) => .ok (.fz (.int (i + j))) Γ
  | some (.str x), some (.str y) => if x.length + y.length ≤ sizeLine then .ok (.fz (.str (x ++ y))) Γ else .bad
  | _, _ => match sqOf Γ t1, sqOf Γ t2 with
    | some (.l xs), some (.l ys) => if xs.length + ys.length ≤ sizeLine then .ok (.ol ((xs ++ ys).map T.fz)) Γ else .bad
    | some (.t xs), some (.t ys) => if xs.length + ys.length ≤ sizeLine then .ok (.fz (.tup (xs ++ ys))) Γ else .bad
    | _, _ => .bad
def addM (a b : M T) : M T := bindM a fun t1 => bindM b fun t2 => addT t1 t2
def mulT (t1 t2 : T) : M T := fun Γ => match look Γ t2 with
  | some (.int k) => match look Γ t1 with
    | some (.int i) => if small64 i || small64 k then .ok (.fz (.int (i * k))) Γ else .bad
    | _ => match sqOf Γ t1 with
      | some (.l xs) => if (decide (-(2 ^ 63) ≤ k) && decide (k < 2 ^ 63) && decide (xs.length * k.toNat ≤ sizeLine)) = true then .ok (.ol ((repL xs k).map T.fz)) Γ else .bad
      | _ => .bad
  | _ => .bad
def mulM (a b : M T) : M T := bindM a fun t1 => bindM b fun t2 => mulT t1 t2
section
variable {X : Cx} {C : Cc} {W : WX}
theorem de_add {a b : Expr} {fa fb : M T} {pos : Pos} (hK : C.K = X.K) (ha : PE X a (rd C W fa)) (hb : PE X b (rd C W fb)) : PE X (.BinOp a .Add b pos) (rd C W (addM fa fb)) :=
  pe_sub (pe_op (op_add.or (op_add_str.or (op_cat.or op_catA))) ha hb) fun σ H Q ⟨Γ, τ, R, w⟩ => by
    refine rd_bind R w fun t1 Γ1 v1 H1 R1 w1 => ?_
    refine rd_bind R1 (wp_under w1) fun t2 Γ2 v2 H2 R2 w2 => ?_
    obtain ⟨F, ow, R2⟩ := R2
    unfold addT at w2
    split at w2
    · rename_i i j e1 e2
      have h1 := R2.look R2.temps.2.1 e1
      have h2 := R2.look R2.temps.1 e2
      cases h1
      cases h2
      exact .inl ⟨i, j, rfl, rfl, w2 _ _ (Rel.scal ⟨F, ow, R2.pop.pop⟩ (.int _))⟩
    · rename_i x y e1 e2
      split at w2
      · rename_i hz
        have h1 := R2.look R2.temps.2.1 e1
        have h2 := R2.look R2.temps.1 e2
        cases h1
        cases h2
        exact .inr (.inl ⟨x, y, rfl, rfl, hz, w2 _ _ (Rel.scal ⟨F, ow, R2.pop.pop⟩ (.str _))⟩)
      · exact w2.elim
    · split at w2
      · rename_i xs ys e1 e2
        split at w2
        · rename_i hz
          obtain ⟨a1, vs1, rfl, hq1, hd1, hz1⟩ := R2.sq R2.temps.2.1 e1
          obtain ⟨a2, vs2, rfl, hq2, hd2, hz2⟩ := R2.sq R2.temps.1 e2
          have hl : vs1.length + vs2.length ≤ sizeLine := by
            rw [hd1.length, hd2.length]
            exact hz
          exact .inr (.inr (.inl ⟨a1, a2, vs1, vs2, rfl, rfl, hq1, hq2, hl, fun p hp => w2 _ _ (R2.pop.pop.newList hp (by rw [List.length_append]; exact hl) (hd1.append hd2))⟩))
        · exact w2.elim
      · rename_i xs ys e1 e2
        split at w2
        · rename_i hz
          obtain ⟨a1, vs1, rfl, hq1, hd1, hz1⟩ := R2.sq R2.temps.2.1 e1
          obtain ⟨a2, vs2, rfl, hq2, hd2, hz2⟩ := R2.sq R2.temps.1 e2
          have hl : vs1.length + vs2.length ≤ sizeLine := by
            rw [hd1.length, hd2.length]
            exact hz
          rw [← hK]
          refine .inr (.inr (.inr ⟨a1, a2, vs1, vs2, rfl, rfl, R2.ex.sqT hq1, R2.ex.sqT hq2, hl, fun z => ?_, fun _ z => ?_, fun _ _ p hp => w2 _ _ (R2.pop.pop.newTup hp (by rw [List.length_append]; exact hl) (hd1.append hd2))⟩))
          · subst z
            have e4 : xs = [] := by
              cases xs with
              | nil => rfl
              | cons _ _ => cases hd1
            subst e4
            exact w2 _ _ ⟨F, ow, R2.pop.pop.push (.tup hq2 hz2 hd2)⟩
          · subst z
            have e4 : ys = [] := by
              cases ys with
              | nil => rfl
              | cons _ _ => cases hd2
            subst e4
            rw [List.append_nil] at w2
            exact w2 _ _ ⟨F, ow, R2.pop.pop.push (.tup hq1 hz1 hd1)⟩
        · exact w2.elim
      · exact w2.elim
theorem de_mul {a b : Expr} {fa fb : M T} {pos : Pos} (ha : PE X a (rd C W fa)) (hb : PE X b (rd C W fb)) : PE X (.BinOp a .Mult b pos) (rd C W (mulM fa fb)) :=
  pe_sub (pe_op (op_mul.or op_rep) ha hb) fun σ H Q ⟨Γ, τ, R, w⟩ => by
    refine rd_bind R w fun t1 Γ1 v1 H1 R1 w1 => ?_
    refine rd_bind R1 (wp_under w1) fun t2 Γ2 v2 H2 R2 w2 => ?_
    obtain ⟨F, ow, R2⟩ := R2
    unfold mulT at w2
    split at w2
    · rename_i k e2
      have h2 := R2.look R2.temps.1 e2
      cases h2
      split at w2
      · rename_i i e1
        have h1 := R2.look R2.temps.2.1 e1
        cases h1
        split at w2
        · rename_i hs
          refine .inl ⟨i, k, rfl, rfl, ?_, w2 _ _ (Rel.scal ⟨F, ow, R2.pop.pop⟩ (.int _))⟩
          simp only [small64, Bool.or_eq_true, Bool.and_eq_true, decide_eq_true_eq] at hs
          exact hs
        · exact w2.elim
      · split at w2
        · rename_i xs e1
          split at w2
          · rename_i hs
            obtain ⟨a1, vs1, rfl, hq1, hd1, hz1⟩ := R2.sq R2.temps.2.1 e1
            simp only [Bool.and_eq_true, decide_eq_true_eq] at hs
            have hl : vs1.length * k.toNat ≤ sizeLine := by
              rw [hd1.length]
              exact hs.2
            refine .inr ⟨a1, k, vs1, rfl, rfl, hq1, hs.1.1, hs.1.2, hl, fun p hp => w2 _ _ (R2.pop.pop.newList hp ?_ (hd1.rep _))⟩
            rw [List.length_flatten, List.map_replicate, List.sum_replicate_nat, Nat.mul_comm]
            exact hl
          · exact w2.elim
        · exact w2.elim
    · exact w2.elim
/-- an item of a list, a tuple, a text -/
def ixT (t1 t2 : T) : M T := fun Γ => match look Γ t2 with
  | some (.int i) => match sqOf Γ t1 with
    | some q => match atI q.ds i with
      | some d => .ok (.fz d) Γ
      | none => .bad
    | none => match look Γ t1 with
      | some (.str z) => if z.length ≤ sizeLine then match atI z.cps.toList i with
          | some c => .ok (.fz (.str ⟨#[c]⟩)) Γ
          | none => .bad
        else .bad
      | _ => .bad
  | _ => .bad
def ixA (a b : M T) : M T := bindM a fun t1 => bindM b fun t2 => ixT t1 t2
theorem de_ixA {a b : Expr} {fa fb : M T} {pos : Pos} (hK : C.K = X.K) (ha : PE X a (rd C W fa)) (hb : PE X b (rd C W fb)) (hs : PlainIx b := by exact fun _ _ => rfl) : PE X (.Subscript a b pos) (rd C W (ixA fa fb)) :=
  pe_sub (pe_ix (ix_list.or (ix_tup.or ix_str)) ha hb hs) fun σ H Q ⟨Γ, τ, R, w⟩ => by
    refine rd_bind R w fun t1 Γ1 v1 H1 R1 w1 => ?_
    refine rd_bind R1 (wp_under w1) fun t2 Γ2 v2 H2 R2 w2 => ?_
    obtain ⟨F, ow, R2⟩ := R2
    unfold ixT at w2
    split at w2
    · rename_i i e2
      have h2 := R2.look R2.temps.1 e2
      cases h2
      split at w2
      · rename_i q e1
        split at w2
        · rename_i d e3
          obtain ⟨p, vs, rfl, hq, hd, _⟩ := R2.sq R2.temps.2.1 e1
          obtain ⟨v, e4, hv⟩ := Dts.atI hd e3
          have fin := w2 v H2 ⟨F, ow, R2.pop.pop.push hv⟩
          rw [← hK]
          cases q with
          | l ds => exact .inl ⟨p, vs, i, v, rfl, rfl, SqL.of hq, e4, fin⟩
          | t ds => exact .inr (.inl ⟨p, vs, i, v, rfl, rfl, R2.ex.sqT hq, e4, fin⟩)
          | s ns => exact .inl ⟨p, vs, i, v, rfl, rfl, hq, e4, fin⟩
        · exact w2.elim
      · split at w2
        · rename_i z e1
          split at w2
          · rename_i hz
            split at w2
            · rename_i c e3
              have h1 := R2.look R2.temps.2.1 e1
              cases h1
              exact .inr (.inr ⟨z, i, c, rfl, rfl, hz, e3, w2 _ _ (Rel.scal ⟨F, ow, R2.pop.pop⟩ (.str _))⟩)
            · exact w2.elim
          · exact w2.elim
        · exact w2.elim
    · exact w2.elim
/-- a < b < c, b of no heap's -/
def chainM (f g : D → D → Option D) (a b c : M T) : M T := bindM a fun t1 => bindM b fun t2 => bindM (lookM t1) fun d1 => bindM (lookM t2) fun d2 => bindM (guardM d2.scal) fun _ => bindM (optM (f d1 d2)) fun z => bindM (optM z.toB) fun k =>
  if k then bindM c fun t3 => bindM (lookM t3) fun d3 => bindM (optM (g d2 d3)) fun d => retM (.fz d) else retM (.fz (.bl false))
theorem chain_go {r r' : R2} {f g : D → D → Option D} {fa fb fc : M T} (s : Sc2 C.K C.cl r f) (s' : Sc2 C.K C.cl r' g) {σ : St} {H : Hp} {Q : VK} (h : rd C W (chainM f g fa fb fc) σ H Q) : tChain r r' (rd C W fa) (rd C W fb) (rd C W fc) σ H Q := by
  obtain ⟨Γ, τ, R, w⟩ := h
  refine rd_bind R w fun t1 Γ1 v1 H1 R1 w1 => ?_
  refine rd_bind R1 (wp_under w1) fun t2 Γ2 v2 H2 R2 w2 => ?_
  obtain ⟨d1, e1, w3⟩ := wp_lookM (Out.wp_bind w2)
  obtain ⟨d2, e2, w4⟩ := wp_lookM (Out.wp_bind w3)
  obtain ⟨e0, w4⟩ := wp_guardM (Out.wp_bind w4)
  obtain ⟨z, e3, w5⟩ := wp_optM (Out.wp_bind w4)
  obtain ⟨k, e4, w6⟩ := wp_optM (Out.wp_bind w5)
  have R2' := R2
  obtain ⟨F, ow, R2⟩ := R2
  have h2 := (R2.look R2.temps.1 e2).scal e0
  refine s H2 v1 v2 d1 d2 z _ (R2.look R2.temps.2.1 e1) (R2.look R2.temps.1 e2) e3 fun v hv => ?_
  cases z with
  | bl b' =>
    have ek : b' = k := Option.some.inj e4
    subst ek
    cases hv
    refine ⟨b', rfl, ?_⟩
    cases b' with
    | true =>
      refine rd_bind R2' (wp_under w6) fun t3 Γ3 v3 H3 R3 w7 => ?_
      obtain ⟨d3, e5, w8⟩ := wp_lookM (Out.wp_bind w7)
      obtain ⟨d, e6, w9⟩ := wp_optM (Out.wp_bind w8)
      obtain ⟨F3, ow3, R3⟩ := R3
      exact s' H3 v2 v3 d2 d3 d Q (h2.mono (sub_emp H3)) (R3.look R3.temps.1 e5) e6 fun v hv => w9 v H3 (Rel.scal ⟨F3, ow3, R3.pop.pop.pop⟩ hv)
    | false => exact w6 _ _ (Rel.scal ⟨F, ow, R2.pop.pop⟩ (.bl false))
  | _ => cases e4
theorem de_chain {op op' : CmpOp} {r r' : R2} {f g : D → D → Option D} {fa fb fc : M T} {a b c : Expr} {pos : Pos} (ho : OpR X (compareOp op) r) (ho' : OpR X (compareOp op') r') (s : Sc2 C.K C.cl r f) (s' : Sc2 C.K C.cl r' g) (ha : PE X a (rd C W fa)) (hb : PE X b (rd C W fb)) (hc : PE X c (rd C W fc))
    (hm : lastMarks [op, op'] [b, c] = false := by with_unfolding_all rfl) : PE X (.Compare a [op, op'] [b, c] pos) (rd C W (chainM f g fa fb fc)) := pe_sub (pe_chain ho ho' ha hb hc hm) fun σ H Q q => chain_go s s' q
theorem dt_chain {op op' : CmpOp} {r r' : R2} {f g : D → D → Option D} {fa fb fc : M T} {a b c : Expr} {pos : Pos} (ho : OpR X (compareOp op) r) (ho' : OpR X (compareOp op') r') (s : Sc2 C.K C.cl r f) (s' : Sc2 C.K C.cl r' g) (ha : PE X a (rd C W fa)) (hb : PE X b (rd C W fb)) (hc : PE X c (rd C W fc))
    (hm : lastMarks [op, op'] [b, c] = false := by with_unfolding_all rfl) : PT X (.Compare a [op, op'] [b, c] pos) (rdT C W (boolM (chainM f g fa fb fc))) := pt_sub (pt_chain ho ho' ha hb hc hm) fun σ H Q q => chain_go s s' (rdT_bool q)
end

/-! ### a def from its body -/
def cvOf (l : List Nat) (i : Nat) : Bool := l.any (· == i)
section
variable {P : Program} {w : World} {K : PySem.W.Frag} {mg : Str → Option Value} {base : Heap} {cl : Str → Option Addr}
theorem fun_okD {x qual : Str} {st : Stmt} {f : Addr} {fd : FuncData} {N ps : List Str} {k n m : Nat} {ref : Bool} {den : M Flow} {cv : Nat → Bool} (F : Fun K x qual st f fd) (S : FnScope N ps (defScope st)) (hn : ps.length = n) (hN : N.length = m)
    (hb : ∀ (cdv : Value) (A : Around) (outer : List PySem.Env) (s : Shared) (H : Hp) (vs : List V) (E : XK), Room k (A.deeper (PyProof.Rows.envOfC qual (defScope st) s.heap.objs.size f cdv)) → ∀ H0 F0 mu, PSs (cxOf (L2.CX P w) P w K mg base N qual (defScope st) f cdv A outer s H E) (defBody st) (rdS ⟨K, cl, H0, F0, mu, refPin ref vs, cv⟩ (WE' E) den)) :
    FnOk P w K mg base (L2.CX P w) (k + 1) f fd ps (spOf K cl n ref (callF m den)) := by
  refine F.okX S (fun vs H Q E h => by rw [h.1, hn]) (fun cdv A outer s H vs Q E hr h => ?_)
  have hle : n ≤ m := by
    rw [← hn, ← hN]
    have z := S.pre
    have z2 : (N.take ps.length).length = ps.length := by rw [z]
    rw [List.length_take] at z2
    omega
  exact body_ok hN hle (fun H0 F0 mu => hb cdv A outer s H vs E hr H0 F0 mu) h
theorem kbinds_of {x qual : Str} {st : Stmt} {f : Addr} {fd : FuncData} {ps ks : List Str} {is : List Nat} {n m : Nat} (F : Fun K x qual st f fd)
    (h : ∀ (kV doc pm : Value) (an : Option Addr) (cdv ct : Value) (us ws : List Value), us.length = n → ws.length = m → bindArgs (PySem.W.fnOf x qual (defArgs st) (defBody st) (defScope st) .none kV doc pm an cdv ct) ⟨us, ks.zip ws⟩ = pure (ps.zip (pick is (us ++ ws)))) :
    ∀ (s : Shared) (us ws : List Value), us.length = n → ws.length = m → BindsTo s fd ⟨us, ks.zip ws⟩ (ps.zip (pick is (us ++ ws))) := by
  obtain ⟨oc, od, kV, doc, pm, an, cdv, ct, osl, rfl, lk, hcd⟩ := F.ex
  exact fun s us ws h1 h2 => .of_eq (h kV doc pm an cdv ct us ws h1 h2)
theorem fn_bad {k n : Nat} {f : Addr} {fd : FuncData} {ps : List Str} {ref : Bool} (hn : ps.length = n) : FnOk P w K mg base (L2.CX P w) k f fd ps (spOf K cl n ref fun _ => .bad) where
  len := fun vs H Q E h => by rw [h.1, hn]
  run := fun A outer s H args us vs Q E hr he hb hv h => by
    obtain ⟨_, F, S, ts, _, _, _, _, w⟩ := h
    exact w.elim
end
end DL
/-! how meanings come out -/
namespace DL
open PySem L2
def slt : Option (Option T) → Option T
  | some o => o
  | none => none
def fzo : Option T → Option D
  | some (.fz d) => some d
  | _ => none
def olo : Option T → Option (List T)
  | some (.ol ts) => some ts
  | _ => none
def orB {α β : Type} (o : Option α) (k : α → Out β) : Out β := match o with
  | some a => k a
  | none => .bad
def bnd {α β : Type} (o : Option α) (k : α → Option β) : Option β := match o with
  | some a => k a
  | none => none
def gd {α : Type} (b : Bool) (o : Out α) : Out α := match b with
  | true => o
  | false => .bad
def dOf : T → M D
  | .fz d => retM d
  | _ => fun _ => .bad
def thenM (q : M Flow) : Flow → M Flow
  | .next => q
  | fl => retM fl
def xB {α : Type} : Out α → Out α
  | .exc _ _ => .bad
  | o => o
def ixS (q : Option Sq) (o : Option D) (k : Int) (Γ : Env) : Out T := match q with
  | some q => orB (atI q.ds k) fun d => .ok (.fz d) Γ
  | none => match o with
    | some (.str z) => gd (decide (z.length ≤ sizeLine)) (orB (atI z.cps.toList k) fun c => .ok (.fz (.str ⟨#[c]⟩)) Γ)
    | _ => .bad
def revQ : Sq → M T
  | .l ds => retM (.ol (ds.reverse.map T.fz))
  | .s ns => retM (.ol ((ns.map D.int).reverse.map T.fz))
  | .t _ => fun _ => .bad
def enumQ : Sq → M (List D)
  | .s _ => fun _ => .bad
  | q => retM (enumL q.ds)
def cOut (ts : List T) (Γ : Env) : Out T → Out T
  | .ok t _ => gd (!t.isAl && ((T.fzs ts).isSome || t.scal)) (.ok t Γ)
  | .exc x _ => gd ((T.fzs ts).isSome || x.fds.all (fun p => p.2.scal)) (.exc x Γ)
  | .bad => .bad
def rOut (i : Nat) (Γ : Env) : Out T → Out T
  | .ok t Γ' => gd (!t.isAl) (.ok t (Γ.set i (joinAt Γ')))
  | .exc x Γ' => .exc x (Γ.set i (joinAt Γ'))
  | .bad => .bad
def kOut (Γ : Env) : Out T → Out T
  | .ok t _ => gd (!t.isAl) (.ok t Γ)
  | .exc x _ => .exc x Γ
  | .bad => .bad
def callRL (F : FSem) : List T → M T
  | o :: tr => bindM (optM (T.fzs tr)) fun ds => callRT F o ds
  | [] => fun _ => .bad
def parK (i j : Nat) : List T → M Flow
  | [t1, t2] => fun Γ => gd (!(t1.isAl || t2.isAl)) (.ok .next ((Γ.set i (some t1)).set j (some t2)))
  | _ => fun _ => .bad
def loopK (h : D → M Unit) (b : M Flow) (ds : List D) : Flow → M Flow
  | .next => loopM h b ds
  | .cont => loopM h b ds
  | .brk => retM .next
  | .ret t => retM (.ret t)
def outF : Out Flow → Out T
  | .ok (.ret t) Γ' => .ok t Γ'
  | .ok .next Γ' => .ok (.fz .non) Γ'
  | .exc x Γ' => .exc x Γ'
  | _ => .bad
theorem orB_m {α β : Type} (o : Option α) (k : α → Out β) : (match o with | some a => k a | none => .bad) = orB o k := by cases o <;> exact rfl
theorem gd_ite {α : Type} (b : Bool) (o : Out α) : (if b = true then o else .bad) = gd b o := by cases b <;> exact rfl
section
variable {α β : Type} {Γ Γ' : Env} {a : α} {x : Exn} {f g : M T} {i j : Nat} {t t1 t2 : T} {d d1 d2 : D}
@[simp] theorem slt_s {o : Option T} : slt (some o) = o := by exact rfl
@[simp] theorem slt_n : slt none = none := by exact rfl
@[simp] theorem fzo_s : fzo (some (.fz d)) = some d := by exact rfl
@[simp] theorem fzo_l {ts : List T} : fzo (some (.ol ts)) = none := by exact rfl
@[simp] theorem fzo_n : fzo none = none := by exact rfl
@[simp] theorem olo_s {ts : List T} : olo (some (.ol ts)) = some ts := by exact rfl
@[simp] theorem olo_f : olo (some (.fz d)) = none := by exact rfl
@[simp] theorem olo_n : olo none = none := by exact rfl
@[simp] theorem orB_s {k : α → Out β} : orB (some a) k = k a := by exact rfl
@[simp] theorem orB_n {k : α → Out β} : orB none k = .bad := by exact rfl
@[simp] theorem bnd_s {k : α → Option β} : bnd (some a) k = k a := by exact rfl
@[simp] theorem bnd_n {k : α → Option β} : bnd none k = none := by exact rfl
@[simp] theorem gd_t {o : Out α} : gd true o = o := by exact rfl
@[simp] theorem gd_f {o : Out α} : gd false o = .bad := by exact rfl
@[simp] theorem dOf_f : dOf (.fz d) Γ = .ok d Γ := by exact rfl
@[simp] theorem then_n {q : M Flow} : thenM q .next Γ = q Γ := by exact rfl
@[simp] theorem then_r {q : M Flow} : thenM q (.ret t) Γ = .ok (.ret t) Γ := by exact rfl
@[simp] theorem then_b {q : M Flow} : thenM q .brk Γ = .ok .brk Γ := by exact rfl
@[simp] theorem then_c {q : M Flow} : thenM q .cont Γ = .ok .cont Γ := by exact rfl
@[simp] theorem xB_o : xB (.ok a Γ) = .ok a Γ := by exact rfl
@[simp] theorem xB_x : xB (.exc x Γ : Out α) = .bad := by exact rfl
@[simp] theorem xB_b : xB (.bad : Out α) = .bad := by exact rfl
@[simp] theorem ixS_s {q : Sq} {o : Option D} {k : Int} : ixS (some q) o k Γ = orB (atI q.ds k) fun d => .ok (.fz d) Γ := by exact rfl
@[simp] theorem ixS_t {z : Str} {k : Int} : ixS none (some (.str z)) k Γ = gd (decide (z.length ≤ sizeLine)) (orB (atI z.cps.toList k) fun c => .ok (.fz (.str ⟨#[c]⟩)) Γ) := by exact rfl
@[simp] theorem revQ_l {ds : List D} : revQ (.l ds) Γ = .ok (.ol (ds.reverse.map T.fz)) Γ := by exact rfl
@[simp] theorem enumQ_l {ds : List D} : enumQ (.l ds) Γ = .ok (enumL ds) Γ := by exact rfl
@[simp] theorem enumQ_t {ds : List D} : enumQ (.t ds) Γ = .ok (enumL ds) Γ := by exact rfl
@[simp] theorem cOut_o {ts : List T} : cOut ts Γ (.ok t Γ') = gd (!t.isAl && ((T.fzs ts).isSome || t.scal)) (.ok t Γ) := by exact rfl
@[simp] theorem cOut_x {ts : List T} : cOut ts Γ (.exc x Γ') = gd ((T.fzs ts).isSome || x.fds.all (fun p => p.2.scal)) (.exc x Γ) := by exact rfl
@[simp] theorem rOut_o : rOut i Γ (.ok t Γ') = gd (!t.isAl) (.ok t (Γ.set i (joinAt Γ'))) := by exact rfl
@[simp] theorem rOut_x : rOut i Γ (.exc x Γ') = .exc x (Γ.set i (joinAt Γ')) := by exact rfl
@[simp] theorem kOut_o : kOut Γ (.ok t Γ') = gd (!t.isAl) (.ok t Γ) := by exact rfl
@[simp] theorem kOut_x : kOut Γ (.exc x Γ') = .exc x Γ := by exact rfl
@[simp] theorem callRL_c {F : FSem} {o : T} {tr : List T} : callRL F (o :: tr) Γ = orB (T.fzs tr) fun ds => callRT F o ds Γ := by
  show (optM (T.fzs tr) Γ).bind _ = _
  cases T.fzs tr <;> exact rfl
@[simp] theorem parK_c : parK i j [t1, t2] Γ = gd (!(t1.isAl || t2.isAl)) (.ok .next ((Γ.set i (some t1)).set j (some t2))) := by exact rfl
@[simp] theorem loopK_n {h : D → M Unit} {b : M Flow} {ds : List D} : loopK h b ds .next Γ = loopM h b ds Γ := by exact rfl
@[simp] theorem loopK_c {h : D → M Unit} {b : M Flow} {ds : List D} : loopK h b ds .cont Γ = loopM h b ds Γ := by exact rfl
@[simp] theorem loopK_b {h : D → M Unit} {b : M Flow} {ds : List D} : loopK h b ds .brk Γ = .ok .next Γ := by exact rfl
@[simp] theorem loopK_r {h : D → M Unit} {b : M Flow} {ds : List D} : loopK h b ds (.ret t) Γ = .ok (.ret t) Γ := by exact rfl
@[simp] theorem outF_r : outF (.ok (.ret t) Γ') = .ok t Γ' := by exact rfl
@[simp] theorem outF_n : outF (.ok .next Γ') = .ok (.fz .non) Γ' := by exact rfl
@[simp] theorem outF_x : outF (.exc x Γ') = .exc x Γ' := by exact rfl
@[simp] theorem outF_b : outF .bad = .bad := by exact rfl
end
section
variable {α β : Type} {Γ Γ' : Env} {a : α} {x : Exn} {f g : M T} {i j : Nat} {t t1 t2 : T} {d d1 d2 : D}
@[simp] theorem ev_bind (f : M α) (k : α → M β) : bindM f k Γ = (f Γ).bind k := by exact rfl
@[simp] theorem ev_ok (k : α → M β) : (Out.ok a Γ).bind k = k a Γ := by exact rfl
@[simp] theorem ev_exc (k : α → M β) : (Out.exc x Γ : Out α).bind k = .exc x Γ := by exact rfl
@[simp] theorem ev_bad (k : α → M β) : (Out.bad : Out α).bind k = .bad := by exact rfl
@[simp] theorem ev_ret : retM a Γ = .ok a Γ := by exact rfl
@[simp] theorem ev_optS : optM (some a) Γ = .ok a Γ := by exact rfl
@[simp] theorem ev_optN : optM (none : Option α) Γ = .bad := by exact rfl
@[simp] theorem ev_const : constM d Γ = .ok (.fz d) Γ := by exact rfl
def rdV (i : Nat) (Γ : Env) : Option (Option T) → Out T
  | some (some (.fz d)) => .ok (.fz d) Γ
  | some (some _) => .ok (.al i) Γ
  | _ => .bad
@[simp] theorem ev_var : varM i Γ = rdV i Γ Γ[i]? := by exact rfl
@[simp] theorem rdV_fz : rdV i Γ (some (some (.fz d))) = .ok (.fz d) Γ := by exact rfl
@[simp] theorem rdV_ol {ts : List T} : rdV i Γ (some (some (.ol ts))) = .ok (.al i) Γ := by exact rfl
@[simp] theorem rdV_no : rdV i Γ (some none) = .bad := by exact rfl
@[simp] theorem ev_varF : varF i Γ = orB (fzo (slt Γ[i]?)) fun d => .ok (.fz d) Γ := by
  unfold varF
  generalize Γ[i]? = o
  rcases o with _ | _ | t <;> try exact rfl
  cases t <;> exact rfl
@[simp] theorem ev_look : lookM t Γ = orB (look Γ t) fun d => .ok d Γ := by
  unfold lookM
  cases look Γ t <;> exact rfl
@[simp] theorem ev_lookF : look Γ (.fz d) = some d := by exact rfl
@[simp] theorem ev_lookA : look Γ (.al i) = bnd (slt Γ[i]?) T.toD := by
  unfold look
  dsimp only
  generalize Γ[i]? = o
  rcases o with _ | _ | t <;> exact rfl
@[simp] theorem ev_lookL {ts : List T} : look Γ (.ol ts) = (T.toDs ts).map D.lst := by exact rfl
@[simp] theorem ev_toDF : (T.fz d).toD = some d := by exact rfl
@[simp] theorem ev_toDL {ts : List T} : (T.ol ts).toD = (T.toDs ts).map D.lst := by exact rfl
@[simp] theorem ev_toDs0 : T.toDs [] = some [] := by exact rfl
@[simp] theorem ev_toDs1 {ts : List T} : T.toDs (.fz d :: ts) = (T.toDs ts).map (d :: ·) := by
  show (match some d, T.toDs ts with | some d, some ds => some (d :: ds) | _, _ => none) = _
  cases T.toDs ts <;> rfl
@[simp] theorem ev_toDsM : ∀ {ds : List D}, T.toDs (ds.map T.fz) = some ds
  | [] => rfl
  | d :: ds => by rw [List.map_cons, ev_toDs1, ev_toDsM]; rfl
@[simp] theorem ev_fzs0 : T.fzs [] = some [] := by exact rfl
@[simp] theorem ev_fzs1 {ts : List T} : T.fzs (.fz d :: ts) = (T.fzs ts).map (d :: ·) := by exact rfl
@[simp] theorem ev_fzsM : ∀ {ds : List D}, T.fzs (ds.map T.fz) = some ds
  | [] => rfl
  | d :: ds => by rw [List.map_cons, ev_fzs1, ev_fzsM]; rfl
@[simp] theorem ev_sq : sqM t Γ = orB (sqOf Γ t) fun q => .ok q Γ := by
  unfold sqM
  cases sqOf Γ t <;> exact rfl
@[simp] theorem ev_sqF : sqOf Γ (.fz d) = (T.fz d).sq := by exact rfl
@[simp] theorem ev_sqL {ts : List T} : sqOf Γ (.ol ts) = (T.fzs ts).map Sq.l := by exact rfl
@[simp] theorem ev_sqA : sqOf Γ (.al i) = bnd (slt Γ[i]?) T.sq := by
  unfold sqOf
  dsimp only
  generalize Γ[i]? = o
  rcases o with _ | _ | t <;> exact rfl
@[simp] theorem ev_sq1 {ds : List D} : (T.fz (.lst ds)).sq = some (.l ds) := by exact rfl
@[simp] theorem ev_sq2 {ds : List D} : (T.fz (.tup ds)).sq = some (.t ds) := by exact rfl
@[simp] theorem ev_sq3 {ns : List Int} : (T.fz (.scr ns)).sq = some (.s ns) := by exact rfl
@[simp] theorem ev_sq4 {ts : List T} : (T.ol ts).sq = (T.fzs ts).map Sq.l := by exact rfl
@[simp] theorem ev_sq5 {k : Int} : (T.fz (.int k)).sq = none := by exact rfl
@[simp] theorem ev_sq6 {s : Str} : (T.fz (.str s)).sq = none := by exact rfl
@[simp] theorem ev_ds1 {ds : List D} : (Sq.l ds).ds = ds := by exact rfl
@[simp] theorem ev_ds2 {ds : List D} : (Sq.t ds).ds = ds := by exact rfl
@[simp] theorem ev_ds3 {ns : List Int} : (Sq.s ns).ds = ns.map D.int := by exact rfl
@[simp] theorem ev_settleF : settle (.fz d) Γ = .ok (.fz d) Γ := by exact rfl
@[simp] theorem ev_settleL {ts : List T} : settle (.ol ts) Γ = .ok (.ol ts) Γ := by exact rfl
@[simp] theorem ev_settleA : settle (.al i) Γ = orB (bnd (slt Γ[i]?) T.toD) fun d => .ok (.fz d) (Γ.set i (some (.fz d))) := by
  unfold settle
  dsimp only
  generalize Γ[i]? = o
  rcases o with _ | _ | t <;> try exact rfl
  dsimp only [slt, bnd]
  cases t.toD <;> exact rfl
@[simp] theorem ev_frzF : frz (.fz d) Γ = .ok (.fz d) Γ := by exact rfl
@[simp] theorem ev_frzL {ts : List T} : frz (.ol ts) Γ = orB ((T.ol ts).toD) fun d => .ok (.fz d) Γ := by
  unfold frz
  dsimp only
  cases (T.ol ts).toD <;> exact rfl
@[simp] theorem ev_frzA : frz (.al i) Γ = orB (bnd (slt Γ[i]?) T.toD) fun d => .ok (.fz d) (Γ.set i (some (.fz d))) := by
  unfold frz
  dsimp only
  generalize Γ[i]? = o
  rcases o with _ | _ | t <;> try exact rfl
  dsimp only [slt, bnd]
  cases t.toD <;> exact rfl
@[simp] theorem ev_frozen : frozen f Γ = (f Γ).bind frz := by exact rfl
@[simp] theorem ev_settled : settled f Γ = (f Γ).bind settle := by exact rfl
@[simp] theorem ev_fzD : fzD f Γ = (frozen f Γ).bind dOf := by exact rfl
@[simp] theorem ev_op2 (h : D → D → Option D) : op2 h f g Γ = (f Γ).bind fun t1 => bindM g fun t2 => bindM (lookM t1) fun d1 => bindM (lookM t2) fun d2 => bindM (optM (h d1 d2)) fun d => retM (.fz d) := by exact rfl
@[simp] theorem ev_op1 (h : D → Option D) : op1 h f Γ = (f Γ).bind fun t1 => bindM (lookM t1) fun d1 => bindM (optM (h d1)) fun d => retM (.fz d) := by exact rfl
@[simp] theorem ev_boolM : boolM f Γ = (f Γ).bind fun t => bindM (lookM t) fun d => optM d.toB := by exact rfl
@[simp] theorem ev_toB {b : Bool} : (D.bl b).toB = some b := by exact rfl
@[simp] theorem ev_intM : intM f Γ = (f Γ).bind fun t => bindM (lookM t) fun d => optM d.toI := by exact rfl
@[simp] theorem ev_toI {k : Int} : (D.int k).toI = some k := by exact rfl
@[simp] theorem ev_andM (p q : M Bool) : andM p q Γ = (p Γ).bind fun b => if b then q else retM false := by exact rfl
@[simp] theorem ev_orM (p q : M Bool) : orM p q Γ = (p Γ).bind fun b => if b then retM true else q := by exact rfl
@[simp] theorem ev_notM (p : M Bool) : notM p Γ = (p Γ).bind fun b => retM (!b) := by exact rfl
@[simp] theorem ev_ifM (c : M Bool) (p q : M α) : ifM c p q Γ = (c Γ).bind fun b => if b then p else q := by exact rfl
@[simp] theorem ev_ifS (c : M Bool) (p q : M Flow) : ifS c p q Γ = (c Γ).bind fun b => if b then p else q := by exact rfl
@[simp] theorem ev_ite (c : Prop) [Decidable c] (p q : M α) : (if c then p else q) Γ = if c then p Γ else q Γ := by split <;> rfl
@[simp] theorem ev_andV : andV f g Γ = (boolM f Γ).bind fun b => if b then bindM g settle else retM (.fz (.bl false)) := by exact rfl
@[simp] theorem ev_orV : orV f g Γ = (boolM f Γ).bind fun b => if b then retM (.fz (.bl true)) else bindM g settle := by exact rfl
@[simp] theorem ev_notV : notV f Γ = (boolM f Γ).bind fun b => retM (.fz (.bl (!b))) := by exact rfl
@[simp] theorem ev_seq (p q : M Flow) : seqM p q Γ = (p Γ).bind (thenM q) := by exact rfl
@[simp] theorem ev_skip : skipM Γ = .ok .next Γ := by exact rfl
@[simp] theorem ev_expr : exprM f Γ = (f Γ).bind fun _ => retM .next := by exact rfl
@[simp] theorem ev_retS : retS f Γ = (f Γ).bind fun t => bindM (settle t) fun t' => retM (.ret t') := by exact rfl
@[simp] theorem ev_setM : setM i f Γ = (f Γ).bind fun t => bindM (settle t) fun t' => fun Γ => .ok .next (Γ.set i (some t')) := by exact rfl
@[simp] theorem ev_asg (h : D → M Unit) : asgM f h Γ = (fzD f Γ).bind fun d => bindM (h d) fun _ => retM .next := by exact rfl
@[simp] theorem ev_nameG : nameG i d Γ = .ok () (Γ.set i (some (.fz d))) := by exact rfl
@[simp] theorem ev_namesG0 : namesG [] [] Γ = .ok () Γ := by exact rfl
@[simp] theorem ev_namesG1 {is : List Nat} {ds : List D} : namesG (i :: is) (d :: ds) Γ = namesG is ds (Γ.set i (some (.fz d))) := by exact rfl
@[simp] theorem ev_tupG {is : List Nat} {ds : List D} : tupG is (.tup ds) Γ = namesG is ds Γ := by exact rfl
@[simp] theorem ev_subG : subG f g d Γ = noX (bindM f fun o => bindM g fun t => bindM (lookM t) fun k => setIxT o k d) Γ := by exact rfl
@[simp] theorem ev_noX (p : M α) : noX p Γ = xB (p Γ) := by exact rfl
@[simp] theorem ev_setIx {k : Int} : setIxT (.al i) (.int k) d Γ = orB (olo (slt Γ[i]?)) fun ts => orB (ixN ts.length k) fun j => .ok () (Γ.set i (some (.ol (ts.set j (.fz d))))) := by
  unfold setIxT
  dsimp only
  generalize Γ[i]? = o
  rcases o with _ | _ | t <;> try exact rfl
  cases t <;> try exact rfl
  rename_i ts
  dsimp only [slt, olo, orB]
  cases ixN ts.length k <;> exact rfl
@[simp] theorem ev_addM : addM f g Γ = (f Γ).bind fun t1 => bindM g fun t2 => addT t1 t2 := by exact rfl
@[simp] theorem ev_mulM : mulM f g Γ = (f Γ).bind fun t1 => bindM g fun t2 => mulT t1 t2 := by exact rfl
@[simp] theorem ev_ixA : ixA f g Γ = (f Γ).bind fun t1 => bindM g fun t2 => ixT t1 t2 := by exact rfl
@[simp] theorem ev_addI {k l : Int} : addT (.fz (.int k)) (.fz (.int l)) Γ = .ok (.fz (.int (k + l))) Γ := by exact rfl
@[simp] theorem ev_mulI {k l : Int} : mulT (.fz (.int k)) (.fz (.int l)) Γ = gd (small64 k || small64 l) (.ok (.fz (.int (k * l))) Γ) := by
  show (if (small64 k || small64 l) = true then _ else _) = _
  cases (small64 k || small64 l) <;> exact rfl
@[simp] theorem ev_ixT {k : Int} : ixT t (.fz (.int k)) Γ = ixS (sqOf Γ t) (look Γ t) k Γ := by
  unfold ixT ixS
  rw [ev_lookF]
  dsimp only
  cases sqOf Γ t with
  | some q =>
    dsimp only
    cases atI q.ds k <;> exact rfl
  | none =>
    dsimp only
    rcases look Γ t with _ | d <;> try exact rfl
    cases d <;> try exact rfl
    rename_i z
    show (if z.length ≤ sizeLine then _ else _) = gd (decide (z.length ≤ sizeLine)) _
    by_cases h : z.length ≤ sizeLine
    · rw [if_pos h, decide_eq_true h]
      cases atI z.cps.toList k <;> exact rfl
    · rw [if_neg h, decide_eq_false h]
      exact rfl
@[simp] theorem ev_subD {k l : Int} : subD (.int k) (.int l) = some (.int (k - l)) := by exact rfl
@[simp] theorem ev_modD {k l : Int} : modD (.int k) (.int l) = if 0 < l then some (.int (k % l)) else none := by exact rfl
@[simp] theorem ev_divD {k l : Int} : divD (.int k) (.int l) = if 0 < l ∧ l < 1073741824 then some (.int (k / l)) else none := by exact rfl
@[simp] theorem ev_powD {k l : Int} : powD (.int k) (.int l) = if 0 ≤ l ∧ l ≤ 1000000 ∧ k.natAbs < 2 ^ 64 then some (.int (k ^ l.toNat)) else none := by exact rfl
@[simp] theorem ev_negD {k : Int} : negD (.int k) = some (.int (-k)) := by exact rfl
@[simp] theorem ev_ltD {k l : Int} : ltD (.int k) (.int l) = some (.bl (decide (k < l))) := by exact rfl
@[simp] theorem ev_leD {k l : Int} : leD (.int k) (.int l) = some (.bl (decide (k ≤ l))) := by exact rfl
@[simp] theorem ev_gtD {k l : Int} : gtD (.int k) (.int l) = some (.bl (decide (l < k))) := by exact rfl
@[simp] theorem ev_geD {k l : Int} : geD (.int k) (.int l) = some (.bl (decide (l ≤ k))) := by exact rfl
@[simp] theorem ev_isN : isNonD d .non = some (.bl d.isNon) := by exact rfl
@[simp] theorem ev_notN : notNonD d .non = some (.bl (!d.isNon)) := by exact rfl
@[simp] theorem ev_isN0 : D.non.isNon = true := by exact rfl
@[simp] theorem ev_isN1 {b : Bool} : (D.bl b).isNon = false := by exact rfl
@[simp] theorem ev_isN2 {k : Int} : (D.int k).isNon = false := by exact rfl
@[simp] theorem ev_isN3 {s : Str} : (D.str s).isNon = false := by exact rfl
@[simp] theorem ev_isN4 {ds : List D} : (D.lst ds).isNon = false := by exact rfl
@[simp] theorem ev_isN5 {ds : List D} : (D.tup ds).isNon = false := by exact rfl
@[simp] theorem ev_args0 : argsM [] Γ = .ok [] Γ := by exact rfl
@[simp] theorem ev_args1 {fs : List (M T)} : argsM (f :: fs) Γ = (f Γ).bind fun t => bindM (argsM fs) fun ts => retM (t :: ts) := by exact rfl
@[simp] theorem ev_guard {b : Bool} : guardM b Γ = gd b (.ok () Γ) := by cases b <;> exact rfl
@[simp] theorem ev_lst (a : M (List T)) : lstM a Γ = (a Γ).bind fun ts => bindM (optM (T.fzs ts)) fun ds => bindM (guardM (decide (ds.length ≤ sizeLine))) fun _ => retM (.ol (ds.map T.fz)) := by exact rfl
@[simp] theorem ev_tup (a : M (List T)) : tupM a Γ = (a Γ).bind fun ts => bindM (optM (T.fzs ts)) fun ds => bindM (guardM (decide (ds.length ≤ sizeLine))) fun _ => retM (.fz (.tup ds)) := by exact rfl
@[simp] theorem ev_list : listM f Γ = (f Γ).bind fun t => bindM (sqM t) fun q => retM (.ol (q.ds.map T.fz)) := by exact rfl
@[simp] theorem ev_tuple : tupleM f Γ = (f Γ).bind fun t => bindM (sqM t) fun q => retM (.fz (.tup q.ds)) := by exact rfl
@[simp] theorem ev_slice (lo hi : M (Option Int)) : sliceM f lo hi Γ = (f Γ).bind fun t => bindM lo fun l => bindM hi fun h => bindM (sqM t) fun q => retM (q.cut l h) := by exact rfl
@[simp] theorem ev_part : partM f Γ = (intM f Γ).bind fun i => retM (some i) := by exact rfl
@[simp] theorem ev_cut1 {lo hi : Option Int} {ds : List D} : (Sq.l ds).cut lo hi = .ol ((cutL ds lo hi).map T.fz) := by exact rfl
@[simp] theorem ev_cut2 {lo hi : Option Int} {ds : List D} : (Sq.t ds).cut lo hi = .fz (.tup (cutL ds lo hi)) := by exact rfl
@[simp] theorem ev_cut3 {lo hi : Option Int} {ns : List Int} : (Sq.s ns).cut lo hi = .ol ((cutL (ns.map D.int) lo hi).map T.fz) := by exact rfl
@[simp] theorem ev_rev : revM f Γ = (f Γ).bind fun t => bindM (sqM t) revQ := by exact rfl
@[simp] theorem ev_callD (h : List D → Option D) (a : M (List T)) : callD h a Γ = (a Γ).bind fun ts => bindM (looksM ts) fun ds => bindM (optM (h ds)) fun d => retM (.fz d) := by exact rfl
@[simp] theorem ev_looksM {ts : List T} : looksM ts Γ = orB (looks Γ ts) fun ds => .ok ds Γ := by
  unfold looksM
  cases looks Γ ts <;> exact rfl
@[simp] theorem ev_looks0 : looks Γ [] = some [] := by exact rfl
@[simp] theorem ev_looks1 {ts : List T} : looks Γ (t :: ts) = bnd (look Γ t) fun d => bnd (looks Γ ts) fun ds => some (d :: ds) := by
  show (match look Γ t, looks Γ ts with | some d, some ds => some (d :: ds) | _, _ => none) = _
  cases look Γ t <;> cases looks Γ ts <;> exact rfl
@[simp] theorem ev_len1 {ds : List D} : lenD [.lst ds] = some (.int ds.length) := by exact rfl
@[simp] theorem ev_len2 {ds : List D} : lenD [.tup ds] = some (.int ds.length) := by exact rfl
@[simp] theorem ev_len4 {ns : List Int} : lenD [.scr ns] = some (.int ns.length) := by exact rfl
@[simp] theorem ev_int1 {k : Int} : intD [.int k] = some (.int k) := by exact rfl
@[simp] theorem ev_int2 {b : Bool} : intD [.bl b] = some (.int (if b then 1 else 0)) := by exact rfl
@[simp] theorem ev_seqIt : seqIt f Γ = (f Γ).bind fun t => bindM (frz t) fun t' => bindM (sqM t') fun q => retM q.ds := by exact rfl
@[simp] theorem ev_enumIt : enumIt f Γ = (f Γ).bind fun t => bindM (frz t) fun t' => bindM (sqM t') enumQ := by exact rfl
@[simp] theorem ev_range1 : range1 f Γ = (intM f Γ).bind fun n => bindM (guardM (rngOk 0 n)) fun _ => retM (rangeL 0 n.toNat) := by exact rfl
@[simp] theorem ev_range2 : range2 f g Γ = (intM f Γ).bind fun lo => bindM (intM g) fun hi => bindM (guardM (rngOk lo hi)) fun _ => retM (rangeL lo (hi - lo).toNat) := by exact rfl
@[simp] theorem ev_for (fi : M (List D)) (h : D → M Unit) (b : M Flow) : forM fi h b Γ = (fi Γ).bind fun ds => loopM h b ds := by exact rfl
@[simp] theorem ev_comp {vs : List Nat} (fi : M (List D)) (h : D → M Unit) (b : M Bool) : compM vs fi h b f Γ = (fi Γ).bind fun ds => fun Γ => (compL vs h b f ds (wipeE Γ vs)).bind fun es => retM (.ol (es.map T.fz)) := by exact rfl
@[simp] theorem ev_call0 (F : FSem) (a : M (List T)) : call0 F a Γ = (a Γ).bind fun ts => bindM (looksM ts) fun ds => fun Γ => cOut ts Γ (F (ds.map T.fz)) := by
  unfold call0
  show (a Γ).bind _ = (a Γ).bind _
  congr 1
  funext ts
  congr 1
  funext ds Γ
  cases F (ds.map T.fz) <;> first | exact gd_ite _ _ | exact rfl
@[simp] theorem ev_callR (F : FSem) (a : M (List T)) : callR F a Γ = (a Γ).bind (callRL F) := by exact rfl
@[simp] theorem ev_callRT (F : FSem) {ds : List D} : callRT F (.al i) ds Γ = orB (slt Γ[i]?) fun t0 => rOut i Γ (F (t0 :: ds.map T.fz)) := by
  unfold callRT
  dsimp only
  generalize Γ[i]? = o
  rcases o with _ | _ | t <;> try exact rfl
  dsimp only [slt, orB]
  cases F (t :: ds.map T.fz) <;> first | exact gd_ite _ _ | exact rfl
@[simp] theorem ev_callK {is : List Nat} (F : FSem) (a b : M (List T)) : callK is F a b Γ = (a Γ).bind fun ts => bindM b fun us => bindM (optM (T.fzs (ts ++ us))) fun ds => fun Γ => kOut Γ (F ((pick is ds).map T.fz)) := by
  unfold callK
  show (a Γ).bind _ = (a Γ).bind _
  congr 1
  funext ts
  congr 1
  funext us
  congr 1
  funext ds Γ
  cases F ((pick is ds).map T.fz) <;> first | exact gd_ite _ _ | exact rfl
@[simp] theorem ev_isAlF : (T.fz d).isAl = false := by exact rfl
@[simp] theorem ev_isAlL {ts : List T} : (T.ol ts).isAl = false := by exact rfl
@[simp] theorem ev_scalF : (T.fz d).scal = d.scal := by exact rfl
@[simp] theorem ev_scal0 : D.non.scal = true := by exact rfl
@[simp] theorem ev_scal1 {b : Bool} : (D.bl b).scal = true := by exact rfl
@[simp] theorem ev_scal2 {k : Int} : (D.int k).scal = true := by exact rfl
@[simp] theorem ev_scal3 {s : Str} : (D.str s).scal = true := by exact rfl
@[simp] theorem ev_par (a : M (List T)) : parM i j a Γ = (a Γ).bind (parK i j) := by
  show (a Γ).bind _ = (a Γ).bind _
  congr 1
  funext ts
  rcases ts with _ | ⟨t1, _ | ⟨t2, _ | _⟩⟩ <;> try exact rfl
  funext Γ
  show (if (t1.isAl || t2.isAl) = true then fun _ => .bad else fun Γ => .ok .next ((Γ.set i (some t1)).set j (some t2)) : M Flow) Γ = gd (!(t1.isAl || t2.isAl)) _
  cases (t1.isAl || t2.isAl) <;> exact rfl
@[simp] theorem ev_listRg (fi : M (List D)) : listRg fi Γ = (fi Γ).bind fun ds => retM (.ol (ds.map T.fz)) := by exact rfl
@[simp] theorem ev_isi {cs : List String} : isiM cs f Γ = (f Γ).bind fun t => bindM (lookM t) fun d => bindM (optM d.ty) fun n => retM (.fz (.bl (cs.any (isTy n)))) := by exact rfl
@[simp] theorem ev_append : appendM f g Γ = (f Γ).bind fun o => bindM (olM o) fun _ => bindM (frozen g) fun t => appendT o t := by exact rfl
@[simp] theorem ev_popAt : popAtM f g Γ = (f Γ).bind fun o => bindM (olM o) fun _ => bindM g fun t => bindM (lookM t) fun k => popAtT o k := by exact rfl
@[simp] theorem ev_olM : olM (.al i) Γ = orB (olo (slt Γ[i]?)) fun _ => .ok () Γ := by
  unfold olM
  dsimp only
  generalize Γ[i]? = o
  rcases o with _ | _ | t <;> try exact rfl
  cases t <;> exact rfl
@[simp] theorem ev_appendT : appendT (.al i) (.fz d) Γ = orB (olo (slt Γ[i]?)) fun ts => gd (decide (ts.length < sizeLine)) (.ok (.fz .non) (Γ.set i (some (.ol (ts ++ [.fz d]))))) := by
  unfold appendT
  dsimp only
  generalize Γ[i]? = o
  rcases o with _ | _ | t <;> try exact rfl
  cases t <;> try exact rfl
  rename_i ts
  dsimp only [slt, olo, orB]
  by_cases h : ts.length < sizeLine
  · rw [if_pos h, decide_eq_true h]; exact rfl
  · rw [if_neg h, decide_eq_false h]; exact rfl
@[simp] theorem ev_popAtT {k : Int} : popAtT (.al i) (.int k) Γ = orB (olo (slt Γ[i]?)) fun ts => orB (ixN ts.length k) fun j => orB (fzo ts[j]?) fun d => .ok (.fz d) (Γ.set i (some (.ol (ts.eraseIdx j)))) := by
  unfold popAtT
  dsimp only
  generalize Γ[i]? = o
  rcases o with _ | _ | t <;> try exact rfl
  cases t <;> try exact rfl
  rename_i ts
  dsimp only [slt, olo, orB]
  rcases ixN ts.length k with _ | j <;> try exact rfl
  dsimp only
  rcases ts[j]? with _ | t <;> try exact rfl
  cases t <;> exact rfl
@[simp] theorem ev_loop1 (h : D → M Unit) (b : M Flow) {ds : List D} : loopM h b (d :: ds) Γ = (h d Γ).bind fun _ => bindM b (loopK h b ds) := by exact rfl
@[simp] theorem ev_eqI {k l : Int} : eqD (.int k) (.int l) = some (.bl (decide (k = l))) := by
  show some (D.bl (k == l)) = _
  rw [Bool.beq_eq_decide_eq]
@[simp] theorem ev_neI {k l : Int} : neD (.int k) (.int l) = some (.bl (!decide (k = l))) := by
  show some (D.bl (!(k == l))) = _
  rw [Bool.beq_eq_decide_eq]
@[simp] theorem ev_eqB {a b : Bool} : eqD (.bl a) (.bl b) = some (.bl (a == b)) := by exact rfl
@[simp] theorem ev_neB {a b : Bool} : neD (.bl a) (.bl b) = some (.bl (!(a == b))) := by exact rfl
@[simp] theorem ev_callF {n : Nat} {den : M Flow} {ts : List T} : callF n den ts = outF (den (initE n ts)) := by exact rfl
@[simp] theorem ev_loop0 (h : D → M Unit) (b : M Flow) : loopM h b [] Γ = .ok .next Γ := by exact rfl
@[simp] theorem ev_tupGs {gs : List D → M Unit} {n : Nat} {ds : List D} : tupGs gs n (.tup ds) = if ds.length = n then gs ds else fun _ => .bad := by exact rfl
@[simp] theorem ev_consG {h : D → M Unit} {gs : List D → M Unit} {ds : List D} : consG h gs (d :: ds) Γ = (h d Γ).bind fun _ => gs ds := by exact rfl
@[simp] theorem ev_nilG : nilG [] Γ = .ok () Γ := by exact rfl
@[simp] theorem ev_initE {n : Nat} {ts : List T} : initE n ts = ts.map some ++ List.replicate (n - ts.length) none := by exact rfl
@[simp] theorem ev_joinAt {o : Option T} : joinAt (o :: Γ) = o := by exact rfl
end
/-- an item by a small place -/
theorem atI_of {α : Type} {xs : List α} {k : Int} {a : α} (h0 : 0 ≤ k) (h : xs[k.toNat]? = some a) : atI xs k = some a := by
  have e : k = ((k.toNat : Nat) : Int) := by omega
  rw [e]
  exact atI_nat h
/-! ### loops -/
/-- a loop whose every turn goes on: the states G s, a step -/
theorem loop_fold {S : Type} (G : S → Env) (I : S → Prop) (step : S → D → S) {g : D → M Unit} {body : M Flow} : ∀ (ds : List D) (s : S), I s → (∀ s d, d ∈ ds → I s → I (step s d) ∧ ((g d (G s)).bind fun _ => body) = .ok .next (G (step s d))) → loopM g body ds (G s) = .ok .next (G (ds.foldl step s)) ∧ I (ds.foldl step s)
  | [], s, hI, _ => ⟨rfl, hI⟩
  | d :: ds, s, hI, h => by
    obtain ⟨h1, h2⟩ := h s d List.mem_cons_self hI
    have ih := loop_fold G I step ds (step s d) h1 fun s d hd => h s d (List.mem_cons_of_mem _ hd)
    refine ⟨?_, ih.2⟩
    show ((g d (G s)).bind fun _ => bindM body fun fl => _) = _
    cases e : g d (G s) with
    | ok u Γ1 =>
      rw [e] at h2
      have h3 : body Γ1 = .ok .next (G (step s d)) := h2
      show (body Γ1).bind _ = _
      rw [h3]
      exact ih.1
    | exc x Γ1 => rw [e] at h2; cases h2
    | bad => rw [e] at h2; cases h2
/-- the same without telling the step: some state behind it -/
theorem loop_inv {S : Type} (G : S → Env) (I : Nat → S → Prop) {g : D → M Unit} {body : M Flow} : ∀ (ds : List D) (k : Nat) (s : S), I k s → (∀ k s d, d ∈ ds → I k s → ∃ s', I (k + 1) s' ∧ ((g d (G s)).bind fun _ => body) = .ok .next (G s')) → ∃ s', I (k + ds.length) s' ∧ loopM g body ds (G s) = .ok .next (G s')
  | [], k, s, hI, _ => ⟨s, hI, rfl⟩
  | d :: ds, k, s, hI, h => by
    obtain ⟨s1, h1, h2⟩ := h k s d List.mem_cons_self hI
    obtain ⟨s2, h3, h4⟩ := loop_inv G I ds (k + 1) s1 h1 fun k s d hd => h k s d (List.mem_cons_of_mem _ hd)
    refine ⟨s2, by rw [List.length_cons, show k + (ds.length + 1) = k + 1 + ds.length by omega]; exact h3, ?_⟩
    show ((g d (G s)).bind fun _ => bindM body fun fl => _) = _
    cases e : g d (G s) with
    | ok u Γ1 =>
      rw [e] at h2
      have h5 : body Γ1 = .ok .next (G s1) := h2
      show (body Γ1).bind _ = _
      rw [h5]
      exact h4
    | exc x Γ1 => rw [e] at h2; cases h2
    | bad => rw [e] at h2; cases h2
/-- a comprehension without effects: each thing's own answer -/
theorem comp_map {vs : List Nat} {g : D → M Unit} {ft : M Bool} {fe : M T} {Γ : Env} : ∀ (ds es : List D), ds.length = es.length → (∀ (i : Nat) (d e : D), ds[i]? = some d → es[i]? = some e → turnL vs g ft fe d Γ = .ok (some e) Γ) → compL vs g ft fe ds Γ = .ok es Γ
  | [], [], _, _ => rfl
  | [], _ :: _, hl, _ => by cases hl
  | _ :: _, [], hl, _ => by cases hl
  | d :: ds, e :: es, hl, h => by
    have h1 := h 0 d e rfl rfl
    have ih := comp_map ds es (Nat.succ.inj hl) fun i d' e' hd he => h (i + 1) d' e' hd he
    show (turnL vs g ft fe d Γ).bind (fun o => bindM (compL vs g ft fe ds) fun es => retM (o.toList ++ es)) = _
    rw [h1]
    show (compL vs g ft fe ds Γ).bind (fun es => retM ((some e).toList ++ es)) = _
    rw [ih]
    rfl
/-- with effects: states G s -/
theorem comp_inv {S : Type} (G : S → Env) (I : S → Prop) (Pe : D → Prop) {vs : List Nat} {g : D → M Unit} {ft : M Bool} {fe : M T} : ∀ (ds : List D) (s : S), I s → (∀ s d, d ∈ ds → I s → ∃ s' e, I s' ∧ Pe e ∧ turnL vs g ft fe d (G s) = .ok (some e) (G s')) → ∃ s' es, I s' ∧ es.length = ds.length ∧ (∀ e ∈ es, Pe e) ∧ compL vs g ft fe ds (G s) = .ok es (G s')
  | [], s, hI, _ => ⟨s, [], hI, rfl, (fun _ h => nomatch h), rfl⟩
  | d :: ds, s, hI, h => by
    obtain ⟨s1, e, h1, hp, h2⟩ := h s d List.mem_cons_self hI
    obtain ⟨s2, es, h3, hl, hpe, h4⟩ := comp_inv G I Pe ds s1 h1 fun s d hd => h s d (List.mem_cons_of_mem _ hd)
    refine ⟨s2, e :: es, h3, congrArg (· + 1) hl, fun x hx => ?_, ?_⟩
    · cases hx with
      | head => exact hp
      | tail _ hx => exact hpe x hx
    · show (turnL vs g ft fe d (G s)).bind (fun o => bindM (compL vs g ft fe ds) fun es => retM (o.toList ++ es)) = _
      rw [h2]
      show (compL vs g ft fe ds (G s1)).bind (fun es => retM ((some e).toList ++ es)) = _
      rw [h4]
      rfl
end DL
/-! signs of orders: plain law -/
namespace DL
def prd : List Int → Int
  | [] => 1
  | x :: xs => x * prd xs
theorem prd_append : ∀ (xs ys : List Int), prd (xs ++ ys) = prd xs * prd ys
  | [], ys => (Int.one_mul _).symm
  | x :: xs, ys => by
    show x * prd (xs ++ ys) = x * prd xs * prd ys
    rw [prd_append xs ys, Int.mul_assoc]
/-- how two stand to each other -/
def cp (x y : Int) : Int := if x = y then 0 else if y < x then -1 else 1
theorem cp_self (x : Int) : cp x x = 0 := if_pos rfl
theorem cp_anti (x y : Int) : cp y x = -cp x y := by
  unfold cp
  by_cases h : x = y
  · rw [if_pos h, if_pos h.symm]; rfl
  · rw [if_neg h, if_neg (fun e => h e.symm)]
    by_cases h2 : y < x
    · rw [if_pos h2, if_neg (show ¬ x < y by omega)]; rfl
    · rw [if_neg h2, if_pos (show x < y by omega)]
/-- the sign of a row's order -/
def sgn : List Int → Int
  | [] => 1
  | x :: xs => prd (xs.map (cp x)) * sgn xs
/-- the sign between two rows -/
def crs (xs ys : List Int) : Int := prd (xs.map fun x => prd (ys.map (cp x)))
theorem sgn_append : ∀ (xs ys : List Int), sgn (xs ++ ys) = sgn xs * sgn ys * crs xs ys
  | [], ys => by
    show sgn ys = 1 * sgn ys * 1
    omega
  | x :: xs, ys => by
    show prd ((xs ++ ys).map (cp x)) * sgn (xs ++ ys) = prd (xs.map (cp x)) * sgn xs * sgn ys * (prd (ys.map (cp x)) * crs xs ys)
    rw [sgn_append xs ys, List.map_append, prd_append]
    generalize prd (xs.map (cp x)) = a
    generalize prd (ys.map (cp x)) = b
    generalize sgn xs = c
    generalize sgn ys = d
    generalize crs xs ys = e
    ac_rfl
/-- one moved past the next -/
theorem sgn_adj (a b : Int) (us vs : List Int) : sgn (us ++ a :: b :: vs) = -sgn (us ++ b :: a :: vs) := by
  rw [sgn_append, sgn_append]
  have h1 : crs us (a :: b :: vs) = crs us (b :: a :: vs) := by
    unfold crs
    congr 2
    funext x
    show cp x a * (cp x b * _) = cp x b * (cp x a * _)
    ac_rfl
  have h2 : sgn (a :: b :: vs) = -sgn (b :: a :: vs) := by
    show cp a b * prd (vs.map (cp a)) * (prd (vs.map (cp b)) * sgn vs) = -(cp b a * prd (vs.map (cp b)) * (prd (vs.map (cp a)) * sgn vs))
    rw [cp_anti a b]
    generalize prd (vs.map (cp a)) = x
    generalize prd (vs.map (cp b)) = y
    generalize sgn vs = z
    generalize cp a b = c
    rw [Int.neg_mul, Int.neg_mul, Int.neg_neg]
    ac_rfl
  rw [h1, h2, Int.mul_neg, Int.neg_mul]
def par : List Int → Int
  | [] => 1
  | _ :: xs => -par xs
theorem par_sq : ∀ m : List Int, par m * par m = 1
  | [] => rfl
  | _ :: xs => by
    show -par xs * -par xs = 1
    rw [Int.neg_mul_neg, par_sq xs]
theorem sgn_past (a : Int) (vs : List Int) : ∀ (m us : List Int), sgn (us ++ a :: (m ++ vs)) = par m * sgn (us ++ (m ++ a :: vs))
  | [], us => (Int.one_mul _).symm
  | b :: m, us => by
    show sgn (us ++ a :: b :: (m ++ vs)) = -par m * sgn (us ++ b :: (m ++ a :: vs))
    rw [sgn_adj, show us ++ b :: a :: (m ++ vs) = (us ++ [b]) ++ a :: (m ++ vs) by simp, sgn_past a vs m (us ++ [b]), Int.neg_mul]
    congr 2
    simp
/-- an exchange turns the sign -/
theorem sgn_swap (a b : Int) (us m vs : List Int) : sgn (us ++ a :: (m ++ b :: vs)) = -sgn (us ++ b :: (m ++ a :: vs)) := by
  rw [sgn_past a (b :: vs) m us, show us ++ (m ++ a :: b :: vs) = (us ++ m) ++ a :: b :: vs by simp, sgn_adj, sgn_past b (a :: vs) m us]
  rw [show us ++ m ++ b :: a :: vs = us ++ (m ++ b :: a :: vs) by simp, Int.mul_neg]
theorem sgn_snoc (xs : List Int) (y : Int) : sgn (xs ++ [y]) = sgn xs * prd (xs.map fun x => cp x y) := by
  rw [sgn_append]
  have h : crs xs [y] = prd (xs.map fun x => cp x y) := by
    unfold crs
    congr 2
    funext x
    exact Int.mul_one _
  rw [h]
  show sgn xs * (1 * 1) * _ = _
  rw [Int.one_mul, Int.mul_one]
/-- two places of a row apart -/
theorem split2 {xs : List Int} {i j : Nat} (hij : i < j) (hj : j < xs.length) : ∃ us a m b vs, xs = us ++ a :: (m ++ b :: vs) ∧ us.length = i ∧ us.length + 1 + m.length = j := by
  refine ⟨xs.take i, xs[i], (xs.drop (i + 1)).take (j - i - 1), xs[j], xs.drop (j + 1), ?_, ?_, ?_⟩
  · have h1 : xs = xs.take i ++ xs.drop i := (List.take_append_drop i xs).symm
    have h2 : xs.drop i = xs[i] :: xs.drop (i + 1) := List.drop_eq_getElem_cons (by omega)
    have h3 : xs.drop (i + 1) = (xs.drop (i + 1)).take (j - i - 1) ++ (xs.drop (i + 1)).drop (j - i - 1) := (List.take_append_drop _ _).symm
    have h4 : (xs.drop (i + 1)).drop (j - i - 1) = xs[j] :: xs.drop (j + 1) := by
      rw [List.drop_drop, show i + 1 + (j - i - 1) = j by omega]
      exact List.drop_eq_getElem_cons hj
    rw [h4] at h3
    rw [h3] at h2
    rw [h2] at h1
    exact h1
  · rw [List.length_take]; omega
  · rw [List.length_take, List.length_take, List.length_drop]; omega
theorem sgn_exch {xs : List Int} {i j : Nat} {x y : Int} (hij : i ≠ j) (hi : xs[i]? = some x) (hj : xs[j]? = some y) : sgn ((xs.set i y).set j x) = -sgn xs := by
  have key : ∀ {i j : Nat} {x y : Int}, i < j → xs[i]? = some x → xs[j]? = some y → sgn ((xs.set i y).set j x) = -sgn xs := by
    intro i j x y h hi hj
    have hjl := (List.getElem?_eq_some_iff.mp hj).1
    obtain ⟨us, a, m, b, vs, rfl, h1, h2⟩ := split2 h hjl
    have e1 : (us ++ a :: (m ++ b :: vs))[i]? = some a := by
      rw [List.getElem?_append_right (by omega), h1, Nat.sub_self]; rfl
    have e2 : (us ++ a :: (m ++ b :: vs))[j]? = some b := by
      rw [List.getElem?_append_right (by omega), show j - us.length = m.length + 1 by omega, List.getElem?_cons_succ, List.getElem?_append_right (by omega), Nat.sub_self]; rfl
    have q1 : a = x := Option.some.inj (e1.symm.trans hi)
    have q2 : b = y := Option.some.inj (e2.symm.trans hj)
    subst q1 q2
    have e3 : ((us ++ a :: (m ++ b :: vs)).set i b).set j a = us ++ b :: (m ++ a :: vs) := by
      rw [List.set_append_right _ _ (by omega), show i - us.length = 0 by omega]
      rw [List.set_append_right _ _ (by omega), show j - us.length = m.length + 1 by omega]
      show us ++ b :: (m ++ b :: vs).set m.length a = _
      rw [List.set_append_right _ _ (by omega), Nat.sub_self]
      rfl
    rw [e3, sgn_swap a b, Int.neg_neg]
  rcases Nat.lt_or_gt_of_ne hij with h | h
  · exact key h hi hj
  · rw [List.set_comm _ _ hij]
    exact key h hj hi
end DL
namespace DL
open PySem L2
/-- an answer, whatever the slots behind it -/
def Gives (o : Out T) (t : T) : Prop := ∃ Γ, o = .ok t Γ
@[simp] theorem gives_ok {t u : T} {Γ : Env} : Gives (.ok t Γ) u ↔ t = u := ⟨fun ⟨_, e⟩ => by injection e, fun e => ⟨Γ, e ▸ rfl⟩⟩
/-- a statement's going on -/
def Goes (o : Out Flow) (P : Env → Prop) : Prop := ∃ Γ, o = .ok .next Γ ∧ P Γ
@[simp] theorem goes_ok {P : Env → Prop} {Γ : Env} : Goes (.ok .next Γ) P ↔ P Γ := ⟨fun ⟨Γ', e, h⟩ => by injection e with e1 e2; exact e2 ▸ h, fun h => ⟨Γ, rfl, h⟩⟩
theorem cut_le {α : Type} {xs : List α} {n : Nat} (h : xs.length ≤ n) : cutL xs none (some (n : Int)) = xs := by
  unfold cutL
  rw [HT.sIx_nat, HT.sIx_none, List.drop_zero, Nat.sub_zero, Nat.min_eq_right h, List.take_length]
theorem cut_from {α : Type} {xs : List α} {n : Nat} : cutL xs (some (n : Int)) none = xs.drop n := by
  unfold cutL
  rw [HT.sIx_nat, HT.sIx_none]
  by_cases h : n ≤ xs.length
  · rw [Nat.min_eq_left h, List.take_of_length_le (by rw [List.length_drop]; exact Nat.le_refl _)]
  · rw [Nat.min_eq_right (by omega), List.drop_of_length_le (Nat.le_refl _), List.drop_of_length_le (by omega)]
    rw [List.take_nil]
/-! ### drawing -/
structure Bag where
  cs : List Int
  p : Int
  c : Int
  s : Int
  n : Int
structure Bag.Ok (b : Bag) : Prop where
  p0 : 0 ≤ b.p
  s0 : 0 ≤ b.s
  s1 : b.s < 2147483629
def Bag.t (b : Bag) : T := .ol [.fz (.lst (b.cs.map D.int)), .fz (.int b.p), .fz (.int b.c), .fz (.int b.s), .fz (.int b.n)]
@[simp] theorem at0 {α : Type} {a b c d e : α} : atI [a, b, c, d, e] (0 : Int) = some a := rfl
@[simp] theorem at1 {α : Type} {a b c d e : α} : atI [a, b, c, d, e] (1 : Int) = some b := rfl
@[simp] theorem at2 {α : Type} {a b c d e : α} : atI [a, b, c, d, e] (2 : Int) = some c := rfl
@[simp] theorem at3 {α : Type} {a b c d e : α} : atI [a, b, c, d, e] (3 : Int) = some d := rfl
@[simp] theorem at4 {α : Type} {a b c d e : α} : atI [a, b, c, d, e] (4 : Int) = some e := rfl
@[simp] theorem ix50 : ixN 5 (0 : Int) = some 0 := rfl
@[simp] theorem ix51 : ixN 5 (1 : Int) = some 1 := rfl
@[simp] theorem ix52 : ixN 5 (2 : Int) = some 2 := rfl
@[simp] theorem ix53 : ixN 5 (3 : Int) = some 3 := rfl
@[simp] theorem ix54 : ixN 5 (4 : Int) = some 4 := rfl
theorem small_of {k : Int} (h0 : 0 ≤ k) (h1 : k < 18446744073709551616) : small64 k = true := by
  unfold small64
  rw [decide_eq_true (show -(2 ^ 64) < k by omega), decide_eq_true (show k < 2 ^ 64 by omega)]
  rfl
/-- the answer of a draw -/
def Drawn (m : Int) (o : Out T) : Prop := ∃ (r : Int) (b' : Bag) (Γ' : Env), b'.Ok ∧ 0 ≤ r ∧ r < m ∧ o = .ok (.fz (.int r)) (some b'.t :: Γ')
theorem drawn_mk {m r p c s n : Int} {cs : List Int} {Γ : Env} (h0 : 0 ≤ p) (h1 : 0 ≤ s) (h2 : s < 2147483629) (h3 : 0 ≤ r) (h4 : r < m) : Drawn m (.ok (.fz (.int r)) (some (.ol [.fz (.lst (cs.map D.int)), .fz (.int p), .fz (.int c), .fz (.int s), .fz (.int n)]) :: Γ)) := ⟨r, ⟨cs, p, c, s, n⟩, Γ, ⟨h0, h1, h2⟩, h3, h4, rfl⟩
@[simp] theorem isAl_bag {b : Bag} : b.t.isAl = false := by exact rfl
@[simp] theorem settle_bag {b : Bag} {Γ : Env} : settle b.t Γ = .ok b.t Γ := by exact rfl
theorem erase_map {α β : Type} {f : α → β} : ∀ {l : List α} {i : Nat}, (l.map f).eraseIdx i = (l.eraseIdx i).map f
  | [], _ => rfl
  | _ :: _, 0 => rfl
  | a :: l, i + 1 => by
    show f a :: (l.map f).eraseIdx i = f a :: (l.eraseIdx i).map f
    rw [erase_map]
@[simp] theorem rdV_bag {i : Nat} {Γ : Env} {b : Bag} : rdV i Γ (some (some b.t)) = .ok (.al i) Γ := rfl
/-! ### walks over lists -/
def enumF : Nat → List D → List D
  | _, [] => []
  | k, d :: ds => .tup [.int (k : Int), d] :: enumF (k + 1) ds
theorem enum_eq (ds : List D) : enumL ds = enumF 0 ds := by
  have h : ∀ (us vs : List D), ((List.range' us.length vs.length).filterMap fun i : Nat => (us ++ vs)[i]?.map fun d => D.tup [.int (i : Int), d]) = enumF us.length vs := by
    intro us vs
    induction vs generalizing us with
    | nil => rfl
    | cons v vs ih =>
      have e : (us ++ v :: vs)[us.length]? = some v := by
        rw [List.getElem?_append_right (Nat.le_refl _), Nat.sub_self]; rfl
      have ih' := ih (us ++ [v])
      rw [List.length_append, List.append_assoc] at ih'
      show ((us.length :: List.range' (us.length + 1) vs.length).filterMap _) = D.tup [.int (us.length : Int), v] :: enumF (us.length + 1) vs
      rw [List.filterMap_cons, e]
      exact congrArg (D.tup [.int (us.length : Int), v] :: ·) ih'
  have := h [] ds
  unfold enumL
  rw [List.range_eq_range']
  exact this
theorem rangeL_succ (lo : Int) (n : Nat) : rangeL lo (n + 1) = .int lo :: rangeL (lo + 1) n := by
  unfold rangeL
  rw [List.range_succ_eq_map, List.map_cons, List.map_map]
  congr 1
  · simp
  · apply List.map_congr_left
    intro i _
    show D.int (lo + ((i + 1 : Nat) : Int)) = D.int (lo + 1 + (i : Int))
    congr 1
    omega
@[simp] theorem rangeL_zero (lo : Int) : rangeL lo 0 = [] := rfl
theorem rng_nat {n : Nat} (h : n ≤ sizeLine) : rngOk 0 (n : Int) = true := by
  have : sizeLine ≤ 2 ^ 40 := by decide
  simp only [rngOk, Bool.and_eq_true, decide_eq_true_eq]
  omega
theorem atI_ints {xs : List Int} {i : Nat} {x : Int} (h : xs[i]? = some x) : atI (xs.map D.int) (i : Int) = some (.int x) := by
  refine atI_of (by omega) ?_
  rw [Int.toNat_natCast, List.getElem?_map, h]
  rfl
@[simp] theorem ev_wipe0 {Γ : Env} : wipeE Γ [] = Γ := by exact rfl
@[simp] theorem ev_wipe1 {Γ : Env} {i : Nat} {is : List Nat} : wipeE Γ (i :: is) = (wipeE Γ is).set i none := by exact rfl
@[simp] theorem ev_turnT {vs : List Nat} {g : D → M Unit} {fe : M T} {d : D} {Γ : Env} : turnL vs g (retM true) fe d Γ = (g d Γ).bind fun _ => bindM (noX (fzD fe)) fun e => fun Γ => .ok (some e) (wipeE Γ vs) := by
  show (g d Γ).bind (fun _ => bindM (noX (retM true)) fun b => bindM (if b then bindM (noX (fzD fe)) fun e => retM (some e) else retM none) fun o => fun Γ => .ok o (wipeE Γ vs)) = _
  congr 1
  funext _ Γ
  show ((noX (fzD fe) Γ).bind fun e => retM (some e)).bind _ = (noX (fzD fe) Γ).bind _
  cases noX (fzD fe) Γ <;> exact rfl
def trues (n : Nat) : List D := List.replicate n (.bl true)
@[simp] theorem all_trues {n : Nat} : allD [.lst (trues n)] = some (.bl true) := by
  have h : bools (trues n) = some (List.replicate n true) := by
    induction n with
    | zero => exact rfl
    | succ n ih =>
      show bools (.bl true :: trues n) = _
      unfold bools
      rw [ih]
      exact rfl
  show (bools (trues n)).map _ = _
  rw [h]
  show some (D.bl ((List.replicate n true).all id)) = _
  congr 2
  rw [List.all_eq_true]
  intro x hx
  exact (List.eq_of_mem_replicate hx)
mutual
/-- plain data, of a depth, to be looked through -/
def D.sm : Nat → D → Bool
  | _, .non => true
  | _, .bl _ => true
  | _, .int _ => true
  | _, .str x => PyData.strOk x
  | n + 1, .lst xs => decide (xs.length ≤ sizeLine) && D.sms n xs
  | n + 1, .tup xs => decide (xs.length ≤ sizeLine) && D.sms n xs
  | _, _ => false
def D.sms : Nat → List D → Bool
  | _, [] => true
  | n, x :: xs => D.sm n x && D.sms n xs
end
theorem D.sms_mem {n : Nat} : ∀ {xs : List D} {x : D}, D.sms n xs = true → x ∈ xs → D.sm n x = true
  | y :: ys, x, h, hx => by
    unfold D.sms at h
    rw [Bool.and_eq_true] at h
    cases hx with
    | head => exact h.1
    | tail _ hx => exact D.sms_mem h.2 hx
@[simp] theorem ev_eqS {x : Str} (h : PyData.strOk x = true) : eqD (.str x) (.str x) = some (.bl true) := by
  have e : D.fit 64 (.str x) = true := by unfold D.fit; exact h
  unfold eqD
  rw [e]
  show some (D.bl (x == x)) = _
  rw [beq_self_eq_true]
@[simp] theorem ev_ty1 : D.ty .non = some "NoneType" := by exact rfl
@[simp] theorem ev_ty2 {b : Bool} : D.ty (.bl b) = some "bool" := by exact rfl
@[simp] theorem ev_ty3 {k : Int} : D.ty (.int k) = some "int" := by exact rfl
@[simp] theorem ev_ty4 {s : Str} : D.ty (.str s) = some "str" := by exact rfl
@[simp] theorem ev_ty5 {ds : List D} : D.ty (.lst ds) = some "list" := by exact rfl
@[simp] theorem ev_ty6 {ds : List D} : D.ty (.tup ds) = some "tuple" := by exact rfl
@[simp] theorem sms_nil {n : Nat} : D.sms n [] = true := by unfold D.sms; exact rfl
@[simp] theorem sms_cons {n : Nat} {x : D} {xs : List D} : D.sms n (x :: xs) = (D.sm n x && D.sms n xs) := by rw [D.sms]
@[simp] theorem sm_int {n : Nat} {k : Int} : D.sm n (.int k) = true := by unfold D.sm; exact rfl
@[simp] theorem sm_bl {n : Nat} {k : Bool} : D.sm n (.bl k) = true := by unfold D.sm; exact rfl
@[simp] theorem sm_non {n : Nat} : D.sm n .non = true := by unfold D.sm; exact rfl
@[simp] theorem sm_lst {n : Nat} {xs : List D} : D.sm (n + 1) (.lst xs) = (decide (xs.length ≤ sizeLine) && D.sms n xs) := by rw [D.sm]
@[simp] theorem sm_tup {n : Nat} {xs : List D} : D.sm (n + 1) (.tup xs) = (decide (xs.length ≤ sizeLine) && D.sms n xs) := by rw [D.sm]
/-- a loop by an invariant, the count bounded -/
theorem loop_invB {S : Type} (G : S → Env) (I : Nat → S → Prop) {g : D → M Unit} {body : M Flow} : ∀ (ds : List D) (k : Nat) (s : S), I k s → (∀ j s d, ds[j]? = some d → I (k + j) s → ∃ s', I (k + j + 1) s' ∧ ((g d (G s)).bind fun _ => body) = .ok .next (G s')) → ∃ s', I (k + ds.length) s' ∧ loopM g body ds (G s) = .ok .next (G s')
  | [], k, s, hI, _ => ⟨s, hI, rfl⟩
  | d :: ds, k, s, hI, h => by
    obtain ⟨s1, h1, h2⟩ := h 0 s d rfl hI
    obtain ⟨s2, h3, h4⟩ := loop_invB G I ds (k + 1) s1 h1 fun j s d hd hi => by
      have := h (j + 1) s d hd (by rw [show k + (j + 1) = k + 1 + j by omega]; exact hi)
      rw [show k + (j + 1) + 1 = k + 1 + j + 1 by omega] at this
      exact this
    refine ⟨s2, by rw [List.length_cons, show k + (ds.length + 1) = k + 1 + ds.length by omega]; exact h3, ?_⟩
    show ((g d (G s)).bind fun _ => bindM body fun fl => _) = _
    cases e : g d (G s) with
    | ok u Γ1 =>
      rw [e] at h2
      have h5 : body Γ1 = .ok .next (G s1) := h2
      show (body Γ1).bind _ = _
      rw [h5]
      exact h4
    | exc x Γ1 => rw [e] at h2; cases h2
    | bad => rw [e] at h2; cases h2
theorem rangeL_get {lo : Int} {n j : Nat} {d : D} (h : (rangeL lo n)[j]? = some d) : j < n ∧ d = .int (lo + (j : Int)) := by
  have h1 := (List.getElem?_eq_some_iff.mp h).1
  have h2 := (List.getElem?_eq_some_iff.mp h).2
  have hj : j < n := by simpa [rangeL] using h1
  refine ⟨hj, ?_⟩
  rw [← h2]
  simp [rangeL]
@[simp] theorem rangeL_length {lo : Int} {n : Nat} : (rangeL lo n).length = n := by simp [rangeL]
/-! ### the end -/
theorem sp_law {K : PySem.W.Frag} {cl : Str → Option Addr} {F : FSem} {H : Hp} {a : Addr} {ns : List Int} (hS : SqL K H a (ns.map V.int)) (hl : ns.length ≤ 63) (g : Gives (F [.fz (.scr ns)]) (.fz (.bl true))) : spOf K cl 1 false F [.ref a] H (fun v _ => v = .bl true) (fun _ _ _ => False) := by
  obtain ⟨Γ, e⟩ := g
  refine ⟨rfl, H, fun _ => False, [.fz (.scr ns)], Sub.refl _, (fun _ h => h.elim), (fun _ _ h => h), ⟨[.scr ns], rfl, .cons (.scr hS (Nat.le_trans hl (by decide))) .nil⟩, ?_⟩
  rw [e]
  refine ⟨fun i h => (nomatch h), fun v H' F' S0 Sr _ ho _ => ?_⟩
  cases ho with
  | fz h => cases h; rfl
theorem cx_no {P : Program} {w : World} {H : Hp} {s s' : Shared} {e : Value} (h : L2.CX P w [] H s (fun _ _ _ => False) e s') : False := by
  obtain ⟨_, _, _, _, _, _, _, _, _, _, _, _, h⟩ := h
  exact h
end DL
set_option maxHeartbeats 4000000
namespace DL
open PySem L2
def topS (i : Nat) : Stmt := PySem.Challenge.pw_signcleave_k03_signs_of_orders.main.body.getD i (.Pass ⟨0, 0, 0, 0⟩)
abbrev s_order_sign : Stmt := topS 1
abbrev N_order_sign : List Str := ["row", "found", "at", "one", "other"]
theorem sc_order_sign : FnScope N_order_sign ["row"] (defScope s_order_sign) := ⟨rfl, rfl, rfl, by decide +kernel, rfl, by decide +kernel, by decide +kernel⟩
abbrev s__law_bag : Stmt := topS 3
abbrev N__law_bag : List Str := ["_law_script", "_law_salt", "_law_cell"]
theorem sc__law_bag : FnScope N__law_bag ["_law_script"] (defScope s__law_bag) := ⟨rfl, rfl, rfl, by decide +kernel, rfl, by decide +kernel, by decide +kernel⟩
abbrev s__law_pull : Stmt := topS 4
abbrev N__law_pull : List Str := ["_law_bag_here", "_law_many", "_law_cell", "_law_got", "_law_base", "_law_twice"]
theorem sc__law_pull : FnScope N__law_pull ["_law_bag_here", "_law_many"] (defScope s__law_pull) := ⟨rfl, rfl, rfl, by decide +kernel, rfl, by decide +kernel, by decide +kernel⟩
abbrev s__law_of : Stmt := topS 5
abbrev N__law_of : List Str := ["_law_bag_here", "_law_some"]
theorem sc__law_of : FnScope N__law_of ["_law_bag_here", "_law_some"] (defScope s__law_of) := ⟨rfl, rfl, rfl, by decide +kernel, rfl, by decide +kernel, by decide +kernel⟩
abbrev s__law_same : Stmt := topS 6
abbrev N__law_same : List Str := ["_law_found", "_law_due", "_law_k"]
theorem sc__law_same : FnScope N__law_same ["_law_found", "_law_due"] (defScope s__law_same) := ⟨rfl, rfl, rfl, by decide +kernel, rfl, by decide +kernel, by decide +kernel⟩
abbrev s__law_order : Stmt := topS 7
abbrev N__law_order : List Str := ["_law_row9", "_law_found", "_law_k", "_law_j"]
theorem sc__law_order : FnScope N__law_order ["_law_row9"] (defScope s__law_order) := ⟨rfl, rfl, rfl, by decide +kernel, rfl, by decide +kernel, by decide +kernel⟩
abbrev s_law : Stmt := topS 8
abbrev N_law : List Str := ["_law_script", "_law_bag_here", "_law_turn", "_law_row9", "_law_k", "_law_handed", "_law_due", "_law_j", "_law_left"]
theorem sc_law : FnScope N_law ["_law_script"] (defScope s_law) := ⟨rfl, rfl, rfl, by decide +kernel, rfl, by decide +kernel, by decide +kernel⟩
structure Tp (K : PySem.W.Frag) (mg : Str → Option Value) where
  f_order_sign : Addr
  fd_order_sign : FuncData
  F_order_sign : Fun K "order_sign" "order_sign" s_order_sign f_order_sign fd_order_sign
  g_order_sign : mg "order_sign" = some (.ref f_order_sign)
  b_order_sign : Binds K fd_order_sign ["row"] []
  f__law_bag : Addr
  fd__law_bag : FuncData
  F__law_bag : Fun K "_law_bag" "_law_bag" s__law_bag f__law_bag fd__law_bag
  g__law_bag : mg "_law_bag" = some (.ref f__law_bag)
  b__law_bag : Binds K fd__law_bag ["_law_script"] []
  f__law_pull : Addr
  fd__law_pull : FuncData
  F__law_pull : Fun K "_law_pull" "_law_pull" s__law_pull f__law_pull fd__law_pull
  g__law_pull : mg "_law_pull" = some (.ref f__law_pull)
  b__law_pull : Binds K fd__law_pull ["_law_bag_here", "_law_many"] []
  f__law_of : Addr
  fd__law_of : FuncData
  F__law_of : Fun K "_law_of" "_law_of" s__law_of f__law_of fd__law_of
  g__law_of : mg "_law_of" = some (.ref f__law_of)
  b__law_of : Binds K fd__law_of ["_law_bag_here", "_law_some"] []
  f__law_same : Addr
  fd__law_same : FuncData
  F__law_same : Fun K "_law_same" "_law_same" s__law_same f__law_same fd__law_same
  g__law_same : mg "_law_same" = some (.ref f__law_same)
  b__law_same : Binds K fd__law_same ["_law_found", "_law_due"] []
  f__law_order : Addr
  fd__law_order : FuncData
  F__law_order : Fun K "_law_order" "_law_order" s__law_order f__law_order fd__law_order
  g__law_order : mg "_law_order" = some (.ref f__law_order)
  b__law_order : Binds K fd__law_order ["_law_row9"] []
  f_law : Addr
  fd_law : FuncData
  F_law : Fun K "law" "law" s_law f_law fd_law
  g_law : mg "law" = some (.ref f_law)
  b_law : Binds K fd_law ["_law_script"] []
  m_all : mg "all" = none
  m_bool : mg "bool" = none
  m_enumerate : mg "enumerate" = none
  m_int : mg "int" = none
  m_isinstance : mg "isinstance" = none
  m_len : mg "len" = none
  m_list : mg "list" = none
  m_range : mg "range" = none
  m_str : mg "str" = none
  m_tuple : mg "tuple" = none
section
variable {P : Program} {w : World} {K : PySem.W.Frag} {mg : Str → Option Value} {base : Heap} {cl : Str → Option Addr}
theorem kb_order_sign_0_row (E : Tp K mg) : ∀ (s : Shared) (us ws : List Value), us.length = 0 → ws.length = [("row" : Str)].length → BindsTo s E.fd_order_sign ⟨us, [("row" : Str)].zip ws⟩ ([("row" : Str)].zip (pick [0] (us ++ ws))) :=
  kbinds_of E.F_order_sign fun _ _ _ _ _ _ us ws h1 h2 => match us, ws, h1, h2 with | [], [_], _, _ => rfl
def den_order_sign : M Flow :=
  (seqM (setM 1 (constM (.int 1)))
    (seqM (forM (enumIt (varM 0)) (tupG [2, 3])
    (forM (seqIt (sliceM (varM 0) (partM (addM (varM 2) (constM (.int 1)))) (retM none))) (nameG 4)
    (setM 1 (ifM (boolM (op2 eqD (varM 3) (varM 4))) (constM (.int 0)) (ifM (boolM (op2 gtD (varM 3) (varM 4))) (op2 subD (constM (.int 0)) (varM 1)) (varM 1))))))
    (retS (varM 1))))
def F_order_sign : FSem := callF 5 den_order_sign
theorem ok_order_sign (E : Tp K mg) : FnOk P w K mg base (L2.CX P w) 1 E.f_order_sign E.fd_order_sign ["row"] (spOf K cl 1 false F_order_sign) :=
  fun_okD (k := 0) (den := den_order_sign) (cv := cvOf []) E.F_order_sign sc_order_sign rfl rfl fun cdv A outer s H vs Ex hr H0 F0 mu => by
  have tk := takes_of (X := cxOf (L2.CX P w) P w K mg base N_order_sign "order_sign" (defScope s_order_sign) E.f_order_sign cdv A outer s H Ex) rfl rfl rfl rfl
  have po := passes_of (X := cxOf (L2.CX P w) P w K mg base N_order_sign "order_sign" (defScope s_order_sign) E.f_order_sign cdv A outer s H Ex) rfl
  exact (ds_cons (ds_set (i := 1) sc_order_sign.nd rfl (by first | exact Or.inl rfl | exact Or.inr rfl) rfl de_int)
    (ds_cons (ds_for po rfl (quiet_tup [2, 3]) (di_enum rfl (by rfl) E.m_enumerate (de_var 0 rfl)) (dg_tup [2, 3] rfl rfl (List.forall_mem_cons.mpr ⟨rfl, (List.forall_mem_cons.mpr ⟨rfl, (fun _ h => nomatch h)⟩)⟩) (pg_tup rfl (pgs_cons (pg_name (i := 2) sc_order_sign.nd rfl (by first | exact Or.inl rfl | exact Or.inr rfl)) (pgs_cons (pg_name (i := 3) sc_order_sign.nd rfl (by first | exact Or.inl rfl | exact Or.inr rfl)) pgs_nil))))
    (ds_one (ds_for po rfl (quiet_name 4) (di_seq rfl (de_slice rfl (de_var 0 rfl) (do_some (de_add rfl (de_var 2 rfl) de_int)) do_none)) (dg_name (i := 4) rfl sc_order_sign.nd rfl (by first | exact Or.inl rfl | exact Or.inr rfl))
    (ds_one (ds_set (i := 1) sc_order_sign.nd rfl (by first | exact Or.inl rfl | exact Or.inr rfl) rfl (de_if (dt_cmp (op_eqD hr.units) sc_eq (de_var 3 rfl) (de_var 4 rfl) (nomark _)) de_int (de_if (dt_cmp op_gt sc_gt (de_var 3 rfl) (de_var 4 rfl) (nomark _)) (de_op op_sub sc_sub de_int (de_var 1 rfl)) (de_var 1 rfl))))))))
    (ds_one (ds_ret (de_var 1 rfl)))))
def den__law_bag : M Flow :=
  (seqM (setM 1 (constM (.int 977)))
    (seqM (forM (seqIt (sliceM (varM 0) (retM none) (partM (constM (.int 63))))) (nameG 2)
    (setM 1 (op2 modD (addM (addM (mulM (varM 1) (constM (.int 60013))) (varM 2)) (constM (.int 5))) (constM (.int 2147483629)))))
    (retS (lstM (argsM [(frozen (listM (sliceM (varM 0) (retM none) (partM (constM (.int 63)))))), (constM (.int 0)), (constM (.int 0)), (frozen (varM 1)), (constM (.int 0))])))))
def F__law_bag : FSem := callF 3 den__law_bag
theorem ok__law_bag (E : Tp K mg) : FnOk P w K mg base (L2.CX P w) 1 E.f__law_bag E.fd__law_bag ["_law_script"] (spOf K cl 1 false F__law_bag) :=
  fun_okD (k := 0) (den := den__law_bag) (cv := cvOf []) E.F__law_bag sc__law_bag rfl rfl fun cdv A outer s H vs Ex hr H0 F0 mu => by
  have tk := takes_of (X := cxOf (L2.CX P w) P w K mg base N__law_bag "_law_bag" (defScope s__law_bag) E.f__law_bag cdv A outer s H Ex) rfl rfl rfl rfl
  have po := passes_of (X := cxOf (L2.CX P w) P w K mg base N__law_bag "_law_bag" (defScope s__law_bag) E.f__law_bag cdv A outer s H Ex) rfl
  exact (ds_cons (ds_set (i := 1) sc__law_bag.nd rfl (by first | exact Or.inl rfl | exact Or.inr rfl) rfl de_int)
    (ds_cons (ds_for po rfl (quiet_name 2) (di_seq rfl (de_slice rfl (de_var 0 rfl) do_none (do_some de_int))) (dg_name (i := 2) rfl sc__law_bag.nd rfl (by first | exact Or.inl rfl | exact Or.inr rfl))
    (ds_one (ds_set (i := 1) sc__law_bag.nd rfl (by first | exact Or.inl rfl | exact Or.inr rfl) rfl (de_op op_mod sc_mod (de_add rfl (de_add rfl (de_mul (de_var 1 rfl) de_int) (de_var 2 rfl)) de_int) de_int))))
    (ds_one (ds_ret (de_lst (da_cons (da_frz (de_list rfl (by rfl) E.m_list (de_slice rfl (de_var 0 rfl) do_none (do_some de_int)))) (da_cons de_int (da_cons de_int (da_cons (da_frz (de_var 1 rfl)) (da_cons de_int da_nil))))))))))
def den__law_pull : M Flow :=
  (seqM (ifS (andM (boolM (op2 ltD (ixA (varM 0) (constM (.int 2))) (constM (.int 1)))) (boolM (op2 ltD (ixA (varM 0) (constM (.int 1))) (callD lenD (argsM [(ixA (varM 0) (constM (.int 0)))]))))) (seqM (setM 2 (ixA (ixA (varM 0) (constM (.int 0))) (ixA (varM 0) (constM (.int 1)))))
    (seqM (asgM (addM (ixA (varM 0) (constM (.int 1))) (constM (.int 1))) (subG (varM 0) (constM (.int 1))))
    (ifS (boolM (op2 geD (varM 2) (op2 powD (constM (.int 10)) (constM (.int 18))))) (asgM (varM 2) (subG (varM 0) (constM (.int 2)))) (asgM (op2 modD (addM (addM (mulM (ixA (varM 0) (constM (.int 3))) (constM (.int 31337))) (op2 modD (varM 2) (constM (.int 2147483587)))) (constM (.int 7))) (constM (.int 2147483629))) (subG (varM 0) (constM (.int 3))))))) skipM)
    (seqM (ifS (boolM (op2 gtD (ixA (varM 0) (constM (.int 2))) (constM (.int 0)))) (seqM (setM 3 (op2 modD (ixA (varM 0) (constM (.int 2))) (varM 1)))
    (seqM (asgM (op2 divD (ixA (varM 0) (constM (.int 2))) (varM 1)) (subG (varM 0) (constM (.int 2))))
    (retS (varM 3)))) skipM)
    (seqM (asgM (addM (ixA (varM 0) (constM (.int 4))) (constM (.int 1))) (subG (varM 0) (constM (.int 4))))
    (seqM (setM 4 (op2 modD (addM (ixA (varM 0) (constM (.int 3))) (mulM (ixA (varM 0) (constM (.int 4))) (constM (.int 6151)))) (constM (.int 2147483629))))
    (seqM (setM 5 (mulM (op2 modD (mulM (varM 4) (varM 4)) (constM (.int 2147483587))) (addM (op2 modD (varM 4) (constM (.int 40009))) (constM (.int 3)))))
    (seqM (asgM (op2 modD (addM (addM (varM 5) (mulM (constM (.int 30013)) (varM 4))) (constM (.int 811))) (constM (.int 2147483629))) (subG (varM 0) (constM (.int 3))))
    (retS (op2 modD (addM (op2 divD (ixA (varM 0) (constM (.int 3))) (constM (.int 67))) (mulM (op2 modD (ixA (varM 0) (constM (.int 3))) (constM (.int 8209))) (constM (.int 37)))) (varM 1)))))))))
def F__law_pull : FSem := callF 6 den__law_pull
theorem ok__law_pull (E : Tp K mg) : FnOk P w K mg base (L2.CX P w) 1 E.f__law_pull E.fd__law_pull ["_law_bag_here", "_law_many"] (spOf K cl 2 true F__law_pull) :=
  fun_okD (k := 0) (den := den__law_pull) (cv := cvOf []) E.F__law_pull sc__law_pull rfl rfl fun cdv A outer s H vs Ex hr H0 F0 mu => by
  have tk := takes_of (X := cxOf (L2.CX P w) P w K mg base N__law_pull "_law_pull" (defScope s__law_pull) E.f__law_pull cdv A outer s H Ex) rfl rfl rfl rfl
  have po := passes_of (X := cxOf (L2.CX P w) P w K mg base N__law_pull "_law_pull" (defScope s__law_pull) E.f__law_pull cdv A outer s H Ex) rfl
  exact (ds_cons (ds_if (PW.pt (dw_and (dt_cmp op_lt sc_lt (de_ixA rfl (de_var 0 rfl) de_int) de_int (nomark _)) (dw_and1 (dt_cmp op_lt sc_lt (de_ixA rfl (de_var 0 rfl) de_int) (de_callB cr_lenD sc_len (by rfl) E.m_len PySem.boot_len (da_cons (de_ixA rfl (de_var 0 rfl) de_int) da_nil)) (nomark _))))) (ds_cons (ds_set (i := 2) sc__law_pull.nd rfl (by first | exact Or.inl rfl | exact Or.inr rfl) rfl (de_ixA rfl (de_ixA rfl (de_var 0 rfl) de_int) (de_ixA rfl (de_var 0 rfl) de_int)))
    (ds_cons (ds_asg (quiet_sub (varM 0) (constM (.int 1))) (de_add rfl (de_ixA rfl (de_var 0 rfl) de_int) de_int) (dg_sub (W := WE' Ex) (de_var 0 rfl) de_int))
    (ds_one (ds_if (dt_cmp op_ge sc_ge (de_var 2 rfl) (de_op op_pow sc_pow de_int de_int) (nomark _)) (ds_one (ds_asg (quiet_sub (varM 0) (constM (.int 2))) (de_var 2 rfl) (dg_sub (W := WE' Ex) (de_var 0 rfl) de_int))) (ds_one (ds_asg (quiet_sub (varM 0) (constM (.int 3))) (de_op op_mod sc_mod (de_add rfl (de_add rfl (de_mul (de_ixA rfl (de_var 0 rfl) de_int) de_int) (de_op op_mod sc_mod (de_var 2 rfl) de_int)) de_int) de_int) (dg_sub (W := WE' Ex) (de_var 0 rfl) de_int))))))) ds_nil)
    (ds_cons (ds_if (dt_cmp op_gt sc_gt (de_ixA rfl (de_var 0 rfl) de_int) de_int (nomark _)) (ds_cons (ds_set (i := 3) sc__law_pull.nd rfl (by first | exact Or.inl rfl | exact Or.inr rfl) rfl (de_op op_mod sc_mod (de_ixA rfl (de_var 0 rfl) de_int) (de_var 1 rfl)))
    (ds_cons (ds_asg (quiet_sub (varM 0) (constM (.int 2))) (de_op op_fdiv sc_div (de_ixA rfl (de_var 0 rfl) de_int) (de_var 1 rfl)) (dg_sub (W := WE' Ex) (de_var 0 rfl) de_int))
    (ds_one (ds_ret (de_var 3 rfl))))) ds_nil)
    (ds_cons (ds_asg (quiet_sub (varM 0) (constM (.int 4))) (de_add rfl (de_ixA rfl (de_var 0 rfl) de_int) de_int) (dg_sub (W := WE' Ex) (de_var 0 rfl) de_int))
    (ds_cons (ds_set (i := 4) sc__law_pull.nd rfl (by first | exact Or.inl rfl | exact Or.inr rfl) rfl (de_op op_mod sc_mod (de_add rfl (de_ixA rfl (de_var 0 rfl) de_int) (de_mul (de_ixA rfl (de_var 0 rfl) de_int) de_int)) de_int))
    (ds_cons (ds_set (i := 5) sc__law_pull.nd rfl (by first | exact Or.inl rfl | exact Or.inr rfl) rfl (de_mul (de_op op_mod sc_mod (de_mul (de_var 4 rfl) (de_var 4 rfl)) de_int) (de_add rfl (de_op op_mod sc_mod (de_var 4 rfl) de_int) de_int)))
    (ds_cons (ds_asg (quiet_sub (varM 0) (constM (.int 3))) (de_op op_mod sc_mod (de_add rfl (de_add rfl (de_var 5 rfl) (de_mul de_int (de_var 4 rfl))) de_int) de_int) (dg_sub (W := WE' Ex) (de_var 0 rfl) de_int))
    (ds_one (ds_ret (de_op op_mod sc_mod (de_add rfl (de_op op_fdiv sc_div (de_ixA rfl (de_var 0 rfl) de_int) de_int) (de_mul (de_op op_mod sc_mod (de_ixA rfl (de_var 0 rfl) de_int) de_int) de_int)) (de_var 1 rfl))))))))))
def den__law_of : M Flow :=
  (retS (ixA (varM 1) (callR F__law_pull (argsM [(varM 0), (frozen (callD lenD (argsM [(varM 1)])))]))))
def F__law_of : FSem := callF 2 den__law_of
theorem ok__law_of (E : Tp K mg) : FnOk P w K mg base (L2.CX P w) 2 E.f__law_of E.fd__law_of ["_law_bag_here", "_law_some"] (spOf K cl 2 true F__law_of) :=
  fun_okD (k := 1) (den := den__law_of) (cv := cvOf []) E.F__law_of sc__law_of rfl rfl fun cdv A outer s H vs Ex hr H0 F0 mu => by
  have tk := takes_of (X := cxOf (L2.CX P w) P w K mg base N__law_of "_law_of" (defScope s__law_of) E.f__law_of cdv A outer s H Ex) rfl rfl rfl rfl
  have po := passes_of (X := cxOf (L2.CX P w) P w K mg base N__law_of "_law_of" (defScope s__law_of) E.f__law_of cdv A outer s H Ex) rfl
  exact (ds_one (ds_ret (de_ixA rfl (de_var 1 rfl) (de_callR rfl tk (ok__law_pull E) (hr.mono (by decide)) (by rfl) E.g__law_pull E.F__law_pull.kp E.b__law_pull (da_cons (de_var 0 rfl) (da_cons (da_frz (de_callB cr_lenD sc_len (by rfl) E.m_len PySem.boot_len (da_cons (de_var 1 rfl) da_nil))) da_nil)) (fun _ _ _ q => argsM_len q)))))
def den__law_same (rec : FSem) : M Flow :=
  (seqM (ifS (orM (boolM (op2 isNonD (varM 1) (constM .non))) (boolM (op2 isNonD (varM 0) (constM .non)))) (retS (andV (op2 isNonD (varM 0) (constM .non)) (op2 isNonD (varM 1) (constM .non)))) skipM)
    (seqM (ifS (orM (boolM (isiM ["bool"] (varM 1))) (boolM (isiM ["bool"] (varM 0)))) (retS (andV (isiM ["bool"] (varM 1)) (andV (isiM ["bool"] (varM 0)) (op2 eqD (varM 0) (varM 1))))) skipM)
    (seqM (ifS (boolM (isiM ["int", "str"] (varM 1))) (retS (andV (isiM ["int", "str"] (varM 0)) (andV (op2 eqD (isiM ["int"] (varM 0)) (isiM ["int"] (varM 1))) (op2 eqD (varM 0) (varM 1))))) skipM)
    (seqM (ifS (orM (boolM (op2 neD (isiM ["list"] (varM 0)) (isiM ["list"] (varM 1)))) (boolM (op2 neD (isiM ["tuple"] (varM 0)) (isiM ["tuple"] (varM 1))))) (retS (constM (.bl false))) skipM)
    (retS (andV (op2 eqD (callD lenD (argsM [(varM 0)])) (callD lenD (argsM [(varM 1)]))) (callD allD (argsM [(compM [2] (range1 (callD lenD (argsM [(varM 1)]))) (nameG 2) (retM true) (call0 rec (argsM [(frozen (ixA (varM 0) (varF 2))), (frozen (ixA (varM 1) (varF 2)))])))]))))))))
def F__law_same : Nat → FSem
  | 0 => fun _ => .bad
  | k + 1 => callF 3 (den__law_same (F__law_same k))
theorem ok__law_same (E : Tp K mg) : ∀ d : Nat, FnOk P w K mg base (L2.CX P w) (d + 1) E.f__law_same E.fd__law_same ["_law_found", "_law_due"] (spOf K cl 2 false (F__law_same d))
  | 0 => fn_bad rfl
  | d + 1 => fun_okD (k := d + 1) (den := den__law_same (F__law_same d)) (cv := cvOf [2]) E.F__law_same sc__law_same rfl rfl fun cdv A outer s H vs Ex hr H0 F0 mu => by
    have tk := takes_of (X := cxOf (L2.CX P w) P w K mg base N__law_same "_law_same" (defScope s__law_same) E.f__law_same cdv A outer s H Ex) rfl rfl rfl rfl
    have po := passes_of (X := cxOf (L2.CX P w) P w K mg base N__law_same "_law_same" (defScope s__law_same) E.f__law_same cdv A outer s H Ex) rfl
    have ih := ok__law_same E d
    exact (ds_cons (ds_if (PW.pt (dw_or (dt_cmp op_isN sc_isN (de_var 1 rfl) de_non (nomark _)) (dw_or1 (dt_cmp op_isN sc_isN (de_var 0 rfl) de_non (nomark _))))) (ds_one (ds_ret (de_and (de_cmp op_isN sc_isN (de_var 0 rfl) de_non (nomark _)) (de_one (de_cmp op_isN sc_isN (de_var 1 rfl) de_non (nomark _)))))) ds_nil)
    (ds_cons (ds_if (PW.pt (dw_or (dt_val (de_isi rfl (by decide +kernel) (by rfl) E.m_isinstance (by rfl) E.m_bool (by decide +kernel) (de_var 1 rfl))) (dw_or1 (dt_val (de_isi rfl (by decide +kernel) (by rfl) E.m_isinstance (by rfl) E.m_bool (by decide +kernel) (de_var 0 rfl)))))) (ds_one (ds_ret (de_and (de_isi rfl (by decide +kernel) (by rfl) E.m_isinstance (by rfl) E.m_bool (by decide +kernel) (de_var 1 rfl)) (de_and (de_isi rfl (by decide +kernel) (by rfl) E.m_isinstance (by rfl) E.m_bool (by decide +kernel) (de_var 0 rfl)) (de_one (de_cmp (op_eqD hr.units) sc_eq (de_var 0 rfl) (de_var 1 rfl) (nomark _))))))) ds_nil)
    (ds_cons (ds_if (dt_val (de_isi2 rfl (by decide +kernel) (by decide +kernel) (by rfl) E.m_isinstance (by rfl) E.m_int (by decide +kernel) (by rfl) E.m_str (by decide +kernel) (de_var 1 rfl))) (ds_one (ds_ret (de_and (de_isi2 rfl (by decide +kernel) (by decide +kernel) (by rfl) E.m_isinstance (by rfl) E.m_int (by decide +kernel) (by rfl) E.m_str (by decide +kernel) (de_var 0 rfl)) (de_and (de_cmp (op_eqD hr.units) sc_eq (de_isi rfl (by decide +kernel) (by rfl) E.m_isinstance (by rfl) E.m_int (by decide +kernel) (de_var 0 rfl)) (de_isi rfl (by decide +kernel) (by rfl) E.m_isinstance (by rfl) E.m_int (by decide +kernel) (de_var 1 rfl)) (nomark _)) (de_one (de_cmp (op_eqD hr.units) sc_eq (de_var 0 rfl) (de_var 1 rfl) (nomark _))))))) ds_nil)
    (ds_cons (ds_if (PW.pt (dw_or (dt_cmp (op_neD hr.units) sc_ne (de_isi rfl (by decide +kernel) (by rfl) E.m_isinstance (by rfl) E.m_list (by decide +kernel) (de_var 0 rfl)) (de_isi rfl (by decide +kernel) (by rfl) E.m_isinstance (by rfl) E.m_list (by decide +kernel) (de_var 1 rfl)) (nomark _)) (dw_or1 (dt_cmp (op_neD hr.units) sc_ne (de_isi rfl (by decide +kernel) (by rfl) E.m_isinstance (by rfl) E.m_tuple (by decide +kernel) (de_var 0 rfl)) (de_isi rfl (by decide +kernel) (by rfl) E.m_isinstance (by rfl) E.m_tuple (by decide +kernel) (de_var 1 rfl)) (nomark _))))) (ds_one (ds_ret de_bl)) ds_nil)
    (ds_one (ds_ret (de_and (de_cmp (op_eqD hr.units) sc_eq (de_callB cr_lenD sc_len (by rfl) E.m_len PySem.boot_len (da_cons (de_var 0 rfl) da_nil)) (de_callB cr_lenD sc_len (by rfl) E.m_len PySem.boot_len (da_cons (de_var 1 rfl) da_nil)) (nomark _)) (de_one (de_callB (cr_all rfl) sc_all (by rfl) E.m_all (by decide +kernel) (da_cons (de_comp (own := [("_law_k", 2)]) rfl sc__law_same.nd (List.forall_mem_cons.mpr ⟨⟨rfl, rfl⟩, (fun _ h => nomatch h)⟩) (fun _ h => h) (quiet_name 2) (di_range1 (by rfl) E.m_range (de_callB cr_lenD sc_len (by rfl) E.m_len PySem.boot_len (da_cons (de_var 1 rfl) da_nil))) (blkOk_by (N := N__law_same) (sc := defScope s__law_same) (by decide +kernel)) (fun _ _ _ _ _ => (dg_name (i := 2) rfl sc__law_same.nd rfl (by first | exact Or.inl rfl | exact Or.inr rfl))) (fun _ _ _ _ _ => dts_nil) (fun _ _ _ _ _ => (de_call rfl takes0 ih hr (by rfl) E.g__law_same E.F__law_same.kp E.b__law_same (da_cons (da_frz (de_ixA rfl (de_var 0 rfl) (de_varF 2))) (da_cons (da_frz (de_ixA rfl (de_var 1 rfl) (de_varF 2))) da_nil)) (fun _ _ _ q => argsM_len q)))) da_nil))))))))))
def den__law_order : M Flow :=
  (seqM (setM 1 (constM (.int 1)))
    (seqM (forM (range1 (callD lenD (argsM [(varM 0)]))) (nameG 2)
    (forM (range1 (varM 2)) (nameG 3)
    (seqM (ifS (boolM (op2 eqD (ixA (varM 0) (varM 3)) (ixA (varM 0) (varM 2)))) (retS (constM (.int 0))) skipM)
    (ifS (boolM (op2 gtD (ixA (varM 0) (varM 3)) (ixA (varM 0) (varM 2)))) (setM 1 (op2 subD (constM (.int 0)) (varM 1))) skipM))))
    (retS (varM 1))))
def F__law_order : FSem := callF 4 den__law_order
theorem ok__law_order (E : Tp K mg) : FnOk P w K mg base (L2.CX P w) 1 E.f__law_order E.fd__law_order ["_law_row9"] (spOf K cl 1 false F__law_order) :=
  fun_okD (k := 0) (den := den__law_order) (cv := cvOf []) E.F__law_order sc__law_order rfl rfl fun cdv A outer s H vs Ex hr H0 F0 mu => by
  have tk := takes_of (X := cxOf (L2.CX P w) P w K mg base N__law_order "_law_order" (defScope s__law_order) E.f__law_order cdv A outer s H Ex) rfl rfl rfl rfl
  have po := passes_of (X := cxOf (L2.CX P w) P w K mg base N__law_order "_law_order" (defScope s__law_order) E.f__law_order cdv A outer s H Ex) rfl
  exact (ds_cons (ds_set (i := 1) sc__law_order.nd rfl (by first | exact Or.inl rfl | exact Or.inr rfl) rfl de_int)
    (ds_cons (ds_for po rfl (quiet_name 2) (di_range1 (by rfl) E.m_range (de_callB cr_lenD sc_len (by rfl) E.m_len PySem.boot_len (da_cons (de_var 0 rfl) da_nil))) (dg_name (i := 2) rfl sc__law_order.nd rfl (by first | exact Or.inl rfl | exact Or.inr rfl))
    (ds_one (ds_for po rfl (quiet_name 3) (di_range1 (by rfl) E.m_range (de_var 2 rfl)) (dg_name (i := 3) rfl sc__law_order.nd rfl (by first | exact Or.inl rfl | exact Or.inr rfl))
    (ds_cons (ds_if (dt_cmp (op_eqD hr.units) sc_eq (de_ixA rfl (de_var 0 rfl) (de_var 3 rfl)) (de_ixA rfl (de_var 0 rfl) (de_var 2 rfl)) (nomark _)) (ds_one (ds_ret de_int)) ds_nil)
    (ds_one (ds_if (dt_cmp op_gt sc_gt (de_ixA rfl (de_var 0 rfl) (de_var 3 rfl)) (de_ixA rfl (de_var 0 rfl) (de_var 2 rfl)) (nomark _)) (ds_one (ds_set (i := 1) sc__law_order.nd rfl (by first | exact Or.inl rfl | exact Or.inr rfl) rfl (de_op op_sub sc_sub de_int (de_var 1 rfl)))) ds_nil))))))
    (ds_one (ds_ret (de_var 1 rfl)))))
def den_law : M Flow :=
  (seqM (setM 1 (call0 F__law_bag (argsM [(frozen (varM 0))])))
    (seqM (forM (range1 (constM (.int 10))) (nameG 2)
    (seqM (setM 3 (compM [4] (range1 (callR F__law_pull (argsM [(varM 1), (constM (.int 8))]))) (nameG 4) (retM true) (callR F__law_of (argsM [(varM 1), (frozen (lstM (argsM [(frozen (callR F__law_pull (argsM [(varM 1), (constM (.int 7))]))), (frozen (op2 subD (callR F__law_pull (argsM [(varM 1), (frozen (op2 powD (constM (.int 10)) (constM (.int 9))))])) (mulM (constM (.int 5)) (op2 powD (constM (.int 10)) (constM (.int 8))))))])))]))))
    (seqM (setM 5 (listM (varM 3)))
    (seqM (setM 6 (call0 F__law_order (argsM [(varM 3)])))
    (seqM (ifS (orM (notM (boolM (call0 (F__law_same 6) (argsM [(frozen (lstM (argsM [(frozen (call0 F_order_sign (argsM [(frozen (varM 5))]))), (frozen (call0 F_order_sign (argsM [(frozen (tupleM (varM 3)))])))]))), (frozen (lstM (argsM [(frozen (varM 6)), (frozen (varM 6))])))])))) (boolM (op2 neD (varM 5) (varM 3)))) (retS (constM (.bl false))) skipM)
    (ifS (boolM (op2 gtD (callD lenD (argsM [(varM 3)])) (constM (.int 1)))) (seqM (setM 4 (callR F__law_pull (argsM [(varM 1), (frozen (callD lenD (argsM [(varM 3)])))])))
    (seqM (setM 7 (op2 modD (addM (addM (varF 4) (constM (.int 1))) (callR F__law_pull (argsM [(varM 1), (frozen (op2 subD (callD lenD (argsM [(varM 3)])) (constM (.int 1))))]))) (callD lenD (argsM [(varM 3)]))))
    (seqM (asgM (tupM (argsM [(frozen (ixA (varM 3) (varM 7))), (frozen (ixA (varM 3) (varF 4)))])) (tupGs (consG (subG (varM 3) (varF 4)) (consG (subG (varM 3) (varM 7)) nilG)) 2))
    (ifS (notM (boolM (call0 (F__law_same 6) (argsM [(frozen (callK [0] F_order_sign (argsM []) (argsM [(frozen (varM 3))]))), (frozen (op2 subD (constM (.int 0)) (varM 6)))])))) (retS (constM (.bl false))) skipM)))) skipM))))))
    (seqM (parM 8 3 (argsM [(settled (listRg (range1 (constM (.int 64))))), (settled (lstM (argsM [])))]))
    (seqM (forM (range1 (constM (.int 64))) (nameG 4)
    (exprM (appendM (varM 3) (popAtM (varM 8) (callR F__law_pull (argsM [(varM 1), (frozen (callD lenD (argsM [(varM 8)])))]))))))
    (seqM (ifS (notM (boolM (call0 (F__law_same 6) (argsM [(frozen (lstM (argsM [(frozen (call0 F_order_sign (argsM [(varM 3)]))), (frozen (call0 F_order_sign (argsM [(frozen (tupleM (revM (varM 3))))])))]))), (frozen (lstM (argsM [(frozen (call0 F__law_order (argsM [(varM 3)]))), (frozen (call0 F__law_order (argsM [(frozen (revM (varM 3)))])))])))])))) (retS (constM (.bl false))) skipM)
    (retS (call0 (F__law_same 6) (argsM [(frozen (lstM (argsM [(frozen (call0 F_order_sign (argsM [(frozen (lstM (argsM [])))]))), (frozen (call0 F_order_sign (argsM [(frozen (lstM (argsM [(constM (.int 5))])))]))), (frozen (call0 F_order_sign (argsM [(frozen (lstM (argsM [(constM (.int 2)), (constM (.int 1))])))]))), (frozen (call0 F_order_sign (argsM [(frozen (lstM (argsM [(constM (.int 2)), (constM (.int 2)), (constM (.int 2))])))])))]))), (frozen (lstM (argsM [(constM (.int 1)), (constM (.int 1)), (frozen (op1 negD (constM (.int 1)))), (constM (.int 0))])))]))))))))
def F_law : FSem := callF 9 den_law
theorem ok_law (E : Tp K mg) : FnOk P w K mg base (L2.CX P w) 8 E.f_law E.fd_law ["_law_script"] (spOf K cl 1 false F_law) :=
  fun_okD (k := 7) (den := den_law) (cv := cvOf [4]) E.F_law sc_law rfl rfl fun cdv A outer s H vs Ex hr H0 F0 mu => by
  have tk := takes_of (X := cxOf (L2.CX P w) P w K mg base N_law "law" (defScope s_law) E.f_law cdv A outer s H Ex) rfl rfl rfl rfl
  have po := passes_of (X := cxOf (L2.CX P w) P w K mg base N_law "law" (defScope s_law) E.f_law cdv A outer s H Ex) rfl
  exact (ds_cons (ds_set (i := 1) sc_law.nd rfl (by first | exact Or.inl rfl | exact Or.inr rfl) rfl (de_call rfl tk (ok__law_bag E) (hr.mono (by decide)) (by rfl) E.g__law_bag E.F__law_bag.kp E.b__law_bag (da_cons (da_frz (de_var 0 rfl)) da_nil) (fun _ _ _ q => argsM_len q)))
    (ds_cons (ds_for po rfl (quiet_name 2) (di_range1 (by rfl) E.m_range de_int) (dg_name (i := 2) rfl sc_law.nd rfl (by first | exact Or.inl rfl | exact Or.inr rfl))
    (ds_cons (ds_setComp (i := 3) (own := [("_law_k", 4)]) rfl rfl sc_law.nd rfl rfl (sw_true rfl rfl rfl (by decide +kernel)) (List.forall_mem_cons.mpr ⟨⟨rfl, rfl⟩, (fun _ h => nomatch h)⟩) (fun _ h => h) (quiet_name 4) (di_range1 (by rfl) E.m_range (de_callR rfl tk (ok__law_pull E) (hr.mono (by decide)) (by rfl) E.g__law_pull E.F__law_pull.kp E.b__law_pull (da_cons (de_var 1 rfl) (da_cons de_int da_nil)) (fun _ _ _ q => argsM_len q))) (blkOk_by (N := N_law) (sc := defScope s_law) (by decide +kernel)) (fun _ _ _ _ _ => (dg_name (i := 4) rfl sc_law.nd rfl (by first | exact Or.inl rfl | exact Or.inr rfl))) (fun _ _ _ _ _ => dts_nil) (fun _ _ _ _ _ => (de_callR rfl takes0 (ok__law_of E) (hr.mono (by decide)) (by rfl) E.g__law_of E.F__law_of.kp E.b__law_of (da_cons (de_var 1 rfl) (da_cons (da_frz (de_lst (da_cons (da_frz (de_callR rfl takes0 (ok__law_pull E) (hr.mono (by decide)) (by rfl) E.g__law_pull E.F__law_pull.kp E.b__law_pull (da_cons (de_var 1 rfl) (da_cons de_int da_nil)) (fun _ _ _ q => argsM_len q))) (da_cons (da_frz (de_op op_sub sc_sub (de_callR rfl takes0 (ok__law_pull E) (hr.mono (by decide)) (by rfl) E.g__law_pull E.F__law_pull.kp E.b__law_pull (da_cons (de_var 1 rfl) (da_cons (da_frz (de_op op_pow sc_pow de_int de_int)) da_nil)) (fun _ _ _ q => argsM_len q)) (de_mul de_int (de_op op_pow sc_pow de_int de_int)))) da_nil)))) da_nil)) (fun _ _ _ q => argsM_len q))))
    (ds_cons (ds_set (i := 5) sc_law.nd rfl (by first | exact Or.inl rfl | exact Or.inr rfl) rfl (de_list rfl (by rfl) E.m_list (de_var 3 rfl)))
    (ds_cons (ds_set (i := 6) sc_law.nd rfl (by first | exact Or.inl rfl | exact Or.inr rfl) rfl (de_call rfl tk (ok__law_order E) (hr.mono (by decide)) (by rfl) E.g__law_order E.F__law_order.kp E.b__law_order (da_cons (de_var 3 rfl) da_nil) (fun _ _ _ q => argsM_len q)))
    (ds_cons (ds_if (PW.pt (dw_or (dt_not (dt_val (de_call rfl tk (ok__law_same E 6) (hr.mono (by decide)) (by rfl) E.g__law_same E.F__law_same.kp E.b__law_same (da_cons (da_frz (de_lst (da_cons (da_frz (de_call rfl tk (ok_order_sign E) (hr.mono (by decide)) (by rfl) E.g_order_sign E.F_order_sign.kp E.b_order_sign (da_cons (da_frz (de_var 5 rfl)) da_nil) (fun _ _ _ q => argsM_len q))) (da_cons (da_frz (de_call rfl tk (ok_order_sign E) (hr.mono (by decide)) (by rfl) E.g_order_sign E.F_order_sign.kp E.b_order_sign (da_cons (da_frz (de_tuple rfl (by rfl) E.m_tuple (de_var 3 rfl))) da_nil) (fun _ _ _ q => argsM_len q))) da_nil)))) (da_cons (da_frz (de_lst (da_cons (da_frz (de_var 6 rfl)) (da_cons (da_frz (de_var 6 rfl)) da_nil)))) da_nil)) (fun _ _ _ q => argsM_len q)))) (dw_or1 (dt_cmp (op_neD hr.units) sc_ne (de_var 5 rfl) (de_var 3 rfl) (nomark _))))) (ds_one (ds_ret de_bl)) ds_nil)
    (ds_one (ds_if (dt_cmp op_gt sc_gt (de_callB cr_lenD sc_len (by rfl) E.m_len PySem.boot_len (da_cons (de_var 3 rfl) da_nil)) de_int (nomark _)) (ds_cons (ds_set (i := 4) sc_law.nd rfl (by first | exact Or.inl rfl | exact Or.inr rfl) rfl (de_callR rfl tk (ok__law_pull E) (hr.mono (by decide)) (by rfl) E.g__law_pull E.F__law_pull.kp E.b__law_pull (da_cons (de_var 1 rfl) (da_cons (da_frz (de_callB cr_lenD sc_len (by rfl) E.m_len PySem.boot_len (da_cons (de_var 3 rfl) da_nil))) da_nil)) (fun _ _ _ q => argsM_len q)))
    (ds_cons (ds_set (i := 7) sc_law.nd rfl (by first | exact Or.inl rfl | exact Or.inr rfl) rfl (de_op op_mod sc_mod (de_add rfl (de_add rfl (de_varF 4) de_int) (de_callR rfl tk (ok__law_pull E) (hr.mono (by decide)) (by rfl) E.g__law_pull E.F__law_pull.kp E.b__law_pull (da_cons (de_var 1 rfl) (da_cons (da_frz (de_op op_sub sc_sub (de_callB cr_lenD sc_len (by rfl) E.m_len PySem.boot_len (da_cons (de_var 3 rfl) da_nil)) de_int)) da_nil)) (fun _ _ _ q => argsM_len q))) (de_callB cr_lenD sc_len (by rfl) E.m_len PySem.boot_len (da_cons (de_var 3 rfl) da_nil))))
    (ds_cons (ds_asg (quiet_tupGs (quiet_cons (quiet_sub (varM 3) (varF 4)) (quiet_cons (quiet_sub (varM 3) (varM 7)) quiet_nil))) (de_tup (da_cons (da_frz (de_ixA rfl (de_var 3 rfl) (de_var 7 rfl))) (da_cons (da_frz (de_ixA rfl (de_var 3 rfl) (de_varF 4))) da_nil))) (dg_tupGs rfl rfl (dgs_cons (quiet_sub (varM 3) (varF 4)) (dg_sub (W := WE' Ex) (de_var 3 rfl) (de_varF 4)) (dgs_cons (quiet_sub (varM 3) (varM 7)) (dg_sub (W := WE' Ex) (de_var 3 rfl) (de_var 7 rfl)) dgs_nil))))
    (ds_one (ds_if (dt_not (dt_val (de_call rfl tk (ok__law_same E 6) (hr.mono (by decide)) (by rfl) E.g__law_same E.F__law_same.kp E.b__law_same (da_cons (da_frz (de_kw0 (m := 0) (is := [0]) tk (ok_order_sign E) (hr.mono (by decide)) (by rfl) E.g_order_sign E.F_order_sign.kp (kb_order_sign_0_row E) (dk_cons (da_frz (de_var 3 rfl)) dk_nil) (fun _ _ _ q => argsM_len q) rfl (by decide))) (da_cons (da_frz (de_op op_sub sc_sub de_int (de_var 6 rfl))) da_nil)) (fun _ _ _ q => argsM_len q)))) (ds_one (ds_ret de_bl)) ds_nil))))) ds_nil)))))))
    (ds_cons (ds_par (i := 8) (j := 3) rfl rfl rfl sc_law.nd rfl rfl (by decide) rfl rfl (da_cons (da_settle (de_listRg1 rfl (by rfl) E.m_list (by rfl) E.m_range de_int)) (da_cons (da_settle (de_lst da_nil)) da_nil)) (by rfl))
    (ds_cons (ds_for po rfl (quiet_name 4) (di_range1 (by rfl) E.m_range de_int) (dg_name (i := 4) rfl sc_law.nd rfl (by first | exact Or.inl rfl | exact Or.inr rfl))
    (ds_one (ds_expr (de_append rfl (de_var 3 rfl) (de_popAt (de_var 8 rfl) (de_callR rfl tk (ok__law_pull E) (hr.mono (by decide)) (by rfl) E.g__law_pull E.F__law_pull.kp E.b__law_pull (da_cons (de_var 1 rfl) (da_cons (da_frz (de_callB cr_lenD sc_len (by rfl) E.m_len PySem.boot_len (da_cons (de_var 8 rfl) da_nil))) da_nil)) (fun _ _ _ q => argsM_len q)))))))
    (ds_cons (ds_if (dt_not (dt_val (de_call rfl tk (ok__law_same E 6) (hr.mono (by decide)) (by rfl) E.g__law_same E.F__law_same.kp E.b__law_same (da_cons (da_frz (de_lst (da_cons (da_frz (de_call rfl tk (ok_order_sign E) (hr.mono (by decide)) (by rfl) E.g_order_sign E.F_order_sign.kp E.b_order_sign (da_cons (de_var 3 rfl) da_nil) (fun _ _ _ q => argsM_len q))) (da_cons (da_frz (de_call rfl tk (ok_order_sign E) (hr.mono (by decide)) (by rfl) E.g_order_sign E.F_order_sign.kp E.b_order_sign (da_cons (da_frz (de_tuple rfl (by rfl) E.m_tuple (de_rev rfl (de_var 3 rfl)))) da_nil) (fun _ _ _ q => argsM_len q))) da_nil)))) (da_cons (da_frz (de_lst (da_cons (da_frz (de_call rfl tk (ok__law_order E) (hr.mono (by decide)) (by rfl) E.g__law_order E.F__law_order.kp E.b__law_order (da_cons (de_var 3 rfl) da_nil) (fun _ _ _ q => argsM_len q))) (da_cons (da_frz (de_call rfl tk (ok__law_order E) (hr.mono (by decide)) (by rfl) E.g__law_order E.F__law_order.kp E.b__law_order (da_cons (da_frz (de_rev rfl (de_var 3 rfl))) da_nil) (fun _ _ _ q => argsM_len q))) da_nil)))) da_nil)) (fun _ _ _ q => argsM_len q)))) (ds_one (ds_ret de_bl)) ds_nil)
    (ds_one (ds_ret (de_call rfl tk (ok__law_same E 6) (hr.mono (by decide)) (by rfl) E.g__law_same E.F__law_same.kp E.b__law_same (da_cons (da_frz (de_lst (da_cons (da_frz (de_call rfl tk (ok_order_sign E) (hr.mono (by decide)) (by rfl) E.g_order_sign E.F_order_sign.kp E.b_order_sign (da_cons (da_frz (de_lst da_nil)) da_nil) (fun _ _ _ q => argsM_len q))) (da_cons (da_frz (de_call rfl tk (ok_order_sign E) (hr.mono (by decide)) (by rfl) E.g_order_sign E.F_order_sign.kp E.b_order_sign (da_cons (da_frz (de_lst (da_cons de_int da_nil))) da_nil) (fun _ _ _ q => argsM_len q))) (da_cons (da_frz (de_call rfl tk (ok_order_sign E) (hr.mono (by decide)) (by rfl) E.g_order_sign E.F_order_sign.kp E.b_order_sign (da_cons (da_frz (de_lst (da_cons de_int (da_cons de_int da_nil)))) da_nil) (fun _ _ _ q => argsM_len q))) (da_cons (da_frz (de_call rfl tk (ok_order_sign E) (hr.mono (by decide)) (by rfl) E.g_order_sign E.F_order_sign.kp E.b_order_sign (da_cons (da_frz (de_lst (da_cons de_int (da_cons de_int (da_cons de_int da_nil))))) da_nil) (fun _ _ _ q => argsM_len q))) da_nil)))))) (da_cons (da_frz (de_lst (da_cons de_int (da_cons de_int (da_cons (da_frz (de_un un_neg sc_neg de_int)) (da_cons de_int da_nil)))))) da_nil)) (fun _ _ _ q => argsM_len q)))))))))
end
end DL
namespace DL
open PySem L2
/-! ### drawing: this row's own -/
theorem pull_ok (b : Bag) (hb : b.Ok) (m : Int) (h0 : 0 < m) (h1 : m < 1073741824) : Drawn m (F__law_pull [b.t, .fz (.int m)]) := by
  obtain ⟨cs, p, c, s, n⟩ := b
  obtain ⟨p0, s0, s1⟩ := hb
  simp only at p0 s0 s1
  have e1 : small64 6151 = true := by decide
  have e2 : ∀ z : Int, small64 (z % 2147483629) = true := fun z => small_of (by omega) (by omega)
  have e3 : ∀ z : Int, small64 (z % 2147483587) = true := fun z => small_of (by omega) (by omega)
  have e4 : small64 30013 = true := by decide
  have e5 : small64 37 = true := by decide
  have e6 : small64 31337 = true := by decide
  have p1 : 0 ≤ p + 1 := by omega
  have hm : m ≠ 0 := by omega
  have g0 : ∀ z : Int, 0 ≤ z % m := fun z => Int.emod_nonneg _ hm
  have g1 : ∀ z : Int, z % m < m := fun z => Int.emod_lt_of_pos _ h0
  have g2 : ∀ z : Int, 0 ≤ z % 2147483629 := fun z => Int.emod_nonneg _ (by decide)
  have g3 : ∀ z : Int, z % 2147483629 < 2147483629 := fun z => Int.emod_lt_of_pos _ (by decide)
  by_cases hc : c < 1
  · have hc0 : ¬ 0 < c := by omega
    by_cases hp : p < (cs.length : Int)
    · have hx : ∃ x, atI (cs.map D.int) p = some (.int x) := by
        have hlt : p.toNat < cs.length := by omega
        exact ⟨cs[p.toNat], atI_of p0 (by rw [List.getElem?_map, List.getElem?_eq_getElem hlt]; rfl)⟩
      obtain ⟨x, hx⟩ := hx
      by_cases hbig : (1000000000000000000 : Int) ≤ x
      · have hx0 : 0 < x := by omega
        simp [F__law_pull, den__law_pull, Bag.t, hc, hp, hx, hbig, hx0, h0, h1]
        exact drawn_mk p1 s0 s1 (g0 _) (g1 _)
      · simp [F__law_pull, den__law_pull, Bag.t, hc, hp, hx, hbig, hc0, h0, h1, e1, e2, e3, e4, e5, e6]
        exact drawn_mk p1 (g2 _) (g3 _) (g0 _) (g1 _)
    · simp [F__law_pull, den__law_pull, Bag.t, hc, hp, hc0, h0, h1, e1, e2, e3, e4, e5, e6]
      exact drawn_mk p0 (g2 _) (g3 _) (g0 _) (g1 _)
  · have hc0 : 0 < c := by omega
    simp [F__law_pull, den__law_pull, Bag.t, hc, hc0, h0, h1]
    exact drawn_mk p0 s0 s1 (g0 _) (g1 _)
theorem of_ok (b : Bag) (hb : b.Ok) (ds : List D) (h0 : 0 < ds.length) (h1 : ds.length < 1073741824) : ∃ (d : D) (b' : Bag) (Γ' : Env), d ∈ ds ∧ b'.Ok ∧ F__law_of [b.t, .fz (.lst ds)] = .ok (.fz d) (some b'.t :: Γ') := by
  obtain ⟨r, b', Γ', hb', r0, r1, e⟩ := pull_ok b hb ds.length (by omega) (by omega)
  have hlt : r.toNat < ds.length := by omega
  have hx : atI ds r = some ds[r.toNat] := atI_of r0 (List.getElem?_eq_getElem hlt)
  refine ⟨ds[r.toNat], b', [some (.fz (.lst ds))], List.getElem_mem hlt, hb', ?_⟩
  simp [F__law_of, den__law_of, e, hx]
theorem bag_ok (ns : List Int) (h : ns.length ≤ 63) : ∃ b : Bag, b.Ok ∧ Gives (F__law_bag [.fz (.scr ns)]) b.t := by
  have key : ∀ (cs : List Int) (s : Int) (o : Option T), 0 ≤ s → s < 2147483629 → ∃ s' o', 0 ≤ s' ∧ s' < 2147483629 ∧ loopM (nameG 2) (setM 1 (op2 modD (addM (addM (mulM (varM 1) (constM (.int 60013))) (varM 2)) (constM (.int 5))) (constM (.int 2147483629)))) (cs.map D.int) [some (.fz (.scr ns)), some (.fz (.int s)), o] = .ok .next [some (.fz (.scr ns)), some (.fz (.int s')), o'] := by
    intro cs
    induction cs with
    | nil => exact fun s o h0 h1 => ⟨s, o, h0, h1, rfl⟩
    | cons c cs ih =>
      intro s o h0 h1
      have e4 : small64 60013 = true := by decide
      obtain ⟨s', o', g0, g1, g⟩ := ih ((s * 60013 + c + 5) % 2147483629) (some (.fz (.int c))) (Int.emod_nonneg _ (by decide)) (Int.emod_lt_of_pos _ (by decide))
      refine ⟨s', o', g0, g1, ?_⟩
      rw [← g]
      simp [e4]
  have hc : cutL (ns.map D.int) none (some 63) = ns.map D.int := cut_le (n := 63) (by rw [List.length_map]; exact h)
  obtain ⟨s', o', g0, g1, g⟩ := key ns 977 none (by decide) (by decide)
  refine ⟨⟨ns, 0, 0, s', 0⟩, ⟨Int.le_refl _, g0, g1⟩, ?_⟩
  simp [-List.map_map, F__law_bag, den__law_bag, hc, g, sizeLine]
  rfl
/-! ### sameness: this row's own -/
theorem same_ok : ∀ (k n : Nat) (d : D), n < k → d.sm n = true → Gives (F__law_same k [.fz d, .fz d]) (.fz (.bl true))
  | 0, n, d, h, _ => absurd h (Nat.not_lt_zero _)
  | k + 1, n, d, h, hs => by
    have sq : ∀ (q : D) (xs : List D), (q = .lst xs ∨ q = .tup xs) → q.sm n = true → Gives (F__law_same (k + 1) [.fz q, .fz q]) (.fz (.bl true)) := by
      intro q xs hq hs
      have hxs : ∃ m, n = m + 1 ∧ xs.length ≤ sizeLine ∧ D.sms m xs = true := by
        cases n with
        | zero => rcases hq with rfl | rfl <;> unfold D.sm at hs <;> cases hs
        | succ m =>
          refine ⟨m, rfl, ?_⟩
          rcases hq with rfl | rfl <;> simp only [sm_lst, sm_tup, Bool.and_eq_true, decide_eq_true_eq] at hs <;> exact hs
      obtain ⟨m, rfl, hl, hm⟩ := hxs
      have hr := rng_nat hl
      have hc : compL [2] (nameG 2) (retM true) (call0 (F__law_same k) (argsM [(frozen (ixA (varM 0) (varF 2))), (frozen (ixA (varM 1) (varF 2)))])) (rangeL 0 xs.length) [some (.fz q), some (.fz q), none] = .ok (trues xs.length) [some (.fz q), some (.fz q), none] := by
        refine comp_map _ _ (by simp [rangeL, trues]) fun i d e hd he => ?_
        have hi : i < xs.length := by
          have := (List.getElem?_eq_some_iff.mp hd).1
          simpa [rangeL] using this
        have h1 : d = .int (i : Int) := by
          have := (List.getElem?_eq_some_iff.mp hd).2
          simpa [rangeL] using this.symm
        have h2 : e = .bl true := by
          have := (List.getElem?_eq_some_iff.mp he).2
          simpa [trues] using this.symm
        subst h1 h2
        have hx : atI xs (i : Int) = some xs[i] := atI_nat (List.getElem?_eq_getElem hi)
        obtain ⟨Γ', g⟩ := same_ok k m xs[i] (by omega) (D.sms_mem hm (List.getElem_mem hi))
        rcases hq with rfl | rfl <;> simp [hx, g]
      rcases hq with rfl | rfl <;> simp [F__law_same, den__law_same, isTy, hr, hc]
    cases d with
    | non => simp [F__law_same, den__law_same]
    | bl b => simp [F__law_same, den__law_same, isTy]
    | int i => simp [F__law_same, den__law_same, isTy]
    | str x =>
      have hx : PyData.strOk x = true := by unfold D.sm at hs; exact hs
      simp [F__law_same, den__law_same, isTy, hx]
    | lst xs => exact sq _ xs (.inl rfl) hs
    | tup xs => exact sq _ xs (.inr rfl) hs
    | scr ns => unfold D.sm at hs; cases hs
    | dK _ => unfold D.sm at hs; cases hs
    | dT _ => unfold D.sm at hs; cases hs
    | ins _ _ => unfold D.sm at hs; cases hs
end DL
namespace DL
open PySem L2
/-! ### order_sign -/
abbrev osB : M Flow := (setM 1 (ifM (boolM (op2 eqD (varM 3) (varM 4))) (constM (.int 0)) (ifM (boolM (op2 gtD (varM 3) (varM 4))) (op2 subD (constM (.int 0)) (varM 1)) (varM 1))))
theorem os_in (R A : Option T) (x : Int) : ∀ (ys : List Int) (f : Int) (c : Option T), ∃ c', loopM (nameG 4) osB (ys.map D.int) [R, some (.fz (.int f)), A, some (.fz (.int x)), c] = .ok .next [R, some (.fz (.int (f * prd (ys.map (cp x))))), A, some (.fz (.int x)), c']
  | [], f, c => ⟨c, by rw [List.map_nil, List.map_nil]; show _ = Out.ok _ [_, some (.fz (.int (f * 1))), _, _, _]; rw [Int.mul_one]; rfl⟩
  | y :: ys, f, c => by
    have e : f * prd ((y :: ys).map (cp x)) = f * cp x y * prd (ys.map (cp x)) := (Int.mul_assoc _ _ _).symm
    obtain ⟨c', h⟩ := os_in R A x ys (f * cp x y) (some (.fz (.int y)))
    refine ⟨c', ?_⟩
    rw [e, ← h]
    unfold cp
    by_cases h1 : x = y
    · simp [h1]
    · by_cases h2 : y < x
      · simp [h1, h2]
      · simp [h1, h2]
theorem os_out (q : D) (xs : List Int) (hq : q = .lst (xs.map D.int) ∨ q = .tup (xs.map D.int)) : ∀ (zs us : List Int) (f : Int) (a b c : Option T), xs = us ++ zs → ∃ a' b' c', loopM (tupG [2, 3]) (forM (seqIt (sliceM (varM 0) (partM (addM (varM 2) (constM (.int 1)))) (retM none))) (nameG 4) osB) (enumF us.length (zs.map D.int)) [some (.fz q), some (.fz (.int f)), a, b, c] = .ok .next [some (.fz q), some (.fz (.int (f * sgn zs))), a', b', c']
  | [], us, f, a, b, c, e => ⟨a, b, c, by show _ = Out.ok _ [_, some (.fz (.int (f * 1))), _, _, _]; rw [Int.mul_one]; rfl⟩
  | z :: zs, us, f, a, b, c, e => by
    have e2 : f * sgn (z :: zs) = f * prd (zs.map (cp z)) * sgn zs := (Int.mul_assoc _ _ _).symm
    obtain ⟨c1, h1⟩ := os_in (some (.fz q)) (some (.fz (.int us.length))) z zs f c
    obtain ⟨a', b', c', h⟩ := os_out q xs hq zs (us ++ [z]) (f * prd (zs.map (cp z))) (some (.fz (.int us.length))) (some (.fz (.int z))) c1 (by rw [e]; simp)
    refine ⟨a', b', c', ?_⟩
    rw [e2, ← h]
    have hc : cutL (xs.map D.int) (some ((us.length : Int) + 1)) none = zs.map D.int := by
      have := cut_from (xs := xs.map D.int) (n := us.length + 1)
      rw [show (us.length : Int) + 1 = ((us.length + 1 : Nat) : Int) by omega, this, e, ← List.map_drop]
      simp
    rw [List.length_append]
    rcases hq with rfl | rfl <;> simp [-List.map_map, enumF, hc, h1]
theorem os_ok (q : D) (xs : List Int) (hq : q = .lst (xs.map D.int) ∨ q = .tup (xs.map D.int)) : Gives (F_order_sign [.fz q]) (.fz (.int (sgn xs))) := by
  obtain ⟨a', b', c', h⟩ := os_out q xs hq xs [] 1 none none none rfl
  rw [Int.one_mul] at h
  have h' := h
  rcases hq with rfl | rfl
  all_goals
    simp only [List.length_nil] at h
    simp [-List.map_map, F_order_sign, den_order_sign, enum_eq, h]
/-! ### _law_order -/
abbrev loB : M Flow := (seqM (ifS (boolM (op2 eqD (ixA (varM 0) (varM 3)) (ixA (varM 0) (varM 2)))) (retS (constM (.int 0))) skipM)
    (ifS (boolM (op2 gtD (ixA (varM 0) (varM 3)) (ixA (varM 0) (varM 2)))) (setM 1 (op2 subD (constM (.int 0)) (varM 1))) skipM))
theorem lo_in (xs : List Int) (k : Nat) (y : Int) (hy : xs[k]? = some y) : ∀ (zs us vs : List Int) (f : Int) (c : Option T), xs = us ++ (zs ++ vs) → (∃ Γ', prd (zs.map fun x => cp x y) = 0 ∧ loopM (nameG 3) loB (rangeL us.length zs.length) [some (.fz (.lst (xs.map D.int))), some (.fz (.int f)), some (.fz (.int k)), c] = .ok (.ret (.fz (.int 0))) Γ') ∨ (∃ c', loopM (nameG 3) loB (rangeL us.length zs.length) [some (.fz (.lst (xs.map D.int))), some (.fz (.int f)), some (.fz (.int k)), c] = .ok .next [some (.fz (.lst (xs.map D.int))), some (.fz (.int (f * prd (zs.map fun x => cp x y)))), some (.fz (.int k)), c'])
  | [], us, vs, f, c, e => .inr ⟨c, by show _ = Out.ok _ [_, some (.fz (.int (f * 1))), _, _]; rw [Int.mul_one]; rfl⟩
  | z :: zs, us, vs, f, c, e => by
    have hz : xs[us.length]? = some z := by
      rw [e, List.getElem?_append_right (Nat.le_refl _), Nat.sub_self]; rfl
    have a1 := atI_ints hz
    have a2 := atI_ints hy
    have e1 : f * prd ((z :: zs).map fun x => cp x y) = f * cp z y * prd (zs.map fun x => cp x y) := (Int.mul_assoc _ _ _).symm
    have e0 : prd ((z :: zs).map fun x => cp x y) = cp z y * prd (zs.map fun x => cp x y) := rfl
    rw [List.length_cons, rangeL_succ]
    by_cases h1 : z = y
    · left
      refine ⟨[some (.fz (.lst (xs.map D.int))), some (.fz (.int f)), some (.fz (.int k)), some (.fz (.int us.length))], ?_, ?_⟩
      · rw [e0, h1, cp_self, Int.zero_mul]
      · simp [-List.map_map, a1, a2, h1]
    · have ih := lo_in xs k y hy zs (us ++ [z]) vs (f * cp z y) (some (.fz (.int us.length))) (by rw [e]; simp)
      have el : ((us ++ [z]).length : Int) = (us.length : Int) + 1 := by rw [List.length_append]; simp
      rw [el] at ih
      have hstep : loopM (nameG 3) loB (.int us.length :: rangeL ((us.length : Int) + 1) zs.length) [some (.fz (.lst (xs.map D.int))), some (.fz (.int f)), some (.fz (.int k)), c] = loopM (nameG 3) loB (rangeL ((us.length : Int) + 1) zs.length) [some (.fz (.lst (xs.map D.int))), some (.fz (.int (f * cp z y))), some (.fz (.int k)), some (.fz (.int us.length))] := by
        unfold cp
        by_cases h2 : y < z
        · simp [-List.map_map, a1, a2, h1, h2]
        · simp [-List.map_map, a1, a2, h1, h2]
      rw [hstep, e1]
      rcases ih with ⟨Γ', p, h⟩ | h
      · exact .inl ⟨Γ', by rw [e0, p, Int.mul_zero], h⟩
      · exact .inr h
theorem lo_out (xs : List Int) (hz : xs.length ≤ sizeLine) : ∀ (zs us : List Int) (b c : Option T), xs = us ++ zs → (∃ Γ', sgn xs = 0 ∧ loopM (nameG 2) (forM (range1 (varM 2)) (nameG 3) loB) (rangeL us.length zs.length) [some (.fz (.lst (xs.map D.int))), some (.fz (.int (sgn us))), b, c] = .ok (.ret (.fz (.int 0))) Γ') ∨ (∃ b' c', loopM (nameG 2) (forM (range1 (varM 2)) (nameG 3) loB) (rangeL us.length zs.length) [some (.fz (.lst (xs.map D.int))), some (.fz (.int (sgn us))), b, c] = .ok .next [some (.fz (.lst (xs.map D.int))), some (.fz (.int (sgn xs))), b', c'])
  := by
  intro zs
  induction zs with
  | nil => exact fun us b c e => .inr ⟨b, c, by rw [e, List.append_nil]; rfl⟩
  | cons z zs ih =>
    intro us b c e
    have hk : xs[us.length]? = some z := by
      rw [e, List.getElem?_append_right (Nat.le_refl _), Nat.sub_self]; rfl
    have h1 := lo_in xs us.length z hk us [] (z :: zs) (sgn us) c (by rw [e]; rfl)
    have hr : rngOk 0 (us.length : Int) = true := rng_nat (Nat.le_trans (by rw [e, List.length_append]; exact Nat.le_add_right _ _) hz)
    rw [List.length_cons, rangeL_succ]
    rw [show (([] : List Int).length : Int) = 0 from rfl] at h1
    rcases h1 with ⟨Γ', p, h⟩ | ⟨c', h⟩
    · left
      refine ⟨Γ', ?_, ?_⟩
      · rw [e, show us ++ z :: zs = (us ++ [z]) ++ zs by simp, sgn_append, sgn_snoc, p, Int.mul_zero, Int.zero_mul, Int.zero_mul]
      · simp [-List.map_map, hr, h]
    · have ih := ih (us ++ [z]) (some (.fz (.int us.length))) c' (by rw [e]; simp)
      rw [sgn_snoc] at ih
      have el : ((us ++ [z]).length : Int) = (us.length : Int) + 1 := by rw [List.length_append]; simp
      rw [el] at ih
      have hstep : loopM (nameG 2) (forM (range1 (varM 2)) (nameG 3) loB) (.int us.length :: rangeL ((us.length : Int) + 1) zs.length) [some (.fz (.lst (xs.map D.int))), some (.fz (.int (sgn us))), b, c] = loopM (nameG 2) (forM (range1 (varM 2)) (nameG 3) loB) (rangeL ((us.length : Int) + 1) zs.length) [some (.fz (.lst (xs.map D.int))), some (.fz (.int (sgn us * prd (us.map fun x => cp x z)))), some (.fz (.int us.length)), c'] := by
        simp [-List.map_map, hr, h]
      rw [hstep]
      exact ih
theorem lo_ok (xs : List Int) (hz : xs.length ≤ sizeLine) : Gives (F__law_order [.fz (.lst (xs.map D.int))]) (.fz (.int (sgn xs))) := by
  have hr := rng_nat hz
  rcases lo_out xs hz xs [] none none rfl with ⟨Γ', p, h⟩ | ⟨b', c', h⟩
  · rw [show (([] : List Int).length : Int) = 0 from rfl, show sgn [] = 1 from rfl] at h
    simp [-List.map_map, F__law_order, den__law_order, hr, h, p]
  · rw [show (([] : List Int).length : Int) = 0 from rfl, show sgn [] = 1 from rfl] at h
    simp [-List.map_map, F__law_order, den__law_order, hr, h]
end DL
set_option maxHeartbeats 1000000
namespace DL
open PySem L2
theorem rng_int {r : Int} {m : Int} (h0 : 0 ≤ r) (h1 : r < m) (hm : m ≤ 100000) : rngOk 0 r = true := by
  have e : r = (r.toNat : Int) := by omega
  rw [e]
  refine rng_nat ?_
  have : 100000 ≤ sizeLine := by decide
  omega
theorem ints_of {es : List D} (h : ∀ e ∈ es, ∃ x, e = D.int x) : ∃ xs : List Int, es = xs.map D.int := by
  induction es with
  | nil => exact ⟨[], rfl⟩
  | cons e es ih =>
    obtain ⟨x, rfl⟩ := h e List.mem_cons_self
    obtain ⟨xs, rfl⟩ := ih fun e he => h e (List.mem_cons_of_mem _ he)
    exact ⟨x :: xs, rfl⟩
theorem fits_ints {n : Nat} : ∀ xs : List Int, D.fits n (xs.map D.int) = true
  | [] => by unfold D.fits; exact rfl
  | x :: xs => by
    rw [List.map_cons, D.fits, fits_ints xs]
    unfold D.fit
    exact rfl
theorem eqbs_ints : ∀ xs : List Int, D.eqbs (xs.map D.int) (xs.map D.int) = true
  | [] => by unfold D.eqbs; exact rfl
  | x :: xs => by
    rw [List.map_cons, D.eqbs, eqbs_ints xs]
    unfold D.eqb
    rw [beq_self_eq_true]
    exact rfl
@[simp] theorem ne_ints {xs : List Int} : neD (.lst (xs.map D.int)) (.lst (xs.map D.int)) = some (.bl false) := by
  have e : D.fit 64 (.lst (xs.map D.int)) = true := by unfold D.fit; exact fits_ints xs
  have e2 : D.eqb (.lst (xs.map D.int)) (.lst (xs.map D.int)) = true := by unfold D.eqb; exact eqbs_ints xs
  unfold neD
  rw [e, e2]
  exact rfl
theorem ixN_of {n : Nat} {k : Int} (h0 : 0 ≤ k) (h1 : k < n) : ixN n k = some k.toNat := by
  unfold ixN
  rw [if_pos h0, if_pos h1]
abbrev turnB : M Flow := (seqM (setM 3 (compM [4] (range1 (callR F__law_pull (argsM [(varM 1), (constM (.int 8))]))) (nameG 4) (retM true) (callR F__law_of (argsM [(varM 1), (frozen (lstM (argsM [(frozen (callR F__law_pull (argsM [(varM 1), (constM (.int 7))]))), (frozen (op2 subD (callR F__law_pull (argsM [(varM 1), (frozen (op2 powD (constM (.int 10)) (constM (.int 9))))])) (mulM (constM (.int 5)) (op2 powD (constM (.int 10)) (constM (.int 8))))))])))]))))
    (seqM (setM 5 (listM (varM 3)))
    (seqM (setM 6 (call0 F__law_order (argsM [(varM 3)])))
    (seqM (ifS (orM (notM (boolM (call0 (F__law_same 6) (argsM [(frozen (lstM (argsM [(frozen (call0 F_order_sign (argsM [(frozen (varM 5))]))), (frozen (call0 F_order_sign (argsM [(frozen (tupleM (varM 3)))])))]))), (frozen (lstM (argsM [(frozen (varM 6)), (frozen (varM 6))])))])))) (boolM (op2 neD (varM 5) (varM 3)))) (retS (constM (.bl false))) skipM)
    (ifS (boolM (op2 gtD (callD lenD (argsM [(varM 3)])) (constM (.int 1)))) (seqM (setM 4 (callR F__law_pull (argsM [(varM 1), (frozen (callD lenD (argsM [(varM 3)])))])))
    (seqM (setM 7 (op2 modD (addM (addM (varF 4) (constM (.int 1))) (callR F__law_pull (argsM [(varM 1), (frozen (op2 subD (callD lenD (argsM [(varM 3)])) (constM (.int 1))))]))) (callD lenD (argsM [(varM 3)]))))
    (seqM (asgM (tupM (argsM [(frozen (ixA (varM 3) (varM 7))), (frozen (ixA (varM 3) (varF 4)))])) (tupGs (consG (subG (varM 3) (varF 4)) (consG (subG (varM 3) (varM 7)) nilG)) 2))
    (ifS (notM (boolM (call0 (F__law_same 6) (argsM [(frozen (callK [0] F_order_sign (argsM []) (argsM [(frozen (varM 3))]))), (frozen (op2 subD (constM (.int 0)) (varM 6)))])))) (retS (constM (.bl false))) skipM)))) skipM)))))
theorem turn_ok (ns : List Int) (b : Bag) (hb : b.Ok) (x2 x3 x4 x5 x6 x7 x8 : Option T) : Goes (turnB [some (.fz (.scr ns)), some b.t, x2, x3, x4, x5, x6, x7, x8]) fun Γ => ∃ (b' : Bag) (y3 y4 y5 y6 y7 : Option T), b'.Ok ∧ Γ = [some (.fz (.scr ns)), some b'.t, x2, y3, y4, y5, y6, y7, x8] := by
  obtain ⟨r, b1, Γ1, hb1, r0, r1, e1⟩ := pull_ok b hb 8 (by decide) (by decide)
  have hr := rng_int r0 r1 (by decide)
  have f1 : 100 ≤ sizeLine := by decide
  obtain ⟨b2, es, hb2, hes, hpe, hcomp⟩ := comp_inv (S := Bag) (fun b => [some (.fz (.scr ns)), some b.t, x2, x3, none, x5, x6, x7, x8]) Bag.Ok (fun e => ∃ x, e = D.int x) (vs := [4]) (g := nameG 4) (ft := retM true) (fe := callR F__law_of (argsM [(varM 1), (frozen (lstM (argsM [(frozen (callR F__law_pull (argsM [(varM 1), (constM (.int 7))]))), (frozen (op2 subD (callR F__law_pull (argsM [(varM 1), (frozen (op2 powD (constM (.int 10)) (constM (.int 9))))])) (mulM (constM (.int 5)) (op2 powD (constM (.int 10)) (constM (.int 8))))))])))])) (rangeL 0 r.toNat) b1 hb1 (by
    intro b d hd hb
    obtain ⟨p, b1, Γ1, hb1, p0, p1, e1⟩ := pull_ok b hb 7 (by decide) (by decide)
    obtain ⟨q, b2, Γ2, hb2, q0, q1, e2⟩ := pull_ok b1 hb1 1000000000 (by decide) (by decide)
    obtain ⟨z, b3, Γ3, hz, hb3, e3⟩ := of_ok b2 hb2 [.int p, .int (q - 500000000)] (by simp) (by simp)
    refine ⟨b3, z, hb3, ?_, ?_⟩
    · simp at hz
      rcases hz with h | h <;> exact ⟨_, h⟩
    · have e4 : small64 5 = true := by decide
      simp [e1, e2, e3, e4, sizeLine])
  obtain ⟨xs, rfl⟩ := ints_of hpe
  have hl : xs.length < 8 := by
    rw [List.length_map] at hes
    simp [rangeL] at hes
    omega
  obtain ⟨Γa, ha⟩ := lo_ok xs (by omega)
  obtain ⟨Γb, hbb⟩ := os_ok (.lst (xs.map D.int)) xs (.inl rfl)
  obtain ⟨Γc, hc⟩ := os_ok (.tup (xs.map D.int)) xs (.inr rfl)
  obtain ⟨Γd, hd⟩ := same_ok 6 1 (.lst [.int (sgn xs), .int (sgn xs)]) (by decide) (by simp [sizeLine])
  by_cases hlen : 1 < xs.length
  · have hlen' : (1 : Int) < xs.length := by omega
    obtain ⟨k, b3, Γ3, hb3, k0, k1, e3⟩ := pull_ok b2 hb2 xs.length (by omega) (by omega)
    obtain ⟨j, b4, Γ4, hb4, j0, j1, e4⟩ := pull_ok b3 hb3 ((xs.length : Int) - 1) (by omega) (by omega)
    have hn0 : 0 < xs.length := by omega
    have hq : ∃ q : Int, (k + 1 + j) % (xs.length : Int) = q ∧ 0 ≤ q ∧ q < xs.length ∧ q ≠ k := by
      refine ⟨_, rfl, Int.emod_nonneg _ (by omega), Int.emod_lt_of_pos _ (by omega), fun e => ?_⟩
      by_cases h : k + 1 + j < xs.length
      · rw [Int.emod_eq_of_lt (by omega) h] at e
        omega
      · have e5 : (k + 1 + j) % (xs.length : Int) = (k + 1 + j - xs.length) % (xs.length : Int) := by
          rw [Int.sub_emod, Int.emod_self, Int.sub_zero, Int.emod_emod]
        rw [e5, Int.emod_eq_of_lt (by omega) (by omega)] at e
        omega
    obtain ⟨q, eq, q0, q1, qk⟩ := hq
    have hkl : k.toNat < xs.length := by omega
    have hql : q.toNat < xs.length := by omega
    have hne : k.toNat ≠ q.toNat := by omega
    have g1 : atI (xs.map D.int) k = some (.int xs[k.toNat]) := atI_of k0 (by rw [List.getElem?_map, List.getElem?_eq_getElem hkl]; rfl)
    have g2 : atI (xs.map D.int) q = some (.int xs[q.toNat]) := atI_of q0 (by rw [List.getElem?_map, List.getElem?_eq_getElem hql]; rfl)
    have g3 : ixN xs.length k = some k.toNat := ixN_of k0 k1
    have g4 : ixN xs.length q = some q.toNat := ixN_of q0 q1
    have g5 : ∀ (zs : List Int) (i : Nat) (z : Int), ((zs.map D.int).map T.fz).set i (.fz (.int z)) = ((zs.set i z).map D.int).map T.fz := by
      intro zs i z
      rw [List.map_set, List.map_set]
    obtain ⟨Γe, he⟩ := os_ok (.lst (((xs.set k.toNat xs[q.toNat]).set q.toNat xs[k.toNat]).map D.int)) _ (.inl rfl)
    rw [sgn_exch hne (List.getElem?_eq_getElem hkl) (List.getElem?_eq_getElem hql)] at he
    obtain ⟨Γf, hf⟩ := same_ok 6 0 (.int (-sgn xs)) (by decide) (by simp)
    simp [-List.map_map, -List.map_set, e1, hr, hcomp, ha, hbb, hc, hd, hlen, hlen', e3, e4, sizeLine, hn0, eq, g1, g2, g3, g4, g5, pick, he, hf]
    exact ⟨b4, hb4, rfl⟩
  · have hlen' : ¬ (1 : Int) < xs.length := by omega
    simp [-List.map_map, e1, hr, hcomp, ha, hbb, hc, hd, hlen, hlen', sizeLine]
    exact ⟨b2, hb2, rfl⟩
theorem perm_ok (ns : List Int) (b : Bag) (hb : b.Ok) (x2 x4 x5 x6 x7 : Option T) : ∃ (b' : Bag) (xs ys : List Int) (y4 : Option T), b'.Ok ∧ xs.length = 64 ∧ loopM (nameG 4) (exprM (appendM (varM 3) (popAtM (varM 8) (callR F__law_pull (argsM [(varM 1), (frozen (callD lenD (argsM [(varM 8)])))]))))) (rangeL 0 64) [some (.fz (.scr ns)), some b.t, x2, some (.ol []), x4, x5, x6, x7, some (.ol ((rangeL 0 64).map T.fz))] = .ok .next [some (.fz (.scr ns)), some b'.t, x2, some (.ol ((xs.map D.int).map T.fz)), y4, x5, x6, x7, some (.ol ((ys.map D.int).map T.fz))] := by
  have e0 : rangeL 0 64 = ((List.range 64).map fun i : Nat => (i : Int)).map D.int := by
    unfold rangeL
    rw [List.map_map]
    apply List.map_congr_left
    intro i _
    show D.int (0 + (i : Int)) = D.int (i : Int)
    rw [Int.zero_add]
  obtain ⟨⟨b', xs, ys, y4⟩, ⟨h1, h2, h3⟩, h4⟩ := loop_invB (S := Bag × List Int × List Int × Option T) (fun s => [some (.fz (.scr ns)), some s.1.t, x2, some (.ol ((s.2.1.map D.int).map T.fz)), s.2.2.2, x5, x6, x7, some (.ol ((s.2.2.1.map D.int).map T.fz))]) (fun k s => s.1.Ok ∧ s.2.1.length = k ∧ s.2.1.length + s.2.2.1.length = 64) (g := nameG 4) (body := exprM (appendM (varM 3) (popAtM (varM 8) (callR F__law_pull (argsM [(varM 1), (frozen (callD lenD (argsM [(varM 8)])))]))))) (rangeL 0 64) 0 (b, [], ((List.range 64).map fun i : Nat => (i : Int)), x4) ⟨hb, rfl, rfl⟩ (by
    rintro j ⟨b, xs, ys, y4⟩ d hd ⟨h1, h2, h3⟩
    obtain ⟨hj, rfl⟩ := rangeL_get hd
    simp only at h1 h2 h3
    have hys : 0 < ys.length := by omega
    obtain ⟨r, b1, Γ1, hb1, r0, r1, e1⟩ := pull_ok b h1 ys.length (by omega) (by omega)
    have hrl : r.toNat < ys.length := by omega
    have g3 : ixN ys.length r = some r.toNat := ixN_of r0 r1
    refine ⟨(b1, xs ++ [ys[r.toNat]], ys.eraseIdx r.toNat, some (.fz (.int (0 + (j : Int))))), ⟨hb1, ?_, ?_⟩, ?_⟩
    · simp only [List.length_append, List.length_cons, List.length_nil]; omega
    · simp only [List.length_append, List.length_cons, List.length_nil, List.length_eraseIdx, hrl, if_true]; omega
    · have hsz : xs.length < sizeLine := by
        have : 100 ≤ sizeLine := by decide
        omega
      simp [-List.map_map, e1, g3, hrl, hsz, erase_map])
  refine ⟨b', xs, ys, y4, h1, ?_, ?_⟩
  · simp at h2; exact h2
  · rw [← h4]
    simp only
    rw [← e0]
    rfl
theorem law_sem (ns : List Int) (h : ns.length ≤ 63) : Gives (F_law [.fz (.scr ns)]) (.fz (.bl true)) := by
  obtain ⟨b, hb, Γ0, e0⟩ := bag_ok ns h
  obtain ⟨⟨b1, y2, y3, y4, y5, y6, y7⟩, hb1, e1⟩ := loop_inv (S := Bag × Option T × Option T × Option T × Option T × Option T × Option T) (fun s => [some (.fz (.scr ns)), some s.1.t, s.2.1, s.2.2.1, s.2.2.2.1, s.2.2.2.2.1, s.2.2.2.2.2.1, s.2.2.2.2.2.2, none]) (fun _ s => s.1.Ok) (g := nameG 2) (body := turnB) (rangeL 0 10) 0 (b, none, none, none, none, none, none) hb (by
    rintro k ⟨b, y2, y3, y4, y5, y6, y7⟩ d hd hb
    obtain ⟨Γ, e, b', z3, z4, z5, z6, z7, hb', rfl⟩ := turn_ok ns b hb (some (.fz d)) y3 y4 y5 y6 y7 none
    exact ⟨(b', some (.fz d), z3, z4, z5, z6, z7), hb', e⟩)
  obtain ⟨b2, xs, ys, z4, hb2, hxs, e2⟩ := perm_ok ns b1 hb1 y2 y4 y5 y6 y7
  have f1 : 100 ≤ sizeLine := by decide
  obtain ⟨Γa, ha⟩ := lo_ok xs (by omega)
  obtain ⟨Γb, hb⟩ := lo_ok xs.reverse (by rw [List.length_reverse]; omega)
  obtain ⟨Γc, hc⟩ := os_ok (.lst (xs.map D.int)) xs (.inl rfl)
  obtain ⟨Γd, hd⟩ := os_ok (.tup (xs.reverse.map D.int)) xs.reverse (.inr rfl)
  obtain ⟨Γe, he⟩ := same_ok 6 1 (.lst [.int (sgn xs), .int (sgn xs.reverse)]) (by decide) (by simp [sizeLine])
  obtain ⟨Γf, hf⟩ := same_ok 6 1 (.lst [.int 1, .int 1, .int (-1), .int 0]) (by decide) (by simp [sizeLine])
  obtain ⟨G1, h1⟩ := os_ok (.lst []) [] (.inl rfl)
  obtain ⟨G2, h2⟩ := os_ok (.lst [.int 5]) [5] (.inl rfl)
  obtain ⟨G3, h3⟩ := os_ok (.lst [.int 2, .int 1]) [2, 1] (.inl rfl)
  obtain ⟨G4, h4⟩ := os_ok (.lst [.int 2, .int 2, .int 2]) [2, 2, 2] (.inl rfl)
  rw [show sgn [] = 1 from rfl] at h1
  rw [show sgn [5] = 1 from rfl] at h2
  rw [show sgn [2, 1] = -1 from rfl] at h3
  rw [show sgn [2, 2, 2] = 0 from rfl] at h4
  have r10 : rngOk 0 10 = true := by decide
  have r64 : rngOk 0 64 = true := by decide
  simp only at e1
  simp [-List.map_map, F_law, den_law, e0, r10, r64, e1, e2, ha, hb, hc, hd, he, hf, h1, h2, h3, h4, sizeLine, ← List.map_reverse]
end DL
namespace DL
open PySem L2
theorem all_mk {l : PySem.W.OpenLaw} {w : World} {K : PySem.W.Frag} {h : Heap} {mg : Str → Option Value} {fa f1 f2 f3 f4 f5 f6 f7 : Addr} (X : K.In h) (G : h.Ns mainGlobals mg) (hfa : mg "law" = some (.ref fa))
    {od1 an1 od2 an2 od3 an3 od4 an4 od5 an5 od6 an6 od7 an7 : Option Addr} {sl1 sl2 sl3 sl4 sl5 sl6 sl7 : Array (Option Value)} {oc1 kV1 dc1 pm1 cd1 ct1 oc2 kV2 dc2 pm2 cd2 ct2 oc3 kV3 dc3 pm3 cd3 ct3 oc4 kV4 dc4 pm4 cd4 ct4 oc5 kV5 dc5 pm5 cd5 ct5 oc6 kV6 dc6 pm6 cd6 ct6 oc7 kV7 dc7 pm7 cd7 ct7 : Value}
    (a1 : PySem.W.nsIn K mainGlobals "order_sign" = some (some (.ref f1))) (l1 : K.lookup f1 = some ⟨oc1, od1, .func (PySem.W.fnOf "order_sign" "order_sign" (defArgs s_order_sign) (defBody s_order_sign) (defScope s_order_sign) .none kV1 dc1 pm1 an1 cd1 ct1), sl1⟩) (c1 : PySem.W.codeIn K cd1 "order_sign" = true) (k1 : PySem.W.keepIn K (.ref f1) = true)
    (a2 : PySem.W.nsIn K mainGlobals "_law_bag" = some (some (.ref f2))) (l2 : K.lookup f2 = some ⟨oc2, od2, .func (PySem.W.fnOf "_law_bag" "_law_bag" (defArgs s__law_bag) (defBody s__law_bag) (defScope s__law_bag) .none kV2 dc2 pm2 an2 cd2 ct2), sl2⟩) (c2 : PySem.W.codeIn K cd2 "_law_bag" = true) (k2 : PySem.W.keepIn K (.ref f2) = true)
    (a3 : PySem.W.nsIn K mainGlobals "_law_pull" = some (some (.ref f3))) (l3 : K.lookup f3 = some ⟨oc3, od3, .func (PySem.W.fnOf "_law_pull" "_law_pull" (defArgs s__law_pull) (defBody s__law_pull) (defScope s__law_pull) .none kV3 dc3 pm3 an3 cd3 ct3), sl3⟩) (c3 : PySem.W.codeIn K cd3 "_law_pull" = true) (k3 : PySem.W.keepIn K (.ref f3) = true)
    (a4 : PySem.W.nsIn K mainGlobals "_law_of" = some (some (.ref f4))) (l4 : K.lookup f4 = some ⟨oc4, od4, .func (PySem.W.fnOf "_law_of" "_law_of" (defArgs s__law_of) (defBody s__law_of) (defScope s__law_of) .none kV4 dc4 pm4 an4 cd4 ct4), sl4⟩) (c4 : PySem.W.codeIn K cd4 "_law_of" = true) (k4 : PySem.W.keepIn K (.ref f4) = true)
    (a5 : PySem.W.nsIn K mainGlobals "_law_same" = some (some (.ref f5))) (l5 : K.lookup f5 = some ⟨oc5, od5, .func (PySem.W.fnOf "_law_same" "_law_same" (defArgs s__law_same) (defBody s__law_same) (defScope s__law_same) .none kV5 dc5 pm5 an5 cd5 ct5), sl5⟩) (c5 : PySem.W.codeIn K cd5 "_law_same" = true) (k5 : PySem.W.keepIn K (.ref f5) = true)
    (a6 : PySem.W.nsIn K mainGlobals "_law_order" = some (some (.ref f6))) (l6 : K.lookup f6 = some ⟨oc6, od6, .func (PySem.W.fnOf "_law_order" "_law_order" (defArgs s__law_order) (defBody s__law_order) (defScope s__law_order) .none kV6 dc6 pm6 an6 cd6 ct6), sl6⟩) (c6 : PySem.W.codeIn K cd6 "_law_order" = true) (k6 : PySem.W.keepIn K (.ref f6) = true)
    (a7 : PySem.W.nsIn K mainGlobals "law" = some (some (.ref f7))) (l7 : K.lookup f7 = some ⟨oc7, od7, .func (PySem.W.fnOf "law" "law" (defArgs s_law) (defBody s_law) (defScope s_law) .none kV7 dc7 pm7 an7 cd7 ct7), sl7⟩) (c7 : PySem.W.codeIn K cd7 "law" = true) (k7 : PySem.W.keepIn K (.ref f7) = true)
    (z1 : PySem.W.nsIn K mainGlobals "all" = some none)
    (z2 : PySem.W.nsIn K mainGlobals "bool" = some none)
    (z3 : PySem.W.nsIn K mainGlobals "enumerate" = some none)
    (z4 : PySem.W.nsIn K mainGlobals "int" = some none)
    (z5 : PySem.W.nsIn K mainGlobals "isinstance" = some none)
    (z6 : PySem.W.nsIn K mainGlobals "len" = some none)
    (z7 : PySem.W.nsIn K mainGlobals "list" = some none)
    (z8 : PySem.W.nsIn K mainGlobals "range" = some none)
    (z9 : PySem.W.nsIn K mainGlobals "str" = some none)
    (z10 : PySem.W.nsIn K mainGlobals "tuple" = some none)
    : ∃ fd : FuncData, (∀ (s : Shared) (v : Value), BindsTo s fd ⟨[v], []⟩ [("_law_script", v)]) ∧ ∀ base : Heap, K.In base → base.Ns mainGlobals mg → FnOk l.prog w K mg base (L2.CX l.prog w) 8 fa fd ["_law_script"] (spOf K (fun _ => none) 1 false F_law) := by
  have e := hfa.symm.trans (PySem.W.mg_of X G a7)
  cases e
  have q1 := fun_mk (st := s_order_sign) l1 c1 k1
  have b1 := q1.binds (ps := ["row"]) fun _ _ _ _ _ _ us hl => match us, hl with | [_], _ => rfl
  have q2 := fun_mk (st := s__law_bag) l2 c2 k2
  have b2 := q2.binds (ps := ["_law_script"]) fun _ _ _ _ _ _ us hl => match us, hl with | [_], _ => rfl
  have q3 := fun_mk (st := s__law_pull) l3 c3 k3
  have b3 := q3.binds (ps := ["_law_bag_here", "_law_many"]) fun _ _ _ _ _ _ us hl => match us, hl with | [_, _], _ => rfl
  have q4 := fun_mk (st := s__law_of) l4 c4 k4
  have b4 := q4.binds (ps := ["_law_bag_here", "_law_some"]) fun _ _ _ _ _ _ us hl => match us, hl with | [_, _], _ => rfl
  have q5 := fun_mk (st := s__law_same) l5 c5 k5
  have b5 := q5.binds (ps := ["_law_found", "_law_due"]) fun _ _ _ _ _ _ us hl => match us, hl with | [_, _], _ => rfl
  have q6 := fun_mk (st := s__law_order) l6 c6 k6
  have b6 := q6.binds (ps := ["_law_row9"]) fun _ _ _ _ _ _ us hl => match us, hl with | [_], _ => rfl
  have q7 := fun_mk (st := s_law) l7 c7 k7
  have b7 := q7.binds (ps := ["_law_script"]) fun _ _ _ _ _ _ us hl => match us, hl with | [_], _ => rfl
  exact ⟨(PySem.W.fnOf "law" "law" (defArgs s_law) (defBody s_law) (defScope s_law) .none kV7 dc7 pm7 an7 cd7 ct7), fun s v => .of_eq rfl, fun base _ _ => ok_law (⟨f1, (PySem.W.fnOf "order_sign" "order_sign" (defArgs s_order_sign) (defBody s_order_sign) (defScope s_order_sign) .none kV1 dc1 pm1 an1 cd1 ct1), q1, PySem.W.mg_of X G a1, b1, f2, (PySem.W.fnOf "_law_bag" "_law_bag" (defArgs s__law_bag) (defBody s__law_bag) (defScope s__law_bag) .none kV2 dc2 pm2 an2 cd2 ct2), q2, PySem.W.mg_of X G a2, b2, f3, (PySem.W.fnOf "_law_pull" "_law_pull" (defArgs s__law_pull) (defBody s__law_pull) (defScope s__law_pull) .none kV3 dc3 pm3 an3 cd3 ct3), q3, PySem.W.mg_of X G a3, b3, f4, (PySem.W.fnOf "_law_of" "_law_of" (defArgs s__law_of) (defBody s__law_of) (defScope s__law_of) .none kV4 dc4 pm4 an4 cd4 ct4), q4, PySem.W.mg_of X G a4, b4, f5, (PySem.W.fnOf "_law_same" "_law_same" (defArgs s__law_same) (defBody s__law_same) (defScope s__law_same) .none kV5 dc5 pm5 an5 cd5 ct5), q5, PySem.W.mg_of X G a5, b5, f6, (PySem.W.fnOf "_law_order" "_law_order" (defArgs s__law_order) (defBody s__law_order) (defScope s__law_order) .none kV6 dc6 pm6 an6 cd6 ct6), q6, PySem.W.mg_of X G a6, b6, _, (PySem.W.fnOf "law" "law" (defArgs s_law) (defBody s_law) (defScope s_law) .none kV7 dc7 pm7 an7 cd7 ct7), q7, PySem.W.mg_of X G a7, b7, PySem.W.mg_none_of X G z1, PySem.W.mg_none_of X G z2, PySem.W.mg_none_of X G z3, PySem.W.mg_none_of X G z4, PySem.W.mg_none_of X G z5, PySem.W.mg_none_of X G z6, PySem.W.mg_none_of X G z7, PySem.W.mg_none_of X G z8, PySem.W.mg_none_of X G z9, PySem.W.mg_none_of X G z10⟩ : Tp K mg)⟩
end DL
open PySem PySem.W PyProof.Rows
set_option maxHeartbeats 0 in
theorem PySem.Challenge.cw_signcleave_k03_signs_of_orders_holds : PySem.Challenge.rw_signcleave_k03_signs_of_orders.Holds := by
  w_on; o_law; k_head; (case hw => w_witness2)
  k_fill
  refine L2.walk_of (l := PySem.Challenge.rw_signcleave_k03_signs_of_orders) (n := 63) (k := 8) (x := "_law_script") (CX := fun w => L2.CX PySem.Challenge.rw_signcleave_k03_signs_of_orders.prog w) (sp := fun w => DL.spOf _ (fun _ => none) 1 false DL.F_law) rfl (by decide) rfl ⟨rfl, by decide, by decide⟩ (fun w h Y => PySem.W.kIn_of Y) ?F (fun _ _ a ns hl _ hS => DL.sp_law hS hl (DL.law_sem ns hl)) (fun _ _ _ _ _ h => DL.cx_no h)
  case F =>
    intro w mg fa h KX G hmg
    refine' DL.all_mk KX G hmg ?a1 ?l1 ?c1 ?k1 ?a2 ?l2 ?c2 ?k2 ?a3 ?l3 ?c3 ?k3 ?a4 ?l4 ?c4 ?k4 ?a5 ?l5 ?c5 ?k5 ?a6 ?l6 ?c6 ?k6 ?a7 ?l7 ?c7 ?k7 ?z1 ?z2 ?z3 ?z4 ?z5 ?z6 ?z7 ?z8 ?z9 ?z10
    (case a1 => k_is); (case l1 => k_is); (case c1 => k_is); (case k1 => k_is); (case a2 => k_is); (case l2 => k_is); (case c2 => k_is); (case k2 => k_is); (case a3 => k_is); (case l3 => k_is); (case c3 => k_is); (case k3 => k_is); (case a4 => k_is); (case l4 => k_is); (case c4 => k_is); (case k4 => k_is); (case a5 => k_is); (case l5 => k_is); (case c5 => k_is); (case k5 => k_is); (case a6 => k_is); (case l6 => k_is); (case c6 => k_is); (case k6 => k_is); (case a7 => k_is); (case l7 => k_is); (case c7 => k_is); (case k7 => k_is); (case z1 => k_is); (case z2 => k_is); (case z3 => k_is); (case z4 => k_is); (case z5 => k_is); (case z6 => k_is); (case z7 => k_is); (case z8 => k_is); (case z9 => k_is); (case z10 => k_is)
