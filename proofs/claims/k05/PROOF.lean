import PyProof.Rows.All
import HandS.ForMost
import HandS.ForExc
import HandS.CallSlots
import HandS.Lambda
import KE.KDflt
import HandS.IsInst
import HandS.TupAny
import HandS.Style
import HandS.Conv
import HandS.SortInts
import HandS.Walk
import HandS.Zip
import KE.GoesMore
import HandS.ExcInit
import HandS.ExcField
import HandS.ClsMeth
import HandS.Defaults
import HandS.TryMany
import KE.GoesZip
import HandS.Deep
import HandS.EndTab
import PyProof.EqAt
import PyProof.SeqIndex
import HandS.More
import HandS.Text
import HandS.SortRule
import HandS.SetBool
import HandS.Strs
import HandS.FStr
import HandS.NoneIn
import HandS.WideBits
import PySem.Challenge.RW_signcleave_k05_whole_boxes_multiply
import Wide.All
import OpenK.AllK
import Wide.FinOn
set_option Elab.async false
set_option linter.all false
set_option maxRecDepth 100000
/-! data, trees of owned objects, what stands of them in the heap -/
namespace DL
open PySem L2
/-- a lambda of the frame at work: its parts, its cells, its default -/
structure LamI where
  q : Str
  params : Arguments
  body : Expr
  scope : Scope
  cs : List (Str × Addr)
  is : List Int
/-- one default at the most, a whole number -/
def dflts : List Int → List Value → Prop
  | [], vs => vs = []
  | [i], vs => ∃ t, vs = [.int i t]
  | _, _ => False
/-- a lambda's object; its defaults' tuple -/
def FnO (f c' : Addr) (L : LamI) (dV : Value) : HO := .ext fun h => ∃ doc pm ctv, h.get? f = some (PySem.W.kdv_obj "<lambda>" L.q L.params (.expr L.body) L.scope L.cs dV doc pm c' ctv)
def DfO (td : Addr) (dvs : List Value) : HO := .ext fun h => h.get? td = some (PySem.W.kdv_tup dvs)
def DfOk (F : Hp) (dV : Value) (dvs : List Value) : Prop := (dvs = [] ∧ dV = .none) ∨ (dvs ≠ [] ∧ ∃ td, dV = .ref td ∧ F td = some (DfO td dvs))
/-- the classes by their names; the tables of lambdas; the lambdas of the frame at work -/
structure Cl where
  of : Str → Option Addr
  T : List (Addr × Str)
  lam : List LamI
instance : CoeFun Cl (fun _ => Str → Option Addr) := ⟨Cl.of⟩
/-- no table -/
abbrev NT (o : HO) : Prop := ∀ ps, o ≠ .tbl ps
/-- a thing known by what is true of it -/
def Ex0 (o : HO) : Prop := ∃ φ, o = .ext φ
/-- what may be owned -/
abbrev NX (o : HO) : Prop := NT o ∧ ¬ Ex0 o
/-- all stays but the tables, which may grow -/
def Ext (H H' : Hp) : Prop := ∀ b o, H b = some o → ∃ o', H' b = some o' ∧ (NT o → o' = o)

/-- frozen data -/
inductive D where
  | non | bl (b : Bool) | int (i : Int) | str (s : Str)
  | lst (ds : List D) | tup (ds : List D) | scr (ns : List Int)
  | dK (kds : List (Key × D)) | dT (kds : List (List Key × D))
  | ins (c : Str) (fds : List (Str × D))
  | clo (i : Nat)

/-- owned trees; al i: the tree that slot i owns -/
inductive T where
  | fz (d : D) | ol (ts : List T) | oi (c : Str) (fts : List (Str × T)) | al (i : Nat)

abbrev Env := List (Option T)
structure Exn where
  cls : Str
  fds : List (Str × D)
inductive Out (α : Type) where
  | ok (a : α) (Γ : Env) | exc (x : Exn) (Γ : Env) | bad
abbrev M (α : Type) := Env → Out α

def Out.bind {α β : Type} (o : Out α) (k : α → M β) : Out β := match o with
  | .ok a Γ => k a Γ
  | .exc x Γ => .exc x Γ
  | .bad => .bad
def Out.Wp {α : Type} (o : Out α) (P : α → Env → Prop) (E : Exn → Env → Prop) : Prop := match o with
  | .ok a Γ => P a Γ
  | .exc x Γ => E x Γ
  | .bad => False
theorem Out.wp_bind {α β : Type} {o : Out α} {k : α → M β} {P : β → Env → Prop} {E : Exn → Env → Prop} (h : (o.bind k).Wp P E) : o.Wp (fun a Γ => (k a Γ).Wp P E) E := by
  cases o with
  | ok a Γ => exact h
  | exc x Γ => exact h
  | bad => exact h
theorem Out.bind_assoc {α β γ : Type} (o : Out α) (k : α → M β) (l : β → M γ) : (o.bind k).bind l = o.bind fun a Γ => (k a Γ).bind l := by
  cases o <;> rfl
theorem Out.wp_assoc {α β γ : Type} {o : Out α} {k : α → M β} {l : β → M γ} {P : γ → Env → Prop} {E : Exn → Env → Prop} (h : ((o.bind k).bind l).Wp P E) : (o.bind fun a Γ => (k a Γ).bind l).Wp P E := by
  rw [← Out.bind_assoc]
  exact h
theorem Out.wp_mono {α : Type} {o : Out α} {P P' : α → Env → Prop} {E E' : Exn → Env → Prop} (h : o.Wp P E) (hp : ∀ a Γ, P a Γ → P' a Γ) (he : ∀ x Γ, E x Γ → E' x Γ) : o.Wp P' E' := by
  cases o with
  | ok a Γ => exact hp _ _ h
  | exc x Γ => exact he _ _ h
  | bad => exact h

/-! ### frozen data in a heap -/
mutual
inductive Dt (K : PySem.W.Frag) (cl : Cl) (F : Hp) : V → D → Prop
  | non : Dt K cl F .non .non
  | bl (b : Bool) : Dt K cl F (.bl b) (.bl b)
  | int (i : Int) : Dt K cl F (.int i) (.int i)
  | str (s : Str) : Dt K cl F (.str s) (.str s)
  | lst {a : Addr} {vs : List V} {ds : List D} : F a = some (.lst vs) → vs.length ≤ sizeLine → Dts K cl F vs ds → Dt K cl F (.ref a) (.lst ds)
  | tup {a : Addr} {vs : List V} {ds : List D} : SqT K F a vs → vs.length ≤ sizeLine → Dts K cl F vs ds → Dt K cl F (.ref a) (.tup ds)
  | scr {a : Addr} {ns : List Int} : SqL K F a (ns.map V.int) → ns.length ≤ sizeLine → Dt K cl F (.ref a) (.scr ns)
  | dK {a : Addr} {kvs : List (Key × V)} {kds : List (Key × D)} : F a = some (.dK kvs) → kvs.map (·.1) = kds.map (·.1) → Dts K cl F (kvs.map (·.2)) (kds.map (·.2)) → Dt K cl F (.ref a) (.dK kds)
  | dT {a : Addr} {kvs : List (List Key × V)} {kds : List (List Key × D)} : F a = some (.dT kvs) → kvs.map (·.1) = kds.map (·.1) → Dts K cl F (kvs.map (·.2)) (kds.map (·.2)) → Dt K cl F (.ref a) (.dT kds)
  | ins {a C dx : Addr} {c : Str} {fs : List (Str × V)} {fds : List (Str × D)} : F a = some (.ins C dx fs) → cl c = some C → fs.map (·.1) = fds.map (·.1) → Dts K cl F (fs.map (·.2)) (fds.map (·.2)) → Dt K cl F (.ref a) (.ins c fds)
  | clo {f c' : Addr} {i : Nat} {L : LamI} {dV : Value} {dvs : List Value} : cl.lam[i]? = some L → F f = some (FnO f c' L dV) → F c' = some (LamX.CodeO c' L.q) → DfOk F dV dvs → dflts L.is dvs → Dt K cl F (.ref f) (.clo i)
inductive Dts (K : PySem.W.Frag) (cl : Cl) (F : Hp) : List V → List D → Prop
  | nil : Dts K cl F [] []
  | cons {v : V} {vs : List V} {d : D} {ds : List D} : Dt K cl F v d → Dts K cl F vs ds → Dts K cl F (v :: vs) (d :: ds)
end
def Sub (F H : Hp) : Prop := ∀ a o, F a = some o → H a = some o
theorem Sub.ext {H H' : Hp} (h : Sub H H') : Ext H H' := fun b o e => ⟨o, h b o e, fun _ => rfl⟩
theorem Ext.refl (H : Hp) : Ext H H := fun b o e => ⟨o, e, fun _ => rfl⟩
theorem Ext.nt {H H' : Hp} (h : Ext H H') {b : Addr} {o : HO} (e : H b = some o) (n : NT o) : H' b = some o := by
  obtain ⟨o', e', q⟩ := h b o e
  rw [e', q n]
theorem nt_lst {vs : List V} : NT (.lst vs) := fun _ z => by cases z
theorem nt_tup {vs : List V} : NT (.tup vs) := fun _ z => by cases z
theorem nt_ins {C dx : Addr} {fs : List (Str × V)} : NT (.ins C dx fs) := fun _ z => by cases z
theorem nx_lst {vs : List V} : NX (.lst vs) := ⟨nt_lst, fun ⟨_, z⟩ => by cases z⟩
theorem nx_ins {C dx : Addr} {fs : List (Str × V)} : NX (.ins C dx fs) := ⟨nt_ins, fun ⟨_, z⟩ => by cases z⟩
theorem Sub.refl (F : Hp) : Sub F F := fun _ _ h => h
theorem Sub.trans {F G H : Hp} (a : Sub F G) (b : Sub G H) : Sub F H := fun x o h => b x o (a x o h)
theorem Sub.sqT {K : PySem.W.Frag} {F H : Hp} {a : Addr} {vs : List V} (e : Sub F H) (h : SqT K F a vs) : SqT K H a vs := by
  rcases h with (h | ⟨o, h⟩) | h
  · exact Or.inl (Or.inl (e _ _ h))
  · exact Or.inl (Or.inr ⟨o, e _ _ h⟩)
  · exact Or.inr h
theorem Sub.sqL {K : PySem.W.Frag} {F H : Hp} {a : Addr} {vs : List V} (e : Sub F H) (h : SqL K F a vs) : SqL K H a vs := by
  rcases h with (h | ⟨o, h⟩) | h
  · exact Or.inl (Or.inl (e _ _ h))
  · exact Or.inl (Or.inr ⟨o, e _ _ h⟩)
  · exact Or.inr h
section
variable {K : PySem.W.Frag} {cl : Cl} {F F' : Hp}
mutual
theorem Dt.mono (e : Sub F F') : ∀ {v : V} {d : D}, Dt K cl F v d → Dt K cl F' v d
  | _, _, .non => .non
  | _, _, .bl b => .bl b
  | _, _, .int i => .int i
  | _, _, .str s => .str s
  | _, _, .lst h hl hs => .lst (e _ _ h) hl (Dts.mono e hs)
  | _, _, .tup h hl hs => .tup (e.sqT h) hl (Dts.mono e hs)
  | _, _, .scr h hl => .scr (e.sqL h) hl
  | _, _, .dK h hk hs => .dK (e _ _ h) hk (Dts.mono e hs)
  | _, _, .dT h hk hs => .dT (e _ _ h) hk (Dts.mono e hs)
  | _, _, .ins h hc hk hs => .ins (e _ _ h) hc hk (Dts.mono e hs)
  | _, _, .clo h1 h2 h3 h4 h5 => .clo h1 (e _ _ h2) (e _ _ h3) (h4.imp id fun ⟨n, td, a, b⟩ => ⟨n, td, a, e _ _ b⟩) h5
theorem Dts.mono (e : Sub F F') : ∀ {vs : List V} {ds : List D}, Dts K cl F vs ds → Dts K cl F' vs ds
  | _, _, .nil => .nil
  | _, _, .cons h hs => .cons (Dt.mono e h) (Dts.mono e hs)
end
/-- a heap without its tables -/
def nts (H : Hp) : Hp := fun a => match H a with
  | some (.tbl _) => none
  | o => o
theorem nts_of {H : Hp} {a : Addr} {o : HO} (h : H a = some o) (n : NT o) : nts H a = some o := by
  unfold nts
  rw [h]
  cases o <;> first | rfl | exact absurd rfl (n _)
theorem nts_sub {H : Hp} : Sub (nts H) H := fun a o e => by
  unfold nts at e
  split at e
  · cases e
  · exact e
theorem nts_nt {H : Hp} {a : Addr} {o : HO} (e : nts H a = some o) : NT o := fun ps z => by
  subst z
  unfold nts at e
  split at e
  · cases e
  · rename_i n
    exact n ps e
mutual
theorem Dt.nts : ∀ {v : V} {d : D}, Dt K cl F v d → Dt K cl (nts F) v d
  | _, _, .non => .non
  | _, _, .bl b => .bl b
  | _, _, .int i => .int i
  | _, _, .str s => .str s
  | _, _, .lst h hl hs => .lst (nts_of h nt_lst) hl (Dts.nts hs)
  | _, _, .tup h hl hs => .tup (by
      rcases h with (h | ⟨o, h⟩) | h
      · exact Or.inl (Or.inl (nts_of h nt_tup))
      · exact Or.inl (Or.inr ⟨o, nts_of h (fun _ z => by cases z)⟩)
      · exact Or.inr h) hl (Dts.nts hs)
  | _, _, .scr h hl => .scr (by
      rcases h with (h | ⟨o, h⟩) | h
      · exact Or.inl (Or.inl (nts_of h nt_lst))
      · exact Or.inl (Or.inr ⟨o, nts_of h (fun _ z => by cases z)⟩)
      · exact Or.inr h) hl
  | _, _, .dK h hk hs => .dK (nts_of h (fun _ z => by cases z)) hk (Dts.nts hs)
  | _, _, .dT h hk hs => .dT (nts_of h (fun _ z => by cases z)) hk (Dts.nts hs)
  | _, _, .ins h hc hk hs => .ins (nts_of h nt_ins) hc hk (Dts.nts hs)
  | _, _, .clo h1 h2 h3 h4 h5 => .clo h1 (nts_of h2 (fun _ z => by cases z)) (nts_of h3 (fun _ z => by cases z)) (h4.imp id fun ⟨n, td, a, b⟩ => ⟨n, td, a, nts_of b (fun _ z => by cases z)⟩) h5
theorem Dts.nts : ∀ {vs : List V} {ds : List D}, Dts K cl F vs ds → Dts K cl (nts F) vs ds
  | _, _, .nil => .nil
  | _, _, .cons h hs => .cons (Dt.nts h) (Dts.nts hs)
end
theorem Dts.length : ∀ {vs : List V} {ds : List D}, Dts K cl F vs ds → vs.length = ds.length
  | _, _, .nil => rfl
  | _, _, .cons _ hs => congrArg (· + 1) (Dts.length hs)
theorem Dts.get : ∀ {vs : List V} {ds : List D} {i : Nat} {d : D}, Dts K cl F vs ds → ds[i]? = some d → ∃ v, vs[i]? = some v ∧ Dt K cl F v d
  | _, _, _, _, .nil, e => by simp at e
  | _, _, 0, _, .cons h _, e => by simp at e; subst e; exact ⟨_, rfl, h⟩
  | _, _, i + 1, d, .cons _ hs, e => by
    obtain ⟨v, h1, h2⟩ := Dts.get (i := i) (d := d) hs (by simpa using e)
    exact ⟨v, by simpa using h1, h2⟩
theorem Dts.getV : ∀ {vs : List V} {ds : List D} {i : Nat} {v : V}, Dts K cl F vs ds → vs[i]? = some v → ∃ d, ds[i]? = some d ∧ Dt K cl F v d
  | _, _, _, _, .nil, e => by simp at e
  | _, _, 0, _, .cons h _, e => by simp at e; subst e; exact ⟨_, rfl, h⟩
  | _, _, i + 1, d, .cons _ hs, e => by
    obtain ⟨v, h1, h2⟩ := Dts.getV (i := i) (v := d) hs (by simpa using e)
    exact ⟨v, by simpa using h1, h2⟩
theorem Dts.append : ∀ {vs ws : List V} {ds es : List D}, Dts K cl F vs ds → Dts K cl F ws es → Dts K cl F (vs ++ ws) (ds ++ es)
  | _, _, _, _, .nil, h => h
  | _, _, _, _, .cons h hs, h2 => .cons h (Dts.append hs h2)
theorem Dts.take : ∀ {vs : List V} {ds : List D} (n : Nat), Dts K cl F vs ds → Dts K cl F (vs.take n) (ds.take n)
  | _, _, 0, _ => .nil
  | _, _, _ + 1, .nil => .nil
  | _, _, n + 1, .cons h hs => .cons h (Dts.take n hs)
theorem Dts.drop : ∀ {vs : List V} {ds : List D} (n : Nat), Dts K cl F vs ds → Dts K cl F (vs.drop n) (ds.drop n)
  | _, _, 0, h => h
  | _, _, _ + 1, .nil => .nil
  | _, _, n + 1, .cons _ hs => Dts.drop n hs
theorem Dts.set {v : V} {d : D} (h : Dt K cl F v d) : ∀ {vs : List V} {ds : List D} (n : Nat), Dts K cl F vs ds → Dts K cl F (vs.set n v) (ds.set n d)
  | _, _, _, .nil => .nil
  | _, _, 0, .cons _ hs => .cons h hs
  | _, _, n + 1, .cons q hs => .cons q (Dts.set h n hs)
theorem Dts.reverse : ∀ {vs : List V} {ds : List D}, Dts K cl F vs ds → Dts K cl F vs.reverse ds.reverse
  | _, _, .nil => .nil
  | _, _, .cons h hs => by
    rw [List.reverse_cons, List.reverse_cons]
    exact (Dts.reverse hs).append (.cons h .nil)
theorem Dts.ints : ∀ {vs : List V} {ns : List Int}, Dts K cl F vs (ns.map D.int) → vs = ns.map V.int
  | _, [], h => by cases h; rfl
  | _, n :: ns, h => by
    cases h with
    | cons h hs => cases h; rw [Dts.ints hs]; rfl
theorem Dts.ofInts : ∀ {ns : List Int}, Dts K cl F (ns.map V.int) (ns.map D.int)
  | [] => .nil
  | n :: ns => .cons (.int n) Dts.ofInts
end

/-! ### owned trees -/
mutual
inductive OwT (K : PySem.W.Frag) (cl : Cl) (F H : Hp) : (Addr → Prop) → V → T → Prop
  | fz {S : Addr → Prop} {v : V} {d : D} : Dt K cl F v d → OwT K cl F H S v (.fz d)
  | ol {S : Addr → Prop} {a : Addr} {vs : List V} {ts : List T} (sub : Addr → Option Nat) : H a = some (.lst vs) → vs.length ≤ sizeLine → S a → OwTs K cl F H (fun i b => S b ∧ b ≠ a ∧ sub b = some i) 0 vs ts → OwT K cl F H S (.ref a) (.ol ts)
  | oi {S : Addr → Prop} {a C dx : Addr} {c : Str} {fs : List (Str × V)} {fts : List (Str × T)} (sub : Addr → Option Nat) : H a = some (.ins C dx fs) → cl c = some C → S a → fs.map (·.1) = fts.map (·.1) →
      OwTs K cl F H (fun i b => S b ∧ b ≠ a ∧ sub b = some i) 0 (fs.map (·.2)) (fts.map (·.2)) → OwT K cl F H S (.ref a) (.oi c fts)
inductive OwTs (K : PySem.W.Frag) (cl : Cl) (F H : Hp) : (Nat → Addr → Prop) → Nat → List V → List T → Prop
  | nil {Si : Nat → Addr → Prop} {i : Nat} : OwTs K cl F H Si i [] []
  | cons {Si : Nat → Addr → Prop} {i : Nat} {v : V} {vs : List V} {t : T} {ts : List T} : OwT K cl F H (Si i) v t → OwTs K cl F H Si (i + 1) vs ts → OwTs K cl F H Si i (v :: vs) (t :: ts)
end
section
variable {K : PySem.W.Frag} {cl : Cl} {F F' H H' : Hp}
mutual
/-- kept, where the frozen grows and the owned stays -/
theorem OwT.keep (e : Sub F F') : ∀ {S S' : Addr → Prop} {v : V} {t : T}, (∀ a o, S a → H a = some o → H' a = some o) → (∀ a, S a → S' a) → OwT K cl F H S v t → OwT K cl F' H' S' v t
  | _, _, _, _, _, _, .fz h => .fz (h.mono e)
  | _, _, _, _, k, m, .ol sub h hl s hs => .ol sub (k _ _ s h) hl (m _ s) (OwTs.keep e (fun _ a o q => k a o q.1) (fun _ a q => ⟨m a q.1, q.2⟩) hs)
  | _, _, _, _, k, m, .oi sub h hc s hk hs => .oi sub (k _ _ s h) hc (m _ s) hk (OwTs.keep e (fun _ a o q => k a o q.1) (fun _ a q => ⟨m a q.1, q.2⟩) hs)
theorem OwTs.keep (e : Sub F F') : ∀ {Si Si' : Nat → Addr → Prop} {i : Nat} {vs : List V} {ts : List T}, (∀ j a o, Si j a → H a = some o → H' a = some o) → (∀ j a, Si j a → Si' j a) → OwTs K cl F H Si i vs ts → OwTs K cl F' H' Si' i vs ts
  | _, _, _, _, _, _, _, .nil => .nil
  | _, _, _, _, _, k, m, .cons h hs => .cons (OwT.keep e (k _) (m _) h) (OwTs.keep e k m hs)
end
end
mutual
def T.toD : T → Option D
  | .fz d => some d
  | .ol ts => (T.toDs ts).map D.lst
  | .oi c fts => (T.toFs fts).map (D.ins c)
  | .al _ => none
def T.toDs : List T → Option (List D)
  | [] => some []
  | t :: ts => match T.toD t, T.toDs ts with
    | some d, some ds => some (d :: ds)
    | _, _ => none
def T.toFs : List (Str × T) → Option (List (Str × D))
  | [] => some []
  | (f, t) :: r => match T.toD t, T.toFs r with
    | some d, some ds => some ((f, d) :: ds)
    | _, _ => none
end
theorem T.toFs_eq : ∀ {fts : List (Str × T)} {fds : List (Str × D)}, T.toFs fts = some fds → fts.map (·.1) = fds.map (·.1) ∧ T.toDs (fts.map (·.2)) = some (fds.map (·.2))
  | [], fds, h => by
    simp [T.toFs] at h
    subst h
    exact ⟨rfl, rfl⟩
  | (f, t) :: r, fds, h => by
    unfold T.toFs at h
    cases h1 : T.toD t with
    | none => simp [h1] at h
    | some d =>
      cases h2 : T.toFs r with
      | none => simp [h1, h2] at h
      | some ds =>
        simp [h1, h2] at h
        subst h
        obtain ⟨e1, e2⟩ := T.toFs_eq h2
        refine ⟨by simp [e1], ?_⟩
        show T.toDs (t :: r.map (·.2)) = _
        unfold T.toDs
        rw [h1, e2]
        rfl
section
variable {K : PySem.W.Frag} {cl : Cl} {F F' H : Hp}
mutual
/-- an owned tree as data of any heap that has its objects -/
theorem OwT.data (e : Sub F F') : ∀ {S : Addr → Prop} {v : V} {t : T} {d : D}, (∀ a o, S a → H a = some o → F' a = some o) → OwT K cl F H S v t → t.toD = some d → Dt K cl F' v d
  | _, _, _, _, _, .fz h, q => by
    have q' : some _ = some _ := q
    cases q'
    exact h.mono e
  | _, _, .ol ts, d, k, .ol sub h hl s hs, q => by
    unfold T.toD at q
    cases h1 : T.toDs ts with
    | none => rw [h1] at q; cases q
    | some ds =>
      rw [h1] at q
      have q' : some (D.lst ds) = some d := q
      cases q'
      exact .lst (k _ _ s h) hl (OwTs.data e (fun _ a o z => k a o z.1) hs h1)
  | _, _, .oi c fts, d, k, .oi sub h hc s hk hs, q => by
    unfold T.toD at q
    cases h1 : T.toFs fts with
    | none => rw [h1] at q; cases q
    | some ds =>
      rw [h1] at q
      have q' : some (D.ins c ds) = some d := q
      cases q'
      obtain ⟨e1, e2⟩ := T.toFs_eq h1
      exact .ins (k _ _ s h) hc (hk.trans e1) (OwTs.data e (fun _ a o z => k a o z.1) hs e2)
theorem OwTs.data (e : Sub F F') : ∀ {Si : Nat → Addr → Prop} {i : Nat} {vs : List V} {ts : List T} {ds : List D}, (∀ j a o, Si j a → H a = some o → F' a = some o) → OwTs K cl F H Si i vs ts → T.toDs ts = some ds → Dts K cl F' vs ds
  | _, _, _, _, _, _, .nil, q => by
    have q' : some _ = some _ := q
    cases q'
    exact .nil
  | _, _, _, t :: ts, ds, k, .cons h hs, q => by
    unfold T.toDs at q
    cases h1 : T.toD t with
    | none => simp [h1] at q
    | some d =>
      cases h2 : T.toDs ts with
      | none => simp [h1, h2] at q
      | some es =>
        simp [h1, h2] at q
        subst q
        exact .cons (OwT.data e (k _) h h1) (OwTs.data e k hs h2)
end
theorem OwTs.length : ∀ {Si : Nat → Addr → Prop} {i : Nat} {vs : List V} {ts : List T}, OwTs K cl F H Si i vs ts → vs.length = ts.length
  | _, _, _, _, .nil => rfl
  | _, _, _, _, .cons _ hs => congrArg (· + 1) (OwTs.length hs)
theorem OwTs.get : ∀ {Si : Nat → Addr → Prop} {i j : Nat} {vs : List V} {ts : List T} {t : T}, OwTs K cl F H Si i vs ts → ts[j]? = some t → ∃ v, vs[j]? = some v ∧ OwT K cl F H (Si (i + j)) v t
  | _, _, _, _, _, _, .nil, e => by simp at e
  | _, _, 0, _, _, _, .cons h _, e => by simp at e; subst e; exact ⟨_, rfl, h⟩
  | _, i, j + 1, _, _, t, .cons _ hs, e => by
    obtain ⟨v, h1, h2⟩ := OwTs.get (j := j) (t := t) hs (by simpa using e)
    refine ⟨v, by simpa using h1, ?_⟩
    rw [show i + (j + 1) = i + 1 + j by omega]
    exact h2
theorem OwTs.set {Si : Nat → Addr → Prop} : ∀ {i j : Nat} {vs : List V} {ts : List T} {v : V} {t : T}, OwTs K cl F H Si i vs ts → OwT K cl F H (Si (i + j)) v t → OwTs K cl F H Si i (vs.set j v) (ts.set j t)
  | _, _, _, _, _, _, .nil, _ => .nil
  | _, 0, _, _, _, _, .cons _ hs, q => .cons q hs
  | i, j + 1, _, _, _, _, .cons h hs, q => .cons h (OwTs.set (j := j) hs (by rw [show i + 1 + j = i + (j + 1) by omega]; exact q))
theorem OwTs.append {Si : Nat → Addr → Prop} : ∀ {i : Nat} {vs ws : List V} {ts us : List T}, OwTs K cl F H Si i vs ts → OwTs K cl F H Si (i + ts.length) ws us → OwTs K cl F H Si i (vs ++ ws) (ts ++ us)
  | _, _, _, _, _, .nil, q => q
  | i, _, _, _ :: ts, _, .cons h hs, q => .cons h (OwTs.append hs (by rw [show i + 1 + ts.length = i + (ts.length + 1) by omega]; exact q))
theorem OwTs.ofDts {Si : Nat → Addr → Prop} : ∀ {i : Nat} {vs : List V} {ds : List D}, Dts K cl F vs ds → OwTs K cl F H Si i vs (ds.map T.fz)
  | _, _, _, .nil => .nil
  | _, _, _, .cons h hs => .cons (.fz h) (OwTs.ofDts hs)
theorem OwTs.dts {Si : Nat → Addr → Prop} : ∀ {i : Nat} {vs : List V} {ds : List D}, OwTs K cl F H Si i vs (ds.map T.fz) → Dts K cl F vs ds
  | _, _, [], .nil => .nil
  | _, _, d :: ds, .cons h hs => by
    cases h with
    | fz h => exact .cons h (OwTs.dts hs)
end
end DL
/-! the state: slots, things in hand, the heap -/
namespace DL
open PySem L2

structure Cc where
  K : PySem.W.Frag
  cl : Cl
  H0 : Hp
  F0 : Hp
  mu : Addr → Prop
  pin : Nat → Option V
  cv : Nat → Bool
abbrev Root := Sum Nat Nat
abbrev Hand := List (V × T)

/-- one thing in hand -/
def TempOk (C : Cc) (σ : St) (F H : Hp) (S : Addr → Prop) (v : V) : T → Prop
  | .al i => σ[i]? = some (some v) ∧ C.cv i = false
  | t => OwT C.K C.cl F H S v t
def TempsOk (C : Cc) (σ : St) (F H : Hp) (ow : Addr → Option Root) : Hand → Prop
  | [] => True
  | (v, t) :: τ => TempOk C σ F H (fun a => ow a = some (.inr τ.length)) v t ∧ TempsOk C σ F H ow τ

structure Rl (C : Cc) (σ : St) (H : Hp) (Γ : Env) (τ : Hand) (F : Hp) (ow : Addr → Option Root) : Prop where
  ex : Sub F H
  old : Sub C.F0 F
  new : ∀ a o, F a = some o → C.F0 a = some o ∨ C.H0 a = none ∨ C.mu a ∨ Ex0 o
  frame : ∀ a o, C.H0 a = some o → ¬ C.mu a → ∃ o', H a = some o' ∧ (NT o → o' = o)
  ownF : ∀ a r, ow a = some r → F a = none
  ownH : ∀ a r, ow a = some r → ∃ o, H a = some o ∧ NX o
  ownN : ∀ a r, ow a = some r → C.mu a ∨ C.H0 a = none
  slots : ∀ i t, Γ[i]? = some (some t) → ∃ v, σ[i]? = some (some v) ∧ OwT C.K C.cl F H (fun a => ow a = some (.inl i)) v t
  temps : TempsOk C σ F H ow τ
  pins : ∀ i v, C.pin i = some v → σ[i]? = some (some v)
  len : σ.length = Γ.length
  tabs : LamX.Tabs C.cl.T H
  ft : ∀ a o, F a = some o → NT o
def Rel (C : Cc) (σ : St) (H : Hp) (Γ : Env) (τ : Hand) : Prop := ∃ F ow, Rl C σ H Γ τ F ow

section
variable {C : Cc} {σ σ' : St} {F F' H H' : Hp} {Γ : Env} {τ : Hand} {ow ow' : Addr → Option Root} {v : V} {t : T} {d : D}
theorem TempOk.keep {S S' : Addr → Prop} (e : Sub F F') (k : ∀ a o, S a → H a = some o → H' a = some o) (m : ∀ a, S a → S' a) (h : TempOk C σ F H S v t) (hσ : ∀ i, t = .al i → σ[i]? = some (some v) → σ'[i]? = some (some v)) : TempOk C σ' F' H' S' v t := by
  cases t with
  | al i => exact ⟨hσ i rfl h.1, h.2⟩
  | fz d => exact OwT.keep e k m h
  | ol ts => exact OwT.keep e k m h
  | oi c ts => exact OwT.keep e k m h
theorem TempsOk.keep (e : Sub F F') : ∀ {τ : Hand}, (∀ a o j, j < τ.length → ow a = some (.inr j) → H a = some o → H' a = some o) → (∀ a j, j < τ.length → ow a = some (.inr j) → ow' a = some (.inr j)) → TempsOk C σ F H ow τ → TempsOk C σ F' H' ow' τ
  | [], _, _, _ => trivial
  | (v, t) :: τ, k, m, h => ⟨TempOk.keep e (fun a o q => k a o _ (Nat.lt_succ_self _) q) (fun a q => m a _ (Nat.lt_succ_self _) q) h.1 (fun _ _ z => z), TempsOk.keep e (fun a o j hj => k a o j (Nat.lt_succ_of_lt hj)) (fun a j hj => m a j (Nat.lt_succ_of_lt hj)) h.2⟩
/-- the things in hand bear any change of slots if none of them is an alias -/
theorem TempsOk.restate (hσ : ∀ (i : Nat) (v : V), σ[i]? = some (some v) → σ'[i]? = some (some v)) : ∀ {τ : Hand}, TempsOk C σ F H ow τ → TempsOk C σ' F H ow τ
  | [], _ => trivial
  | (v, t) :: τ, h => ⟨TempOk.keep (Sub.refl F) (fun _ _ _ q => q) (fun _ q => q) h.1 (fun i _ z => hσ i v z), TempsOk.restate hσ h.2⟩
theorem OwT.notAl {K : PySem.W.Frag} {cl : Cl} {S : Addr → Prop} (h : OwT K cl F H S v t) : ∀ i, t ≠ .al i := by
  intro i e
  subst e
  cases h
theorem TempOk.of {S : Addr → Prop} (h : OwT C.K C.cl F H S v t) : TempOk C σ F H S v t := by
  cases t with
  | al i => cases h
  | fz d => exact h
  | ol ts => exact h
  | oi c ts => exact h
theorem TempOk.own {S : Addr → Prop} (h : TempOk C σ F H S v t) (n : ∀ i, t ≠ .al i) : OwT C.K C.cl F H S v t := by
  cases t with
  | al i => exact absurd rfl (n i)
  | fz d => exact h
  | ol ts => exact h
  | oi c ts => exact h

/-- nothing that stood is changed, but tables; the frozen may grow by new things -/
theorem Rl.growX (R : Rl C σ H Γ τ F ow) (hH : Ext H H') (hF : Sub F F') (hx : Sub F' H') (hn : ∀ a o, F' a = some o → F a = some o ∨ H a = none ∨ Ex0 o) (hT : LamX.Tabs C.cl.T H') (hf : ∀ a o, F' a = some o → NT o) : Rl C σ H' Γ τ F' ow where
  ex := hx
  old := R.old.trans hF
  new := fun a o e => by
    rcases hn a o e with h | h | h
    · exact R.new a o h
    rotate_left
    · exact .inr (.inr (.inr h))
    · cases q : C.H0 a with
      | none => exact .inr (.inl rfl)
      | some u =>
        by_cases hm : C.mu a
        · exact .inr (.inr (.inl hm))
        · obtain ⟨u', hu, _⟩ := R.frame a u q hm
          rw [hu] at h
          cases h
  frame := fun a o e hm => by
    obtain ⟨u, hu, q⟩ := R.frame a o e hm
    obtain ⟨u', hu', q'⟩ := hH a u hu
    exact ⟨u', hu', fun n => by
      have e1 := q n
      subst e1
      exact q' n⟩
  ownF := fun a r e => by
    cases q : F' a with
    | none => rfl
    | some o =>
      rcases hn a o q with h | h | h
      · rw [R.ownF a r e] at h
        cases h
      · obtain ⟨u, hu, _⟩ := R.ownH a r e
        rw [h] at hu
        cases hu
      · obtain ⟨u, hu, n⟩ := R.ownH a r e
        have z := hH.nt hu n.1
        rw [hx a o q] at z
        cases z
        exact absurd h n.2
  ownH := fun a r e => (R.ownH a r e).imp fun o h => ⟨hH.nt h.1 h.2.1, h.2⟩
  ownN := R.ownN
  slots := fun i t e => (R.slots i t e).imp fun v h => ⟨h.1, h.2.keep hF (fun a o s q => by
    obtain ⟨u, hu, n⟩ := R.ownH a _ s
    rw [hu] at q
    cases q
    exact hH.nt hu n.1) (fun _ q => q)⟩
  temps := R.temps.keep hF (fun a o j _ s q => by
    obtain ⟨u, hu, n⟩ := R.ownH a _ s
    rw [hu] at q
    cases q
    exact hH.nt hu n.1) (fun _ _ _ q => q)
  pins := R.pins
  len := R.len
  tabs := hT
  ft := hf
theorem Rl.grow (R : Rl C σ H Γ τ F ow) (hH : Sub H H') (hF : Sub F F') (hx : Sub F' H') (hn : ∀ a o, F' a = some o → F a = some o ∨ H a = none ∨ Ex0 o) (hf : ∀ a o, F' a = some o → NT o) : Rl C σ H' Γ τ F' ow :=
  R.growX hH.ext hF hx hn (R.tabs.ext hH) hf
theorem Rl.push (R : Rl C σ H Γ τ F ow) (h : Dt C.K C.cl F v d) : Rl C σ H Γ ((v, .fz d) :: τ) F ow :=
  ⟨R.ex, R.old, R.new, R.frame, R.ownF, R.ownH, R.ownN, R.slots, ⟨.fz h, R.temps⟩, R.pins, R.len, R.tabs, R.ft⟩
theorem Rl.pop {p : V × T} (R : Rl C σ H Γ (p :: τ) F ow) : Rl C σ H Γ τ F ow :=
  ⟨R.ex, R.old, R.new, R.frame, R.ownF, R.ownH, R.ownN, R.slots, R.temps.2, R.pins, R.len, R.tabs, R.ft⟩
theorem Rel.pop {p : V × T} (R : Rel C σ H Γ (p :: τ)) : Rel C σ H Γ τ := let ⟨F, ow, R⟩ := R; ⟨F, ow, R.pop⟩
theorem Rel.drop {υ : Hand} (R : Rel C σ H Γ (υ ++ τ)) : Rel C σ H Γ τ := by
  induction υ with
  | nil => exact R
  | cons p υ ih => exact ih R.pop
/-- a new object, frozen at once -/
theorem Rl.newF {p : Addr} {o : HO} (R : Rl C σ H Γ τ F ow) (hp : H p = none) (ho : NT o) : Rl C σ (upd H p o) Γ τ (upd F p o) ow ∧ Sub F (upd F p o) := by
  have nF : F p = none := by
    cases q : F p with
    | none => rfl
    | some u =>
      rw [R.ex p u q] at hp
      cases hp
  have s1 : Sub H (upd H p o) := fun a u e => by
    rw [upd_ne (ne_of_none e hp)]
    exact e
  have s2 : Sub F (upd F p o) := fun a u e => by
    rw [upd_ne (ne_of_none e nF)]
    exact e
  refine ⟨R.grow s1 s2 (fun a u e => ?_) (fun a u e => ?_) (fun a u e => ?_), s2⟩
  · by_cases h : a = p
    · subst h
      rw [upd_same] at e ⊢
      exact e
    · rw [upd_ne h] at e ⊢
      exact R.ex a u e
  · by_cases h : a = p
    · subst h
      exact .inr (.inl hp)
    · rw [upd_ne h] at e
      exact .inl e
  · by_cases h : a = p
    · subst h
      rw [upd_same] at e
      cases e
      exact ho
    · rw [upd_ne h] at e
      exact R.ft a u e
/-- a new object that is not frozen and not owned -/
theorem Rl.newH {p : Addr} {o : HO} (R : Rl C σ H Γ τ F ow) (hp : H p = none) : Rl C σ (upd H p o) Γ τ F ow :=
  R.grow (fun a u e => by rw [upd_ne (ne_of_none e hp)]; exact e) (Sub.refl F) (fun a u e => by rw [upd_ne (ne_of_none (R.ex a u e) hp)]; exact R.ex a u e) (fun a u e => .inl e) R.ft
/-- roots of a given kind are given to another root, or away -/
theorem Rl.reown (R : Rl C σ H Γ τ F ow) (f : Root → Option Root) {τ' : Hand} {Γ' : Env} (hn : σ'.length = Γ'.length) (hp : ∀ i v, C.pin i = some v → σ'[i]? = some (some v))
    (hs : ∀ i t, Γ'[i]? = some (some t) → ∃ v, σ'[i]? = some (some v) ∧ OwT C.K C.cl F H (fun a => ∃ r, ow a = some r ∧ f r = some (.inl i)) v t)
    (ht : TempsOk C σ' F H (fun a => (ow a).bind f) τ') : Rl C σ' H Γ' τ' F (fun a => (ow a).bind f) := by
  have key : ∀ a r, (ow a).bind f = some r → ∃ q, ow a = some q ∧ f q = some r := fun a r e => by
    cases h : ow a with
    | none => rw [h] at e; cases e
    | some q => rw [h] at e; exact ⟨q, rfl, e⟩
  refine ⟨R.ex, R.old, R.new, R.frame, fun a r e => ?_, fun a r e => ?_, fun a r e => ?_, fun i t e => ?_, ht, hp, hn, R.tabs, R.ft⟩
  · obtain ⟨q, h, _⟩ := key a r e
    exact R.ownF a q h
  · obtain ⟨q, h, _⟩ := key a r e
    exact R.ownH a q h
  · obtain ⟨q, h, _⟩ := key a r e
    exact R.ownN a q h
  · obtain ⟨v, h1, h2⟩ := hs i t e
    refine ⟨v, h1, h2.keep (Sub.refl F) (fun _ _ _ q => q) (fun a q => ?_)⟩
    obtain ⟨r, e1, e2⟩ := q
    show (ow a).bind f = some (.inl i)
    rw [e1]
    exact e2
/-- a root's objects are frozen -/
theorem Rl.freeze (R : Rl C σ H Γ τ F ow) (r : Root) {τ' : Hand} {Γ' : Env} {F' : Hp} (hn : Γ'.length = Γ.length) (hF' : ∀ a, F' a = if ow a = some r then H a else F a)
    (hs : Sub F F' → ∀ i t, Γ'[i]? = some (some t) → ∃ v, σ[i]? = some (some v) ∧ OwT C.K C.cl F' H (fun a => ow a = some (.inl i) ∧ some (Sum.inl i) ≠ some r) v t)
    (ht : Sub F F' → TempsOk C σ F' H (fun a => if ow a = some r then none else ow a) τ') : Rl C σ H Γ' τ' F' (fun a => if ow a = some r then none else ow a) := by
  have sF : Sub F F' := fun a o e => by
    rw [hF', if_neg (fun z => by rw [R.ownF a r z] at e; cases e)]
    exact e
  have key : ∀ a q, (if ow a = some r then none else ow a) = some q → ow a = some q ∧ ow a ≠ some r := fun a q e => by
    by_cases h : ow a = some r
    · rw [if_pos h] at e; cases e
    · rw [if_neg h] at e; exact ⟨e, h⟩
  refine ⟨fun a o e => ?_, R.old.trans sF, fun a o e => ?_, R.frame, fun a q e => ?_, fun a q e => ?_, fun a q e => ?_, fun i t e => ?_, ht sF, R.pins, R.len.trans hn.symm, R.tabs, fun a o e => ?_⟩
  · rw [hF'] at e
    split at e
    · exact e
    · exact R.ex a o e
  · rw [hF'] at e
    split at e
    · rename_i h
      rcases R.ownN a r h with z | z
      · exact .inr (.inr (.inl z))
      · exact .inr (.inl z)
    · exact R.new a o e
  · obtain ⟨h1, h2⟩ := key a q e
    rw [hF', if_neg h2]
    exact R.ownF a q h1
  · exact R.ownH a q (key a q e).1
  · exact R.ownN a q (key a q e).1
  · obtain ⟨v, h1, h2⟩ := hs sF i t e
    refine ⟨v, h1, h2.keep (Sub.refl F') (fun _ _ _ q => q) (fun a q => ?_)⟩
    show (if ow a = some r then none else ow a) = some (.inl i)
    rw [if_neg (fun z => q.2 (q.1.symm.trans z)), q.1]
  · rw [hF'] at e
    split at e
    · rename_i h
      obtain ⟨u, hu, n⟩ := R.ownH a r h
      rw [hu] at e
      cases e
      exact n.1
    · exact R.ft a o e
/-- the top of the hand is frozen -/
theorem Rel.freezeTop (R : Rel C σ H Γ ((v, t) :: τ)) (n : ∀ i, t ≠ .al i) (h : t.toD = some d) : Rel C σ H Γ ((v, .fz d) :: τ) := by
  obtain ⟨F, ow, R⟩ := R
  refine ⟨fun a => if ow a = some (.inr τ.length) then H a else F a, _, R.freeze (.inr τ.length) rfl (fun _ => rfl) (fun sF i t' e => ?_) (fun sF => ⟨?_, ?_⟩)⟩
  · obtain ⟨w, h1, h2⟩ := R.slots i t' e
    exact ⟨w, h1, h2.keep sF (fun _ _ _ q => q) (fun a q => ⟨q, fun z => by cases z⟩)⟩
  · exact .fz ((R.temps.1.own n).data sF (fun a o s q => by
      show (if ow a = some (.inr τ.length) then H a else F a) = some o
      rw [if_pos s]
      exact q) h)
  · refine R.temps.2.keep sF (fun _ _ _ _ _ q => q) (fun a j hj q => ?_)
    show (if ow a = some (.inr τ.length) then none else ow a) = some (.inr j)
    rw [if_neg (fun z => by
      rw [q] at z
      cases z
      exact absurd hj (Nat.lt_irrefl _))]
    exact q
/-- slot i is frozen -/
theorem Rel.freezeSlot {i : Nat} (R : Rel C σ H Γ τ) (hi : Γ[i]? = some (some t)) (h : t.toD = some d) : Rel C σ H (Γ.set i (some (.fz d))) τ := by
  obtain ⟨F, ow, R⟩ := R
  have hlt : i < Γ.length := (List.getElem?_eq_some_iff.mp hi).1
  refine ⟨fun a => if ow a = some (.inl i) then H a else F a, _, R.freeze (.inl i) (by simp) (fun _ => rfl) (fun sF j t' e => ?_) (fun sF => ?_)⟩
  · by_cases hj : j = i
    · subst hj
      rw [List.getElem?_set_self hlt] at e
      cases e
      obtain ⟨w, h1, h2⟩ := R.slots j t hi
      exact ⟨w, h1, .fz (h2.data sF (fun a o s q => by
        show (if ow a = some (.inl j) then H a else F a) = some o
        rw [if_pos s]
        exact q) h)⟩
    · rw [List.getElem?_set_ne (Ne.symm hj)] at e
      obtain ⟨w, h1, h2⟩ := R.slots j t' e
      exact ⟨w, h1, h2.keep sF (fun _ _ _ q => q) (fun a q => ⟨q, fun z => by cases z; exact hj rfl⟩)⟩
  · refine R.temps.keep sF (fun _ _ _ _ _ q => q) (fun a j hj q => ?_)
    show (if ow a = some (.inl i) then none else ow a) = some (.inr j)
    rw [if_neg (fun z => by rw [q] at z; cases z)]
    exact q
/-- an alias on top, its slot frozen, is that data -/
theorem Rel.aliasFz {i : Nat} (R : Rel C σ H Γ ((v, .al i) :: τ)) (hi : Γ[i]? = some (some (.fz d))) : Rel C σ H Γ ((v, .fz d) :: τ) := by
  obtain ⟨F, ow, R⟩ := R
  refine ⟨F, ow, R.ex, R.old, R.new, R.frame, R.ownF, R.ownH, R.ownN, R.slots, ⟨?_, R.temps.2⟩, R.pins, R.len, R.tabs, R.ft⟩
  obtain ⟨w, h1, h2⟩ := R.slots i _ hi
  have e : σ[i]? = some (some v) := R.temps.1.1
  rw [h1] at e
  cases e
  cases h2 with
  | fz h => exact .fz h
/-- the top of the hand goes into slot i -/
theorem Rel.store {i : Nat} (R : Rel C σ H Γ ((v, t) :: τ)) (n : ∀ i, t ≠ .al i) (hp : C.pin i = none) (ha : ∀ p ∈ τ, p.2 ≠ .al i) : Rel C (σ.set i (some v)) H (Γ.set i (some t)) τ := by
  obtain ⟨F, ow, R⟩ := R
  refine ⟨F, _, R.reown (fun r => if r = .inr τ.length then some (.inl i) else if r = .inl i then none else some r) (by simpa using R.len) (fun j w e => ?_) (fun j t' e => ?_) ?_⟩
  · have hj : i ≠ j := fun z => by
      subst z
      rw [hp] at e
      cases e
    rw [List.getElem?_set_ne hj]
    exact R.pins j w e
  · by_cases hj : i = j
    · subst hj
      have hlt : i < Γ.length := by
        have := (List.getElem?_eq_some_iff.mp e).1
        simpa using this
      rw [List.getElem?_set_self hlt] at e
      cases e
      have hl : i < σ.length := by rw [R.len]; exact hlt
      refine ⟨v, by rw [List.getElem?_set_self hl], (R.temps.1.own n).keep (Sub.refl F) (fun _ _ _ q => q) (fun a q => ⟨_, q, ?_⟩)⟩
      rw [if_pos rfl]
    · rw [List.getElem?_set_ne hj] at e
      obtain ⟨w, h1, h2⟩ := R.slots j t' e
      refine ⟨w, by rw [List.getElem?_set_ne hj]; exact h1, h2.keep (Sub.refl F) (fun _ _ _ q => q) (fun a q => ⟨_, q, ?_⟩)⟩
      rw [if_neg (fun z => by cases z), if_neg (fun z => by cases z; exact hj rfl)]
  · have go : ∀ (υ : Hand), (∀ p ∈ υ, p.2 ≠ .al i) → υ.length ≤ τ.length → TempsOk C σ F H ow υ → TempsOk C (σ.set i (some v)) F H (fun a => (ow a).bind fun r => if r = .inr τ.length then some (.inl i) else if r = .inl i then none else some r) υ := by
      intro υ
      induction υ with
      | nil => intro _ _ _; trivial
      | cons p υ ih =>
        intro ha hle h
        obtain ⟨w, t'⟩ := p
        refine ⟨h.1.keep (Sub.refl F) (fun _ _ _ q => q) (fun a q => ?_) (fun j ej q => ?_), ih (fun p hp => ha p (List.mem_cons_of_mem _ hp)) (Nat.le_of_succ_le hle) h.2⟩
        · show (ow a).bind _ = _
          rw [show ow a = some (.inr υ.length) from q]
          show (if (Sum.inr υ.length : Root) = .inr τ.length then some (Sum.inl i) else if (Sum.inr υ.length : Root) = .inl i then none else some (Sum.inr υ.length)) = _
          rw [if_neg (fun z => by
            have z' : υ.length = τ.length := Sum.inr.inj z
            have : (w, t') :: υ ≠ [] := List.cons_ne_nil _ _
            simp at hle
            omega), if_neg (fun z => by cases z)]
        · have hj : i ≠ j := fun z => by
            subst z
            exact ha (w, t') List.mem_cons_self ej
          rw [List.getElem?_set_ne hj]
          exact q
    exact go τ ha (Nat.le_refl _) R.temps.2
/-- a slot is forgotten, or what it holds -/
theorem Rel.forget {i : Nat} (R : Rel C σ H Γ τ) : Rel C σ H (Γ.set i none) τ := by
  obtain ⟨F, ow, R⟩ := R
  refine ⟨F, ow, R.ex, R.old, R.new, R.frame, R.ownF, R.ownH, R.ownN, fun j t e => ?_, R.temps, R.pins, by simpa using R.len, R.tabs, R.ft⟩
  by_cases hj : i = j
  · subst hj
    rw [List.getElem?_set] at e
    split at e
    · split at e
      · cases e
      · cases e
    · rename_i h
      exact absurd rfl h
  · rw [List.getElem?_set_ne hj] at e
    exact R.slots j t e
end
end DL
/-! readings by meanings; expressions -/
namespace DL
open PySem L2

def emp : Hp := fun _ => none
theorem sub_emp (F : Hp) : Sub emp F := fun _ _ h => by cases h

def XOk (C : Cc) (F H : Hp) (cls : Value) (d : Option Addr) (x : Exn) : Prop :=
  ∃ Ca dd fs, cls = .ref Ca ∧ C.cl x.cls = some Ca ∧ d = some dd ∧ H dd = some (.xd fs) ∧ fs.map (·.1) = x.fds.map (·.1) ∧ Dts C.K C.cl F (fs.map (·.2)) (x.fds.map (·.2))
def RelX (C : Cc) (σ : St) (H : Hp) (Γ : Env) (τ : Hand) (cls : Value) (d : Option Addr) (x : Exn) : Prop := ∃ F ow, Rl C σ H Γ τ F ow ∧ XOk C F H cls d x
theorem RelX.pop {C : Cc} {σ : St} {H : Hp} {Γ : Env} {τ : Hand} {cls : Value} {d : Option Addr} {x : Exn} {p : V × T} (R : RelX C σ H Γ (p :: τ) cls d x) : RelX C σ H Γ τ cls d x := let ⟨F, ow, R, q⟩ := R; ⟨F, ow, R.pop, q⟩
theorem RelX.drop {C : Cc} {σ : St} {H : Hp} {Γ : Env} {τ : Hand} {cls : Value} {d : Option Addr} {x : Exn} {υ : Hand} (R : RelX C σ H Γ (υ ++ τ) cls d x) : RelX C σ H Γ τ cls d x := by
  induction υ with
  | nil => exact R
  | cons p υ ih => exact ih R.pop

/-- what is wanted of an exception -/
abbrev wx (C : Cc) (W : WX) (σ : St) (τ : Hand) : Exn → Env → Prop := fun x Γ' => ∀ cls d H', RelX C σ H' Γ' τ cls d x → W cls d σ H'
def rd (C : Cc) (W : WX) (f : M T) : TE := fun σ H Q => ∃ Γ τ, Rel C σ H Γ τ ∧ (f Γ).Wp (fun t Γ' => ∀ v H', Rel C σ H' Γ' ((v, t) :: τ) → Q v H') (wx C W σ τ)
def rdT (C : Cc) (W : WX) (f : M Bool) : TT := fun σ H Q => ∃ Γ τ, Rel C σ H Γ τ ∧ (f Γ).Wp (fun b Γ' => ∀ H', Rel C σ H' Γ' τ → Q b H') (wx C W σ τ)
def rdA (C : Cc) (W : WX) (f : M (List T)) : TA := fun σ H Q => ∃ Γ τ, Rel C σ H Γ τ ∧ (f Γ).Wp (fun ts Γ' => ∀ vs H', vs.length = ts.length → Rel C σ H' Γ' ((vs.zip ts).reverse ++ τ) → Q vs H') (wx C W σ τ)

section
variable {X : Cx}
theorem pe_sub {e : Expr} {t t' : TE} (h : PE X e t) (m : ∀ σ H Q, t' σ H Q → t σ H Q) : PE X e t' := ⟨fun pins s σ H Q I q => h.run pins s σ H Q I (m σ H Q q)⟩
theorem pt_sub {e : Expr} {t t' : TT} (h : PT X e t) (m : ∀ σ H Q, t' σ H Q → t σ H Q) : PT X e t' := ⟨fun pins s σ H Q I q => h.run pins s σ H Q I (m σ H Q q)⟩
theorem pa_sub {e : List Expr} {t t' : TA} (h : PA X e t) (m : ∀ σ H Q, t' σ H Q → t σ H Q) : PA X e t' := ⟨fun pos pins s σ H Q I q => h.run pos pins s σ H Q I (m σ H Q q)⟩
theorem ps_sub {e : Stmt} {t t' : TS} (h : PS X e t) (m : ∀ D σ H, t' D σ H → t D σ H) : PS X e t' := ⟨fun pins s σ H D I q => h.run pins s σ H D I (m D σ H q)⟩
theorem pss_sub {e : List Stmt} {t t' : TS} (h : PSs X e t) (m : ∀ D σ H, t' D σ H → t D σ H) : PSs X e t' := ⟨fun pins s σ H D I q => h.run pins s σ H D I (m D σ H q)⟩
end

/-! ### combinators -/
def bindM {α β : Type} (f : M α) (k : α → M β) : M β := fun Γ => (f Γ).bind k
def retM {α : Type} (a : α) : M α := fun Γ => .ok a Γ
def optM {α : Type} : Option α → M α
  | some a => fun Γ => .ok a Γ
  | none => fun _ => .bad
def look (Γ : Env) : T → Option D
  | .al i => match Γ[i]? with
    | some (some t) => t.toD
    | _ => none
  | t => t.toD
/-- what is in hand, as data (no freezing) -/
def lookM (t : T) : M D := fun Γ => match look Γ t with
  | some d => .ok d Γ
  | none => .bad
/-- an alias is frozen, a new thing stays owned -/
def settle (t : T) : M T := match t with
  | .al i => fun Γ => match Γ[i]? with
    | some (some t') => match t'.toD with
      | some d => .ok (.fz d) (Γ.set i (some (.fz d)))
      | none => .bad
    | _ => .bad
  | t => fun Γ => .ok t Γ
/-- all is frozen -/
def frz (t : T) : M T := match t with
  | .al i => fun Γ => match Γ[i]? with
    | some (some t') => match t'.toD with
      | some d => .ok (.fz d) (Γ.set i (some (.fz d)))
      | none => .bad
    | _ => .bad
  | t => fun Γ => match t.toD with
    | some d => .ok (.fz d) Γ
    | none => .bad
def settled (f : M T) : M T := bindM f settle
def frozen (f : M T) : M T := bindM f frz

section
variable {C : Cc} {W : WX} {σ : St} {H H' : Hp} {Γ : Env} {τ : Hand} {v : V} {t : T} {d : D}
theorem Rel.settle {P : T → Env → Prop} {E : Exn → Env → Prop} (R : Rel C σ H Γ ((v, t) :: τ)) (h : (DL.settle t Γ).Wp P E) : ∃ t' Γ', (∀ i, t' ≠ .al i) ∧ Rel C σ H Γ' ((v, t') :: τ) ∧ P t' Γ' := by
  cases t with
  | al i =>
    unfold DL.settle at h
    cases e : Γ[i]? with
    | none => simp only [e] at h; exact h.elim
    | some o =>
      cases o with
      | none => simp only [e] at h; exact h.elim
      | some t' =>
        cases e2 : t'.toD with
        | none => simp only [e, e2] at h; exact h.elim
        | some d =>
          simp only [e, e2] at h
          have hlt : i < Γ.length := (List.getElem?_eq_some_iff.mp e).1
          exact ⟨.fz d, _, fun j z => by (cases z), (R.freezeSlot e e2).aliasFz (by rw [List.getElem?_set_self hlt]), h⟩
  | fz d => exact ⟨_, _, fun j z => by (cases z), R, h⟩
  | ol ts => exact ⟨_, _, fun j z => by (cases z), R, h⟩
  | oi c ts => exact ⟨_, _, fun j z => by (cases z), R, h⟩
theorem Rel.frz {P : T → Env → Prop} {E : Exn → Env → Prop} (R : Rel C σ H Γ ((v, t) :: τ)) (h : (DL.frz t Γ).Wp P E) : ∃ d Γ', Rel C σ H Γ' ((v, .fz d) :: τ) ∧ P (.fz d) Γ' := by
  cases t with
  | al i =>
    unfold DL.frz at h
    cases e : Γ[i]? with
    | none => simp only [e] at h; exact h.elim
    | some o =>
      cases o with
      | none => simp only [e] at h; exact h.elim
      | some t' =>
        cases e2 : t'.toD with
        | none => simp only [e, e2] at h; exact h.elim
        | some d =>
          simp only [e, e2] at h
          have hlt : i < Γ.length := (List.getElem?_eq_some_iff.mp e).1
          exact ⟨d, _, (R.freezeSlot e e2).aliasFz (by rw [List.getElem?_set_self hlt]), h⟩
  | fz d => exact ⟨d, _, R, h⟩
  | ol ts =>
    unfold DL.frz at h
    cases e2 : (T.ol ts).toD with
    | none => simp only [e2] at h; exact h.elim
    | some d =>
      simp only [e2] at h
      exact ⟨d, _, R.freezeTop (fun j z => by cases z) e2, h⟩
  | oi c ts =>
    unfold DL.frz at h
    cases e2 : (T.oi c ts).toD with
    | none => simp only [e2] at h; exact h.elim
    | some d =>
      simp only [e2] at h
      exact ⟨d, _, R.freezeTop (fun j z => by cases z) e2, h⟩
theorem Rl.look {F : Hp} {ow : Addr → Option Root} {S : Addr → Prop} (R : Rl C σ H Γ τ F ow) (h : TempOk C σ F H S v t) (e : DL.look Γ t = some d) : Dt C.K C.cl H v d := by
  cases t with
  | al i =>
    unfold DL.look at e
    cases e1 : Γ[i]? with
    | none => simp only [e1] at e; cases e
    | some o =>
      cases o with
      | none => simp only [e1] at e; cases e
      | some t' =>
        simp only [e1] at e
        obtain ⟨w, h1, h2⟩ := R.slots i t' e1
        have hv : σ[i]? = some (some v) := h.1
        rw [h1] at hv
        cases hv
        exact h2.data R.ex (fun _ _ _ q => q) e
  | fz d => exact OwT.data R.ex (fun _ _ _ q => q) h e
  | ol ts => exact OwT.data R.ex (fun _ _ _ q => q) h e
  | oi c ts => exact OwT.data R.ex (fun _ _ _ q => q) h e
theorem wp_lookM {P : D → Env → Prop} {E : Exn → Env → Prop} (h : (lookM t Γ).Wp P E) : ∃ d, DL.look Γ t = some d ∧ P d Γ := by
  unfold lookM at h
  cases e : DL.look Γ t with
  | none => simp only [e] at h; exact h.elim
  | some d => simp only [e] at h; exact ⟨d, rfl, h⟩
theorem wp_optM {α : Type} {o : Option α} {P : α → Env → Prop} {E : Exn → Env → Prop} (h : (optM o Γ).Wp P E) : ∃ a, o = some a ∧ P a Γ := by
  cases o with
  | none => exact h.elim
  | some a => exact ⟨a, rfl, h⟩
/-- the running of two readings in a row -/
theorem rd_bind {α : Type} {f : M T} {k : T → M α} {Q : VK} {P : α → Env → Prop} (R : Rel C σ H Γ τ) (h : (bindM f k Γ).Wp P (wx C W σ τ))
    (hq : ∀ t Γ' v H', Rel C σ H' Γ' ((v, t) :: τ) → (k t Γ').Wp P (wx C W σ τ) → Q v H') : rd C W f σ H Q :=
  ⟨Γ, τ, R, Out.wp_mono (Out.wp_bind h) (fun t Γ' w v H' R' => hq t Γ' v H' R' w) (fun _ _ z => z)⟩
theorem wx_pop {p : V × T} {x : Exn} {Γ' : Env} (h : wx C W σ τ x Γ') : wx C W σ (p :: τ) x Γ' := fun cls d H' R => h cls d H' R.pop
theorem wx_drop {υ : Hand} {x : Exn} {Γ' : Env} (h : wx C W σ τ x Γ') : wx C W σ (υ ++ τ) x Γ' := fun cls d H' R => h cls d H' R.drop
theorem wp_under {α : Type} {o : Out α} {p : V × T} {P : α → Env → Prop} (h : o.Wp P (wx C W σ τ)) : o.Wp P (wx C W σ (p :: τ)) := Out.wp_mono h (fun _ _ q => q) (fun _ _ q => wx_pop q)
theorem wp_underL {α : Type} {o : Out α} {υ : Hand} {P : α → Env → Prop} (h : o.Wp P (wx C W σ τ)) : o.Wp P (wx C W σ (υ ++ τ)) := Out.wp_mono h (fun _ _ q => q) (fun _ _ q => wx_drop q)
/-- a value of no heap's in hand -/
theorem Rel.scal (R : Rel C σ H Γ τ) (h : Dt C.K C.cl emp v d) : Rel C σ H Γ ((v, .fz d) :: τ) := by
  obtain ⟨F, ow, R⟩ := R
  exact ⟨F, ow, R.push (h.mono (sub_emp F))⟩
end

/-! ### constants and names -/
def constM (d : D) : M T := fun Γ => .ok (.fz d) Γ
def varM (i : Nat) : M T := fun Γ => match Γ[i]? with
  | some (some (.fz d)) => .ok (.fz d) Γ
  | some (some _) => .ok (.al i) Γ
  | _ => .bad
section
variable {X : Cx} {C : Cc} {W : WX}
theorem de_scal {e : Expr} {v : V} {d : D} (h : PE X e (tC v)) (hd : Dt C.K C.cl emp v d) : PE X e (rd C W (constM d)) :=
  pe_sub h fun σ H Q ⟨Γ, τ, R, w⟩ => w v H (R.scal hd)
theorem de_int {i j pos} : PE X (.Constant (.int i) j pos) (rd C W (constM (.int i))) := de_scal pe_int (.int i)
theorem de_bl {b j pos} : PE X (.Constant (.bool b) j pos) (rd C W (constM (.bl b))) := de_scal pe_bl (.bl b)
theorem de_non {j pos} : PE X (.Constant .none j pos) (rd C W (constM .non)) := de_scal pe_non .non
theorem de_str {x j pos} : PE X (.Constant (.str x) j pos) (rd C W (constM (.str x))) := de_scal pe_str (.str x)
theorem de_tvar {e : Expr} {i : Nat} (hcv : C.cv i = false) (h : PE X e (tVar i)) : PE X e (rd C W (varM i)) := pe_sub h fun σ H Q ⟨Γ, τ, R, w⟩ => by
  obtain ⟨F, ow, R⟩ := R
  unfold varM at w
  cases e : Γ[i]? with
  | none => simp only [e] at w; exact w.elim
  | some o =>
    cases o with
    | none => simp only [e] at w; exact w.elim
    | some t =>
      obtain ⟨v, h1, h2⟩ := R.slots i t e
      refine ⟨v, h1, ?_⟩
      cases t with
      | fz d =>
        simp only [e] at w
        cases h2 with
        | fz h2 => exact w v H ⟨F, ow, R.push h2⟩
      | ol ts =>
        simp only [e] at w
        exact w v H ⟨F, ow, R.ex, R.old, R.new, R.frame, R.ownF, R.ownH, R.ownN, R.slots, ⟨⟨h1, hcv⟩, R.temps⟩, R.pins, R.len, R.tabs, R.ft⟩
      | oi c ts =>
        simp only [e] at w
        exact w v H ⟨F, ow, R.ex, R.old, R.new, R.frame, R.ownF, R.ownH, R.ownN, R.slots, ⟨⟨h1, hcv⟩, R.temps⟩, R.pins, R.len, R.tabs, R.ft⟩
      | al k => cases h2
theorem de_var (i : Nat) {x : Str} {pos : Pos} (hcv : C.cv i = false) (hN : X.N[i]? = some x := by rfl) (hv : Vis X.env.scope x := by first | exact Or.inl rfl | exact Or.inr (Or.inl rfl) | exact Or.inr (Or.inr rfl)) (hd : (x == ("__debug__" : Str)) = false := by decide)
    (hcd : (x == ("__classdict__" : Str)) = false := by decide) : PE X (.Name x pos) (rd C W (varM i)) := de_tvar hcv (pe_var hN hv hd hcd)
/-- a name that holds data alone (a comprehension's own) -/
def varF (i : Nat) : M T := fun Γ => match Γ[i]? with
  | some (some (.fz d)) => .ok (.fz d) Γ
  | _ => .bad
theorem de_varF (i : Nat) {x : Str} {pos : Pos} (hN : X.N[i]? = some x := by rfl) (hv : Vis X.env.scope x := by first | exact Or.inl rfl | exact Or.inr (Or.inl rfl) | exact Or.inr (Or.inr rfl)) (hd : (x == ("__debug__" : Str)) = false := by decide)
    (hcd : (x == ("__classdict__" : Str)) = false := by decide) : PE X (.Name x pos) (rd C W (varF i)) := pe_sub (pe_var hN hv hd hcd) fun σ H Q ⟨Γ, τ, R, w⟩ => by
  obtain ⟨F, ow, R⟩ := R
  unfold varF at w
  split at w
  · rename_i d e
    obtain ⟨v, h1, h2⟩ := R.slots i _ e
    cases h2 with
    | fz h2 => exact ⟨v, h1, w v H ⟨F, ow, R.push h2⟩⟩
  · exact w.elim
theorem de_glob {x : Str} {v : V} {u : Value} {d : D} {pos : Pos} (hg : Gl X x) (hm : X.mg x = some u) (r : RelV v u) (hd : Dt C.K C.cl emp v d) (hb : (x == ("__debug__" : Str)) = false := by decide) : PE X (.Name x pos) (rd C W (constM d)) := de_scal (pe_glob hg hm r hb) hd

/-! ### operators whose value is of no heap's -/
def op2 (f : D → D → Option D) (a b : M T) : M T := bindM a fun t1 => bindM b fun t2 => bindM (lookM t1) fun d1 => bindM (lookM t2) fun d2 => bindM (optM (f d1 d2)) fun d => retM (.fz d)
def op1 (f : D → Option D) (a : M T) : M T := bindM a fun t1 => bindM (lookM t1) fun d1 => bindM (optM (f d1)) fun d => retM (.fz d)
def Sc2 (K : PySem.W.Frag) (cl : Cl) (r : R2) (f : D → D → Option D) : Prop := ∀ H v1 v2 d1 d2 d (Q : VK), Dt K cl H v1 d1 → Dt K cl H v2 d2 → f d1 d2 = some d → (∀ v, Dt K cl emp v d → Q v H) → r v1 v2 H Q
def Sc1 (K : PySem.W.Frag) (cl : Cl) (r : V → Hp → VK → Prop) (f : D → Option D) : Prop := ∀ H v1 d1 d (Q : VK), Dt K cl H v1 d1 → f d1 = some d → (∀ v, Dt K cl emp v d → Q v H) → r v1 H Q
theorem de_rop {e : Expr} {r : R2} {f : D → D → Option D} {fa fb : M T} (h : PE X e (tOp r (rd C W fa) (rd C W fb))) (s : Sc2 C.K C.cl r f) : PE X e (rd C W (op2 f fa fb)) := pe_sub h fun σ H Q ⟨Γ, τ, R, w⟩ => by
  refine rd_bind R w fun t1 Γ1 v1 H1 R1 w1 => ?_
  refine rd_bind R1 (wp_under w1) fun t2 Γ2 v2 H2 R2 w2 => ?_
  obtain ⟨d1, e1, w3⟩ := wp_lookM (Out.wp_bind w2)
  obtain ⟨d2, e2, w4⟩ := wp_lookM (Out.wp_bind w3)
  obtain ⟨d, e3, w5⟩ := wp_optM (Out.wp_bind w4)
  obtain ⟨F, ow, R2⟩ := R2
  exact s H2 v1 v2 d1 d2 d Q (R2.look R2.temps.2.1 e1) (R2.look R2.temps.1 e2) e3 fun v hv => w5 v H2 (Rel.scal ⟨F, ow, R2.pop.pop⟩ hv)
theorem de_op {op : Operator} {r : R2} {f : D → D → Option D} {fa fb : M T} {a b : Expr} {pos : Pos} (ho : OpR X (binaryOp op) r) (s : Sc2 C.K C.cl r f) (ha : PE X a (rd C W fa)) (hb : PE X b (rd C W fb)) : PE X (.BinOp a op b pos) (rd C W (op2 f fa fb)) := de_rop (pe_op ho ha hb) s
theorem de_cmp {op : CmpOp} {r : R2} {f : D → D → Option D} {fa fb : M T} {a b : Expr} {pos : Pos} (ho : OpR X (compareOp op) r) (s : Sc2 C.K C.cl r f) (ha : PE X a (rd C W fa)) (hb : PE X b (rd C W fb)) (hm : behindInMarks op b = false) : PE X (.Compare a [op] [b] pos) (rd C W (op2 f fa fb)) := de_rop (pe_cmpR ho ha hb hm) s
theorem de_un {op : UnaryOp} {r : V → Hp → VK → Prop} {f : D → Option D} {fa : M T} {a : Expr} {pos : Pos} (ho : UnR X (unaryOp op) r) (s : Sc1 C.K C.cl r f) (ha : PE X a (rd C W fa)) : PE X (.UnaryOp op a pos) (rd C W (op1 f fa)) := pe_sub (pe_un ho ha) fun σ H Q ⟨Γ, τ, R, w⟩ => by
  refine rd_bind R w fun t1 Γ1 v1 H1 R1 w1 => ?_
  obtain ⟨d1, e1, w3⟩ := wp_lookM (Out.wp_bind w1)
  obtain ⟨d, e3, w5⟩ := wp_optM (Out.wp_bind w3)
  obtain ⟨F, ow, R1⟩ := R1
  exact s H1 v1 d1 d Q (R1.look R1.temps.1 e1) e3 fun v hv => w5 v H1 (Rel.scal ⟨F, ow, R1.pop⟩ hv)
end

/-! ### the operators -/
def addD : D → D → Option D
  | .int i, .int j => some (.int (i + j))
  | _, _ => none
def subD : D → D → Option D
  | .int i, .int j => some (.int (i - j))
  | _, _ => none
def small64 (i : Int) : Bool := decide (-(2 ^ 64) < i) && decide (i < 2 ^ 64)
def mulD : D → D → Option D
  | .int i, .int j => if small64 i || small64 j then some (.int (i * j)) else none
  | _, _ => none
def modD : D → D → Option D
  | .int i, .int j => if 0 < j then some (.int (i % j)) else none
  | _, _ => none
def divD : D → D → Option D
  | .int i, .int j => if 0 < j ∧ j < 1073741824 then some (.int (i / j)) else none
  | _, _ => none
def powD : D → D → Option D
  | .int i, .int j => if 0 ≤ j ∧ j ≤ 1000000 ∧ i.natAbs < 2 ^ 64 then some (.int (i ^ j.toNat)) else none
  | _, _ => none
def negD : D → Option D
  | .int i => some (.int (-i))
  | _ => none
def ltD : D → D → Option D
  | .int i, .int j => some (.bl (decide (i < j)))
  | _, _ => none
def leD : D → D → Option D
  | .int i, .int j => some (.bl (decide (i ≤ j)))
  | _, _ => none
def gtD : D → D → Option D
  | .int i, .int j => some (.bl (decide (j < i)))
  | _, _ => none
def geD : D → D → Option D
  | .int i, .int j => some (.bl (decide (j ≤ i)))
  | _, _ => none
def D.isNon : D → Bool
  | .non => true
  | _ => false
def isNonD : D → D → Option D
  | d, .non => some (.bl d.isNon)
  | _, _ => none
def notNonD : D → D → Option D
  | d, .non => some (.bl (!d.isNon))
  | _, _ => none
section
variable {K : PySem.W.Frag} {cl : Cl}
/-- what two whole numbers give -/
theorem sc_int {g : Int → Int → V} {C : Int → Int → Prop} {f : D → D → Option D} (hf : ∀ d1 d2 d, f d1 d2 = some d → ∃ i j, d1 = .int i ∧ d2 = .int j ∧ C i j ∧ Dt K cl emp (g i j) d) : Sc2 K cl (rI C g) f := by
  intro H v1 v2 d1 d2 d Q h1 h2 e q
  obtain ⟨i, j, rfl, rfl, c, z⟩ := hf d1 d2 d e
  cases h1
  cases h2
  exact ⟨i, j, rfl, rfl, c, q _ z⟩
theorem sc_int0 {g : Int → Int → V} {f : D → D → Option D} (hf : ∀ d1 d2 d, f d1 d2 = some d → ∃ i j, d1 = .int i ∧ d2 = .int j ∧ Dt K cl emp (g i j) d) : Sc2 K cl (rI0 g) f := by
  intro H v1 v2 d1 d2 d Q h1 h2 e q
  obtain ⟨i, j, rfl, rfl, z⟩ := hf d1 d2 d e
  cases h1
  cases h2
  exact ⟨i, j, rfl, rfl, q _ z⟩
theorem sc_add : Sc2 K cl (rI0 fun i j => .int (i + j)) addD := sc_int0 fun d1 d2 d e => by
  unfold addD at e
  split at e <;> cases e
  exact ⟨_, _, rfl, rfl, .int _⟩
theorem sc_sub : Sc2 K cl (rI0 fun i j => .int (i - j)) subD := sc_int0 fun d1 d2 d e => by
  unfold subD at e
  split at e <;> cases e
  exact ⟨_, _, rfl, rfl, .int _⟩
theorem sc_mul : Sc2 K cl (rI CMul fun i j => .int (i * j)) mulD := sc_int fun d1 d2 d e => by
  unfold mulD at e
  split at e
  · split at e <;> cases e
    rename_i i j h
    refine ⟨_, _, rfl, rfl, ?_, .int _⟩
    simp only [small64, Bool.or_eq_true, Bool.and_eq_true, decide_eq_true_eq] at h
    exact h
  · cases e
theorem sc_mod : Sc2 K cl (rI (fun _ j => 0 < j) fun i j => .int (i % j)) modD := sc_int fun d1 d2 d e => by
  unfold modD at e
  split at e
  · split at e <;> cases e
    rename_i h
    exact ⟨_, _, rfl, rfl, h, .int _⟩
  · cases e
theorem sc_div : Sc2 K cl (rI CDiv fun i j => .int (i / j)) divD := sc_int fun d1 d2 d e => by
  unfold divD at e
  split at e
  · split at e <;> cases e
    rename_i h
    exact ⟨_, _, rfl, rfl, h, .int _⟩
  · cases e
theorem sc_pow : Sc2 K cl (rI CPow fun i j => .int (i ^ j.toNat)) powD := sc_int fun d1 d2 d e => by
  unfold powD at e
  split at e
  · split at e <;> cases e
    rename_i h
    exact ⟨_, _, rfl, rfl, h, .int _⟩
  · cases e
theorem sc_lt : Sc2 K cl (rI0 fun i j => .bl (decide (i < j))) ltD := sc_int0 fun d1 d2 d e => by
  unfold ltD at e
  split at e <;> cases e
  exact ⟨_, _, rfl, rfl, .bl _⟩
theorem sc_le : Sc2 K cl (rI0 fun i j => .bl (decide (i ≤ j))) leD := sc_int0 fun d1 d2 d e => by
  unfold leD at e
  split at e <;> cases e
  exact ⟨_, _, rfl, rfl, .bl _⟩
theorem sc_gt : Sc2 K cl (rI0 fun i j => .bl (decide (j < i))) gtD := sc_int0 fun d1 d2 d e => by
  unfold gtD at e
  split at e <;> cases e
  exact ⟨_, _, rfl, rfl, .bl _⟩
theorem sc_ge : Sc2 K cl (rI0 fun i j => .bl (decide (j ≤ i))) geD := sc_int0 fun d1 d2 d e => by
  unfold geD at e
  split at e <;> cases e
  exact ⟨_, _, rfl, rfl, .bl _⟩
theorem sc_neg : Sc1 K cl (rU fun i => .int (-i)) negD := by
  intro H v1 d1 d Q h1 e q
  unfold negD at e
  split at e <;> cases e
  cases h1
  exact ⟨_, rfl, q _ (.int _)⟩
theorem Dt.nonIff {F : Hp} {v : V} {d : D} (h : Dt K cl F v d) : decide (v = .non) = d.isNon := by
  cases h <;> rfl
theorem sc_isN : Sc2 K cl (fun x y H Q => y = .non ∧ Q (.bl (decide (x = .non))) H) isNonD := by
  intro H v1 v2 d1 d2 d Q h1 h2 e q
  unfold isNonD at e
  split at e <;> cases e
  cases h2
  refine ⟨rfl, ?_⟩
  rw [h1.nonIff]
  exact q _ (.bl _)
theorem sc_notN : Sc2 K cl (fun x y H Q => y = .non ∧ Q (.bl (!decide (x = .non))) H) notNonD := by
  intro H v1 v2 d1 d2 d Q h1 h2 e q
  unfold notNonD at e
  split at e <;> cases e
  cases h2
  refine ⟨rfl, ?_⟩
  rw [h1.nonIff]
  exact q _ (.bl _)
end
end DL
/-! tests, equality, sequences, calls of built-ins -/
namespace DL
open PySem L2

/-! ### tests -/
def D.toB : D → Option Bool
  | .bl b => some b
  | _ => none
def boolM (f : M T) : M Bool := bindM f fun t => bindM (lookM t) fun d => optM d.toB
def andM (f g : M Bool) : M Bool := bindM f fun b => if b then g else retM false
def orM (f g : M Bool) : M Bool := bindM f fun b => if b then retM true else g
def notM (f : M Bool) : M Bool := bindM f fun b => retM (!b)
def ofB (f : M Bool) : M T := bindM f fun b => retM (.fz (.bl b))
def ifM {α : Type} (c : M Bool) (f g : M α) : M α := bindM c fun b => if b then f else g
section
variable {X : Cx} {C : Cc} {W : WX}
theorem rdT_bool {f : M T} {σ : St} {H : Hp} {Q : Bool → Hp → Prop} (h : rdT C W (boolM f) σ H Q) : rd C W f σ H fun x H1 => ∃ c, x = .bl c ∧ Q c H1 := by
  obtain ⟨Γ, τ, R, w⟩ := h
  refine rd_bind R w fun t Γ1 v H1 R1 w1 => ?_
  obtain ⟨d, e1, w2⟩ := wp_lookM (Out.wp_bind w1)
  obtain ⟨b, e2, w3⟩ := wp_optM w2
  obtain ⟨F, ow, R1⟩ := R1
  have hd := R1.look R1.temps.1 e1
  cases d with
  | bl b' =>
    cases e2
    cases hd
    exact ⟨_, rfl, w3 H1 ⟨F, ow, R1.pop⟩⟩
  | _ => cases e2
theorem dt_val {e : Expr} {f : M T} (h : PE X e (rd C W f)) (he : ∀ whole, isTrue e X.env whole = (do let v ← whole; standAt e.pos; holding [v] (truthy v)) := by intro _; rfl) : PT X e (rdT C W (boolM f)) :=
  pt_sub (pt_val h he) fun σ H Q q => rdT_bool q
theorem dt_cmp {op : CmpOp} {r : R2} {f : D → D → Option D} {fa fb : M T} {a b : Expr} {pos : Pos} (ho : OpR X (compareOp op) r) (s : Sc2 C.K C.cl r f) (ha : PE X a (rd C W fa)) (hb : PE X b (rd C W fb)) (hm : behindInMarks op b = false) : PT X (.Compare a [op] [b] pos) (rdT C W (boolM (op2 f fa fb))) :=
  pt_sub (pt_cmpR ho ha hb hm) fun σ H Q q => by
    obtain ⟨Γ, τ, R, w⟩ := rdT_bool q
    refine rd_bind R w fun t1 Γ1 v1 H1 R1 w1 => ?_
    refine rd_bind R1 (wp_under w1) fun t2 Γ2 v2 H2 R2 w2 => ?_
    obtain ⟨d1, e1, w3⟩ := wp_lookM (Out.wp_bind w2)
    obtain ⟨d2, e2, w4⟩ := wp_lookM (Out.wp_bind w3)
    obtain ⟨d, e3, w5⟩ := wp_optM (Out.wp_bind w4)
    obtain ⟨F, ow, R2⟩ := R2
    exact s H2 v1 v2 d1 d2 d _ (R2.look R2.temps.2.1 e1) (R2.look R2.temps.1 e2) e3 fun v hv => w5 v H2 (Rel.scal ⟨F, ow, R2.pop.pop⟩ hv)
theorem rdT_bind {α : Type} {f : M Bool} {k : Bool → M α} {σ : St} {H : Hp} {Γ : Env} {τ : Hand} {Q : Bool → Hp → Prop} {P : α → Env → Prop} (R : Rel C σ H Γ τ) (h : (bindM f k Γ).Wp P (wx C W σ τ))
    (hq : ∀ b Γ' H', Rel C σ H' Γ' τ → (k b Γ').Wp P (wx C W σ τ) → Q b H') : rdT C W f σ H Q :=
  ⟨Γ, τ, R, Out.wp_mono (Out.wp_bind h) (fun b Γ' w H' R' => hq b Γ' H' R' w) (fun _ _ z => z)⟩
theorem rdT_and {f g : M Bool} {σ : St} {H : Hp} {Q : Bool → Hp → Prop} (h : rdT C W (andM f g) σ H Q) : tAnd (rdT C W f) (rdT C W g) σ H Q := by
  obtain ⟨Γ, τ, R, w⟩ := h
  refine rdT_bind R w fun b Γ1 H1 R1 w1 => ?_
  cases b with
  | true => exact ⟨Γ1, τ, R1, w1⟩
  | false => exact w1 H1 R1
theorem rdT_or {f g : M Bool} {σ : St} {H : Hp} {Q : Bool → Hp → Prop} (h : rdT C W (orM f g) σ H Q) : tOr (rdT C W f) (rdT C W g) σ H Q := by
  obtain ⟨Γ, τ, R, w⟩ := h
  refine rdT_bind R w fun b Γ1 H1 R1 w1 => ?_
  cases b with
  | true => exact w1 H1 R1
  | false => exact ⟨Γ1, τ, R1, w1⟩
theorem pw_sub {e : Expr} {t t' : TT} (h : PW X e t) (m : ∀ σ H Q, t' σ H Q → t σ H Q) : PW X e t' := ⟨fun wh pins s σ H Q I q => h.run wh pins s σ H Q I (m σ H Q q)⟩
theorem dw_and1 {a : Expr} {f : M Bool} {pos : Pos} (ha : PT X a (rdT C W f)) : PW X (.BoolOp .And [a] pos) (rdT C W f) := pw_and1 ha
theorem dw_or1 {a : Expr} {f : M Bool} {pos : Pos} (ha : PT X a (rdT C W f)) : PW X (.BoolOp .Or [a] pos) (rdT C W f) := pw_or1 ha
theorem dw_and {a b : Expr} {rest : List Expr} {f g : M Bool} {pos : Pos} (ha : PT X a (rdT C W f)) (hb : PW X (.BoolOp .And (b :: rest) pos) (rdT C W g)) : PW X (.BoolOp .And (a :: b :: rest) pos) (rdT C W (andM f g)) := pw_sub (pw_and ha hb) fun σ H Q q => rdT_and q
theorem dw_or {a b : Expr} {rest : List Expr} {f g : M Bool} {pos : Pos} (ha : PT X a (rdT C W f)) (hb : PW X (.BoolOp .Or (b :: rest) pos) (rdT C W g)) : PW X (.BoolOp .Or (a :: b :: rest) pos) (rdT C W (orM f g)) := pw_sub (pw_or ha hb) fun σ H Q q => rdT_or q
theorem dt_not {a : Expr} {f : M Bool} {pos : Pos} (ha : PT X a (rdT C W f)) : PT X (.UnaryOp .Not a pos) (rdT C W (notM f)) := pt_sub (pt_not ha) fun σ H Q ⟨Γ, τ, R, w⟩ => rdT_bind R w fun b Γ1 H1 R1 w1 => w1 H1 R1
/-- as values, bools alone -/
def andV (f g : M T) : M T := bindM (boolM f) fun b => if b then bindM g settle else retM (.fz (.bl false))
def orV (f g : M T) : M T := bindM (boolM f) fun b => if b then retM (.fz (.bl true)) else bindM g settle
def notV (f : M T) : M T := bindM (boolM f) fun b => retM (.fz (.bl (!b)))
theorem rd_settle {f : M T} {σ : St} {H : Hp} {Γ : Env} {τ : Hand} {Q : VK} (R : Rel C σ H Γ τ) (h : (bindM f settle Γ).Wp (fun t Γ' => ∀ v H', Rel C σ H' Γ' ((v, t) :: τ) → Q v H') (wx C W σ τ)) : rd C W f σ H Q :=
  rd_bind R h fun t Γ1 v H1 R1 w1 => by
    obtain ⟨t', Γ2, _, R2, w2⟩ := R1.settle w1
    exact w2 v H1 R2
theorem boolM_bind {α : Type} {f : M T} {k : Bool → M α} {σ : St} {H : Hp} {Γ : Env} {τ : Hand} {Q : VK} {P : α → Env → Prop} (R : Rel C σ H Γ τ) (h : (bindM (boolM f) k Γ).Wp P (wx C W σ τ))
    (hq : ∀ b Γ' H', Rel C σ H' Γ' τ → (k b Γ').Wp P (wx C W σ τ) → Q (.bl b) H') : rd C W f σ H Q := by
  have z : rdT C W (boolM f) σ H (fun b H' => Q (.bl b) H') := rdT_bind R h hq
  obtain ⟨Γ', τ', R', w'⟩ := rdT_bool z
  exact ⟨Γ', τ', R', Out.wp_mono w' (fun t Γ'' q v H' R'' => by
    obtain ⟨c, e, q⟩ := q v H' R''
    rw [e]
    exact q) fun _ _ q => q⟩
theorem de_one {a : Expr} {op} {f : M T} {pos : Pos} (h : PE X a (rd C W f)) : PE X (.BoolOp op [a] pos) (rd C W f) := pe_one h
theorem de_and {a b : Expr} {rest : List Expr} {f g : M T} {pos : Pos} (ha : PE X a (rd C W f)) (hb : PE X (.BoolOp .And (b :: rest) pos) (rd C W g)) : PE X (.BoolOp .And (a :: b :: rest) pos) (rd C W (andV f g)) :=
  pe_sub (pe_and ha hb) fun σ H Q ⟨Γ, τ, R, w⟩ => by
    refine boolM_bind R w fun b Γ1 H1 R1 w1 => ⟨b, rfl, ?_⟩
    cases b with
    | true => exact rd_settle R1 w1
    | false => exact w1 _ H1 (R1.scal (.bl false))
theorem de_or {a b : Expr} {rest : List Expr} {f g : M T} {pos : Pos} (ha : PE X a (rd C W f)) (hb : PE X (.BoolOp .Or (b :: rest) pos) (rd C W g)) : PE X (.BoolOp .Or (a :: b :: rest) pos) (rd C W (orV f g)) :=
  pe_sub (pe_or ha hb) fun σ H Q ⟨Γ, τ, R, w⟩ => by
    refine boolM_bind R w fun b Γ1 H1 R1 w1 => ⟨b, rfl, ?_⟩
    cases b with
    | true => exact w1 _ H1 (R1.scal (.bl true))
    | false => exact rd_settle R1 w1
theorem de_not {a : Expr} {f : M T} {pos : Pos} (ha : PE X a (rd C W f)) : PE X (.UnaryOp .Not a pos) (rd C W (notV f)) :=
  pe_sub (pe_not ha) fun σ H Q ⟨Γ, τ, R, w⟩ => by
    refine boolM_bind R w fun b Γ1 H1 R1 w1 => ⟨b, rfl, ?_⟩
    exact w1 _ H1 (R1.scal (.bl _))
theorem de_if {c a b : Expr} {fc : M Bool} {fa fb : M T} {pos : Pos} (hc : PT X c (rdT C W fc)) (ha : PE X a (rd C W fa)) (hb : PE X b (rd C W fb)) : PE X (.IfExp c a b pos) (rd C W (ifM fc fa fb)) :=
  pe_sub (pe_ifExp hc ha hb) fun σ H Q ⟨Γ, τ, R, w⟩ => by
    refine rdT_bind R w fun b Γ1 H1 R1 w1 => ?_
    cases b with
    | true => exact ⟨Γ1, τ, R1, w1⟩
    | false => exact ⟨Γ1, τ, R1, w1⟩
end

/-! ### equality of data -/
mutual
def D.eqb : D → D → Bool
  | .non, .non => true
  | .bl a, .bl b => a == b
  | .bl a, .int j => (if a then 1 else 0) == j
  | .int i, .bl b => i == (if b then 1 else 0)
  | .int i, .int j => i == j
  | .str x, .str y => x == y
  | .lst xs, .lst ys => D.eqbs xs ys
  | .tup xs, .tup ys => D.eqbs xs ys
  | _, _ => false
def D.eqbs : List D → List D → Bool
  | [], [] => true
  | x :: xs, y :: ys => D.eqb x y && D.eqbs xs ys
  | _, _ => false
end
mutual
/-- plain data, so deep at the most -/
def D.fit : Nat → D → Bool
  | _, .non => true
  | _, .bl _ => true
  | _, .int _ => true
  | _, .str x => PyData.strOk x
  | n + 1, .lst xs => D.fits n xs
  | n + 1, .tup xs => D.fits n xs
  | _, _ => false
def D.fits : Nat → List D → Bool
  | _, [] => true
  | n, x :: xs => D.fit n x && D.fits n xs
end
mutual
def D.py : D → PyData
  | .non => .none
  | .bl b => .bool b
  | .int i => .int i
  | .str x => .str x
  | .lst xs => .list (D.pys xs)
  | .tup xs => .tuple (D.pys xs)
  | _ => .none
def D.pys : List D → List PyData
  | [] => []
  | x :: xs => D.py x :: D.pys xs
end
mutual
theorem D.eqb_py : ∀ (n m : Nat) (a b : D), a.fit n = true → b.fit m = true → a.eqb b = PyData.eqv a.py b.py
  | n, m, a, b, h1, h2 => by
    cases a with
    | non => cases b <;> first | rfl | (cases m <;> cases h2)
    | bl x => cases b <;> first | rfl | (cases m <;> cases h2)
    | int x => cases b <;> first | rfl | (cases m <;> cases h2)
    | str x => cases b <;> first | rfl | (cases m <;> cases h2)
    | lst xs =>
      cases n with
      | zero => cases h1
      | succ n =>
        cases b with
        | lst ys =>
          cases m with
          | zero => cases h2
          | succ m => exact D.eqbs_py n m xs ys h1 h2
        | _ => first | rfl | (cases m <;> cases h2)
    | tup xs =>
      cases n with
      | zero => cases h1
      | succ n =>
        cases b with
        | tup ys =>
          cases m with
          | zero => cases h2
          | succ m => exact D.eqbs_py n m xs ys h1 h2
        | _ => first | rfl | (cases m <;> cases h2)
    | _ => cases n <;> cases h1
theorem D.eqbs_py : ∀ (n m : Nat) (xs ys : List D), D.fits n xs = true → D.fits m ys = true → D.eqbs xs ys = PyData.eqvAll (D.pys xs) (D.pys ys)
  | n, m, [], [], _, _ => rfl
  | n, m, [], y :: ys, _, _ => rfl
  | n, m, x :: xs, [], _, _ => rfl
  | n, m, x :: xs, y :: ys, h1, h2 => by
    unfold D.fits at h1 h2
    rw [Bool.and_eq_true] at h1 h2
    unfold D.eqbs
    rw [D.eqb_py n m x y h1.1 h2.1, D.eqbs_py n m xs ys h1.2 h2.2]
    rfl
end
mutual
theorem D.fit_lay : ∀ (n : Nat) (a : D), a.fit n = true → a.py.canLay0 = true ∧ a.py.depth ≤ n
  | n, a, h => by
    cases a with
    | non => exact ⟨rfl, Nat.zero_le _⟩
    | bl x => exact ⟨rfl, Nat.zero_le _⟩
    | int x => exact ⟨rfl, Nat.zero_le _⟩
    | str x =>
      have h' : PyData.strOk x = true := by
        unfold D.fit at h
        exact h
      exact ⟨h', Nat.zero_le _⟩
    | lst xs =>
      cases n with
      | zero => cases h
      | succ n =>
        obtain ⟨h1, h2⟩ := D.fits_lay n xs h
        exact ⟨h1, Nat.succ_le_succ h2⟩
    | tup xs =>
      cases n with
      | zero => cases h
      | succ n =>
        obtain ⟨h1, h2⟩ := D.fits_lay n xs h
        exact ⟨h1, Nat.succ_le_succ h2⟩
    | _ => cases n <;> cases h
theorem D.fits_lay : ∀ (n : Nat) (xs : List D), D.fits n xs = true → PyData.canLayAll0 (D.pys xs) = true ∧ PyData.depthAll (D.pys xs) ≤ n
  | n, [], _ => ⟨rfl, Nat.zero_le _⟩
  | n, x :: xs, h => by
    unfold D.fits at h
    rw [Bool.and_eq_true] at h
    obtain ⟨a1, a2⟩ := D.fit_lay n x h.1
    obtain ⟨b1, b2⟩ := D.fits_lay n xs h.2
    refine ⟨?_, Nat.max_le.mpr ⟨a2, b2⟩⟩
    show (x.py.canLay0 && PyData.canLayAll0 (D.pys xs)) = true
    rw [a1, b1]
    rfl
end
section
variable {K : PySem.W.Frag} {cl : Cl} {H : Hp}
mutual
theorem Dt.dp : ∀ {n : Nat} {v : V} {d : D}, Dt K cl H v d → d.fit n = true → Dp K H v d.py
  | _, _, _, .non, _ => .non
  | _, _, _, .bl b, _ => .bl b
  | _, _, _, .int i, _ => .int i
  | _, _, _, .str s, _ => .str s
  | n, _, _, .lst h hl hs, f => by
    cases n with
    | zero => cases f
    | succ n => exact .lst (SqL.of h) (Dts.dp hs f)
  | n, _, _, .tup h hl hs, f => by
    cases n with
    | zero => cases f
    | succ n => exact .tup h (Dts.dp hs f)
  | n, _, _, .scr h hl, f => by cases n <;> cases f
  | n, _, _, .dK h _ hs, f => by cases n <;> cases f
  | n, _, _, .dT h _ hs, f => by cases n <;> cases f
  | n, _, _, .ins h _ _ hs, f => by cases n <;> cases f
theorem Dts.dp : ∀ {n : Nat} {vs : List V} {ds : List D}, Dts K cl H vs ds → D.fits n ds = true → DpAll K H vs (D.pys ds)
  | _, _, _, .nil, _ => .nil
  | n, _, _, .cons h hs, f => by
    unfold D.fits at f
    rw [Bool.and_eq_true] at f
    exact .cons (Dt.dp h f.1) (Dts.dp hs f.2)
end
theorem D.shaped {d : D} (h : d.fit 64 = true) : SeqAt.shaped d.py = true := by
  obtain ⟨h1, h2⟩ := D.fit_lay 64 d h
  unfold SeqAt.shaped
  rw [h1, decide_eq_true h2]
  rfl
def eqD (a b : D) : Option D := if a.fit 64 && b.fit 64 then some (.bl (a.eqb b)) else none
def neD (a b : D) : Option D := if a.fit 64 && b.fit 64 then some (.bl (!a.eqb b)) else none
theorem sc_eq : Sc2 K cl (rEqD K) eqD := by
  intro H v1 v2 d1 d2 d Q h1 h2 e q
  unfold eqD at e
  split at e <;> cases e
  rename_i h
  rw [Bool.and_eq_true] at h
  refine ⟨_, _, h1.dp h.1, h2.dp h.2, D.shaped h.1, D.shaped h.2, ?_⟩
  rw [← D.eqb_py 64 64 d1 d2 h.1 h.2]
  exact q _ (.bl _)
theorem sc_ne : Sc2 K cl (rNeD K) neD := by
  intro H v1 v2 d1 d2 d Q h1 h2 e q
  unfold neD at e
  split at e <;> cases e
  rename_i h
  rw [Bool.and_eq_true] at h
  refine ⟨_, _, h1.dp h.1, h2.dp h.2, D.shaped h.1, D.shaped h.2, ?_⟩
  rw [← D.eqb_py 64 64 d1 d2 h.1 h.2]
  exact q _ (.bl _)
end

/-! ### sequences in hand -/
def T.fzs : List T → Option (List D)
  | [] => some []
  | .fz d :: ts => (T.fzs ts).map (d :: ·)
  | _ :: _ => none
theorem T.fzs_eq : ∀ {ts : List T} {ds : List D}, T.fzs ts = some ds → ts = ds.map T.fz
  | [], ds, h => by
    simp [T.fzs] at h
    subst h
    rfl
  | .fz d :: ts, ds, h => by
    unfold T.fzs at h
    cases e : T.fzs ts with
    | none => rw [e] at h; cases h
    | some es =>
      rw [e] at h
      cases h
      rw [T.fzs_eq e]
      rfl
  | .ol _ :: _, _, h => by cases h
  | .oi _ _ :: _, _, h => by cases h
  | .al _ :: _, _, h => by cases h
inductive Sq where
  | l (ds : List D) | t (ds : List D) | s (ns : List Int)
def Sq.ds : Sq → List D
  | .l ds => ds
  | .t ds => ds
  | .s ns => ns.map D.int
def T.sq : T → Option Sq
  | .fz (.lst ds) => some (.l ds)
  | .fz (.tup ds) => some (.t ds)
  | .fz (.scr ns) => some (.s ns)
  | .ol ts => (T.fzs ts).map Sq.l
  | _ => none
def sqOf (Γ : Env) : T → Option Sq
  | .al i => match Γ[i]? with
    | some (some t) => t.sq
    | _ => none
  | t => t.sq
def sqM (t : T) : M Sq := fun Γ => match sqOf Γ t with
  | some q => .ok q Γ
  | none => .bad
/-- what stands at the address -/
def SqOk (C : Cc) (F H : Hp) (a : Addr) (vs : List V) : Sq → Prop
  | .l _ => H a = some (.lst vs)
  | .t _ => SqT C.K F a vs
  | .s _ => SqL C.K H a vs
section
variable {C : Cc} {W : WX} {σ : St} {H H' F : Hp} {Γ : Env} {τ : Hand} {v : V} {t : T} {q : Sq} {ow : Addr → Option Root}
theorem wp_sqM {P : Sq → Env → Prop} {E : Exn → Env → Prop} (h : (sqM t Γ).Wp P E) : ∃ q, sqOf Γ t = some q ∧ P q Γ := by
  unfold sqM at h
  cases e : sqOf Γ t with
  | none => simp only [e] at h; exact h.elim
  | some q => simp only [e] at h; exact ⟨q, rfl, h⟩
theorem OwT.sq {S : Addr → Prop} (hx : Sub F H) (h : OwT C.K C.cl F H S v t) (e : t.sq = some q) : ∃ a vs, v = .ref a ∧ SqOk C F H a vs q ∧ Dts C.K C.cl F vs q.ds ∧ vs.length ≤ sizeLine := by
  cases h with
  | fz hd =>
    cases hd with
    | lst h1 hl h2 => cases e; exact ⟨_, _, rfl, hx _ _ h1, h2, hl⟩
    | tup h1 hl h2 => cases e; exact ⟨_, _, rfl, h1, h2, hl⟩
    | scr h1 hl => cases e; exact ⟨_, _, rfl, hx.sqL h1, Dts.ofInts, by rw [List.length_map]; exact hl⟩
    | _ => cases e
  | ol sub h1 hl s h2 =>
    rename_i ts
    cases e1 : T.fzs ts with
    | none => simp [T.sq, e1] at e
    | some ds =>
      simp [T.sq, e1] at e
      subst e
      rw [T.fzs_eq e1] at h2
      exact ⟨_, _, rfl, h1, h2.dts, hl⟩
  | oi sub h1 _ s _ h2 => cases e
theorem Rl.sq {S : Addr → Prop} (R : Rl C σ H Γ τ F ow) (h : TempOk C σ F H S v t) (e : sqOf Γ t = some q) : ∃ a vs, v = .ref a ∧ SqOk C F H a vs q ∧ Dts C.K C.cl F vs q.ds ∧ vs.length ≤ sizeLine := by
  cases t with
  | al i =>
    unfold sqOf at e
    cases e1 : Γ[i]? with
    | none => simp only [e1] at e; cases e
    | some o =>
      cases o with
      | none => simp only [e1] at e; cases e
      | some t' =>
        simp only [e1] at e
        obtain ⟨w, h1, h2⟩ := R.slots i t' e1
        have hv : σ[i]? = some (some v) := h.1
        rw [h1] at hv
        cases hv
        exact h2.sq R.ex e
  | fz d => exact OwT.sq R.ex h e
  | ol ts => exact OwT.sq R.ex h e
  | oi c ts => exact OwT.sq R.ex h e
end

/-! ### items -/
def ixD (d : D) (xs : List D) : Option D := match d with
  | .int i => atI xs i
  | _ => none
def strIx (d i : D) : Option D := match d, i with
  | .str z, .int i => if z.length ≤ sizeLine then (atI z.cps.toList i).map fun c => .str ⟨#[c]⟩ else none
  | _, _ => none
def ixM (a b : M T) : M T := bindM a fun t1 => bindM b fun t2 => bindM (lookM t2) fun i => bindM (sqM t1) fun q => bindM (optM (ixD i q.ds)) fun d => retM (.fz d)
section
variable {X : Cx} {C : Cc} {W : WX}
theorem Dts.atI {K : PySem.W.Frag} {cl : Cl} {F : Hp} {vs : List V} {ds : List D} {i : Int} {d : D} (h : Dts K cl F vs ds) (e : L2.atI ds i = some d) : ∃ v, L2.atI vs i = some v ∧ Dt K cl F v d := by
  unfold L2.atI at e ⊢
  rw [h.length]
  cases e1 : ixN ds.length i with
  | none => rw [e1] at e; cases e
  | some j =>
    rw [e1] at e
    exact h.get e
theorem de_ix {a b : Expr} {fa fb : M T} {pos : Pos} (ha : PE X a (rd C W fa)) (hb : PE X b (rd C W fb)) (hK : C.K = X.K) (hs : PlainIx b := by exact fun _ _ => rfl) : PE X (.Subscript a b pos) (rd C W (ixM fa fb)) :=
  pe_sub (pe_ix (ix_list.or ix_tup) ha hb hs) fun σ H Q ⟨Γ, τ, R, w⟩ => by
    refine rd_bind R w fun t1 Γ1 v1 H1 R1 w1 => ?_
    refine rd_bind R1 (wp_under w1) fun t2 Γ2 v2 H2 R2 w2 => ?_
    obtain ⟨i, e1, w3⟩ := wp_lookM (Out.wp_bind w2)
    obtain ⟨q, e2, w4⟩ := wp_sqM (Out.wp_bind w3)
    obtain ⟨d, e3, w5⟩ := wp_optM (Out.wp_bind w4)
    obtain ⟨F, ow, R2⟩ := R2
    have hi := R2.look R2.temps.1 e1
    obtain ⟨p, vs, rfl, hq, hd, _⟩ := R2.sq R2.temps.2.1 e2
    cases i with
    | int i =>
      cases hi
      obtain ⟨v, e4, hv⟩ := Dts.atI hd e3
      have fin := w5 v H2 ⟨F, ow, R2.pop.pop.push hv⟩
      rw [← hK]
      cases q with
      | l ds => exact .inl ⟨p, vs, i, v, rfl, rfl, SqL.of hq, e4, fin⟩
      | t ds => exact .inr ⟨p, vs, i, v, rfl, rfl, R2.ex.sqT hq, e4, fin⟩
      | s ns => exact .inl ⟨p, vs, i, v, rfl, rfl, hq, e4, fin⟩
    | _ => cases e3
theorem sc_strIx {K : PySem.W.Frag} {cl : Cl} : Sc2 K cl rIxS strIx := by
  intro H v1 v2 d1 d2 d Q h1 h2 e q
  unfold strIx at e
  split at e
  · split at e
    · rename_i z i hz
      cases h1
      cases h2
      cases e1 : L2.atI z.cps.toList i with
      | none => rw [e1] at e; cases e
      | some c =>
        rw [e1] at e
        cases e
        exact ⟨z, i, c, rfl, rfl, hz, e1, q _ (.str _)⟩
    · cases e
  · cases e
theorem de_ixStr {a b : Expr} {fa fb : M T} {pos : Pos} (ha : PE X a (rd C W fa)) (hb : PE X b (rd C W fb)) (hs : PlainIx b := by exact fun _ _ => rfl) : PE X (.Subscript a b pos) (rd C W (op2 strIx fa fb)) := de_rop (pe_ix ix_str ha hb hs) sc_strIx
end

/-! ### arguments -/
def argsM : List (M T) → M (List T)
  | [] => retM []
  | f :: fs => bindM f fun t => bindM (argsM fs) fun ts => retM (t :: ts)
section
variable {X : Cx} {C : Cc} {W : WX}
theorem da_nil : PA X [] (rdA C W (argsM [])) := pa_sub pa_nil fun σ H Q ⟨Γ, τ, R, w⟩ => w [] H rfl R
theorem da_cons {e : Expr} {es : List Expr} {f : M T} {fs : List (M T)} (ha : PE X e (rd C W f)) (hr : PA X es (rdA C W (argsM fs))) (hs : starEach (e :: es) X.env = (false, eval e X.env) :: starEach es X.env := by rfl) : PA X (e :: es) (rdA C W (argsM (f :: fs))) :=
  pa_sub (pa_cons ha hr hs) fun σ H Q ⟨Γ, τ, R, w⟩ => by
    refine rd_bind R w fun t Γ1 v H1 R1 w1 => ?_
    refine ⟨Γ1, (v, t) :: τ, R1, Out.wp_mono (Out.wp_bind (wp_under w1)) (fun ts Γ2 w2 vs H2 hl R2 => w2 (v :: vs) H2 (by simp [hl]) ?_) (fun _ _ z => z)⟩
    rw [List.zip_cons_cons, List.reverse_cons, List.append_assoc]
    exact R2
theorem da_frz {e : Expr} {f : M T} (ha : PE X e (rd C W f)) : PE X e (rd C W (frozen f)) := pe_sub ha fun σ H Q ⟨Γ, τ, R, w⟩ => by
  refine rd_bind R w fun t Γ1 v H1 R1 w1 => ?_
  obtain ⟨d, Γ2, R2, w2⟩ := R1.frz w1
  exact w2 v H1 R2
theorem da_settle {e : Expr} {f : M T} (ha : PE X e (rd C W f)) : PE X e (rd C W (settled f)) := pe_sub ha fun σ H Q ⟨Γ, τ, R, w⟩ => rd_settle R w
end
/-- all in hand, as data -/
def looks (Γ : Env) : List T → Option (List D)
  | [] => some []
  | t :: ts => match look Γ t, looks Γ ts with
    | some d, some ds => some (d :: ds)
    | _, _ => none
def looksM (ts : List T) : M (List D) := fun Γ => match looks Γ ts with
  | some ds => .ok ds Γ
  | none => .bad
/-- a call whose value is of no heap's -/
def callD (f : List D → Option D) (a : M (List T)) : M T := bindM a fun ts => bindM (looksM ts) fun ds => bindM (optM (f ds)) fun d => retM (.fz d)
def ScC (K : PySem.W.Frag) (cl : Cl) (r : List V → Hp → VK → Prop) (f : List D → Option D) : Prop := ∀ H vs ds d (Q : VK), Dts K cl H vs ds → f ds = some d → (∀ v, Dt K cl emp v d → Q v H) → r vs H Q
section
variable {X : Cx} {C : Cc} {W : WX}
theorem Rl.looks {σ : St} {H F : Hp} {Γ : Env} {ow : Addr → Option Root} : ∀ {vs : List V} {ts : List T} {τ : Hand} {ds : List D}, vs.length = ts.length → Rl C σ H Γ ((vs.zip ts).reverse ++ τ) F ow → DL.looks Γ ts = some ds → Dts C.K C.cl H vs ds := by
  intro vs
  induction vs with
  | nil =>
    intro ts τ ds hl R e
    cases ts with
    | nil => cases e; exact .nil
    | cons t ts => cases hl
  | cons v vs ih =>
    intro ts τ ds hl R e
    cases ts with
    | nil => cases hl
    | cons t ts =>
      unfold DL.looks at e
      cases e1 : DL.look Γ t with
      | none => simp [e1] at e
      | some d =>
        cases e2 : DL.looks Γ ts with
        | none => simp [e1, e2] at e
        | some es =>
          simp [e1, e2] at e
          subst e
          rw [List.zip_cons_cons, List.reverse_cons, List.append_assoc] at R
          have R' : Rl C σ H Γ ((vs.zip ts).reverse ++ ((v, t) :: τ)) F ow := R
          have top : ∀ (υ : Hand), TempsOk C σ F H ow (υ ++ ((v, t) :: τ)) → TempOk C σ F H (fun a => ow a = some (.inr τ.length)) v t := by
            intro υ
            induction υ with
            | nil => intro h; exact h.1
            | cons p υ ih => intro h; exact ih h.2
          exact .cons (R.look (top _ R'.temps) e1) (ih (Nat.succ.inj hl) R' e2)
theorem wp_looksM {Γ : Env} {ts : List T} {P : List D → Env → Prop} {E : Exn → Env → Prop} (h : (looksM ts Γ).Wp P E) : ∃ ds, DL.looks Γ ts = some ds ∧ P ds Γ := by
  unfold looksM at h
  cases e : DL.looks Γ ts with
  | none => simp only [e] at h; exact h.elim
  | some ds => simp only [e] at h; exact ⟨ds, rfl, h⟩
theorem rdA_bind {α : Type} {f : M (List T)} {k : List T → M α} {σ : St} {H : Hp} {Γ : Env} {τ : Hand} {Q : List V → Hp → Prop} {P : α → Env → Prop} (R : Rel C σ H Γ τ) (h : (bindM f k Γ).Wp P (wx C W σ τ))
    (hq : ∀ ts Γ' vs H', vs.length = ts.length → Rel C σ H' Γ' ((vs.zip ts).reverse ++ τ) → (k ts Γ').Wp P (wx C W σ τ) → Q vs H') : rdA C W f σ H Q :=
  ⟨Γ, τ, R, Out.wp_mono (Out.wp_bind h) (fun ts Γ' w vs H' hl R' => hq ts Γ' vs H' hl R' w) (fun _ _ z => z)⟩
theorem de_rcall {e : Expr} {r : List V → Hp → VK → Prop} {f : List D → Option D} {fa : M (List T)} (h : PE X e (tCB r (rdA C W fa))) (s : ScC C.K C.cl r f) : PE X e (rd C W (callD f fa)) := pe_sub h fun σ H Q ⟨Γ, τ, R, w⟩ => by
  refine rdA_bind R w fun ts Γ1 vs H1 hl R1 w1 => ?_
  obtain ⟨ds, e1, w2⟩ := wp_looksM (Out.wp_bind w1)
  obtain ⟨d, e2, w3⟩ := wp_optM (Out.wp_bind w2)
  obtain ⟨F, ow, R1⟩ := R1
  exact s H1 vs ds d Q (R1.looks hl e1) e2 fun v hv => w3 v H1 ((Rel.drop ⟨F, ow, R1⟩).scal hv)
theorem de_callB {id : String} {x : Str} {r : List V → Hp → VK → Prop} {f : List D → Option D} {e : Expr} {es : List Expr} {fa : M (List T)} {p pos : Pos} (hc : CallR X (.builtin id) r) (s : ScC C.K C.cl r f) (hg : Gl X x) (hm : X.mg x = none) (hv : bootBuiltins x = some (.builtin id)) (ha : PA X (e :: es) (rdA C W fa))
    (hn : x ≠ "__name__" := by decide) (hdb : (x == ("__debug__" : Str)) = false := by decide) (he : starEach (e :: es) X.env = (false, eval e X.env) :: starEach es X.env := by rfl) (hpl : (backTo pos (starEach es X.env)).any (·.1) = false := by rfl) : PE X (.Call (.Name x p) (e :: es) [] pos) (rd C W (callD f fa)) :=
  de_rcall (pe_callB hc hg hm hv ha hn hdb he hpl) s
theorem de_callTy {T' : String} {x : Str} {r : List V → Hp → VK → Prop} {f : List D → Option D} {e : Expr} {es : List Expr} {fa : M (List T)} {p pos : Pos} (hc : CallR X (.type T') r) (s : ScC C.K C.cl r f) (hg : Gl X x) (hm : X.mg x = none) (hv : bootBuiltins x = some (.type T')) (ha : PA X (e :: es) (rdA C W fa))
    (hn : x ≠ "__name__" := by decide) (hdb : (x == ("__debug__" : Str)) = false := by decide) (he : starEach (e :: es) X.env = (false, eval e X.env) :: starEach es X.env := by rfl) (hpl : (backTo pos (starEach es X.env)).any (·.1) = false := by rfl) : PE X (.Call (.Name x p) (e :: es) [] pos) (rd C W (callD f fa)) :=
  de_rcall (pe_callTy hc hg hm hv ha hn hdb he hpl) s
end

/-! ### built-ins of no heap's value -/
def lenD : List D → Option D
  | [.lst ds] => some (.int ds.length)
  | [.tup ds] => some (.int ds.length)
  | [.scr ns] => some (.int ns.length)
  | [.str z] => if z.length ≤ sizeLine then some (.int z.length) else none
  | _ => none
def bools : List D → Option (List Bool)
  | [] => some []
  | .bl b :: ds => (bools ds).map (b :: ·)
  | _ :: _ => none
def allD : List D → Option D
  | [.lst ds] => (bools ds).map fun bs => .bl (bs.all id)
  | _ => none
def anyD : List D → Option D
  | [.lst ds] => (bools ds).map fun bs => .bl (bs.any id)
  | _ => none
def intD : List D → Option D
  | [.int i] => some (.int i)
  | [.bl b] => some (.int (if b then 1 else 0))
  | _ => none
section
variable {K : PySem.W.Frag} {cl : Cl}
theorem Dts.one {F : Hp} {vs : List V} {d : D} (h : Dts K cl F vs [d]) : ∃ v, vs = [v] ∧ Dt K cl F v d := by
  cases h with
  | cons h hs => cases hs; exact ⟨_, rfl, h⟩
theorem Dts.two {F : Hp} {vs : List V} {d e : D} (h : Dts K cl F vs [d, e]) : ∃ v w, vs = [v, w] ∧ Dt K cl F v d ∧ Dt K cl F w e := by
  cases h with
  | cons h hs =>
    obtain ⟨w, rfl, h2⟩ := hs.one
    exact ⟨_, w, rfl, h, h2⟩
def rLen (K : PySem.W.Frag) : List V → Hp → VK → Prop := fun xs H Q => (∃ p ys, xs = [.ref p] ∧ (SqL K H p ys ∨ SqT K H p ys) ∧ Q (.int ys.length) H) ∨ ∃ z, xs = [.str z] ∧ z.length ≤ sizeLine ∧ Q (.int z.length) H
theorem sc_len : ScC K cl (rLen K) lenD := by
  intro H vs ds d Q h e q
  unfold lenD at e
  split at e
  · cases e
    obtain ⟨v, rfl, hv⟩ := h.one
    cases hv with
    | lst h1 _ h2 =>
      refine .inl ⟨_, _, rfl, .inl (SqL.of h1), ?_⟩
      rw [h2.length]
      exact q _ (.int _)
  · cases e
    obtain ⟨v, rfl, hv⟩ := h.one
    cases hv with
    | tup h1 _ h2 =>
      refine .inl ⟨_, _, rfl, .inr h1, ?_⟩
      rw [h2.length]
      exact q _ (.int _)
  · cases e
    obtain ⟨v, rfl, hv⟩ := h.one
    cases hv with
    | scr h1 _ =>
      refine .inl ⟨_, _, rfl, .inl h1, ?_⟩
      rw [List.length_map]
      exact q _ (.int _)
  · split at e <;> cases e
    rename_i hz
    obtain ⟨v, rfl, hv⟩ := h.one
    cases hv
    exact .inr ⟨_, rfl, hz, q _ (.int _)⟩
  · cases e
theorem cr_lenD {X : Cx} : CallR X (.builtin "len") (rLen X.K) := call_len_seq.or call_len_str
theorem Dts.bools {F : Hp} : ∀ {vs : List V} {ds : List D} {bs : List Bool}, Dts K cl F vs ds → DL.bools ds = some bs → vs = bs.map V.bl
  | _, _, bs, .nil, e => by
    simp [DL.bools] at e
    subst e
    rfl
  | _, _, bs, .cons h hs, e => by
    rename_i d ds
    cases d with
    | bl b =>
      unfold DL.bools at e
      cases e1 : DL.bools ds with
      | none => rw [e1] at e; cases e
      | some cs =>
        rw [e1] at e
        cases e
        cases h
        rw [Dts.bools hs e1]
        rfl
    | _ => cases e
theorem sc_all : ScC K cl (rAll K) allD := by
  intro H vs ds d Q h e q
  unfold allD at e
  split at e
  · rename_i es
    obtain ⟨v, rfl, hv⟩ := h.one
    cases e1 : bools es with
    | none => rw [e1] at e; cases e
    | some bs =>
      rw [e1] at e
      cases e
      cases hv with
      | lst h1 _ h2 => exact ⟨_, bs, rfl, SqL.of (by rw [← h2.bools e1]; exact h1), q _ (.bl _)⟩
  · cases e
theorem sc_any : ScC K cl (rAny K) anyD := by
  intro H vs ds d Q h e q
  unfold anyD at e
  split at e
  · rename_i es
    obtain ⟨v, rfl, hv⟩ := h.one
    cases e1 : bools es with
    | none => rw [e1] at e; cases e
    | some bs =>
      rw [e1] at e
      cases e
      cases hv with
      | lst h1 _ h2 => exact ⟨_, bs, rfl, SqL.of (by rw [← h2.bools e1]; exact h1), q _ (.bl _)⟩
  · cases e
theorem sc_intc : ScC K cl (fun xs H Q => (∃ i, xs = [.int i] ∧ Q (.int i) H) ∨ ∃ k, xs = [.bl k] ∧ Q (.int (if k then 1 else 0)) H) intD := by
  intro H vs ds d Q h e q
  unfold intD at e
  split at e
  · cases e
    obtain ⟨v, rfl, hv⟩ := h.one
    cases hv
    exact .inl ⟨_, rfl, q _ (.int _)⟩
  · cases e
    obtain ⟨v, rfl, hv⟩ := h.one
    cases hv
    exact .inr ⟨_, rfl, q _ (.int _)⟩
  · cases e
end
end DL
/-! new lists and tuples -/
namespace DL
open PySem L2

def guardM (b : Bool) : M Unit := fun Γ => if b then .ok () Γ else .bad
theorem wp_guardM {b : Bool} {Γ : Env} {P : Unit → Env → Prop} {E : Exn → Env → Prop} (h : (guardM b Γ).Wp P E) : b = true ∧ P () Γ := by
  unfold guardM at h
  cases b with
  | true => exact ⟨rfl, h⟩
  | false => exact h.elim
section
variable {C : Cc} {W : WX} {σ : St} {H H' F : Hp} {Γ : Env} {τ : Hand} {v : V} {t : T} {d : D} {ow : Addr → Option Root} {p : Addr}
theorem Rl.drop {υ : Hand} (R : Rl C σ H Γ (υ ++ τ) F ow) : Rl C σ H Γ τ F ow := by
  induction υ with
  | nil => exact R
  | cons p υ ih => exact ih R.pop
theorem Rl.noOwn (R : Rl C σ H Γ τ F ow) (hp : H p = none) : ow p = none := by
  cases e : ow p with
  | none => rfl
  | some r =>
    obtain ⟨o, h, _⟩ := R.ownH p r e
    rw [hp] at h
    cases h
theorem Rl.freshN (R : Rl C σ H Γ τ F ow) (hp : H p = none) : C.mu p ∨ C.H0 p = none := by
  cases q : C.H0 p with
  | none => exact .inr rfl
  | some u =>
    by_cases hm : C.mu p
    · exact .inl hm
    · obtain ⟨u', hu, _⟩ := R.frame p u q hm
      rw [hu] at hp
      cases hp
/-- a new object that the hand owns -/
theorem Rl.newOwn {o : HO} {v : V} {t : T} (R : Rl C σ H Γ τ F ow) (hp : H p = none) (ho : NX o) (ht : ∀ S : Addr → Prop, S p → OwT C.K C.cl F (upd H p o) S v t) : ∃ ow', Rl C σ (upd H p o) Γ ((v, t) :: τ) F ow' := by
  have R1 := R.newH (o := o) hp
  have hn := R.noOwn hp
  have hne : ∀ a r, ow a = some r → a ≠ p := fun a r e z => by
    subst z
    rw [hn] at e
    cases e
  refine ⟨fun a => if a = p then some (.inr τ.length) else ow a, R1.ex, R1.old, R1.new, R1.frame, fun a r e => ?_, fun a r e => ?_, fun a r e => ?_, fun i t' e => ?_, ⟨TempOk.of (ht _ (if_pos rfl)), ?_⟩, R1.pins, R1.len, R1.tabs, R1.ft⟩
  · by_cases h : a = p
    · subst h
      cases q : F a with
      | none => rfl
      | some u =>
        rw [R.ex a u q] at hp
        cases hp
    · rw [if_neg h] at e
      exact R1.ownF a r e
  · by_cases h : a = p
    · subst h
      exact ⟨_, upd_same, ho⟩
    · rw [if_neg h] at e
      exact R1.ownH a r e
  · by_cases h : a = p
    · subst h
      exact R.freshN hp
    · rw [if_neg h] at e
      exact R1.ownN a r e
  · obtain ⟨w, h1, h2⟩ := R1.slots i t' e
    refine ⟨w, h1, h2.keep (Sub.refl F) (fun _ _ _ q => q) (fun a q => ?_)⟩
    show (if a = p then some (Sum.inr τ.length) else ow a) = some (.inl i)
    rw [if_neg (hne a _ q)]
    exact q
  · refine R1.temps.keep (Sub.refl F) (fun _ _ _ _ _ q => q) (fun a j hj q => ?_)
    show (if a = p then some (Sum.inr τ.length) else ow a) = some (.inr j)
    rw [if_neg (hne a _ q)]
    exact q
theorem Rl.newListF {vs : List V} {ds : List D} (R : Rl C σ H Γ τ F ow) (hp : H p = none) (hl : vs.length ≤ sizeLine) (hd : Dts C.K C.cl F vs ds) : ∃ ow', Rl C σ (upd H p (.lst vs)) Γ ((.ref p, .ol (ds.map T.fz)) :: τ) F ow' :=
  R.newOwn hp nx_lst fun S s => .ol (fun _ => none) upd_same hl s (OwTs.ofDts hd)
theorem Rl.newList {vs : List V} {ds : List D} (R : Rl C σ H Γ τ F ow) (hp : H p = none) (hl : vs.length ≤ sizeLine) (hd : Dts C.K C.cl F vs ds) : Rel C σ (upd H p (.lst vs)) Γ ((.ref p, .ol (ds.map T.fz)) :: τ) :=
  ⟨F, R.newListF hp hl hd⟩
theorem Rl.newTup {vs : List V} {ds : List D} (R : Rl C σ H Γ τ F ow) (hp : H p = none) (hl : vs.length ≤ sizeLine) (hd : Dts C.K C.cl F vs ds) : Rel C σ (upd H p (.tup vs)) Γ ((.ref p, .fz (.tup ds)) :: τ) := by
  obtain ⟨R1, s⟩ := R.newF (o := .tup vs) hp nt_tup
  exact ⟨_, ow, R1.push (.tup (SqT.of upd_same) hl (hd.mono s))⟩
/-- all in hand is data -/
theorem Rl.hands : ∀ {vs : List V} {ts : List T} {τ : Hand} {ds : List D}, vs.length = ts.length → Rl C σ H Γ ((vs.zip ts).reverse ++ τ) F ow → T.fzs ts = some ds → Dts C.K C.cl F vs ds := by
  intro vs
  induction vs with
  | nil =>
    intro ts τ ds hl R e
    cases ts with
    | nil => cases e; exact .nil
    | cons t ts => cases hl
  | cons v vs ih =>
    intro ts τ ds hl R e
    cases ts with
    | nil => cases hl
    | cons t ts =>
      have e' := T.fzs_eq e
      cases ds with
      | nil => cases e'
      | cons d ds =>
        have e2 : t = .fz d ∧ ts = ds.map T.fz := by
          have := List.cons.inj e'
          exact this
        obtain ⟨rfl, e3⟩ := e2
        rw [List.zip_cons_cons, List.reverse_cons, List.append_assoc] at R
        have R' : Rl C σ H Γ ((vs.zip ts).reverse ++ ((v, .fz d) :: τ)) F ow := R
        have top : ∀ (υ : Hand), TempsOk C σ F H ow (υ ++ ((v, .fz d) :: τ)) → TempOk C σ F H (fun a => ow a = some (.inr τ.length)) v (.fz d) := by
          intro υ
          induction υ with
          | nil => intro h; exact h.1
          | cons p υ ih => intro h; exact ih h.2
        have e4 : T.fzs ts = some ds := by
          unfold T.fzs at e
          cases q : T.fzs ts with
          | none => rw [q] at e; cases e
          | some es => rw [q] at e; cases e; rfl
        have z := top _ R'.temps
        cases z with
        | fz z => exact .cons z (ih (Nat.succ.inj hl) R' e4)
end

/-! ### displays -/
def lstM (a : M (List T)) : M T := bindM a fun ts => bindM (optM (T.fzs ts)) fun ds => bindM (guardM (decide (ds.length ≤ sizeLine))) fun _ => retM (.ol (ds.map T.fz))
def tupM (a : M (List T)) : M T := bindM a fun ts => bindM (optM (T.fzs ts)) fun ds => bindM (guardM (decide (ds.length ≤ sizeLine))) fun _ => retM (.fz (.tup ds))
section
variable {X : Cx} {C : Cc} {W : WX}
theorem de_lst {es : List Expr} {f : M (List T)} {pos : Pos} (h : PA X es (rdA C W f)) : PE X (.List es pos) (rd C W (lstM f)) := pe_sub (pe_lst h) fun σ H Q ⟨Γ, τ, R, w⟩ => by
  refine rdA_bind R w fun ts Γ1 vs H1 hl R1 w1 => ?_
  obtain ⟨ds, e1, w2⟩ := wp_optM (Out.wp_bind w1)
  obtain ⟨e2, w3⟩ := wp_guardM (Out.wp_bind w2)
  obtain ⟨F, ow, R1⟩ := R1
  have hd := R1.hands hl e1
  have hl' : vs.length ≤ sizeLine := by rw [hd.length]; exact of_decide_eq_true e2
  exact ⟨hl', fun p hp => w3 _ _ (R1.drop.newList hp hl' hd)⟩
theorem de_tup {es : List Expr} {f : M (List T)} {x1} {pos : Pos} (h : PA X es (rdA C W f)) : PE X (.Tuple es x1 pos) (rd C W (tupM f)) := pe_sub (pe_tup h) fun σ H Q ⟨Γ, τ, R, w⟩ => by
  refine rdA_bind R w fun ts Γ1 vs H1 hl R1 w1 => ?_
  obtain ⟨ds, e1, w2⟩ := wp_optM (Out.wp_bind w1)
  obtain ⟨e2, w3⟩ := wp_guardM (Out.wp_bind w2)
  obtain ⟨F, ow, R1⟩ := R1
  have hd := R1.hands hl e1
  have hl' : vs.length ≤ sizeLine := by rw [hd.length]; exact of_decide_eq_true e2
  exact ⟨hl', fun p hp => w3 _ _ (R1.drop.newTup hp hl' hd)⟩

/-! ### copies -/
theorem rdA_one {α : Type} {f : M T} {k : T → M α} {σ : St} {H : Hp} {Γ : Env} {τ : Hand} {Q : List V → Hp → Prop} {P : α → Env → Prop} (R : Rel C σ H Γ τ) (h : (bindM f k Γ).Wp P (wx C W σ τ))
    (hq : ∀ t Γ' v H', Rel C σ H' Γ' ((v, t) :: τ) → (k t Γ').Wp P (wx C W σ τ) → Q [v] H') : rdA C W (argsM [f]) σ H Q := by
  refine ⟨Γ, τ, R, ?_⟩
  show (Out.bind (f Γ) fun t => bindM (argsM []) fun ts => retM (t :: ts)).Wp _ _
  have h' := Out.wp_bind h
  cases e : f Γ with
  | ok t Γ1 =>
    rw [e] at h'
    intro vs H' hl R'
    cases vs with
    | nil => cases hl
    | cons v vs =>
      cases vs with
      | nil => exact hq t Γ1 v H' R' h'
      | cons _ _ => cases hl
  | exc x Γ1 =>
    rw [e] at h'
    exact h'
  | bad =>
    rw [e] at h'
    exact h'
def listM (f : M T) : M T := bindM f fun t => bindM (sqM t) fun q => retM (.ol (q.ds.map T.fz))
def tupleM (f : M T) : M T := bindM f fun t => bindM (sqM t) fun q => retM (.fz (.tup q.ds))
theorem de_list {e : Expr} {f : M T} {p pos : Pos} (hK : C.K = X.K) (hg : Gl X "list") (hm : X.mg "list" = none) (ha : PE X e (rd C W f)) (hs : starEach [e] X.env = (false, eval e X.env) :: starEach [] X.env := by rfl) : PE X (.Call (.Name "list" p) [e] [] pos) (rd C W (listM f)) :=
  pe_sub (pe_callTy call_list_of hg hm (by decide +kernel) (da_cons ha da_nil hs) (he := hs)) fun σ H Q ⟨Γ, τ, R, w⟩ => by
    refine rdA_one R w fun t Γ1 v H1 R1 w1 => ?_
    obtain ⟨q, e1, w2⟩ := wp_sqM (Out.wp_bind w1)
    obtain ⟨F, ow, R1⟩ := R1
    obtain ⟨a, vs, rfl, hq, hd, hz⟩ := R1.sq R1.temps.1 e1
    refine ⟨a, vs, rfl, ?_, fun l hl => w2 _ _ (R1.pop.newList hl hz hd)⟩
    rw [← hK]
    cases q with
    | l ds => exact .inl (SqL.of hq)
    | t ds => exact .inr (R1.ex.sqT hq)
    | s ns => exact .inl hq
theorem de_tuple {e : Expr} {f : M T} {p pos : Pos} (hK : C.K = X.K) (hg : Gl X "tuple") (hm : X.mg "tuple" = none) (ha : PE X e (rd C W f)) (hs : starEach [e] X.env = (false, eval e X.env) :: starEach [] X.env := by rfl) : PE X (.Call (.Name "tuple" p) [e] [] pos) (rd C W (tupleM f)) :=
  pe_sub (pe_callTy call_tuple_of hg hm (by decide +kernel) (da_cons ha da_nil hs) (he := hs)) fun σ H Q ⟨Γ, τ, R, w⟩ => by
    refine rdA_one R w fun t Γ1 v H1 R1 w1 => ?_
    obtain ⟨q, e1, w2⟩ := wp_sqM (Out.wp_bind w1)
    obtain ⟨F, ow, R1⟩ := R1
    obtain ⟨a, vs, rfl, hq, hd, hz⟩ := R1.sq R1.temps.1 e1
    refine ⟨a, vs, rfl, ?_⟩
    rw [← hK]
    cases q with
    | l ds => exact .inl ⟨SqL.of hq, fun l hl => w2 _ _ (R1.pop.newTup hl hz hd)⟩
    | t ds => exact .inr ⟨R1.ex.sqT hq, w2 _ _ ⟨F, ow, R1.pop.push (.tup hq hz hd)⟩⟩
    | s ns => exact .inl ⟨hq, fun l hl => w2 _ _ (R1.pop.newTup hl hz hd)⟩

/-! ### slices -/
def rdO (C : Cc) (W : WX) (f : M (Option Int)) : TO := fun σ H Q => ∃ Γ τ, Rel C σ H Γ τ ∧ (f Γ).Wp (fun o Γ' => ∀ H', Rel C σ H' Γ' τ → Q o H') (wx C W σ τ)
def D.toI : D → Option Int
  | .int i => some i
  | _ => none
def intM (f : M T) : M Int := bindM f fun t => bindM (lookM t) fun d => optM d.toI
def partM (f : M T) : M (Option Int) := bindM (intM f) fun i => retM (some i)
theorem po_sub {e : Option Expr} {t t' : TO} (h : PO X e t) (m : ∀ σ H Q, t' σ H Q → t σ H Q) : PO X e t' := ⟨fun pins s σ H Q I q => h.run pins s σ H Q I (m σ H Q q)⟩
theorem do_none : PO X none (rdO C W (retM none)) := po_sub po_none fun σ H Q ⟨Γ, τ, R, w⟩ => w H R
theorem intM_bind {α : Type} {f : M T} {k : Int → M α} {σ : St} {H : Hp} {Γ : Env} {τ : Hand} {Q : VK} {P : α → Env → Prop} (R : Rel C σ H Γ τ) (h : (bindM (intM f) k Γ).Wp P (wx C W σ τ))
    (hq : ∀ i Γ' H', Rel C σ H' Γ' τ → (k i Γ').Wp P (wx C W σ τ) → Q (.int i) H') : rd C W f σ H Q := by
  refine ⟨Γ, τ, R, ?_⟩
  have h1 := Out.wp_bind (Out.wp_bind h)
  refine Out.wp_mono h1 (fun t Γ1 w v H1 R1 => ?_) fun _ _ z => z
  obtain ⟨d, e1, w2⟩ := wp_lookM (Out.wp_bind w)
  obtain ⟨i, e2, w3⟩ := wp_optM w2
  obtain ⟨F, ow, R1⟩ := R1
  have hd := R1.look R1.temps.1 e1
  cases d with
  | int j =>
    cases e2
    cases hd
    exact hq _ _ H1 ⟨F, ow, R1.pop⟩ w3
  | _ => cases e2
theorem do_some {e : Expr} {f : M T} (h : PE X e (rd C W f)) : PO X (some e) (rdO C W (partM f)) := po_sub (po_some h) fun σ H Q ⟨Γ, τ, R, w⟩ =>
  intM_bind R w fun i Γ1 H1 R1 w1 => ⟨i, rfl, w1 H1 R1⟩
def cutL {α : Type} (xs : List α) (lo hi : Option Int) : List α := (xs.drop (HT.sIx xs.length 0 lo)).take (HT.sIx xs.length xs.length hi - HT.sIx xs.length 0 lo)
theorem Dts.cut {K : PySem.W.Frag} {cl : Cl} {F : Hp} {vs : List V} {ds : List D} {lo hi : Option Int} (h : Dts K cl F vs ds) : Dts K cl F (cutV vs lo hi) (cutL ds lo hi) := by
  unfold cutV cutL
  rw [h.length]
  exact (h.drop _).take _
def Sq.cut (lo hi : Option Int) : Sq → T
  | .l ds => .ol ((cutL ds lo hi).map T.fz)
  | .t ds => .fz (.tup (cutL ds lo hi))
  | .s ns => .ol ((cutL (ns.map D.int) lo hi).map T.fz)
def sliceM (f : M T) (lo hi : M (Option Int)) : M T := bindM f fun t => bindM lo fun l => bindM hi fun h => bindM (sqM t) fun q => retM (q.cut l h)
theorem rdO_bind {α : Type} {f : M (Option Int)} {k : Option Int → M α} {σ : St} {H : Hp} {Γ : Env} {τ : Hand} {Q : Option Int → Hp → Prop} {P : α → Env → Prop} (R : Rel C σ H Γ τ) (h : (bindM f k Γ).Wp P (wx C W σ τ))
    (hq : ∀ o Γ' H', Rel C σ H' Γ' τ → (k o Γ').Wp P (wx C W σ τ) → Q o H') : rdO C W f σ H Q :=
  ⟨Γ, τ, R, Out.wp_mono (Out.wp_bind h) (fun o Γ' w H' R' => hq o Γ' H' R' w) (fun _ _ z => z)⟩
theorem de_slice {e : Expr} {lo hi : Option Expr} {f : M T} {fl fh : M (Option Int)} {p2 pos : Pos} (hK : C.K = X.K) (he : PE X e (rd C W f)) (hl : PO X lo (rdO C W fl)) (hh : PO X hi (rdO C W fh)) : PE X (.Subscript e (.Slice lo hi none p2) pos) (rd C W (sliceM f fl fh)) :=
  pe_sub (pe_slice (sl_list.or sl_tupA) he hl hh) fun σ H Q ⟨Γ, τ, R, w⟩ => by
    refine rd_bind R w fun t Γ1 v H1 R1 w1 => ?_
    refine rdO_bind R1 (wp_under w1) fun l Γ2 H2 R2 w2 => ?_
    refine rdO_bind R2 w2 fun h Γ3 H3 R3 w3 => ?_
    obtain ⟨q, e1, w4⟩ := wp_sqM (Out.wp_bind w3)
    obtain ⟨F, ow, R3⟩ := R3
    obtain ⟨a, vs, rfl, hq, hd, hz⟩ := R3.sq R3.temps.1 e1
    have hc : (cutV vs l h).length ≤ sizeLine := Nat.le_trans (cutV_length vs l h) hz
    rw [← hK]
    cases q with
    | l ds => exact .inl ⟨a, vs, rfl, SqL.of hq, fun p hp => w4 _ _ (R3.pop.newList hp hc hd.cut)⟩
    | s ns => exact .inl ⟨a, vs, rfl, hq, fun p hp => w4 _ _ (R3.pop.newList hp hc hd.cut)⟩
    | t ds =>
      refine .inr ⟨a, vs, rfl, R3.ex.sqT hq, fun z => ?_, fun _ p hp => w4 _ _ (R3.pop.newTup hp hc hd.cut)⟩
      have e2 : cutL ds l h = ds := by
        have hl : vs.length = ds.length := hd.length
        unfold cutL
        rw [← hl, z.1, z.2, List.drop_zero, Nat.sub_zero, hl]
        exact List.take_length
      have w5 := w4 (.ref a) H3
      rw [show Sq.cut l h (.t ds) = .fz (.tup ds) by show T.fz (D.tup (cutL ds l h)) = _; rw [e2]] at w5
      exact w5 ⟨F, ow, R3.pop.push (.tup hq hz hd)⟩
/-- xs[::-1] -/
def revM (f : M T) : M T := bindM f fun t => bindM (sqM t) fun q => match q with
  | .l ds => retM (.ol (ds.reverse.map T.fz))
  | .s ns => retM (.ol ((ns.map D.int).reverse.map T.fz))
  | .t _ => fun _ => .bad
theorem de_rev {e : Expr} {f : M T} {k : Nat} {p1 p2 p3 pos : Pos} (hK : C.K = X.K) (he : PE X e (rd C W f)) : PE X (.Subscript e (.Slice none none (some (.UnaryOp .USub (.Constant (.int 1) k p1) p2)) p3) pos) (rd C W (revM f)) :=
  pe_sub (pe_revL he) fun σ H Q ⟨Γ, τ, R, w⟩ => by
    refine rd_bind R w fun t Γ1 v H1 R1 w1 => ?_
    obtain ⟨q, e1, w4⟩ := wp_sqM (Out.wp_bind w1)
    obtain ⟨F, ow, R1⟩ := R1
    obtain ⟨a, vs, rfl, hq, hd, hz⟩ := R1.sq R1.temps.1 e1
    rw [← hK]
    cases q with
    | l ds => exact ⟨a, vs, rfl, SqL.of hq, fun p hp => w4 _ _ (R1.pop.newList hp (by rw [List.length_reverse]; exact hz) hd.reverse)⟩
    | s ns => exact ⟨a, vs, rfl, hq, fun p hp => w4 _ _ (R1.pop.newList hp (by rw [List.length_reverse]; exact hz) hd.reverse)⟩
    | t ds => exact w4.elim

/-! ### + of lists, of tuples; * -/
def catM (a b : M T) : M T := bindM a fun t1 => bindM b fun t2 => bindM (sqM t1) fun q1 => bindM (sqM t2) fun q2 => match q1, q2 with
  | .l xs, .l ys => bindM (guardM (decide (xs.length + ys.length ≤ sizeLine))) fun _ => retM (.ol ((xs ++ ys).map T.fz))
  | .t xs, .t ys => bindM (guardM (decide (xs.length + ys.length ≤ sizeLine))) fun _ => retM (.fz (.tup (xs ++ ys)))
  | _, _ => fun _ => .bad
theorem de_cat {a b : Expr} {fa fb : M T} {pos : Pos} (hK : C.K = X.K) (ha : PE X a (rd C W fa)) (hb : PE X b (rd C W fb)) : PE X (.BinOp a .Add b pos) (rd C W (catM fa fb)) :=
  pe_sub (pe_op (op_cat.or op_catA) ha hb) fun σ H Q ⟨Γ, τ, R, w⟩ => by
    refine rd_bind R w fun t1 Γ1 v1 H1 R1 w1 => ?_
    refine rd_bind R1 (wp_under w1) fun t2 Γ2 v2 H2 R2 w2 => ?_
    obtain ⟨q1, e1, w3⟩ := wp_sqM (Out.wp_bind w2)
    obtain ⟨q2, e2, w4⟩ := wp_sqM (Out.wp_bind w3)
    obtain ⟨F, ow, R2⟩ := R2
    obtain ⟨a1, vs1, rfl, hq1, hd1, hz1⟩ := R2.sq R2.temps.2.1 e1
    obtain ⟨a2, vs2, rfl, hq2, hd2, hz2⟩ := R2.sq R2.temps.1 e2
    rw [← hK]
    cases q1 with
    | l xs =>
      cases q2 with
      | l ys =>
        obtain ⟨e3, w5⟩ := wp_guardM (Out.wp_bind w4)
        have hl : vs1.length + vs2.length ≤ sizeLine := by
          rw [hd1.length, hd2.length]
          exact of_decide_eq_true e3
        exact .inl ⟨a1, a2, vs1, vs2, rfl, rfl, hq1, hq2, hl, fun p hp => w5 _ _ (R2.pop.pop.newList hp (by rw [List.length_append]; exact hl) (hd1.append hd2))⟩
      | t ys => exact w4.elim
      | s ys => exact w4.elim
    | t xs =>
      cases q2 with
      | l ys => exact w4.elim
      | t ys =>
        obtain ⟨e3, w5⟩ := wp_guardM (Out.wp_bind w4)
        have hl : vs1.length + vs2.length ≤ sizeLine := by
          rw [hd1.length, hd2.length]
          exact of_decide_eq_true e3
        refine .inr ⟨a1, a2, vs1, vs2, rfl, rfl, R2.ex.sqT hq1, R2.ex.sqT hq2, hl, fun z => ?_, fun _ z => ?_, fun _ _ p hp => w5 _ _ (R2.pop.pop.newTup hp (by rw [List.length_append]; exact hl) (hd1.append hd2))⟩
        · subst z
          have e4 : xs = [] := by
            cases xs with
            | nil => rfl
            | cons _ _ => cases hd1
          subst e4
          exact w5 _ _ ⟨F, ow, R2.pop.pop.push (.tup hq2 hz2 hd2)⟩
        · subst z
          have e4 : ys = [] := by
            cases ys with
            | nil => rfl
            | cons _ _ => cases hd2
          subst e4
          rw [List.append_nil] at w5
          exact w5 _ _ ⟨F, ow, R2.pop.pop.push (.tup hq1 hz1 hd1)⟩
      | s ys => exact w4.elim
    | s xs => exact w4.elim
def repL {α : Type} (xs : List α) (k : Int) : List α := (List.replicate k.toNat xs).flatten
def repM (a b : M T) : M T := bindM a fun t1 => bindM b fun t2 => bindM (sqM t1) fun q1 => bindM (lookM t2) fun d2 => bindM (optM d2.toI) fun k => match q1 with
  | .l xs => bindM (guardM (decide (-(2 ^ 63) ≤ k) && decide (k < 2 ^ 63) && decide (xs.length * k.toNat ≤ sizeLine))) fun _ => retM (.ol ((repL xs k).map T.fz))
  | _ => fun _ => .bad
theorem Dts.rep {K : PySem.W.Frag} {cl : Cl} {F : Hp} {vs : List V} {ds : List D} (h : Dts K cl F vs ds) : ∀ n : Nat, Dts K cl F (List.replicate n vs).flatten (List.replicate n ds).flatten
  | 0 => .nil
  | n + 1 => by
    rw [List.replicate_succ, List.replicate_succ, List.flatten_cons, List.flatten_cons]
    exact h.append (Dts.rep h n)
theorem de_rep {a b : Expr} {fa fb : M T} {pos : Pos} (ha : PE X a (rd C W fa)) (hb : PE X b (rd C W fb)) : PE X (.BinOp a .Mult b pos) (rd C W (repM fa fb)) :=
  pe_sub (pe_op op_rep ha hb) fun σ H Q ⟨Γ, τ, R, w⟩ => by
    refine rd_bind R w fun t1 Γ1 v1 H1 R1 w1 => ?_
    refine rd_bind R1 (wp_under w1) fun t2 Γ2 v2 H2 R2 w2 => ?_
    obtain ⟨q1, e1, w3⟩ := wp_sqM (Out.wp_bind w2)
    obtain ⟨d2, e2, w4⟩ := wp_lookM (Out.wp_bind w3)
    obtain ⟨k, e3, w5⟩ := wp_optM (Out.wp_bind w4)
    obtain ⟨F, ow, R2⟩ := R2
    obtain ⟨a1, vs1, rfl, hq1, hd1, hz1⟩ := R2.sq R2.temps.2.1 e1
    have hi := R2.look R2.temps.1 e2
    cases d2 with
    | int j =>
      have ek : j = k := Option.some.inj e3
      subst ek
      cases hi
      cases q1 with
      | l xs =>
        obtain ⟨e4, w6⟩ := wp_guardM (Out.wp_bind w5)
        simp only [Bool.and_eq_true, decide_eq_true_eq] at e4
        have hl : vs1.length * j.toNat ≤ sizeLine := by
          rw [hd1.length]
          exact e4.2
        refine ⟨a1, _, vs1, rfl, rfl, hq1, e4.1.1, e4.1.2, hl, fun p hp => w6 _ _ (R2.pop.pop.newList hp ?_ (hd1.rep _))⟩
        rw [List.length_flatten, List.map_replicate, List.sum_replicate_nat, Nat.mul_comm]
        exact hl
      | t xs => exact w5.elim
      | s xs => exact w5.elim
    | _ => cases e3
end
end DL
/-! what is walked; statements; loops; comprehensions -/
namespace DL
open PySem L2

/-- J gives the things ds, while υ is in hand -/
structure IterD (C : Cc) (J : It) (ds : List D) (υ : Hand) : Prop where
  go : ∀ i H σ Γ τ, Rel C σ H Γ (υ ++ τ) → i < ds.length → J.go i H
  yld : ∀ i H σ Γ τ x H', Rel C σ H Γ (υ ++ τ) → i < ds.length → J.yld i H x H' → ∃ d, ds[i]? = some d ∧ Rel C σ H' Γ ((x, .fz d) :: (υ ++ τ))
  stop : ∀ H σ Γ τ, Rel C σ H Γ (υ ++ τ) → J.stop ds.length H
  fz : ∀ p ∈ υ, ∃ d, p.2 = .fz d
  len : ∀ H σ Γ τ, Rel C σ H Γ (υ ++ τ) → ds.length ≤ sizeLine
theorem IterD.noal {C : Cc} {J : It} {ds : List D} {υ : Hand} (I : IterD C J ds υ) : ∀ p ∈ υ, ∀ i, p.2 ≠ .al i := fun p hp i e => by
  obtain ⟨d, q⟩ := I.fz p hp
  rw [q] at e
  cases e
def rdI (C : Cc) (W : WX) (f : M (List D)) : TI := fun σ H R => ∃ Γ τ, Rel C σ H Γ τ ∧ (f Γ).Wp (fun ds Γ' => ∀ J H' υ, Rel C σ H' Γ' (υ ++ τ) → IterD C J ds υ → R J H') (wx C W σ τ)
theorem pi_sub {X : Cx} {tg e : Expr} {t t' : TI} (h : PI X tg e t) (m : ∀ σ H R, t' σ H R → t σ H R) : PI X tg e t' := ⟨fun pins s σ H R I q => h.run pins s σ H R I (m σ H R q)⟩

/-! ### sources -/
/-- a list, frozen -/
def seqIt (f : M T) : M (List D) := bindM f fun t => bindM (frz t) fun t' => bindM (sqM t') fun q => retM q.ds
section
variable {C : Cc} {K : PySem.W.Frag}
theorem iter_list {a : Addr} {ds : List D} : IterD C (Itl C.K a) ds [(.ref a, .fz (.lst ds))] where
  go := fun i H σ Γ τ R hi => by
    obtain ⟨F, ow, R⟩ := R
    have h := R.temps.1
    cases h with
    | fz h =>
      cases h with
      | lst h1 _ h2 =>
        obtain ⟨v, e, _⟩ := h2.get (List.getElem?_eq_getElem hi)
        exact ⟨_, v, SqL.of (R.ex _ _ h1), e⟩
  yld := fun i H σ Γ τ x H' R hi y => by
    obtain ⟨F, ow, R⟩ := R
    have h := R.temps.1
    obtain ⟨rfl, y⟩ := y
    cases h with
    | fz h =>
      cases h with
      | lst h1 _ h2 =>
        obtain ⟨d, e, hd⟩ := h2.getV (y _ (SqL.of (R.ex _ _ h1)))
        exact ⟨d, e, F, ow, R.push hd⟩
  stop := fun H σ Γ τ R => by
    obtain ⟨F, ow, R⟩ := R
    have h := R.temps.1
    cases h with
    | fz h =>
      cases h with
      | lst h1 _ h2 => exact ⟨_, SqL.of (R.ex _ _ h1), by rw [h2.length]; exact Nat.le_refl _⟩
  fz := fun p hp => by
    cases hp with
    | head => exact ⟨_, rfl⟩
    | tail _ hp => cases hp
  len := fun H σ Γ τ R => by
    obtain ⟨F, ow, R⟩ := R
    have h := R.temps.1
    cases h with
    | fz h =>
      cases h with
      | lst _ hl h2 => rw [← h2.length]; exact hl
theorem iter_tup {a : Addr} {ds : List D} : IterD C (Itt C.K a) ds [(.ref a, .fz (.tup ds))] where
  go := fun i H σ Γ τ R hi => by
    obtain ⟨F, ow, R⟩ := R
    have h := R.temps.1
    cases h with
    | fz h =>
      cases h with
      | tup h1 _ h2 =>
        obtain ⟨v, e, _⟩ := h2.get (List.getElem?_eq_getElem hi)
        exact ⟨_, v, R.ex.sqT h1, e⟩
  yld := fun i H σ Γ τ x H' R hi y => by
    obtain ⟨F, ow, R⟩ := R
    have h := R.temps.1
    obtain ⟨rfl, y⟩ := y
    cases h with
    | fz h =>
      cases h with
      | tup h1 _ h2 =>
        obtain ⟨d, e, hd⟩ := h2.getV (y _ (R.ex.sqT h1))
        exact ⟨d, e, F, ow, R.push hd⟩
  stop := fun H σ Γ τ R => by
    obtain ⟨F, ow, R⟩ := R
    have h := R.temps.1
    cases h with
    | fz h =>
      cases h with
      | tup h1 _ h2 => exact ⟨_, R.ex.sqT h1, by rw [h2.length]; exact Nat.le_refl _⟩
  fz := fun p hp => by
    cases hp with
    | head => exact ⟨_, rfl⟩
    | tail _ hp => cases hp
  len := fun H σ Γ τ R => by
    obtain ⟨F, ow, R⟩ := R
    have h := R.temps.1
    cases h with
    | fz h =>
      cases h with
      | tup _ hl h2 => rw [← h2.length]; exact hl
theorem iter_scr {a : Addr} {ns : List Int} : IterD C (Itl C.K a) (ns.map D.int) [(.ref a, .fz (.scr ns))] where
  go := fun i H σ Γ τ R hi => by
    obtain ⟨F, ow, R⟩ := R
    have h := R.temps.1
    cases h with
    | fz h =>
      cases h with
      | scr h1 _ =>
        rw [List.length_map] at hi
        exact ⟨_, .int ns[i], R.ex.sqL h1, by rw [List.getElem?_map, List.getElem?_eq_getElem hi]; rfl⟩
  yld := fun i H σ Γ τ x H' R hi y => by
    obtain ⟨F, ow, R⟩ := R
    have h := R.temps.1
    obtain ⟨rfl, y⟩ := y
    cases h with
    | fz h =>
      cases h with
      | scr h1 _ =>
        have e := y _ (R.ex.sqL h1)
        rw [List.length_map] at hi
        rw [List.getElem?_map, List.getElem?_eq_getElem hi] at e
        have e' : V.int ns[i] = x := Option.some.inj e
        subst e'
        exact ⟨.int ns[i], by rw [List.getElem?_map, List.getElem?_eq_getElem hi]; rfl, F, ow, R.push (.int _)⟩
  stop := fun H σ Γ τ R => by
    obtain ⟨F, ow, R⟩ := R
    have h := R.temps.1
    cases h with
    | fz h =>
      cases h with
      | scr h1 _ => exact ⟨_, R.ex.sqL h1, by rw [List.length_map, List.length_map]; exact Nat.le_refl _⟩
  fz := fun p hp => by
    cases hp with
    | head => exact ⟨_, rfl⟩
    | tail _ hp => cases hp
  len := fun H σ Γ τ R => by
    obtain ⟨F, ow, R⟩ := R
    have h := R.temps.1
    cases h with
    | fz h =>
      cases h with
      | scr _ hl => rw [List.length_map]; exact hl
def rangeL (lo : Int) (n : Nat) : List D := (List.range n).map fun i : Nat => D.int (lo + (i : Int))
theorem iter_range {lo : Int} {n : Nat} (hz : n ≤ sizeLine) : IterD C (Itr lo n) (rangeL lo n) [] where
  go := fun i H σ Γ τ R hi => by
    have : (rangeL lo n).length = n := by simp [rangeL]
    rw [this] at hi
    exact hi
  yld := fun i H σ Γ τ x H' R hi y => by
    have : (rangeL lo n).length = n := by simp [rangeL]
    rw [this] at hi
    obtain ⟨rfl, rfl⟩ := y
    exact ⟨.int (lo + i), by simp [rangeL, hi], R.scal (.int _)⟩
  stop := fun H σ Γ τ R => by
    have : (rangeL lo n).length = n := by simp [rangeL]
    rw [this]
    exact Nat.le_refl _
  fz := fun p hp => by cases hp
  len := fun H σ Γ τ R => by simpa [rangeL] using hz
theorem iter_str {z : Str} (hz : z.length ≤ sizeLine) : IterD C (Its z) (z.cps.toList.map fun c => D.str ⟨#[c]⟩) [] where
  go := fun i H σ Γ τ R hi => by
    simp at hi
    exact hi
  yld := fun i H σ Γ τ x H' R hi y => by
    simp at hi
    obtain ⟨rfl, c, e, rfl⟩ := y
    refine ⟨.str ⟨#[c]⟩, ?_, R.scal (.str _)⟩
    rw [List.getElem?_map, Array.getElem?_toList, e]
    rfl
  stop := fun H σ Γ τ R => by
    show z.cps.size ≤ _
    simp
  fz := fun p hp => by cases hp
  len := fun H σ Γ τ R => by
    rw [List.length_map, Array.length_toList]
    exact hz
end
section
variable {X : Cx} {C : Cc} {W : WX} {tg : Expr}
theorem di_list {e : Expr} {f : M T} (hK : C.K = X.K) (he : PE X e (rd C W f)) : PI X tg e (rdI C W (bindM f fun t => bindM (frz t) fun t' => bindM (sqM t') fun q => match q with | .t _ => fun _ => .bad | q => retM q.ds)) :=
  pi_sub (pi_list he) fun σ H R' ⟨Γ, τ, R, w⟩ => by
    refine rd_bind R w fun t Γ1 v H1 R1 w1 => ?_
    obtain ⟨d, Γ2, R2, w2⟩ := R1.frz (Out.wp_bind w1)
    obtain ⟨q, e1, w3⟩ := wp_sqM (Out.wp_bind w2)
    rw [← hK]
    obtain ⟨F, ow, R2⟩ := R2
    obtain ⟨a, vs, rfl, hq, hd, hz⟩ := R2.sq R2.temps.1 e1
    cases d with
    | lst ds => cases e1; exact ⟨a, rfl, ⟨vs, SqL.of hq⟩, w3 _ _ _ ⟨F, ow, R2⟩ iter_list⟩
    | scr ns => cases e1; exact ⟨a, rfl, ⟨vs, hq⟩, w3 _ _ _ ⟨F, ow, R2⟩ iter_scr⟩
    | tup ds => cases e1; exact w3.elim
    | _ => cases e1
theorem di_tup {e : Expr} {f : M T} (hK : C.K = X.K) (he : PE X e (rd C W f)) : PI X tg e (rdI C W (bindM f fun t => bindM (frz t) fun t' => bindM (sqM t') fun q => match q with | .t ds => retM ds | _ => fun _ => .bad)) :=
  pi_sub (pi_tup he) fun σ H R' ⟨Γ, τ, R, w⟩ => by
    refine rd_bind R w fun t Γ1 v H1 R1 w1 => ?_
    obtain ⟨d, Γ2, R2, w2⟩ := R1.frz (Out.wp_bind w1)
    obtain ⟨q, e1, w3⟩ := wp_sqM (Out.wp_bind w2)
    rw [← hK]
    obtain ⟨F, ow, R2⟩ := R2
    obtain ⟨a, vs, rfl, hq, hd, hz⟩ := R2.sq R2.temps.1 e1
    cases d with
    | tup ds => cases e1; exact ⟨a, rfl, ⟨vs, R2.ex.sqT hq⟩, w3 _ _ _ ⟨F, ow, R2⟩ iter_tup⟩
    | lst ds => cases e1; exact w3.elim
    | scr ns => cases e1; exact w3.elim
    | _ => cases e1
/-- a list or a tuple -/
theorem pi_seq {e : Expr} {te : TE} (he : PE X e te) : PI X tg e (fun σ H R => te σ H fun x H1 => ∃ a, x = .ref a ∧ ((∃ xs, SqL X.K H1 a xs) ∧ R (Itl X.K a) H1 ∨ (∃ xs, SqT X.K H1 a xs) ∧ R (Itt X.K a) H1)) := by
  refine ⟨fun pins s σ H R I h => ?_⟩
  refine wpAny_mono (he.run pins s σ H _ I h) (fun v s1 hv => ?_) fun _ _ z => z
  obtain ⟨x, H1, I1, r1, a, rfl, q1⟩ := hv
  cases r1
  rcases q1 with ⟨⟨xs, hq⟩, q⟩ | ⟨⟨xs, hq⟩, q⟩
  · obtain ⟨its, rv, pl, hz⟩ := I1.list hq
    refine PySem.wpAny_pyIter_list pl.isList ?_
    refine ⟨s1.heap.objs.size, [s1.heap.objs.size], _, _, H1, rfl, I1.kept (t' := s1.toks) fun b o e => Heap.get?_push_of_some _ e, turn_list a _, ⟨_, Heap.get?_push_size _ rfl, rfl, rfl⟩, fun b hb => ?_, q⟩
    have e : b = s1.heap.objs.size := by simpa using hb
    subst e
    exact I1.fpOk (Nat.le_refl _) (I1.hok.fresh (Nat.le_refl _))
  · obtain ⟨its, rv, pl, hz⟩ := I1.tuple hq
    refine PySem.wpAny_pyIter_tuple (show s1.heap.IsTuple a its.toArray from pl) ?_
    refine ⟨s1.heap.objs.size, [s1.heap.objs.size], _, _, H1, rfl, I1.kept (t' := s1.toks) fun b o e => Heap.get?_push_of_some _ e, turn_tuple a _, ⟨_, Heap.get?_push_size _ rfl, rfl, rfl⟩, fun b hb => ?_, q⟩
    have e : b = s1.heap.objs.size := by simpa using hb
    subst e
    exact I1.fpOk (Nat.le_refl _) (I1.hok.fresh (Nat.le_refl _))
theorem di_seq {e : Expr} {f : M T} (hK : C.K = X.K) (he : PE X e (rd C W f)) : PI X tg e (rdI C W (seqIt f)) :=
  pi_sub (pi_seq he) fun σ H R' ⟨Γ, τ, R, w⟩ => by
    refine rd_bind R w fun t Γ1 v H1 R1 w1 => ?_
    obtain ⟨d, Γ2, R2, w2⟩ := R1.frz (Out.wp_bind w1)
    obtain ⟨q, e1, w3⟩ := wp_sqM (Out.wp_bind w2)
    rw [← hK]
    obtain ⟨F, ow, R2⟩ := R2
    obtain ⟨a, vs, rfl, hq, hd, hz⟩ := R2.sq R2.temps.1 e1
    cases d with
    | lst ds => cases e1; exact ⟨a, rfl, .inl ⟨⟨vs, SqL.of hq⟩, w3 _ _ _ ⟨F, ow, R2⟩ iter_list⟩⟩
    | scr ns => cases e1; exact ⟨a, rfl, .inl ⟨⟨vs, hq⟩, w3 _ _ _ ⟨F, ow, R2⟩ iter_scr⟩⟩
    | tup ds => cases e1; exact ⟨a, rfl, .inr ⟨⟨vs, R2.ex.sqT hq⟩, w3 _ _ _ ⟨F, ow, R2⟩ iter_tup⟩⟩
    | _ => cases e1
def rngOk (lo hi : Int) : Bool := decide (-(2 ^ 62) ≤ lo) && decide (lo < 2 ^ 62) && decide (-(2 ^ 62) ≤ hi) && decide (hi < 2 ^ 62) && decide ((hi - lo).toNat ≤ sizeLine)
def range1 (f : M T) : M (List D) := bindM (intM f) fun n => bindM (guardM (rngOk 0 n)) fun _ => retM (rangeL 0 n.toNat)
def range2 (f g : M T) : M (List D) := bindM (intM f) fun lo => bindM (intM g) fun hi => bindM (guardM (rngOk lo hi)) fun _ => retM (rangeL lo (hi - lo).toNat)
theorem di_range1 {a : Expr} {f : M T} {p pos : Pos} (hg : Gl X "range") (hm : X.mg "range" = none) (ha : PE X a (rd C W f)) (hs : starEach [a] X.env = [(false, eval a X.env)] := by rfl) : PI X tg (.Call (.Name "range" p) [a] [] pos) (rdI C W (range1 f)) :=
  pi_sub (pi_range1 hg hm (pa_cons ha pa_nil hs) hs) fun σ H R' ⟨Γ, τ, R, w⟩ => by
    refine intM_bind R w fun n Γ1 H1 R1 w1 => ?_
    obtain ⟨e, w2⟩ := wp_guardM (Out.wp_bind w1)
    simp only [rngOk, Bool.and_eq_true, decide_eq_true_eq] at e
    exact ⟨n, rfl, e.1.1.2, e.1.2, w2 _ _ [] R1 (iter_range (by simpa using e.2))⟩
theorem di_range2 {a b : Expr} {f g : M T} {p pos : Pos} (hg : Gl X "range") (hm : X.mg "range" = none) (ha : PE X a (rd C W f)) (hb : PE X b (rd C W g)) (hs : starEach [a, b] X.env = [(false, eval a X.env), (false, eval b X.env)] := by rfl) (hs2 : starEach [b] X.env = [(false, eval b X.env)] := by rfl) :
    PI X tg (.Call (.Name "range" p) [a, b] [] pos) (rdI C W (range2 f g)) :=
  pi_sub (pi_range2 hg hm (pa_cons ha (pa_cons hb pa_nil hs2) (by rw [hs, hs2])) hs hs2) fun σ H R' ⟨Γ, τ, R, w⟩ => by
    refine intM_bind R w fun lo Γ1 H1 R1 w1 => ?_
    refine intM_bind R1 w1 fun hi Γ2 H2 R2 w2 => ?_
    obtain ⟨e, w3⟩ := wp_guardM (Out.wp_bind w2)
    simp only [rngOk, Bool.and_eq_true, decide_eq_true_eq] at e
    exact ⟨lo, hi, rfl, ⟨e.1.1.1.1, e.1.1.1.2, e.1.1.2, e.1.2⟩, w3 _ _ [] R2 (iter_range e.2)⟩
def strIt (f : M T) : M (List D) := bindM f fun t => bindM (lookM t) fun d => match d with
  | .str z => bindM (guardM (decide (z.length ≤ sizeLine))) fun _ => retM (z.cps.toList.map fun c => D.str ⟨#[c]⟩)
  | _ => fun _ => .bad
theorem di_str {e : Expr} {f : M T} (he : PE X e (rd C W f)) : PI X tg e (rdI C W (strIt f)) :=
  pi_sub (pi_str he) fun σ H R' ⟨Γ, τ, R, w⟩ => by
    refine rd_bind R w fun t Γ1 v H1 R1 w1 => ?_
    obtain ⟨d, e1, w2⟩ := wp_lookM (Out.wp_bind w1)
    obtain ⟨F, ow, R1⟩ := R1
    have hd := R1.look R1.temps.1 e1
    cases d with
    | str z =>
      cases hd
      obtain ⟨e2, w3⟩ := wp_guardM (Out.wp_bind w2)
      exact ⟨z, rfl, w3 _ _ [] ⟨F, ow, R1.pop⟩ (iter_str (of_decide_eq_true e2))⟩
    | _ => exact w2.elim
end

/-! ### statements -/
inductive Flow where
  | next | ret (t : T) | brk | cont
def NoAl (τ : Hand) : Prop := ∀ p ∈ τ, ∀ i, p.2 ≠ .al i
def rdS (C : Cc) (W : WX) (f : M Flow) : TS := fun D σ H => ∃ Γ τ, NoAl τ ∧ Rel C σ H Γ τ ∧ (f Γ).Wp (fun fl Γ' => match fl with
  | .next => ∀ σ' H', Rel C σ' H' Γ' τ → D.nx σ' H'
  | .ret t => (∀ i, t ≠ .al i) ∧ ∀ v σ' H', Rel C σ' H' Γ' ((v, t) :: τ) → D.rt v H'
  | .brk => ∀ σ' H', Rel C σ' H' Γ' τ → D.bk σ' H'
  | .cont => ∀ σ' H', Rel C σ' H' Γ' τ → D.ct σ' H') (fun x Γ' => ∀ cls d σ' H', RelX C σ' H' Γ' τ cls d x → W cls d σ' H')
def seqM (f g : M Flow) : M Flow := bindM f fun fl => match fl with
  | .next => g
  | fl => retM fl
def skipM : M Flow := retM .next
def exprM (f : M T) : M Flow := bindM f fun _ => retM .next
/-- slot i owns what the call hands on -/
def moveT (t : T) : M T := match t with
  | .al i => fun Γ => match Γ[i]? with
    | some (some t') => .ok t' (Γ.set i none)
    | _ => .bad
  | t => fun Γ => .ok t Γ
def retS (f : M T) : M Flow := bindM f fun t => bindM (settle t) fun t' => retM (.ret t')
def setM (i : Nat) (f : M T) : M Flow := bindM f fun t => bindM (settle t) fun t' => fun Γ => .ok .next (Γ.set i (some t'))
def ifS (c : M Bool) (f g : M Flow) : M Flow := ifM c f g
section
variable {X : Cx} {C : Cc} {W : WX}
theorem wx_any {σ : St} {τ : Hand} {x : Exn} {Γ' : Env} (h : ∀ cls d σ' H', RelX C σ' H' Γ' τ cls d x → W cls d σ' H') : wx C W σ τ x Γ' := fun cls d H' R => h cls d σ H' R
abbrev wxS (C : Cc) (W : WX) (τ : Hand) : Exn → Env → Prop := fun x Γ' => ∀ cls d σ' H', RelX C σ' H' Γ' τ cls d x → W cls d σ' H'
/-- an expression within a statement -/
theorem rdS_bind {α : Type} {f : M T} {k : T → M α} {σ : St} {H : Hp} {Γ : Env} {τ : Hand} {Q : VK} {P : α → Env → Prop} (R : Rel C σ H Γ τ) (h : (bindM f k Γ).Wp P (wxS C W τ))
    (hq : ∀ t Γ' v H', Rel C σ H' Γ' ((v, t) :: τ) → (k t Γ').Wp P (wxS C W τ) → Q v H') : rd C W f σ H Q :=
  ⟨Γ, τ, R, Out.wp_mono (Out.wp_bind h) (fun t Γ' w v H' R' => hq t Γ' v H' R' w) (fun _ _ z => wx_any z)⟩
theorem rdS_bindT {α : Type} {f : M Bool} {k : Bool → M α} {σ : St} {H : Hp} {Γ : Env} {τ : Hand} {Q : Bool → Hp → Prop} {P : α → Env → Prop} (R : Rel C σ H Γ τ) (h : (bindM f k Γ).Wp P (wxS C W τ))
    (hq : ∀ b Γ' H', Rel C σ H' Γ' τ → (k b Γ').Wp P (wxS C W τ) → Q b H') : rdT C W f σ H Q :=
  ⟨Γ, τ, R, Out.wp_mono (Out.wp_bind h) (fun b Γ' w H' R' => hq b Γ' H' R' w) (fun _ _ z => wx_any z)⟩
theorem rdS_bindI {α : Type} {f : M (List D)} {k : List D → M α} {σ : St} {H : Hp} {Γ : Env} {τ : Hand} {Q : It → Hp → Prop} {P : α → Env → Prop} (R : Rel C σ H Γ τ) (h : (bindM f k Γ).Wp P (wxS C W τ))
    (hq : ∀ ds Γ' J H' υ, Rel C σ H' Γ' (υ ++ τ) → IterD C J ds υ → (k ds Γ').Wp P (wxS C W τ) → Q J H') : rdI C W f σ H Q :=
  ⟨Γ, τ, R, Out.wp_mono (Out.wp_bind h) (fun ds Γ' w J H' υ R' I => hq ds Γ' J H' υ R' I w) (fun _ _ z => wx_any z)⟩
theorem ds_nil : PSs X [] (rdS C W skipM) := pss_sub pss_nil fun D σ H ⟨Γ, τ, n, R, w⟩ => w σ H R
theorem ds_pass {pos : Pos} : PS X (.Pass pos) (rdS C W skipM) := ps_sub ps_pass fun D σ H ⟨Γ, τ, n, R, w⟩ => w σ H R
theorem ds_break {pos : Pos} : PS X (.Break pos) (rdS C W (retM .brk)) := ps_sub ps_break fun D σ H ⟨Γ, τ, n, R, w⟩ => w σ H R
theorem ds_continue {pos : Pos} : PS X (.Continue pos) (rdS C W (retM .cont)) := ps_sub ps_continue fun D σ H ⟨Γ, τ, n, R, w⟩ => w σ H R
theorem ds_doc {x j pos pos'} : PS X (.Expr (.Constant (.str x) j pos) pos') (rdS C W skipM) := ps_sub ps_doc fun D σ H ⟨Γ, τ, n, R, w⟩ => w σ H R
theorem ds_cons {st : Stmt} {rest : List Stmt} {f g : M Flow} (h1 : PS X st (rdS C W f)) (h2 : PSs X rest (rdS C W g)) : PSs X (st :: rest) (rdS C W (seqM f g)) := pss_sub (pss_cons h1 h2) fun D σ H ⟨Γ, τ, n, R, w⟩ => by
  refine ⟨Γ, τ, n, R, Out.wp_mono (Out.wp_bind w) (fun fl Γ' w' => ?_) (fun _ _ z => z)⟩
  cases fl with
  | next => exact fun σ' H' R' => ⟨Γ', τ, n, R', w'⟩
  | ret t => exact w'
  | brk => exact w'
  | cont => exact w'
theorem ds_one {st : Stmt} {f : M Flow} (h1 : PS X st (rdS C W f)) : PSs X [st] (rdS C W f) := pss_one h1
theorem ds_expr {e : Expr} {f : M T} {pos : Pos} (he : PE X e (rd C W f)) (hs : swapsWith e none pos.line X.env = pure false := by rfl) : PS X (.Expr e pos) (rdS C W (exprM f)) := ps_sub (ps_expr he hs) fun D σ H ⟨Γ, τ, n, R, w⟩ =>
  rdS_bind R w fun t Γ1 v H1 R1 w1 => w1 σ H1 R1.pop
theorem ds_ret {e : Expr} {f : M T} {pos : Pos} (he : PE X e (rd C W f)) : PS X (.Return (some e) pos) (rdS C W (retS f)) := ps_sub (ps_ret he) fun D σ H ⟨Γ, τ, n, R, w⟩ => by
  refine rdS_bind R w fun t Γ1 v H1 R1 w1 => ?_
  obtain ⟨t', Γ2, _, R2, w2⟩ := R1.settle (Out.wp_bind w1)
  exact w2.2 v σ H1 R2
theorem ds_retN {pos : Pos} : PS X (.Return none pos) (rdS C W (retM (.ret (.fz .non)))) := ps_sub ps_retN fun D σ H ⟨Γ, τ, n, R, w⟩ => w.2 .non σ H (R.scal .non)
theorem ds_set {i : Nat} {x : Str} {e : Expr} {f : M T} {pos pos' : Pos} (hN : X.N.Nodup) (hi : X.N[i]? = some x) (hx : Loc X.env.scope x) (hp : C.pin i = none) (he : PE X e (rd C W f)) (hs : swapsWith e (some (.Name x pos')) pos.line X.env = pure false := by rfl)
    (hf : X.fn x = true ∨ X.env.scope.names.lookup x = some .local := by first | exact .inl rfl | exact .inr rfl | assumption) : PS X (.Assign [.Name x pos'] e pos) (rdS C W (setM i f)) := ps_sub (ps_set hN hi hx he hs hf) fun D σ H ⟨Γ, τ, n, R, w⟩ => by
  refine rdS_bind R w fun t Γ1 v H1 R1 w1 => ?_
  obtain ⟨t', Γ2, na, R2, w2⟩ := R1.settle (Out.wp_bind w1)
  exact w2 _ _ (R2.store na hp (fun p hp' => n p hp' i))
theorem ds_if {c : Expr} {a b : List Stmt} {fc : M Bool} {f g : M Flow} {pos : Pos} (hc : PT X c (rdT C W fc)) (ha : PSs X a (rdS C W f)) (hb : PSs X b (rdS C W g)) : PS X (.If c a b pos) (rdS C W (ifS fc f g)) := ps_sub (ps_if hc ha hb) fun D σ H ⟨Γ, τ, n, R, w⟩ => by
  refine rdS_bindT R w fun b Γ1 H1 R1 w1 => ?_
  cases b with
  | true => exact ⟨Γ1, τ, n, R1, w1⟩
  | false => exact ⟨Γ1, τ, n, R1, w1⟩
end
end DL
/-! targets, loops, comprehensions -/
namespace DL
open PySem L2

section
variable {C : Cc} {σ σ' : St} {F F' H H' : Hp} {Γ Γ' : Env} {τ τ' υ : Hand} {ow ow' : Addr → Option Root} {v : V} {t : T} {d : D}
/-- frozen things in hand are laid on another hand -/
theorem Rl.relay (hυ : ∀ p ∈ υ, ∃ d, p.2 = .fz d) (R : Rl C σ H Γ (υ ++ τ) F ow) (R' : Rl C σ' H' Γ' τ' F' ow') (hs : Sub F F') : Rl C σ' H' Γ' (υ ++ τ') F' ow' := by
  induction υ with
  | nil => exact R'
  | cons p υ ih =>
    obtain ⟨w, t'⟩ := p
    obtain ⟨d, e⟩ := hυ (w, t') List.mem_cons_self
    have e' : t' = .fz d := e
    subst e'
    have h := R.temps.1
    cases h with
    | fz h => exact (ih (fun p hp => hυ p (List.mem_cons_of_mem _ hp)) R.pop).push (h.mono hs)
/-- what lies under the top is let go -/
theorem Rel.under (R : Rel C σ H Γ ((v, t) :: (υ ++ τ))) (n : ∀ i, t ≠ .al i) : Rel C σ H Γ ((v, t) :: τ) := by
  obtain ⟨F, ow, R⟩ := R
  have key : ∀ {Q : Addr → Prop} {a : Addr} {r : Root}, ow a = some r → r ≠ .inr (υ ++ τ).length → r ≠ .inr τ.length → (ow a).bind (fun r => if r = .inr (υ ++ τ).length then some (.inr τ.length) else if r = .inr τ.length then none else some r) = some r := fun {Q a r} e n1 n2 => by
    rw [e]
    show (if r = .inr (υ ++ τ).length then some (Sum.inr τ.length) else if r = .inr τ.length then none else some r) = some r
    rw [if_neg n1, if_neg n2]
  refine ⟨F, _, R.reown (fun r => if r = .inr (υ ++ τ).length then some (.inr τ.length) else if r = .inr τ.length then none else some r) R.len R.pins (fun i t' e => ?_) ⟨?_, ?_⟩⟩
  · obtain ⟨w, h1, h2⟩ := R.slots i t' e
    refine ⟨w, h1, h2.keep (Sub.refl F) (fun _ _ _ q => q) (fun a q => ⟨_, q, ?_⟩)⟩
    rw [if_neg (fun z => by cases z), if_neg (fun z => by cases z)]
  · refine TempOk.of ((R.temps.1.own n).keep (Sub.refl F) (fun _ _ _ q => q) (fun a q => ?_))
    show (ow a).bind _ = _
    rw [show ow a = some (.inr (υ ++ τ).length) from q]
    show (if (Sum.inr (υ ++ τ).length : Root) = .inr (υ ++ τ).length then some (Sum.inr τ.length) else _) = _
    rw [if_pos rfl]
  · have hd : Rl C σ H Γ τ F ow := R.pop.drop
    refine hd.temps.keep (Sub.refl F) (fun _ _ _ _ _ q => q) (fun a j hj q => key (Q := fun _ => True) q (fun z => ?_) (fun z => ?_))
    · have z' : j = (υ ++ τ).length := Sum.inr.inj z
      rw [List.length_append] at z'
      omega
    · have z' : j = τ.length := Sum.inr.inj z
      omega
theorem Rl.noAlias (R : Rl C σ H Γ τ F ow) {i : Nat} (hc : C.cv i = true) : ∀ p ∈ τ, p.2 ≠ .al i := by
  have go : ∀ (τ : Hand), TempsOk C σ F H ow τ → ∀ p ∈ τ, p.2 ≠ .al i := by
    intro τ
    induction τ with
    | nil => intro _ p hp; cases hp
    | cons q τ ih =>
      intro h p hp
      obtain ⟨w, t'⟩ := q
      cases hp with
      | head =>
        intro e
        have e' : t' = .al i := e
        subst e'
        have z := h.1.2
        rw [hc] at z
        cases z
      | tail _ hp => exact ih h.2 p hp
  exact go τ R.temps
end

/-! ### targets -/
def rdG (C : Cc) (is : List Nat) (g : D → M Unit) : TG := fun v σ H Q => ∃ Γ τ d, (∀ p ∈ τ, ∀ i ∈ is, p.2 ≠ .al i) ∧ Rel C σ H Γ ((v, .fz d) :: τ) ∧
  (g d Γ).Wp (fun _ Γ' => ∀ σ' H', (∀ i, i ∉ is → σ'[i]? = σ[i]?) → σ'.length = σ.length → Rel C σ' H' Γ' τ → Q σ' H') (fun _ _ => False)
def nameG (i : Nat) (d : D) : M Unit := fun Γ => .ok () (Γ.set i (some (.fz d)))
def namesG : List Nat → List D → M Unit
  | [], [] => retM ()
  | i :: is, d :: ds => bindM (nameG i d) fun _ => namesG is ds
  | _, _ => fun _ => .bad
def tupG (is : List Nat) (d : D) : M Unit := match d with
  | .tup ds => namesG is ds
  | _ => fun _ => .bad
def gNames : List Nat → TGs
  | [] => gNil
  | i :: is => gCons (gName i) (gNames is)
section
variable {X : Cx} {C : Cc}
theorem pg_sub' {tg : Expr} {t t' : TG} (h : PG X tg t) (m : ∀ v σ H Q, t' v σ H Q → t v σ H Q) : PG X tg t' := ⟨fun pins s σ H v u Q I r q => h.run pins s σ H v u Q I r (m v σ H Q q)⟩
theorem dg_name {i : Nat} {x : Str} {pos : Pos} (hp : C.pin i = none) (hN : X.N.Nodup) (hi : X.N[i]? = some x) (hx : Loc X.env.scope x) (hf : X.fn x = true ∨ X.env.scope.names.lookup x = some .local := by first | exact .inl rfl | exact .inr rfl | assumption) : PG X (.Name x pos) (rdG C [i] (nameG i)) :=
  pg_sub' (pg_name hN hi hx hf) fun v σ H Q ⟨Γ, τ, d, na, R, w⟩ => by
    refine w _ _ (fun j hj => ?_) (by simp) (R.store (fun _ z => by cases z) hp (fun p hp => na p hp i List.mem_cons_self))
    rw [List.getElem?_set_ne]
    intro z
    subst z
    exact hj List.mem_cons_self
theorem names_go {C : Cc} : ∀ {is : List Nat} {ds : List D} {vs : List V} {σ : St} {H F : Hp} {ow : Addr → Option Root} {Γ : Env} {τ : Hand} {Q : St → Hp → Prop}, (∀ i ∈ is, C.pin i = none) → (∀ p ∈ τ, ∀ i ∈ is, p.2 ≠ .al i) → Rl C σ H Γ τ F ow → Dts C.K C.cl F vs ds →
    (namesG is ds Γ).Wp (fun _ Γ' => ∀ σ' H', (∀ i, i ∉ is → σ'[i]? = σ[i]?) → σ'.length = σ.length → Rel C σ' H' Γ' τ → Q σ' H') (fun _ _ => False) → gNames is vs σ H Q
  | [], [], _, σ, H, _, _, _, _, _, _, _, R, .nil, w => ⟨rfl, w σ H (fun _ _ => rfl) rfl ⟨_, _, R⟩⟩
  | i :: is, d :: ds, _, σ, H, F, ow, Γ, τ, Q, hp, na, R, .cons (v := v) h hs, w => by
    refine ⟨v, _, rfl, ?_⟩
    have R1 : Rel C (σ.set i (some v)) H (Γ.set i (some (.fz d))) τ := Rel.store ⟨F, ow, R.push h⟩ (fun _ z => by cases z) (hp i List.mem_cons_self) (fun p hp => na p hp i List.mem_cons_self)
    have e1 : ∃ ow', Rl C (σ.set i (some v)) H (Γ.set i (some (.fz d))) τ F ow' := by
      refine ⟨fun a => (ow a).bind fun r => if r = .inl i then none else some r, R.reown (fun r => if r = .inl i then none else some r) (by simpa using R.len) (fun j w e => ?_) (fun j t' e => ?_) ?_⟩
      · have hj : i ≠ j := fun z => by
          subst z
          rw [hp i List.mem_cons_self] at e
          cases e
        rw [List.getElem?_set_ne hj]
        exact R.pins j w e
      · by_cases hj : i = j
        · subst hj
          have hlt : i < Γ.length := by
            have := (List.getElem?_eq_some_iff.mp e).1
            simpa using this
          rw [List.getElem?_set_self hlt] at e
          cases e
          have hl : i < σ.length := by rw [R.len]; exact hlt
          exact ⟨v, by rw [List.getElem?_set_self hl], .fz h⟩
        · rw [List.getElem?_set_ne hj] at e
          obtain ⟨w, h1, h2⟩ := R.slots j t' e
          refine ⟨w, by rw [List.getElem?_set_ne hj]; exact h1, h2.keep (Sub.refl F) (fun _ _ _ q => q) (fun a q => ⟨_, q, ?_⟩)⟩
          rw [if_neg (fun z => by cases z; exact hj rfl)]
      · have go : ∀ (υ : Hand), (∀ p ∈ υ, p.2 ≠ .al i) → TempsOk C σ F H ow υ → TempsOk C (σ.set i (some v)) F H (fun a => (ow a).bind fun r => if r = .inl i then none else some r) υ := by
          intro υ
          induction υ with
          | nil => intro _ _; trivial
          | cons p υ ih =>
            intro ha h
            obtain ⟨w, t'⟩ := p
            refine ⟨h.1.keep (Sub.refl F) (fun _ _ _ q => q) (fun a q => ?_) (fun j ej q => ?_), ih (fun p hp => ha p (List.mem_cons_of_mem _ hp)) h.2⟩
            · show (ow a).bind _ = _
              rw [show ow a = some (.inr υ.length) from q]
              show (if (Sum.inr υ.length : Root) = .inl i then none else some (Sum.inr υ.length)) = _
              rw [if_neg (fun z => by cases z)]
            · have hj : i ≠ j := fun z => by
                subst z
                exact ha (w, t') List.mem_cons_self ej
              rw [List.getElem?_set_ne hj]
              exact q
        exact go τ (fun p hp => na p hp i List.mem_cons_self) R.temps
    obtain ⟨ow', R2⟩ := e1
    refine names_go (fun j hj => hp j (List.mem_cons_of_mem _ hj)) (fun p hp j hj => na p hp j (List.mem_cons_of_mem _ hj)) R2 hs ?_
    refine Out.wp_mono (show (namesG is ds (Γ.set i (some (.fz d)))).Wp _ _ from w) (fun _ Γ' w' σ' H' e l R' => w' σ' H' (fun j hj => ?_) (by rw [l, List.length_set]) R') (fun _ _ z => z)
    have n1 : j ≠ i := fun z => hj (by rw [z]; exact List.mem_cons_self)
    have n2 : j ∉ is := fun z => hj (List.mem_cons_of_mem _ z)
    rw [e j n2, List.getElem?_set_ne (Ne.symm n1)]
  | [], _ :: _, _, _, _, _, _, _, _, _, _, _, _, _, w => w.elim
  | _ :: _, [], _, _, _, _, _, _, _, _, _, _, _, _, w => w.elim
theorem dg_tup {tg : Expr} {n : Nat} (is : List Nat) (hK : C.K = X.K) (hn : is.length = n) (hp : ∀ i ∈ is, C.pin i = none) (h : PG X tg (gTup X.K n (gNames is))) : PG X tg (rdG C is (tupG is)) :=
  pg_sub' h fun v σ H Q ⟨Γ, τ, d, na, R, w⟩ => by
    cases d with
    | tup ds =>
      obtain ⟨F, ow, R⟩ := R
      have z := R.temps.1
      cases z with
      | fz z =>
        cases z with
        | tup h1 _ h2 =>
          refine ⟨_, _, rfl, by rw [← hK]; exact R.ex.sqT h1, ?_, names_go hp na R.pop h2 w⟩
          rw [h2.length, ← hn]
          have len : ∀ (is : List Nat) (ds : List D) (Γ : Env), (namesG is ds Γ).Wp (fun _ _ => True) (fun _ _ => True) → ds.length = is.length := by
            intro is
            induction is with
            | nil =>
              intro ds Γ w
              cases ds with
              | nil => rfl
              | cons _ _ => exact w.elim
            | cons i is ih =>
              intro ds Γ w
              cases ds with
              | nil => exact w.elim
              | cons d ds => exact congrArg (· + 1) (ih ds _ (Out.wp_bind (show (bindM (nameG i d) (fun _ => namesG is ds) Γ).Wp _ _ from w)))
          exact len is ds Γ (Out.wp_mono w (fun _ _ _ => trivial) (fun _ _ _ => trivial))
    | _ => exact w.elim
end

/-! ### for -/
def loopM (g : D → M Unit) (body : M Flow) : List D → M Flow
  | [] => retM .next
  | d :: ds => bindM (g d) fun _ => bindM body fun fl => match fl with
    | .next => loopM g body ds
    | .cont => loopM g body ds
    | .brk => retM .next
    | .ret t => retM (.ret t)
def forM (fi : M (List D)) (g : D → M Unit) (body : M Flow) : M Flow := bindM fi fun ds => loopM g body ds
section
variable {X : Cx} {C : Cc} {W : WX}
theorem wp_target {α : Type} {o : Out Unit} {k : Unit → M α} {P : α → Env → Prop} {E : Exn → Env → Prop} (h : (o.bind k).Wp P E) (hn : ∀ x Γ, o ≠ .exc x Γ) : o.Wp (fun u Γ => (k u Γ).Wp P E) (fun _ _ => False) := by
  cases o with
  | ok u Γ => exact h
  | exc x Γ => exact absurd rfl (hn x Γ)
  | bad => exact h
theorem namesG_noexc : ∀ (is : List Nat) (ds : List D) (Γ : Env) (x : Exn) (Γ' : Env), namesG is ds Γ ≠ .exc x Γ'
  | [], [], _, _, _ => fun z => by cases z
  | i :: is, d :: ds, Γ, x, Γ' => fun z => namesG_noexc is ds _ x Γ' z
  | [], _ :: _, _, _, _ => fun z => by cases z
  | _ :: _, [], _, _, _ => fun z => by cases z
/-- a target's store raises nothing -/
def Quiet (g : D → M Unit) : Prop := ∀ d Γ x Γ', g d Γ ≠ .exc x Γ'
theorem quiet_name (i : Nat) : Quiet (nameG i) := fun _ _ _ _ z => by cases z
theorem quiet_tup (is : List Nat) : Quiet (tupG is) := fun d Γ x Γ' z => by
  cases d with
  | tup ds => exact namesG_noexc is ds Γ x Γ' z
  | _ => cases z
theorem ds_for {tg iter : Expr} {body : List Stmt} {fi : M (List D)} {g : D → M Unit} {is : List Nat} {fb : M Flow} {pos : Pos} (hp : PassesOwn (model X.prog X.w) X.A X.env X.xe) (hc : X.calm = true) (hq : Quiet g) (hi : PI X tg iter (rdI C W fi)) (hg : PG X tg (rdG C is g)) (hb : PSs X body (rdS C W fb))
    (hs : ∀ x, foldedSetIterable iter X.env x = pure x := by intro _; rfl) : PS X (.For tg iter body [] pos) (rdS C W (forM fi g fb)) := ps_sub (ps_for hp hc hi hg hb hs) fun D σ H ⟨Γ, τ, n, R, w⟩ => by
  refine rdS_bindI R w fun ds Γ1 J H1 υ R1 I w1 => ?_
  have nal : NoAl (υ ++ τ) := fun p hp i => by
    rcases List.mem_append.mp hp with h | h
    · exact I.noal p h i
    · exact n p h i
  refine ⟨fun i m σ H => m = ds.length - i ∧ i ≤ ds.length ∧ ∃ Γ, Rel C σ H Γ (υ ++ τ) ∧ (loopM g fb (ds.drop i) Γ).Wp (fun fl Γ' => match fl with
    | .next => ∀ σ' H', Rel C σ' H' Γ' τ → D.nx σ' H'
    | .ret t => (∀ i, t ≠ .al i) ∧ ∀ v σ' H', Rel C σ' H' Γ' ((v, t) :: τ) → D.rt v H'
    | .brk => ∀ σ' H', Rel C σ' H' Γ' τ → D.bk σ' H'
    | .cont => ∀ σ' H', Rel C σ' H' Γ' τ → D.ct σ' H') (wxS C W τ), ⟨ds.length, by simp, Nat.zero_le _, Γ1, R1, by rw [List.drop_zero]; exact w1⟩, ?_⟩
  rintro i m σ2 H2 ⟨rfl, hle, Γ2, R2, w2⟩
  by_cases hlt : i < ds.length
  · refine .inr ⟨I.go i H2 σ2 Γ2 τ R2 hlt, fun σ' H' => ∃ Γ, Rel C σ' H' Γ (υ ++ τ) ∧ (loopM g fb (ds.drop (i + 1)) Γ).Wp _ (wxS C W τ), fun σ' H' ⟨Γ3, R3, w3⟩ => ⟨ds.length - (i + 1), by omega, rfl, hlt, Γ3, R3, w3⟩, fun x H' y => ?_⟩
    obtain ⟨d, e, R3⟩ := I.yld i H2 σ2 Γ2 τ x H' R2 hlt y
    have ed : ds.drop i = d :: ds.drop (i + 1) := by
      rw [List.drop_eq_getElem_cons hlt]
      rw [List.getElem?_eq_getElem hlt] at e
      rw [Option.some.inj e]
    rw [ed] at w2
    refine ⟨Γ2, υ ++ τ, d, fun p hp i _ => nal p hp i, R3, Out.wp_mono (wp_target w2 (hq d Γ2)) (fun _ Γ3 w3 σ' H'' _ _ R4 => ?_) (fun _ _ z => z)⟩
    refine ⟨Γ3, υ ++ τ, nal, R4, Out.wp_mono (Out.wp_bind w3) (fun fl Γ4 w4 => ?_) (fun x Γ4 w4 cls dd σ5 H5 RX => w4 cls dd σ5 H5 RX.drop)⟩
    cases fl with
    | next => exact fun σ5 H5 R5 => ⟨Γ4, R5, w4⟩
    | cont => exact fun σ5 H5 R5 => ⟨Γ4, R5, w4⟩
    | brk => exact fun σ5 H5 R5 => w4 σ5 H5 R5.drop
    | ret t => exact ⟨w4.1, fun v σ5 H5 R5 => w4.2 v σ5 H5 (R5.under w4.1)⟩
  · have e : i = ds.length := by omega
    subst e
    rw [List.drop_length] at w2
    exact .inl ⟨I.stop H2 σ2 Γ2 τ R2, w2 σ2 H2 R2.drop⟩
/-- while, so many turns at the most -/
def whileM (c : M Bool) (body : M Flow) : Nat → M Flow
  | 0 => fun _ => .bad
  | n + 1 => bindM c fun b => if b then bindM body fun fl => match fl with
      | .next => whileM c body n
      | .cont => whileM c body n
      | .brk => retM .next
      | .ret t => retM (.ret t)
    else retM .next
theorem ds_while {c : Expr} {body : List Stmt} {fc : M Bool} {fb : M Flow} {pos : Pos} (k : Nat) (hp : PassesOwn (model X.prog X.w) X.A X.env X.xe) (hc : PT X c (rdT C W fc)) (hb : PSs X body (rdS C W fb)) : PS X (.While c body [] pos) (rdS C W (whileM fc fb k)) := ps_sub (ps_while hp hc hb) fun D σ H ⟨Γ, τ, n, R, w⟩ => by
  refine ⟨fun m σ H => ∃ Γ, Rel C σ H Γ τ ∧ (whileM fc fb m Γ).Wp (fun fl Γ' => match fl with
    | .next => ∀ σ' H', Rel C σ' H' Γ' τ → D.nx σ' H'
    | .ret t => (∀ i, t ≠ .al i) ∧ ∀ v σ' H', Rel C σ' H' Γ' ((v, t) :: τ) → D.rt v H'
    | .brk => ∀ σ' H', Rel C σ' H' Γ' τ → D.bk σ' H'
    | .cont => ∀ σ' H', Rel C σ' H' Γ' τ → D.ct σ' H') (wxS C W τ), ⟨k, Γ, R, w⟩, ?_⟩
  rintro m σ2 H2 ⟨Γ2, R2, w2⟩
  cases m with
  | zero => exact w2.elim
  | succ m =>
    refine rdS_bindT R2 w2 fun b Γ3 H3 R3 w3 => ?_
    cases b with
    | true =>
      refine ⟨fun σ' H' => ∃ Γ, Rel C σ' H' Γ τ ∧ (whileM fc fb m Γ).Wp _ (wxS C W τ), fun σ' H' ⟨Γ4, R4, w4⟩ => ⟨m, Nat.lt_succ_self m, Γ4, R4, w4⟩, Γ3, τ, n, R3, Out.wp_mono (Out.wp_bind w3) (fun fl Γ4 w4 => ?_) (fun _ _ z => z)⟩
      cases fl with
      | next => exact fun σ5 H5 R5 => ⟨Γ4, R5, w4⟩
      | cont => exact fun σ5 H5 R5 => ⟨Γ4, R5, w4⟩
      | brk => exact fun σ5 H5 R5 => w4 σ5 H5 R5
      | ret t => exact w4
    | false => exact w3 σ2 H3 R3
end
end DL
/-! comprehensions -/
namespace DL
open PySem L2

def wipeE (Γ : Env) : List Nat → Env
  | [] => Γ
  | i :: is => (wipeE Γ is).set i none
theorem wipeE_length (Γ : Env) : ∀ is : List Nat, (wipeE Γ is).length = Γ.length
  | [] => rfl
  | i :: is => by
    unfold wipeE
    rw [List.length_set, wipeE_length Γ is]
theorem wipeE_some {Γ : Env} {j : Nat} {t : T} : ∀ {is : List Nat}, (wipeE Γ is)[j]? = some (some t) → Γ[j]? = some (some t) ∧ j ∉ is
  | [], h => ⟨h, by simp⟩
  | i :: is, h => by
    unfold wipeE at h
    by_cases e : i = j
    · subst e
      rw [List.getElem?_set] at h
      split at h
      · split at h <;> cases h
      · rename_i n
        exact absurd rfl n
    · rw [List.getElem?_set_ne e] at h
      obtain ⟨h1, h2⟩ := wipeE_some h
      exact ⟨h1, fun z => by
        cases z with
        | head => exact e rfl
        | tail _ z => exact h2 z⟩
theorem wipe_in {σ : St} {j : Nat} : ∀ {vs : List Nat}, j ∈ vs → j < σ.length → (wipe σ vs)[j]? = some none
  | i :: vs, h, hl => by
    unfold wipe
    by_cases e : i = j
    · subst e
      rw [List.getElem?_set_self (by rw [wipe_length]; exact hl)]
    · rw [List.getElem?_set_ne e]
      cases h with
      | head => exact absurd rfl e
      | tail _ h => exact wipe_in h hl
theorem wipe_ext {σ σ' : St} {vs : List Nat} (hl : σ'.length = σ.length) (h : ∀ i, i ∉ vs → σ'[i]? = σ[i]?) : wipe σ' vs = wipe σ vs := by
  apply List.ext_getElem?
  intro i
  by_cases hi : i ∈ vs
  · by_cases hlt : i < σ.length
    · rw [wipe_in hi hlt, wipe_in hi (by rw [hl]; exact hlt)]
    · rw [List.getElem?_eq_none (by rw [wipe_length, hl]; omega), List.getElem?_eq_none (by rw [wipe_length]; omega)]
  · rw [wipe_out hi, wipe_out hi]
    exact h i hi
section
variable {C : Cc} {σ : St} {H F : Hp} {Γ : Env} {τ : Hand} {vs : List Nat} {ow : Addr → Option Root}
theorem temps_wipe (hv : ∀ i ∈ vs, C.cv i = true) {σ' : St} (hs : ∀ i, i ∉ vs → σ'[i]? = σ[i]?) : ∀ {τ : Hand}, TempsOk C σ F H ow τ → TempsOk C σ' F H ow τ
  | [], _ => trivial
  | (v, t) :: τ, h => by
    refine ⟨?_, temps_wipe hv hs h.2⟩
    cases t with
    | al i =>
      obtain ⟨h1, h2⟩ := h.1
      have n : i ∉ vs := fun z => by
        rw [hv i z] at h2
        cases h2
      exact ⟨by rw [hs i n]; exact h1, h2⟩
    | fz d => exact h.1
    | ol ts => exact h.1
    | oi c ts => exact h.1
theorem Rel.wipe (hv : ∀ i ∈ vs, C.cv i = true ∧ C.pin i = none) (R : Rel C σ H Γ τ) : Rel C (L2.wipe σ vs) H (wipeE Γ vs) τ := by
  obtain ⟨F, ow, R⟩ := R
  refine ⟨F, ow, R.ex, R.old, R.new, R.frame, R.ownF, R.ownH, R.ownN, fun j t e => ?_, temps_wipe (fun i hi => (hv i hi).1) (fun i hi => wipe_out hi) R.temps, fun i v e => ?_, by rw [wipe_length, wipeE_length]; exact R.len, R.tabs, R.ft⟩
  · obtain ⟨e1, n⟩ := wipeE_some e
    obtain ⟨w, h1, h2⟩ := R.slots j t e1
    exact ⟨w, by rw [wipe_out n]; exact h1, h2⟩
  · have n : i ∉ vs := fun z => by
      rw [(hv i z).2] at e
      cases e
    rw [wipe_out n]
    exact R.pins i v e
theorem Rel.unwipe {σ' : St} (hv : ∀ i ∈ vs, C.cv i = true ∧ C.pin i = none) (hs : ∀ i, i ∉ vs → σ'[i]? = σ[i]?) (hl : σ'.length = σ.length) (hno : ∀ j ∈ vs, ∀ t, Γ[j]? ≠ some (some t)) (R : Rel C σ H Γ τ) : Rel C σ' H Γ τ := by
  obtain ⟨F, ow, R⟩ := R
  refine ⟨F, ow, R.ex, R.old, R.new, R.frame, R.ownF, R.ownH, R.ownN, fun j t e => ?_, temps_wipe (fun i hi => (hv i hi).1) hs R.temps, fun i v e => ?_, by rw [hl]; exact R.len, R.tabs, R.ft⟩
  · have n : j ∉ vs := fun z => hno j z t e
    obtain ⟨w, h1, h2⟩ := R.slots j t e
    exact ⟨w, by rw [hs j n]; exact h1, h2⟩
  · have n : i ∉ vs := fun z => by
      rw [(hv i z).2] at e
      cases e
    rw [hs i n]
    exact R.pins i v e
end

/-- nothing may be raised here -/
def noX {α : Type} (f : M α) : M α := fun Γ => match f Γ with
  | .exc _ _ => .bad
  | o => o
abbrev W0 : WX := fun _ _ _ _ => False
def fzD (f : M T) : M D := bindM (frozen f) fun t => match t with
  | .fz d => retM d
  | _ => fun _ => .bad
/-- one turn: the thing, or none where the test is not met -/
def turnL (vs : List Nat) (g : D → M Unit) (ft : M Bool) (fe : M T) (d : D) : M (Option D) := bindM (g d) fun _ => bindM (noX ft) fun b => bindM (if b then bindM (noX (fzD fe)) fun e => retM (some e) else retM none) fun o => fun Γ => .ok o (wipeE Γ vs)
def compL (vs : List Nat) (g : D → M Unit) (ft : M Bool) (fe : M T) : List D → M (List D)
  | [] => retM []
  | d :: ds => bindM (turnL vs g ft fe d) fun o => bindM (compL vs g ft fe ds) fun es => retM (o.toList ++ es)
def compM (vs : List Nat) (fi : M (List D)) (g : D → M Unit) (ft : M Bool) (fe : M T) : M T := bindM fi fun ds => fun Γ => (compL vs g ft fe ds (wipeE Γ vs)).bind fun es => retM (.ol (es.map T.fz))
section
variable {α : Type} {o : Out α} {P : α → Env → Prop} {E E' : Exn → Env → Prop}
theorem wp_noX {f : M α} {Γ : Env} (h : (noX f Γ).Wp P E) : (f Γ).Wp P E' := by
  unfold noX at h
  cases e : f Γ with
  | ok a Γ' => rw [e] at h; exact h
  | exc x Γ' => rw [e] at h; exact h.elim
  | bad => rw [e] at h; exact h.elim
end
section
variable {X : Cx} {C : Cc} {W : WX}
theorem wp_fzD {f : M T} {σ : St} {H : Hp} {Γ : Env} {τ : Hand} {Q : VK} {P : D → Env → Prop} {E : Exn → Env → Prop} (R : Rel C σ H Γ τ) (h : (noX (fzD f) Γ).Wp P E) (hq : ∀ d Γ' v H', Rel C σ H' Γ' ((v, .fz d) :: τ) → P d Γ' → Q v H') : rd C W0 f σ H Q := by
  refine ⟨Γ, τ, R, ?_⟩
  have h1 : (fzD f Γ).Wp P (fun _ _ => False) := wp_noX h
  have h2 := Out.wp_bind (Out.wp_bind h1)
  refine Out.wp_mono h2 (fun t Γ1 w v H1 R1 => ?_) (fun _ _ z => z.elim)
  obtain ⟨d, Γ2, R2, w2⟩ := R1.frz (Out.wp_mono w (fun _ _ q => q) (fun _ _ q => q))
  exact hq d Γ2 v H1 R2 w2
/-- a list's or an instance's change leaves the tables -/
def Obm : HO → Prop
  | .lst _ => True
  | .ins _ _ _ => True
  | .dK _ => True
  | .dT _ => True
  | _ => False
theorem tabs_updO {T : List (Addr × Str)} {H : Hp} {a : Addr} {o u : HO} (h : LamX.Tabs T H) (ha : H a = some u) (hu : Obm u) : LamX.Tabs T (upd H a o) := fun p hp => by
  obtain ⟨ps, h1, h2, h3⟩ := h p hp
  have n1 : p.1 ≠ a := fun z => by
    rw [z, ha] at h1
    cases h1
    exact hu
  refine ⟨ps, by rw [upd_ne n1]; exact h1, h2, fun pos cv hc => ?_⟩
  obtain ⟨c, e1, e2⟩ := h3 pos cv hc
  refine ⟨c, e1, ?_⟩
  rw [upd_ne (fun z => by
    rw [z, ha] at e2
    have e3 : u = LamX.CodeO a p.2 := Option.some.inj e2
    rw [e3] at hu
    exact hu)]
  exact e2
theorem tabs_upd {T : List (Addr × Str)} {H : Hp} {a : Addr} {o : HO} {vs : List V} (h : LamX.Tabs T H) (ha : H a = some (.lst vs)) : LamX.Tabs T (upd H a o) := tabs_updO h ha trivial
/-- the new list, one thing longer -/
theorem Rel.append {σ : St} {H : Hp} {Γ : Env} {τ υ : Hand} {D' : Addr} {acc : List D} {y : V} {e : D} (hυ : ∀ p ∈ υ, ∃ d, p.2 = .fz d) (R : Rel C σ H Γ ((y, .fz e) :: (υ ++ ((.ref D', .ol (acc.map T.fz)) :: τ)))) (hz : acc.length < sizeLine) :
    ∃ vs, H D' = some (.lst vs) ∧ vs.length < sizeLine ∧ Rel C σ (upd H D' (.lst (vs ++ [y]))) Γ (υ ++ ((.ref D', .ol ((acc ++ [e]).map T.fz)) :: τ)) := by
  obtain ⟨F, ow, R⟩ := R
  have hy := R.temps.1
  cases hy with
  | fz hy =>
    have Rb : Rl C σ H Γ ((.ref D', .ol (acc.map T.fz)) :: τ) F ow := R.pop.drop
    have hD := Rb.temps.1.own (fun _ z => by cases z)
    cases hD with
    | ol sub h1 hl hS h2 =>
      rename_i vs
      have hd : Dts C.K C.cl F vs acc := h2.dts
      have hlen : vs.length = acc.length := hd.length
      refine ⟨vs, h1, by rw [hlen]; exact hz, F, ow, ?_⟩
      have hDF : F D' = none := R.ownF D' _ hS
      have fr : ∀ a o, a ≠ D' → H a = some o → upd H D' (.lst (vs ++ [y])) a = some o := fun a o n h => by
        rw [upd_ne n]
        exact h
      have nF : ∀ a o, F a = some o → a ≠ D' := fun a o e z => by
        subst z
        rw [hDF] at e
        cases e
      have Rt : Rl C σ H Γ τ F ow := Rb.pop
      have R2 : Rl C σ (upd H D' (.lst (vs ++ [y]))) Γ ((.ref D', .ol ((acc ++ [e]).map T.fz)) :: τ) F ow := by
        refine ⟨fun a o q => fr a o (nF a o q) (R.ex a o q), R.old, R.new, fun a o q hm => ?_, R.ownF, fun a r q => ?_, R.ownN, fun i t q => ?_, ⟨?_, ?_⟩, R.pins, R.len, tabs_upd R.tabs h1, R.ft⟩
        · obtain ⟨o', e1, e2⟩ := R.frame a o q hm
          refine ⟨o', fr a o' (fun z => ?_) e1, e2⟩
          subst z
          rcases R.ownN a _ hS with z | z
          · exact hm z
          · rw [z] at q
            cases q
        · by_cases h : a = D'
          · subst h
            exact ⟨_, upd_same, nx_lst⟩
          · obtain ⟨o, ho, n⟩ := R.ownH a r q
            exact ⟨o, fr a o h ho, n⟩
        · obtain ⟨w, g1, g2⟩ := R.slots i t q
          refine ⟨w, g1, g2.keep (Sub.refl F) (fun a o s z => fr a o (fun z' => ?_) z) (fun _ z => z)⟩
          subst z'
          have s' : ow a = some (.inl i) := s
          rw [hS] at s'
          cases s'
        · refine OwT.ol (fun _ => none) upd_same (by rw [List.length_append, hlen]; exact hz) hS (OwTs.ofDts (hd.append (.cons hy .nil)))
        · refine Rt.temps.keep (Sub.refl F) (fun a o j hj s z => fr a o (fun z' => ?_) z) (fun _ _ _ z => z)
          subst z'
          rw [hS] at s
          have s' : τ.length = j := Sum.inr.inj (Option.some.inj s)
          omega
      exact R.pop.relay hυ R2 (Sub.refl F)
theorem wp_quiet {α : Type} {o : Out α} {P : α → Env → Prop} {E E' : Exn → Env → Prop} (h : o.Wp P E) (hn : ∀ x Γ, o ≠ .exc x Γ) : o.Wp P E' := by
  cases o with
  | ok u Γ => exact h
  | exc x Γ => exact absurd rfl (hn x Γ)
  | bad => exact h
theorem lc_rd {vs is : List Nat} {fi : M (List D)} {g : D → M Unit} {ft : M Bool} {fe : M T} (hv : ∀ i ∈ vs, C.cv i = true ∧ C.pin i = none) (his : ∀ i ∈ is, i ∈ vs) (hq : Quiet g) {σ : St} {H : Hp} {Q : VK}
    (h : rd C W (compM vs fi g ft fe) σ H Q) : tLc (rdI C W fi) (rdG C is g) (rdT C W0 ft) (rd C W0 fe) vs σ H Q := by
  obtain ⟨Γ, τ, R, w⟩ := h
  refine ⟨Γ, τ, R, Out.wp_mono (Out.wp_bind w) (fun ds Γ1 w1 J H1 υ R1 I D' hD => ?_) (fun _ _ z => z)⟩
  have w1' := Out.wp_bind w1
  have hlen := I.len H1 σ Γ1 τ R1
  refine ⟨fun i m H => m = ds.length - i ∧ i ≤ ds.length ∧ ∃ Γ acc, acc.length ≤ i ∧ Rel C (wipe σ vs) H Γ (υ ++ ((.ref D', .ol (acc.map T.fz)) :: τ)) ∧ (∀ j ∈ vs, ∀ t, Γ[j]? ≠ some (some t)) ∧
    (compL vs g ft fe (ds.drop i) Γ).Wp (fun es Γ' => ∀ v H', Rel C σ H' Γ' ((v, .ol ((acc ++ es).map T.fz)) :: τ) → Q v H') (fun _ _ => True), ⟨ds.length, by simp, Nat.zero_le _, wipeE Γ1 vs, [], Nat.le_refl _, ?_, ?_, ?_⟩, ?_⟩
  · obtain ⟨F, ow, R1⟩ := Rel.wipe hv R1
    obtain ⟨ow3, R3⟩ := R1.drop.newListF (vs := []) (ds := []) hD (Nat.zero_le _) .nil
    exact ⟨F, ow3, R1.relay I.fz R3 (Sub.refl F)⟩
  · intro j hj t e
    exact (wipeE_some e).2 hj
  · rw [List.drop_zero]
    exact Out.wp_mono w1' (fun es Γ' z => z) (fun _ _ _ => trivial)
  · rintro i m H2 ⟨rfl, hle, Γ2, acc, hacc, R2, hno, w2⟩
    by_cases hlt : i < ds.length
    · refine .inr ⟨I.go i H2 _ Γ2 _ R2 hlt, fun H' => ∃ Γ acc, acc.length ≤ i + 1 ∧ Rel C (wipe σ vs) H' Γ (υ ++ ((.ref D', .ol (acc.map T.fz)) :: τ)) ∧ (∀ j ∈ vs, ∀ t, Γ[j]? ≠ some (some t)) ∧
        (compL vs g ft fe (ds.drop (i + 1)) Γ).Wp (fun es Γ' => ∀ v H', Rel C σ H' Γ' ((v, .ol ((acc ++ es).map T.fz)) :: τ) → Q v H') (fun _ _ => True), fun H' ⟨Γ3, acc3, a3, R3, n3, w3⟩ => ⟨ds.length - (i + 1), by omega, rfl, hlt, Γ3, acc3, a3, R3, n3, w3⟩, fun x H' y => ?_⟩
      obtain ⟨d, e, R3⟩ := I.yld i H2 _ Γ2 _ x H' R2 hlt y
      have ed : ds.drop i = d :: ds.drop (i + 1) := by
        rw [List.drop_eq_getElem_cons hlt]
        rw [List.getElem?_eq_getElem hlt] at e
        rw [Option.some.inj e]
      rw [ed] at w2
      have w3 := wp_quiet (E' := fun _ _ => False) (Out.wp_bind (Out.wp_bind w2)) (hq d Γ2)
      have R3' := R3
      obtain ⟨F, ow, R3⟩ := R3
      refine ⟨Γ2, _, d, fun p hp j hj => R3.pop.noAlias (hv j (his j hj)).1 p hp, R3', Out.wp_mono w3 (fun _ Γ3 w4 σ2 H3 e1 e2 R4 => ?_) (fun _ _ z => z)⟩
      have ew : wipe σ2 vs = wipe σ vs := wipe_ext (by rw [e2, wipe_length]) fun j hj => by
        rw [e1 j (fun z => hj (his j z)), wipe_out hj]
      have w5 := Out.wp_bind w4
      refine ⟨ew, Γ3, _, R4, Out.wp_mono (wp_noX w5) (fun b Γ4 w6 H4 R5 => ?_) (fun _ _ z => z)⟩
      cases b with
      | true =>
        refine wp_fzD R5 (Out.wp_bind (Out.wp_bind w6)) fun e Γ5 y H6 R6 w7 => ?_
        obtain ⟨vs', h1, h2, R7⟩ := R6.append I.fz (by omega)
        refine ⟨vs', h1, h2, wipeE Γ5 vs, acc ++ [e], by rw [List.length_append]; exact Nat.succ_le_succ hacc, ?_, fun j hj t q => (wipeE_some q).2 hj, ?_⟩
        · rw [← ew]
          exact R7.wipe hv
        · refine Out.wp_mono (Out.wp_bind (show (bindM (compL vs g ft fe (ds.drop (i + 1))) (fun es => retM ((some e).toList ++ es)) (wipeE Γ5 vs)).Wp _ _ from w7)) (fun es Γ' z => ?_) (fun _ _ _ => trivial)
          rw [List.append_assoc]
          exact z
      | false =>
        refine ⟨wipeE Γ4 vs, acc, Nat.le_succ_of_le hacc, ?_, fun j hj t q => (wipeE_some q).2 hj, ?_⟩
        · rw [← ew]
          exact R5.wipe hv
        · exact Out.wp_mono (Out.wp_bind (show (bindM (compL vs g ft fe (ds.drop (i + 1))) (fun es => retM ((none : Option D).toList ++ es)) (wipeE Γ4 vs)).Wp _ _ from w6)) (fun es Γ' z => z) (fun _ _ _ => trivial)
    · have e : i = ds.length := by omega
      subst e
      rw [List.drop_length] at w2
      refine .inl ⟨I.stop H2 _ Γ2 _ R2, w2 _ _ ?_⟩
      rw [List.append_nil]
      exact Rel.unwipe hv (fun j hj => (wipe_out hj).symm) (wipe_length σ vs).symm hno R2.drop
theorem dts_nil : PTs X [] (rdT C W0 (retM true)) := ⟨fun pins s σ H Q I h => pts_nil.run pins s σ H Q I (by obtain ⟨Γ, τ, R, w⟩ := h; exact w H R)⟩
theorem dts_one {c : Expr} {f : M Bool} (h : PT X c (rdT C W0 f)) : PTs X [c] (rdT C W0 f) := pts_one h
theorem de_comp {elt tg iter : Expr} {ifs : List Expr} {scope : Scope} {own : List (Str × Nat)} {pos : Pos} {is : List Nat} {fi : M (List D)} {g : D → M Unit} {ft : M Bool} {fe : M T} (hc : X.calm = true) (hN : X.N.Nodup) (hv : ∀ i ∈ own.map (·.2), C.cv i = true ∧ C.pin i = none) (his : ∀ i ∈ is, i ∈ own.map (·.2)) (hq : Quiet g)
    (hi : PI X tg iter (rdI C W fi)) (ok : BlkOk X.N X.env.scope scope own)
    (hg : ∀ (s : Shared) (H : Hp) (c : Addr) (cl : List (Str × Addr)) (fp : List Addr), PG (X.blk s H scope (compEnvC scope cl c X.env) fp) tg (rdG C is g)) (ht : ∀ (s : Shared) (H : Hp) (c : Addr) (cl : List (Str × Addr)) (fp : List Addr), PTs (X.blk s H scope (compEnvC scope cl c X.env) fp) ifs (rdT C W0 ft))
    (he : ∀ (s : Shared) (H : Hp) (c : Addr) (cl : List (Str × Addr)) (fp : List Addr), PE (X.blk s H scope (compEnvC scope cl c X.env) fp) elt (rd C W0 fe)) (hs : ∀ x, foldedSetIterable iter X.env x = pure x := by intro _; rfl) :
    PE X (.ListComp elt [⟨tg, iter, ifs, 0⟩] scope pos) (rd C W (compM (own.map (·.2)) fi g ft fe)) := pe_sub (pe_lc hc hN hi ok hg ht he hs) fun σ H Q q => lc_rd hv his hq q
theorem ds_setComp {i : Nat} {y : Str} {py : Pos} {elt tg iter : Expr} {ifs : List Expr} {scope : Scope} {own : List (Str × Nat)} {pos spos : Pos} {is : List Nat} {fi : M (List D)} {g : D → M Unit} {ft : M Bool} {fe : M T} (hp : C.pin i = none) (hc : X.calm = true) (hN : X.N.Nodup) (hy : X.N[i]? = some y) (hyl : X.env.scope.names.lookup y = some .local)
    (hsw : swapsWith (.ListComp elt [⟨tg, iter, ifs, 0⟩] scope pos) (some (.Name y py)) spos.line X.env = pure true) (hv : ∀ i ∈ own.map (·.2), C.cv i = true ∧ C.pin i = none) (his : ∀ i ∈ is, i ∈ own.map (·.2)) (hq : Quiet g) (hi : PI X tg iter (rdI C W fi)) (ok : BlkOk X.N X.env.scope scope own)
    (hg : ∀ (s : Shared) (H : Hp) (c : Addr) (cl : List (Str × Addr)) (fp : List Addr), PG (X.blk s H scope (compEnvC scope cl c X.env) fp) tg (rdG C is g)) (ht : ∀ (s : Shared) (H : Hp) (c : Addr) (cl : List (Str × Addr)) (fp : List Addr), PTs (X.blk s H scope (compEnvC scope cl c X.env) fp) ifs (rdT C W0 ft))
    (he : ∀ (s : Shared) (H : Hp) (c : Addr) (cl : List (Str × Addr)) (fp : List Addr), PE (X.blk s H scope (compEnvC scope cl c X.env) fp) elt (rd C W0 fe)) (hs : ∀ x, foldedSetIterable iter X.env x = pure x := by intro _; rfl) :
    PS X (.Assign [.Name y py] (.ListComp elt [⟨tg, iter, ifs, 0⟩] scope pos) spos) (rdS C W (setM i (compM (own.map (·.2)) fi g ft fe))) := ps_sub (ps_setLc hc hN hy hyl hsw hi ok hg ht he hs) fun D σ H ⟨Γ, τ, n, R, w⟩ => by
  refine lc_rd hv his hq (rdS_bind R w fun t Γ1 v H1 R1 w1 => ?_)
  obtain ⟨t', Γ2, na, R2, w2⟩ := R1.settle (Out.wp_bind w1)
  exact w2 _ _ (R2.store na hp (fun p hp' => n p hp' i))
end
end DL
/-! own defs: promises by meanings, calls -/
namespace DL
open PySem L2

abbrev FSem := List T → Out T
section
variable (K : PySem.W.Frag) (cl : Cl)
/-- the first parameter handed by reference (ref), the others as data -/
def ArgsOk (F H : Hp) (S : Addr → Prop) (ref : Bool) (vs : List V) (ts : List T) : Prop := match ref with
  | true => ∃ v0 vr t0 dr, vs = v0 :: vr ∧ ts = t0 :: dr.map T.fz ∧ OwT K cl F H S v0 t0 ∧ Dts K cl F vr dr
  | false => ∃ ds, ts = ds.map T.fz ∧ Dts K cl F vs ds
structure After (cl : Cl) (F H : Hp) (S : Addr → Prop) (F' H' : Hp) (S0 Sr : Addr → Prop) : Prop where
  sub : Sub F F'
  ex : Sub F' H'
  new : ∀ a o, F' a = some o → F a = some o ∨ H a = none ∨ S a ∨ Ex0 o
  frame : ∀ a o, H a = some o → ¬ S a → ∃ o', H' a = some o' ∧ (NT o → o' = o)
  own : ∀ a, S0 a ∨ Sr a → F' a = none ∧ (∃ o, H' a = some o ∧ NX o) ∧ (S a ∨ H a = none)
  apart : ∀ a, S0 a → Sr a → False
  tabs : LamX.Tabs cl.T H'
  ft : ∀ a o, F' a = some o → NT o
def Back (F' H' : Hp) (S0 : Addr → Prop) (ref : Bool) (vs : List V) (Γ' : Env) : Prop := ref = true → ∀ v0 vr t0, vs = v0 :: vr → Γ'[0]? = some (some t0) → OwT K cl F' H' S0 v0 t0
def XOk' (F H : Hp) (cls : Value) (d : Option Addr) (x : Exn) : Prop :=
  ∃ Ca dd fs, cls = .ref Ca ∧ cl x.cls = some Ca ∧ d = some dd ∧ H dd = some (.xd fs) ∧ fs.map (·.1) = x.fds.map (·.1) ∧ Dts K cl F (fs.map (·.2)) (x.fds.map (·.2))
def spOf (n : Nat) (ref : Bool) (f : FSem) : Sp := fun vs H Q E => vs.length = n ∧ ∃ (F : Hp) (S : Addr → Prop) (ts : List T), Sub F H ∧ (LamX.Tabs cl.T H ∧ ∀ a o, F a = some o → NT o) ∧ (∀ a, S a → F a = none ∧ ∃ o, H a = some o ∧ NX o) ∧ (ref = false → ∀ a, ¬ S a) ∧ ArgsOk K cl F H S ref vs ts ∧
  (f ts).Wp (fun t Γ' => (∀ i, t ≠ .al i) ∧ ∀ v H' F' S0 Sr, After cl F H S F' H' S0 Sr → OwT K cl F' H' Sr v t → Back K cl F' H' S0 ref vs Γ' → Q v H')
    (fun x Γ' => ∀ cls d H' F' S0, After cl F H S F' H' S0 (fun _ => False) → Back K cl F' H' S0 ref vs Γ' → XOk' K cl F' H' cls d x → E cls d H')
end
def initE (n : Nat) (ts : List T) : Env := ts.map some ++ List.replicate (n - ts.length) none
/-- what a body means as a def of n names -/
def callF (n : Nat) (den : M Flow) : FSem := fun ts => match den (initE n ts) with
  | .ok (.ret t) Γ' => .ok t Γ'
  | .ok .next Γ' => .ok (.fz .non) Γ'
  | .exc x Γ' => .exc x Γ'
  | _ => .bad
abbrev WE' (E : XK) : WX := fun cls d _ H => E cls d H
def refPin (ref : Bool) (vs : List V) : Nat → Option V := fun i => if ref && i == 0 then vs[0]? else none
/-- a body's run from its promise's beginning to its end -/
theorem body_ok {K : PySem.W.Frag} {cl : Cl} {X : Cx} {body : List Stmt} {n k : Nat} {ref : Bool} {den : M Flow} {cv : Nat → Bool} {N : List Str} {vs : List V} {H : Hp} {Q : VK} {E : XK} (hN : N.length = n) (hkn : k ≤ n)
    (hb : ∀ H0 F0 mu, PSs X body (rdS ⟨K, cl, H0, F0, mu, refPin ref vs, cv⟩ (WE' E) den)) (h : spOf K cl k ref (callF n den) vs H Q E) :
    ∃ t, PSs X body t ∧ t { nx := fun _ H' => Q .non H', rt := Q } (start N vs) H := by
  obtain ⟨hk, F, S, ts, hF, hTF, hS, hns, ha, w⟩ := h
  classical
  refine ⟨_, hb H F S, initE n ts, [], (fun p hp => (by cases hp)), ?_, ?_⟩
  · have hlen : vs.length = ts.length := by
      cases ref with
      | true =>
        obtain ⟨v0, vr, t0, dr, rfl, rfl, _, h2⟩ := ha
        simp [h2.length]
      | false =>
        obtain ⟨ds, rfl, h2⟩ := ha
        simp [h2.length]
    have hget : ∀ i t, (initE n ts)[i]? = some (some t) → ts[i]? = some t := fun i t e => by
      unfold initE at e
      by_cases hi : i < ts.length
      · rw [List.getElem?_append_left (by simpa using hi), List.getElem?_map] at e
        cases q : ts[i]? with
        | none => rw [q] at e; cases e
        | some u => rw [q] at e; cases e; rfl
      · rw [List.getElem?_append_right (by simpa using hi)] at e
        rw [List.getElem?_replicate] at e
        split at e <;> cases e
    have hst : ∀ (i : Nat) v, vs[i]? = some v → (start N vs)[i]? = some (some v) := fun i v e => by
      unfold L2.start
      have hi : i < vs.length := (List.getElem?_eq_some_iff.mp e).1
      rw [List.getElem?_append_left (by simpa using hi), List.getElem?_map, e]
      rfl
    refine ⟨F, fun a => if S a then some (.inl 0) else none, hF, Sub.refl F, fun a o e => .inl e, fun a o e _ => ⟨o, e, fun _ => rfl⟩, fun a r e => ?_, fun a r e => ?_, fun a r e => ?_, fun i t e => ?_, trivial, fun i v e => ?_, ?_, hTF.1, hTF.2⟩
    · by_cases hs : S a
      · exact (hS a hs).1
      · rw [if_neg hs] at e; cases e
    · by_cases hs : S a
      · exact (hS a hs).2
      · rw [if_neg hs] at e; cases e
    · by_cases hs : S a
      · exact .inl hs
      · rw [if_neg hs] at e; cases e
    · have et := hget i t e
      cases ref with
      | true =>
        obtain ⟨v0, vr, t0, dr, rfl, rfl, h1, h2⟩ := ha
        cases i with
        | zero =>
          have e1 : t0 = t := by simpa using et
          subst e1
          refine ⟨v0, hst 0 v0 rfl, h1.keep (Sub.refl F) (fun _ _ _ q => q) (fun a q => ?_)⟩
          show (if S a then some (Sum.inl 0) else none) = some (Sum.inl 0)
          rw [if_pos q]
        | succ i =>
          rw [List.getElem?_cons_succ, List.getElem?_map] at et
          cases q : dr[i]? with
          | none => rw [q] at et; cases et
          | some d =>
            rw [q] at et
            cases et
            obtain ⟨v, e1, e2⟩ := h2.get q
            exact ⟨v, hst (i + 1) v e1, .fz e2⟩
      | false =>
        obtain ⟨ds, rfl, h2⟩ := ha
        rw [List.getElem?_map] at et
        cases q : ds[i]? with
        | none => rw [q] at et; cases et
        | some d =>
          rw [q] at et
          cases et
          obtain ⟨v, e1, e2⟩ := h2.get q
          exact ⟨v, hst i v e1, .fz e2⟩
    · have e' : (if ref && i == 0 then vs[0]? else none) = some v := e
      split at e'
      · rename_i hc
        have hi : i = 0 := by
          rw [Bool.and_eq_true] at hc
          simpa using hc.2
        subst hi
        exact hst 0 v e'
      · cases e'
    · unfold L2.start initE
      simp [hlen, hN]
  · have key : ∀ {t : T} {Γ' : Env} {v : V} {σ' : St} {H' : Hp}, (∀ i, t ≠ .al i) → Rel ⟨K, cl, H, F, S, refPin ref vs, cv⟩ σ' H' Γ' [(v, t)] → ∃ F' S0 Sr, After cl F H S F' H' S0 Sr ∧ OwT K cl F' H' Sr v t ∧ Back K cl F' H' S0 ref vs Γ' := by
      intro t Γ' v σ' H' na R
      obtain ⟨F', ow, R⟩ := R
      refine ⟨F', fun a => ow a = some (.inl 0), fun a => ow a = some (.inr 0), ⟨R.old, R.ex, fun a o e => R.new a o e, R.frame, fun a h => ?_, fun a h1 h2 => (by rw [h1] at h2; cases h2), R.tabs, R.ft⟩, R.temps.1.own na, fun hr v0 vr t0 e0 e1 => ?_⟩
      · rcases h with h | h
        · exact ⟨R.ownF a _ h, R.ownH a _ h, R.ownN a _ h⟩
        · exact ⟨R.ownF a _ h, R.ownH a _ h, R.ownN a _ h⟩
      · obtain ⟨w0, h1, h2⟩ := R.slots 0 t0 e1
        have hp : refPin ref vs 0 = some v0 := by
          unfold refPin
          rw [hr, e0]
          rfl
        have h3 := R.pins 0 v0 hp
        rw [h1] at h3
        cases h3
        exact h2
    have w' : (match den (initE n ts) with | .ok (.ret t) Γ' => Out.ok t Γ' | .ok .next Γ' => .ok (.fz .non) Γ' | .exc x Γ' => .exc x Γ' | _ => .bad).Wp _ _ := w
    cases e : den (initE n ts) with
    | ok fl Γ' =>
      rw [e] at w'
      cases fl with
      | next =>
        intro σ' H' R
        obtain ⟨F', S0, Sr, h1, h2, h3⟩ := key (fun _ z => by cases z) (R.scal .non)
        exact w'.2 _ _ _ _ _ h1 h2 h3
      | ret t =>
        refine ⟨w'.1, fun v σ' H' R => ?_⟩
        obtain ⟨F', S0, Sr, h1, h2, h3⟩ := key w'.1 R
        exact w'.2 _ _ _ _ _ h1 h2 h3
      | brk => exact w'.elim
      | cont => exact w'.elim
    | exc x Γ' =>
      rw [e] at w'
      intro cls d σ' H' RX
      obtain ⟨F', ow, R, Ca, dd, fs, x1, x2, x3, x4, x5, x6⟩ := RX
      refine w' cls d H' F' (fun a => ow a = some (.inl 0)) ⟨R.old, R.ex, fun a o e => R.new a o e, R.frame, fun a h => ?_, fun a h1 h2 => h2.elim, R.tabs, R.ft⟩ (fun hr v0 vr t0 e0 e1 => ?_) ⟨Ca, dd, fs, x1, x2, x3, x4, x5, x6⟩
      · rcases h with h | h
        · exact ⟨R.ownF a _ h, R.ownH a _ h, R.ownN a _ h⟩
        · exact h.elim
      · obtain ⟨w0, h1, h2⟩ := R.slots 0 t0 e1
        have hp : refPin ref vs 0 = some v0 := by
          unfold refPin
          rw [hr, e0]
          rfl
        have h3 := R.pins 0 v0 hp
        rw [h1] at h3
        cases h3
        exact h2
    | bad =>
      rw [e] at w'
      exact w'.elim

/-! ### calls of such defs -/
def D.scal : D → Bool
  | .non => true
  | .bl _ => true
  | .int _ => true
  | .str _ => true
  | _ => false
def T.isAl : T → Bool
  | .al _ => true
  | _ => false
def T.scal : T → Bool
  | .fz d => d.scal
  | _ => false
theorem Dt.scal {K : PySem.W.Frag} {cl : Cl} {F : Hp} {v : V} {d : D} (h : Dt K cl F v d) (e : d.scal = true) : Dt K cl emp v d := by
  cases h with
  | non => exact .non
  | bl b => exact .bl b
  | int i => exact .int i
  | str s => exact .str s
  | _ => cases e
theorem Dts.scal {K : PySem.W.Frag} {cl : Cl} {F : Hp} : ∀ {vs : List V} {ds : List D}, Dts K cl F vs ds → ds.all D.scal = true → Dts K cl emp vs ds
  | _, _, .nil, _ => .nil
  | _, _, .cons h hs, e => by
    rw [List.all_cons, Bool.and_eq_true] at e
    exact .cons (h.scal e.1) (Dts.scal hs e.2)
/-- what is data all through; aliases are lent, where the answer is of no heap's -/
def call0 (f : FSem) (fa : M (List T)) : M T := bindM fa fun ts => bindM (looksM ts) fun ds => fun Γ => match f (ds.map T.fz) with
  | .ok t _ => if !t.isAl && ((T.fzs ts).isSome || t.scal) then .ok t Γ else .bad
  | .exc x _ => if (T.fzs ts).isSome || x.fds.all (fun p => p.2.scal) then .exc x Γ else .bad
  | .bad => .bad
theorem T.notAl {t : T} (h : (!t.isAl) = true) : ∀ i, t ≠ .al i := fun i e => by
  subst e
  cases h
theorem argsM_len : ∀ {fs : List (M T)} {Γ : Env} {ts : List T} {Γ' : Env}, argsM fs Γ = .ok ts Γ' → ts.length = fs.length
  | [], Γ, ts, Γ', h => by
    cases h
    rfl
  | f :: fs, Γ, ts, Γ', h => by
    have h' : (f Γ).bind (fun t => bindM (argsM fs) fun ts => retM (t :: ts)) = .ok ts Γ' := h
    cases e : f Γ with
    | ok t Γ1 =>
      rw [e] at h'
      have h2 : (argsM fs Γ1).bind (fun ts => retM (t :: ts)) = .ok ts Γ' := h'
      cases e2 : argsM fs Γ1 with
      | ok us Γ2 =>
        rw [e2] at h2
        cases h2
        exact congrArg (· + 1) (argsM_len e2)
      | exc x Γ2 => rw [e2] at h2; cases h2
      | bad => rw [e2] at h2; cases h2
    | exc x Γ1 => rw [e] at h'; cases h'
    | bad => rw [e] at h'; cases h'
section
variable {X : Cx} {C : Cc} {W : WX}
theorem Rl.callee {σ : St} {H H' F F' : Hp} {Γ : Env} {τ : Hand} {ow : Addr → Option Root} {S0 Sr : Addr → Prop} {v : V} {t : T} (R : Rl C σ H Γ τ F ow) (A : After C.cl F H (fun _ => False) F' H' S0 Sr) (na : ∀ i, t ≠ .al i) (h : OwT C.K C.cl F' H' Sr v t) : Rel C σ H' Γ ((v, t) :: τ) := by
  classical
  have R1 : Rl C σ H' Γ τ F' ow := R.growX (fun a o e => A.frame a o e id) A.sub A.ex (fun a o e => by
    rcases A.new a o e with z | z | z | z
    · exact .inl z
    · exact .inr (.inl z)
    · exact z.elim
    · exact .inr (.inr z)) A.tabs A.ft
  have hfresh : ∀ a, Sr a → H a = none := fun a s => by
    rcases (A.own a (.inr s)).2.2 with z | z
    · exact z.elim
    · exact z
  have hno : ∀ a, Sr a → ow a = none := fun a s => R.noOwn (hfresh a s)
  have hne : ∀ a r, ow a = some r → ¬ Sr a := fun a r e s => by
    rw [hno a s] at e
    cases e
  refine ⟨F', fun a => if Sr a then some (.inr τ.length) else ow a, R1.ex, R1.old, R1.new, R1.frame, fun a r e => ?_, fun a r e => ?_, fun a r e => ?_, fun i t' e => ?_, ⟨TempOk.of (h.keep (Sub.refl F') (fun _ _ _ q => q) (fun a q => if_pos q)), ?_⟩, R1.pins, R1.len, R1.tabs, R1.ft⟩
  · by_cases s : Sr a
    · exact (A.own a (.inr s)).1
    · rw [if_neg s] at e
      exact R1.ownF a r e
  · by_cases s : Sr a
    · exact (A.own a (.inr s)).2.1
    · rw [if_neg s] at e
      exact R1.ownH a r e
  · by_cases s : Sr a
    · exact R.freshN (hfresh a s)
    · rw [if_neg s] at e
      exact R1.ownN a r e
  · obtain ⟨w, h1, h2⟩ := R1.slots i t' e
    refine ⟨w, h1, h2.keep (Sub.refl F') (fun _ _ _ q => q) (fun a q => ?_)⟩
    show (if Sr a then some (Sum.inr τ.length) else ow a) = some (.inl i)
    rw [if_neg (hne a _ q)]
    exact q
  · refine R1.temps.keep (Sub.refl F') (fun _ _ _ _ _ q => q) (fun a j hj q => ?_)
    show (if Sr a then some (Sum.inr τ.length) else ow a) = some (.inr j)
    rw [if_neg (hne a _ q)]
    exact q
theorem Rl.calleeX {σ : St} {H H' F F' : Hp} {Γ : Env} {τ : Hand} {ow : Addr → Option Root} {S0 Sr : Addr → Prop} (R : Rl C σ H Γ τ F ow) (A : After C.cl F H (fun _ => False) F' H' S0 Sr) : Rl C σ H' Γ τ F' ow := R.growX (fun a o e => A.frame a o e id) A.sub A.ex (fun a o e => by
  rcases A.new a o e with z | z | z | z
  · exact .inl z
  · exact .inr (.inl z)
  · exact z.elim
  · exact .inr (.inr z)) A.tabs A.ft
/-- the call itself, from what is in hand -/
theorem call_go {n : Nat} {f : FSem} {σ : St} {H : Hp} {Γ : Env} {τ : Hand} {ts : List T} {vs : List V} {Q : VK} (hn : vs.length = n) (hl : vs.length = ts.length) (R : Rel C σ H Γ ((vs.zip ts).reverse ++ τ))
    (w : (bindM (looksM ts) (fun ds => fun Γ => match f (ds.map T.fz) with
      | .ok t _ => if !t.isAl && ((T.fzs ts).isSome || t.scal) then Out.ok t Γ else .bad
      | .exc x _ => if (T.fzs ts).isSome || x.fds.all (fun p => p.2.scal) then .exc x Γ else .bad
      | .bad => .bad) Γ).Wp (fun t Γ' => ∀ v H', Rel C σ H' Γ' ((v, t) :: τ) → Q v H') (wx C W σ τ)) :
    spOf C.K C.cl n false f vs H Q (fun cls d H' => W cls d σ H') := by
  obtain ⟨ds, e1, w2⟩ := wp_looksM (Out.wp_bind w)
  obtain ⟨F, ow, R⟩ := R
  refine ⟨hn, ?_⟩
  cases e2 : T.fzs ts with
  | some ds' =>
    have hd := R.hands hl e2
    have ed : ds' = ds := by
      have e3 := T.fzs_eq e2
      subst e3
      have go : ∀ (es : List D), looks Γ (es.map T.fz) = some es := by
        intro es
        induction es with
        | nil => rfl
        | cons d es ih =>
          show (match look Γ (T.fz d), looks Γ (es.map T.fz) with | some d, some ds => some (d :: ds) | _, _ => none) = _
          rw [ih]
          rfl
      rw [go ds'] at e1
      exact Option.some.inj e1
    subst ed
    refine ⟨F, fun _ => False, ds'.map T.fz, R.ex, ⟨R.tabs, R.ft⟩, fun a z => z.elim, fun _ a z => z, ⟨ds', rfl, hd⟩, ?_⟩
    simp only [e2, Option.isSome_some, Bool.true_or, Bool.and_true, if_true] at w2
    cases e3 : f (ds'.map T.fz) with
    | ok t Γ' =>
      simp only [e3] at w2
      split at w2
      · rename_i hs
        exact ⟨T.notAl hs, fun v H' F' S0 Sr A h _ => w2 v H' (R.drop.callee A (T.notAl hs) h)⟩
      · exact w2.elim
    | exc x Γ' =>
      simp only [e3] at w2
      refine fun cls d H' F' S0 A _ hx => w2 cls d H' ⟨F', ow, R.drop.calleeX A, hx⟩
    | bad => simp only [e3] at w2; exact w2.elim
  | none =>
    have hd : Dts C.K C.cl (nts H) vs ds := (R.looks hl e1).nts
    refine ⟨nts H, fun _ => False, ds.map T.fz, nts_sub, ⟨R.tabs, fun a o e => nts_nt e⟩, fun a z => z.elim, fun _ a z => z, ⟨ds, rfl, hd⟩, ?_⟩
    simp only [e2, Option.isSome_none, Bool.false_or] at w2
    cases e3 : f (ds.map T.fz) with
    | ok t Γ' =>
      simp only [e3] at w2
      split at w2
      · rename_i hs
        rw [Bool.and_eq_true] at hs
        refine ⟨T.notAl hs.1, fun v H' F' S0 Sr A h _ => ?_⟩
        refine w2 v H' ?_
        cases t with
        | fz d =>
          cases h with
          | fz h =>
            have R1 : Rl C σ H' Γ τ F ow := R.drop.growX (fun a o e => A.frame a o e id) (Sub.refl F) (fun a o e => Ext.nt (fun a o e => A.frame a o e id) (R.ex a o e) (R.ft a o e)) (fun a o e => .inl e) A.tabs R.ft
            exact Rel.scal ⟨F, ow, R1⟩ (h.scal hs.2)
        | _ => cases hs.2
      · exact w2.elim
    | exc x Γ' =>
      simp only [e3] at w2
      refine fun cls d H' F' S0 A _ hx => ?_
      split at w2
      · rename_i hs
        have R1 : Rl C σ H' Γ τ F ow := R.drop.growX (fun a o e => A.frame a o e id) (Sub.refl F) (fun a o e => Ext.nt (fun a o e => A.frame a o e id) (R.ex a o e) (R.ft a o e)) (fun a o e => .inl e) A.tabs R.ft
        obtain ⟨Ca, dd, fs, x1, x2, x3, x4, x5, x6⟩ := hx
        refine w2 cls d H' ⟨F, ow, R1, Ca, dd, fs, x1, x2, x3, x4, x5, (x6.scal ?_).mono (sub_emp F)⟩
        rw [List.all_map]
        exact hs
      · exact w2.elim
    | bad => simp only [e3] at w2; exact w2.elim
theorem de_call {k n : Nat} {f : Addr} {fd : FuncData} {ps : List Str} {fs : FSem} {x : Str} {e : Expr} {es : List Expr} {fa : M (List T)} {p pos : Pos} (hK : C.K = X.K) (tk : Takes X W) (G : FnOk X.prog X.w X.K X.mg X.base (L2.CX X.prog X.w) k f fd ps (spOf C.K C.cl n false fs))
    (hr : Room k X.A) (hg : Gl X x) (hm : X.mg x = some (.ref f)) (hk : PySem.W.keepIn X.K (.ref f) = true) (hb : Binds X.K fd ps []) (ha : PA X (e :: es) (rdA C W fa)) (hfa : ∀ Γ ts Γ', fa Γ = .ok ts Γ' → ts.length = n)
    (hdb : (x == ("__debug__" : Str)) = false := by decide) (he : starEach (e :: es) X.env = (false, eval e X.env) :: starEach es X.env := by rfl) (hpl : (backTo pos (starEach es X.env)).any (·.1) = false := by rfl) : PE X (.Call (.Name x p) (e :: es) [] pos) (rd C W (call0 fs fa)) :=
  pe_sub (pe_callSD (E := fun σ cls d H => W cls d σ H) G hr hg hm hk hb .nil (fun σ => passAt tk σ) ha hdb he hpl) fun σ H Q ⟨Γ, τ, R, w⟩ => by
    refine ⟨Γ, τ, R, ?_⟩
    have w1 := Out.wp_bind w
    cases q : fa Γ with
    | ok ts Γ1 =>
      rw [q] at w1
      intro vs H1 hl R1
      rw [List.append_nil]
      exact call_go (hl.trans (hfa _ _ _ q)) hl R1 w1
    | exc x' Γ1 => rw [q] at w1; exact w1
    | bad => rw [q] at w1; exact w1
end
end DL
/-! what is changed in place; calls by reference -/
namespace DL
open PySem L2

section
variable {C : Cc} {W : WX} {σ : St} {H F : Hp} {Γ : Env} {τ : Hand} {ow : Addr → Option Root} {v : V} {t t' : T} {i : Nat} {a : Addr} {o : HO}
/-- the object at a, of slot i's tree, is changed -/
theorem Rl.mutSlotO {u : HO} (R : Rl C σ H Γ τ F ow) (ha : ow a = some (.inl i)) (hu : H a = some u) (hm' : Obm u) (hno : NX o) (hs : ∃ v, σ[i]? = some (some v) ∧ OwT C.K C.cl F (upd H a o) (fun b => ow b = some (.inl i)) v t') : Rl C σ (upd H a o) (Γ.set i (some t')) τ F ow := by
  have hDF : F a = none := R.ownF a _ ha
  have fr : ∀ b u, b ≠ a → H b = some u → upd H a o b = some u := fun b u n h => by
    rw [upd_ne n]
    exact h
  have nF : ∀ b u, F b = some u → b ≠ a := fun b u e z => by
    subst z
    rw [hDF] at e
    cases e
  refine ⟨fun b u q => fr b u (nF b u q) (R.ex b u q), R.old, R.new, fun b u q hm => ?_, R.ownF, fun b r q => ?_, R.ownN, fun j t2 q => ?_, ?_, R.pins, by simpa using R.len, tabs_updO R.tabs hu hm', R.ft⟩
  · obtain ⟨u', e1, e2⟩ := R.frame b u q hm
    refine ⟨u', fr b u' (fun z => ?_) e1, e2⟩
    subst z
    rcases R.ownN b _ ha with z | z
    · exact hm z
    · rw [z] at q
      cases q
  · by_cases h : b = a
    · subst h
      exact ⟨_, upd_same, hno⟩
    · obtain ⟨u, hu, n⟩ := R.ownH b r q
      exact ⟨u, fr b u h hu, n⟩
  · by_cases hj : i = j
    · subst hj
      have hlt : i < Γ.length := by
        have := (List.getElem?_eq_some_iff.mp q).1
        simpa using this
      rw [List.getElem?_set_self hlt] at q
      cases q
      exact hs
    · rw [List.getElem?_set_ne hj] at q
      obtain ⟨w, g1, g2⟩ := R.slots j t2 q
      refine ⟨w, g1, g2.keep (Sub.refl F) (fun b u s z => fr b u (fun z' => ?_) z) (fun _ z => z)⟩
      subst z'
      have s' : ow b = some (.inl j) := s
      rw [ha] at s'
      cases s'
      exact hj rfl
  · refine R.temps.keep (Sub.refl F) (fun b u j _ s z => fr b u (fun z' => ?_) z) (fun _ _ _ z => z)
    subst z'
    rw [ha] at s
    cases s
theorem Rl.mutSlot {vs ws : List V} (R : Rl C σ H Γ τ F ow) (ha : ow a = some (.inl i)) (hu : H a = some (.lst vs)) (hs : ∃ v, σ[i]? = some (some v) ∧ OwT C.K C.cl F (upd H a (.lst ws)) (fun b => ow b = some (.inl i)) v t') : Rl C σ (upd H a (.lst ws)) (Γ.set i (some t')) τ F ow :=
  R.mutSlotO ha hu trivial nx_lst hs
/-- slot i's list -/
theorem Rl.slotList {ts : List T} (R : Rl C σ H Γ τ F ow) (hi : Γ[i]? = some (some (.ol ts))) : ∃ (a : Addr) (vs : List V) (sub : Addr → Option Nat), σ[i]? = some (some (.ref a)) ∧ H a = some (.lst vs) ∧ vs.length ≤ sizeLine ∧ ow a = some (.inl i) ∧ OwTs C.K C.cl F H (fun j b => ow b = some (.inl i) ∧ b ≠ a ∧ sub b = some j) 0 vs ts := by
  obtain ⟨v, h1, h2⟩ := R.slots i _ hi
  cases h2 with
  | ol sub g1 g2 g3 g4 => exact ⟨_, _, sub, h1, g1, g2, g3, g4⟩
end

/-! ### x.append(e), x.pop(..), x[k] = e of an owned list -/
def appendT (o t : T) : M T := match o, t with
  | .al i, .fz d => fun Γ => match Γ[i]? with
    | some (some (.ol ts)) => if ts.length < sizeLine then .ok (.fz .non) (Γ.set i (some (.ol (ts ++ [.fz d])))) else .bad
    | _ => .bad
  | _, _ => fun _ => .bad
/-- what is in hand is an owned list's name -/
def olM (o : T) : M Unit := match o with
  | .al i => fun Γ => match Γ[i]? with
    | some (some (.ol _)) => .ok () Γ
    | _ => .bad
  | _ => fun _ => .bad
def appendM (fo fe : M T) : M T := bindM fo fun o => bindM (olM o) fun _ => bindM (frozen fe) fun t => appendT o t
def popAtT (o : T) (k : D) : M T := match o, k with
  | .al i, .int k => fun Γ => match Γ[i]? with
    | some (some (.ol ts)) => match ixN ts.length k with
      | some j => match ts[j]? with
        | some (.fz d) => .ok (.fz d) (Γ.set i (some (.ol (ts.eraseIdx j))))
        | _ => .bad
      | none => .bad
    | _ => .bad
  | _, _ => fun _ => .bad
def popAtM (fo fk : M T) : M T := bindM fo fun o => bindM (olM o) fun _ => bindM fk fun t => bindM (lookM t) fun k => popAtT o k
def popT (o : T) : M T := match o with
  | .al i => fun Γ => match Γ[i]? with
    | some (some (.ol ts)) => match ts[ts.length - 1]? with
      | some (.fz d) => .ok (.fz d) (Γ.set i (some (.ol ts.dropLast)))
      | _ => .bad
    | _ => .bad
  | _ => fun _ => .bad
def popM (fo : M T) : M T := bindM fo fun o => popT o
def clearT (o : T) : M T := match o with
  | .al i => fun Γ => match Γ[i]? with
    | some (some (.ol ts)) => .ok (.fz .non) (Γ.set i (some (.ol [])))
    | _ => .bad
  | _ => fun _ => .bad
def clearM (fo : M T) : M T := bindM fo fun o => clearT o
section
variable {X : Cx} {C : Cc} {W : WX}
theorem ol_frz {K : PySem.W.Frag} {cl : Cl} {F H H' : Hp} {S : Addr → Prop} {a : Addr} {vs : List V} {ts : List T} {sub : Addr → Option Nat} (k : ∀ b o, S b → b ≠ a → H b = some o → H' b = some o) (h : OwTs K cl F H (fun j b => S b ∧ b ≠ a ∧ sub b = some j) 0 vs ts) : OwTs K cl F H' (fun j b => S b ∧ b ≠ a ∧ sub b = some j) 0 vs ts :=
  h.keep (Sub.refl F) (fun _ b o q z => k b o q.1 q.2.1 z) (fun _ _ q => q)
theorem OwTs.reix {K : PySem.W.Frag} {cl : Cl} {F H : Hp} : ∀ {Si Si' : Nat → Addr → Prop} {i i' : Nat} {vs : List V} {ts : List T}, (∀ k a, Si (i + k) a → Si' (i' + k) a) → OwTs K cl F H Si i vs ts → OwTs K cl F H Si' i' vs ts
  | _, _, _, _, _, _, _, .nil => .nil
  | _, _, i, i', _, _, m, .cons h hs => .cons (h.keep (Sub.refl F) (fun _ _ _ q => q) (fun a q => m 0 a q)) (OwTs.reix (fun k a q => by
      have := m (k + 1) a (by rw [show i + (k + 1) = i + 1 + k by omega]; exact q)
      rw [show i' + 1 + k = i' + (k + 1) by omega]
      exact this) hs)
theorem OwTs.erase {K : PySem.W.Frag} {cl : Cl} {F H : Hp} {S : Addr → Prop} {a : Addr} {sub : Addr → Option Nat} : ∀ {j : Nat} {vs : List V} {ts : List T}, OwTs K cl F H (fun m b => S b ∧ b ≠ a ∧ sub b = some m) 0 vs ts → j < vs.length →
    OwTs K cl F H (fun m b => S b ∧ b ≠ a ∧ ((sub b).bind fun m => if m < j then some m else some (m - 1)) = some m) 0 (vs.eraseIdx j) (ts.eraseIdx j) := by
  intro j vs ts h hj
  have go : ∀ (vs : List V) (ts : List T) (i j : Nat) (J : Nat), J = i + j → OwTs K cl F H (fun m b => S b ∧ b ≠ a ∧ sub b = some m) i vs ts → OwTs K cl F H (fun m b => S b ∧ b ≠ a ∧ ((sub b).bind fun m => if m < J then some m else some (m - 1)) = some m) i (vs.eraseIdx j) (ts.eraseIdx j) := by
    intro vs
    induction vs with
    | nil =>
      intro ts i j J eJ h
      cases h
      exact .nil
    | cons v vs ih =>
      intro ts i j J eJ h
      cases h with
      | cons h hs =>
        cases j with
        | zero =>
          refine OwTs.reix (fun k b q => ⟨q.1, q.2.1, ?_⟩) hs
          rw [q.2.2]
          show (if i + 1 + k < J then some (i + 1 + k) else some (i + 1 + k - 1)) = some (i + k)
          rw [if_neg (by omega)]
          congr 1
          omega
        | succ j =>
          refine .cons (h.keep (Sub.refl F) (fun _ _ _ q => q) (fun b q => ⟨q.1, q.2.1, ?_⟩)) (ih _ _ _ J (by omega) hs)
          rw [q.2.2]
          show (if i < J then some i else some (i - 1)) = some i
          rw [if_pos (by omega)]
  exact go vs ts 0 j j (by omega) h
theorem tyV_list {K : PySem.W.Frag} {H : Hp} {a : Addr} {vs : List V} (h : H a = some (.lst vs)) : tyV K "list" (.ref a) H := Or.inl ⟨rfl, _, SqL.of h⟩
theorem olAt {Γ : Env} {i : Nat} : (∃ ts, Γ[i]? = some (some (T.ol ts))) ∨ ∀ ts, Γ[i]? ≠ some (some (T.ol ts)) := by
  cases e : Γ[i]? with
  | none => exact .inr fun _ z => by cases z
  | some o =>
    cases o with
    | none => exact .inr fun _ z => by cases z
    | some t =>
      cases t with
      | ol ts => exact .inl ⟨ts, rfl⟩
      | _ => exact .inr fun _ z => by cases z
theorem wp_appendT {Γ : Env} {i : Nat} {d : D} {P : T → Env → Prop} {E : Exn → Env → Prop} (h : (appendT (.al i) (.fz d) Γ).Wp P E) : ∃ ts, Γ[i]? = some (some (T.ol ts)) ∧ ts.length < sizeLine ∧ P (.fz .non) (Γ.set i (some (.ol (ts ++ [.fz d])))) := by
  unfold appendT at h
  rcases olAt (Γ := Γ) (i := i) with ⟨ts, e⟩ | n
  · simp only [e] at h
    by_cases hz : ts.length < sizeLine
    · rw [if_pos hz] at h
      exact ⟨ts, e, hz, h⟩
    · rw [if_neg hz] at h
      exact h.elim
  · simp only at h
    exact h.elim
theorem wp_popAtT {Γ : Env} {i : Nat} {k : Int} {P : T → Env → Prop} {E : Exn → Env → Prop} (h : (popAtT (.al i) (.int k) Γ).Wp P E) : ∃ ts j d, Γ[i]? = some (some (T.ol ts)) ∧ ixN ts.length k = some j ∧ ts[j]? = some (T.fz d) ∧ P (.fz d) (Γ.set i (some (.ol (ts.eraseIdx j)))) := by
  unfold popAtT at h
  rcases olAt (Γ := Γ) (i := i) with ⟨ts, e⟩ | n
  · simp only [e] at h
    cases ej : ixN ts.length k with
    | none => simp only [ej] at h; exact h.elim
    | some j =>
      simp only [ej] at h
      cases ed : ts[j]? with
      | none => simp only [ed] at h; exact h.elim
      | some t =>
        cases t with
        | fz d => simp only [ed] at h; exact ⟨ts, j, d, e, ej, ed, h⟩
        | _ => simp only [ed] at h; exact h.elim
  · simp only at h
    exact h.elim
theorem wp_olM {σ : St} {H : Hp} {Γ : Env} {τ : Hand} {v : V} {o : T} {P : Unit → Env → Prop} {E : Exn → Env → Prop} (R : Rel C σ H Γ ((v, o) :: τ)) (h : (olM o Γ).Wp P E) : ∃ i a vs, o = .al i ∧ v = .ref a ∧ H a = some (.lst vs) ∧ P () Γ := by
  cases o with
  | al i =>
    unfold olM at h
    obtain ⟨F, ow, R⟩ := R
    rcases olAt (Γ := Γ) (i := i) with ⟨ts, e⟩ | n
    · simp only [e] at h
      obtain ⟨a, vs, sub, h1, h2, _⟩ := R.slotList e
      have h3 := R.temps.1.1
      rw [h1] at h3
      cases h3
      exact ⟨i, a, vs, rfl, rfl, h2, h⟩
    · simp only at h
      exact h.elim
  | _ => exact h.elim
theorem de_append {o e : Expr} {fo fe : M T} {apos pos : Pos} (hK : C.K = X.K) (ho : PE X o (rd C W fo)) (he : PE X e (rd C W fe)) (hs : starEach [e] X.env = (false, eval e X.env) :: starEach [] X.env := by rfl) (hbase : attributeBase o "append" X.env (eval o X.env) = eval o X.env := by rfl)
    (hfew : ((backTo pos (starEach [e] X.env)).all (fun x => !x.1) && (backToKw pos (keywordEach [] X.env)).all (fun x => x.1.isSome) && decide ([e].length + ([] : List Keyword).length + (if ([] : List Keyword).isEmpty then 0 else 1) < 30)) = true := by rfl)
    (hline : (apos.endLine == pos.line) = true := by rfl) : PE X (.Call (.Attribute o "append" apos) [e] [] pos) (rd C W (appendM fo fe)) := pe_sub (pe_bm PySem.F.plainAttrs_list PySem.F.slot_list_append PySem.F.type_list_append mt_append ho (pa_cons he pa_nil hs) hbase hfew hline hs rfl) fun σ H Q ⟨Γ, τ, R, w⟩ => by
  refine rd_bind R w fun t0 Γ1 v0 H1 R1 w1 => ?_
  obtain ⟨i, a, vs0, rfl, rfl, h0, w2⟩ := wp_olM R1 (Out.wp_bind w1)
  refine ⟨tyV_list h0, ?_⟩
  have w2' := wp_under (p := (V.ref a, T.al i)) w2
  refine rd_bind R1 (Out.wp_assoc w2') fun t Γ2 y H2 R2 w3 => ?_
  obtain ⟨d, Γ3, R3, w4⟩ := R2.frz (Out.wp_bind w3)
  obtain ⟨F, ow, R3⟩ := R3
  obtain ⟨ts, et, hz, w5⟩ := wp_appendT w4
  obtain ⟨a', vs, sub, h1, h2, h3, h4, h5⟩ := R3.slotList et
  have h6 := R3.temps.2.1.1
  rw [h1] at h6
  cases h6
  have hd := R3.temps.1
  cases hd with
  | fz hd =>
    have hl : vs.length = ts.length := h5.length
    refine ⟨a, vs, y, rfl, rfl, h2, by rw [hl]; exact hz, w5 _ _ (Rel.scal ⟨F, ow, ?_⟩ .non)⟩
    refine R3.pop.pop.mutSlot h4 h2 ⟨_, h1, .ol sub upd_same (by rw [List.length_append, hl]; exact hz) h4 ?_⟩
    refine OwTs.append (us := [T.fz d]) (ol_frz (fun b u _ n z => by rw [upd_ne n]; exact z) h5) (.cons (.fz hd) .nil)
theorem de_popAt {o e : Expr} {fo fe : M T} {apos pos : Pos} (ho : PE X o (rd C W fo)) (he : PE X e (rd C W fe)) (hs : starEach [e] X.env = (false, eval e X.env) :: starEach [] X.env := by rfl) (hbase : attributeBase o "pop" X.env (eval o X.env) = eval o X.env := by rfl)
    (hfew : ((backTo pos (starEach [e] X.env)).all (fun x => !x.1) && (backToKw pos (keywordEach [] X.env)).all (fun x => x.1.isSome) && decide ([e].length + ([] : List Keyword).length + (if ([] : List Keyword).isEmpty then 0 else 1) < 30)) = true := by rfl)
    (hline : (apos.endLine == pos.line) = true := by rfl) : PE X (.Call (.Attribute o "pop" apos) [e] [] pos) (rd C W (popAtM fo fe)) := pe_sub (pe_bm PySem.F.plainAttrs_list PySem.F.slot_list_pop PySem.F.type_list_pop mt_popAt ho (pa_cons he pa_nil hs) hbase hfew hline hs rfl) fun σ H Q ⟨Γ, τ, R, w⟩ => by
  refine rd_bind R w fun t0 Γ1 v0 H1 R1 w1 => ?_
  obtain ⟨i, a, vs0, rfl, rfl, h0, w2⟩ := wp_olM R1 (Out.wp_bind w1)
  refine ⟨tyV_list h0, ?_⟩
  refine rd_bind R1 (wp_under w2) fun t Γ2 y H2 R2 w3 => ?_
  obtain ⟨k, ek, w4⟩ := wp_lookM (Out.wp_bind w3)
  obtain ⟨F, ow, R2⟩ := R2
  have hk := R2.look R2.temps.1 ek
  cases k with
  | int k =>
    cases hk
    obtain ⟨ts, j, d, et, ej, ed, w5⟩ := wp_popAtT w4
    obtain ⟨a', vs, sub, h1, h2, h3, h4, h5⟩ := R2.slotList et
    have h6 := R2.temps.2.1.1
    rw [h1] at h6
    cases h6
    have hl : vs.length = ts.length := h5.length
    obtain ⟨y, e1, e2⟩ := h5.get ed
    cases e2 with
    | fz e2 =>
      obtain ⟨b1, b2, b3, b4⟩ := ixN_seq ej
      have b5 : (ts.length : Int) ≤ 16777216 := by
        have z : sizeLine = 16777216 := by decide
        rw [← hl]
        rw [z] at h3
        omega
      have R3 := R2.pop.pop.mutSlot (ws := vs.eraseIdx j) (t' := .ol (ts.eraseIdx j)) h4 h2 ⟨_, h1, .ol (fun b => (sub b).bind fun m => if m < j then some m else some (m - 1)) upd_same (Nat.le_trans (len_erase vs j) h3) h4 (OwTs.erase (ol_frz (fun b u _ n z => by rw [upd_ne n]; exact z) h5) (by rw [hl]; exact b2))⟩
      exact ⟨a, vs, k, j, y, rfl, rfl, h2, by omega, by omega, by rw [hl]; exact b1, e1, w5 _ _ ⟨F, ow, R3.push e2⟩⟩
  | _ => exact w4.elim

/-! ### x[k] = e -/
def setIxT (o : T) (k : D) (d : D) : M Unit := match o, k with
  | .al i, .int k => fun Γ => match Γ[i]? with
    | some (some (.ol ts)) => match ixN ts.length k with
      | some j => .ok () (Γ.set i (some (.ol (ts.set j (.fz d)))))
      | none => .bad
    | _ => .bad
  | _, _ => fun _ => .bad
theorem wp_setIxT {Γ : Env} {i : Nat} {k : Int} {d : D} {P : Unit → Env → Prop} {E : Exn → Env → Prop} (h : (setIxT (.al i) (.int k) d Γ).Wp P E) : ∃ ts j, Γ[i]? = some (some (T.ol ts)) ∧ ixN ts.length k = some j ∧ P () (Γ.set i (some (.ol (ts.set j (.fz d))))) := by
  unfold setIxT at h
  rcases olAt (Γ := Γ) (i := i) with ⟨ts, e⟩ | n
  · simp only [e] at h
    cases ej : ixN ts.length k with
    | none => simp only [ej] at h; exact h.elim
    | some j => simp only [ej] at h; exact ⟨ts, j, e, ej, h⟩
  · simp only at h
    exact h.elim
/-- the store of data at a place; the things that are looked up raise nothing -/
def subG (fo fk : M T) (d : D) : M Unit := noX (bindM fo fun o => bindM fk fun t => bindM (lookM t) fun k => setIxT o k d)
theorem noX_quiet {α : Type} {f : M α} {Γ Γ' : Env} {x : Exn} : noX f Γ ≠ .exc x Γ' := fun z => by
  unfold noX at z
  cases e : f Γ with
  | ok a Γ1 => rw [e] at z; cases z
  | exc y Γ1 => rw [e] at z; cases z
  | bad => rw [e] at z; cases z
theorem quiet_sub (fo fk : M T) : Quiet (subG fo fk) := fun d Γ x Γ' => noX_quiet
theorem dg_sub {o k : Expr} {fo fk : M T} {pos : Pos} (ho : PE X o (rd C W fo)) (hk : PE X k (rd C W fk))
    (ha : ∀ v, assign (.Subscript o k pos) X.env v = (do
      let ov ← holding [v] (eval o X.env)
      let iv ← holding [v, ov] (eval k X.env)
      standAt pos
      holding [v, ov, iv] (setItem ov iv v)
      release [v, ov, iv] []) := by intro _; rfl) : PG X (.Subscript o k pos) (rdG C [] (subG fo fk)) :=
  pg_sub' (pg_sub ho hk set_list ha) fun v σ H Q ⟨Γ, τ, d, na, R, w⟩ => by
    have w0 := wp_noX (E' := wx C W σ ((v, .fz d) :: τ)) w
    refine rd_bind R w0 fun o Γ1 ov H1 R1 w1 => ?_
    refine rd_bind R1 (wp_under w1) fun t Γ2 kv H2 R2 w2 => ?_
    obtain ⟨k, ek, w3⟩ := wp_lookM (Out.wp_bind w2)
    obtain ⟨F, ow, R2⟩ := R2
    have hk := R2.look R2.temps.1 ek
    cases k with
    | int k =>
      cases hk
      cases o with
      | al i =>
        obtain ⟨ts, j, et, ej, w4⟩ := wp_setIxT w3
        obtain ⟨a, vs, sub, h1, h2, h3, h4, h5⟩ := R2.slotList et
        have h6 := R2.temps.2.1.1
        rw [h1] at h6
        cases h6
        have hd := R2.temps.2.2.1
        cases hd with
        | fz hd =>
          have hl : vs.length = ts.length := h5.length
          refine ⟨a, vs, k, j, rfl, rfl, h2, by rw [hl]; exact ej, w4 _ _ (fun _ _ => rfl) rfl ⟨F, ow, ?_⟩⟩
          refine R2.pop.pop.pop.mutSlot h4 h2 ⟨_, h1, .ol sub upd_same (by rw [List.length_set]; exact h3) h4 ?_⟩
          exact OwTs.set (ol_frz (fun b u _ n z => by rw [upd_ne n]; exact z) h5) (.fz hd)
      | _ => exact w3.elim
    | _ => cases o <;> exact w3.elim
/-- target = value, any target -/
def asgM (fe : M T) (g : D → M Unit) : M Flow := bindM (fzD fe) fun d => bindM (g d) fun _ => retM .next
theorem rdS_fzD {α : Type} {f : M T} {k : D → M α} {σ : St} {H : Hp} {Γ : Env} {τ : Hand} {Q : VK} {P : α → Env → Prop} (R : Rel C σ H Γ τ) (h : (bindM (fzD f) k Γ).Wp P (wxS C W τ))
    (hq : ∀ d Γ' v H', Rel C σ H' Γ' ((v, .fz d) :: τ) → (k d Γ').Wp P (wxS C W τ) → Q v H') : rd C W f σ H Q := by
  refine ⟨Γ, τ, R, ?_⟩
  have h1 := Out.wp_bind (Out.wp_bind (Out.wp_bind h))
  refine Out.wp_mono h1 (fun t Γ1 w v H1 R1 => ?_) (fun _ _ z => wx_any z)
  obtain ⟨d, Γ2, R2, w2⟩ := R1.frz w
  exact hq d Γ2 v H1 R2 w2
theorem ds_asg {tg e : Expr} {fe : M T} {g : D → M Unit} {is : List Nat} {pos : Pos} (hq : Quiet g) (he : PE X e (rd C W fe)) (hg : PG X tg (rdG C is g)) (hs : swapsWithSole [tg] e pos.line X.env = pure false := by rfl) (hw : swappedStores [tg] e X.env = pure none := by rfl)
    (h1 : (assignEach [tg] X.env).map (·.2) = [assign tg X.env] := by rfl) : PS X (.Assign [tg] e pos) (rdS C W (asgM fe g)) := ps_sub (ps_asg he hg hs hw h1) fun D σ H ⟨Γ, τ, n, R, w⟩ => by
  refine rdS_fzD R w fun d Γ1 v H1 R1 w1 => ?_
  exact ⟨Γ1, τ, d, fun p hp i _ => n p hp i, R1, Out.wp_mono (wp_target w1 (hq d Γ1)) (fun _ Γ2 w2 σ' H' _ _ R2 => w2 σ' H' R2) (fun _ _ z => z)⟩
/-! ### several targets of any kind -/
def rdGs (C : Cc) (is : List Nat) (g : List D → M Unit) : TGs := fun vs σ H Q => ∃ Γ τ ds, vs.length = ds.length ∧ (∀ p ∈ τ, ∀ i ∈ is, p.2 ≠ .al i) ∧ Rel C σ H Γ (vs.zip (ds.map T.fz) ++ τ) ∧
  (g ds Γ).Wp (fun _ Γ' => ∀ σ' H', (∀ i, i ∉ is → σ'[i]? = σ[i]?) → σ'.length = σ.length → Rel C σ' H' Γ' τ → Q σ' H') (fun _ _ => False)
def nilG : List D → M Unit
  | [] => retM ()
  | _ :: _ => fun _ => .bad
def consG (g : D → M Unit) (gs : List D → M Unit) : List D → M Unit
  | d :: ds => bindM (g d) fun _ => gs ds
  | [] => fun _ => .bad
theorem pgs_sub' {ts : List Expr} {t t' : TGs} (h : PGs X ts t) (m : ∀ vs σ H Q, t' vs σ H Q → t vs σ H Q) : PGs X ts t' := ⟨fun pins s σ H v u Q I r q => h.run pins s σ H v u Q I r (m v σ H Q q)⟩
theorem dgs_nil : PGs X [] (rdGs C [] nilG) := pgs_sub' pgs_nil fun vs σ H Q ⟨Γ, τ, ds, hl, na, R, w⟩ => by
  cases ds with
  | nil =>
    cases vs with
    | nil => exact ⟨rfl, w σ H (fun _ _ => rfl) rfl R⟩
    | cons _ _ => cases hl
  | cons _ _ => exact w.elim
theorem zip_noAl : ∀ {vs : List V} {ds : List D} {i : Nat}, ∀ p ∈ vs.zip (ds.map T.fz), p.2 ≠ .al i
  | [], _, _, p, hp => by cases hp
  | v :: vs, [], _, p, hp => by cases hp
  | v :: vs, d :: ds, i, p, hp => by
    cases hp with
    | head => intro z; cases z
    | tail _ hp => exact zip_noAl p hp
theorem dgs_cons {e : Expr} {es : List Expr} {is is' : List Nat} {g : D → M Unit} {gs : List D → M Unit} (hq : Quiet g) (h1 : PG X e (rdG C is g)) (h2 : PGs X es (rdGs C is' gs))
    (hs : (assignEach (e :: es) X.env).map (·.2) = assign e X.env :: (assignEach es X.env).map (·.2) := by rfl) : PGs X (e :: es) (rdGs C (is ++ is') (consG g gs)) := pgs_sub' (pgs_cons h1 h2 hs) fun vs σ H Q ⟨Γ, τ, ds, hl, na, R, w⟩ => by
  cases ds with
  | nil => exact w.elim
  | cons d ds =>
    cases vs with
    | nil => cases hl
    | cons v vs =>
      refine ⟨v, vs, rfl, Γ, vs.zip (ds.map T.fz) ++ τ, d, fun p hp i hi => ?_, R, Out.wp_mono (wp_quiet (Out.wp_bind w) (hq d Γ)) (fun _ Γ1 w1 σ1 H1 e1 l1 R1 => ?_) (fun _ _ z => z)⟩
      · rcases List.mem_append.mp hp with h | h
        · exact zip_noAl p h
        · exact na p h i (List.mem_append_left _ hi)
      · refine ⟨Γ1, τ, ds, Nat.succ.inj hl, fun p hp i hi => na p hp i (List.mem_append_right _ hi), R1, Out.wp_mono w1 (fun _ Γ2 w2 σ2 H2 e2 l2 R2 => w2 σ2 H2 (fun i hi => ?_) (l2.trans l1) R2) (fun _ _ z => z)⟩
        rw [e2 i (fun z => hi (List.mem_append_right _ z)), e1 i (fun z => hi (List.mem_append_left _ z))]
theorem Rl.pushs {σ : St} {H F : Hp} {Γ : Env} {τ : Hand} {ow : Addr → Option Root} : ∀ {vs : List V} {ds : List D}, Rl C σ H Γ τ F ow → Dts C.K C.cl F vs ds → Rl C σ H Γ (vs.zip (ds.map T.fz) ++ τ) F ow
  | _, _, R, .nil => R
  | _, _, R, .cons h hs => (Rl.pushs R hs).push h
def tupGs (gs : List D → M Unit) (n : Nat) (d : D) : M Unit := match d with
  | .tup ds => if ds.length = n then gs ds else fun _ => .bad
  | _ => fun _ => .bad
def QuietS (gs : List D → M Unit) : Prop := ∀ ds Γ x Γ', gs ds Γ ≠ .exc x Γ'
theorem quiet_nil : QuietS nilG := fun ds Γ x Γ' z => by
  cases ds <;> cases z
theorem quiet_cons {g : D → M Unit} {gs : List D → M Unit} (h : Quiet g) (hs : QuietS gs) : QuietS (consG g gs) := fun ds Γ x Γ' z => by
  cases ds with
  | nil => cases z
  | cons d ds =>
    have z' : (g d Γ).bind (fun _ => gs ds) = .exc x Γ' := z
    cases e : g d Γ with
    | ok u Γ1 => rw [e] at z'; exact hs ds Γ1 x Γ' z'
    | exc y Γ1 => exact h d Γ y Γ1 e
    | bad => rw [e] at z'; cases z'
theorem quiet_tupGs {gs : List D → M Unit} {n : Nat} (hs : QuietS gs) : Quiet (tupGs gs n) := fun d Γ x Γ' z => by
  cases d with
  | tup ds =>
    unfold tupGs at z
    simp only at z
    split at z
    · exact hs ds Γ x Γ' z
    · cases z
  | _ => cases z
theorem dg_tupGs {es : List Expr} {k n : Nat} {is : List Nat} {gs : List D → M Unit} {pos : Pos} (hK : C.K = X.K) (hc : X.calm = true) (h : PGs X es (rdGs C is gs)) (hn : (assignEach es X.env).length = n := by rfl) (hst : (assignEach es X.env).findIdx? (·.1) = none := by rfl) :
    PG X (.Tuple es k pos) (rdG C is (tupGs gs n)) := pg_sub' (pg_tup hc h hn hst) fun v σ H Q ⟨Γ, τ, d, na, R, w⟩ => by
  cases d with
  | tup ds =>
    obtain ⟨F, ow, R⟩ := R
    have z := R.temps.1
    unfold tupGs at w
    simp only at w
    split at w
    · rename_i hl
      cases z with
      | fz z =>
        cases z with
        | tup g1 _ g2 => exact ⟨_, _, rfl, by rw [← hK]; exact R.ex.sqT g1, by rw [g2.length]; exact hl, Γ, τ, ds, g2.length, na, ⟨F, ow, R.pop.pushs g2⟩, w⟩
    · exact w.elim
  | _ => exact w.elim

/-! ### a call whose first argument is handed by reference -/
def joinAt (Γ' : Env) : Option T := match Γ'[0]? with
  | some o => o
  | none => none
def callRT (f : FSem) (o : T) (ds : List D) : M T := match o with
  | .al i => fun Γ => match Γ[i]? with
    | some (some t0) => match f (t0 :: ds.map T.fz) with
      | .ok t Γ' => if !t.isAl then .ok t (Γ.set i (joinAt Γ')) else .bad
      | .exc x Γ' => .exc x (Γ.set i (joinAt Γ'))
      | .bad => .bad
    | _ => .bad
  | _ => fun _ => .bad
def callR (f : FSem) (fa : M (List T)) : M T := bindM fa fun ts => match ts with
  | o :: tr => bindM (optM (T.fzs tr)) fun ds => callRT f o ds
  | [] => fun _ => .bad
theorem wp_callRT {Γ : Env} {i : Nat} {f : FSem} {ds : List D} {P : T → Env → Prop} {E : Exn → Env → Prop} (h : (callRT f (.al i) ds Γ).Wp P E) : ∃ t0, Γ[i]? = some (some t0) ∧ (f (t0 :: ds.map T.fz)).Wp (fun t Γ' => (∀ i, t ≠ .al i) ∧ P t (Γ.set i (joinAt Γ'))) (fun x Γ' => E x (Γ.set i (joinAt Γ'))) := by
  unfold callRT at h
  cases e : Γ[i]? with
  | none => simp only [e] at h; exact h.elim
  | some o =>
    cases o with
    | none => simp only [e] at h; exact h.elim
    | some t0 =>
      refine ⟨t0, rfl, ?_⟩
      simp only [e] at h
      cases q : f (t0 :: ds.map T.fz) with
      | ok t Γ' =>
        simp only [q] at h
        split at h
        · rename_i hs
          exact ⟨T.notAl hs, h⟩
        · exact h.elim
      | exc x Γ' => simp only [q] at h; exact h
      | bad => simp only [q] at h; exact h.elim
theorem frNt {H H' : Hp} {a : Addr} {o : HO} (h : ∃ u, H a = some u ∧ NX u) (z : H a = some o) (q : ∃ o', H' a = some o' ∧ (NT o → o' = o)) : H' a = some o := by
  obtain ⟨u, hu, n⟩ := h
  rw [z] at hu
  cases hu
  obtain ⟨o', e, k⟩ := q
  rw [e, k n.1]
/-- behind such a call -/
theorem Rl.calleeR {σ : St} {H H' F F' : Hp} {Γ : Env} {τ : Hand} {ow : Addr → Option Root} {i : Nat} {t0 : T} {S0 Sr : Addr → Prop} {v0 : V} {ot : Option T} (R : Rl C σ H Γ τ F ow) (hv : σ[i]? = some (some v0)) (A : After C.cl F H (fun a => ow a = some (.inl i)) F' H' S0 Sr)
    (h0 : ∀ t, ot = some t → OwT C.K C.cl F' H' S0 v0 t) : ∃ ow', Rl C σ H' (Γ.set i ot) τ F' ow' ∧ (∀ a, Sr a → ow' a = some (.inr τ.length)) ∧ True := by
  classical
  have ex : ∀ a r, ow a = some r → r ≠ .inl i → ¬ S0 a ∧ ¬ Sr a := fun a r e n => by
    have no : ∀ s : S0 a ∨ Sr a, False := fun s => by
      rcases (A.own a s).2.2 with z | z
      · have z' : ow a = some (.inl i) := z
        rw [e] at z'
        exact n (Option.some.inj z')
      · obtain ⟨o, ho, _⟩ := R.ownH a r e
        rw [z] at ho
        cases ho
    exact ⟨fun s => no (.inl s), fun s => no (.inr s)⟩
  refine ⟨fun a => if S0 a then some (.inl i) else if Sr a then some (.inr τ.length) else if ow a = some (.inl i) then none else ow a, ⟨A.ex, R.old.trans A.sub, fun a o e => ?_, fun a o e hm => ?_, fun a r e => ?_, fun a r e => ?_, fun a r e => ?_, fun j t e => ?_, ?_, R.pins, by simpa using R.len, A.tabs, A.ft⟩, fun a s => ?_, trivial⟩
  · rcases A.new a o e with z | z | z | z
    · exact R.new a o z
    · rcases R.freshN z with q | q
      · exact .inr (.inr (.inl q))
      · exact .inr (.inl q)
    · rcases R.ownN a _ z with q | q
      · exact .inr (.inr (.inl q))
      · exact .inr (.inl q)
    · exact .inr (.inr (.inr z))
  · obtain ⟨o1, e1, e2⟩ := R.frame a o e hm
    obtain ⟨o2, e3, e4⟩ := A.frame a o1 e1 (fun z => by
      rcases R.ownN a _ z with q | q
      · exact hm q
      · rw [q] at e
        cases e)
    exact ⟨o2, e3, fun n => by
      have e5 := e2 n
      subst e5
      exact e4 n⟩
  · by_cases s0 : S0 a
    · exact (A.own a (.inl s0)).1
    · by_cases sr : Sr a
      · exact (A.own a (.inr sr)).1
      · rw [if_neg s0, if_neg sr] at e
        by_cases q : ow a = some (.inl i)
        · rw [if_pos q] at e; cases e
        · rw [if_neg q] at e
          cases z : F' a with
          | none => rfl
          | some u =>
            rcases A.new a u z with y | y | y | y
            · rw [R.ownF a r e] at y; cases y
            · obtain ⟨o, ho, _⟩ := R.ownH a r e
              rw [y] at ho
              cases ho
            · exact absurd y q
            · obtain ⟨o, ho, n⟩ := R.ownH a r e
              obtain ⟨o2, e3, e4⟩ := A.frame a o ho q
              have e5 := e4 n.1
              subst e5
              rw [A.ex a u z] at e3
              cases e3
              exact absurd y n.2
  · by_cases s0 : S0 a
    · exact (A.own a (.inl s0)).2.1
    · by_cases sr : Sr a
      · exact (A.own a (.inr sr)).2.1
      · rw [if_neg s0, if_neg sr] at e
        by_cases q : ow a = some (.inl i)
        · rw [if_pos q] at e; cases e
        · rw [if_neg q] at e
          obtain ⟨o, ho, n⟩ := R.ownH a r e
          obtain ⟨o2, e3, e4⟩ := A.frame a o ho q
          have e5 := e4 n.1
          subst e5
          exact ⟨_, e3, n⟩
  · have lift : (ow a = some (.inl i) ∨ H a = none) → C.mu a ∨ C.H0 a = none := fun z => by
      rcases z with z | z
      · exact R.ownN a _ z
      · exact R.freshN z
    by_cases s0 : S0 a
    · exact lift (A.own a (.inl s0)).2.2
    · by_cases sr : Sr a
      · exact lift (A.own a (.inr sr)).2.2
      · rw [if_neg s0, if_neg sr] at e
        by_cases q : ow a = some (.inl i)
        · rw [if_pos q] at e; cases e
        · rw [if_neg q] at e
          exact R.ownN a r e
  · by_cases hj : i = j
    · subst hj
      have hlt : i < Γ.length := by
        have := (List.getElem?_eq_some_iff.mp e).1
        simpa using this
      rw [List.getElem?_set_self hlt] at e
      exact ⟨v0, hv, (h0 t (Option.some.inj e)).keep (Sub.refl F') (fun _ _ _ q => q) (fun a q => if_pos q)⟩
    · rw [List.getElem?_set_ne hj] at e
      obtain ⟨w, g1, g2⟩ := R.slots j t e
      have n : (Sum.inl j : Root) ≠ .inl i := fun z => hj (Sum.inl.inj z).symm
      refine ⟨w, g1, g2.keep A.sub (fun a o s z => frNt (R.ownH a _ s) z (A.frame a o z (fun y => ?_))) (fun a q => ?_)⟩
      · have s' : ow a = some (.inl j) := s
        rw [y] at s'
        exact n (Option.some.inj s').symm
      · have q' : ow a = some (.inl j) := q
        obtain ⟨z1, z2⟩ := ex a _ q' n
        show (if S0 a then some (Sum.inl i) else if Sr a then some (.inr τ.length) else if ow a = some (.inl i) then none else ow a) = some (.inl j)
        rw [if_neg z1, if_neg z2, if_neg (fun y => by rw [q'] at y; exact n (Option.some.inj y)), q']
  · refine R.temps.keep A.sub (fun a o j _ s z => frNt (R.ownH a _ s) z (A.frame a o z (fun y => ?_))) (fun a j hj q => ?_)
    · have y' : ow a = some (.inl i) := y
      rw [s] at y'
      cases y'
    · have n : (Sum.inr j : Root) ≠ .inl i := fun z => by cases z
      obtain ⟨z1, z2⟩ := ex a _ q n
      show (if S0 a then some (Sum.inl i) else if Sr a then some (.inr τ.length) else if ow a = some (.inl i) then none else ow a) = some (.inr j)
      rw [if_neg z1, if_neg z2, if_neg (fun y => by rw [q] at y; cases y), q]
  · show (if S0 a then some (Sum.inl i) else if Sr a then some (.inr τ.length) else if ow a = some (.inl i) then none else ow a) = some (.inr τ.length)
    rw [if_neg (fun z => A.apart a z s), if_pos s]
theorem zip_rev_cons {v : V} {o : T} {vs : List V} {ts : List T} {τ : Hand} : ((v :: vs).zip (o :: ts)).reverse ++ τ = (vs.zip ts).reverse ++ ((v, o) :: τ) := by
  rw [List.zip_cons_cons, List.reverse_cons, List.append_assoc]
  rfl
theorem de_callR {k n : Nat} {f : Addr} {fd : FuncData} {ps : List Str} {fs : FSem} {x : Str} {e : Expr} {es : List Expr} {fa : M (List T)} {p pos : Pos} (hK : C.K = X.K) (tk : Takes X W) (G : FnOk X.prog X.w X.K X.mg X.base (L2.CX X.prog X.w) k f fd ps (spOf C.K C.cl n true fs))
    (hr : Room k X.A) (hg : Gl X x) (hm : X.mg x = some (.ref f)) (hk : PySem.W.keepIn X.K (.ref f) = true) (hb : Binds X.K fd ps []) (ha : PA X (e :: es) (rdA C W fa)) (hfa : ∀ Γ ts Γ', fa Γ = .ok ts Γ' → ts.length = n)
    (hdb : (x == ("__debug__" : Str)) = false := by decide) (he : starEach (e :: es) X.env = (false, eval e X.env) :: starEach es X.env := by rfl) (hpl : (backTo pos (starEach es X.env)).any (·.1) = false := by rfl) : PE X (.Call (.Name x p) (e :: es) [] pos) (rd C W (callR fs fa)) :=
  pe_sub (pe_callSD (E := fun σ cls d H => W cls d σ H) G hr hg hm hk hb .nil (fun σ => passAt tk σ) ha hdb he hpl) fun σ H Q ⟨Γ, τ, R, w⟩ => by
    refine ⟨Γ, τ, R, ?_⟩
    have w1 := Out.wp_bind w
    cases q : fa Γ with
    | ok ts Γ1 =>
      rw [q] at w1
      intro vs H1 hl R1
      rw [List.append_nil]
      refine ⟨hl.trans (hfa _ _ _ q), ?_⟩
      cases ts with
      | nil => exact w1.elim
      | cons o tr =>
        cases vs with
        | nil => cases hl
        | cons v0 vr =>
          have w2 : (bindM (optM (T.fzs tr)) (fun ds => callRT fs o ds) Γ1).Wp _ _ := w1
          obtain ⟨ds, e1, w3⟩ := wp_optM (Out.wp_bind w2)
          cases o with
          | al i =>
            obtain ⟨t0, e2, w4⟩ := wp_callRT w3
            rw [zip_rev_cons] at R1
            obtain ⟨F, ow, R1⟩ := R1
            have hd : Dts C.K C.cl F vr ds := R1.hands (Nat.succ.inj hl) e1
            have Rt : Rl C σ H1 Γ1 ((v0, .al i) :: τ) F ow := R1.drop
            have hv : σ[i]? = some (some v0) := Rt.temps.1.1
            obtain ⟨u, g1, g2⟩ := Rt.slots i t0 e2
            rw [hv] at g1
            cases g1
            refine ⟨F, fun a => ow a = some (.inl i), t0 :: ds.map T.fz, R1.ex, ⟨R1.tabs, R1.ft⟩, fun a s => ⟨R1.ownF a _ s, R1.ownH a _ s⟩, (fun z => by cases z), ⟨v0, vr, t0, ds, rfl, rfl, g2, hd⟩, Out.wp_mono w4 (fun t Γ' w5 => ⟨w5.1, fun v H' F' S0 Sr A ho bk => ?_⟩) (fun x' Γ' w5 cls dd H' F' S0 A bk hx => ?_)⟩
            · have h0 : ∀ t, joinAt Γ' = some t → OwT C.K C.cl F' H' S0 v0 t := fun t z => by
                refine bk rfl v0 vr t rfl ?_
                unfold joinAt at z
                split at z
                · rename_i o' eo
                  rw [eo, z]
                · cases z
              obtain ⟨ow', R2, hs, _⟩ := Rt.pop.calleeR (t0 := t0) hv A h0
              exact w5.2 v H' ⟨F', ow', R2.ex, R2.old, R2.new, R2.frame, R2.ownF, R2.ownH, R2.ownN, R2.slots, ⟨TempOk.of (ho.keep (Sub.refl F') (fun _ _ _ z => z) (fun a z => hs a z)), R2.temps⟩, R2.pins, R2.len, R2.tabs, R2.ft⟩
            · have h0 : ∀ t, joinAt Γ' = some t → OwT C.K C.cl F' H' S0 v0 t := fun t z => by
                refine bk rfl v0 vr t rfl ?_
                unfold joinAt at z
                split at z
                · rename_i o' eo
                  rw [eo, z]
                · cases z
              obtain ⟨ow', R2, hs, _⟩ := Rt.pop.calleeR (t0 := t0) hv A h0
              exact w5 cls dd H' ⟨F', ow', R2, hx⟩
          | _ => exact w3.elim
    | exc x' Γ1 => rw [q] at w1; exact w1
    | bad => rw [q] at w1; exact w1
end
end DL
/-! isinstance, list(range), parallel assignment, keyword calls -/
namespace DL
open PySem L2

/-! ### isinstance -/
def D.ty : D → Option String
  | .non => some "NoneType"
  | .bl _ => some "bool"
  | .int _ => some "int"
  | .str _ => some "str"
  | .lst _ => some "list"
  | .tup _ => some "tuple"
  | .scr _ => some "list"
  | .dK _ => some "dict"
  | .dT _ => some "dict"
  | .ins _ _ => none
  | .clo _ => none
/-- the answer for a class, by types -/
def isTy (t c : String) : Bool := t == c || (t == "bool" && c == "int")
def okTy (c : String) : Bool := c == "bool" || c == "int" || c == "str" || c == "list" || c == "tuple"
theorem kit_is (t c : String) (ht : t = "NoneType" ∨ t = "bool" ∨ t = "int" ∨ t = "str" ∨ t = "list" ∨ t = "tuple" ∨ t = "dict") (hc : okTy c = true) : kitB t c = some (isTy t c) := by
  have hc' : c = "bool" ∨ c = "int" ∨ c = "str" ∨ c = "list" ∨ c = "tuple" := by
    simp only [okTy, Bool.or_eq_true, beq_iff_eq] at hc
    rcases hc with (((h | h) | h) | h) | h
    · exact .inl h
    · exact .inr (.inl h)
    · exact .inr (.inr (.inl h))
    · exact .inr (.inr (.inr (.inl h)))
    · exact .inr (.inr (.inr (.inr h)))
  rcases ht with rfl | rfl | rfl | rfl | rfl | rfl | rfl <;> rcases hc' with rfl | rfl | rfl | rfl | rfl <;> decide +kernel
theorem Dt.tyX {K : PySem.W.Frag} {cl : Cl} {H : Hp} {v : V} {d : D} {t : String} (h : Dt K cl H v d) (e : d.ty = some t) : TyX K H v (.type t) := by
  cases h with
  | non => cases e; exact .base .non
  | bl b => cases e; exact .base (.bl b)
  | int i => cases e; exact .base (.int i)
  | str s => cases e; exact .base (.str s)
  | lst h _ _ => cases e; exact .base (.lst h)
  | tup h _ _ =>
    cases e
    rcases h with (h | ⟨o, h⟩) | ⟨o, _, _, h1, h2, _⟩
    · exact .base (.tup h)
    · exact .fTuple h
    · exact .kTuple h1 h2
  | scr h _ =>
    cases e
    rcases h with (h | ⟨o, h⟩) | ⟨o, _, _, h1, h2, _⟩
    · exact .base (.lst h)
    · exact .base (.frz h)
    · exact .kList h1 h2
  | dK h _ _ => cases e; exact .base (.dK h)
  | dT h _ _ => cases e; exact .base (.dT h)
  | ins _ _ _ _ => cases e
  | clo _ _ _ _ _ => cases e
theorem D.ty_in {d : D} {t : String} (e : d.ty = some t) : t = "NoneType" ∨ t = "bool" ∨ t = "int" ∨ t = "str" ∨ t = "list" ∨ t = "tuple" ∨ t = "dict" := by
  cases d <;> cases e <;> simp
def isiM (cs : List String) (f : M T) : M T := bindM f fun t => bindM (lookM t) fun d => bindM (optM d.ty) fun n => retM (.fz (.bl (cs.any (isTy n))))
section
variable {X : Cx} {C : Cc} {W : WX}
theorem de_isi {e : Expr} {f : M T} {c : Str} {cn : String} {p p2 pos : Pos} (hK : C.K = X.K) (hok : okTy cn = true) (hg : Gl X "isinstance") (hm : X.mg "isinstance" = none) (hgc : Gl X c) (hmc : X.mg c = none) (hvc : bootBuiltins c = some (.type cn)) (he : PE X e (rd C W f))
    (hs : starEach [e, .Name c p2] X.env = (false, eval e X.env) :: starEach [.Name c p2] X.env := by rfl) (hs2 : starEach [.Name c p2] X.env = (false, eval (.Name c p2) X.env) :: starEach [] X.env := by rfl) (hpl : (backTo pos (starEach [.Name c p2] X.env)).any (·.1) = false := by rfl)
    (hn : c ≠ "__name__" := by decide) (hd : (c == ("__debug__" : Str)) = false := by decide) : PE X (.Call (.Name "isinstance" p) [e, .Name c p2] [] pos) (rd C W (isiM [cn] f)) :=
  pe_sub (pe_callB call_isi hg hm (by decide +kernel) (pa_cons he (pa_cons (pe_bltn (v := .ty cn) hgc hmc hvc rfl hn hd) pa_nil hs2) hs) (he := hs) (hpl := hpl)) fun σ H Q ⟨Γ, τ, R, w⟩ => by
    refine rd_bind R w fun t Γ1 v H1 R1 w1 => ?_
    obtain ⟨d, e1, w2⟩ := wp_lookM (Out.wp_bind w1)
    obtain ⟨n, e2, w3⟩ := wp_optM (Out.wp_bind w2)
    obtain ⟨F, ow, R1⟩ := R1
    have hd' := R1.look R1.temps.1 e1
    refine ⟨v, .ty cn, .type n, .type cn, isTy n cn, rfl, .ty cn, by rw [← hK]; exact hd'.tyX e2, kit_ty (kit_is n cn (D.ty_in e2) hok), ?_⟩
    have w4 := w3 (.bl (isTy n cn)) H1
    have eb : [cn].any (isTy n) = isTy n cn := by simp
    rw [eb] at w4
    exact w4 (Rel.scal ⟨F, ow, R1.pop⟩ (.bl _))
theorem de_isi2 {e : Expr} {f : M T} {c c' : Str} {cn cn' : String} {p p2 p3 p4 pos : Pos} {kk : Nat} (hK : C.K = X.K) (hok : okTy cn = true) (hok' : okTy cn' = true) (hg : Gl X "isinstance") (hm : X.mg "isinstance" = none) (hgc : Gl X c) (hmc : X.mg c = none) (hvc : bootBuiltins c = some (.type cn)) (hgc' : Gl X c') (hmc' : X.mg c' = none) (hvc' : bootBuiltins c' = some (.type cn')) (he : PE X e (rd C W f))
    (hs : starEach [e, .Tuple [.Name c p2, .Name c' p3] kk p4] X.env = (false, eval e X.env) :: starEach [.Tuple [.Name c p2, .Name c' p3] kk p4] X.env := by rfl) (hs2 : starEach [.Tuple [.Name c p2, .Name c' p3] kk p4] X.env = (false, eval (.Tuple [.Name c p2, .Name c' p3] kk p4) X.env) :: starEach [] X.env := by rfl) (hpl : (backTo pos (starEach [.Tuple [.Name c p2, .Name c' p3] kk p4] X.env)).any (·.1) = false := by rfl)
    (hs3 : starEach [.Name c p2, .Name c' p3] X.env = (false, eval (.Name c p2) X.env) :: starEach [.Name c' p3] X.env := by rfl) (hs4 : starEach [.Name c' p3] X.env = (false, eval (.Name c' p3) X.env) :: starEach [] X.env := by rfl)
    (hn : c ≠ "__name__" := by decide) (hd : (c == ("__debug__" : Str)) = false := by decide) (hn' : c' ≠ "__name__" := by decide) (hd' : (c' == ("__debug__" : Str)) = false := by decide) : PE X (.Call (.Name "isinstance" p) [e, .Tuple [.Name c p2, .Name c' p3] kk p4] [] pos) (rd C W (isiM [cn, cn'] f)) :=
  pe_sub (pe_callB call_isiT hg hm (by decide +kernel) (pa_cons he (pa_cons (pe_tup (pa_cons (pe_bltn (v := .ty cn) hgc hmc hvc rfl hn hd) (pa_cons (pe_bltn (v := .ty cn') hgc' hmc' hvc' rfl hn' hd') pa_nil hs4) hs3)) pa_nil hs2) hs) (he := hs) (hpl := hpl)) fun σ H Q ⟨Γ, τ, R, w⟩ => by
    refine rd_bind R w fun t Γ1 v H1 R1 w1 => ?_
    obtain ⟨d, e1, w2⟩ := wp_lookM (Out.wp_bind w1)
    obtain ⟨n, e2, w3⟩ := wp_optM (Out.wp_bind w2)
    obtain ⟨F, ow, R1⟩ := R1
    have hd' := R1.look R1.temps.1 e1
    refine ⟨by show 2 ≤ sizeLine; decide, fun p hp => ?_⟩
    have hsub : Sub H1 (upd H1 p (.tup [.ty cn, .ty cn'])) := fun a o z => by
      rw [upd_ne (ne_of_none z hp)]
      exact z
    refine ⟨v, p, [.ty cn, .ty cn'], .type n, [.type cn, .type cn'], isTy n cn || isTy n cn', rfl, upd_same, .cons (.ty cn) (.cons (.ty cn') .nil), by rw [← hK]; exact (hd'.mono hsub).tyX e2, ?_, ?_⟩
    · refine kitAny_cons (kit_ty (kit_is n cn (D.ty_in e2) hok)) (fun z => ?_) (fun z => by rw [z]; rfl)
      refine kitAny_cons (kit_ty (kit_is n cn' (D.ty_in e2) hok')) (fun z' => ?_) (fun z' => by rw [z', Bool.or_true])
      rw [z, z']
      exact kitAny_nil
    · have w4 := w3 (.bl (isTy n cn || isTy n cn')) (upd H1 p (.tup [.ty cn, .ty cn']))
      have eb : [cn, cn'].any (isTy n) = (isTy n cn || isTy n cn') := by simp
      rw [eb] at w4
      exact w4 (Rel.scal ⟨F, ow, R1.pop.newH hp⟩ (.bl _))

/-! ### list(range(..)) -/
def listRg (fi : M (List D)) : M T := bindM fi fun ds => retM (.ol (ds.map T.fz))
theorem rangeL_dts {K : PySem.W.Frag} {cl : Cl} {F : Hp} (lo : Int) : ∀ (ks : List Nat), Dts K cl F (ks.map fun i => V.int (lo + (i : Nat))) (ks.map fun i : Nat => D.int (lo + (i : Int)))
  | [] => .nil
  | k :: ks => .cons (.int _) (rangeL_dts lo ks)
theorem de_listRg1 {a : Expr} {f : M T} {p p2 pos pos2 : Pos} (hc : X.calm = true) (hg : Gl X "list") (hm : X.mg "list" = none) (hg2 : Gl X "range") (hm2 : X.mg "range" = none) (ha : PE X a (rd C W f)) (na : starEach [a] X.env = (false, eval a X.env) :: starEach [] X.env := by rfl)
    (nb : starEach [.Call (.Name "range" p2) [a] [] pos2] X.env = (false, eval (.Call (.Name "range" p2) [a] [] pos2) X.env) :: starEach [] X.env := by rfl) : PE X (.Call (.Name "list" p) [.Call (.Name "range" p2) [a] [] pos2] [] pos) (rd C W (listRg (range1 f))) :=
  pe_sub (pe_listRg hc hg hm (prg_1 hg2 hm2 ha na) nb) fun σ H Q ⟨Γ, τ, R, w⟩ => by
    have w0 : (bindM (intM f) (fun n => bindM (bindM (guardM (rngOk 0 n)) fun _ => retM (rangeL 0 n.toNat)) fun ds => retM (T.ol (ds.map T.fz))) Γ).Wp _ _ := Out.wp_assoc w
    refine intM_bind R w0 fun n Γ1 H1 R1 w1 => ⟨n, rfl, ?_⟩
    obtain ⟨e, w2⟩ := wp_guardM (Out.wp_bind (Out.wp_bind w1))
    simp only [rngOk, Bool.and_eq_true, decide_eq_true_eq] at e
    have hz : (n - 0).toNat ≤ 2 ^ 24 := e.2
    refine ⟨⟨e.1.1.1.1, e.1.1.1.2, e.1.1.2, e.1.2, hz⟩, fun q hq => w2 _ _ ?_⟩
    obtain ⟨F, ow, R1⟩ := R1
    have hl : (rgV 0 n).length ≤ sizeLine := by rw [rgV_length]; exact hz
    have := R1.newList (vs := rgV 0 n) (ds := rangeL 0 n.toNat) hq hl (by
      unfold rgV rangeL
      rw [Int.sub_zero]
      exact rangeL_dts 0 _)
    exact this

/-! ### a, b = e1, e2 -/
def parM (i j : Nat) (fa : M (List T)) : M Flow := bindM fa fun ts => match ts with
  | [t1, t2] => if t1.isAl || t2.isAl then fun _ => .bad else fun Γ => .ok .next ((Γ.set i (some t1)).set j (some t2))
  | _ => fun _ => .bad
theorem ds_par {i j : Nat} {x y : Str} {a b : Expr} {fa : M (List T)} {px py pt : Pos} {kt k2 pt2} {pos : Pos} (hpi : C.pin i = none) (hpj : C.pin j = none) (hc : X.calm = true) (hN : X.N.Nodup) (hi : X.N[i]? = some x) (hj : X.N[j]? = some y) (hij : i ≠ j)
    (hx : X.env.scope.names.lookup x = some .local) (hy : X.env.scope.names.lookup y = some .local) (ha : PA X [a, b] (rdA C W fa))
    (hw : swappedStores [.Tuple [.Name x px, .Name y py] kt pt] (.Tuple [a, b] k2 pt2) X.env = pure (some [x, y]))
    (hs : swapsWithSole [.Tuple [.Name x px, .Name y py] kt pt] (.Tuple [a, b] k2 pt2) pos.line X.env = pure false := by rfl) :
    PS X (.Assign [.Tuple [.Name x px, .Name y py] kt pt] (.Tuple [a, b] k2 pt2) pos) (rdS C W (parM i j fa)) := ps_sub (ps_par hc hN hi hj hij hx hy ha hw hs) fun D σ H ⟨Γ, τ, n, R, w⟩ => by
  have w1 := Out.wp_bind w
  refine ⟨Γ, τ, R, Out.wp_mono w1 (fun ts Γ1 w2 vs H1 hl R1 => ?_) (fun _ _ z => wx_any z)⟩
  match ts, vs, hl, w2, R1 with
  | [t1, t2], [v1, v2], _, w2, R1 =>
    refine ⟨v1, v2, rfl, ?_⟩
    simp only at w2
    split at w2
    · exact w2.elim
    · rename_i hal
      have hal' : t1.isAl = false ∧ t2.isAl = false := by simpa using hal
      have n1 : ∀ k, t1 ≠ .al k := T.notAl (by rw [hal'.1]; rfl)
      have n2 : ∀ k, t2 ≠ .al k := T.notAl (by rw [hal'.2]; rfl)
      have R2 : Rel C (σ.set j (some v2)) H1 (Γ1.set j (some t2)) ((v1, t1) :: τ) := Rel.store (v := v2) (t := t2) R1 n2 hpj (fun p hp => by
        cases hp with
        | head => exact n1 j
        | tail _ hp => exact n p hp j)
      have R3 := R2.store n1 hpi (fun p hp => n p hp i)
      rw [List.set_comm _ _ (Ne.symm hij), List.set_comm _ _ (Ne.symm hij)] at R3
      exact w2 _ _ R3
  | [], _, _, w2, _ => exact w2.elim
  | [_], _, _, w2, _ => exact w2.elim
  | _ :: _ :: _ :: _, _, _, w2, _ => exact w2.elim

/-! ### f(e, .., k = v, ..) -/
def pick {α : Type} (is : List Nat) (l : List α) : List α := is.filterMap fun i => l[i]?
theorem Dts.pick {K : PySem.W.Frag} {cl : Cl} {F : Hp} {vs : List V} {ds : List D} (h : Dts K cl F vs ds) : ∀ is : List Nat, Dts K cl F (pick is vs) (pick is ds)
  | [] => .nil
  | i :: is => by
    unfold DL.pick
    rw [List.filterMap_cons, List.filterMap_cons]
    cases e : ds[i]? with
    | none =>
      have e2 : vs[i]? = none := by
        rw [List.getElem?_eq_none_iff] at e ⊢
        rw [h.length]
        exact e
      rw [e2]
      exact Dts.pick h is
    | some d =>
      obtain ⟨v, e1, hv⟩ := h.get e
      rw [e1]
      exact .cons hv (Dts.pick h is)
theorem vals_pick {vs : List V} {us : List Value} (h : Vals vs us) : ∀ is : List Nat, Vals (pick is vs) (pick is us)
  | [] => .nil
  | i :: is => by
    unfold pick
    rw [List.filterMap_cons, List.filterMap_cons]
    cases e : vs[i]? with
    | none =>
      rw [h.none_of e]
      exact vals_pick h is
    | some v =>
      obtain ⟨u, e1, hu⟩ := h.get e
      rw [e1]
      exact .cons hu (vals_pick h is)
theorem pk_sub {kws : List Keyword} {t t' : TA} (h : PK X kws t) (m : ∀ σ H Q, t' σ H Q → t σ H Q) : PK X kws t' := ⟨fun pos pins s σ H Q I q => h.run pos pins s σ H Q I (m σ H Q q)⟩
theorem dk_nil : PK X [] (rdA C W (argsM [])) := pk_sub pk_nil fun σ H Q ⟨Γ, τ, R, w⟩ => w [] H rfl R
theorem dk_cons {nm : Option Str} {e : Expr} {kws : List Keyword} {f : M T} {fs : List (M T)} {kpos : Pos} (ha : PE X e (rd C W f)) (hr : PK X kws (rdA C W (argsM fs))) : PK X (⟨nm, e, kpos⟩ :: kws) (rdA C W (argsM (f :: fs))) :=
  pk_sub (pk_cons ha hr) fun σ H Q ⟨Γ, τ, R, w⟩ => by
    refine rd_bind R w fun t Γ1 v H1 R1 w1 => ?_
    refine ⟨Γ1, (v, t) :: τ, R1, Out.wp_mono (Out.wp_bind (wp_under w1)) (fun ts Γ2 w2 vs H2 hl R2 => w2 (v :: vs) H2 (by simp [hl]) ?_) (fun _ _ z => z)⟩
    rw [List.zip_cons_cons, List.reverse_cons, List.append_assoc]
    exact R2
def callK (is : List Nat) (f : FSem) (fa fk : M (List T)) : M T := bindM fa fun ts => bindM fk fun us => bindM (optM (T.fzs (ts ++ us))) fun ds => fun Γ => match f ((pick is ds).map T.fz) with
  | .ok t _ => if !t.isAl then .ok t Γ else .bad
  | .exc x _ => .exc x Γ
  | .bad => .bad
theorem run_kw {CX : CXT} {k : Nat} {f : Addr} {fd : FuncData} {ps ks : List Str} {sp : Sp} {is : List Nat} {n : Nat} {E : St → XK} {pins : List (Addr × Obj)} {σ : St} {H : Hp} {s : Shared} {Q : VK} {us ws : List Value} {vs zs : List V} (G : FnOk X.prog X.w X.K X.mg X.base CX k f fd ps sp) (hr : Room k X.A)
    (hb : ∀ (s : Shared) (us ws : List Value), us.length = n → ws.length = ks.length → BindsTo s fd ⟨us, ks.zip ws⟩ (ps.zip (pick is (us ++ ws)))) (hx : PassesAt CX X σ (E σ)) (I : Inv X pins σ H s) (r : Vals vs us) (rz : Vals zs ws) (hn : vs.length = n) (hm : zs.length = ks.length)
    (h : sp (pick is (vs ++ zs)) H Q (E σ)) : wpAny (model X.prog X.w) X.A (call (.ref f) us (ks.zip ws)) (EP X pins σ Q) X.xe s := by
  have r2 : Vals (pick is (vs ++ zs)) (pick is (us ++ ws)) := vals_pick (r.append rz) is
  refine wpAny_call (codeAny_mono (G.run X.A X.stack s H ⟨us, ks.zip ws⟩ (pick is (us ++ ws)) (pick is (vs ++ zs)) Q (E σ) hr I.env0 (hb s us ws (by rw [← r.length]; exact hn) (by rw [← rz.length]; exact hm)) r2 h) fun rs s' hq => ?_)
  cases rs with
  | error e => exact hx pins H s e s' I hq
  | ok fl =>
    cases fl with
    | ret u => exact I.after hq
    | next => exact False.elim hq
    | brk => exact False.elim hq
    | cont => exact False.elim hq
theorem pe_kw0 {CX : CXT} {k : Nat} {f : Addr} {fd : FuncData} {ps ks : List Str} {sp : Sp} {is : List Nat} {E : St → XK} {x : Str} {p pos : Pos} {kws : List Keyword} {tk : TA} (G : FnOk X.prog X.w X.K X.mg X.base CX k f fd ps sp) (hr : Room k X.A) (hg : Gl X x) (hm : X.mg x = some (.ref f)) (hk : PySem.W.keepIn X.K (.ref f) = true)
    (hb : ∀ (s : Shared) (us ws : List Value), us.length = 0 → ws.length = ks.length → BindsTo s fd ⟨us, ks.zip ws⟩ (ps.zip (pick is (us ++ ws)))) (hx : ∀ σ, PassesAt CX X σ (E σ)) (hkw : PK X kws tk) (hall : (backToKw pos (keywordEach kws X.env)).all (·.1.isSome) = true := by rfl)
    (hks : (backToKw pos (keywordEach kws X.env)).filterMap (·.1) = ks := by rfl) (hdb : (x == ("__debug__" : Str)) = false := by decide) (hpl : ((backTo pos (starEach [] X.env)).any (·.1) || (backToKw pos (keywordEach kws X.env)).any (·.1.isNone)) = false := by rfl) :
    PE X (.Call (.Name x p) [] kws pos) (fun σ H Q => tk σ H fun zs H2 => zs.length = ks.length ∧ sp (pick is ([] ++ zs)) H2 Q (E σ)) := by
  refine ⟨fun pins s σ H Q I h => wpAny_Call_Name_kw (ld_glob I hg hm ?_ hdb)⟩
  refine PySem.W.callWith_KW0 (h₀ := X.base) I.ok.mod.kin hk hall (thn (hkw.run pos pins s σ H _ I h) fun ws s2 hw => ?_) hpl
  obtain ⟨zs, H2, I2, rz, hl, q2⟩ := hw
  refine ⟨I2.kIn, ?_⟩
  rw [hks]
  exact run_kw (us := []) (vs := []) G hr hb (hx σ) I2 .nil rz rfl hl q2
theorem pe_kw {CX : CXT} {k n : Nat} {f : Addr} {fd : FuncData} {ps ks : List Str} {sp : Sp} {is : List Nat} {E : St → XK} {x : Str} {e : Expr} {es : List Expr} {p pos : Pos} {kws : List Keyword} {t tk : TA} (G : FnOk X.prog X.w X.K X.mg X.base CX k f fd ps sp) (hr : Room k X.A) (hg : Gl X x) (hm : X.mg x = some (.ref f)) (hk : PySem.W.keepIn X.K (.ref f) = true)
    (hb : ∀ (s : Shared) (us ws : List Value), us.length = n → ws.length = ks.length → BindsTo s fd ⟨us, ks.zip ws⟩ (ps.zip (pick is (us ++ ws)))) (hx : ∀ σ, PassesAt CX X σ (E σ)) (ha : PA X (e :: es) t) (hkw : PK X kws tk) (hall : (backToKw pos (keywordEach kws X.env)).all (·.1.isSome) = true := by rfl)
    (hks : (backToKw pos (keywordEach kws X.env)).filterMap (·.1) = ks := by rfl) (hdb : (x == ("__debug__" : Str)) = false := by decide) (he : starEach (e :: es) X.env = (false, eval e X.env) :: starEach es X.env := by rfl)
    (hpl : ((backTo pos (starEach (e :: es) X.env)).any (·.1) || (backToKw pos (keywordEach kws X.env)).any (·.1.isNone)) = false := by rfl) :
    PE X (.Call (.Name x p) (e :: es) kws pos) (fun σ H Q => t σ H fun vs H1 => tk σ H1 fun zs H2 => vs.length = n ∧ zs.length = ks.length ∧ sp (pick is (vs ++ zs)) H2 Q (E σ)) := by
  refine ⟨fun pins s σ H Q I h => wpAny_Call_Name_kw (ld_glob I hg hm ?_ hdb)⟩
  refine PySem.W.callWith_KW (h₀ := X.base) I.ok.mod.kin hk hall (thn (ha.run pos pins s σ H _ I h) fun us s1 hv => ?_) hpl he
  obtain ⟨vs, H1, I1, r, q⟩ := hv
  refine thn (hkw.run pos pins s1 σ H1 _ I1 q) fun ws s2 hw => ?_
  obtain ⟨zs, H2, I2, rz, hl, hl2, q2⟩ := hw
  refine ⟨I2.kIn, ?_⟩
  rw [hks]
  exact run_kw G hr hb (hx σ) I2 r rz hl hl2 q2
theorem call_goK {n : Nat} {f : FSem} {is : List Nat} {σ : St} {H : Hp} {Γ : Env} {τ : Hand} {ts : List T} {vs : List V} {Q : VK} (hn : is.length = n) (hin : ∀ i ∈ is, i < vs.length) (hl : vs.length = ts.length) (R : Rel C σ H Γ ((vs.zip ts).reverse ++ τ))
    (w : (bindM (optM (T.fzs ts)) (fun ds => fun Γ => match f ((pick is ds).map T.fz) with
      | .ok t _ => if !t.isAl then Out.ok t Γ else .bad
      | .exc x _ => .exc x Γ
      | .bad => .bad) Γ).Wp (fun t Γ' => ∀ v H', Rel C σ H' Γ' ((v, t) :: τ) → Q v H') (wx C W σ τ)) :
    spOf C.K C.cl n false f (pick is vs) H Q (fun cls d H' => W cls d σ H') := by
  obtain ⟨ds, e1, w2⟩ := wp_optM (Out.wp_bind w)
  obtain ⟨F, ow, R⟩ := R
  have hd := R.hands hl e1
  have hlen : (pick is vs).length = n := by
    rw [← hn]
    clear w w2 hn
    induction is with
    | nil => rfl
    | cons i is ih =>
      have h1 : i < vs.length := hin i List.mem_cons_self
      unfold pick
      rw [List.filterMap_cons, List.getElem?_eq_getElem h1]
      exact congrArg (· + 1) (ih fun j hj => hin j (List.mem_cons_of_mem _ hj))
  refine ⟨hlen, F, fun _ => False, (pick is ds).map T.fz, R.ex, ⟨R.tabs, R.ft⟩, fun a z => z.elim, fun _ a z => z, ⟨pick is ds, rfl, hd.pick is⟩, ?_⟩
  cases e3 : f ((pick is ds).map T.fz) with
  | ok t Γ' =>
    simp only [e3] at w2
    split at w2
    · rename_i hs
      exact ⟨T.notAl hs, fun v H' F' S0 Sr A h _ => w2 v H' (R.drop.callee A (T.notAl hs) h)⟩
    · exact w2.elim
  | exc x Γ' =>
    simp only [e3] at w2
    exact fun cls d H' F' S0 A _ hx => w2 cls d H' ⟨F', ow, R.drop.calleeX A, hx⟩
  | bad => simp only [e3] at w2; exact w2.elim
theorem de_kw0 {k n m : Nat} {f : Addr} {fd : FuncData} {ps ks : List Str} {fs : FSem} {is : List Nat} {x : Str} {fk : M (List T)} {p pos : Pos} {kws : List Keyword} (tk : Takes X W) (G : FnOk X.prog X.w X.K X.mg X.base (L2.CX X.prog X.w) k f fd ps (spOf C.K C.cl n false fs)) (hr : Room k X.A) (hg : Gl X x) (hm : X.mg x = some (.ref f)) (hk : PySem.W.keepIn X.K (.ref f) = true)
    (hb : ∀ (s : Shared) (us ws : List Value), us.length = 0 → ws.length = ks.length → BindsTo s fd ⟨us, ks.zip ws⟩ (ps.zip (pick is (us ++ ws)))) (hkw : PK X kws (rdA C W fk)) (hfk : ∀ Γ ts Γ', fk Γ = .ok ts Γ' → ts.length = ks.length) (hn : is.length = n) (hin : ∀ i ∈ is, i < ks.length)
    (hall : (backToKw pos (keywordEach kws X.env)).all (·.1.isSome) = true := by rfl) (hks : (backToKw pos (keywordEach kws X.env)).filterMap (·.1) = ks := by rfl) (hdb : (x == ("__debug__" : Str)) = false := by decide) (hpl : ((backTo pos (starEach [] X.env)).any (·.1) || (backToKw pos (keywordEach kws X.env)).any (·.1.isNone)) = false := by rfl) :
    PE X (.Call (.Name x p) [] kws pos) (rd C W (callK is fs (argsM []) fk)) :=
  pe_sub (pe_kw0 (E := fun σ cls d H => W cls d σ H) G hr hg hm hk hb (fun σ => passAt tk σ) hkw hall hks hdb hpl) fun σ H Q ⟨Γ, τ, R, w⟩ => by
    have w0 : (bindM fk (fun us => bindM (optM (T.fzs ([] ++ us))) fun ds => fun Γ => match fs ((pick is ds).map T.fz) with
      | .ok t _ => if !t.isAl then Out.ok t Γ else .bad
      | .exc x _ => .exc x Γ
      | .bad => .bad) Γ).Wp _ _ := w
    refine ⟨Γ, τ, R, ?_⟩
    have w1 := Out.wp_bind w0
    cases q : fk Γ with
    | ok ts Γ1 =>
      rw [q] at w1
      intro vs H1 hl R1
      have hl' := hl.trans (hfk _ _ _ q)
      exact ⟨hl', call_goK hn (by rw [List.nil_append, hl']; exact hin) hl R1 w1⟩
    | exc x' Γ1 => rw [q] at w1; exact w1
    | bad => rw [q] at w1; exact w1
theorem de_kw {k n m : Nat} {f : Addr} {fd : FuncData} {ps ks : List Str} {fs : FSem} {is : List Nat} {x : Str} {e : Expr} {es : List Expr} {fa fk : M (List T)} {p pos : Pos} {kws : List Keyword} (tk : Takes X W) (G : FnOk X.prog X.w X.K X.mg X.base (L2.CX X.prog X.w) k f fd ps (spOf C.K C.cl n false fs)) (hr : Room k X.A) (hg : Gl X x) (hm : X.mg x = some (.ref f)) (hk : PySem.W.keepIn X.K (.ref f) = true)
    (hb : ∀ (s : Shared) (us ws : List Value), us.length = m → ws.length = ks.length → BindsTo s fd ⟨us, ks.zip ws⟩ (ps.zip (pick is (us ++ ws)))) (ha : PA X (e :: es) (rdA C W fa)) (hfa : ∀ Γ ts Γ', fa Γ = .ok ts Γ' → ts.length = m) (hkw : PK X kws (rdA C W fk)) (hfk : ∀ Γ ts Γ', fk Γ = .ok ts Γ' → ts.length = ks.length) (hn : is.length = n) (hin : ∀ i ∈ is, i < m + ks.length)
    (hall : (backToKw pos (keywordEach kws X.env)).all (·.1.isSome) = true := by rfl) (hks : (backToKw pos (keywordEach kws X.env)).filterMap (·.1) = ks := by rfl) (hdb : (x == ("__debug__" : Str)) = false := by decide) (he : starEach (e :: es) X.env = (false, eval e X.env) :: starEach es X.env := by rfl)
    (hpl : ((backTo pos (starEach (e :: es) X.env)).any (·.1) || (backToKw pos (keywordEach kws X.env)).any (·.1.isNone)) = false := by rfl) :
    PE X (.Call (.Name x p) (e :: es) kws pos) (rd C W (callK is fs fa fk)) :=
  pe_sub (pe_kw (E := fun σ cls d H => W cls d σ H) G hr hg hm hk hb (fun σ => passAt tk σ) ha hkw hall hks hdb he hpl) fun σ H Q ⟨Γ, τ, R, w⟩ => by
    refine ⟨Γ, τ, R, ?_⟩
    have w1 := Out.wp_bind w
    cases q : fa Γ with
    | ok ts Γ1 =>
      rw [q] at w1
      intro vs H1 hl R1
      have hl' := hl.trans (hfa _ _ _ q)
      refine ⟨Γ1, _, R1, ?_⟩
      have w2 := Out.wp_bind (wp_underL (υ := (vs.zip ts).reverse) w1)
      cases q2 : fk Γ1 with
      | ok us Γ2 =>
        rw [q2] at w2
        intro zs H2 hl2 R2
        have hl2' := hl2.trans (hfk _ _ _ q2)
        have eh : (zs.zip us).reverse ++ ((vs.zip ts).reverse ++ τ) = ((vs ++ zs).zip (ts ++ us)).reverse ++ τ := by
          rw [List.zip_append hl, List.reverse_append, List.append_assoc]
        rw [eh] at R2
        refine ⟨hl', hl2', call_goK hn (by rw [List.length_append, hl', hl2']; exact hin) (by rw [List.length_append, List.length_append, hl, hl2]) R2 ?_⟩
        have w3 := Out.wp_bind w1
        rw [q2] at w3
        exact w3
      | exc x' Γ2 => rw [q2] at w2; exact w2
      | bad => rw [q2] at w2; exact w2
    | exc x' Γ1 => rw [q] at w1; exact w1
    | bad => rw [q] at w1; exact w1
end
end DL
/-! enumerate over a tuple -/
namespace DL
open PySem PySem.Spec L2 PyProof.Rows
open AutoSeq1 (wpAny_loadPart')

theorem meets_enumT (l : Addr) (items : Array Value) (n : Nat) (dct : Option Addr) (sl : Array (Option Value)) :
    Meets (Builtin.«enumerate.__new__» ⟨[.type "enumerate", .ref l], []⟩) (fun _ R s => s.heap.get? l = some { cls := .type "tuple", dict := dct, data := .seq items n, slots := sl } ∧
      R (.ok (.ret (.ref (s.heap.push { cls := .type "tuple_iterator", data := .fields #[.ref l, .int 0 0] }).objs.size)))
        { s with heap := (s.heap.push { cls := .type "tuple_iterator", data := .fields #[.ref l, .int 0 0] }).push { cls := .type "enumerate", data := .fields #[.none, .bool false, .ref s.heap.objs.size, rawInt 0, .none, .none] } }) :=
  .of_wp fun prog w A R s hyp => by
    obtain ⟨hp, g, d, tk, os⟩ := s
    obtain ⟨hl, hR⟩ := hyp
    have hsub := sub_enumerate
    have hT : Heap.IsTuple (Shared.heap ⟨hp, g, d, tk, os⟩) l items := ⟨_, hl, rfl, n, rfl⟩
    wp_walk using wpAny_loadPart' hl
    refine wpAny_stack_any fun st => wpAny_pure ?_
    split
    · rename_i c _ _ _ _ _
      cases (c == Value.type "enumerate")
      · wp_walk using wpAny_loadPart' hl, wpAny_pyIter_tuple hT
        exact ⟨_, rfl, hR⟩
      · wp_walk using wpAny_loadPart' hl, wpAny_pyIter_tuple hT
        exact ⟨_, rfl, hR⟩
    · wp_walk using wpAny_loadPart' hl, wpAny_pyIter_tuple hT
      exact ⟨_, rfl, hR⟩
section
variable {prog : Program} {w : World} {A : Around} {E : Value → Shared → Prop} {s : Shared}
theorem call_enumT {l : Addr} {items : Array Value} {Q : Value → Shared → Prop} (hL : s.heap.IsTuple l items)
    (h : ∀ h', IsEnum h' (s.heap.objs.size + 1) s.heap.objs.size 0 .none → h'.IsTupleIter s.heap.objs.size l 0 → h'.objs.size = s.heap.objs.size + 2 →
      (∀ b o, s.heap.get? b = some o → h'.get? b = some o) → Q (.ref (s.heap.objs.size + 1)) { s with heap := h' }) : wpAny (model prog w) A (call (.type "enumerate") [.ref l]) Q E s := by
  obtain ⟨⟨c, dct, dt, sl⟩, hl, hc, n, hd⟩ := hL
  replace hc : c = .type "tuple" := hc
  replace hd : dt = .seq items n := hd
  subst hc hd
  refine callType_new F.called_enumerate (by decide) (F.typeCall_enumerate_1 _) (F.newCall_enumerate_1 _) (fun obj => F.args_object_init_2 obj _) F.entry_enumerate_new (meets_enumT l items n dct sl) ⟨hl, ?_⟩
  have hz : (s.heap.push { cls := .type "tuple_iterator", data := .fields #[.ref l, .int 0 0] }).objs.size = s.heap.objs.size + 1 := Heap.size_push ..
  show _ ∧ _
  rw [hz]
  have he : IsEnum ((s.heap.push { cls := .type "tuple_iterator", data := .fields #[.ref l, .int 0 0] }).push { cls := .type "enumerate", data := .fields #[.none, .bool false, .ref s.heap.objs.size, rawInt 0, .none, .none] }) (s.heap.objs.size + 1) s.heap.objs.size 0 .none := by
    have z := Heap.get?_push_size (s.heap.push { cls := .type "tuple_iterator", data := .fields #[.ref l, .int 0 0] }) (o := { cls := .type "enumerate", data := .fields #[.none, .bool false, .ref s.heap.objs.size, rawInt 0, .none, .none] }) rfl
    rw [hz] at z
    exact z
  exact ⟨⟨_, he, rfl⟩, h _ he ⟨_, Heap.get?_push_of_some _ (Heap.get?_push_size _ rfl), rfl, rfl⟩ (by rw [Heap.size_push, hz]) fun b o x => Heap.get?_push_of_some _ (Heap.get?_push_of_some _ x)⟩
end
/-- the tuple at a, each item in a new pair with its place -/
def IteT (K : PySem.W.Frag) (a : Addr) : It :=
  ⟨fun i H => ∃ (xs : List V) (x : V), SqT K H a xs ∧ xs[i]? = some x, fun i H v H' => ∃ T x, v = .ref T ∧ H T = none ∧ H' = upd H T (.tup [.int (i : Nat), x]) ∧ ∀ xs, SqT K H a xs → xs[i]? = some x, fun i H => ∃ xs : List V, SqT K H a xs ∧ xs.length = i⟩
theorem turn_enumT {P : Program} {w : World} {K : PySem.W.Frag} {elts : List Expr} {kk : Nat} {tpos : Pos} (a e it : Addr) :
    Turn P w K (.Tuple elts kk tpos) (IteT K a) [e, it] e (fun i h => (∃ old, IsEnum h e it ((i : Nat) : Int) old) ∧ h.IsTupleIter it a i ∧ e ≠ it) where
  mem := by simp
  obj := fun i h st b hb => by
    obtain ⟨⟨old, he⟩, ⟨o, ho, hc, hd⟩, _⟩ := st
    have e' : b = e ∨ b = it := by simpa using hb
    rcases e' with z | z
    · rw [z]
      exact ⟨_, he, fun v q => nomatch q⟩
    · rw [z]
      exact ⟨o, ho, fun v q => by rw [hd] at q; cases q⟩
  keep := fun i h h' st k => let ⟨⟨old, he⟩, hi, hne⟩ := st; ⟨⟨old, k e (by simp) _ he⟩, hi.at fun o q => k it (by simp) o q, hne⟩
  item := by
    intro X hP hw hK hc i pins s σ H E I hf st hg
    subst hP hw hK
    obtain ⟨⟨old, he⟩, hit, hne⟩ := st
    obtain ⟨xs, x, hq, hx⟩ := hg
    obtain ⟨its, rv, p, hz⟩ := I.tuple hq
    obtain ⟨u, hu, ru⟩ := rv.get hx
    have pt : s.heap.IsTuple a its.toArray := p
    obtain ⟨ot, ht1, ht2, ht3⟩ := id p
    obtain ⟨oi, hi1, hi2, hi3⟩ := id hit
    have nai : a ≠ it := fun z => by
      subst z
      rw [ht1] at hi1
      cases hi1
      rw [ht2] at hi2
      exact absurd hi2 (by decide)
    have nea : e ≠ a := fun z => by
      subst z
      have he' : s.heap.get? e = some _ := he
      rw [ht1] at he'
      cases he'
      exact absurd (show Value.type "enumerate" = Value.type "tuple" from ht2) (by decide)
    have hel : e < s.heap.objs.size := Heap.lt_size he
    have hil : it < s.heap.objs.size := Heap.lt_size hi1
    have hlt : i < its.toArray.size := by
      have := (List.getElem?_eq_some_iff.mp hu).1
      simpa using this
    refine wpAny_pyNext_enum_itemD (Draws.tuple (A := X.A.in1) (show X.A.in1.handled = none from I.ok.hd hc) it a nai its.toArray) he ⟨hit, pt⟩ hlt hne (by simp [hne, nea]) fun y h' tk hy ho hst hT hsz hk => ?_
    have ey : y = u := by
      have z : its.toArray[i]? = some u := by simpa using hu
      rw [z] at hy
      exact (Option.some.inj hy).symm
    subst ey
    refine ⟨_, rfl, wpAny_letOwnedTupleGo_enum (s := { s with heap := h', toks := tk + 1 }) ho fun h'' he' sb => ?_⟩
    have hT2 : h''.get? s.heap.objs.size = some { cls := .type "tuple", data := .seq #[.int i tk, y] } := (sb.2 _ (Nat.ne_of_gt hel)).trans hT
    have new : ObjOk X.prog X.w (upd H s.heap.objs.size (.tup [.int (i : Nat), x])) h'' s.heap.objs.size (.tup [.int (i : Nat), x]) :=
      ⟨by show 2 ≤ sizeLine; decide, [.int i tk, y], .cons ⟨_, rfl⟩ (.cons ru .nil), ⟨_, hT2, rfl, _, rfl⟩⟩
    have I1 : Inv X pins σ (upd H s.heap.objs.size (.tup [.int (i : Nat), x])) { s with heap := h'', toks := tk + 1 } :=
      I.turnedNew (ch := [e, it]) (fun b ob hb q => (sb.2 b (fun z => hb (by simp [z]))).trans (hk b ob (fun z => hb (by simp [z])) (fun z => hb (by simp [z])) q)) hf (Nat.le_refl _) new
    refine ⟨.ref s.heap.objs.size, _, I1, rfl, ⟨_, x, rfl, I.hok.fresh (Nat.le_refl _), rfl, fun ys hy => by rw [I.tuple_inj hy hq]; exact hx⟩, ⟨⟨y, ?_⟩, hst.1.at fun o q => (sb.2 it (Ne.symm hne)).trans q, hne⟩, fun b hb => ?_⟩
    · have e1 : ((i + 1 : Nat) : Int) = (i : Int) + 1 := by omega
      rw [e1]
      exact he'
    · have hb' : b < s.heap.objs.size := by
        have e' : b = e ∨ b = it := by simpa using hb
        rcases e' with z | z
        · rw [z]; exact hel
        · rw [z]; exact hil
      rw [upd_ne (Nat.ne_of_lt hb')]
      exact (hf b hb).1
  done := by
    intro X hP hw hK hc i pins s σ H E I hf st hg
    subst hP hw hK
    obtain ⟨⟨old, he⟩, hit, hne⟩ := st
    obtain ⟨xs, hq, hx⟩ := hg
    obtain ⟨its, rv, p, hz⟩ := I.tuple hq
    obtain ⟨f0, f1, f2, f3, f4, f5⟩ := hf it (by simp)
    obtain ⟨ot, ht1, ht2, ht3⟩ := id p
    obtain ⟨oi, hi1, hi2, hi3⟩ := id hit
    have nai : a ≠ it := fun z => by
      subst z
      rw [ht1] at hi1
      cases hi1
      rw [ht2] at hi2
      exact absurd hi2 (by decide)
    have hl := rv.length
    have hn : its.toArray.size = i := by
      rw [List.size_toArray, ← hl]
      exact hx
    refine wpAny_pyNext_enum_endD (Draws.tuple (A := X.A.in1) (show X.A.in1.handled = none from I.ok.hd hc) it a nai its.toArray) he ⟨?_, p⟩ fun h' eb => ⟨rfl, I.turned (t' := s.toks) (fun b o hb q => eb b o hb q) f0 f1 f3 f4 f5⟩
    rw [hn]
    exact hit
  self := fun A i s Q E st h => let ⟨⟨_, he⟩, _⟩ := st; wpAny_pyIter_enum he h
theorem pi_enumA {X : Cx} {e : Expr} {ta : TA} {p pos tpos : Pos} {elts : List Expr} {kk : Nat} (hg : Gl X "enumerate") (hm : X.mg "enumerate" = none) (ha : PA X [e] ta) (hs : starEach [e] X.env = [(false, eval e X.env)] := by rfl) :
    PI X (.Tuple elts kk tpos) (.Call (.Name "enumerate" p) [e] [] pos) (fun σ H R => ta σ H fun vs H1 => ∃ a xs, vs = [.ref a] ∧ (SqL X.K H1 a xs ∧ R (Ite X.K a) H1 ∨ SqT X.K H1 a xs ∧ R (IteT X.K a) H1)) := by
  refine ⟨fun pins s σ H R I h => ?_⟩
  refine Call_ (ld_blt I hg hm boot_enumerate (PyProof.Rows.callWith_type1 (thn (ha.run pos pins s σ H _ I h) fun us s1 hu => ?_) hs rfl))
  obtain ⟨vs, H1, I1, r1, a, xs, ex, q1⟩ := hu
  subst ex
  cases r1 with
  | cons r rr =>
    cases rr
    cases r
    have fresh2 : ∀ b ∈ [s1.heap.objs.size + 1, s1.heap.objs.size], FpOk X pins H1 b := fun b hb => by
      have e' : b = s1.heap.objs.size + 1 ∨ b = s1.heap.objs.size := by simpa using hb
      have hle : s1.heap.objs.size ≤ b := by
        rcases e' with z | z
        · rw [z]; exact Nat.le_add_right _ _
        · rw [z]; exact Nat.le_refl _
      exact I1.fpOk hle (I1.hok.fresh hle)
    rcases q1 with ⟨hq, q⟩ | ⟨hq, q⟩
    · obtain ⟨its, rv, p', hz⟩ := I1.list hq
      refine call_enumerate_list p'.isList fun h' he hit hsz hk => wpAny_pyIter_enum he ?_
      exact ⟨s1.heap.objs.size + 1, [s1.heap.objs.size + 1, s1.heap.objs.size], _, _, H1, rfl, I1.kept (t' := s1.toks) hk, turn_enum a (s1.heap.objs.size + 1) s1.heap.objs.size, ⟨⟨.none, he⟩, hit, Nat.succ_ne_self _⟩, fresh2, q⟩
    · obtain ⟨its, rv, p', hz⟩ := I1.tuple hq
      refine call_enumT (show s1.heap.IsTuple a its.toArray from p') fun h' he hit hsz hk => wpAny_pyIter_enum he ?_
      exact ⟨s1.heap.objs.size + 1, [s1.heap.objs.size + 1, s1.heap.objs.size], _, _, H1, rfl, I1.kept (t' := s1.toks) hk, turn_enumT a (s1.heap.objs.size + 1) s1.heap.objs.size, ⟨⟨.none, he⟩, hit, Nat.succ_ne_self _⟩, fresh2, q⟩
/-- the things with their places -/
def enumL (ds : List D) : List D := (List.range ds.length).filterMap fun i : Nat => ds[i]?.map fun d => D.tup [.int (i : Int), d]
theorem enumL_length (ds : List D) : (enumL ds).length = ds.length := by
  unfold enumL
  have h : ∀ (ks : List Nat), (∀ k ∈ ks, k < ds.length) → (ks.filterMap fun i : Nat => ds[i]?.map fun d => D.tup [.int (i : Int), d]).length = ks.length := by
    intro ks
    induction ks with
    | nil => intro _; rfl
    | cons k ks ih =>
      intro h
      rw [List.filterMap_cons, List.getElem?_eq_getElem (h k List.mem_cons_self)]
      exact congrArg (· + 1) (ih fun j hj => h j (List.mem_cons_of_mem _ hj))
  rw [h _ (fun k hk => List.mem_range.mp hk), List.length_range]
theorem enumL_get {ds : List D} {i : Nat} {d : D} (h : ds[i]? = some d) : (enumL ds)[i]? = some (.tup [.int (i : Int), d]) := by
  have hi : i < ds.length := (List.getElem?_eq_some_iff.mp h).1
  have key : ∀ n, n ≤ ds.length → ∀ j, j < n → ((List.range n).filterMap fun i : Nat => ds[i]?.map fun d => D.tup [.int (i : Int), d])[j]? = ds[j]?.map fun d => D.tup [.int (j : Int), d] := by
    intro n
    induction n with
    | zero => intro _ j hj; omega
    | succ n ih =>
      intro hn j hj
      rw [List.range_succ, List.filterMap_append]
      have hl : ((List.range n).filterMap fun i : Nat => ds[i]?.map fun d => D.tup [.int (i : Int), d]).length = n := by
        have h : ∀ (ks : List Nat), (∀ k ∈ ks, k < ds.length) → (ks.filterMap fun i : Nat => ds[i]?.map fun d => D.tup [.int (i : Int), d]).length = ks.length := by
          intro ks
          induction ks with
          | nil => intro _; rfl
          | cons k ks ih =>
            intro h
            rw [List.filterMap_cons, List.getElem?_eq_getElem (h k List.mem_cons_self)]
            exact congrArg (· + 1) (ih fun j hj => h j (List.mem_cons_of_mem _ hj))
        rw [h _ (fun k hk => Nat.lt_of_lt_of_le (List.mem_range.mp hk) (Nat.le_of_succ_le hn)), List.length_range]
      by_cases hjn : j < n
      · rw [List.getElem?_append_left (by rw [hl]; exact hjn)]
        exact ih (Nat.le_of_succ_le hn) j hjn
      · have ej : j = n := by omega
        subst ej
        rw [List.getElem?_append_right (by rw [hl]; exact Nat.le_refl _), hl, Nat.sub_self, List.filterMap_cons, List.getElem?_eq_getElem (show j < ds.length by omega)]
        rfl
  have z := key ds.length (Nat.le_refl _) i hi
  rw [h] at z
  exact z
section
variable {X : Cx} {C : Cc} {W : WX}
theorem Rl.newPair {σ : L2.St} {H F : Hp} {Γ : Env} {τ : Hand} {ow : Addr → Option Root} {p : Addr} {x y : V} {d e : D} (R : Rl C σ H Γ τ F ow) (hp : H p = none) (hx : Dt C.K C.cl F x d) (hy : Dt C.K C.cl F y e) : Rel C σ (upd H p (.tup [x, y])) Γ ((.ref p, .fz (.tup [d, e])) :: τ) :=
  R.newTup hp (by show 2 ≤ sizeLine; decide) (.cons hx (.cons hy .nil))
theorem iter_enumL {a : Addr} {ds : List D} : IterD C (Ite C.K a) (enumL ds) [(.ref a, .fz (.lst ds))] where
  go := fun i H σ Γ τ R hi => by
    rw [enumL_length] at hi
    obtain ⟨F, ow, R⟩ := R
    have h := R.temps.1
    cases h with
    | fz h =>
      cases h with
      | lst h1 _ h2 =>
        obtain ⟨v, e, _⟩ := h2.get (List.getElem?_eq_getElem hi)
        exact ⟨_, v, SqL.of (R.ex _ _ h1), e⟩
  yld := fun i H σ Γ τ x H' R hi y => by
    obtain ⟨F, ow, R⟩ := R
    have h := R.temps.1
    obtain ⟨p, z, rfl, hp, rfl, y⟩ := y
    cases h with
    | fz h =>
      cases h with
      | lst h1 _ h2 =>
        obtain ⟨d, e, hd⟩ := h2.getV (y _ (SqL.of (R.ex _ _ h1)))
        exact ⟨_, enumL_get e, R.newPair hp (.int _) hd⟩
  stop := fun H σ Γ τ R => by
    obtain ⟨F, ow, R⟩ := R
    have h := R.temps.1
    cases h with
    | fz h =>
      cases h with
      | lst h1 _ h2 => exact ⟨_, SqL.of (R.ex _ _ h1), by rw [enumL_length, h2.length]; exact Nat.le_refl _⟩
  fz := fun p hp => by
    cases hp with
    | head => exact ⟨_, rfl⟩
    | tail _ hp => cases hp
  len := fun H σ Γ τ R => by
    obtain ⟨F, ow, R⟩ := R
    have h := R.temps.1
    cases h with
    | fz h =>
      cases h with
      | lst _ hl h2 => rw [enumL_length, ← h2.length]; exact hl
theorem iter_enumT {a : Addr} {ds : List D} : IterD C (IteT C.K a) (enumL ds) [(.ref a, .fz (.tup ds))] where
  go := fun i H σ Γ τ R hi => by
    rw [enumL_length] at hi
    obtain ⟨F, ow, R⟩ := R
    have h := R.temps.1
    cases h with
    | fz h =>
      cases h with
      | tup h1 _ h2 =>
        obtain ⟨v, e, _⟩ := h2.get (List.getElem?_eq_getElem hi)
        exact ⟨_, v, R.ex.sqT h1, e⟩
  yld := fun i H σ Γ τ x H' R hi y => by
    obtain ⟨F, ow, R⟩ := R
    have h := R.temps.1
    obtain ⟨p, z, rfl, hp, rfl, y⟩ := y
    cases h with
    | fz h =>
      cases h with
      | tup h1 _ h2 =>
        obtain ⟨d, e, hd⟩ := h2.getV (y _ (R.ex.sqT h1))
        exact ⟨_, enumL_get e, R.newPair hp (.int _) hd⟩
  stop := fun H σ Γ τ R => by
    obtain ⟨F, ow, R⟩ := R
    have h := R.temps.1
    cases h with
    | fz h =>
      cases h with
      | tup h1 _ h2 => exact ⟨_, R.ex.sqT h1, by rw [enumL_length, h2.length]⟩
  fz := fun p hp => by
    cases hp with
    | head => exact ⟨_, rfl⟩
    | tail _ hp => cases hp
  len := fun H σ Γ τ R => by
    obtain ⟨F, ow, R⟩ := R
    have h := R.temps.1
    cases h with
    | fz h =>
      cases h with
      | tup _ hl h2 => rw [enumL_length, ← h2.length]; exact hl
def enumIt (f : M T) : M (List D) := bindM f fun t => bindM (frz t) fun t' => bindM (sqM t') fun q => match q with
  | .s _ => fun _ => .bad
  | q => retM (enumL q.ds)
theorem di_enum {e : Expr} {f : M T} {p pos tpos : Pos} {elts : List Expr} {kk : Nat} (hK : C.K = X.K) (hg : Gl X "enumerate") (hm : X.mg "enumerate" = none) (he : PE X e (rd C W f)) (hs : starEach [e] X.env = [(false, eval e X.env)] := by rfl) :
    PI X (.Tuple elts kk tpos) (.Call (.Name "enumerate" p) [e] [] pos) (rdI C W (enumIt f)) :=
  pi_sub (pi_enumA hg hm (pa_cons he pa_nil hs) hs) fun σ H R' ⟨Γ, τ, R, w⟩ => by
    refine rd_bind R w fun t Γ1 v H1 R1 w1 => ?_
    obtain ⟨d, Γ2, R2, w2⟩ := R1.frz (Out.wp_bind w1)
    obtain ⟨q, e1, w3⟩ := wp_sqM (Out.wp_bind w2)
    obtain ⟨F, ow, R2⟩ := R2
    obtain ⟨a, vs, rfl, hq, hd, hz⟩ := R2.sq R2.temps.1 e1
    refine ⟨a, vs, rfl, ?_⟩
    rw [← hK]
    cases d with
    | lst ds => cases e1; exact .inl ⟨SqL.of hq, w3 _ _ _ ⟨F, ow, R2⟩ iter_enumL⟩
    | tup ds => cases e1; exact .inr ⟨R2.ex.sqT hq, w3 _ _ _ ⟨F, ow, R2⟩ iter_enumT⟩
    | scr ns => cases e1; exact w3.elim
    | _ => cases e1
end
end DL
/-! operators by kinds; a def from its body -/
namespace DL
open PySem L2

/-! ### +, *, items by whatever kind -/
def addT (t1 t2 : T) : M T := fun Γ => match look Γ t1, look Γ t2 with
  | some (.int i), some (.int j) => .ok (.fz (.int (i + j))) Γ
  | some (.str x), some (.str y) => if x.length + y.length ≤ sizeLine then .ok (.fz (.str (x ++ y))) Γ else .bad
  | _, _ => match sqOf Γ t1, sqOf Γ t2 with
    | some (.l xs), some (.l ys) => if xs.length + ys.length ≤ sizeLine then .ok (.ol ((xs ++ ys).map T.fz)) Γ else .bad
    | some (.t xs), some (.t ys) => if xs.length + ys.length ≤ sizeLine then .ok (.fz (.tup (xs ++ ys))) Γ else .bad
    | _, _ => .bad
def addM (a b : M T) : M T := bindM a fun t1 => bindM b fun t2 => addT t1 t2
def mulT (t1 t2 : T) : M T := fun Γ => match look Γ t2 with
  | some (.int k) => match look Γ t1 with
    | some (.int i) => if small64 i || small64 k then .ok (.fz (.int (i * k))) Γ else .bad
    | _ => match sqOf Γ t1 with
      | some (.l xs) => if (decide (-(2 ^ 63) ≤ k) && decide (k < 2 ^ 63) && decide (xs.length * k.toNat ≤ sizeLine)) = true then .ok (.ol ((repL xs k).map T.fz)) Γ else .bad
      | _ => .bad
  | _ => .bad
def mulM (a b : M T) : M T := bindM a fun t1 => bindM b fun t2 => mulT t1 t2
section
variable {X : Cx} {C : Cc} {W : WX}
theorem de_add {a b : Expr} {fa fb : M T} {pos : Pos} (hK : C.K = X.K) (ha : PE X a (rd C W fa)) (hb : PE X b (rd C W fb)) : PE X (.BinOp a .Add b pos) (rd C W (addM fa fb)) :=
  pe_sub (pe_op (op_add.or (op_add_str.or (op_cat.or op_catA))) ha hb) fun σ H Q ⟨Γ, τ, R, w⟩ => by
    refine rd_bind R w fun t1 Γ1 v1 H1 R1 w1 => ?_
    refine rd_bind R1 (wp_under w1) fun t2 Γ2 v2 H2 R2 w2 => ?_
    obtain ⟨F, ow, R2⟩ := R2
    unfold addT at w2
    split at w2
    · rename_i i j e1 e2
      have h1 := R2.look R2.temps.2.1 e1
      have h2 := R2.look R2.temps.1 e2
      cases h1
      cases h2
      exact .inl ⟨i, j, rfl, rfl, w2 _ _ (Rel.scal ⟨F, ow, R2.pop.pop⟩ (.int _))⟩
    · rename_i x y e1 e2
      split at w2
      · rename_i hz
        have h1 := R2.look R2.temps.2.1 e1
        have h2 := R2.look R2.temps.1 e2
        cases h1
        cases h2
        exact .inr (.inl ⟨x, y, rfl, rfl, hz, w2 _ _ (Rel.scal ⟨F, ow, R2.pop.pop⟩ (.str _))⟩)
      · exact w2.elim
    · split at w2
      · rename_i xs ys e1 e2
        split at w2
        · rename_i hz
          obtain ⟨a1, vs1, rfl, hq1, hd1, hz1⟩ := R2.sq R2.temps.2.1 e1
          obtain ⟨a2, vs2, rfl, hq2, hd2, hz2⟩ := R2.sq R2.temps.1 e2
          have hl : vs1.length + vs2.length ≤ sizeLine := by
            rw [hd1.length, hd2.length]
            exact hz
          exact .inr (.inr (.inl ⟨a1, a2, vs1, vs2, rfl, rfl, hq1, hq2, hl, fun p hp => w2 _ _ (R2.pop.pop.newList hp (by rw [List.length_append]; exact hl) (hd1.append hd2))⟩))
        · exact w2.elim
      · rename_i xs ys e1 e2
        split at w2
        · rename_i hz
          obtain ⟨a1, vs1, rfl, hq1, hd1, hz1⟩ := R2.sq R2.temps.2.1 e1
          obtain ⟨a2, vs2, rfl, hq2, hd2, hz2⟩ := R2.sq R2.temps.1 e2
          have hl : vs1.length + vs2.length ≤ sizeLine := by
            rw [hd1.length, hd2.length]
            exact hz
          rw [← hK]
          refine .inr (.inr (.inr ⟨a1, a2, vs1, vs2, rfl, rfl, R2.ex.sqT hq1, R2.ex.sqT hq2, hl, fun z => ?_, fun _ z => ?_, fun _ _ p hp => w2 _ _ (R2.pop.pop.newTup hp (by rw [List.length_append]; exact hl) (hd1.append hd2))⟩))
          · subst z
            have e4 : xs = [] := by
              cases xs with
              | nil => rfl
              | cons _ _ => cases hd1
            subst e4
            exact w2 _ _ ⟨F, ow, R2.pop.pop.push (.tup hq2 hz2 hd2)⟩
          · subst z
            have e4 : ys = [] := by
              cases ys with
              | nil => rfl
              | cons _ _ => cases hd2
            subst e4
            rw [List.append_nil] at w2
            exact w2 _ _ ⟨F, ow, R2.pop.pop.push (.tup hq1 hz1 hd1)⟩
        · exact w2.elim
      · exact w2.elim
theorem de_mul {a b : Expr} {fa fb : M T} {pos : Pos} (ha : PE X a (rd C W fa)) (hb : PE X b (rd C W fb)) : PE X (.BinOp a .Mult b pos) (rd C W (mulM fa fb)) :=
  pe_sub (pe_op (op_mul.or op_rep) ha hb) fun σ H Q ⟨Γ, τ, R, w⟩ => by
    refine rd_bind R w fun t1 Γ1 v1 H1 R1 w1 => ?_
    refine rd_bind R1 (wp_under w1) fun t2 Γ2 v2 H2 R2 w2 => ?_
    obtain ⟨F, ow, R2⟩ := R2
    unfold mulT at w2
    split at w2
    · rename_i k e2
      have h2 := R2.look R2.temps.1 e2
      cases h2
      split at w2
      · rename_i i e1
        have h1 := R2.look R2.temps.2.1 e1
        cases h1
        split at w2
        · rename_i hs
          refine .inl ⟨i, k, rfl, rfl, ?_, w2 _ _ (Rel.scal ⟨F, ow, R2.pop.pop⟩ (.int _))⟩
          simp only [small64, Bool.or_eq_true, Bool.and_eq_true, decide_eq_true_eq] at hs
          exact hs
        · exact w2.elim
      · split at w2
        · rename_i xs e1
          split at w2
          · rename_i hs
            obtain ⟨a1, vs1, rfl, hq1, hd1, hz1⟩ := R2.sq R2.temps.2.1 e1
            simp only [Bool.and_eq_true, decide_eq_true_eq] at hs
            have hl : vs1.length * k.toNat ≤ sizeLine := by
              rw [hd1.length]
              exact hs.2
            refine .inr ⟨a1, k, vs1, rfl, rfl, hq1, hs.1.1, hs.1.2, hl, fun p hp => w2 _ _ (R2.pop.pop.newList hp ?_ (hd1.rep _))⟩
            rw [List.length_flatten, List.map_replicate, List.sum_replicate_nat, Nat.mul_comm]
            exact hl
          · exact w2.elim
        · exact w2.elim
    · exact w2.elim
/-- an item of a list, a tuple, a text -/
def ixT (t1 t2 : T) : M T := fun Γ => match look Γ t2 with
  | some (.int i) => match sqOf Γ t1 with
    | some q => match atI q.ds i with
      | some d => .ok (.fz d) Γ
      | none => .bad
    | none => match look Γ t1 with
      | some (.str z) => if z.length ≤ sizeLine then match atI z.cps.toList i with
          | some c => .ok (.fz (.str ⟨#[c]⟩)) Γ
          | none => .bad
        else .bad
      | _ => .bad
  | _ => .bad
def ixA (a b : M T) : M T := bindM a fun t1 => bindM b fun t2 => ixT t1 t2
theorem de_ixA {a b : Expr} {fa fb : M T} {pos : Pos} (hK : C.K = X.K) (ha : PE X a (rd C W fa)) (hb : PE X b (rd C W fb)) (hs : PlainIx b := by exact fun _ _ => rfl) : PE X (.Subscript a b pos) (rd C W (ixA fa fb)) :=
  pe_sub (pe_ix (ix_list.or (ix_tup.or ix_str)) ha hb hs) fun σ H Q ⟨Γ, τ, R, w⟩ => by
    refine rd_bind R w fun t1 Γ1 v1 H1 R1 w1 => ?_
    refine rd_bind R1 (wp_under w1) fun t2 Γ2 v2 H2 R2 w2 => ?_
    obtain ⟨F, ow, R2⟩ := R2
    unfold ixT at w2
    split at w2
    · rename_i i e2
      have h2 := R2.look R2.temps.1 e2
      cases h2
      split at w2
      · rename_i q e1
        split at w2
        · rename_i d e3
          obtain ⟨p, vs, rfl, hq, hd, _⟩ := R2.sq R2.temps.2.1 e1
          obtain ⟨v, e4, hv⟩ := Dts.atI hd e3
          have fin := w2 v H2 ⟨F, ow, R2.pop.pop.push hv⟩
          rw [← hK]
          cases q with
          | l ds => exact .inl ⟨p, vs, i, v, rfl, rfl, SqL.of hq, e4, fin⟩
          | t ds => exact .inr (.inl ⟨p, vs, i, v, rfl, rfl, R2.ex.sqT hq, e4, fin⟩)
          | s ns => exact .inl ⟨p, vs, i, v, rfl, rfl, hq, e4, fin⟩
        · exact w2.elim
      · split at w2
        · rename_i z e1
          split at w2
          · rename_i hz
            split at w2
            · rename_i c e3
              have h1 := R2.look R2.temps.2.1 e1
              cases h1
              exact .inr (.inr ⟨z, i, c, rfl, rfl, hz, e3, w2 _ _ (Rel.scal ⟨F, ow, R2.pop.pop⟩ (.str _))⟩)
            · exact w2.elim
          · exact w2.elim
        · exact w2.elim
    · exact w2.elim
/-- a < b < c, b of no heap's -/
def chainM (f g : D → D → Option D) (a b c : M T) : M T := bindM a fun t1 => bindM b fun t2 => bindM (lookM t1) fun d1 => bindM (lookM t2) fun d2 => bindM (guardM d2.scal) fun _ => bindM (optM (f d1 d2)) fun z => bindM (optM z.toB) fun k =>
  if k then bindM c fun t3 => bindM (lookM t3) fun d3 => bindM (optM (g d2 d3)) fun d => retM (.fz d) else retM (.fz (.bl false))
theorem chain_go {r r' : R2} {f g : D → D → Option D} {fa fb fc : M T} (s : Sc2 C.K C.cl r f) (s' : Sc2 C.K C.cl r' g) {σ : St} {H : Hp} {Q : VK} (h : rd C W (chainM f g fa fb fc) σ H Q) : tChain r r' (rd C W fa) (rd C W fb) (rd C W fc) σ H Q := by
  obtain ⟨Γ, τ, R, w⟩ := h
  refine rd_bind R w fun t1 Γ1 v1 H1 R1 w1 => ?_
  refine rd_bind R1 (wp_under w1) fun t2 Γ2 v2 H2 R2 w2 => ?_
  obtain ⟨d1, e1, w3⟩ := wp_lookM (Out.wp_bind w2)
  obtain ⟨d2, e2, w4⟩ := wp_lookM (Out.wp_bind w3)
  obtain ⟨e0, w4⟩ := wp_guardM (Out.wp_bind w4)
  obtain ⟨z, e3, w5⟩ := wp_optM (Out.wp_bind w4)
  obtain ⟨k, e4, w6⟩ := wp_optM (Out.wp_bind w5)
  have R2' := R2
  obtain ⟨F, ow, R2⟩ := R2
  have h2 := (R2.look R2.temps.1 e2).scal e0
  refine s H2 v1 v2 d1 d2 z _ (R2.look R2.temps.2.1 e1) (R2.look R2.temps.1 e2) e3 fun v hv => ?_
  cases z with
  | bl b' =>
    have ek : b' = k := Option.some.inj e4
    subst ek
    cases hv
    refine ⟨b', rfl, ?_⟩
    cases b' with
    | true =>
      refine rd_bind R2' (wp_under w6) fun t3 Γ3 v3 H3 R3 w7 => ?_
      obtain ⟨d3, e5, w8⟩ := wp_lookM (Out.wp_bind w7)
      obtain ⟨d, e6, w9⟩ := wp_optM (Out.wp_bind w8)
      obtain ⟨F3, ow3, R3⟩ := R3
      exact s' H3 v2 v3 d2 d3 d Q (h2.mono (sub_emp H3)) (R3.look R3.temps.1 e5) e6 fun v hv => w9 v H3 (Rel.scal ⟨F3, ow3, R3.pop.pop.pop⟩ hv)
    | false => exact w6 _ _ (Rel.scal ⟨F, ow, R2.pop.pop⟩ (.bl false))
  | _ => cases e4
theorem de_chain {op op' : CmpOp} {r r' : R2} {f g : D → D → Option D} {fa fb fc : M T} {a b c : Expr} {pos : Pos} (ho : OpR X (compareOp op) r) (ho' : OpR X (compareOp op') r') (s : Sc2 C.K C.cl r f) (s' : Sc2 C.K C.cl r' g) (ha : PE X a (rd C W fa)) (hb : PE X b (rd C W fb)) (hc : PE X c (rd C W fc))
    (hm : lastMarks [op, op'] [b, c] = false := by with_unfolding_all rfl) : PE X (.Compare a [op, op'] [b, c] pos) (rd C W (chainM f g fa fb fc)) := pe_sub (pe_chain ho ho' ha hb hc hm) fun σ H Q q => chain_go s s' q
theorem dt_chain {op op' : CmpOp} {r r' : R2} {f g : D → D → Option D} {fa fb fc : M T} {a b c : Expr} {pos : Pos} (ho : OpR X (compareOp op) r) (ho' : OpR X (compareOp op') r') (s : Sc2 C.K C.cl r f) (s' : Sc2 C.K C.cl r' g) (ha : PE X a (rd C W fa)) (hb : PE X b (rd C W fb)) (hc : PE X c (rd C W fc))
    (hm : lastMarks [op, op'] [b, c] = false := by with_unfolding_all rfl) : PT X (.Compare a [op, op'] [b, c] pos) (rdT C W (boolM (chainM f g fa fb fc))) := pt_sub (pt_chain ho ho' ha hb hc hm) fun σ H Q q => chain_go s s' (rdT_bool q)
end

/-! ### a def from its body -/
def cvOf (l : List Nat) (i : Nat) : Bool := l.any (· == i)
section
variable {P : Program} {w : World} {K : PySem.W.Frag} {mg : Str → Option Value} {base : Heap} {cl : Cl}
theorem fun_okD {x qual : Str} {st : Stmt} {f : Addr} {fd : FuncData} {N ps : List Str} {k n m : Nat} {ref : Bool} {den : M Flow} {cv : Nat → Bool} (F : Fun K x qual st f fd) (S : FnScope N ps (defScope st)) (hn : ps.length = n) (hN : N.length = m)
    (hb : ∀ (cdv : Value) (A : Around) (outer : List PySem.Env) (s : Shared) (H : Hp) (vs : List V) (E : XK), Room k (A.deeper (PyProof.Rows.envOfC qual (defScope st) s.heap.objs.size f cdv)) → ∀ H0 F0 mu, PSs (cxOf (L2.CX P w) P w K mg base N qual (defScope st) f cdv A outer s H E) (defBody st) (rdS ⟨K, cl, H0, F0, mu, refPin ref vs, cv⟩ (WE' E) den)) :
    FnOk P w K mg base (L2.CX P w) (k + 1) f fd ps (spOf K cl n ref (callF m den)) := by
  refine F.okX S (fun vs H Q E h => by rw [h.1, hn]) (fun cdv A outer s H vs Q E hr h => ?_)
  have hle : n ≤ m := by
    rw [← hn, ← hN]
    have z := S.pre
    have z2 : (N.take ps.length).length = ps.length := by rw [z]
    rw [List.length_take] at z2
    omega
  exact body_ok hN hle (fun H0 F0 mu => hb cdv A outer s H vs E hr H0 F0 mu) h
theorem kbinds_of {x qual : Str} {st : Stmt} {f : Addr} {fd : FuncData} {ps ks : List Str} {is : List Nat} {n m : Nat} (F : Fun K x qual st f fd)
    (h : ∀ (kV doc pm : Value) (an : Option Addr) (cdv ct : Value) (us ws : List Value), us.length = n → ws.length = m → bindArgs (PySem.W.fnOf x qual (defArgs st) (defBody st) (defScope st) .none kV doc pm an cdv ct) ⟨us, ks.zip ws⟩ = pure (ps.zip (pick is (us ++ ws)))) :
    ∀ (s : Shared) (us ws : List Value), us.length = n → ws.length = m → BindsTo s fd ⟨us, ks.zip ws⟩ (ps.zip (pick is (us ++ ws))) := by
  obtain ⟨oc, od, kV, doc, pm, an, cdv, ct, osl, rfl, lk, hcd⟩ := F.ex
  exact fun s us ws h1 h2 => .of_eq (h kV doc pm an cdv ct us ws h1 h2)
theorem fn_bad {k n : Nat} {f : Addr} {fd : FuncData} {ps : List Str} {ref : Bool} (hn : ps.length = n) : FnOk P w K mg base (L2.CX P w) k f fd ps (spOf K cl n ref fun _ => .bad) where
  len := fun vs H Q E h => by rw [h.1, hn]
  run := fun A outer s H args us vs Q E hr he hb hv h => by
    obtain ⟨_, F, S, ts, _, _, _, _, _, w⟩ := h
    exact w.elim
end
end DL
/-! how meanings come out -/
namespace DL
open PySem L2
def slt : Option (Option T) → Option T
  | some o => o
  | none => none
def fzo : Option T → Option D
  | some (.fz d) => some d
  | _ => none
def olo : Option T → Option (List T)
  | some (.ol ts) => some ts
  | _ => none
def orB {α β : Type} (o : Option α) (k : α → Out β) : Out β := match o with
  | some a => k a
  | none => .bad
def bnd {α β : Type} (o : Option α) (k : α → Option β) : Option β := match o with
  | some a => k a
  | none => none
def gd {α : Type} (b : Bool) (o : Out α) : Out α := match b with
  | true => o
  | false => .bad
def dOf : T → M D
  | .fz d => retM d
  | _ => fun _ => .bad
def thenM (q : M Flow) : Flow → M Flow
  | .next => q
  | fl => retM fl
def xB {α : Type} : Out α → Out α
  | .exc _ _ => .bad
  | o => o
def ixS (q : Option Sq) (o : Option D) (k : Int) (Γ : Env) : Out T := match q with
  | some q => orB (atI q.ds k) fun d => .ok (.fz d) Γ
  | none => match o with
    | some (.str z) => gd (decide (z.length ≤ sizeLine)) (orB (atI z.cps.toList k) fun c => .ok (.fz (.str ⟨#[c]⟩)) Γ)
    | _ => .bad
def revQ : Sq → M T
  | .l ds => retM (.ol (ds.reverse.map T.fz))
  | .s ns => retM (.ol ((ns.map D.int).reverse.map T.fz))
  | .t _ => fun _ => .bad
def enumQ : Sq → M (List D)
  | .s _ => fun _ => .bad
  | q => retM (enumL q.ds)
def cOut (ts : List T) (Γ : Env) : Out T → Out T
  | .ok t _ => gd (!t.isAl && ((T.fzs ts).isSome || t.scal)) (.ok t Γ)
  | .exc x _ => gd ((T.fzs ts).isSome || x.fds.all (fun p => p.2.scal)) (.exc x Γ)
  | .bad => .bad
def rOut (i : Nat) (Γ : Env) : Out T → Out T
  | .ok t Γ' => gd (!t.isAl) (.ok t (Γ.set i (joinAt Γ')))
  | .exc x Γ' => .exc x (Γ.set i (joinAt Γ'))
  | .bad => .bad
def kOut (Γ : Env) : Out T → Out T
  | .ok t _ => gd (!t.isAl) (.ok t Γ)
  | .exc x _ => .exc x Γ
  | .bad => .bad
def callRL (F : FSem) : List T → M T
  | o :: tr => bindM (optM (T.fzs tr)) fun ds => callRT F o ds
  | [] => fun _ => .bad
def parK (i j : Nat) : List T → M Flow
  | [t1, t2] => fun Γ => gd (!(t1.isAl || t2.isAl)) (.ok .next ((Γ.set i (some t1)).set j (some t2)))
  | _ => fun _ => .bad
def loopK (h : D → M Unit) (b : M Flow) (ds : List D) : Flow → M Flow
  | .next => loopM h b ds
  | .cont => loopM h b ds
  | .brk => retM .next
  | .ret t => retM (.ret t)
def outF : Out Flow → Out T
  | .ok (.ret t) Γ' => .ok t Γ'
  | .ok .next Γ' => .ok (.fz .non) Γ'
  | .exc x Γ' => .exc x Γ'
  | _ => .bad
theorem orB_m {α β : Type} (o : Option α) (k : α → Out β) : (match o with | some a => k a | none => .bad) = orB o k := by cases o <;> exact rfl
theorem gd_ite {α : Type} (b : Bool) (o : Out α) : (if b = true then o else .bad) = gd b o := by cases b <;> exact rfl
section
variable {α β : Type} {Γ Γ' : Env} {a : α} {x : Exn} {f g : M T} {i j : Nat} {t t1 t2 : T} {d d1 d2 : D}
@[simp] theorem slt_s {o : Option T} : slt (some o) = o := by exact rfl
@[simp] theorem slt_n : slt none = none := by exact rfl
@[simp] theorem fzo_s : fzo (some (.fz d)) = some d := by exact rfl
@[simp] theorem fzo_l {ts : List T} : fzo (some (.ol ts)) = none := by exact rfl
@[simp] theorem fzo_n : fzo none = none := by exact rfl
@[simp] theorem olo_s {ts : List T} : olo (some (.ol ts)) = some ts := by exact rfl
@[simp] theorem olo_f : olo (some (.fz d)) = none := by exact rfl
@[simp] theorem olo_n : olo none = none := by exact rfl
@[simp] theorem orB_s {k : α → Out β} : orB (some a) k = k a := by exact rfl
@[simp] theorem orB_n {k : α → Out β} : orB none k = .bad := by exact rfl
@[simp] theorem bnd_s {k : α → Option β} : bnd (some a) k = k a := by exact rfl
@[simp] theorem bnd_n {k : α → Option β} : bnd none k = none := by exact rfl
@[simp] theorem gd_t {o : Out α} : gd true o = o := by exact rfl
@[simp] theorem gd_f {o : Out α} : gd false o = .bad := by exact rfl
@[simp] theorem dOf_f : dOf (.fz d) Γ = .ok d Γ := by exact rfl
@[simp] theorem then_n {q : M Flow} : thenM q .next Γ = q Γ := by exact rfl
@[simp] theorem then_r {q : M Flow} : thenM q (.ret t) Γ = .ok (.ret t) Γ := by exact rfl
@[simp] theorem then_b {q : M Flow} : thenM q .brk Γ = .ok .brk Γ := by exact rfl
@[simp] theorem then_c {q : M Flow} : thenM q .cont Γ = .ok .cont Γ := by exact rfl
@[simp] theorem xB_o : xB (.ok a Γ) = .ok a Γ := by exact rfl
@[simp] theorem xB_x : xB (.exc x Γ : Out α) = .bad := by exact rfl
@[simp] theorem xB_b : xB (.bad : Out α) = .bad := by exact rfl
@[simp] theorem ixS_s {q : Sq} {o : Option D} {k : Int} : ixS (some q) o k Γ = orB (atI q.ds k) fun d => .ok (.fz d) Γ := by exact rfl
@[simp] theorem ixS_t {z : Str} {k : Int} : ixS none (some (.str z)) k Γ = gd (decide (z.length ≤ sizeLine)) (orB (atI z.cps.toList k) fun c => .ok (.fz (.str ⟨#[c]⟩)) Γ) := by exact rfl
@[simp] theorem revQ_l {ds : List D} : revQ (.l ds) Γ = .ok (.ol (ds.reverse.map T.fz)) Γ := by exact rfl
@[simp] theorem enumQ_l {ds : List D} : enumQ (.l ds) Γ = .ok (enumL ds) Γ := by exact rfl
@[simp] theorem enumQ_t {ds : List D} : enumQ (.t ds) Γ = .ok (enumL ds) Γ := by exact rfl
@[simp] theorem cOut_o {ts : List T} : cOut ts Γ (.ok t Γ') = gd (!t.isAl && ((T.fzs ts).isSome || t.scal)) (.ok t Γ) := by exact rfl
@[simp] theorem cOut_x {ts : List T} : cOut ts Γ (.exc x Γ') = gd ((T.fzs ts).isSome || x.fds.all (fun p => p.2.scal)) (.exc x Γ) := by exact rfl
@[simp] theorem rOut_o : rOut i Γ (.ok t Γ') = gd (!t.isAl) (.ok t (Γ.set i (joinAt Γ'))) := by exact rfl
@[simp] theorem rOut_x : rOut i Γ (.exc x Γ') = .exc x (Γ.set i (joinAt Γ')) := by exact rfl
@[simp] theorem kOut_o : kOut Γ (.ok t Γ') = gd (!t.isAl) (.ok t Γ) := by exact rfl
@[simp] theorem kOut_x : kOut Γ (.exc x Γ') = .exc x Γ := by exact rfl
@[simp] theorem callRL_c {F : FSem} {o : T} {tr : List T} : callRL F (o :: tr) Γ = orB (T.fzs tr) fun ds => callRT F o ds Γ := by
  show (optM (T.fzs tr) Γ).bind _ = _
  cases T.fzs tr <;> exact rfl
@[simp] theorem parK_c : parK i j [t1, t2] Γ = gd (!(t1.isAl || t2.isAl)) (.ok .next ((Γ.set i (some t1)).set j (some t2))) := by exact rfl
@[simp] theorem loopK_n {h : D → M Unit} {b : M Flow} {ds : List D} : loopK h b ds .next Γ = loopM h b ds Γ := by exact rfl
@[simp] theorem loopK_c {h : D → M Unit} {b : M Flow} {ds : List D} : loopK h b ds .cont Γ = loopM h b ds Γ := by exact rfl
@[simp] theorem loopK_b {h : D → M Unit} {b : M Flow} {ds : List D} : loopK h b ds .brk Γ = .ok .next Γ := by exact rfl
@[simp] theorem loopK_r {h : D → M Unit} {b : M Flow} {ds : List D} : loopK h b ds (.ret t) Γ = .ok (.ret t) Γ := by exact rfl
@[simp] theorem outF_r : outF (.ok (.ret t) Γ') = .ok t Γ' := by exact rfl
@[simp] theorem outF_n : outF (.ok .next Γ') = .ok (.fz .non) Γ' := by exact rfl
@[simp] theorem outF_x : outF (.exc x Γ') = .exc x Γ' := by exact rfl
@[simp] theorem outF_b : outF .bad = .bad := by exact rfl
end
section
variable {α β : Type} {Γ Γ' : Env} {a : α} {x : Exn} {f g : M T} {i j : Nat} {t t1 t2 : T} {d d1 d2 : D}
@[simp] theorem ev_bind (f : M α) (k : α → M β) : bindM f k Γ = (f Γ).bind k := by exact rfl
@[simp] theorem ev_ok (k : α → M β) : (Out.ok a Γ).bind k = k a Γ := by exact rfl
@[simp] theorem ev_exc (k : α → M β) : (Out.exc x Γ : Out α).bind k = .exc x Γ := by exact rfl
@[simp] theorem ev_bad (k : α → M β) : (Out.bad : Out α).bind k = .bad := by exact rfl
@[simp] theorem ev_ret : retM a Γ = .ok a Γ := by exact rfl
@[simp] theorem ev_optS : optM (some a) Γ = .ok a Γ := by exact rfl
@[simp] theorem ev_optN : optM (none : Option α) Γ = .bad := by exact rfl
@[simp] theorem ev_const : constM d Γ = .ok (.fz d) Γ := by exact rfl
def rdV (i : Nat) (Γ : Env) : Option (Option T) → Out T
  | some (some (.fz d)) => .ok (.fz d) Γ
  | some (some _) => .ok (.al i) Γ
  | _ => .bad
@[simp] theorem ev_var : varM i Γ = rdV i Γ Γ[i]? := by exact rfl
@[simp] theorem rdV_fz : rdV i Γ (some (some (.fz d))) = .ok (.fz d) Γ := by exact rfl
@[simp] theorem rdV_ol {ts : List T} : rdV i Γ (some (some (.ol ts))) = .ok (.al i) Γ := by exact rfl
@[simp] theorem rdV_no : rdV i Γ (some none) = .bad := by exact rfl
@[simp] theorem ev_varF : varF i Γ = orB (fzo (slt Γ[i]?)) fun d => .ok (.fz d) Γ := by
  unfold varF
  generalize Γ[i]? = o
  rcases o with _ | _ | t <;> try exact rfl
  cases t <;> exact rfl
@[simp] theorem ev_look : lookM t Γ = orB (look Γ t) fun d => .ok d Γ := by
  unfold lookM
  cases look Γ t <;> exact rfl
@[simp] theorem ev_lookF : look Γ (.fz d) = some d := by exact rfl
@[simp] theorem ev_lookA : look Γ (.al i) = bnd (slt Γ[i]?) T.toD := by
  unfold look
  dsimp only
  generalize Γ[i]? = o
  rcases o with _ | _ | t <;> exact rfl
@[simp] theorem ev_lookL {ts : List T} : look Γ (.ol ts) = (T.toDs ts).map D.lst := by exact rfl
@[simp] theorem ev_toDF : (T.fz d).toD = some d := by exact rfl
@[simp] theorem ev_toDL {ts : List T} : (T.ol ts).toD = (T.toDs ts).map D.lst := by exact rfl
@[simp] theorem ev_toDs0 : T.toDs [] = some [] := by exact rfl
@[simp] theorem ev_toDs1 {ts : List T} : T.toDs (.fz d :: ts) = (T.toDs ts).map (d :: ·) := by
  show (match some d, T.toDs ts with | some d, some ds => some (d :: ds) | _, _ => none) = _
  cases T.toDs ts <;> rfl
@[simp] theorem ev_toDsM : ∀ {ds : List D}, T.toDs (ds.map T.fz) = some ds
  | [] => rfl
  | d :: ds => by rw [List.map_cons, ev_toDs1, ev_toDsM]; rfl
@[simp] theorem ev_fzs0 : T.fzs [] = some [] := by exact rfl
@[simp] theorem ev_fzs1 {ts : List T} : T.fzs (.fz d :: ts) = (T.fzs ts).map (d :: ·) := by exact rfl
@[simp] theorem ev_fzsM : ∀ {ds : List D}, T.fzs (ds.map T.fz) = some ds
  | [] => rfl
  | d :: ds => by rw [List.map_cons, ev_fzs1, ev_fzsM]; rfl
@[simp] theorem ev_sq : sqM t Γ = orB (sqOf Γ t) fun q => .ok q Γ := by
  unfold sqM
  cases sqOf Γ t <;> exact rfl
@[simp] theorem ev_sqF : sqOf Γ (.fz d) = (T.fz d).sq := by exact rfl
@[simp] theorem ev_sqL {ts : List T} : sqOf Γ (.ol ts) = (T.fzs ts).map Sq.l := by exact rfl
@[simp] theorem ev_sqA : sqOf Γ (.al i) = bnd (slt Γ[i]?) T.sq := by
  unfold sqOf
  dsimp only
  generalize Γ[i]? = o
  rcases o with _ | _ | t <;> exact rfl
@[simp] theorem ev_sq1 {ds : List D} : (T.fz (.lst ds)).sq = some (.l ds) := by exact rfl
@[simp] theorem ev_sq2 {ds : List D} : (T.fz (.tup ds)).sq = some (.t ds) := by exact rfl
@[simp] theorem ev_sq3 {ns : List Int} : (T.fz (.scr ns)).sq = some (.s ns) := by exact rfl
@[simp] theorem ev_sq4 {ts : List T} : (T.ol ts).sq = (T.fzs ts).map Sq.l := by exact rfl
@[simp] theorem ev_sq5 {k : Int} : (T.fz (.int k)).sq = none := by exact rfl
@[simp] theorem ev_sq6 {s : Str} : (T.fz (.str s)).sq = none := by exact rfl
@[simp] theorem ev_ds1 {ds : List D} : (Sq.l ds).ds = ds := by exact rfl
@[simp] theorem ev_ds2 {ds : List D} : (Sq.t ds).ds = ds := by exact rfl
@[simp] theorem ev_ds3 {ns : List Int} : (Sq.s ns).ds = ns.map D.int := by exact rfl
@[simp] theorem ev_settleF : settle (.fz d) Γ = .ok (.fz d) Γ := by exact rfl
@[simp] theorem ev_settleL {ts : List T} : settle (.ol ts) Γ = .ok (.ol ts) Γ := by exact rfl
@[simp] theorem ev_settleA : settle (.al i) Γ = orB (bnd (slt Γ[i]?) T.toD) fun d => .ok (.fz d) (Γ.set i (some (.fz d))) := by
  unfold settle
  dsimp only
  generalize Γ[i]? = o
  rcases o with _ | _ | t <;> try exact rfl
  dsimp only [slt, bnd]
  cases t.toD <;> exact rfl
@[simp] theorem ev_frzF : frz (.fz d) Γ = .ok (.fz d) Γ := by exact rfl
@[simp] theorem ev_frzL {ts : List T} : frz (.ol ts) Γ = orB ((T.ol ts).toD) fun d => .ok (.fz d) Γ := by
  unfold frz
  dsimp only
  cases (T.ol ts).toD <;> exact rfl
@[simp] theorem ev_frzA : frz (.al i) Γ = orB (bnd (slt Γ[i]?) T.toD) fun d => .ok (.fz d) (Γ.set i (some (.fz d))) := by
  unfold frz
  dsimp only
  generalize Γ[i]? = o
  rcases o with _ | _ | t <;> try exact rfl
  dsimp only [slt, bnd]
  cases t.toD <;> exact rfl
@[simp] theorem ev_frozen : frozen f Γ = (f Γ).bind frz := by exact rfl
@[simp] theorem ev_settled : settled f Γ = (f Γ).bind settle := by exact rfl
@[simp] theorem ev_fzD : fzD f Γ = (frozen f Γ).bind dOf := by exact rfl
@[simp] theorem ev_op2 (h : D → D → Option D) : op2 h f g Γ = (f Γ).bind fun t1 => bindM g fun t2 => bindM (lookM t1) fun d1 => bindM (lookM t2) fun d2 => bindM (optM (h d1 d2)) fun d => retM (.fz d) := by exact rfl
@[simp] theorem ev_op1 (h : D → Option D) : op1 h f Γ = (f Γ).bind fun t1 => bindM (lookM t1) fun d1 => bindM (optM (h d1)) fun d => retM (.fz d) := by exact rfl
@[simp] theorem ev_boolM : boolM f Γ = (f Γ).bind fun t => bindM (lookM t) fun d => optM d.toB := by exact rfl
@[simp] theorem ev_toB {b : Bool} : (D.bl b).toB = some b := by exact rfl
@[simp] theorem ev_intM : intM f Γ = (f Γ).bind fun t => bindM (lookM t) fun d => optM d.toI := by exact rfl
@[simp] theorem ev_toI {k : Int} : (D.int k).toI = some k := by exact rfl
@[simp] theorem ev_andM (p q : M Bool) : andM p q Γ = (p Γ).bind fun b => if b then q else retM false := by exact rfl
@[simp] theorem ev_orM (p q : M Bool) : orM p q Γ = (p Γ).bind fun b => if b then retM true else q := by exact rfl
@[simp] theorem ev_notM (p : M Bool) : notM p Γ = (p Γ).bind fun b => retM (!b) := by exact rfl
@[simp] theorem ev_ifM (c : M Bool) (p q : M α) : ifM c p q Γ = (c Γ).bind fun b => if b then p else q := by exact rfl
@[simp] theorem ev_ifS (c : M Bool) (p q : M Flow) : ifS c p q Γ = (c Γ).bind fun b => if b then p else q := by exact rfl
@[simp] theorem ev_ite (c : Prop) [Decidable c] (p q : M α) : (if c then p else q) Γ = if c then p Γ else q Γ := by split <;> rfl
@[simp] theorem ev_andV : andV f g Γ = (boolM f Γ).bind fun b => if b then bindM g settle else retM (.fz (.bl false)) := by exact rfl
@[simp] theorem ev_orV : orV f g Γ = (boolM f Γ).bind fun b => if b then retM (.fz (.bl true)) else bindM g settle := by exact rfl
@[simp] theorem ev_notV : notV f Γ = (boolM f Γ).bind fun b => retM (.fz (.bl (!b))) := by exact rfl
@[simp] theorem ev_seq (p q : M Flow) : seqM p q Γ = (p Γ).bind (thenM q) := by exact rfl
@[simp] theorem ev_skip : skipM Γ = .ok .next Γ := by exact rfl
@[simp] theorem ev_expr : exprM f Γ = (f Γ).bind fun _ => retM .next := by exact rfl
@[simp] theorem ev_retS : retS f Γ = (f Γ).bind fun t => bindM (settle t) fun t' => retM (.ret t') := by exact rfl
@[simp] theorem ev_setM : setM i f Γ = (f Γ).bind fun t => bindM (settle t) fun t' => fun Γ => .ok .next (Γ.set i (some t')) := by exact rfl
@[simp] theorem ev_asg (h : D → M Unit) : asgM f h Γ = (fzD f Γ).bind fun d => bindM (h d) fun _ => retM .next := by exact rfl
@[simp] theorem ev_nameG : nameG i d Γ = .ok () (Γ.set i (some (.fz d))) := by exact rfl
@[simp] theorem ev_namesG0 : namesG [] [] Γ = .ok () Γ := by exact rfl
@[simp] theorem ev_namesG1 {is : List Nat} {ds : List D} : namesG (i :: is) (d :: ds) Γ = namesG is ds (Γ.set i (some (.fz d))) := by exact rfl
@[simp] theorem ev_tupG {is : List Nat} {ds : List D} : tupG is (.tup ds) Γ = namesG is ds Γ := by exact rfl
@[simp] theorem ev_subG : subG f g d Γ = noX (bindM f fun o => bindM g fun t => bindM (lookM t) fun k => setIxT o k d) Γ := by exact rfl
@[simp] theorem ev_noX (p : M α) : noX p Γ = xB (p Γ) := by exact rfl
@[simp] theorem ev_setIx {k : Int} : setIxT (.al i) (.int k) d Γ = orB (olo (slt Γ[i]?)) fun ts => orB (ixN ts.length k) fun j => .ok () (Γ.set i (some (.ol (ts.set j (.fz d))))) := by
  unfold setIxT
  dsimp only
  generalize Γ[i]? = o
  rcases o with _ | _ | t <;> try exact rfl
  cases t <;> try exact rfl
  rename_i ts
  dsimp only [slt, olo, orB]
  cases ixN ts.length k <;> exact rfl
@[simp] theorem ev_addM : addM f g Γ = (f Γ).bind fun t1 => bindM g fun t2 => addT t1 t2 := by exact rfl
@[simp] theorem ev_mulM : mulM f g Γ = (f Γ).bind fun t1 => bindM g fun t2 => mulT t1 t2 := by exact rfl
@[simp] theorem ev_ixA : ixA f g Γ = (f Γ).bind fun t1 => bindM g fun t2 => ixT t1 t2 := by exact rfl
@[simp] theorem ev_addI {k l : Int} : addT (.fz (.int k)) (.fz (.int l)) Γ = .ok (.fz (.int (k + l))) Γ := by exact rfl
@[simp] theorem ev_mulI {k l : Int} : mulT (.fz (.int k)) (.fz (.int l)) Γ = gd (small64 k || small64 l) (.ok (.fz (.int (k * l))) Γ) := by
  show (if (small64 k || small64 l) = true then _ else _) = _
  cases (small64 k || small64 l) <;> exact rfl
@[simp] theorem ev_ixT {k : Int} : ixT t (.fz (.int k)) Γ = ixS (sqOf Γ t) (look Γ t) k Γ := by
  unfold ixT ixS
  rw [ev_lookF]
  dsimp only
  cases sqOf Γ t with
  | some q =>
    dsimp only
    cases atI q.ds k <;> exact rfl
  | none =>
    dsimp only
    rcases look Γ t with _ | d <;> try exact rfl
    cases d <;> try exact rfl
    rename_i z
    show (if z.length ≤ sizeLine then _ else _) = gd (decide (z.length ≤ sizeLine)) _
    by_cases h : z.length ≤ sizeLine
    · rw [if_pos h, decide_eq_true h]
      cases atI z.cps.toList k <;> exact rfl
    · rw [if_neg h, decide_eq_false h]
      exact rfl
@[simp] theorem ev_subD {k l : Int} : subD (.int k) (.int l) = some (.int (k - l)) := by exact rfl
@[simp] theorem ev_modD {k l : Int} : modD (.int k) (.int l) = if 0 < l then some (.int (k % l)) else none := by exact rfl
@[simp] theorem ev_divD {k l : Int} : divD (.int k) (.int l) = if 0 < l ∧ l < 1073741824 then some (.int (k / l)) else none := by exact rfl
@[simp] theorem ev_powD {k l : Int} : powD (.int k) (.int l) = if 0 ≤ l ∧ l ≤ 1000000 ∧ k.natAbs < 2 ^ 64 then some (.int (k ^ l.toNat)) else none := by exact rfl
@[simp] theorem ev_negD {k : Int} : negD (.int k) = some (.int (-k)) := by exact rfl
@[simp] theorem ev_ltD {k l : Int} : ltD (.int k) (.int l) = some (.bl (decide (k < l))) := by exact rfl
@[simp] theorem ev_leD {k l : Int} : leD (.int k) (.int l) = some (.bl (decide (k ≤ l))) := by exact rfl
@[simp] theorem ev_gtD {k l : Int} : gtD (.int k) (.int l) = some (.bl (decide (l < k))) := by exact rfl
@[simp] theorem ev_geD {k l : Int} : geD (.int k) (.int l) = some (.bl (decide (l ≤ k))) := by exact rfl
@[simp] theorem ev_isN : isNonD d .non = some (.bl d.isNon) := by exact rfl
@[simp] theorem ev_notN : notNonD d .non = some (.bl (!d.isNon)) := by exact rfl
@[simp] theorem ev_isN0 : D.non.isNon = true := by exact rfl
@[simp] theorem ev_isN1 {b : Bool} : (D.bl b).isNon = false := by exact rfl
@[simp] theorem ev_isN2 {k : Int} : (D.int k).isNon = false := by exact rfl
@[simp] theorem ev_isN3 {s : Str} : (D.str s).isNon = false := by exact rfl
@[simp] theorem ev_isN4 {ds : List D} : (D.lst ds).isNon = false := by exact rfl
@[simp] theorem ev_isN5 {ds : List D} : (D.tup ds).isNon = false := by exact rfl
@[simp] theorem ev_args0 : argsM [] Γ = .ok [] Γ := by exact rfl
@[simp] theorem ev_args1 {fs : List (M T)} : argsM (f :: fs) Γ = (f Γ).bind fun t => bindM (argsM fs) fun ts => retM (t :: ts) := by exact rfl
@[simp] theorem ev_guard {b : Bool} : guardM b Γ = gd b (.ok () Γ) := by cases b <;> exact rfl
@[simp] theorem ev_lst (a : M (List T)) : lstM a Γ = (a Γ).bind fun ts => bindM (optM (T.fzs ts)) fun ds => bindM (guardM (decide (ds.length ≤ sizeLine))) fun _ => retM (.ol (ds.map T.fz)) := by exact rfl
@[simp] theorem ev_tup (a : M (List T)) : tupM a Γ = (a Γ).bind fun ts => bindM (optM (T.fzs ts)) fun ds => bindM (guardM (decide (ds.length ≤ sizeLine))) fun _ => retM (.fz (.tup ds)) := by exact rfl
@[simp] theorem ev_list : listM f Γ = (f Γ).bind fun t => bindM (sqM t) fun q => retM (.ol (q.ds.map T.fz)) := by exact rfl
@[simp] theorem ev_tuple : tupleM f Γ = (f Γ).bind fun t => bindM (sqM t) fun q => retM (.fz (.tup q.ds)) := by exact rfl
@[simp] theorem ev_slice (lo hi : M (Option Int)) : sliceM f lo hi Γ = (f Γ).bind fun t => bindM lo fun l => bindM hi fun h => bindM (sqM t) fun q => retM (q.cut l h) := by exact rfl
@[simp] theorem ev_part : partM f Γ = (intM f Γ).bind fun i => retM (some i) := by exact rfl
@[simp] theorem ev_cut1 {lo hi : Option Int} {ds : List D} : (Sq.l ds).cut lo hi = .ol ((cutL ds lo hi).map T.fz) := by exact rfl
@[simp] theorem ev_cut2 {lo hi : Option Int} {ds : List D} : (Sq.t ds).cut lo hi = .fz (.tup (cutL ds lo hi)) := by exact rfl
@[simp] theorem ev_cut3 {lo hi : Option Int} {ns : List Int} : (Sq.s ns).cut lo hi = .ol ((cutL (ns.map D.int) lo hi).map T.fz) := by exact rfl
@[simp] theorem ev_rev : revM f Γ = (f Γ).bind fun t => bindM (sqM t) revQ := by exact rfl
@[simp] theorem ev_callD (h : List D → Option D) (a : M (List T)) : callD h a Γ = (a Γ).bind fun ts => bindM (looksM ts) fun ds => bindM (optM (h ds)) fun d => retM (.fz d) := by exact rfl
@[simp] theorem ev_looksM {ts : List T} : looksM ts Γ = orB (looks Γ ts) fun ds => .ok ds Γ := by
  unfold looksM
  cases looks Γ ts <;> exact rfl
@[simp] theorem ev_looks0 : looks Γ [] = some [] := by exact rfl
@[simp] theorem ev_looks1 {ts : List T} : looks Γ (t :: ts) = bnd (look Γ t) fun d => bnd (looks Γ ts) fun ds => some (d :: ds) := by
  show (match look Γ t, looks Γ ts with | some d, some ds => some (d :: ds) | _, _ => none) = _
  cases look Γ t <;> cases looks Γ ts <;> exact rfl
@[simp] theorem ev_len1 {ds : List D} : lenD [.lst ds] = some (.int ds.length) := by exact rfl
@[simp] theorem ev_len2 {ds : List D} : lenD [.tup ds] = some (.int ds.length) := by exact rfl
@[simp] theorem ev_len4 {ns : List Int} : lenD [.scr ns] = some (.int ns.length) := by exact rfl
@[simp] theorem ev_int1 {k : Int} : intD [.int k] = some (.int k) := by exact rfl
@[simp] theorem ev_int2 {b : Bool} : intD [.bl b] = some (.int (if b then 1 else 0)) := by exact rfl
@[simp] theorem ev_seqIt : seqIt f Γ = (f Γ).bind fun t => bindM (frz t) fun t' => bindM (sqM t') fun q => retM q.ds := by exact rfl
@[simp] theorem ev_enumIt : enumIt f Γ = (f Γ).bind fun t => bindM (frz t) fun t' => bindM (sqM t') enumQ := by exact rfl
@[simp] theorem ev_range1 : range1 f Γ = (intM f Γ).bind fun n => bindM (guardM (rngOk 0 n)) fun _ => retM (rangeL 0 n.toNat) := by exact rfl
@[simp] theorem ev_range2 : range2 f g Γ = (intM f Γ).bind fun lo => bindM (intM g) fun hi => bindM (guardM (rngOk lo hi)) fun _ => retM (rangeL lo (hi - lo).toNat) := by exact rfl
@[simp] theorem ev_for (fi : M (List D)) (h : D → M Unit) (b : M Flow) : forM fi h b Γ = (fi Γ).bind fun ds => loopM h b ds := by exact rfl
@[simp] theorem ev_comp {vs : List Nat} (fi : M (List D)) (h : D → M Unit) (b : M Bool) : compM vs fi h b f Γ = (fi Γ).bind fun ds => fun Γ => (compL vs h b f ds (wipeE Γ vs)).bind fun es => retM (.ol (es.map T.fz)) := by exact rfl
@[simp] theorem ev_call0 (F : FSem) (a : M (List T)) : call0 F a Γ = (a Γ).bind fun ts => bindM (looksM ts) fun ds => fun Γ => cOut ts Γ (F (ds.map T.fz)) := by
  unfold call0
  show (a Γ).bind _ = (a Γ).bind _
  congr 1
  funext ts
  congr 1
  funext ds Γ
  cases F (ds.map T.fz) <;> first | exact gd_ite _ _ | exact rfl
@[simp] theorem ev_callR (F : FSem) (a : M (List T)) : callR F a Γ = (a Γ).bind (callRL F) := by exact rfl
@[simp] theorem ev_callRT (F : FSem) {ds : List D} : callRT F (.al i) ds Γ = orB (slt Γ[i]?) fun t0 => rOut i Γ (F (t0 :: ds.map T.fz)) := by
  unfold callRT
  dsimp only
  generalize Γ[i]? = o
  rcases o with _ | _ | t <;> try exact rfl
  dsimp only [slt, orB]
  cases F (t :: ds.map T.fz) <;> first | exact gd_ite _ _ | exact rfl
@[simp] theorem ev_callK {is : List Nat} (F : FSem) (a b : M (List T)) : callK is F a b Γ = (a Γ).bind fun ts => bindM b fun us => bindM (optM (T.fzs (ts ++ us))) fun ds => fun Γ => kOut Γ (F ((pick is ds).map T.fz)) := by
  unfold callK
  show (a Γ).bind _ = (a Γ).bind _
  congr 1
  funext ts
  congr 1
  funext us
  congr 1
  funext ds Γ
  cases F ((pick is ds).map T.fz) <;> first | exact gd_ite _ _ | exact rfl
@[simp] theorem ev_isAlF : (T.fz d).isAl = false := by exact rfl
@[simp] theorem ev_isAlL {ts : List T} : (T.ol ts).isAl = false := by exact rfl
@[simp] theorem ev_scalF : (T.fz d).scal = d.scal := by exact rfl
@[simp] theorem ev_scal0 : D.non.scal = true := by exact rfl
@[simp] theorem ev_scal1 {b : Bool} : (D.bl b).scal = true := by exact rfl
@[simp] theorem ev_scal2 {k : Int} : (D.int k).scal = true := by exact rfl
@[simp] theorem ev_scal3 {s : Str} : (D.str s).scal = true := by exact rfl
@[simp] theorem ev_par (a : M (List T)) : parM i j a Γ = (a Γ).bind (parK i j) := by
  show (a Γ).bind _ = (a Γ).bind _
  congr 1
  funext ts
  rcases ts with _ | ⟨t1, _ | ⟨t2, _ | _⟩⟩ <;> try exact rfl
  funext Γ
  show (if (t1.isAl || t2.isAl) = true then fun _ => .bad else fun Γ => .ok .next ((Γ.set i (some t1)).set j (some t2)) : M Flow) Γ = gd (!(t1.isAl || t2.isAl)) _
  cases (t1.isAl || t2.isAl) <;> exact rfl
@[simp] theorem ev_listRg (fi : M (List D)) : listRg fi Γ = (fi Γ).bind fun ds => retM (.ol (ds.map T.fz)) := by exact rfl
@[simp] theorem ev_isi {cs : List String} : isiM cs f Γ = (f Γ).bind fun t => bindM (lookM t) fun d => bindM (optM d.ty) fun n => retM (.fz (.bl (cs.any (isTy n)))) := by exact rfl
@[simp] theorem ev_append : appendM f g Γ = (f Γ).bind fun o => bindM (olM o) fun _ => bindM (frozen g) fun t => appendT o t := by exact rfl
@[simp] theorem ev_popAt : popAtM f g Γ = (f Γ).bind fun o => bindM (olM o) fun _ => bindM g fun t => bindM (lookM t) fun k => popAtT o k := by exact rfl
@[simp] theorem ev_olM : olM (.al i) Γ = orB (olo (slt Γ[i]?)) fun _ => .ok () Γ := by
  unfold olM
  dsimp only
  generalize Γ[i]? = o
  rcases o with _ | _ | t <;> try exact rfl
  cases t <;> exact rfl
@[simp] theorem ev_appendT : appendT (.al i) (.fz d) Γ = orB (olo (slt Γ[i]?)) fun ts => gd (decide (ts.length < sizeLine)) (.ok (.fz .non) (Γ.set i (some (.ol (ts ++ [.fz d]))))) := by
  unfold appendT
  dsimp only
  generalize Γ[i]? = o
  rcases o with _ | _ | t <;> try exact rfl
  cases t <;> try exact rfl
  rename_i ts
  dsimp only [slt, olo, orB]
  by_cases h : ts.length < sizeLine
  · rw [if_pos h, decide_eq_true h]; exact rfl
  · rw [if_neg h, decide_eq_false h]; exact rfl
@[simp] theorem ev_popAtT {k : Int} : popAtT (.al i) (.int k) Γ = orB (olo (slt Γ[i]?)) fun ts => orB (ixN ts.length k) fun j => orB (fzo ts[j]?) fun d => .ok (.fz d) (Γ.set i (some (.ol (ts.eraseIdx j)))) := by
  unfold popAtT
  dsimp only
  generalize Γ[i]? = o
  rcases o with _ | _ | t <;> try exact rfl
  cases t <;> try exact rfl
  rename_i ts
  dsimp only [slt, olo, orB]
  rcases ixN ts.length k with _ | j <;> try exact rfl
  dsimp only
  rcases ts[j]? with _ | t <;> try exact rfl
  cases t <;> exact rfl
@[simp] theorem ev_loop1 (h : D → M Unit) (b : M Flow) {ds : List D} : loopM h b (d :: ds) Γ = (h d Γ).bind fun _ => bindM b (loopK h b ds) := by exact rfl
@[simp] theorem ev_eqI {k l : Int} : eqD (.int k) (.int l) = some (.bl (decide (k = l))) := by
  show some (D.bl (k == l)) = _
  rw [Bool.beq_eq_decide_eq]
@[simp] theorem ev_neI {k l : Int} : neD (.int k) (.int l) = some (.bl (!decide (k = l))) := by
  show some (D.bl (!(k == l))) = _
  rw [Bool.beq_eq_decide_eq]
@[simp] theorem ev_eqB {a b : Bool} : eqD (.bl a) (.bl b) = some (.bl (a == b)) := by exact rfl
@[simp] theorem ev_neB {a b : Bool} : neD (.bl a) (.bl b) = some (.bl (!(a == b))) := by exact rfl
@[simp] theorem ev_callF {n : Nat} {den : M Flow} {ts : List T} : callF n den ts = outF (den (initE n ts)) := by exact rfl
@[simp] theorem ev_loop0 (h : D → M Unit) (b : M Flow) : loopM h b [] Γ = .ok .next Γ := by exact rfl
@[simp] theorem ev_tupGs {gs : List D → M Unit} {n : Nat} {ds : List D} : tupGs gs n (.tup ds) = if ds.length = n then gs ds else fun _ => .bad := by exact rfl
@[simp] theorem ev_consG {h : D → M Unit} {gs : List D → M Unit} {ds : List D} : consG h gs (d :: ds) Γ = (h d Γ).bind fun _ => gs ds := by exact rfl
@[simp] theorem ev_nilG : nilG [] Γ = .ok () Γ := by exact rfl
@[simp] theorem ev_initE {n : Nat} {ts : List T} : initE n ts = ts.map some ++ List.replicate (n - ts.length) none := by exact rfl
@[simp] theorem ev_joinAt {o : Option T} : joinAt (o :: Γ) = o := by exact rfl
end
/-- an item by a small place -/
theorem atI_of {α : Type} {xs : List α} {k : Int} {a : α} (h0 : 0 ≤ k) (h : xs[k.toNat]? = some a) : atI xs k = some a := by
  have e : k = ((k.toNat : Nat) : Int) := by omega
  rw [e]
  exact atI_nat h
/-! ### loops -/
/-- a loop whose every turn goes on: the states G s, a step -/
theorem loop_fold {S : Type} (G : S → Env) (I : S → Prop) (step : S → D → S) {g : D → M Unit} {body : M Flow} : ∀ (ds : List D) (s : S), I s → (∀ s d, d ∈ ds → I s → I (step s d) ∧ ((g d (G s)).bind fun _ => body) = .ok .next (G (step s d))) → loopM g body ds (G s) = .ok .next (G (ds.foldl step s)) ∧ I (ds.foldl step s)
  | [], s, hI, _ => ⟨rfl, hI⟩
  | d :: ds, s, hI, h => by
    obtain ⟨h1, h2⟩ := h s d List.mem_cons_self hI
    have ih := loop_fold G I step ds (step s d) h1 fun s d hd => h s d (List.mem_cons_of_mem _ hd)
    refine ⟨?_, ih.2⟩
    show ((g d (G s)).bind fun _ => bindM body fun fl => _) = _
    cases e : g d (G s) with
    | ok u Γ1 =>
      rw [e] at h2
      have h3 : body Γ1 = .ok .next (G (step s d)) := h2
      show (body Γ1).bind _ = _
      rw [h3]
      exact ih.1
    | exc x Γ1 => rw [e] at h2; cases h2
    | bad => rw [e] at h2; cases h2
/-- the same without telling the step: some state behind it -/
theorem loop_inv {S : Type} (G : S → Env) (I : Nat → S → Prop) {g : D → M Unit} {body : M Flow} : ∀ (ds : List D) (k : Nat) (s : S), I k s → (∀ k s d, d ∈ ds → I k s → ∃ s', I (k + 1) s' ∧ ((g d (G s)).bind fun _ => body) = .ok .next (G s')) → ∃ s', I (k + ds.length) s' ∧ loopM g body ds (G s) = .ok .next (G s')
  | [], k, s, hI, _ => ⟨s, hI, rfl⟩
  | d :: ds, k, s, hI, h => by
    obtain ⟨s1, h1, h2⟩ := h k s d List.mem_cons_self hI
    obtain ⟨s2, h3, h4⟩ := loop_inv G I ds (k + 1) s1 h1 fun k s d hd => h k s d (List.mem_cons_of_mem _ hd)
    refine ⟨s2, by rw [List.length_cons, show k + (ds.length + 1) = k + 1 + ds.length by omega]; exact h3, ?_⟩
    show ((g d (G s)).bind fun _ => bindM body fun fl => _) = _
    cases e : g d (G s) with
    | ok u Γ1 =>
      rw [e] at h2
      have h5 : body Γ1 = .ok .next (G s1) := h2
      show (body Γ1).bind _ = _
      rw [h5]
      exact h4
    | exc x Γ1 => rw [e] at h2; cases h2
    | bad => rw [e] at h2; cases h2
/-- a comprehension without effects: each thing's own answer -/
theorem comp_map {vs : List Nat} {g : D → M Unit} {ft : M Bool} {fe : M T} {Γ : Env} : ∀ (ds es : List D), ds.length = es.length → (∀ (i : Nat) (d e : D), ds[i]? = some d → es[i]? = some e → turnL vs g ft fe d Γ = .ok (some e) Γ) → compL vs g ft fe ds Γ = .ok es Γ
  | [], [], _, _ => rfl
  | [], _ :: _, hl, _ => by cases hl
  | _ :: _, [], hl, _ => by cases hl
  | d :: ds, e :: es, hl, h => by
    have h1 := h 0 d e rfl rfl
    have ih := comp_map ds es (Nat.succ.inj hl) fun i d' e' hd he => h (i + 1) d' e' hd he
    show (turnL vs g ft fe d Γ).bind (fun o => bindM (compL vs g ft fe ds) fun es => retM (o.toList ++ es)) = _
    rw [h1]
    show (compL vs g ft fe ds Γ).bind (fun es => retM ((some e).toList ++ es)) = _
    rw [ih]
    rfl
/-- with effects: states G s -/
theorem comp_inv {S : Type} (G : S → Env) (I : S → Prop) (Pe : D → Prop) {vs : List Nat} {g : D → M Unit} {ft : M Bool} {fe : M T} : ∀ (ds : List D) (s : S), I s → (∀ s d, d ∈ ds → I s → ∃ s' e, I s' ∧ Pe e ∧ turnL vs g ft fe d (G s) = .ok (some e) (G s')) → ∃ s' es, I s' ∧ es.length = ds.length ∧ (∀ e ∈ es, Pe e) ∧ compL vs g ft fe ds (G s) = .ok es (G s')
  | [], s, hI, _ => ⟨s, [], hI, rfl, (fun _ h => nomatch h), rfl⟩
  | d :: ds, s, hI, h => by
    obtain ⟨s1, e, h1, hp, h2⟩ := h s d List.mem_cons_self hI
    obtain ⟨s2, es, h3, hl, hpe, h4⟩ := comp_inv G I Pe ds s1 h1 fun s d hd => h s d (List.mem_cons_of_mem _ hd)
    refine ⟨s2, e :: es, h3, congrArg (· + 1) hl, fun x hx => ?_, ?_⟩
    · cases hx with
      | head => exact hp
      | tail _ hx => exact hpe x hx
    · show (turnL vs g ft fe d (G s)).bind (fun o => bindM (compL vs g ft fe ds) fun es => retM (o.toList ++ es)) = _
      rw [h2]
      show (compL vs g ft fe ds (G s1)).bind (fun es => retM ((some e).toList ++ es)) = _
      rw [h4]
      rfl
end DL
/-! signs of orders: plain law -/
namespace DL
def prd : List Int → Int
  | [] => 1
  | x :: xs => x * prd xs
theorem prd_append : ∀ (xs ys : List Int), prd (xs ++ ys) = prd xs * prd ys
  | [], ys => (Int.one_mul _).symm
  | x :: xs, ys => by
    show x * prd (xs ++ ys) = x * prd xs * prd ys
    rw [prd_append xs ys, Int.mul_assoc]
/-- how two stand to each other -/
def cp (x y : Int) : Int := if x = y then 0 else if y < x then -1 else 1
theorem cp_self (x : Int) : cp x x = 0 := if_pos rfl
theorem cp_anti (x y : Int) : cp y x = -cp x y := by
  unfold cp
  by_cases h : x = y
  · rw [if_pos h, if_pos h.symm]; rfl
  · rw [if_neg h, if_neg (fun e => h e.symm)]
    by_cases h2 : y < x
    · rw [if_pos h2, if_neg (show ¬ x < y by omega)]; rfl
    · rw [if_neg h2, if_pos (show x < y by omega)]
/-- the sign of a row's order -/
def sgn : List Int → Int
  | [] => 1
  | x :: xs => prd (xs.map (cp x)) * sgn xs
/-- the sign between two rows -/
def crs (xs ys : List Int) : Int := prd (xs.map fun x => prd (ys.map (cp x)))
theorem sgn_append : ∀ (xs ys : List Int), sgn (xs ++ ys) = sgn xs * sgn ys * crs xs ys
  | [], ys => by
    show sgn ys = 1 * sgn ys * 1
    omega
  | x :: xs, ys => by
    show prd ((xs ++ ys).map (cp x)) * sgn (xs ++ ys) = prd (xs.map (cp x)) * sgn xs * sgn ys * (prd (ys.map (cp x)) * crs xs ys)
    rw [sgn_append xs ys, List.map_append, prd_append]
    generalize prd (xs.map (cp x)) = a
    generalize prd (ys.map (cp x)) = b
    generalize sgn xs = c
    generalize sgn ys = d
    generalize crs xs ys = e
    ac_rfl
/-- one moved past the next -/
theorem sgn_adj (a b : Int) (us vs : List Int) : sgn (us ++ a :: b :: vs) = -sgn (us ++ b :: a :: vs) := by
  rw [sgn_append, sgn_append]
  have h1 : crs us (a :: b :: vs) = crs us (b :: a :: vs) := by
    unfold crs
    congr 2
    funext x
    show cp x a * (cp x b * _) = cp x b * (cp x a * _)
    ac_rfl
  have h2 : sgn (a :: b :: vs) = -sgn (b :: a :: vs) := by
    show cp a b * prd (vs.map (cp a)) * (prd (vs.map (cp b)) * sgn vs) = -(cp b a * prd (vs.map (cp b)) * (prd (vs.map (cp a)) * sgn vs))
    rw [cp_anti a b]
    generalize prd (vs.map (cp a)) = x
    generalize prd (vs.map (cp b)) = y
    generalize sgn vs = z
    generalize cp a b = c
    rw [Int.neg_mul, Int.neg_mul, Int.neg_neg]
    ac_rfl
  rw [h1, h2, Int.mul_neg, Int.neg_mul]
def par : List Int → Int
  | [] => 1
  | _ :: xs => -par xs
theorem par_sq : ∀ m : List Int, par m * par m = 1
  | [] => rfl
  | _ :: xs => by
    show -par xs * -par xs = 1
    rw [Int.neg_mul_neg, par_sq xs]
theorem sgn_past (a : Int) (vs : List Int) : ∀ (m us : List Int), sgn (us ++ a :: (m ++ vs)) = par m * sgn (us ++ (m ++ a :: vs))
  | [], us => (Int.one_mul _).symm
  | b :: m, us => by
    show sgn (us ++ a :: b :: (m ++ vs)) = -par m * sgn (us ++ b :: (m ++ a :: vs))
    rw [sgn_adj, show us ++ b :: a :: (m ++ vs) = (us ++ [b]) ++ a :: (m ++ vs) by simp, sgn_past a vs m (us ++ [b]), Int.neg_mul]
    congr 2
    simp
/-- an exchange turns the sign -/
theorem sgn_swap (a b : Int) (us m vs : List Int) : sgn (us ++ a :: (m ++ b :: vs)) = -sgn (us ++ b :: (m ++ a :: vs)) := by
  rw [sgn_past a (b :: vs) m us, show us ++ (m ++ a :: b :: vs) = (us ++ m) ++ a :: b :: vs by simp, sgn_adj, sgn_past b (a :: vs) m us]
  rw [show us ++ m ++ b :: a :: vs = us ++ (m ++ b :: a :: vs) by simp, Int.mul_neg]
theorem sgn_snoc (xs : List Int) (y : Int) : sgn (xs ++ [y]) = sgn xs * prd (xs.map fun x => cp x y) := by
  rw [sgn_append]
  have h : crs xs [y] = prd (xs.map fun x => cp x y) := by
    unfold crs
    congr 2
    funext x
    exact Int.mul_one _
  rw [h]
  show sgn xs * (1 * 1) * _ = _
  rw [Int.one_mul, Int.mul_one]
/-- two places of a row apart -/
theorem split2 {xs : List Int} {i j : Nat} (hij : i < j) (hj : j < xs.length) : ∃ us a m b vs, xs = us ++ a :: (m ++ b :: vs) ∧ us.length = i ∧ us.length + 1 + m.length = j := by
  refine ⟨xs.take i, xs[i], (xs.drop (i + 1)).take (j - i - 1), xs[j], xs.drop (j + 1), ?_, ?_, ?_⟩
  · have h1 : xs = xs.take i ++ xs.drop i := (List.take_append_drop i xs).symm
    have h2 : xs.drop i = xs[i] :: xs.drop (i + 1) := List.drop_eq_getElem_cons (by omega)
    have h3 : xs.drop (i + 1) = (xs.drop (i + 1)).take (j - i - 1) ++ (xs.drop (i + 1)).drop (j - i - 1) := (List.take_append_drop _ _).symm
    have h4 : (xs.drop (i + 1)).drop (j - i - 1) = xs[j] :: xs.drop (j + 1) := by
      rw [List.drop_drop, show i + 1 + (j - i - 1) = j by omega]
      exact List.drop_eq_getElem_cons hj
    rw [h4] at h3
    rw [h3] at h2
    rw [h2] at h1
    exact h1
  · rw [List.length_take]; omega
  · rw [List.length_take, List.length_take, List.length_drop]; omega
theorem sgn_exch {xs : List Int} {i j : Nat} {x y : Int} (hij : i ≠ j) (hi : xs[i]? = some x) (hj : xs[j]? = some y) : sgn ((xs.set i y).set j x) = -sgn xs := by
  have key : ∀ {i j : Nat} {x y : Int}, i < j → xs[i]? = some x → xs[j]? = some y → sgn ((xs.set i y).set j x) = -sgn xs := by
    intro i j x y h hi hj
    have hjl := (List.getElem?_eq_some_iff.mp hj).1
    obtain ⟨us, a, m, b, vs, rfl, h1, h2⟩ := split2 h hjl
    have e1 : (us ++ a :: (m ++ b :: vs))[i]? = some a := by
      rw [List.getElem?_append_right (by omega), h1, Nat.sub_self]; rfl
    have e2 : (us ++ a :: (m ++ b :: vs))[j]? = some b := by
      rw [List.getElem?_append_right (by omega), show j - us.length = m.length + 1 by omega, List.getElem?_cons_succ, List.getElem?_append_right (by omega), Nat.sub_self]; rfl
    have q1 : a = x := Option.some.inj (e1.symm.trans hi)
    have q2 : b = y := Option.some.inj (e2.symm.trans hj)
    subst q1 q2
    have e3 : ((us ++ a :: (m ++ b :: vs)).set i b).set j a = us ++ b :: (m ++ a :: vs) := by
      rw [List.set_append_right _ _ (by omega), show i - us.length = 0 by omega]
      rw [List.set_append_right _ _ (by omega), show j - us.length = m.length + 1 by omega]
      show us ++ b :: (m ++ b :: vs).set m.length a = _
      rw [List.set_append_right _ _ (by omega), Nat.sub_self]
      rfl
    rw [e3, sgn_swap a b, Int.neg_neg]
  rcases Nat.lt_or_gt_of_ne hij with h | h
  · exact key h hi hj
  · rw [List.set_comm _ _ hij]
    exact key h hj hi
end DL
namespace DL
open PySem L2
/-- an answer, whatever the slots behind it -/
def Gives (o : Out T) (t : T) : Prop := ∃ Γ, o = .ok t Γ
@[simp] theorem gives_ok {t u : T} {Γ : Env} : Gives (.ok t Γ) u ↔ t = u := ⟨fun ⟨_, e⟩ => by injection e, fun e => ⟨Γ, e ▸ rfl⟩⟩
/-- a statement's going on -/
def Goes (o : Out Flow) (P : Env → Prop) : Prop := ∃ Γ, o = .ok .next Γ ∧ P Γ
@[simp] theorem goes_ok {P : Env → Prop} {Γ : Env} : Goes (.ok .next Γ) P ↔ P Γ := ⟨fun ⟨Γ', e, h⟩ => by injection e with e1 e2; exact e2 ▸ h, fun h => ⟨Γ, rfl, h⟩⟩
theorem cut_le {α : Type} {xs : List α} {n : Nat} (h : xs.length ≤ n) : cutL xs none (some (n : Int)) = xs := by
  unfold cutL
  rw [HT.sIx_nat, HT.sIx_none, List.drop_zero, Nat.sub_zero, Nat.min_eq_right h, List.take_length]
theorem cut_from {α : Type} {xs : List α} {n : Nat} : cutL xs (some (n : Int)) none = xs.drop n := by
  unfold cutL
  rw [HT.sIx_nat, HT.sIx_none]
  by_cases h : n ≤ xs.length
  · rw [Nat.min_eq_left h, List.take_of_length_le (by rw [List.length_drop]; exact Nat.le_refl _)]
  · rw [Nat.min_eq_right (by omega), List.drop_of_length_le (Nat.le_refl _), List.drop_of_length_le (by omega)]
    rw [List.take_nil]
/-! ### drawing -/
structure Bag where
  cs : List Int
  p : Int
  c : Int
  s : Int
  n : Int
structure Bag.Ok (b : Bag) : Prop where
  p0 : 0 ≤ b.p
  s0 : 0 ≤ b.s
  s1 : b.s < 2147483629
def Bag.t (b : Bag) : T := .ol [.fz (.lst (b.cs.map D.int)), .fz (.int b.p), .fz (.int b.c), .fz (.int b.s), .fz (.int b.n)]
@[simp] theorem at0 {α : Type} {a b c d e : α} : atI [a, b, c, d, e] (0 : Int) = some a := rfl
@[simp] theorem at1 {α : Type} {a b c d e : α} : atI [a, b, c, d, e] (1 : Int) = some b := rfl
@[simp] theorem at2 {α : Type} {a b c d e : α} : atI [a, b, c, d, e] (2 : Int) = some c := rfl
@[simp] theorem at3 {α : Type} {a b c d e : α} : atI [a, b, c, d, e] (3 : Int) = some d := rfl
@[simp] theorem at4 {α : Type} {a b c d e : α} : atI [a, b, c, d, e] (4 : Int) = some e := rfl
@[simp] theorem ix50 : ixN 5 (0 : Int) = some 0 := rfl
@[simp] theorem ix51 : ixN 5 (1 : Int) = some 1 := rfl
@[simp] theorem ix52 : ixN 5 (2 : Int) = some 2 := rfl
@[simp] theorem ix53 : ixN 5 (3 : Int) = some 3 := rfl
@[simp] theorem ix54 : ixN 5 (4 : Int) = some 4 := rfl
theorem small_of {k : Int} (h0 : 0 ≤ k) (h1 : k < 18446744073709551616) : small64 k = true := by
  unfold small64
  rw [decide_eq_true (show -(2 ^ 64) < k by omega), decide_eq_true (show k < 2 ^ 64 by omega)]
  rfl
/-- the answer of a draw -/
def Drawn (m : Int) (o : Out T) : Prop := ∃ (r : Int) (b' : Bag) (Γ' : Env), b'.Ok ∧ 0 ≤ r ∧ r < m ∧ o = .ok (.fz (.int r)) (some b'.t :: Γ')
theorem drawn_mk {m r p c s n : Int} {cs : List Int} {Γ : Env} (h0 : 0 ≤ p) (h1 : 0 ≤ s) (h2 : s < 2147483629) (h3 : 0 ≤ r) (h4 : r < m) : Drawn m (.ok (.fz (.int r)) (some (.ol [.fz (.lst (cs.map D.int)), .fz (.int p), .fz (.int c), .fz (.int s), .fz (.int n)]) :: Γ)) := ⟨r, ⟨cs, p, c, s, n⟩, Γ, ⟨h0, h1, h2⟩, h3, h4, rfl⟩
@[simp] theorem isAl_bag {b : Bag} : b.t.isAl = false := by exact rfl
@[simp] theorem settle_bag {b : Bag} {Γ : Env} : settle b.t Γ = .ok b.t Γ := by exact rfl
theorem erase_map {α β : Type} {f : α → β} : ∀ {l : List α} {i : Nat}, (l.map f).eraseIdx i = (l.eraseIdx i).map f
  | [], _ => rfl
  | _ :: _, 0 => rfl
  | a :: l, i + 1 => by
    show f a :: (l.map f).eraseIdx i = f a :: (l.eraseIdx i).map f
    rw [erase_map]
@[simp] theorem rdV_bag {i : Nat} {Γ : Env} {b : Bag} : rdV i Γ (some (some b.t)) = .ok (.al i) Γ := rfl
/-! ### walks over lists -/
def enumF : Nat → List D → List D
  | _, [] => []
  | k, d :: ds => .tup [.int (k : Int), d] :: enumF (k + 1) ds
theorem enum_eq (ds : List D) : enumL ds = enumF 0 ds := by
  have h : ∀ (us vs : List D), ((List.range' us.length vs.length).filterMap fun i : Nat => (us ++ vs)[i]?.map fun d => D.tup [.int (i : Int), d]) = enumF us.length vs := by
    intro us vs
    induction vs generalizing us with
    | nil => rfl
    | cons v vs ih =>
      have e : (us ++ v :: vs)[us.length]? = some v := by
        rw [List.getElem?_append_right (Nat.le_refl _), Nat.sub_self]; rfl
      have ih' := ih (us ++ [v])
      rw [List.length_append, List.append_assoc] at ih'
      show ((us.length :: List.range' (us.length + 1) vs.length).filterMap _) = D.tup [.int (us.length : Int), v] :: enumF (us.length + 1) vs
      rw [List.filterMap_cons, e]
      exact congrArg (D.tup [.int (us.length : Int), v] :: ·) ih'
  have := h [] ds
  unfold enumL
  rw [List.range_eq_range']
  exact this
theorem rangeL_succ (lo : Int) (n : Nat) : rangeL lo (n + 1) = .int lo :: rangeL (lo + 1) n := by
  unfold rangeL
  rw [List.range_succ_eq_map, List.map_cons, List.map_map]
  congr 1
  · simp
  · apply List.map_congr_left
    intro i _
    show D.int (lo + ((i + 1 : Nat) : Int)) = D.int (lo + 1 + (i : Int))
    congr 1
    omega
@[simp] theorem rangeL_zero (lo : Int) : rangeL lo 0 = [] := rfl
theorem rng_nat {n : Nat} (h : n ≤ sizeLine) : rngOk 0 (n : Int) = true := by
  have : sizeLine ≤ 2 ^ 40 := by decide
  simp only [rngOk, Bool.and_eq_true, decide_eq_true_eq]
  omega
theorem atI_ints {xs : List Int} {i : Nat} {x : Int} (h : xs[i]? = some x) : atI (xs.map D.int) (i : Int) = some (.int x) := by
  refine atI_of (by omega) ?_
  rw [Int.toNat_natCast, List.getElem?_map, h]
  rfl
@[simp] theorem ev_wipe0 {Γ : Env} : wipeE Γ [] = Γ := by exact rfl
@[simp] theorem ev_wipe1 {Γ : Env} {i : Nat} {is : List Nat} : wipeE Γ (i :: is) = (wipeE Γ is).set i none := by exact rfl
@[simp] theorem ev_turnT {vs : List Nat} {g : D → M Unit} {fe : M T} {d : D} {Γ : Env} : turnL vs g (retM true) fe d Γ = (g d Γ).bind fun _ => bindM (noX (fzD fe)) fun e => fun Γ => .ok (some e) (wipeE Γ vs) := by
  show (g d Γ).bind (fun _ => bindM (noX (retM true)) fun b => bindM (if b then bindM (noX (fzD fe)) fun e => retM (some e) else retM none) fun o => fun Γ => .ok o (wipeE Γ vs)) = _
  congr 1
  funext _ Γ
  show ((noX (fzD fe) Γ).bind fun e => retM (some e)).bind _ = (noX (fzD fe) Γ).bind _
  cases noX (fzD fe) Γ <;> exact rfl
def trues (n : Nat) : List D := List.replicate n (.bl true)
@[simp] theorem all_trues {n : Nat} : allD [.lst (trues n)] = some (.bl true) := by
  have h : bools (trues n) = some (List.replicate n true) := by
    induction n with
    | zero => exact rfl
    | succ n ih =>
      show bools (.bl true :: trues n) = _
      unfold bools
      rw [ih]
      exact rfl
  show (bools (trues n)).map _ = _
  rw [h]
  show some (D.bl ((List.replicate n true).all id)) = _
  congr 2
  rw [List.all_eq_true]
  intro x hx
  exact (List.eq_of_mem_replicate hx)
mutual
/-- plain data, of a depth, to be looked through -/
def D.sm : Nat → D → Bool
  | _, .non => true
  | _, .bl _ => true
  | _, .int _ => true
  | _, .str x => PyData.strOk x
  | n + 1, .lst xs => decide (xs.length ≤ sizeLine) && D.sms n xs
  | n + 1, .tup xs => decide (xs.length ≤ sizeLine) && D.sms n xs
  | _, _ => false
def D.sms : Nat → List D → Bool
  | _, [] => true
  | n, x :: xs => D.sm n x && D.sms n xs
end
theorem D.sms_mem {n : Nat} : ∀ {xs : List D} {x : D}, D.sms n xs = true → x ∈ xs → D.sm n x = true
  | y :: ys, x, h, hx => by
    unfold D.sms at h
    rw [Bool.and_eq_true] at h
    cases hx with
    | head => exact h.1
    | tail _ hx => exact D.sms_mem h.2 hx
@[simp] theorem ev_eqS {x : Str} (h : PyData.strOk x = true) : eqD (.str x) (.str x) = some (.bl true) := by
  have e : D.fit 64 (.str x) = true := by unfold D.fit; exact h
  unfold eqD
  rw [e]
  show some (D.bl (x == x)) = _
  rw [beq_self_eq_true]
@[simp] theorem ev_ty1 : D.ty .non = some "NoneType" := by exact rfl
@[simp] theorem ev_ty2 {b : Bool} : D.ty (.bl b) = some "bool" := by exact rfl
@[simp] theorem ev_ty3 {k : Int} : D.ty (.int k) = some "int" := by exact rfl
@[simp] theorem ev_ty4 {s : Str} : D.ty (.str s) = some "str" := by exact rfl
@[simp] theorem ev_ty5 {ds : List D} : D.ty (.lst ds) = some "list" := by exact rfl
@[simp] theorem ev_ty6 {ds : List D} : D.ty (.tup ds) = some "tuple" := by exact rfl
@[simp] theorem sms_nil {n : Nat} : D.sms n [] = true := by unfold D.sms; exact rfl
@[simp] theorem sms_cons {n : Nat} {x : D} {xs : List D} : D.sms n (x :: xs) = (D.sm n x && D.sms n xs) := by rw [D.sms]
@[simp] theorem sm_int {n : Nat} {k : Int} : D.sm n (.int k) = true := by unfold D.sm; exact rfl
@[simp] theorem sm_bl {n : Nat} {k : Bool} : D.sm n (.bl k) = true := by unfold D.sm; exact rfl
@[simp] theorem sm_non {n : Nat} : D.sm n .non = true := by unfold D.sm; exact rfl
@[simp] theorem sm_lst {n : Nat} {xs : List D} : D.sm (n + 1) (.lst xs) = (decide (xs.length ≤ sizeLine) && D.sms n xs) := by rw [D.sm]
@[simp] theorem sm_tup {n : Nat} {xs : List D} : D.sm (n + 1) (.tup xs) = (decide (xs.length ≤ sizeLine) && D.sms n xs) := by rw [D.sm]
/-- a loop by an invariant, the count bounded -/
theorem loop_invB {S : Type} (G : S → Env) (I : Nat → S → Prop) {g : D → M Unit} {body : M Flow} : ∀ (ds : List D) (k : Nat) (s : S), I k s → (∀ j s d, ds[j]? = some d → I (k + j) s → ∃ s', I (k + j + 1) s' ∧ ((g d (G s)).bind fun _ => body) = .ok .next (G s')) → ∃ s', I (k + ds.length) s' ∧ loopM g body ds (G s) = .ok .next (G s')
  | [], k, s, hI, _ => ⟨s, hI, rfl⟩
  | d :: ds, k, s, hI, h => by
    obtain ⟨s1, h1, h2⟩ := h 0 s d rfl hI
    obtain ⟨s2, h3, h4⟩ := loop_invB G I ds (k + 1) s1 h1 fun j s d hd hi => by
      have := h (j + 1) s d hd (by rw [show k + (j + 1) = k + 1 + j by omega]; exact hi)
      rw [show k + (j + 1) + 1 = k + 1 + j + 1 by omega] at this
      exact this
    refine ⟨s2, by rw [List.length_cons, show k + (ds.length + 1) = k + 1 + ds.length by omega]; exact h3, ?_⟩
    show ((g d (G s)).bind fun _ => bindM body fun fl => _) = _
    cases e : g d (G s) with
    | ok u Γ1 =>
      rw [e] at h2
      have h5 : body Γ1 = .ok .next (G s1) := h2
      show (body Γ1).bind _ = _
      rw [h5]
      exact h4
    | exc x Γ1 => rw [e] at h2; cases h2
    | bad => rw [e] at h2; cases h2
theorem rangeL_get {lo : Int} {n j : Nat} {d : D} (h : (rangeL lo n)[j]? = some d) : j < n ∧ d = .int (lo + (j : Int)) := by
  have h1 := (List.getElem?_eq_some_iff.mp h).1
  have h2 := (List.getElem?_eq_some_iff.mp h).2
  have hj : j < n := by simpa [rangeL] using h1
  refine ⟨hj, ?_⟩
  rw [← h2]
  simp [rangeL]
@[simp] theorem rangeL_length {lo : Int} {n : Nat} : (rangeL lo n).length = n := by simp [rangeL]
/-! ### the end -/
theorem sp_law {K : PySem.W.Frag} {cl : Cl} {F : FSem} {H : Hp} {a : Addr} {ns : List Int} (hS : SqL K H a (ns.map V.int)) (hl : ns.length ≤ 63) (hT : LamX.Tabs cl.T H) (g : Gives (F [.fz (.scr ns)]) (.fz (.bl true))) : spOf K cl 1 false F [.ref a] H (fun v _ => v = .bl true) (fun _ _ _ => False) := by
  obtain ⟨Γ, e⟩ := g
  refine ⟨rfl, nts H, fun _ => False, [.fz (.scr ns)], nts_sub, ⟨hT, fun a o e => nts_nt e⟩, (fun _ h => h.elim), (fun _ _ h => h), ⟨[.scr ns], rfl, .cons (Dt.nts (.scr hS (Nat.le_trans hl (by decide)))) .nil⟩, ?_⟩
  rw [e]
  refine ⟨fun i h => (nomatch h), fun v H' F' S0 Sr _ ho _ => ?_⟩
  cases ho with
  | fz h => cases h; rfl
theorem cx_no {P : Program} {w : World} {H : Hp} {s s' : Shared} {e : Value} (h : L2.CX P w [] H s (fun _ _ _ => False) e s') : False := by
  obtain ⟨_, _, _, _, _, _, _, _, _, _, _, _, h⟩ := h
  exact h
end DL
/-! own exceptions: made, raised -/
namespace DL
open PySem L2

/-! ### C.m(e, ..), m a def of the class at C -/
section
variable {X : Cx} {CX : CXT} {k : Nat} {C g : Addr} {mc : Value} {fd : FuncData} {ps : List Str} {sp : Sp} {E : XK} {x m : Str} {e : Expr} {es : List Expr} {ta : TA} {p1 p2 pos : Pos} {pl : Sem Bool}
theorem pe_clsfn (hg : Gl X x) (hm : X.mg x = some (.ref C)) (r : ClX.CRead X.K C mc) (c : PySem.W.findCls X.K (.ref C) mc m = some (.val (.ref g))) (kp : PySem.W.keepIn X.K (.ref g) = true) (F : FnOk X.prog X.w X.K X.mg X.base CX k g fd ps sp) (hr : Room k X.A) (hb : Binds X.K fd ps []) (hx : Passes CX X E) (ha : PA X (e :: es) ta)
    (hdb : (x == ("__debug__" : Str)) = false := by decide) (hst : starEach (e :: es) X.env = (false, eval e X.env) :: starEach es X.env := by rfl) (hpl : (backTo pos (starEach es X.env)).any (·.1) = false := by rfl)
    (ht : eval (.Call (.Attribute (.Name x p1) m p2) (e :: es) [] pos) X.env = (do
      let ov ← eval (.Name x p1) X.env
      standAt p2.atName
      let (f, first) ← holding [ov] (getMethod ov m pl)
      callWith pos f first (backTo pos (starEach (e :: es) X.env)) (backToKw pos (keywordEach [] X.env))) := by rfl) :
    PE X (.Call (.Attribute (.Name x p1) m p2) (e :: es) [] pos) (fun σ H Q => ta σ H fun vs H1 => sp vs H1 Q E) := by
  refine ⟨fun pins s σ H Q I h => ?_⟩
  refine PySem.W.methodCall_KW (pl := pl) (ld_glob I hg hm ?_ hdb) ht
  refine PySem.W.method_cls I.kIn r.ga (ClX.getcval_ok I r (v := .ref g) ⟨c, rfl⟩ fun s1 I1 => ?_)
  show wpAny _ _ (callWith pos (Value.ref g) [] (backTo pos (starEach (e :: es) X.env)) []) _ _ _
  refine PySem.W.callWith_K (h₀ := X.base) I.ok.mod.kin kp (thn (ha.run pos pins s1 σ H _ I1 h) fun us s2 ⟨vs, H1, I2, rv, q⟩ => ⟨I2.kIn, ?_⟩) hst hpl
  exact run_fn F hr hb .nil hx I2 rv (by rw [List.append_nil]; exact q)
end

/-! ### the making of an own exception -/
/-- what the written part says of an own exception class: its address, its __init__'s; one field name more -/
structure Xc (K : PySem.W.Frag) (C : Addr) : Prop where
  o : OexC K C
  w : PySem.W.findIn K (.ref C) "word" = some none
/-- the base class's __init__(self, word) -/
def spCI (K : PySem.W.Frag) : Sp := fun vs H Q _ => ∃ (a C : Addr) (w : V), vs = [.ref a, w] ∧ Xc K C ∧ H a = some (exo a C none) ∧ ∀ dx, H dx = none → dx ≠ a → Q .non (upd (upd H dx (exd dx [("word", w)])) a (exo a C (some dx)))
/-- the fields that C's __init__ lays, from its arguments -/
def spXI (C : Addr) (n : Nat) (fl : List V → List (Str × V)) : Sp := fun vs H Q _ => ∃ (a : Addr) (ws : List V), vs = .ref a :: ws ∧ ws.length = n ∧ H a = some (exo a C none) ∧
  ∀ dx H', H dx = none → dx ≠ a → H' a = some (exo a C (some dx)) → H' dx = some (exd dx (fl ws)) → (∀ b, b ≠ a → b ≠ dx → H' b = H b) → Q .non H'
section
variable {P : Program} {w : World} {K : PySem.W.Frag} {mg : Str → Option Value} {base : Heap}
/-- self.word = word -/
theorem ci_ok {x qual : Str} {params : Arguments} {scope : Scope} {dvs : List V} {kws : List (Str × V)} {f : Addr} {fd : FuncData} {q1 q2 q3 q4 : Pos} (F : FunD K x qual params [.Assign [.Attribute (.Name "self" q1) "word" q2] (.Name "word" q3) q4] scope dvs kws f fd) (S : FnScope ["self", "word"] ["self", "word"] scope)
    (v0 : Vis scope "self") (v1 : Vis scope "word")
    (hsw : ∀ env : PySem.Env, swapsWith (.Name "word" q3) (some (.Attribute (.Name "self" q1) "word" q2)) q4.line env = pure false) : FnOk P w K mg base (L2.CX P w) 1 f fd ["self", "word"] (spCI K) :=
  F.ok S (fun vs H Q E ⟨a, C, w, e, _⟩ => by rw [e]; rfl) fun cdv A outer s H vs Q E hr ⟨a, C, w, e, c, ha, q⟩ => ⟨_, pss_one (ps_ost (pe_var (i := 0) rfl v0 (by decide) (by decide)) (pe_var (i := 1) rfl v1 (by decide) (by decide)) (hsw _)), by
    subst e
    refine ⟨w, rfl, .ref a, rfl, a, C, rfl, c.o, c.w, .inl ⟨ha, fun dx h1 h2 => q dx h1 h2⟩⟩⟩
end
/-! ### X(..): the exception stands, its fields by fl -/
def tMkX (C : Addr) (n : Nat) (fl : List V → List (Str × V)) (ta : TA) : St → Hp → XK → Prop := fun σ H Q => ta σ H fun vs H1 => vs.length = n ∧ n ≤ 1000 ∧ ∀ d H', H1 d = none → H' d = some (.xd (fl vs)) → (∀ b, b ≠ d → H' b = H1 b) → Q (.ref C) (some d) H'
section
variable {X : Cx} {CX : CXT} {x : Str} {C fI : Addr} {k n : Nat} {fd : FuncData} {ps : List Str} {fl : List V → List (Str × V)} {ta : TA} {e : Expr} {es : List Expr} {p pos : Pos}
theorem mkx_of {H1 : Hp} {vs : List V} {Q : XK} (hn : vs.length = n) (h : ∀ d H', H1 d = none → H' d = some (.xd (fl vs)) → (∀ b, b ≠ d → H' b = H1 b) → Q (.ref C) (some d) H') : ∀ a, H1 a = none → spXI C n fl (.ref a :: (vs ++ [])) (upd H1 a (exo a C none))
    (fun v H2 => v = .non ∧ ∃ (d : Addr) (fs : List (Str × V)), H2 a = some (exo a C (some d)) ∧ H2 d = some (exd d fs) ∧ H1 d = none ∧ Q (.ref C) (some d) (upd (del H2 a) d (.xd fs))) (fun _ _ _ => False) := by
  intro a ha
  refine ⟨a, vs, by rw [List.append_nil], hn, upd_same, fun dx H' h1 h2 h3 h4 h5 => ⟨rfl, dx, _, h3, h4, ?_, ?_⟩⟩
  · rw [upd_ne h2] at h1
    exact h1
  · rw [upd_ne h2] at h1
    refine h dx _ h1 upd_same fun b hb => ?_
    rw [upd_ne hb]
    by_cases hba : b = a
    · subst hba
      rw [del_same, ha]
    · rw [del_ne hba, h5 b hba hb, upd_ne hba]
theorem rdA_mono {C' : Cc} {W : WX} {f : M (List T)} {σ : St} {H : Hp} {Q Q' : List V → Hp → Prop} (h : rdA C' W f σ H Q) (m : ∀ vs H', Q vs H' → Q' vs H') : rdA C' W f σ H Q' := by
  obtain ⟨Γ, τ, R, w⟩ := h
  exact ⟨Γ, τ, R, Out.wp_mono w (fun ts Γ' z vs H' hl R' => m vs H' (z vs H' hl R')) fun _ _ z => z⟩
theorem pmk_x {C' : Cc} {W : WX} {fa : M (List T)} (T : OexC X.K C) (iC : PySem.W.findIn X.K (.ref C) "__init__" = some (some (.ref fI))) (tI : PySem.W.typeIn X.K (.ref fI) = some (.type "function")) (F1 : FnOk X.prog X.w X.K X.mg X.base CX k fI fd ps (spXI C n fl)) (hr : Room (k + 1) X.A) (hb : Binds X.K fd ps [])
    (hx : Passes CX X (fun _ _ _ => False)) (hg : Gl X x) (hm : X.mg x = some (.ref C)) (ha : PA X (e :: es) (rdA C' W fa)) (hdb : (x == ("__debug__" : Str)) = false := by decide) (he : starEach (e :: es) X.env = (false, eval e X.env) :: starEach es X.env := by rfl) (hpl : (backTo pos (starEach es X.env)).any (·.1) = false := by rfl) :
    PMk X (.Call (.Name x p) (e :: es) [] pos) (tMkX C n fl (rdA C' W fa)) := fun pins s σ H Q I h =>
  pmk_oex T iC tI F1 hr hb .nil hx hg hm ha hdb he hpl pins s σ H Q I (rdA_mono h fun vs H1 ⟨h1, h2, h3⟩ => ⟨by rw [h1]; exact h2, mkx_of h1 h3⟩)
/-- X(), no argument -/
theorem pmk_x0 (T : OexC X.K C) (iC : PySem.W.findIn X.K (.ref C) "__init__" = some (some (.ref fI))) (tI : PySem.W.typeIn X.K (.ref fI) = some (.type "function")) (F1 : FnOk X.prog X.w X.K X.mg X.base CX k fI fd ps (spXI C 0 fl)) (hr : Room (k + 1) X.A) (hb : Binds X.K fd ps [])
    (hx : Passes CX X (fun _ _ _ => False)) (hg : Gl X x) (hm : X.mg x = some (.ref C)) (hdb : (x == ("__debug__" : Str)) = false := by decide) : PMk X (.Call (.Name x p) [] [] pos) (tMkX C 0 fl tNil) := by
  intro pins s σ H Q I h
  obtain ⟨_, _, h⟩ := h
  obtain ⟨nm, q, N, bs, bm, sn, sub, ab, col, dd, k0, k1, k2, k3, k5, hC, hbm⟩ := T.cls
  refine wpAny_Call_Name_kw (ld_glob I hg hm ?_ hdb)
  refine PySem.W.callWith_K0 I.kIn T.kC ?_
  obtain ⟨hp, gs, dr, tk, os⟩ := s
  have sz : hp.objs.size ≤ hp.objs.size + 1 := Nat.le_succ _
  have fresh : H (hp.objs.size + 1) = none := I.hok.fresh sz
  have hq := mkx_of (fl := fl) (vs := []) (n := 0) (C := C) (Q := Q) rfl h (hp.objs.size + 1) fresh
  have old : ∀ b o, hp.get? b = some o → ((hp.push (PySem.W.kdv_tup [])).push (PySem.HandSPX.excO C hp.objs.size)).get? b = some o := fun b o z => Heap.get?_push_of_some _ (Heap.get?_push_of_some _ z)
  have it : ((hp.push (PySem.W.kdv_tup [])).push (PySem.HandSPX.excO C hp.objs.size)).get? (hp.objs.size + 1) = some (PySem.HandSPX.excO C hp.objs.size) := by heap_get
  have J := I.laid (t' := tk) (a := hp.objs.size + 1) (o := exo (hp.objs.size + 1) C none) (h' := (hp.push (PySem.W.kdv_tup [])).push (PySem.HandSPX.excO C hp.objs.size)) old sz (exo_ok it)
  have rv : Vals (V.ref (hp.objs.size + 1) :: ([] ++ [])) (Value.ref (hp.objs.size + 1) :: ([] ++ [])) := .cons rfl .nil
  have hl : (Value.ref (hp.objs.size + 1) :: [] ++ []).length = ps.length := by
    have z := rv.length
    rw [F1.len _ _ _ _ hq] at z
    exact z.symm
  refine wpAny_call (PySem.HandSPX.call_own F.excBase_ValueError (fun Y => PySem.HandSPX.refsVE_contains Y bm hbm) (I.kIn _ _ hC) (PySem.W.looks_findIn I.kIn iC) (fun self => PySem.W.bind_fn I.kIn self tI) (Nat.zero_le _)
    (codeAny_mono (F1.run _ X.stack _ _ ⟨[Value.ref (hp.objs.size + 1)], []⟩ [Value.ref (hp.objs.size + 1)] _ _ (fun _ _ _ => False) (hr.make C [] []) (J.env0.make C [] []) (hb _ [Value.ref (hp.objs.size + 1)] J.kIn hl) rv hq) fun r s' hq' => ?_))
  cases r with
  | error er => exact hx pins σ _ _ er s' J hq'
  | ok fl' =>
    cases fl' with
    | ret u =>
      obtain ⟨v, H2, os2, bare2, un2, hok2, rv', ev, d, fs, ea, ed, hd1, q2⟩ := hq'
      subst ev
      obtain ⟨h2, g2, d2, t2, os'⟩ := s'
      exact ⟨rv', mk_end (raises_own T.exC T.tyC) I sz old un2 hok2 os2 bare2 ea ed hd1 q2⟩
    | next => exact False.elim hq'
    | brk => exact False.elim hq'
    | cont => exact False.elim hq'
end

/-! ### the __init__ of an own exception: B.__init__(self, c), then fields -/
/-- B, the base class, and its __init__ -/
structure Bs (P : Program) (w : World) (K : PySem.W.Frag) (mg : Str → Option Value) (base : Heap) (B : Str) where
  C : Addr
  g : Addr
  mc : Value
  fd : FuncData
  mgB : mg B = some (.ref C)
  rd : ClX.CRead K C mc
  at_ : PySem.W.findCls K (.ref C) mc "__init__" = some (.val (.ref g))
  kp : PySem.W.keepIn K (.ref g) = true
  bd : Binds K fd ["self", "word"] []
  ok : FnOk P w K mg base (L2.CX P w) 1 g fd ["self", "word"] (spCI K)
section
variable {P : Program} {w : World} {K : PySem.W.Frag} {mg : Str → Option Value} {base : Heap} {B c : Str} {f C : Addr} {fd : FuncData} {x qual : Str} {st : Stmt} {p1 p2 q1 q2 q3 q4 : Pos} {j : Nat}
/-- how the call B.__init__(..) is evaluated -/
def InitEv (e1 : Expr) (es : List Expr) (p2 pos : Pos) (env : PySem.Env) : Prop := ∃ pl : Sem Bool, eval (.Call (.Attribute e1 "__init__" p2) es [] pos) env = (do
      let ov ← eval e1 env
      standAt p2.atName
      let (f, first) ← holding [ov] (getMethod ov "__init__" pl)
      callWith pos f first (backTo pos (starEach es env)) (backToKw pos (keywordEach [] env)))
theorem xi_ok0 (Bb : Bs P w K mg base B) (T : Xc K C) (F : Fun K x qual st f fd) (S : FnScope ["self"] ["self"] (defScope st)) (v0 : Vis (defScope st) "self") (hdb : (B == ("__debug__" : Str)) = false)
    (hbody : defBody st = [.Expr (.Call (.Attribute (.Name B p1) "__init__" p2) [.Name "self" q1, .Constant (.str c) j q2] [] q3) q4])
    (hGl : ∀ cdv A outer s H E, Gl (cxOf (L2.CX P w) P w K mg base ["self"] qual (defScope st) f cdv A outer s H E) B)
    (hev : ∀ cdv A outer s H E, InitEv (.Name B p1) [.Name "self" q1, .Constant (.str c) j q2] p2 q3 (cxOf (L2.CX P w) P w K mg base ["self"] qual (defScope st) f cdv A outer s H E).env)
    (hsw : ∀ cdv A outer s H E, swapsWith (.Call (.Attribute (.Name B p1) "__init__" p2) [.Name "self" q1, .Constant (.str c) j q2] [] q3) none q4.line (cxOf (L2.CX P w) P w K mg base ["self"] qual (defScope st) f cdv A outer s H E).env = pure false) :
    FnOk P w K mg base (L2.CX P w) 2 f fd ["self"] (spXI C 0 fun _ => [("word", .str c)]) := by
  refine F.okX S (fun vs H Q E ⟨a, ws, e, hl, _⟩ => by
    cases ws with
    | nil => rw [e]; rfl
    | cons _ _ => cases hl) (fun cdv A outer s H vs Q E hr ⟨a, ws, e, hl, ha, q⟩ => ?_)
  have tk := takes_of (X := cxOf (L2.CX P w) P w K mg base ["self"] qual (defScope st) f cdv A outer s H E) rfl rfl rfl rfl
  obtain ⟨pl, hpl⟩ := hev cdv A outer s H E
  rw [hbody]
  refine ⟨_, pss_one (ps_expr (pe_clsfn (E := fun _ _ _ => False) (hGl cdv A outer s H E) Bb.mgB Bb.rd Bb.at_ Bb.kp Bb.ok hr Bb.bd (passes_call tk (fun _ _ _ _ z => z.elim)) (pa_cons (pe_var (i := 0) rfl v0 (by decide) (by decide)) (pa_cons pe_str pa_nil)) hdb (ht := hpl)) (hsw cdv A outer s H E)), ?_⟩
  cases ws with
  | cons _ _ => cases hl
  | nil =>
    subst e
    refine ⟨.ref a, rfl, ?_⟩
    exact ⟨a, C, .str c, rfl, T, ha, fun dx h1 h2 => q dx _ h1 h2 upd_same (by rw [upd_ne h2, upd_same]) fun b n1 n2 => by rw [upd_ne n1, upd_ne n2]⟩
theorem xi_ok1 {g : Str} {q5 q6 q7 q8 : Pos} (Bb : Bs P w K mg base B) (T : Xc K C) (Tg : PySem.W.findIn K (.ref C) g = some none) (F : Fun K x qual st f fd) (S : FnScope ["self", g] ["self", g] (defScope st)) (v0 : Vis (defScope st) "self") (v1 : Vis (defScope st) g) (hdg : (g == ("__debug__" : Str)) = false) (hcg : (g == ("__classdict__" : Str)) = false) (hdb : (B == ("__debug__" : Str)) = false)
    (hbody : defBody st = [.Expr (.Call (.Attribute (.Name B p1) "__init__" p2) [.Name "self" q1, .Constant (.str c) j q2] [] q3) q4, .Assign [.Attribute (.Name "self" q5) g q6] (.Name g q7) q8])
    (hGl : ∀ cdv A outer s H E, Gl (cxOf (L2.CX P w) P w K mg base ["self", g] qual (defScope st) f cdv A outer s H E) B)
    (hev : ∀ cdv A outer s H E, InitEv (.Name B p1) [.Name "self" q1, .Constant (.str c) j q2] p2 q3 (cxOf (L2.CX P w) P w K mg base ["self", g] qual (defScope st) f cdv A outer s H E).env)
    (hsw : ∀ cdv A outer s H E, swapsWith (.Call (.Attribute (.Name B p1) "__init__" p2) [.Name "self" q1, .Constant (.str c) j q2] [] q3) none q4.line (cxOf (L2.CX P w) P w K mg base ["self", g] qual (defScope st) f cdv A outer s H E).env = pure false)
    (hsw2 : ∀ cdv A outer s H E, swapsWith (.Name g q7) (some (.Attribute (.Name "self" q5) g q6)) q8.line (cxOf (L2.CX P w) P w K mg base ["self", g] qual (defScope st) f cdv A outer s H E).env = pure false) :
    FnOk P w K mg base (L2.CX P w) 2 f fd ["self", g] (spXI C 1 fun vs => [(g, vs.headD .non), ("word", .str c)]) := by
  refine F.okX S (fun vs H Q E ⟨a, ws, e, hl, _⟩ => by
    cases ws with
    | nil => cases hl
    | cons _ r =>
      cases r with
      | nil => rw [e]; rfl
      | cons _ _ => cases hl) (fun cdv A outer s H vs Q E hr ⟨a, ws, e, hl, ha, q⟩ => ?_)
  have tk := takes_of (X := cxOf (L2.CX P w) P w K mg base ["self", g] qual (defScope st) f cdv A outer s H E) rfl rfl rfl rfl
  obtain ⟨pl, hpl⟩ := hev cdv A outer s H E
  rw [hbody]
  refine ⟨_, pss_cons (ps_expr (pe_clsfn (E := fun _ _ _ => False) (hGl cdv A outer s H E) Bb.mgB Bb.rd Bb.at_ Bb.kp Bb.ok hr Bb.bd (passes_call tk (fun _ _ _ _ z => z.elim)) (pa_cons (pe_var (i := 0) rfl v0 (by decide) (by decide)) (pa_cons pe_str pa_nil)) hdb (ht := hpl)) (hsw cdv A outer s H E))
    (pss_one (ps_ost (pe_var (i := 0) rfl v0 (by decide) (by decide)) (pe_var (i := 1) rfl v1 hdg hcg) (hsw2 cdv A outer s H E))), ?_⟩
  cases ws with
  | nil => cases hl
  | cons y r =>
    cases r with
    | cons _ _ => cases hl
    | nil =>
      subst e
      refine ⟨.ref a, rfl, ?_⟩
      refine ⟨a, C, .str c, rfl, T, ha, fun dx h1 h2 => ?_⟩
      refine ⟨y, rfl, .ref a, rfl, a, C, rfl, T.o, Tg, .inr ⟨dx, _, upd_same, by rw [upd_ne h2, upd_same], (by show 1 ≤ 900; decide), ?_⟩⟩
      refine q dx _ h1 h2 (by rw [upd_ne (Ne.symm h2), upd_same]) upd_same fun b n1 n2 => by rw [upd_ne n2, upd_ne n1, upd_ne n2]
end

/-! ### raise X(..) -/
def raiseM (c : Str) (fl : List D → List (Str × D)) (fa : M (List T)) : M Flow := bindM fa fun ts => bindM (optM (T.fzs ts)) fun ds => fun Γ => .exc ⟨c, fl ds⟩ Γ
/-- the fields by values and by data -/
def FlOk (n : Nat) (flV : List V → List (Str × V)) (fl : List D → List (Str × D)) : Prop := ∀ (K : PySem.W.Frag) (cl : Cl) (F : Hp) (vs : List V) (ds : List D), vs.length = n → Dts K cl F vs ds → (flV vs).map (·.1) = (fl ds).map (·.1) ∧ Dts K cl F ((flV vs).map (·.2)) ((fl ds).map (·.2))
theorem flok0 (c : Str) : FlOk 0 (fun _ => [("word", .str c)]) (fun _ => [("word", .str c)]) := fun K cl F vs ds _ h => ⟨rfl, .cons (.str c) .nil⟩
theorem flok1 (g c : Str) : FlOk 1 (fun vs => [(g, vs.headD .non), ("word", .str c)]) (fun ds => [(g, ds.headD .non), ("word", .str c)]) := fun K cl F vs ds hl h => by
  cases h with
  | nil => cases hl
  | cons h hs => exact ⟨rfl, .cons h (.cons (.str c) .nil)⟩
/-- what is known of the class c for its raising -/
structure Rs (P : Program) (w : World) (K : PySem.W.Frag) (mg : Str → Option Value) (base : Heap) (cl : Cl) (c : Str) (n : Nat) (flV : List V → List (Str × V)) where
  C : Addr
  fI : Addr
  fd : FuncData
  ps : List Str
  ox : OexC K C
  mgC : mg c = some (.ref C)
  iC : PySem.W.findIn K (.ref C) "__init__" = some (some (.ref fI))
  tI : PySem.W.typeIn K (.ref fI) = some (.type "function")
  bd : Binds K fd ps []
  ok : FnOk P w K mg base (L2.CX P w) 2 fI fd ps (spXI C n flV)
  cl : cl c = some C
theorem upd_of {H H' : Hp} {d : Addr} {o : HO} (h1 : H' d = some o) (h2 : ∀ b, b ≠ d → H' b = H b) : H' = upd H d o := by
  funext b
  by_cases e : b = d
  · rw [e, h1, upd_same]
  · rw [h2 b e, upd_ne e]
section
variable {X : Cx} {C : Cc} {W : WX} {c : Str} {n : Nat} {flV : List V → List (Str × V)} {fl : List D → List (Str × D)} {e : Expr} {es : List Expr} {fa : M (List T)} {p pos pos2 : Pos}
theorem RelX.made {σ : St} {H1 H' : Hp} {Γ : Env} {τ : Hand} {F : Hp} {ow : Addr → Option Root} {c : Str} {Ca d : Addr} {fs : List (Str × V)} {fds : List (Str × D)} (R : Rl C σ H1 Γ τ F ow) (hc : C.cl c = some Ca) (hn : H1 d = none) (h1 : H' d = some (.xd fs)) (h2 : ∀ b, b ≠ d → H' b = H1 b) (e1 : fs.map (·.1) = fds.map (·.1)) (e2 : Dts C.K C.cl F (fs.map (·.2)) (fds.map (·.2))) :
    RelX C σ H' Γ τ (.ref Ca) (some d) ⟨c, fds⟩ := by
  have e := upd_of h1 h2
  subst e
  exact ⟨F, ow, R.newH hn, Ca, d, fs, rfl, hc, rfl, upd_same, e1, e2⟩
theorem ds_raise (hK : C.K = X.K) (T : Rs X.prog X.w X.K X.mg X.base C.cl c n flV) (hf : FlOk n flV fl) (hn : n ≤ 1000) (hc : X.calm = true) (tk : Takes X W) (hr : Room 3 X.A) (hg : Gl X c) (ha : PA X (e :: es) (rdA C W fa)) (hfa : ∀ Γ ts Γ', fa Γ = .ok ts Γ' → ts.length = n)
    (hdb : (c == ("__debug__" : Str)) = false := by decide) (he : starEach (e :: es) X.env = (false, eval e X.env) :: starEach es X.env := by rfl) (hpl : (backTo pos (starEach es X.env)).any (·.1) = false := by rfl) :
    PS X (.Raise (some (.Call (.Name c p) (e :: es) [] pos)) none pos2) (rdS C W (raiseM c fl fa)) := ps_sub (ps_raise hc tk (pmk_x T.ox T.iC T.tI T.ok hr T.bd (passes_call tk (fun _ _ _ _ z => z.elim)) hg T.mgC ha hdb he hpl)) fun D σ H ⟨Γ, τ, na, R, w⟩ => by
  refine ⟨Γ, τ, R, ?_⟩
  have w1 := Out.wp_bind w
  cases q : fa Γ with
  | ok ts Γ1 =>
    rw [q] at w1
    intro vs H1 hl R1
    have hlen := hfa _ _ _ q
    refine ⟨hl.trans hlen, hn, fun d H' hd h1 h2 => ?_⟩
    obtain ⟨ds, e1, w2⟩ := wp_optM (Out.wp_bind w1)
    obtain ⟨F, ow, R1⟩ := R1
    have hds := R1.hands hl e1
    obtain ⟨g1, g2⟩ := hf C.K C.cl F vs ds (hl.trans hlen) hds
    exact w2 (.ref T.C) (some d) σ H' (RelX.made R1.drop T.cl hd h1 h2 g1 g2)
  | exc x' Γ1 => rw [q] at w1; exact fun cls d H' RX => w1 cls d σ H' RX
  | bad => rw [q] at w1; exact w1
theorem ds_raise0 (hK : C.K = X.K) (T : Rs X.prog X.w X.K X.mg X.base C.cl c 0 flV) (hf : FlOk 0 flV fl) (hc : X.calm = true) (tk : Takes X W) (hr : Room 3 X.A) (hg : Gl X c) (hdb : (c == ("__debug__" : Str)) = false := by decide) :
    PS X (.Raise (some (.Call (.Name c p) [] [] pos)) none pos2) (rdS C W (raiseM c fl (argsM []))) := ps_sub (ps_raise hc tk (pmk_x0 T.ox T.iC T.tI T.ok hr T.bd (passes_call tk (fun _ _ _ _ z => z.elim)) hg T.mgC hdb)) fun D σ H ⟨Γ, τ, na, R, w⟩ => by
  refine ⟨rfl, by decide, fun d H' hd h1 h2 => ?_⟩
  obtain ⟨F, ow, R⟩ := R
  obtain ⟨g1, g2⟩ := hf C.K C.cl F [] [] rfl .nil
  exact w (.ref T.C) (some d) σ H' (RelX.made R T.cl hd h1 h2 g1 g2)
end
end DL
set_option maxHeartbeats 1000000
/-! try with several clauses, each with a name; lambdas handed to a def -/
namespace DL
open PySem PySem.Spec PyProof.Rows L2

/-- a clause's ends: its name goes -/
abbrev goes (i : Nat) (D : Ends) : Ends := { nx := fun σ' H' => D.nx (σ'.set i none) H', rt := D.rt, bk := fun σ' H' => D.bk (σ'.set i none) H', ct := fun σ' H' => D.ct (σ'.set i none) H' }
abbrev Clause := Value × (Addr → Value → Option Addr → TS)
/-- what the clauses wish of an exception, one behind another -/
def wAll (K : PySem.W.Frag) (i : Nat) (Wout : WX) (D : Ends) : List Clause → WX
  | [] => Wout
  | (c, ts) :: r => fun cls d σ H => ∃ b, PySem.W.exmOne K cls c = some b ∧ (b = true → ∀ a, H a = none → ts a cls d (goes i D) (σ.set i (some (.ref a))) H) ∧ (b = false → wAll K i Wout D r cls d σ H)
/-- the clauses' text and their suites -/
inductive HdAs (X : Cx) (n : Str) : List ExceptHandler → List Clause → Prop
  | nil : HdAs X n [] []
  | cons {x : Str} {c : Value} {ts : Addr → Value → Option Addr → TS} {b₀ : Stmt} {su : List Stmt} {np ps : Pos} {hds : List ExceptHandler} {l : List Clause} (hc : Names X x c)
      (hsu : ∀ (a : Addr) (oe : Obj) (cls : Value) (d : Option Addr) (pn : List (Addr × Obj)), Zc cls d oe → (∃ vs, oe.data = .fields vs) → PSs (X.suite a ((a, oe) :: pn)) (b₀ :: su) (ts a cls d)) (r : HdAs X n hds l) :
      HdAs X n (.ExceptHandler (some (.Name x np)) (some n) (b₀ :: su) ps :: hds) ((c, ts) :: l)
section
variable {X : Cx} {n : Str} {i : Nat} {body : List Stmt} {h₀ : ExceptHandler} {hds : List ExceptHandler} {l : List Clause} {pos : Pos} {tb : WX → TS} {Wout : WX}
/-- the end of a suite with a name -/
theorem suite_end {pins : List (Addr × Obj)} {D : Ends} {a : Addr} {oe : Obj} {ps : Pos} {fw : PySem.Flow} {s6 : Shared} (ok : X.Ok) (hN : X.N.Nodup) (hi : X.N[i]? = some n) (hln : X.env.kindOf n = some .local)
    (h : SP (X.suite a ((a, oe) :: (X.pn ++ pins))) [] (goes i D) fw s6) : wpAny (model X.prog X.w) X.A (do bindName X.env n .none; unbindBehindTheSuite X.env n ps) (fun _ s7 => SP X pins D fw s7) X.xe s6 := by
  cases fw with
  | next => obtain ⟨σ6, H6, S6, z⟩ := h; exact gone_ok (S6.unsuite ok) hN hi hln fun s7 J7 => ⟨_, _, J7, z⟩
  | brk => obtain ⟨σ6, H6, S6, z⟩ := h; exact gone_ok (S6.unsuite ok) hN hi hln fun s7 J7 => ⟨_, _, J7, z⟩
  | cont => obtain ⟨σ6, H6, S6, z⟩ := h; exact gone_ok (S6.unsuite ok) hN hi hln fun s7 J7 => ⟨_, _, J7, z⟩
  | ret u => obtain ⟨v6, σ6, H6, S6, r6, z⟩ := h; exact gone_ok (S6.unsuite ok) hN hi hln fun s7 J7 => ⟨_, _, _, J7, r6, z⟩
/-- out of the try -/
theorem try_out {pins : List (Addr × Obj)} {D : Ends} {pn : List (Addr × Obj)} {xe : Value → Shared → Prop} {fw : PySem.Flow} {s1 : Shared} (ok : X.Ok) (h : SP (X.tr (X.pn ++ pins) xe) [] D fw s1) : SP X pins D fw s1 := by
  cases fw with
  | next => exact h.imp fun σ' h => h.imp fun H' h => ⟨h.1.ofTry ok, h.2⟩
  | brk => exact h.imp fun σ' h => h.imp fun H' h => ⟨h.1.ofTry ok, h.2⟩
  | cont => exact h.imp fun σ' h => h.imp fun H' h => ⟨h.1.ofTry ok, h.2⟩
  | ret u => exact h.imp fun v h => h.imp fun σ' h => h.imp fun H' h => ⟨h.1.ofTry ok, h.2⟩
theorem ps_tries (hs : X.stack = X.env :: X.outer) (hf : X.env.frame = some X.env.locals) (hN : X.N.Nodup) (hi : X.N[i]? = some n) (hln : X.env.kindOf n = some .local) (tk : Takes X Wout)
    (hb : ∀ (W : WX) (pn : List (Addr × Obj)) (xe : Value → Shared → Prop), Takes (X.tr pn xe) W → PassesOwn (model X.prog X.w) X.A X.env xe → PSs (X.tr pn xe) body (tb W)) (hh : HdAs X n (h₀ :: hds) l) :
    PS X (.Try body (h₀ :: hds) [] [] pos) (fun D σ H => tb (wAll X.K i Wout D l) D σ H) := ⟨fun pins s σ H D I h => by
  have ok := I.ok
  have frs_ : X.A.frames = some (X.env :: X.outer) := by rw [ok.frames, hs]
  refine wpAny_Try_except ?_
  refine wpAny_mono ((hb (wAll X.K i Wout D l) (X.pn ++ pins) (fun e s₁ => wpAny (model X.prog X.w) X.A (noteFrame e X.env) (fun _ s₂ => wpAny (model X.prog X.w) X.A (setFlight e none) (fun _ s₃ => wpAny (model X.prog X.w) X.A (handleBy e X.env (h₀ :: hds)) (SP X pins D) X.xe s₃) X.xe s₂) X.xe s₁) (fun u s' xx => ?_) PassesOwn.looking).run [] s σ H D (I.toTry _) h) (fun fw s1 hsp => ?_) (fun _ _ z => z)
  · obtain ⟨a, B, sI, pq, σ', H', cls, d, rfl, J', nb, up, sky, na, os, ag, wish⟩ := xx
    have J : Inv X pins σ' H' sI := J'.ofTry ok
    rw [hs] at sky
    show wpAny (model X.prog X.w) X.A (noteFrame (.ref a) X.env) _ _ _
    refine Sky.land Zc.steady frs_ hf sky fun h3 fly up3 => ?_
    have J3 : Inv X pins σ' H' { s' with heap := h3 } := J.landed nb fly.1 (up.trans up3) os ag
    obtain ⟨oe, vs, he, hz, hd⟩ := fly.there
    have away : a ∉ frs (X.env :: X.outer) := fun hm => by
      obtain ⟨_, o', e', hnf⟩ := fly.2.2.1.mem hm
      rw [he] at e'
      cases e'
      exact hnf _ hd
    have nL : a ≠ X.env.locals := fun z => away (List.mem_filterMap.mpr ⟨X.env, List.mem_cons_self, by rw [hf, z]⟩)
    have nF : a ∉ X.fs := fun hm => by
      obtain ⟨en, hen, z⟩ := List.mem_filterMap.mp hm
      exact away (List.mem_filterMap.mpr ⟨en, List.mem_cons_of_mem _ hen, z⟩)
    have S3 := J3.suite he hd na nL nF
    have ty : PySem.W.Looks (model X.prog X.w) h3 (typeOf (.ref a)) cls := fun A Q E s k z => wpAny_typeOf_ref (k _ _ he) (by rw [hz.1]; exact z)
    have look : ∀ {x : Str} {c : Value} {np : Pos} {Q : Value → Shared → Prop} {E : Value → Shared → Prop}, Names X x c → Q c { s' with heap := h3 } → wpAny (model X.prog X.w) (X.A.mark (some (.ref a))) (eval (.Name x np) X.env) Q E { s' with heap := h3 } := fun {x c np Q E} hc z => by
      obtain ⟨hg, hdbg, hm | ⟨hm, hv, hnn⟩⟩ := hc
      · exact ld_glob (X := X.suite a ((a, oe) :: (X.pn ++ pins))) S3 hg hm z hdbg
      · exact ld_blt (X := X.suite a ((a, oe) :: (X.pn ++ pins))) S3 hg hm hv z hnn hdbg
    have go : ∀ {hds' : List ExceptHandler} {l' : List Clause}, HdAs X n hds' l' → wAll X.K i Wout D l' cls d σ' H' → wpAny (model X.prog X.w) X.A (handleBy (.ref a) X.env hds') (SP X pins D) X.xe { s' with heap := h3 } := by
      intro hds' l' hk
      induction hk with
      | nil =>
        intro w
        refine wpAny_handleBy_nil ?_
        obtain ⟨_, _, _, oe', vs', T, oT, ts', he', _, hd', h1, _⟩ := id fly
        unfold PySem.passOn
        refine wpAny_bind (wpAny_field he' hd' h1 ?_)
        rw [if_neg (show ¬ ((Value.ref T == Value.none) = true) from by simp)]
        have last : wpAny (model X.prog X.w) X.A (setFlight (.ref a) X.env.frame) (fun _ s4 => wpAny (model X.prog X.w) X.A (throw (.ref a) : Sem PySem.Flow) (SP X pins D) X.xe s4) X.xe { s' with heap := h3 } := by
          rw [hf]
          exact HandSPX.setFlight_upZ fly fun h4 hh4 up4 => wpAny_throw (tk _ _ ⟨a, B, sI, pins, σ', H', cls, d, rfl, J, nb, (up.trans up3).trans up4, .inr (.inr (by rw [hs]; exact hh4)), na, os, ag, w⟩)
        first | exact wpAny_bind (wpAny_pure (wpAny_bind last)) | exact wpAny_bind last
      | cons hc hsu r ih =>
        intro w
        obtain ⟨b, hb1, yes, no⟩ := w
        refine wpAny_handleBy_cons (codeAny_handlers_test (look hc ((PySem.W.exm_one (M := model X.prog X.w) J3.kIn ty hb1).here ?_))) (by intro q; cases q)
        cases b with
        | true =>
          refine codeAny_handlers_suite_as (HandSPX.lands_againZ fly fun h4 fly4 up4 => ?_)
          have J4 : Inv X pins σ' H' { s' with heap := h4 } := J.landed nb fly4.1 ((up.trans up3).trans up4) os ag
          obtain ⟨oe4, vs4, he4, hz4, hd4⟩ := fly4.there
          refine store_ok (X := X.suite a ((a, oe4) :: (X.pn ++ pins))) (v := .ref a) (J4.suite he4 hd4 na nL nF) hN hi (.inl hln) rfl (fun s5 S5 => ?_) (.inr hln)
          exact wpAny_mono ((hsu a oe4 cls d (X.pn ++ pins) hz4 ⟨_, hd4⟩).run [] s5 _ H' _ S5 (yes rfl a na)) (fun fw s6 z => suite_end ok hN hi hln z) (fun _ _ z => False.elim z)
        | false => exact ih (no rfl)
    exact go hh wish
  · cases fw with
    | next => exact wpAny_execs_nil (try_out (pn := []) ok hsp)
    | brk => exact try_out (pn := []) ok hsp
    | cont => exact try_out (pn := []) ok hsp
    | ret u => exact try_out (pn := []) ok hsp⟩
end
end DL
set_option maxHeartbeats 1000000
/-! lambdas: made, called -/
namespace DL
open PySem PySem.Spec PyProof.Rows L2 LamX

/-! ### names -/
/-- a lambda's names: parameters (their slots of the maker, if any, among ws), captured ones, globals -/
structure LamN (N : List Str) (sc scope : Scope) (ws : List Nat) : Prop where
  kind : scope.kind = .function
  co : scope.isCoroutine = false
  gen : scope.isGenerator = false
  nocell : ∀ y ∈ scope.names, y.2 ≠ .cell
  own : ∀ y ∈ scope.names, y.2 = .local → ∀ i, N[i]? = some y.1 → i ∈ ws
  free : ∀ y ∈ scope.names, y.2 = .free → sc.names.lookup y.1 = some .cell ∨ sc.names.lookup y.1 = some .free
def lamNB (N : List Str) (sc scope : Scope) (ws : List Nat) : Bool :=
  decide (scope.kind = .function) && !scope.isCoroutine && !scope.isGenerator && scope.names.all fun y => !decide (y.2 = .cell) && (!decide (y.2 = .local) || (List.range N.length).all fun i => !decide (N[i]? = some y.1) || decide (i ∈ ws)) &&
    (!decide (y.2 = .free) || decide (sc.names.lookup y.1 = some .cell) || decide (sc.names.lookup y.1 = some .free))
theorem lamN_by {N : List Str} {sc scope : Scope} {ws : List Nat} (h : lamNB N sc scope ws = true) : LamN N sc scope ws := by
  unfold lamNB at h
  simp only [Bool.and_eq_true, Bool.or_eq_true, Bool.not_eq_true', decide_eq_true_eq, decide_eq_false_iff_not, List.all_eq_true] at h
  obtain ⟨⟨⟨h1, h2⟩, h3⟩, h4⟩ := h
  refine ⟨h1, h2, h3, fun y hy => (h4 y hy).1.1, fun y hy e i hi => ?_, fun y hy e => ?_⟩
  · rcases (h4 y hy).1.2 with z | z
    · exact absurd e z
    · rcases z i (List.mem_range.mpr (List.getElem?_eq_some_iff.mp hi).1) with q | q
      · exact absurd hi q
      · exact q
  · rcases (h4 y hy).2 with (z | z) | z
    · exact absurd e z
    · exact .inl z
    · exact .inr z

/-! ### what is captured -/
structure Capt (N : List Str) (σ : L2.St) (scope : Scope) (cs : List (Str × Addr)) (H : Hp) (h : Heap) : Prop where
  has : ∀ y, scope.names.lookup y = some .free → ∃ c, cs.lookup y = some c
  inj : ∀ y z c, cs.lookup y = some c → cs.lookup z = some c → y = z
  cell : ∀ y c, cs.lookup y = some c → ∃ v, h.IsCell c v
  non : ∀ y c, cs.lookup y = some c → H c = none
  val : ∀ (i : Nat) y v, N[i]? = some y → σ[i]? = some (some v) → scope.names.lookup y = some .free → ∃ c u, cs.lookup y = some c ∧ RelV v u ∧ h.IsCell c (some u)
  len : σ.length = N.length
theorem capt_of {X : Cx} {pins : List (Addr × Obj)} {σ : L2.St} {H : Hp} {s : Shared} {scope : Scope} {ws : List Nat} (I : Inv X pins σ H s) (L : LamN X.N X.env.scope scope ws) : Capt X.N σ scope (cloFrom X.env.cells scope.names []) H s.heap := by
  have there : ∀ y, (y, NameKind.free) ∈ scope.names → ∃ c, X.env.cells.lookup y = some c := fun y hy => by
    rcases L.free _ hy rfl with k | k
    · exact I.ok.has _ (.inl k)
    · exact I.ok.has _ (.inr k)
  have up : ∀ {y c}, (cloFrom X.env.cells scope.names []).lookup y = some c → X.env.cells.lookup y = some c := fun {y c} e => by
    rcases cloFrom_mem (PySem.mem_of_lookup e) with hm | ⟨h1, h2⟩
    · cases hm
    · obtain ⟨c1, hc⟩ := there _ h1
      rw [hc] at h2
      rw [hc, h2]
      rfl
  have down : ∀ {y}, scope.names.lookup y = some .free → ∃ c, (cloFrom X.env.cells scope.names []).lookup y = some c := fun {y} hl => mem_lookup (cloFrom_has (cells := X.env.cells) (acc := []) (PySem.mem_of_lookup hl))
  refine ⟨fun y hy => down hy, fun y z c h1 h2 => I.ok.inj y z c (up h1) (up h2), fun y c e => I.cell y c (up e), fun y c e => I.freeC y c (up e), fun i y v e1 e2 k => ?_, I.len⟩
  obtain ⟨m, _, hl⟩ := I.loc
  have fr := L.free _ (PySem.mem_of_lookup k) rfl
  obtain ⟨u, ru, q⟩ := hl i y v e1 e2 (fr.elim (fun k => .inr (.inl k)) (fun k => .inr (.inr k)))
  obtain ⟨c, hc⟩ := down k
  refine ⟨c, u, hc, ru, ?_⟩
  rcases q with ⟨k', _⟩ | ⟨_, c3, e', z⟩
  · have k2 : X.env.scope.names.lookup y = some .local := k'
    rcases fr with k3 | k3
    · rw [show X.env.scope.names.lookup y = _ from k3] at k2
      cases k2
    · rw [show X.env.scope.names.lookup y = _ from k3] at k2
      cases k2
  · rw [up hc] at e'
    cases e'
    exact z
theorem Capt.un {N : List Str} {σ : L2.St} {scope : Scope} {cs : List (Str × Addr)} {H H' : Hp} {h h' : Heap} {fs : List Addr} (C : Capt N σ scope cs H h) (u : Un fs [] H H' h h') : Capt N σ scope cs H' h' := by
  have go : ∀ {y c}, cs.lookup y = some c → ∀ {v}, h.IsCell c v → h'.IsCell c v := fun {y c} e {v} ⟨o, ho, hd⟩ => by
    obtain ⟨sl, q⟩ := u.any ho (C.non y c e) (by simp)
    exact ⟨_, q, hd⟩
  refine ⟨C.has, C.inj, fun y c e => (C.cell y c e).imp fun v z => go e z, fun y c e => ?_, fun i y v e1 e2 k => ?_, C.len⟩
  · obtain ⟨v, o, ho, hd⟩ := C.cell y c e
    exact u.free c o ho (C.non y c e) (by simp)
  · obtain ⟨c, w, a1, a2, a3⟩ := C.val i y v e1 e2 k
    exact ⟨c, w, a1, a2, go a1 a3⟩
theorem Capt.keeps {N : List Str} {σ : L2.St} {scope : Scope} {cs : List (Str × Addr)} {H : Hp} {h h' : Heap} (C : Capt N σ scope cs H h) (k : ∀ b o, h.get? b = some o → h'.get? b = some o) : Capt N σ scope cs H h' :=
  ⟨C.has, C.inj, fun y c e => (C.cell y c e).imp fun v z => z.keeps k, C.non, fun i y v e1 e2 q => let ⟨c, w, a1, a2, a3⟩ := C.val i y v e1 e2 q; ⟨c, w, a1, a2, a3.keeps k⟩, C.len⟩

/-! ### the lambda's frame -/
abbrev lamE (q : Str) (scope : Scope) (cs : List (Str × Addr)) (L f c' : Addr) : PySem.Env := PySem.W.envX q scope L f (.ref c') cs
def lamX (X : Cx) (q : Str) (scope : Scope) (cs : List (Str × Addr)) (A : Around) (outer : List PySem.Env) (s : Shared) (H : Hp) (E : XK) (f c' : Addr) : Cx where
  prog := X.prog
  w := X.w
  K := X.K
  mg := X.mg
  base := X.base
  A := A.deeper (lamE q scope cs s.heap.objs.size f c')
  N := X.N
  s_0 := s
  H_0 := H
  env := lamE q scope cs s.heap.objs.size f c'
  outer := outer
  stack := lamE q scope cs s.heap.objs.size f c' :: outer
  ex := []
  fn := fun _ => false
  calm := true
  pn := []
  xe := fun e s' => wpAny (model X.prog X.w) (A.deeper (lamE q scope cs s.heap.objs.size f c')) (leaving (lamE q scope cs s.heap.objs.size f c') e) (fun _ s'' => L2.CX X.prog X.w outer H s E e s'') (fun e' s'' => L2.CX X.prog X.w outer H s E e' s'') s'
theorem lam_begin {X : Cx} {sc : Scope} {σ : L2.St} {H : Hp} {s1 : Shared} {A : Around} {outer : List PySem.Env} {E : XK} {q : Str} {scope : Scope} {ws : List Nat} {cs : List (Str × Addr)} {f c' : Addr} {h₁ : Heap} {tk : Nat} {binds : List (Str × Value)} (L : LamN X.N sc scope ws) (C : Capt X.N σ scope cs H s1.heap)
    (e0 : Env0 X.prog X.w X.K X.mg X.base A outer s1 H) (hd : A.handled = none) (hns : h₁.Ns s1.heap.objs.size fun y => binds.reverse.lookup y) (kp : ∀ b o, s1.heap.get? b = some o → h₁.get? b = some o) :
    Inv (lamX X q scope cs A outer s1 H E f c') [] (wipe σ ws) H { s1 with heap := h₁, toks := tk } := by
  have C1 := C.keeps kp
  have noA : ∀ b : Addr, b ∉ (lamX X q scope cs A outer s1 H E f c').ex := fun b z => absurd (show b ∈ ([] : List Addr) from z) (by simp)
  refine ⟨⟨e0.mod, L.kind, rfl, rfl, Nat.le_refl _, C.inj, fun y hy => ?_, fun y c z _ => (by have z : false = true := z; cases z), fun _ => hd, Around.frames_deeper e0.frames, .inr ⟨rfl, rfl⟩, fun b z => absurd z (noA b), e0.bs, e0.bsz, fun b _ _ => noA b, fun b z => absurd z (noA b), e0.funs, e0.frf⟩,
    rfl, e0.bare, Un.kept kp, ⟨_, hns, fun i y v e1 e2 e3 => ?_⟩, C1.cell, e0.hok.fresh (Nat.le_refl _), C1.non, fun p hp => absurd (show p ∈ ([] : List (Addr × Obj)) ++ [] from hp) (by simp), e0.hok.kept kp, by rw [wipe_length]; exact C.len⟩
  · have hy : scope.names.lookup y = some .cell ∨ scope.names.lookup y = some .free := hy
    rcases hy with hy | hy
    · exact absurd rfl (L.nocell _ (PySem.mem_of_lookup hy))
    · exact C.has y hy
  · obtain ⟨e4, nw⟩ := wipe_some e2
    have e3 : Vis scope y := e3
    rcases e3 with k | k | k
    · exact absurd (L.own _ (PySem.mem_of_lookup k) rfl i e1) nw
    · exact absurd rfl (L.nocell _ (PySem.mem_of_lookup k))
    · obtain ⟨c, u, a1, a2, a3⟩ := C1.val i y v e1 e4 k
      exact ⟨u, a2, .inr ⟨.inr k, c, a1, a3⟩⟩

/-! ### the call of a lambda -/
/-- the lambda's object; its defaults, laid where nothing is tracked -/
structure LamAt (fs : List Addr) (q : Str) (params : Arguments) (body : Expr) (scope : Scope) (cs : List (Str × Addr)) (dvs : List Value) (H : Hp) (h : Heap) (f c' : Addr) : Prop where
  ob : ∃ dV doc pm ctv, h.get? f = some (PySem.W.kdv_obj "<lambda>" q params (.expr body) scope cs dV doc pm c' ctv) ∧ ((dvs = [] ∧ dV = .none) ∨ (dvs ≠ [] ∧ ∃ td, dV = .ref td ∧ h.get? td = some (PySem.W.kdv_tup dvs) ∧ H td = none ∧ td ∉ fs))
  non : H f = none
  nfr : f ∉ fs
  co : H c' = some (CodeO c' q)
theorem LamAt.un {fs : List Addr} {q : Str} {params : Arguments} {body : Expr} {scope : Scope} {cs : List (Str × Addr)} {dvs : List Value} {H H' : Hp} {h h' : Heap} {f c' : Addr} (L : LamAt fs q params body scope cs dvs H h f c') (u : Un fs [] H H' h h') (hc : H' c' = some (CodeO c' q)) : LamAt fs q params body scope cs dvs H' h' f c' := by
  obtain ⟨dV, doc, pm, ctv, e1, e2⟩ := L.ob
  have no : ∀ b : Addr, b ∉ ([] : List Addr) := fun b z => nomatch z
  refine ⟨⟨dV, doc, pm, ctv, u.keep f _ e1 L.non L.nfr (no f), ?_⟩, u.free f _ e1 L.non (no f), L.nfr, hc⟩
  rcases e2 with z | ⟨z, td, a1, a2, a3, a4⟩
  · exact .inl z
  · exact .inr ⟨z, td, a1, u.keep td _ a2 a3 a4 (no td), u.free td _ a2 a3 (no td), a4⟩
/-- how the call without arguments binds -/
def LamBind (params : Arguments) (dvs : List Value) (binds : List (Str × Value)) : Prop := (dvs = [] → ∀ (q : Str) (body : Expr) (scope : Scope) (cs : List (Str × Addr)) (doc pm cv ctv : Value), bindArgs (PySem.W.kdv_fn "<lambda>" q params (.expr body) scope cs .none doc pm cv ctv) ⟨[], []⟩ = pure binds) ∧
  (dvs ≠ [] → ∀ (q : Str) (body : Expr) (scope : Scope) (cs : List (Str × Addr)) (td : Addr) (doc pm cv ctv : Value), ∃ k, bindArgs (PySem.W.kdv_fn "<lambda>" q params (.expr body) scope cs (.ref td) doc pm cv ctv) ⟨[], []⟩ = seqItems? (.ref td) >>= k ∧ k (some dvs.toArray) = pure binds)
theorem lam_go {X : Cx} {sc : Scope} {σ : L2.St} {H : Hp} {s1 : Shared} {A : Around} {outer : List PySem.Env} {E : XK} {Q : VK} {q : Str} {params : Arguments} {body : Expr} {scope : Scope} {ws : List Nat} {cs : List (Str × Addr)} {dvs : List Value} {dV doc pm ctv : Value} {binds : List (Str × Value)} {f c' : Addr} {k : Nat} {tb : TE}
    (e1 : s1.heap.get? f = some (PySem.W.kdv_obj "<lambda>" q params (.expr body) scope cs dV doc pm c' ctv)) (e2 : (dvs = [] ∧ dV = .none) ∨ (dvs ≠ [] ∧ ∃ td, dV = .ref td ∧ s1.heap.get? td = some (PySem.W.kdv_tup dvs))) (co : H c' = some (CodeO c' q))
    (L : LamN X.N sc scope ws) (C : Capt X.N σ scope cs H s1.heap) (hb : LamBind params dvs binds) (hloc : ∀ y ∈ binds, scope.names.lookup y.1 = some .local) (e0 : Env0 X.prog X.w X.K X.mg X.base A outer s1 H) (lim : s1.heap.NoLimit) (hr : Room (k + 1) A)
    (hbody : Room k (A.deeper (lamE q scope cs s1.heap.objs.size f c')) → PE (lamX X q scope cs A outer s1 H E f c') body tb) (ht : tb (wipe σ ws) H Q) :
    codeAny (model X.prog X.w) A (.call (.ref f) ⟨[], []⟩) (CR (L2.CX X.prog X.w) outer X.prog X.w H s1 Q E) s1 := by
  obtain ⟨⟨oc, vs, t, hoc, hdc, hvc⟩, _, _⟩ := e0.hok c' _ co
  have bt : BindsTo s1 (PySem.W.kdv_fn "<lambda>" q params (.expr body) scope cs dV doc pm (.ref c') ctv) ⟨[], []⟩ binds := by
    rcases e2 with ⟨z, rfl⟩ | ⟨z, td, rfl, a2⟩
    · exact .of_eq (hb.1 z q body scope cs doc pm (.ref c') ctv)
    · obtain ⟨kk, b1, b2⟩ := hb.2 z q body scope cs td doc pm (.ref c') ctv
      exact BindsTo.of_defaults rfl a2 rfl b1 b2
  refine PySem.W.kla_callFunE hr.depth e1 rfl L.co L.gen rfl ⟨c', oc, vs, t, rfl, hoc, hdc, hvc⟩ (bt _ _ _ _ ?_)
  refine wpAny_newFunctionEnv L.nocell hloc (fun h₁ hns hsb => ⟨lim.fresh _ hsb, ?_⟩) L.kind
  show codeAny _ _ (.expr body (lamE q scope cs s1.heap.objs.size f c')) _ _
  have kp : ∀ b o, s1.heap.get? b = some o → h₁.get? b = some o := fun b o z => hsb.extBut b o (Nat.ne_of_lt (Heap.lt_size z)) (Heap.get?_push_of_some _ z)
  have J := lam_begin (X := X) (E := E) (q := q) (cs := cs) (f := f) (c' := c') (tk := s1.toks + binds.length) L C e0 hr.hd hns kp
  refine PySem.W.kla_codeExpr (wpAny_mono ((hbody (hr.deeper _)).run [] _ _ H Q J ht) (fun v s' hq => ?_) fun _ _ z => z)
  obtain ⟨v', H', J', rv, z⟩ := hq
  exact ⟨v', H', J'.os, J'.bare, J'.base, J'.hok, rv, z⟩
theorem lam_run {X : Cx} {fs : List Addr} {sc : Scope} {σ : L2.St} {H : Hp} {s1 : Shared} {A : Around} {outer : List PySem.Env} {E : XK} {Q : VK} {q : Str} {params : Arguments} {body : Expr} {scope : Scope} {ws : List Nat} {cs : List (Str × Addr)} {dvs : List Value} {binds : List (Str × Value)} {f c' : Addr} {k : Nat} {tb : TE}
    (at_ : LamAt fs q params body scope cs dvs H s1.heap f c') (L : LamN X.N sc scope ws) (C : Capt X.N σ scope cs H s1.heap) (hb : LamBind params dvs binds) (hloc : ∀ y ∈ binds, scope.names.lookup y.1 = some .local) (e0 : Env0 X.prog X.w X.K X.mg X.base A outer s1 H) (lim : s1.heap.NoLimit) (hr : Room (k + 1) A)
    (hbody : Room k (A.deeper (lamE q scope cs s1.heap.objs.size f c')) → PE (lamX X q scope cs A outer s1 H E f c') body tb) (ht : tb (wipe σ ws) H Q) :
    codeAny (model X.prog X.w) A (.call (.ref f) ⟨[], []⟩) (CR (L2.CX X.prog X.w) outer X.prog X.w H s1 Q E) s1 := by
  obtain ⟨dV, doc, pm, ctv, e1, e2⟩ := at_.ob
  exact lam_go e1 (e2.imp id fun ⟨z, td, a1, a2, _, _⟩ => ⟨z, td, a1, a2⟩) at_.co L C hb hloc e0 lim hr hbody ht

/-! ### the making of a lambda -/
/-- the table and the new code object -/
theorem tab_ext {H : Hp} {P c : Addr} {q : Str} {ps more : Array Value} (hP : H P = some (.tbl ps)) (hc : H c = none) : DL.Ext H (upd (upd H P (.tbl (ps ++ more))) c (CodeO c q)) := fun b o e => by
  have n1 : b ≠ c := ne_of_none e hc
  by_cases hb : b = P
  · subst hb
    rw [hP] at e
    cases e
    exact ⟨_, by rw [upd_ne n1, upd_same], fun n => absurd rfl (n ps)⟩
  · exact ⟨o, by rw [upd_ne n1, upd_ne hb]; exact e, fun _ => rfl⟩
section
variable {X : Cx} {pins : List (Addr × Obj)} {σ : L2.St} {H : Hp} {s : Shared}
theorem nofr_of (I : Inv X pins σ H s) {f : Addr} (hf : s.heap.objs.size ≤ f) : f ∉ frs X.stack := fun z => by
  rcases List.mem_cons.mp (I.stkSub _ z) with e | e
  · have h1 := I.lt
    rw [← e] at h1
    exact Nat.lt_irrefl _ (Nat.lt_of_lt_of_le h1 hf)
  · exact I.nofs hf e
/-- the tail of the making, the defaults dV laid -/
theorem lam_tail {T : List (Addr × Str)} {c P : Addr} {params : Arguments} {body : Expr} {scope : Scope} {ws : List Nat} {pos : Pos} {dV : Value} {E : Value → Shared → Prop} {Q : Value → Shared → Prop} (I : Inv X pins σ H s) (TB : TabB X.base X.mg c P) (hcode : X.env.code = .ref c)
    (hm : (P, X.env.qual ++ "<lambda>") ∈ T) (hu : ∀ p ∈ T, p.1 = P → p.2 = X.env.qual ++ "<lambda>") (hT : Tabs T H) (L : LamN X.N X.env.scope scope ws)
    (h : ∀ (f c' : Addr) (doc pm ctv : Value) (H1 : Hp) (s' : Shared), Inv X pins σ H1 s' → DL.Ext H H1 → (∀ b, H b = none → b < s.heap.objs.size → H1 b = none) → Tabs T H1 → (∀ b o, s.heap.get? b = some o → H b = none → s'.heap.get? b = some o) →
      s'.heap.get? f = some (PySem.W.kdv_obj "<lambda>" (X.env.qual ++ "<lambda>") params (.expr body) scope (cloFrom X.env.cells scope.names []) dV doc pm c' ctv) → H1 f = none → f ∉ frs X.stack → H1 c' = some (CodeO c' (X.env.qual ++ "<lambda>")) → Q (.ref f) s') :
    wpAny (model X.prog X.w) X.A (makeTail "<lambda>" (X.env.qual ++ "<lambda>") params (.expr body) scope X.env dV .none none pos pos.line) Q E s := by
  obtain ⟨ps, hP, ht, ha⟩ := hT _ hm
  have hfree : ∀ y ∈ scope.names, y.2 = .free → ∃ c, X.env.cells.lookup y.1 = some c := fun y hy e => by
    rcases L.free y hy e with k | k
    · exact I.ok.has _ (.inl k)
    · exact I.ok.has _ (.inr k)
  have bP : s.heap.BuiltinsAt X.mg P := TB.bm.keeps I.bk
  have hP' : s.heap.get? P = some { cls := .none, data := .fields ps } := I.hok P _ hP
  have notP : ∀ b, H b = none → b ≠ P := fun b n z => by
    rw [z, hP] at n
    cases n
  cases hc : codeAmong pos ps.toList with
  | none =>
    refine PySem.W.kdv_makeTail (mg := X.mg) (c := c) (P := P) (ps := ps) (closure_ok hfree) I.ok.glob (I.mod.glob.keeps I.bk) hcode (TB.code.keeps I.bk) hP' ht hc TB.gP bP fun c' ctv doc h' tk hx hge hlt hrec htb => ?_
    obtain ⟨c2, oc, vs, t, e2, hoc, hd, hv⟩ := hrec
    cases e2
    have sz : s.heap.objs.size ≤ h'.objs.size := Nat.le_trans hge (Nat.le_of_lt hlt)
    have nC : H c' = none := I.hok.fresh hge
    have I1 := inv_table (t' := tk) (more := #[rawInt pos.line, rawInt pos.col, .ref c']) (h' := h'.push (PySem.W.kdv_obj "<lambda>" (X.env.qual ++ "<lambda>") params (.expr body) scope (cloFrom X.env.cells scope.names []) dV doc ((X.mg "__name__").getD .none) c' ctv)) I hP
      (fun b o hb e => Heap.get?_push_of_some _ (hx b o hb e)) (Heap.get?_push_of_some _ htb) hge ⟨oc, vs, t, Heap.get?_push_of_some _ hoc, hd, hv⟩
    have xt : DL.Ext H _ := tab_ext (more := #[rawInt pos.line, rawInt pos.col, .ref c']) (q := X.env.qual ++ "<lambda>") hP nC
    have eL : (ps ++ #[rawInt pos.line, rawInt pos.col, .ref c']).toList = ps.toList ++ [rawInt pos.line, rawInt pos.col, .ref c'] := by simp
    refine h h'.objs.size c' doc ((X.mg "__name__").getD .none) ctv _ _ I1 xt (fun b n hb => ?_) (fun p hp => ?_) (fun b o e n => Heap.get?_push_of_some _ (hx b o (notP b n) e)) (Heap.get?_push_size _ rfl) ?_ (nofr_of I sz) upd_same
    · rw [upd_ne (Nat.ne_of_lt (Nat.lt_of_lt_of_le hb hge)), upd_ne (notP b n)]
      exact n
    · by_cases hb : p.1 = P
      · rw [hu p hp hb, hb]
        refine ⟨_, by rw [upd_ne (ne_of_none hP nC), upd_same], by rw [eL]; exact PySem.TriplesOk_snoc _ _ _ _ ht, fun p' cv hcv => ?_⟩
        rw [eL] at hcv
        rcases among_app _ ht hcv with z | z
        · obtain ⟨c0, e1, e2⟩ := ha p' cv z
          exact ⟨c0, e1, xt.nt e2 codeO_ne⟩
        · exact ⟨c', z, upd_same⟩
      · obtain ⟨ps', a1, a2, a3⟩ := hT p hp
        refine ⟨ps', by rw [upd_ne (ne_of_none a1 nC), upd_ne hb]; exact a1, a2, fun p' cv hcv => ?_⟩
        obtain ⟨c0, e1, e2⟩ := a3 p' cv hcv
        exact ⟨c0, e1, xt.nt e2 codeO_ne⟩
    · rw [upd_ne (Nat.ne_of_gt hlt), upd_ne (Nat.ne_of_gt (Nat.lt_of_lt_of_le (Heap.lt_size hP') sz))]
      exact I.hok.fresh sz
  | some cv =>
    obtain ⟨c', e, hco⟩ := ha pos cv hc
    subst e
    refine PySem.W.kdv_makeTailHit (mg := X.mg) (c := c) (P := P) (ps := ps) (closure_ok hfree) I.ok.glob (I.mod.glob.keeps I.bk) hcode (TB.code.keeps I.bk) hP' ht hc bP fun ctv doc h' tk hx sz => ?_
    have I1 : Inv X pins σ H { s with heap := h'.push (PySem.W.kdv_obj "<lambda>" (X.env.qual ++ "<lambda>") params (.expr body) scope (cloFrom X.env.cells scope.names []) dV doc ((X.mg "__name__").getD .none) c' ctv), toks := tk } := I.kept fun b o e => Heap.get?_push_of_some _ (hx b o e)
    exact h h'.objs.size c' doc ((X.mg "__name__").getD .none) ctv H _ I1 (DL.Ext.refl H) (fun b n _ => n) hT (fun b o e _ => Heap.get?_push_of_some _ (hx b o e)) (Heap.get?_push_size _ rfl) (I.hok.fresh sz) (nofr_of I sz) hco
theorem lam_make {T : List (Addr × Str)} {c P : Addr} {params : Arguments} {body : Expr} {scope : Scope} {ws : List Nat} {is : List Int} {pos : Pos} {Q : Value → Shared → Prop} (I : Inv X pins σ H s) (TB : TabB X.base X.mg c P) (hcode : X.env.code = .ref c)
    (hm : (P, X.env.qual ++ "<lambda>") ∈ T) (hu : ∀ p ∈ T, p.1 = P → p.2 = X.env.qual ++ "<lambda>") (hT : Tabs T H) (L : LamN X.N X.env.scope scope ws)
    (hd : (is = [] ∧ defaultsOf params X.env = ([], [])) ∨ ∃ i j p, is = [i] ∧ params.defaults = [.Constant (.int i) j p] ∧ params.kw_defaults = [])
    (h : ∀ (f c' : Addr) (dvs : List Value) (H1 : Hp) (s' : Shared), dflts is dvs → Inv X pins σ H1 s' → DL.Ext H H1 → Tabs T H1 → LamAt (frs X.stack) (X.env.qual ++ "<lambda>") params body scope (cloFrom X.env.cells scope.names []) dvs H1 s'.heap f c' → Q (.ref f) s') :
    wpAny (model X.prog X.w) X.A (eval (.Lambda params body scope pos) X.env) Q X.xe s := by
  rcases hd with ⟨rfl, hdef⟩ | ⟨i, j, p, rfl, hdef, hkw⟩
  · refine PySem.W.kla_eval hdef ?_
    rw [makeFunction_eq]
    simp only [List.zip_nil_right, List.filterMap_nil, List.isEmpty_nil, if_true, pure_bind]
    exact lam_tail I TB hcode hm hu hT L fun f c' doc pm ctv H1 s' I1 x1 _ T1 _ a1 a2 a3 a4 => h f c' [] H1 s' rfl I1 x1 T1 ⟨⟨.none, doc, pm, ctv, a1, .inl ⟨rfl, rfl⟩⟩, a2, a3, a4⟩
  · refine PySem.W.kdv_lam (by rw [hdef]; rfl) hkw ?_
    rw [hdef]
    refine PySem.W.kdv_all1 (thn ((pe_int (i := i) (j := j) (pos := p)).run pins s σ H (fun v H1 => v = .int i ∧ H1 = H) I ⟨rfl, rfl⟩) fun u s1 ⟨v, H1, I1, r1, ev, eH⟩ => ?_)
    subst ev
    subst eH
    refine PySem.W.kdv_all0 ?_
    obtain ⟨t, rfl⟩ : ∃ t, u = Value.int i t := r1
    rw [makeFunction_eq]
    simp only [List.zip_nil_right, List.filterMap_nil, List.isEmpty_nil, List.isEmpty_cons, Bool.false_eq_true, if_false, if_true, pure_bind]
    refine wpAny_bind (wpAny_newTextTuple ?_)
    have I2 : Inv X pins σ H1 { s1 with heap := s1.heap.push (PySem.W.kdv_tup [.int i t]) } := I1.kept (t' := s1.toks) fun b o e => Heap.get?_push_of_some _ e
    have nT : H1 s1.heap.objs.size = none := I1.hok.fresh (Nat.le_refl _)
    have szT : s1.heap.objs.size < (s1.heap.push (PySem.W.kdv_tup [.int i t])).objs.size := by rw [Heap.size_push]; exact Nat.lt_succ_self _
    exact lam_tail I2 TB hcode hm hu hT L fun f c' doc pm ctv H2 s' I3 x1 x2 T1 x3 a1 a2 a3 a4 => h f c' [.int i t] H2 s' ⟨t, rfl⟩ I3 x1 T1
      ⟨⟨.ref s1.heap.objs.size, doc, pm, ctv, a1, .inr ⟨by simp, _, rfl, x3 _ _ (Heap.get?_push_size _ rfl) nT, x2 _ nT szT, nofr_of I1 (Nat.le_refl _)⟩⟩, a2, a3, a4⟩
end
end DL
set_option maxHeartbeats 1000000
/-! a lambda handed to a def that calls it -/
namespace DL
open PySem PySem.Spec PyProof.Rows L2 LamX

/-- the context of the def that gets the lambda -/
abbrev askX (X : Cx) (Ng : List Str) (x : Str) (sg : Scope) (g : Addr) (cdg : Value) (s : Shared) (H : Hp) : Cx := cxOf C8.CX0 X.prog X.w X.K X.mg X.base Ng x sg g cdg X.A X.stack s H C8.E0
/-- in that context a() is what the lambda's reading tl says -/
def Acts (X : Cx) (Ng : List Str) (x : Str) (sg : Scope) (g : Addr) (cdg : Value) (a : Str) (f : Addr) (S : Hp → Prop) (s : Shared) (H : Hp) (tl : XK → Hp → VK → Prop) : Prop :=
  ∀ (W : WX) (pn : List (Addr × Obj)) (xe : Value → Shared → Prop) (E : XK) (p1 p2 : Pos), Takes ((askX X Ng x sg g cdg s H).tr pn xe) W → (∀ cls d σ' H', E cls d H' → W cls d σ' H') →
    PE ((askX X Ng x sg g cdg s H).tr pn xe) (.Call (.Name a p1) [] [] p2) (fun σZ HZ Q => σZ[0]? = some (some (.ref f)) ∧ S HZ ∧ tl E HZ Q)
/-- what the def makes of it: TT -/
def Makes (X : Cx) (Ng : List Str) (x : Str) (sg : Scope) (g : Addr) (cdg : Value) (bg : List Stmt) (a q : Str) (TT : (XK → Hp → VK → Prop) → Hp → VK → Prop) : Prop :=
  ∀ (f : Addr) (S : Hp → Prop) (s : Shared) (H : Hp) (Q : VK) (tl : XK → Hp → VK → Prop), Acts X Ng x sg g cdg a f S s H tl → S H → TT tl H Q →
    ∃ t, PSs (askX X Ng x sg g cdg s H).nox bg t ∧ t { nx := fun _ H' => Q .non H', rt := Q } (L2.start Ng [.ref f]) H
section
variable {X : Cx} {pins : List (Addr × Obj)} {σ : L2.St} {H : Hp} {s : Shared}
theorem acts_of {Ng : List Str} {x a q : Str} {sg sc : Scope} {g f c' : Addr} {cdg : Value} {params : Arguments} {body : Expr} {scope : Scope} {ws : List Nat} {cs : List (Str × Addr)} {dvs : List Value} {binds : List (Str × Value)} {k : Nat} {t : XK → TE} (L : LamN X.N sc scope ws) (C : Capt X.N σ scope cs H s.heap) (at_ : LamAt (frs X.stack) q params body scope cs dvs H s.heap f c')
    (hb : LamBind params dvs binds) (hloc : ∀ y ∈ binds, scope.names.lookup y.1 = some .local) (hr : Room (k + 1) (X.A.deeper (envOfC x sg s.heap.objs.size g cdg)))
    (hbody : ∀ (A : Around) (outer : List PySem.Env) (s : Shared) (H : Hp) (E : XK) (f c' : Addr), Room k (A.deeper (lamE q scope cs s.heap.objs.size f c')) → PE (lamX X q scope cs A outer s H E f c') body (t E))
    (hN : Ng[0]? = some a) (hv : Vis sg a) (hd : (a == ("__debug__" : Str)) = false) (hcd : (a == ("__classdict__" : Str)) = false) : Acts X Ng x sg g cdg a f (fun HZ => HZ c' = some (CodeO c' q)) s H (fun E H' Q' => t E (wipe σ ws) H' Q') := by
  intro W pn xe E p1 p2 tk hW
  refine ⟨fun pinsZ sZ σZ HZ Q IZ h => ?_⟩
  obtain ⟨hs, hc, ht⟩ := h
  refine wpAny_Call_Name_kw (thn ((pe_var (pos := p1) (i := 0) hN hv hd hcd).run pinsZ sZ σZ HZ (fun v H1 => v = .ref f ∧ H1 = HZ) IZ ⟨.ref f, hs, rfl, rfl⟩) fun u s1 ⟨v, H1, I1, r1, q1⟩ => ?_)
  obtain ⟨ev, eH⟩ := q1
  subst ev
  rw [eH] at I1
  obtain rfl : u = Value.ref f := r1
  have un : Un (frs X.stack) [] H HZ s.heap s1.heap := I1.base
  have at1 := at_.un un hc
  obtain ⟨dV, doc, pm, ctv, ob, _⟩ := at1.ob
  refine PySem.W.callWith_F0 ⟨_, _, _, _, ob⟩ ?_
  have rc := lam_run (X := X) (E := E) (Q := Q) (tb := t E) at1 L (C.un un) hb hloc I1.env0 I1.nolimit hr (fun r2 => hbody _ _ _ _ _ _ _ r2) ht
  have hx : Passes (L2.CX X.prog X.w) ((askX X Ng x sg g cdg s H).tr pn xe) E := passes_call tk hW
  refine wpAny_call (codeAny_mono rc fun r s' hq => ?_)
  cases r with
  | error e => exact hx pinsZ σZ HZ s1 e s' I1 hq
  | ok fl =>
    cases fl with
    | ret u => exact I1.after hq
    | next => exact False.elim hq
    | brk => exact False.elim hq
    | cont => exact False.elim hq
end
def tHand (T : List (Addr × Str)) (TT : (XK → Hp → VK → Prop) → Hp → VK → Prop) (ws : List Nat) (t : XK → TE) : TE := fun σ H Q => Tabs T H ∧ ∀ H1, DL.Ext H H1 → Tabs T H1 → TT (fun E H' Q' => t E (wipe σ ws) H' Q') H1 Q
section
variable {X : Cx}
/-- x(lambda ..: body) -/
theorem pe_handed {T : List (Addr × Str)} {TT : (XK → Hp → VK → Prop) → Hp → VK → Prop} {x a : Str} {g c P : Addr} {k : Nat} {pg : Arguments} {bg : List Stmt} {sg : Scope} {dV kV doc pm cdv ct oc : Value} {an od : Option Addr} {osl : Array (Option Value)} {Ng : List Str}
    {params : Arguments} {body : Expr} {scope : Scope} {ws : List Nat} {is : List Int} {t : XK → TE} {p lpos pos : Pos} (hg : Gl X x) (hm : X.mg x = some (.ref g)) (hk : PySem.W.keepIn X.K (.ref g) = true)
    (lk : X.K.lookup g = some ⟨oc, od, .func (PySem.W.fnOf x x pg bg sg dV kV doc pm an cdv ct), osl⟩) (hcg : PySem.W.codeIn X.K cdv x = true) (hb : L2.Binds X.K (PySem.W.fnOf x x pg bg sg dV kV doc pm an cdv ct) [a] []) (Sg : FnScope Ng [a] sg) (hNg : Ng[0]? = some a) (hva : Vis sg a)
    (hG : Makes X Ng x sg g cdv bg a (X.env.qual ++ "<lambda>") TT) (TB : TabB X.base X.mg c P) (hcode : X.env.code = .ref c) (hmT : (P, X.env.qual ++ "<lambda>") ∈ T) (hu : ∀ p ∈ T, p.1 = P → p.2 = X.env.qual ++ "<lambda>") (hr : Room (k + 2) X.A) (L : LamN X.N X.env.scope scope ws)
    (hd : (is = [] ∧ defaultsOf params X.env = ([], [])) ∨ ∃ i j p, is = [i] ∧ params.defaults = [.Constant (.int i) j p] ∧ params.kw_defaults = []) (hbind : ∀ dvs, dflts is dvs → ∃ binds, LamBind params dvs binds ∧ ∀ y ∈ binds, scope.names.lookup y.1 = some .local)
    (hbody : ∀ (A : Around) (outer : List PySem.Env) (s : Shared) (H : Hp) (E : XK) (f c' : Addr), Room k (A.deeper (lamE (X.env.qual ++ "<lambda>") scope (cloFrom X.env.cells scope.names []) s.heap.objs.size f c')) → PE (lamX X (X.env.qual ++ "<lambda>") scope (cloFrom X.env.cells scope.names []) A outer s H E f c') body (t E))
    (hdb : (x == ("__debug__" : Str)) = false := by decide) (hda : (a == ("__debug__" : Str)) = false := by decide) (hca : (a == ("__classdict__" : Str)) = false := by decide) :
    PE X (.Call (.Name x p) [.Lambda params body scope lpos] [] pos) (tHand T TT ws t) := by
  refine ⟨fun pins s σ H Q I h => ?_⟩
  obtain ⟨hT, h⟩ := h
  refine wpAny_Call_Name_kw (ld_glob I hg hm ?_ hdb)
  refine PySem.W.callWith_K (h₀ := X.base) I.ok.mod.kin hk ?_ (by rfl) (by rfl)
  show wpAny _ _ (spliced ((false, eval (.Lambda params body scope lpos) X.env) :: backTo pos (starEach [] X.env))) _ _ s
  refine Calls.spliced_cons (lam_make I TB hcode hmT hu hT L hd fun f c' dvs H1 s' hdv I1 x1 T1 at_ => ?_)
  refine Calls.spliced_nil ⟨I1.kIn, ?_⟩
  obtain ⟨binds, b1, b2⟩ := hbind dvs hdv
  have rc : codeAny (model X.prog X.w) X.A (.call (.ref g) ⟨[.ref f], []⟩) (CR C8.CX0 X.stack X.prog X.w H1 s' Q C8.E0) s' := by
    refine run_ofS (N := Ng) (ps := [a]) (us := [.ref f]) (vs := [.ref f]) lk hcg Sg hr I1.env0 (hb s' [.ref f] I1.kIn rfl) (.cons rfl .nil) rfl fun hr' => ?_
    obtain ⟨t', ht', hq'⟩ := hG f _ s' H1 Q _ (acts_of (X := X) (t := t) L (capt_of I1 L) at_ b1 b2 hr' (fun A outer s H E f c' r2 => hbody A outer s H E f c' r2) hNg hva hda hca) at_.co (h H1 x1 T1)
    exact ⟨t', ht'.nox, hq'⟩
  refine wpAny_call (codeAny_mono rc fun r s2 hq => ?_)
  cases r with
  | error e => exact (show False from hq).elim
  | ok fl =>
    cases fl with
    | ret u => exact I1.after hq
    | next => exact False.elim hq
    | brk => exact False.elim hq
    | cont => exact False.elim hq
end
end DL
namespace DL
open PySem PySem.Spec PyProof.Rows L2 LamX
/-! ### try: return ('told', a()) / except C as e: return (tag, e.f, ..) -/
def picks (xs : List (Str × V)) : List Str → Option (List V)
  | [] => some []
  | f :: fs => match xs.lookup f, picks xs fs with
    | some v, some vs => some (v :: vs)
    | _, _ => none
abbrev Hdl := Value × Str × List Str
def hReads (K : PySem.W.Frag) (tag : Str) (fs : List Str) (cls : Value) (d : Option Addr) (H : Hp) (Q : VK) : Prop := ∃ (C dd : Addr) (xs : List (Str × V)) (vs : List V), cls = .ref C ∧ XfC K C ∧ (∀ f ∈ fs, PySem.W.findIn K (.ref C) f = some none) ∧ d = some dd ∧ H dd = some (.xd xs) ∧ picks xs fs = some vs ∧ ∀ p, H p = none → Q (.ref p) (upd H p (.tup (.str tag :: vs)))
def wH (K : PySem.W.Frag) : List Hdl → Value → Option Addr → Hp → VK → Prop
  | [], _, _, _, _ => False
  | (c, tag, fs) :: r, cls, d, H, Q => ∃ b, PySem.W.exmOne K cls c = some b ∧ (b = true → hReads K tag fs cls d H Q) ∧ (b = false → wH K r cls d H Q)
def TTr (K : PySem.W.Frag) (hs : List Hdl) : (XK → Hp → VK → Prop) → Hp → VK → Prop := fun tl H Q => tl (fun cls d H' => wH K hs cls d H' Q) H (fun v H' => [V.str "told", v].length ≤ sizeLine ∧ ∀ p, H' p = none → Q (.ref p) (upd H' p (.tup [.str "told", v])))
/-- the suites by their handlers -/
abbrev clauses (K : PySem.W.Frag) (i : Nat) (hs : List Hdl) : List Clause := hs.map fun h => (h.1, fun a cls d D σ H => σ[i]? = some (some (.ref a)) ∧ hReads K h.2.1 h.2.2 cls d H D.rt)
theorem wAll_of {K : PySem.W.Frag} {i : Nat} {D : Ends} : ∀ {hs : List Hdl} {cls : Value} {d : Option Addr} {σ : L2.St} {H : Hp}, i < σ.length → wH K hs cls d H D.rt → wAll K i (fun _ _ _ _ => False) D (clauses K i hs) cls d σ H
  | [], _, _, _, _, _, h => h
  | (c, tag, fs) :: r, cls, d, σ, H, hi, h => by
    obtain ⟨b, e, y, n⟩ := h
    exact ⟨b, e, fun hb a _ => ⟨List.getElem?_set_self hi, y hb⟩, fun hb => wAll_of hi (n hb)⟩
section
variable {X : Cx} {a : Addr} {oe : Obj} {cls : Value} {d : Option Addr} {pn : List (Addr × Obj)} {i : Nat} {n tag f g h : Str} {j k : Nat} {p0 p1 p2 p3 p4 p5 p6 p7 p8 : Pos}
theorem pe_fld (T : ∀ C, cls = .ref C → XfC X.K C ∧ PySem.W.findIn X.K (.ref C) f = some none) (hz : Zc cls d oe) (hf : ∃ vs, oe.data = .fields vs) (hN : X.N[i]? = some n) (hv : Vis X.env.scope n) (hd : (n == ("__debug__" : Str)) = false) (hcd : (n == ("__classdict__" : Str)) = false)
    (hb : attributeBase (.Name n p1) f X.env (eval (.Name n p1) X.env) = eval (.Name n p1) X.env) (hC : ∃ C, cls = .ref C) : PE (X.suite a ((a, oe) :: pn)) (.Attribute (.Name n p1) f p2) (fun σ H Q => σ[i]? = some (some (.ref a)) ∧ ∃ (dd : Addr) (xs : List (Str × V)) (v : V), d = some dd ∧ H dd = some (.xd xs) ∧ xs.lookup f = some v ∧ Q v H) := by
  obtain ⟨C, rfl⟩ := hC
  obtain ⟨t1, t2⟩ := T C rfl
  exact pe_sub (pe_xf t1 t2 hz hf (pe_var (i := i) hN hv hd hcd) hb) fun σ H Q ⟨e, dd, xs, v, e1, e2, e3, q⟩ => ⟨.ref a, e, rfl, rfl, dd, xs, v, e1, e2, e3, q⟩
theorem su1 (hz : Zc cls d oe) (hf : ∃ vs, oe.data = .fields vs) (hN : X.N[i]? = some n) (hv : Vis X.env.scope n) (hd : (n == ("__debug__" : Str)) = false) (hcd : (n == ("__classdict__" : Str)) = false) (hb : attributeBase (.Name n p1) f X.env (eval (.Name n p1) X.env) = eval (.Name n p1) X.env := by rfl)
    (hs1 : starEach [.Constant (.str tag) j p0, .Attribute (.Name n p1) f p2] X.env = (false, eval (.Constant (.str tag) j p0) X.env) :: starEach [.Attribute (.Name n p1) f p2] X.env := by rfl) (hs2 : starEach [.Attribute (.Name n p1) f p2] X.env = (false, eval (.Attribute (.Name n p1) f p2) X.env) :: starEach [] X.env := by rfl) :
    PSs (X.suite a ((a, oe) :: pn)) [.Return (some (.Tuple [.Constant (.str tag) j p0, .Attribute (.Name n p1) f p2] k p3)) p4] (fun D σ H => σ[i]? = some (some (.ref a)) ∧ hReads X.K tag [f] cls d H D.rt) := ⟨fun pins s σ H D I h => by
  obtain ⟨hi, C, dd, xs, vs, ec, t1, t2, e1, e2, e3, q⟩ := h
  have hv1 : ∃ v, xs.lookup f = some v ∧ vs = [v] := by
    unfold picks at e3
    cases q : xs.lookup f with
    | none => rw [q] at e3; cases e3
    | some v => rw [q] at e3; cases e3; exact ⟨v, rfl, rfl⟩
  obtain ⟨v, ev, rfl⟩ := hv1
  refine (pss_one (ps_ret (pe_tup (pa_cons pe_str (pa_cons (pe_fld (p1 := p1) (p2 := p2) (f := f) (fun C' z => by rw [ec] at z; cases z; exact ⟨t1, t2 f List.mem_cons_self⟩) hz hf hN hv hd hcd hb ⟨C, ec⟩) pa_nil hs2) hs1)))).run pins s σ H D I ?_
  exact ⟨hi, dd, xs, v, e1, e2, ev, (by show 2 ≤ sizeLine; decide), fun p hp => q p hp⟩⟩
end
section
variable {X : Cx} {Ng : List Str} {x a n q : Str} {sg : Scope} {g : Addr} {cdg : Value} {hs : List Hdl} {hds : List ExceptHandler} {h₀ : ExceptHandler} {j k : Nat} {p0 p1 p2 p3 p4 p5 : Pos}
theorem takes_len {X : Cx} {W : WX} (tk : Takes X W) : Takes X (fun cls d σ H => σ.length = X.N.length → W cls d σ H) := fun u s' ⟨b, B, sI, pins, σ, H, cls, d, e, I, h1, h2, h3, h4, h5, h6, w⟩ => tk u s' ⟨b, B, sI, pins, σ, H, cls, d, e, I, h1, h2, h3, h4, h5, h6, w I.len⟩
/-- the def that asks -/
theorem makes_tried (hN : Ng = [a, n]) (hnd : Ng.Nodup) (hln : sg.names.lookup n = some .local)
    (hh : ∀ (s : Shared) (H : Hp), HdAs (askX X Ng x sg g cdg s H).nox n (h₀ :: hds) (clauses X.K 1 hs)) (hs1 : ∀ (s : Shared) (H : Hp), starEach [.Constant (.str "told") j p0, .Call (.Name a p1) [] [] p2] (askX X Ng x sg g cdg s H).env = (false, eval (.Constant (.str "told") j p0) (askX X Ng x sg g cdg s H).env) :: starEach [.Call (.Name a p1) [] [] p2] (askX X Ng x sg g cdg s H).env)
    (hs2 : ∀ (s : Shared) (H : Hp), starEach [.Call (.Name a p1) [] [] p2] (askX X Ng x sg g cdg s H).env = (false, eval (.Call (.Name a p1) [] [] p2) (askX X Ng x sg g cdg s H).env) :: starEach [] (askX X Ng x sg g cdg s H).env) :
    Makes X Ng x sg g cdg [.Try [.Return (some (.Tuple [.Constant (.str "told") j p0, .Call (.Name a p1) [] [] p2] k p3)) p4] (h₀ :: hds) [] [] p5] a q (TTr X.K hs) := by
  intro f S s H Q tl act hc h
  refine ⟨_, pss_one (ps_tries (X := (askX X Ng x sg g cdg s H).nox) (i := 1) (n := n) (Wout := fun _ _ _ _ => False)
    (tb := fun W D σ H => ∃ Ech : XK, (∀ cls d σ' H', σ'.length = 2 → Ech cls d H' → W cls d σ' H') ∧ σ.length = 2 ∧ σ[0]? = some (some (.ref f)) ∧ S H ∧ tl Ech H (fun v H' => [V.str "told", v].length ≤ sizeLine ∧ ∀ p, H' p = none → D.rt (.ref p) (upd H' p (.tup [.str "told", v]))))
    rfl rfl hnd (by rw [hN]; rfl) hln L2.takes0 (fun W pn xe tk _ => ?_) (hh s H)), ?_⟩
  · refine ⟨fun pins s' σ H' D I h' => ?_⟩
    obtain ⟨Ech, hW, hl, h1, h2, h3⟩ := h'
    have hp := act _ pn xe Ech p1 p2 (takes_len tk) (fun cls d σ' H' z hl' => hW cls d σ' H' (by rw [hl']; show Ng.length = 2; rw [hN]; rfl) z)
    refine (pss_one (ps_ret (pos := p4) (pe_tup (pa_cons pe_str (pa_cons hp pa_nil (hs2 s H)) (hs1 s H))))).run pins s' σ H' D I ?_
    refine ⟨h1, h2, ?_⟩
    exact h3
  · refine ⟨fun cls d H' => wH X.K hs cls d H' Q, fun cls d σ' H' hl z => wAll_of (by rw [hl]; decide) z, by rw [hN]; rfl, by rw [hN]; rfl, hc, h⟩
end
end DL
namespace DL
open PySem PySem.Spec PyProof.Rows L2 LamX
/-! ### the meaning of such a call -/
def picksD (xs : List (Str × D)) : List Str → Option (List D)
  | [] => some []
  | f :: fs => match xs.lookup f, picksD xs fs with
    | some v, some vs => some (v :: vs)
    | _, _ => none
abbrev HdlD := List Str × Str × List Str
def catchD (x : Exn) : List HdlD → Option D
  | [] => none
  | (ns, tag, fs) :: r => if ns.contains x.cls then (picksD x.fds fs).map fun ds => .tup (.str tag :: ds) else catchD x r
def toldT (ws : List Nat) : T → M T
  | .fz d => fun Γ => .ok (.fz (.tup [.str "told", d])) (wipeE Γ ws)
  | _ => fun _ => .bad
def askO (xs : List Str) (hs : List HdlD) (ws : List Nat) : Out T → Out T
  | .ok t Γ' => (frz t Γ').bind (toldT ws)
  | .exc x Γ' => match xs.contains x.cls, catchD x hs with
    | true, some d => .ok (.fz d) (wipeE Γ' ws)
    | _, _ => .bad
  | .bad => .bad
def askM (xs : List Str) (hs : List HdlD) (ws : List Nat) (fE : M T) : M T := fun Γ => askO xs hs ws (fE (wipeE Γ ws))
/-- the handlers by values and by names -/
inductive Catch (K : PySem.W.Frag) (cl : Cl) (xs : List Str) : List Hdl → List HdlD → Prop
  | nil : Catch K cl xs [] []
  | cons {c : Value} {tag : Str} {fs ns : List Str} {r : List Hdl} {r' : List HdlD} (h : ∀ x ∈ xs, ∀ Ca, cl x = some Ca → PySem.W.exmOne K (.ref Ca) c = some (ns.contains x) ∧ (ns.contains x = true → XfC K Ca ∧ ∀ f ∈ fs, PySem.W.findIn K (.ref Ca) f = some none)) (hl : fs.length < 100) (t : Catch K cl xs r r') :
      Catch K cl xs ((c, tag, fs) :: r) ((ns, tag, fs) :: r')
theorem picks_of {K : PySem.W.Frag} {cl : Cl} {F : Hp} {ys : List (Str × V)} {zs : List (Str × D)} (e1 : ys.map (·.1) = zs.map (·.1)) (e2 : Dts K cl F (ys.map (·.2)) (zs.map (·.2))) : ∀ {fs : List Str} {ds : List D}, picksD zs fs = some ds → ∃ vs, picks ys fs = some vs ∧ Dts K cl F vs ds ∧ ds.length = fs.length
  | [], ds, h => by
    simp [picksD] at h
    subst h
    exact ⟨[], rfl, .nil, rfl⟩
  | f :: fs, ds, h => by
    unfold picksD at h
    cases q : zs.lookup f with
    | none => rw [q] at h; cases h
    | some d =>
      rw [q] at h
      cases q2 : picksD zs fs with
      | none => rw [q2] at h; cases h
      | some es =>
        rw [q2] at h
        cases h
        obtain ⟨vs, a1, a2, a3⟩ := picks_of e1 e2 q2
        have look : ∀ (ys : List (Str × V)) (zs : List (Str × D)), ys.map (·.1) = zs.map (·.1) → Dts K cl F (ys.map (·.2)) (zs.map (·.2)) → zs.lookup f = some d → ∃ v, ys.lookup f = some v ∧ Dt K cl F v d := by
          intro ys
          induction ys with
          | nil =>
            intro zs e1 e2 e3
            cases zs with
            | nil => cases e3
            | cons _ _ => cases e1
          | cons y ys ih =>
            intro zs e1 e2 e3
            cases zs with
            | nil => cases e1
            | cons z zs =>
              obtain ⟨f1, v1⟩ := y
              obtain ⟨f2, d2⟩ := z
              have e4 := List.cons.inj e1
              have e5 : f1 = f2 := e4.1
              subst e5
              cases e2 with
              | cons g gs =>
                rw [List.lookup_cons] at e3 ⊢
                cases b : f == f1 with
                | true =>
                  rw [b] at e3
                  cases e3
                  exact ⟨v1, rfl, g⟩
                | false =>
                  rw [b] at e3
                  exact ih zs e4.2 gs e3
        obtain ⟨v, b1, b2⟩ := look ys zs e1 e2 q
        refine ⟨v :: vs, ?_, .cons b2 a2, by simp [a3]⟩
        unfold picks
        rw [b1, a1]
theorem wH_of {C : Cc} {xs : List Str} {σ : L2.St} {H : Hp} {Γ : Env} {τ : Hand} {cls : Value} {dd : Option Addr} {x : Exn} {Q : VK} (hx : x.cls ∈ xs) (R : RelX C σ H Γ τ cls dd x) : ∀ {hs : List Hdl} {hs' : List HdlD} {d : D}, Catch C.K C.cl xs hs hs' → catchD x hs' = some d → (∀ v H', Rel C σ H' Γ ((v, .fz d) :: τ) → Q v H') → wH C.K hs cls dd H Q
  | _, _, d, .nil, h, _ => by cases h
  | _, _, d, .cons (ns := ns) (fs := fs) (tag := tag) h hl t, e, q => by
    have R' := R
    obtain ⟨F, ow, Rl', Ca, da, ys, rfl, x2, rfl, x4, x5, x6⟩ := R
    obtain ⟨y1, y2⟩ := h x.cls hx Ca x2
    refine ⟨_, y1, fun hb => ?_, fun hb => ?_⟩
    · obtain ⟨t1, t2⟩ := y2 hb
      unfold catchD at e
      rw [if_pos hb] at e
      cases e1 : picksD x.fds fs with
      | none => rw [e1] at e; cases e
      | some ds =>
        rw [e1] at e
        cases e
        obtain ⟨vs, g1, g2, g3⟩ := picks_of x5 x6 e1
        refine ⟨Ca, da, ys, vs, rfl, t1, t2, rfl, x4, g1, fun p hp => q _ _ (Rl'.newTup hp ?_ (.cons (.str tag) g2))⟩
        rw [List.length_cons, g2.length, g3]
        have : 1000 ≤ sizeLine := by decide
        omega
    · unfold catchD at e
      rw [if_neg (by rw [hb]; decide)] at e
      exact wH_of hx R' t e q
section
variable {X : Cx} {C : Cc} {W : WX}
theorem Rel.extT {σ : L2.St} {H H1 : Hp} {Γ : Env} {τ : Hand} (R : Rel C σ H Γ τ) (x : DL.Ext H H1) (hT : Tabs C.cl.T H1) : Rel C σ H1 Γ τ := by
  obtain ⟨F, ow, R⟩ := R
  exact ⟨F, ow, R.growX x (Sub.refl F) (fun a o e => x.nt (R.ex a o e) (R.ft a o e)) (fun a o e => .inl e) hT R.ft⟩
theorem wipeE_no {Γ : Env} {vs : List Nat} : ∀ j ∈ vs, ∀ t, (wipeE Γ vs)[j]? ≠ some (some t) := fun j hj t e => (wipeE_some e).2 hj
theorem de_ask {xs : List Str} {hsV : List Hdl} {hs : List HdlD} {x a : Str} {g c P : Addr} {k : Nat} {pg : Arguments} {bg : List Stmt} {sg : Scope} {dV kV doc pm cdv ct oc : Value} {an od : Option Addr} {osl : Array (Option Value)} {Ng : List Str}
    {params : Arguments} {body : Expr} {scope : Scope} {ws : List Nat} {is : List Int} {fE : M T} {p lpos pos : Pos} (hK : C.K = X.K) (hcatch : Catch C.K C.cl xs hsV hs) (hws : ∀ i ∈ ws, C.cv i = true ∧ C.pin i = none) (hg : Gl X x) (hm : X.mg x = some (.ref g)) (hk : PySem.W.keepIn X.K (.ref g) = true)
    (lk : X.K.lookup g = some ⟨oc, od, .func (PySem.W.fnOf x x pg bg sg dV kV doc pm an cdv ct), osl⟩) (hcg : PySem.W.codeIn X.K cdv x = true) (hb : L2.Binds X.K (PySem.W.fnOf x x pg bg sg dV kV doc pm an cdv ct) [a] []) (Sg : FnScope Ng [a] sg) (hNg : Ng[0]? = some a) (hva : Vis sg a)
    (hG : Makes X Ng x sg g cdv bg a (X.env.qual ++ "<lambda>") (TTr X.K hsV)) (TB : TabB X.base X.mg c P) (hcode : X.env.code = .ref c) (hmT : (P, X.env.qual ++ "<lambda>") ∈ C.cl.T) (hu : ∀ p ∈ C.cl.T, p.1 = P → p.2 = X.env.qual ++ "<lambda>") (hr : Room (k + 2) X.A) (L : LamN X.N X.env.scope scope ws)
    (hd : (is = [] ∧ defaultsOf params X.env = ([], [])) ∨ ∃ i j p, is = [i] ∧ params.defaults = [.Constant (.int i) j p] ∧ params.kw_defaults = []) (hbind : ∀ dvs, dflts is dvs → ∃ binds, LamBind params dvs binds ∧ ∀ y ∈ binds, scope.names.lookup y.1 = some .local)
    (hbody : ∀ (A : Around) (outer : List PySem.Env) (s : Shared) (H : Hp) (E : XK) (f c' : Addr), Room k (A.deeper (lamE (X.env.qual ++ "<lambda>") scope (cloFrom X.env.cells scope.names []) s.heap.objs.size f c')) → PE (lamX X (X.env.qual ++ "<lambda>") scope (cloFrom X.env.cells scope.names []) A outer s H E f c') body (rd C (WE' E) fE))
    (hdb : (x == ("__debug__" : Str)) = false := by decide) (hda : (a == ("__debug__" : Str)) = false := by decide) (hca : (a == ("__classdict__" : Str)) = false := by decide) :
    PE X (.Call (.Name x p) [.Lambda params body scope lpos] [] pos) (rd C W (askM xs hs ws fE)) :=
  pe_sub (pe_handed hg hm hk lk hcg hb Sg hNg hva hG TB hcode hmT hu hr L hd hbind hbody hdb hda hca) fun σ H Q ⟨Γ, τ, R, w⟩ => by
    have hT : Tabs C.cl.T H := by
      obtain ⟨_, _, R⟩ := R
      exact R.tabs
    refine ⟨hT, fun H1 x1 T1 => ?_⟩
    have R1 := (R.extT x1 T1).wipe hws
    refine ⟨wipeE Γ ws, τ, R1, ?_⟩
    have back : ∀ {v : V} {t : T} {Γ2 : Env} {H2 : Hp}, Rel C (wipe σ ws) H2 Γ2 ((v, t) :: τ) → Rel C σ H2 (wipeE Γ2 ws) ((v, t) :: τ) := fun {v t Γ2 H2} R2 => by
      have R3 := R2.wipe hws
      refine Rel.unwipe (vs := ws) hws (fun i hi => ?_) ?_ wipeE_no R3
      · rw [wipe_out hi, wipe_out hi]
      · rw [wipe_length, wipe_length]
    have w0 : (askO xs hs ws (fE (wipeE Γ ws))).Wp (fun t Γ' => ∀ v H', Rel C σ H' Γ' ((v, t) :: τ) → Q v H') (wx C W σ τ) := w
    cases q : fE (wipeE Γ ws) with
    | ok t Γ2 =>
      rw [q] at w0
      intro v H2 R2
      have w1 : ((frz t Γ2).bind (toldT ws)).Wp (fun t Γ' => ∀ v H', Rel C σ H' Γ' ((v, t) :: τ) → Q v H') (wx C W σ τ) := w0
      obtain ⟨d, Γ3, R3, w2⟩ := R2.frz (Out.wp_bind w1)
      refine ⟨(by show 2 ≤ sizeLine; decide), fun p hp => ?_⟩
      obtain ⟨F, ow, R3⟩ := R3
      have hd := R3.temps.1
      cases hd with
      | fz hd => exact w2 _ _ (back (R3.pop.newTup hp (by show 2 ≤ sizeLine; decide) (.cons (.str _) (.cons hd .nil))))
    | exc x' Γ2 =>
      intro cls d H2 RX
      rw [q] at w0
      have w1 := w0
      unfold askO at w1
      cases e1 : xs.contains x'.cls with
      | false => simp only [e1] at w1; exact w1.elim
      | true =>
        cases e2 : catchD x' hs with
        | none => simp only [e1, e2] at w1; exact w1.elim
        | some dd =>
          simp only [e1, e2] at w1
          have z := wH_of (Q := Q) (by simpa using e1) RX hcatch e2 (fun v H' R' => w1 v H' (back R'))
          rw [hK] at z
          exact z
    | bad =>
      rw [q] at w0
      exact w0.elim
end
end DL
set_option maxHeartbeats 1000000
/-! zip of two sequences of any kind -/
namespace DL
open PySem PySem.Spec PyProof.Rows L2

/-- what is zipped: a list, a tuple, a text -/
inductive SK where
  | l (a : Addr) | t (a : Addr) | s (z : Str) (k : Tok)
/-- the iterator at it over the source, at its i-th turn -/
def SK.At (h : Heap) (it i : Nat) : SK → Prop
  | .l a => h.IsListIter it a i
  | .t a => h.IsTupleIter it a i
  | .s z k => h.IsStrIter it (strIterType z) z k i
def SK.src (b : Addr) : SK → Prop
  | .l a => b = a
  | .t a => b = a
  | .s _ _ => False
/-- its things, by the abstract heap -/
def SK.Has (K : PySem.W.Frag) (H : Hp) (xs : List V) : SK → Prop
  | .l a => SqL K H a xs
  | .t a => SqT K H a xs
  | .s z _ => xs = z.cps.toList.map fun c => V.str ⟨#[c]⟩
theorem SK.At.obj {h : Heap} {it i : Nat} : ∀ {κ : SK}, κ.At h it i → ∃ o, h.get? it = some o ∧ ∀ v, o.data ≠ .cell v
  | .l a, ⟨o, e, _, d⟩ => ⟨o, e, fun v z => by rw [d] at z; cases z⟩
  | .t a, ⟨o, e, _, d⟩ => ⟨o, e, fun v z => by rw [d] at z; cases z⟩
  | .s z k, ⟨o, e, _, d⟩ => ⟨o, e, fun v z => by rw [d] at z; cases z⟩
theorem SK.At.keep {h h' : Heap} {it i : Nat} (k : ∀ o, h.get? it = some o → h'.get? it = some o) : ∀ {κ : SK}, κ.At h it i → κ.At h' it i
  | .l a, q => q.at k
  | SK.t a, q => q.at k
  | .s z tk, ⟨o, e, r⟩ => ⟨o, k o e, r⟩
structure Dw (P : Program) (w : World) (A : Around) (κ : SK) (it : Addr) (xs : List V) (s : Shared) (fp : List Addr) (n : Nat) (Pi : Nat → Value → Prop) (St : Nat → Heap → Prop) : Prop where
  dr : Draws P w A it fp n Pi St
  at_ : ∀ i h, St i h → κ.At h it i
  st : ∀ i, κ.At s.heap it i → St i s.heap
  len : n = xs.length
  item : ∀ i u, Pi i u → ∃ x, xs[i]? = some x ∧ RelV x u
  cells : ∀ b ∈ fp, b = it ∨ κ.src b
  mem : it ∈ fp
theorem dw_of {X : Cx} {pins : List (Addr × Obj)} {σ : L2.St} {H : Hp} {s : Shared} {A : Around} (hh : A.handled = none) (I : Inv X pins σ H s) (it : Addr) {xs : List V} : ∀ (κ : SK), κ.Has X.K H xs → ¬ κ.src it → ∃ fp n Pi St, Dw X.prog X.w A κ it xs s fp n Pi St
  | .l a, h, na => by
    obtain ⟨its, rv, p, _⟩ := I.list h
    refine ⟨_, _, _, _, Draws.list hh it a (fun z => na z.symm) its.toArray, fun i h st => st.1, fun i st => ⟨st, p.isList⟩, by simpa using rv.length.symm, fun i u hu => ?_, fun b hb => by simpa [SK.src] using hb, by simp⟩
    have hi : i < its.length := by
      have := (Array.getElem?_eq_some_iff.mp hu).1
      simpa using this
    have hx : i < xs.length := by rw [rv.length]; exact hi
    obtain ⟨u', e1, e2⟩ := rv.get (List.getElem?_eq_getElem hx)
    have e3 : its.toArray[i]? = some u' := by simpa using e1
    rw [hu] at e3
    cases e3
    exact ⟨_, List.getElem?_eq_getElem hx, e2⟩
  | .t a, h, na => by
    obtain ⟨its, rv, p, _⟩ := I.tuple h
    refine ⟨_, _, _, _, Draws.tuple hh it a (fun z => na z.symm) its.toArray, fun i h st => st.1, fun i st => ⟨st, p⟩, by simpa using rv.length.symm, fun i u hu => ?_, fun b hb => by simpa [SK.src] using hb, by simp⟩
    have hi : i < its.length := by
      have := (Array.getElem?_eq_some_iff.mp hu).1
      simpa using this
    have hx : i < xs.length := by rw [rv.length]; exact hi
    obtain ⟨u', e1, e2⟩ := rv.get (List.getElem?_eq_getElem hx)
    have e3 : its.toArray[i]? = some u' := by simpa using e1
    rw [hu] at e3
    cases e3
    exact ⟨_, List.getElem?_eq_getElem hx, e2⟩
  | .s z k, h, na => by
    have h' : xs = z.cps.toList.map fun c => V.str ⟨#[c]⟩ := h
    subst h'
    refine ⟨_, _, _, _, Draws.text hh it z k, fun i h st => st, fun i st => st, by simp, fun i u hu => ?_, fun b hb => .inl (by simpa using hb), by simp⟩
    obtain ⟨c, t, e, rfl⟩ := hu
    refine ⟨.str ⟨#[c]⟩, ?_, t, rfl⟩
    rw [List.getElem?_map, Array.getElem?_toList, e]
    rfl
theorem has_inj {X : Cx} {pins : List (Addr × Obj)} {σ : L2.St} {H : Hp} {s : Shared} (I : Inv X pins σ H s) {xs ys : List V} : ∀ {κ : SK}, κ.Has X.K H xs → κ.Has X.K H ys → xs = ys
  | .l a, h1, h2 => I.list_inj h1 h2
  | .t a, h1, h2 => I.tuple_inj h1 h2
  | .s z k, h1, h2 => Eq.trans (show xs = _ from h1) (Eq.symm (show ys = _ from h2))
/-- pairs of the two -/
def Itp (K : PySem.W.Frag) (κ1 κ2 : SK) : It :=
  ⟨fun i H => ∃ (xs ys : List V) (x y : V), κ1.Has K H xs ∧ κ2.Has K H ys ∧ xs[i]? = some x ∧ ys[i]? = some y ∧ i ≤ xs.length ∧ i ≤ ys.length,
    fun i H v H' => ∃ T x y, v = .ref T ∧ H T = none ∧ H' = upd H T (.tup [x, y]) ∧ (∀ xs, κ1.Has K H xs → xs[i]? = some x) ∧ ∀ ys, κ2.Has K H ys → ys[i]? = some y,
    fun i H => ∃ xs ys : List V, κ1.Has K H xs ∧ κ2.Has K H ys ∧ i = min xs.length ys.length⟩
theorem apart_nat (n : Nat) : n + 2 ≠ n + 4 ∧ n + 3 ≠ n + 4 ∧ n + 2 ≠ n + 3 ∧ n + 2 ≠ n ∧ n + 2 ≠ n + 1 ∧ n ≠ n + 1 := by omega
theorem nat_above {b n k : Nat} (h : b ≤ n) (hk : 0 < k) : b ≠ n + k := by omega
theorem nat_apart {b n k : Nat} (h : b = n + 1 ∨ b < n) (hk : k ≠ 1) : b ≠ n + k := by omega
theorem sep_of {n : Nat} {κ1 κ2 : SK} {fp1 fp2 : List Addr} (s1 : ∀ b, κ1.src b → b < n) (s2 : ∀ b, κ2.src b → b < n) (f1 : ∀ b ∈ fp1, b = n ∨ κ1.src b) (f2 : ∀ b ∈ fp2, b = n + 1 ∨ κ2.src b) (m1 : n ∈ fp1) (m2 : n + 1 ∈ fp2) : ZipSep2 (n + 4) (n + 2) (n + 3) n (n + 1) fp1 fp2 := by
  have a1 : ∀ b ∈ fp1, b ≤ n := fun b hb => by
    rcases f1 b hb with z | z
    · rw [z]; exact Nat.le_refl _
    · exact Nat.le_of_lt (s1 b z)
  have a2 : ∀ b ∈ fp2, b = n + 1 ∨ b < n := fun b hb => by
    rcases f2 b hb with z | z
    · exact .inl z
    · exact .inr (s2 b z)
  obtain ⟨q1, q2, q3, q4, q5, q6⟩ := apart_nat n
  exact ⟨q1, q2, q3, q4, m1, fun z => nat_above (a1 _ z) (by decide) rfl, fun z => nat_above (a1 _ z) (by decide) rfl, q5, m2, fun z => nat_apart (k := 4) (a2 _ z) (by decide) rfl, fun z => nat_apart (k := 3) (a2 _ z) (by decide) rfl, fun z => nat_apart (k := 0) (a2 _ z) (by decide) rfl, fun z => nat_above (a1 _ z) (by decide) rfl⟩
abbrev zcells (n : Nat) : List Addr := [n + 4, n + 2, n + 3, n, n + 1]
theorem zcells_mem {n b : Nat} (h : b ∈ zcells n) : b = n + 4 ∨ b = n + 2 ∨ b = n + 3 ∨ b = n ∨ b = n + 1 := by simpa [zcells] using h
theorem turn_pairs {P : Program} {w : World} {K : PySem.W.Frag} {elts : List Expr} {kk : Nat} {tpos : Pos} (n : Nat) {κ1 κ2 : SK} (s1 : ∀ b, κ1.src b → b < n) (s2 : ∀ b, κ2.src b → b < n) :
    Turn P w K (.Tuple elts kk tpos) (Itp K κ1 κ2) (zcells n) (n + 4) (fun i h => IsZip h (n + 4) (n + 2) (n + 3) .none ∧ IsTupOf2 h (n + 2) (.ref n) (.ref (n + 1)) ∧ (∃ x y, IsTupOf2 h (n + 3) x y) ∧ κ1.At h n i ∧ κ2.At h (n + 1) i) where
  mem := by simp [zcells]
  obj := fun i h st c hc => by
    obtain ⟨hz, hTI, ⟨x, y, hTO⟩, h1, h2⟩ := st
    rcases zcells_mem hc with q | q | q | q | q <;> rw [q]
    · exact ⟨_, hz, fun v q => nomatch q⟩
    · exact ⟨_, hTI, fun v q => nomatch q⟩
    · exact ⟨_, hTO, fun v q => nomatch q⟩
    · exact h1.obj
    · exact h2.obj
  keep := fun i h h' st k => by
    obtain ⟨hz, hTI, ⟨x, y, hTO⟩, h1, h2⟩ := st
    exact ⟨k _ (by simp [zcells]) _ hz, k _ (by simp [zcells]) _ hTI, ⟨x, y, k _ (by simp [zcells]) _ hTO⟩, h1.keep fun o q => k _ (by simp [zcells]) o q, h2.keep fun o q => k _ (by simp [zcells]) o q⟩
  item := by
    intro X hP hw hK hc i pins s σ H E I hf st hg
    subst hP hw hK
    obtain ⟨hz, hTI, ⟨x0, y0, hTO⟩, h1, h2⟩ := st
    obtain ⟨xs, ys, x, y, g1, g2, gx, gy, l1, l2⟩ := hg
    have hh : X.A.in1.handled = none := I.ok.hd hc
    obtain ⟨fp1, n1, P1, S1, D1⟩ := dw_of hh I n κ1 g1 (fun z => Nat.lt_irrefl _ (s1 _ z))
    obtain ⟨fp2, n2, P2, S2, D2⟩ := dw_of hh I (n + 1) κ2 g2 (fun z => Nat.lt_irrefl n (Nat.lt_of_succ_lt (s2 _ z)))
    have S := sep_of s1 s2 D1.cells D2.cells D1.mem D2.mem
    have zl : n + 4 < s.heap.objs.size := Heap.lt_size hz
    have lx : i < xs.length := (List.getElem?_eq_some_iff.mp gx).1
    have ly : i < ys.length := (List.getElem?_eq_some_iff.mp gy).1
    refine wpAny_pyNext_zipD2_item S D1.dr D2.dr hz hTI hTO (D1.st i h1) (D2.st i h2) (by rw [D1.len]; exact lx) (by rw [D2.len]; exact ly) fun u1 u2 h' tk p1 p2 b1 b2 d1 d2 b5 b6 hk => ?_
    refine ⟨_, rfl, wpAny_letOwnedTupleGo_zip (s := { s with heap := h', toks := tk }) b1 fun h'' z'' sb => ?_⟩
    obtain ⟨x', ex, rx⟩ := D1.item i u1 p1
    obtain ⟨y', ey, ry⟩ := D2.item i u2 p2
    have hT2 : h''.get? s.heap.objs.size = some { cls := .type "tuple", data := .seq #[u1, u2] } := (sb.2 _ (Nat.ne_of_gt zl)).trans b5
    have new : ObjOk X.prog X.w (upd H s.heap.objs.size (.tup [x', y'])) h'' s.heap.objs.size (.tup [x', y']) := ⟨by show 2 ≤ sizeLine; decide, [u1, u2], .cons rx (.cons ry .nil), ⟨_, hT2, rfl, _, rfl⟩⟩
    have out : ∀ c o, c ∉ zcells n → s.heap.get? c = some o → h''.get? c = some o := fun c o hb q => by
      have m4 : c ≠ n + 4 := fun z => hb (by simp [zcells, z])
      exact (sb.2 c m4).trans (hk c o m4 (fun z => hb (by simp [zcells, z])) (fun z => hb (by simp [zcells, z])) (fun z => hb (by simp [zcells, z])) q)
    have I1 : Inv X pins σ (upd H s.heap.objs.size (.tup [x', y'])) { s with heap := h'', toks := tk } := I.turnedNew (t' := tk) (ch := zcells n) out hf (Nat.le_refl _) new
    refine ⟨.ref s.heap.objs.size, _, I1, rfl, ⟨_, x', y', rfl, I.hok.fresh (Nat.le_refl _), rfl, fun l hl => (by rw [has_inj I hl g1]; exact ex), fun l hl => (by rw [has_inj I hl g2]; exact ey)⟩, ⟨z'', ?_, ⟨u1, u2, ?_⟩, ?_, ?_⟩, fun c hcm => ?_⟩
    · exact (sb.2 _ S.TIz).trans (hk _ _ S.TIz S.TITO S.TIi1 S.TIi2 hTI)
    · exact (sb.2 _ S.TOz).trans b2
    · exact (D1.at_ _ _ d1).keep fun o q => (sb.2 _ S.zi1.symm).trans q
    · exact (D2.at_ _ _ d2).keep fun o q => (sb.2 _ S.zi2.symm).trans q
    · have hlt : c < s.heap.objs.size := by
        rcases zcells_mem hcm with q | q | q | q | q <;> rw [q]
        · exact zl
        · exact Nat.lt_trans (Nat.add_lt_add_left (by decide) n) zl
        · exact Nat.lt_trans (Nat.add_lt_add_left (by decide) n) zl
        · exact Nat.lt_of_le_of_lt (Nat.le_add_right _ _) zl
        · exact Nat.lt_trans (Nat.add_lt_add_left (by decide) n) zl
      rw [upd_ne (Nat.ne_of_lt hlt)]
      exact (hf c hcm).1
  done := by
    intro X hP hw hK hc i pins s σ H E I hf st hg
    subst hP hw hK
    obtain ⟨hz, hTI, ⟨x0, y0, hTO⟩, h1, h2⟩ := st
    obtain ⟨xs, ys, g1, g2, hend⟩ := hg
    have hh : X.A.in1.handled = none := I.ok.hd hc
    obtain ⟨fp1, n1, P1, S1, D1⟩ := dw_of hh I n κ1 g1 (fun z => Nat.lt_irrefl _ (s1 _ z))
    obtain ⟨fp2, n2, P2, S2, D2⟩ := dw_of hh I (n + 1) κ2 g2 (fun z => Nat.lt_irrefl n (Nat.lt_of_succ_lt (s2 _ z)))
    have e1 := D1.len
    have e2 := D2.len
    exact wpAny_pyNext_zipD2_end (sep_of s1 s2 D1.cells D2.cells D1.mem D2.mem) D1.dr D2.dr hz hTI hTO (D1.st i h1) (D2.st i h2) (by omega) (by omega) (by omega) fun h' tk hk => ⟨rfl, I.turnedL (t' := tk) (ch := zcells n) (fun c o hb q =>
      hk c o (fun z => hb (by simp [zcells, z])) (fun z => hb (by simp [zcells, z])) (fun z => hb (by simp [zcells, z])) (fun z => hb (by simp [zcells, z])) q) hf⟩
  self := fun A i s Q E st h => wpAny_pyIter_zip st.1 h

def SK.V : SK → V
  | .l a => .ref a
  | .t a => .ref a
  | .s z _ => .str z
def SK.kd : SK → Nat
  | .l _ => 0
  | .t _ => 1
  | .s _ _ => 2
def SrcV (K : PySem.W.Frag) (H : Hp) (k : Nat) (v : V) (xs : List V) : Prop := (∃ a, v = .ref a ∧ k = 0 ∧ SqL K H a xs) ∨ (∃ a, v = .ref a ∧ k = 1 ∧ SqT K H a xs) ∨ ∃ z, v = .str z ∧ k = 2 ∧ xs = z.cps.toList.map fun c => V.str ⟨#[c]⟩
def iPairs (K : PySem.W.Frag) (ta : TA) : TI := fun σ H R => ta σ H fun vs H1 => ∃ k1 k2 v1 v2 xs ys, vs = [v1, v2] ∧ SrcV K H1 k1 v1 xs ∧ SrcV K H1 k2 v2 ys ∧ ∀ κ1 κ2 : SK, κ1.V = v1 → κ2.V = v2 → κ1.kd = k1 → κ2.kd = k2 → R (Itp K κ1 κ2) H1
/-- the beginning of an iterator over v -/
theorem begins_of {X : Cx} {pins : List (Addr × Obj)} {σ : L2.St} {H : Hp} {s : Shared} (I : Inv X pins σ H s) {v : V} {u : Value} {k : Nat} {xs : List V} (r : RelV v u) (h : SrcV X.K H k v xs) : ∃ (κ : SK) (o : Obj) (Hh : Heap → Prop), κ.V = v ∧ κ.kd = k ∧ Begins u o Hh ∧ Hh s.heap ∧ (∀ b, κ.src b → b < s.heap.objs.size) ∧ ∀ (h' : Heap) (it : Addr), h'.get? it = some o → κ.At h' it 0 := by
  rcases h with ⟨a, rfl, rfl, h⟩ | ⟨a, rfl, rfl, h⟩ | ⟨z, rfl, rfl, rfl⟩
  · obtain rfl : u = Value.ref a := r
    obtain ⟨its, rv, p, _⟩ := I.list h
    exact ⟨.l a, _, _, rfl, rfl, begins_list a its.toArray, p.isList, fun b z => by rw [show b = a from z]; exact p.lt, fun h' it e => ⟨_, e, rfl, rfl⟩⟩
  · obtain rfl : u = Value.ref a := r
    obtain ⟨its, rv, p, _⟩ := I.tuple h
    have p' := p
    obtain ⟨o, ho, _⟩ := p'
    exact ⟨.t a, _, _, rfl, rfl, begins_tuple a its.toArray, p, fun b z => by rw [show b = a from z]; exact Heap.lt_size ho, fun h' it e => ⟨_, e, rfl, rfl⟩⟩
  · obtain ⟨k, rfl⟩ : ∃ k, u = Value.str z k := r
    exact ⟨.s z k, _, _, rfl, rfl, begins_text z k, trivial, fun b z => z.elim, fun h' it e => ⟨_, e, rfl, rfl⟩⟩
theorem pi_pairs {X : Cx} {e e2 : Expr} {ta : TA} {p pos tpos : Pos} {elts : List Expr} {kk : Nat} (hg : Gl X "zip") (hm : X.mg "zip" = none) (ha : PA X [e, e2] ta)
    (hs : starEach [e, e2] X.env = (false, eval e X.env) :: starEach [e2] X.env := by rfl) (hpl : (backTo pos (starEach [e2] X.env)).any (·.1) = false := by rfl) :
    PI X (.Tuple elts kk tpos) (.Call (.Name "zip" p) [e, e2] [] pos) (iPairs X.K ta) := ⟨fun pins s σ H R I h => by
  refine Call_ (ld_blt I hg hm PyProof.Rows.boot_zip (PyProof.Rows.callWith_type1 (thn (ha.run pos pins s σ H _ I h) fun us s1 ⟨vs, H1, I1, r1, kk1, kk2, v1, v2, xs, ys, ev, hx, hy, q⟩ => ?_) hs hpl))
  subst ev
  cases r1 with
  | cons ra rr =>
    cases rr with
    | cons rb rr =>
      cases rr
      obtain ⟨κ1, o1, Hh1, k1, k2, k3, k4, k5, k6⟩ := begins_of I1 ra hx
      obtain ⟨κ2, o2, Hh2, m1, m2, m3, m4, m5, m6⟩ := begins_of I1 rb hy
      refine zip_begins2 k3 m3 k4 m4 fun h' hz hTI hTO g1 g2 hsz hk => wpAny_pyIter_zip hz ?_
      have I2 : Inv X pins σ H1 { s1 with heap := h' } := I1.kept (t' := s1.toks) hk
      refine ⟨s1.heap.objs.size + 4, zcells s1.heap.objs.size, _, _, H1, rfl, I2, turn_pairs s1.heap.objs.size k5 m5, ⟨hz, hTI, ⟨_, _, hTO⟩, k6 _ _ g1, m6 _ _ g2⟩, fun c hc => ?_, q κ1 κ2 k1 m1 k2 m2⟩
      have hle : s1.heap.objs.size ≤ c := by
        rcases zcells_mem hc with z | z | z | z | z <;> rw [z]
        · exact Nat.le_add_right _ _
        · exact Nat.le_add_right _ _
        · exact Nat.le_add_right _ _
        · exact Nat.le_refl _
        · exact Nat.le_add_right _ _
      exact I1.fpOk hle (I1.hok.fresh hle)⟩
/-! ### by meanings -/
def srcD : D → Option (List D)
  | .lst ds => some ds
  | .tup ds => some ds
  | .scr ns => some (ns.map D.int)
  | .str z => if z.length ≤ sizeLine then some (z.cps.toList.map fun c => D.str ⟨#[c]⟩) else none
  | _ => none
def zipD (xs ys : List D) : List D := (xs.zip ys).map fun p => .tup [p.1, p.2]
def zipIt (f g : M T) : M (List D) := bindM (fzD f) fun d1 => bindM (fzD g) fun d2 => bindM (optM (srcD d1)) fun xs => bindM (optM (srcD d2)) fun ys => retM (zipD xs ys)
section
variable {K : PySem.W.Frag} {cl : Cl} {F H : Hp}
theorem Dts.ofChars : ∀ (cs : List Nat), Dts K cl F (cs.map fun c => V.str ⟨#[c]⟩) (cs.map fun c => D.str ⟨#[c]⟩)
  | [] => .nil
  | c :: cs => .cons (.str _) (Dts.ofChars cs)
def D.kd : D → Nat
  | .tup _ => 1
  | .str _ => 2
  | _ => 0
theorem Dt.src {v : V} {d : D} {ds : List D} (h : Dt K cl F v d) (x : Sub F H) (e : srcD d = some ds) : ∃ xs, SrcV K H d.kd v xs ∧ Dts K cl F xs ds ∧ xs.length ≤ sizeLine := by
  cases h with
  | lst h1 hl h2 => cases e; exact ⟨_, .inl ⟨_, rfl, rfl, SqL.of (x _ _ h1)⟩, h2, hl⟩
  | tup h1 hl h2 => cases e; exact ⟨_, .inr (.inl ⟨_, rfl, rfl, x.sqT h1⟩), h2, hl⟩
  | scr h1 hl => cases e; exact ⟨_, .inl ⟨_, rfl, rfl, x.sqL h1⟩, Dts.ofInts, by rw [List.length_map]; exact hl⟩
  | str z =>
    simp only [srcD] at e
    split at e <;> cases e
    rename_i hz
    exact ⟨_, .inr (.inr ⟨_, rfl, rfl, rfl⟩), Dts.ofChars _, by rw [List.length_map, Array.length_toList]; exact hz⟩
  | _ => cases e
/-- the kind of a source is its data's -/
theorem Dt.has {v : V} {d : D} {ds : List D} {κ : SK} (h : Dt K cl F v d) (x : Sub F H) (e : srcD d = some ds) (hv : κ.V = v) (hk : κ.kd = d.kd) : ∃ xs, κ.Has K H xs ∧ Dts K cl F xs ds ∧ xs.length ≤ sizeLine := by
  obtain ⟨xs, h1, h2, h3⟩ := h.src x e
  refine ⟨xs, ?_, h2, h3⟩
  rcases h1 with ⟨a, rfl, q, g⟩ | ⟨a, rfl, q, g⟩ | ⟨z, rfl, q, rfl⟩
  · rw [q] at hk
    cases κ with
    | l b => cases hv; exact g
    | t b => cases hk
    | s z k => cases hv
  · rw [q] at hk
    cases κ with
    | l b => cases hk
    | t b => cases hv; exact g
    | s z k => cases hv
  · cases κ with
    | l b => cases hv
    | t b => cases hv
    | s z' k => cases hv; exact rfl
end
section
variable {C : Cc} {W : WX}
theorem zipD_length {xs ys : List D} : (zipD xs ys).length = min xs.length ys.length := by simp [zipD]
theorem iter_pairs {κ1 κ2 : SK} {v1 v2 : V} {d1 d2 : D} {xs ys : List D} (e1 : srcD d1 = some xs) (e2 : srcD d2 = some ys) (hv1 : κ1.V = v1) (hv2 : κ2.V = v2) (hk1 : κ1.kd = d1.kd) (hk2 : κ2.kd = d2.kd) : IterD C (Itp C.K κ1 κ2) (zipD xs ys) [(v2, .fz d2), (v1, .fz d1)] where
  go := fun i H σ Γ τ R hi => by
    obtain ⟨F, ow, R⟩ := R
    have h2 := R.temps.1
    have h1 := R.temps.2.1
    rw [zipD_length] at hi
    cases h1 with
    | fz h1 =>
      cases h2 with
      | fz h2 =>
        obtain ⟨as, g1, g2, _⟩ := h1.has R.ex e1 hv1 hk1
        obtain ⟨bs, g3, g4, _⟩ := h2.has R.ex e2 hv2 hk2
        have l1 := g2.length
        have l2 := g4.length
        exact ⟨as, bs, as[i]'(by omega), bs[i]'(by omega), g1, g3, List.getElem?_eq_getElem _, List.getElem?_eq_getElem _, by omega, by omega⟩
  yld := fun i H σ Γ τ x H' R hi y => by
    obtain ⟨F, ow, R⟩ := R
    have h2 := R.temps.1
    have h1 := R.temps.2.1
    rw [zipD_length] at hi
    obtain ⟨Tn, x1, y1, rfl, hn, rfl, q1, q2⟩ := y
    cases h1 with
    | fz h1 =>
      cases h2 with
      | fz h2 =>
        obtain ⟨as, g1, g2, _⟩ := h1.has R.ex e1 hv1 hk1
        obtain ⟨bs, g3, g4, _⟩ := h2.has R.ex e2 hv2 hk2
        obtain ⟨a, ea, ha⟩ := g2.getV (q1 as g1)
        obtain ⟨b, eb, hb⟩ := g4.getV (q2 bs g3)
        refine ⟨.tup [a, b], ?_, R.newTup hn (by show 2 ≤ sizeLine; decide) (.cons ha (.cons hb .nil))⟩
        unfold zipD
        rw [List.getElem?_map, List.getElem?_zip_eq_some (z := (a, b)) |>.mpr ⟨ea, eb⟩]
        rfl
  stop := fun H σ Γ τ R => by
    obtain ⟨F, ow, R⟩ := R
    have h2 := R.temps.1
    have h1 := R.temps.2.1
    cases h1 with
    | fz h1 =>
      cases h2 with
      | fz h2 =>
        obtain ⟨as, g1, g2, _⟩ := h1.has R.ex e1 hv1 hk1
        obtain ⟨bs, g3, g4, _⟩ := h2.has R.ex e2 hv2 hk2
        exact ⟨as, bs, g1, g3, by rw [zipD_length, g2.length, g4.length]⟩
  fz := fun p hp => by
    cases hp with
    | head => exact ⟨_, rfl⟩
    | tail _ hp =>
      cases hp with
      | head => exact ⟨_, rfl⟩
      | tail _ hp => cases hp
  len := fun H σ Γ τ R => by
    obtain ⟨F, ow, R⟩ := R
    have h1 := R.temps.2.1
    cases h1 with
    | fz h1 =>
      obtain ⟨as, g1, g2, g3⟩ := h1.has R.ex e1 hv1 hk1
      rw [zipD_length, ← g2.length]
      exact Nat.le_trans (Nat.min_le_left _ _) g3
variable {X : Cx}
theorem rd_bindD {α : Type} {f : M T} {k : D → M α} {σ : L2.St} {H : Hp} {Γ : Env} {τ : Hand} {Q : VK} {P : α → Env → Prop} (R : Rel C σ H Γ τ) (h : (bindM (fzD f) k Γ).Wp P (wx C W σ τ)) (hq : ∀ d Γ' v H', Rel C σ H' Γ' ((v, .fz d) :: τ) → (k d Γ').Wp P (wx C W σ τ) → Q v H') : rd C W f σ H Q := by
  refine ⟨Γ, τ, R, ?_⟩
  have h1 := Out.wp_bind (Out.wp_bind (Out.wp_bind h))
  refine Out.wp_mono h1 (fun t Γ1 w v H1 R1 => ?_) (fun _ _ z => z)
  obtain ⟨d, Γ2, R2, w2⟩ := R1.frz w
  exact hq d Γ2 v H1 R2 w2
theorem di_zip {e e2 : Expr} {f g : M T} {p pos tpos : Pos} {elts : List Expr} {kk : Nat} (hK : C.K = X.K) (hg : Gl X "zip") (hm : X.mg "zip" = none) (he : PE X e (rd C W f)) (he2 : PE X e2 (rd C W g))
    (hs : starEach [e, e2] X.env = (false, eval e X.env) :: starEach [e2] X.env := by rfl) (hs2 : starEach [e2] X.env = (false, eval e2 X.env) :: starEach [] X.env := by rfl) (hpl : (backTo pos (starEach [e2] X.env)).any (·.1) = false := by rfl) :
    PI X (.Tuple elts kk tpos) (.Call (.Name "zip" p) [e, e2] [] pos) (rdI C W (zipIt f g)) :=
  pi_sub (pi_pairs hg hm (pa_cons he (pa_cons he2 pa_nil hs2) hs) hs hpl) fun σ H R' ⟨Γ, τ, R, w⟩ => by
    refine rd_bindD R w fun d1 Γ1 v1 H1 R1 w1 => ?_
    refine rd_bindD R1 (wp_under w1) fun d2 Γ2 v2 H2 R2 w2 => ?_
    obtain ⟨xs, e1, w3⟩ := wp_optM (Out.wp_bind w2)
    obtain ⟨ys, e2, w4⟩ := wp_optM (Out.wp_bind w3)
    obtain ⟨F, ow, R2⟩ := R2
    have h2 := R2.temps.1
    have h1 := R2.temps.2.1
    cases h1 with
    | fz h1 =>
      cases h2 with
      | fz h2 =>
        obtain ⟨as, g1, _, _⟩ := h1.src R2.ex e1
        obtain ⟨bs, g2, _, _⟩ := h2.src R2.ex e2
        rw [← hK]
        exact ⟨_, _, v1, v2, as, bs, rfl, g1, g2, fun κ1 κ2 a1 a2 a3 a4 => w4 _ _ [(v2, .fz d2), (v1, .fz d1)] ⟨F, ow, R2⟩ (iter_pairs e1 e2 a1 a2 a3 a4)⟩
end
end DL
set_option maxHeartbeats 1000000
/-! in, not in -/
namespace DL
open PySem L2
def D.flat : D → Bool
  | .non => true
  | .bl _ => true
  | .int _ => true
  | .str _ => true
  | _ => false
def oneOf (x : Str) : Option Nat := match x.cps.toList with
  | [c] => some c
  | _ => none
/-- is it in -/
def inB : D → D → Option Bool
  | x, .lst ds => if x.fit 32 && (D.lst ds).fit 64 then some (ds.any fun y => y.eqb x) else none
  | x, .tup ds => if x.flat && ds.all D.flat then some (ds.any fun y => y.eqb x) else none
  | .str x, .str z => (oneOf x).map fun c => decide (c ∈ z.cps.toList)
  | _, _ => none
def inD (x y : D) : Option D := (inB x y).map D.bl
def ninD (x y : D) : Option D := (inB x y).map fun b => .bl (!b)
section
variable {K : PySem.W.Frag} {cl : Cl}
theorem Dt.flatV {F : Hp} {v : V} {d : D} (h : Dt K cl F v d) (e : d.flat = true) : L2.flatV v = true := by
  cases h <;> first | rfl | cases e
theorem Dts.flatV {F : Hp} : ∀ {vs : List V} {ds : List D}, Dts K cl F vs ds → ds.all D.flat = true → vs.all L2.flatV = true
  | _, _, .nil, _ => rfl
  | _, _, .cons h hs, e => by
    rw [List.all_cons, Bool.and_eq_true] at e
    rw [List.all_cons, h.flatV e.1, Dts.flatV hs e.2]
    rfl
theorem Dt.eqV {F : Hp} {v u : V} {d e : D} (h : Dt K cl F v d) (g : Dt K cl F u e) (h1 : d.flat = true) (h2 : e.flat = true) : L2.eqV v u = d.eqb e := by
  cases h <;> first | (exfalso; exact Bool.false_ne_true h1) | (cases g <;> first | rfl | (exfalso; exact Bool.false_ne_true h2))
theorem Dts.inV {F : Hp} {u : V} {e : D} (g : Dt K cl F u e) (h2 : e.flat = true) : ∀ {vs : List V} {ds : List D}, Dts K cl F vs ds → ds.all D.flat = true → L2.inV u vs = ds.any fun y => y.eqb e
  | _, _, .nil, _ => rfl
  | _, _, .cons h hs, q => by
    rw [List.all_cons, Bool.and_eq_true] at q
    show (L2.eqV _ u || L2.inV u _) = _
    rw [List.any_cons, h.eqV g q.1 h2, Dts.inV g h2 hs q.2]
theorem eqb_any {x : D} {m : Nat} (hx : x.fit m = true) : ∀ {n : Nat} {ds : List D}, D.fits n ds = true → ((D.pys ds).any fun z => PyData.eqv z x.py) = ds.any fun y => y.eqb x
  | _, [], _ => rfl
  | n, d :: ds, h => by
    unfold D.fits at h
    rw [Bool.and_eq_true] at h
    show (PyData.eqv d.py x.py || (D.pys ds).any fun z => PyData.eqv z x.py) = _
    rw [List.any_cons, D.eqb_py n m d x h.1 hx, eqb_any hx h.2]
def rInL (K : PySem.W.Frag) (neg : Bool) : R2 := fun x y H Q => ∃ d ds, Dp K H x d ∧ Dp K H y (.list ds) ∧ d.canLay0 = true ∧ d.depth ≤ 32 ∧ PyData.canLayAll0 ds = true ∧ Q (.bl (if neg then !ds.any fun z => PyData.eqv z d else ds.any fun z => PyData.eqv z d)) H
abbrev rInA (K : PySem.W.Frag) : R2 := fun x y H Q => rInL K false x y H Q ∨ rIn K false x y H Q ∨ ∃ (c : Nat) (z : Str), x = .str ⟨#[c]⟩ ∧ y = .str z ∧ Q (.bl (decide (c ∈ z.cps.toList))) H
abbrev rNinA (K : PySem.W.Frag) : R2 := fun x y H Q => rInL K true x y H Q ∨ rIn K true x y H Q ∨ ∃ (c : Nat) (z : Str), x = .str ⟨#[c]⟩ ∧ y = .str z ∧ Q (.bl (!decide (c ∈ z.cps.toList))) H
theorem oneOf_eq {x : Str} {c : Nat} (h : oneOf x = some c) : x = ⟨#[c]⟩ := by
  unfold oneOf at h
  split at h
  · rename_i c' e
    cases h
    obtain ⟨cs⟩ := x
    have : cs = #[c] := by
      apply Array.ext'
      exact e
    rw [this]
  · cases h
theorem inB_go {H : Hp} {v1 v2 : V} {d1 d2 : D} {b : Bool} (h1 : Dt K cl H v1 d1) (h2 : Dt K cl H v2 d2) (e : inB d1 d2 = some b) :
    (∃ d ds, Dp K H v1 d ∧ Dp K H v2 (.list ds) ∧ d.canLay0 = true ∧ d.depth ≤ 32 ∧ PyData.canLayAll0 ds = true ∧ (ds.any fun z => PyData.eqv z d) = b) ∨ (∃ p xs, v2 = .ref p ∧ (SqL K H p xs ∨ SqT K H p xs) ∧ flatV v1 = true ∧ xs.all flatV = true ∧ inV v1 xs = b) ∨ ∃ (c : Nat) (z : Str), v1 = .str ⟨#[c]⟩ ∧ v2 = .str z ∧ decide (c ∈ z.cps.toList) = b := by
  unfold inB at e
  split at e
  · rename_i ds
    split at e <;> cases e
    rename_i hh
    rw [Bool.and_eq_true] at hh
    exact .inl ⟨_, D.pys ds, h1.dp hh.1, h2.dp (n := 64) hh.2, (D.fit_lay 32 _ hh.1).1, (D.fit_lay 32 _ hh.1).2, (D.fits_lay 63 ds hh.2).1, eqb_any hh.1 (n := 63) hh.2⟩
  · rename_i ds
    split at e <;> cases e
    rename_i hh
    rw [Bool.and_eq_true] at hh
    cases h2 with
    | tup g1 g2 g3 => exact .inr (.inl ⟨_, _, rfl, .inr g1, h1.flatV hh.1, g3.flatV hh.2, Dts.inV h1 hh.1 g3 hh.2⟩)
  · rename_i x z
    cases q : oneOf x with
    | none => rw [q] at e; cases e
    | some c =>
      rw [q] at e
      cases e
      cases h1
      cases h2
      exact .inr (.inr ⟨c, z, by rw [oneOf_eq q], rfl, rfl⟩)
  · cases e
theorem sc_in : Sc2 K cl (rInA K) inD := by
  intro H v1 v2 d1 d2 d Q h1 h2 e q
  unfold inD at e
  cases eb : inB d1 d2 with
  | none => rw [eb] at e; cases e
  | some b =>
    rw [eb] at e
    cases e
    rcases inB_go h1 h2 eb with ⟨p, ds, a1, a2, a3, a4, a5, rfl⟩ | ⟨p, xs, a1, a2, a3, a4, rfl⟩ | ⟨c, z, a1, a2, rfl⟩
    · exact .inl ⟨p, ds, a1, a2, a3, a4, a5, q _ (.bl _)⟩
    · exact .inr (.inl ⟨p, xs, a1, a2, a3, a4, q _ (.bl _)⟩)
    · exact .inr (.inr ⟨c, z, a1, a2, q _ (.bl _)⟩)
theorem sc_nin : Sc2 K cl (rNinA K) ninD := by
  intro H v1 v2 d1 d2 d Q h1 h2 e q
  unfold ninD at e
  cases eb : inB d1 d2 with
  | none => rw [eb] at e; cases e
  | some b =>
    rw [eb] at e
    cases e
    rcases inB_go h1 h2 eb with ⟨p, ds, a1, a2, a3, a4, a5, rfl⟩ | ⟨p, xs, a1, a2, a3, a4, rfl⟩ | ⟨c, z, a1, a2, rfl⟩
    · exact .inl ⟨p, ds, a1, a2, a3, a4, a5, q _ (.bl _)⟩
    · exact .inr (.inl ⟨p, xs, a1, a2, a3, a4, q _ (.bl _)⟩)
    · exact .inr (.inr ⟨c, z, a1, a2, q _ (.bl _)⟩)
end
section
variable {X : Cx}
theorem op_inL (hu : X.A.units + 64 < cLine) : OpR X (compareOp .In) (rInL X.K false) := by
  intro pins s σ H x y v u Q I rx ry h
  obtain ⟨d, ds, hd, he, sd, dd, se, q⟩ := h
  obtain ⟨as, r1⟩ := Dp.reads I d x v hd rx
  obtain ⟨bs, r2⟩ := Dp.reads I (.list ds) y u he ry
  exact SeqAt.in_list_reads r2 r1 se sd (Nat.lt_of_le_of_lt (by have : min (PyData.depthAll ds) d.depth ≤ d.depth := Nat.min_le_right _ _; omega) hu) ⟨.bl _, H, I, rfl, q⟩
theorem op_ninL (hu : X.A.units + 64 < cLine) : OpR X (compareOp .NotIn) (rInL X.K true) := by
  intro pins s σ H x y v u Q I rx ry h
  obtain ⟨d, ds, hd, he, sd, dd, se, q⟩ := h
  obtain ⟨as, r1⟩ := Dp.reads I d x v hd rx
  obtain ⟨bs, r2⟩ := Dp.reads I (.list ds) y u he ry
  exact SeqAt.notIn_list_reads r2 r1 se sd (Nat.lt_of_le_of_lt (by have : min (PyData.depthAll ds) d.depth ≤ d.depth := Nat.min_le_right _ _; omega) hu) ⟨.bl _, H, I, rfl, q⟩
theorem op_inA (hu : X.A.units + 64 < cLine) : OpR X (compareOp .In) (rInA X.K) := (op_inL hu).or (op_in_seq.or op_in_sign)
theorem op_ninA (hu : X.A.units + 64 < cLine) : OpR X (compareOp .NotIn) (rNinA X.K) := (op_ninL hu).or (op_notIn_seq.or op_notIn_sign)
end
end DL
set_option maxHeartbeats 1000000
/-! list comprehensions of two clauses -/
namespace DL
open PySem L2
/-- the list made so far, one thing longer or not -/
def growL (acc : List D) : Option D → M (List D)
  | none => retM acc
  | some e => bindM (guardM (decide (acc.length < sizeLine))) fun _ => retM (acc ++ [e])
def innerL (vs : List Nat) (g : D → M Unit) (ft : M Bool) (fe : M T) : List D → List D → M (List D)
  | acc, [] => retM acc
  | acc, d :: ds => bindM (turnL vs g ft fe d) fun o => bindM (growL acc o) fun acc' => innerL vs g ft fe acc' ds
def outerL (vs vs1 : List Nat) (g : D → M Unit) (ft : M Bool) (fi1 : M (List D)) (g1 : D → M Unit) (ft1 : M Bool) (fe : M T) : List D → List D → M (List D)
  | acc, [] => retM acc
  | acc, d :: ds => bindM (g d) fun _ => bindM (noX ft) fun b => bindM (if b then bindM (noX fi1) fun ds1 => fun Γ => innerL vs1 g1 ft1 fe acc ds1 (wipeE Γ vs1) else retM acc) fun acc' => fun Γ => outerL vs vs1 g ft fi1 g1 ft1 fe acc' ds (wipeE Γ vs)
def comp2M (vs vs1 : List Nat) (fi : M (List D)) (g : D → M Unit) (ft : M Bool) (fi1 : M (List D)) (g1 : D → M Unit) (ft1 : M Bool) (fe : M T) : M T := bindM fi fun ds => fun Γ => (outerL vs vs1 g ft fi1 g1 ft1 fe [] ds (wipeE Γ vs)).bind fun es => retM (.ol (es.map T.fz))
theorem wipe_wipe {σ : St} {vs vs1 : List Nat} (h : ∀ i ∈ vs1, i ∈ vs) : wipe (wipe σ vs1) vs = wipe σ vs := wipe_ext (by rw [wipe_length]) fun i hi => wipe_out fun z => hi (h i z)
section
variable {X : Cx} {C : Cc} {W : WX}
theorem lc2_rd {vs vs1 is is1 : List Nat} {fi fi1 : M (List D)} {g g1 : D → M Unit} {ft ft1 : M Bool} {fe : M T} (hv : ∀ i ∈ vs, C.cv i = true ∧ C.pin i = none) (hv1 : ∀ i ∈ vs1, i ∈ vs) (his : ∀ i ∈ is, i ∈ vs) (his1 : ∀ i ∈ is1, i ∈ vs1) (hq : Quiet g) (hq1 : Quiet g1) {σ : St} {H : Hp} {Q : VK}
    (h : rd C W (comp2M vs vs1 fi g ft fi1 g1 ft1 fe) σ H Q) : tLc2 (rdI C W fi) (rdG C is g) (rdT C W0 ft) (rdI C W0 fi1) (rdG C is1 g1) (rdT C W0 ft1) (rd C W0 fe) vs vs1 σ H Q := by
  obtain ⟨Γ, τ, R, w⟩ := h
  refine ⟨Γ, τ, R, Out.wp_mono (Out.wp_bind w) (fun ds Γ1 w1 J H1 υ R1 I D' hD => ?_) (fun _ _ z => z)⟩
  have w1' := Out.wp_bind w1
  refine ⟨fun i m H => m = ds.length - i ∧ i ≤ ds.length ∧ ∃ Γ acc, Rel C (wipe σ vs) H Γ (υ ++ ((.ref D', .ol (acc.map T.fz)) :: τ)) ∧ (∀ j ∈ vs, ∀ t, Γ[j]? ≠ some (some t)) ∧
    (outerL vs vs1 g ft fi1 g1 ft1 fe acc (ds.drop i) Γ).Wp (fun es Γ' => ∀ v H', Rel C σ H' Γ' ((v, .ol (es.map T.fz)) :: τ) → Q v H') (fun _ _ => True), ⟨ds.length, by simp, Nat.zero_le _, wipeE Γ1 vs, [], ?_, ?_, ?_⟩, ?_⟩
  · obtain ⟨F, ow, R1⟩ := Rel.wipe hv R1
    obtain ⟨ow3, R3⟩ := R1.drop.newListF (vs := []) (ds := []) hD (Nat.zero_le _) .nil
    exact ⟨F, ow3, R1.relay I.fz R3 (Sub.refl F)⟩
  · intro j hj t e
    exact (wipeE_some e).2 hj
  · rw [List.drop_zero]
    exact Out.wp_mono w1' (fun es Γ' z => z) (fun _ _ _ => trivial)
  · rintro i m H2 ⟨rfl, hle, Γ2, acc, R2, hno, w2⟩
    by_cases hlt : i < ds.length
    · refine .inr ⟨I.go i H2 _ Γ2 _ R2 hlt, fun H' => ∃ Γ acc, Rel C (wipe σ vs) H' Γ (υ ++ ((.ref D', .ol (acc.map T.fz)) :: τ)) ∧ (∀ j ∈ vs, ∀ t, Γ[j]? ≠ some (some t)) ∧
        (outerL vs vs1 g ft fi1 g1 ft1 fe acc (ds.drop (i + 1)) Γ).Wp (fun es Γ' => ∀ v H', Rel C σ H' Γ' ((v, .ol (es.map T.fz)) :: τ) → Q v H') (fun _ _ => True), fun H' ⟨Γ3, acc3, R3, n3, w3⟩ => ⟨ds.length - (i + 1), by omega, rfl, hlt, Γ3, acc3, R3, n3, w3⟩, fun x H' y => ?_⟩
      obtain ⟨d, e, R3⟩ := I.yld i H2 _ Γ2 _ x H' R2 hlt y
      have ed : ds.drop i = d :: ds.drop (i + 1) := by
        rw [List.drop_eq_getElem_cons hlt]
        rw [List.getElem?_eq_getElem hlt] at e
        rw [Option.some.inj e]
      rw [ed] at w2
      have w3 := wp_quiet (E' := fun _ _ => False) (Out.wp_bind w2) (hq d Γ2)
      have R3' := R3
      obtain ⟨F, ow, R3⟩ := R3
      refine ⟨Γ2, _, d, fun p hp j hj => R3.pop.noAlias (hv j (his j hj)).1 p hp, R3', Out.wp_mono w3 (fun _ Γ3 w4 σ2 H3 e1 e2 R4 => ?_) (fun _ _ z => z)⟩
      have ew : wipe σ2 vs = wipe σ vs := wipe_ext (by rw [e2, wipe_length]) fun j hj => by
        rw [e1 j (fun z => hj (his j z)), wipe_out hj]
      have w5 := Out.wp_bind w4
      refine ⟨ew, Γ3, _, R4, Out.wp_mono (wp_noX w5) (fun b Γ4 w6 H4 R5 => ?_) (fun _ _ z => z)⟩
      cases b with
      | false =>
        refine ⟨wipeE Γ4 vs, acc, ?_, fun j hj t q => (wipeE_some q).2 hj, w6⟩
        rw [← ew]
        exact R5.wipe hv
      | true =>
        have w7 := Out.wp_bind (Out.wp_bind w6)
        refine ⟨Γ4, _, R5, Out.wp_mono (wp_noX w7) (fun ds1 Γ5 w8 J1 H5 υ1 R6 I1 => ?_) (fun _ _ z => z)⟩
        refine ⟨fun j k H => k = ds1.length - j ∧ j ≤ ds1.length ∧ ∃ Γ acc, Rel C (wipe σ2 vs1) H Γ (υ1 ++ (υ ++ ((.ref D', .ol (acc.map T.fz)) :: τ))) ∧ (∀ q ∈ vs1, ∀ t, Γ[q]? ≠ some (some t)) ∧
          (innerL vs1 g1 ft1 fe acc (ds1.drop j) Γ).Wp (fun acc' Γ' => (outerL vs vs1 g ft fi1 g1 ft1 fe acc' (ds.drop (i + 1)) (wipeE Γ' vs)).Wp (fun es Γ' => ∀ v H', Rel C σ H' Γ' ((v, .ol (es.map T.fz)) :: τ) → Q v H') (fun _ _ => True)) (fun _ _ => True), ⟨ds1.length, by simp, Nat.zero_le _, wipeE Γ5 vs1, acc, R6.wipe (fun q hq' => hv q (hv1 q hq')), fun q hq' t z => (wipeE_some z).2 hq', ?_⟩, ?_⟩
        · rw [List.drop_zero]
          exact w8
        · rintro j k H7 ⟨rfl, hle1, Γ7, acc7, R7, hno7, w9⟩
          by_cases hlt1 : j < ds1.length
          · refine .inr ⟨I1.go j H7 _ Γ7 _ R7 hlt1, fun H' => ∃ Γ acc, Rel C (wipe σ2 vs1) H' Γ (υ1 ++ (υ ++ ((.ref D', .ol (acc.map T.fz)) :: τ))) ∧ (∀ q ∈ vs1, ∀ t, Γ[q]? ≠ some (some t)) ∧
              (innerL vs1 g1 ft1 fe acc (ds1.drop (j + 1)) Γ).Wp (fun acc' Γ' => (outerL vs vs1 g ft fi1 g1 ft1 fe acc' (ds.drop (i + 1)) (wipeE Γ' vs)).Wp (fun es Γ' => ∀ v H', Rel C σ H' Γ' ((v, .ol (es.map T.fz)) :: τ) → Q v H') (fun _ _ => True)) (fun _ _ => True),
              fun H' ⟨Γ8, acc8, R8, n8, w10⟩ => ⟨ds1.length - (j + 1), by omega, rfl, hlt1, Γ8, acc8, R8, n8, w10⟩, fun x1 H8 y1 => ?_⟩
            obtain ⟨d1, ed1, R8⟩ := I1.yld j H7 _ Γ7 _ x1 H8 R7 hlt1 y1
            have ee : ds1.drop j = d1 :: ds1.drop (j + 1) := by
              rw [List.drop_eq_getElem_cons hlt1]
              rw [List.getElem?_eq_getElem hlt1] at ed1
              rw [Option.some.inj ed1]
            rw [ee] at w9
            have w10 := wp_quiet (E' := fun _ _ => False) (Out.wp_bind (Out.wp_bind w9)) (hq1 d1 Γ7)
            have R8' := R8
            obtain ⟨F8, ow8, R8⟩ := R8
            refine ⟨Γ7, _, d1, fun p hp q hq' => R8.pop.noAlias (hv q (hv1 q (his1 q hq'))).1 p hp, R8', Out.wp_mono w10 (fun _ Γ9 w11 σ3 H9 f1 f2 R9 => ?_) (fun _ _ z => z)⟩
            have ew1 : wipe σ3 vs1 = wipe σ2 vs1 := wipe_ext (by rw [f2, wipe_length]) fun q hq' => by
              rw [f1 q (fun z => hq' (his1 q z)), wipe_out hq']
            have w12 := Out.wp_bind w11
            refine ⟨ew1, Γ9, _, R9, Out.wp_mono (wp_noX w12) (fun b1 Γ10 w13 H10 R10 => ?_) (fun _ _ z => z)⟩
            cases b1 with
            | true =>
              refine wp_fzD R10 (Out.wp_bind (Out.wp_bind w13)) fun e Γ11 y2 H11 R11 w14 => ?_
              have w15 : (bindM (growL acc7 (some e)) (fun acc' => innerL vs1 g1 ft1 fe acc' (ds1.drop (j + 1))) (wipeE Γ11 vs1)).Wp _ _ := w14
              obtain ⟨hz, w16⟩ := wp_guardM (Out.wp_bind (Out.wp_bind w15))
              have fzs : ∀ p ∈ υ1 ++ υ, ∃ d, p.2 = .fz d := fun p hp => by
                rcases List.mem_append.mp hp with z | z
                · exact I1.fz p z
                · exact I.fz p z
              rw [← List.append_assoc] at R11
              obtain ⟨vs', h1, h2, R12⟩ := R11.append fzs (of_decide_eq_true hz)
              rw [List.append_assoc] at R12
              refine ⟨vs', h1, h2, wipeE Γ11 vs1, acc7 ++ [e], ?_, fun q hq' t z => (wipeE_some z).2 hq', w16⟩
              rw [← ew1]
              exact R12.wipe (fun q hq' => hv q (hv1 q hq'))
            | false =>
              refine ⟨wipeE Γ10 vs1, acc7, ?_, fun q hq' t z => (wipeE_some z).2 hq', w13⟩
              rw [← ew1]
              exact R10.wipe (fun q hq' => hv q (hv1 q hq'))
          · have ej : j = ds1.length := by omega
            subst ej
            rw [List.drop_length] at w9
            refine .inl ⟨I1.stop H7 _ Γ7 _ R7, wipeE Γ7 vs, acc7, ?_, fun q hq' t z => (wipeE_some z).2 hq', w9⟩
            have R8 := (R7.drop).wipe hv
            rw [wipe_wipe hv1, ew] at R8
            exact R8
    · have e : i = ds.length := by omega
      subst e
      rw [List.drop_length] at w2
      exact .inl ⟨I.stop H2 _ Γ2 _ R2, w2 _ _ (Rel.unwipe hv (fun j hj => (wipe_out hj).symm) (wipe_length σ vs).symm hno R2.drop)⟩
theorem de_comp2 {elt tg iter tg1 iter1 : Expr} {ifs ifs1 : List Expr} {scope : Scope} {own : List (Str × Nat)} {vs1 : List Nat} {pos : Pos} {is is1 : List Nat} {fi fi1 : M (List D)} {g g1 : D → M Unit} {ft ft1 : M Bool} {fe : M T} (hc : X.calm = true) (hN : X.N.Nodup) (hv : ∀ i ∈ own.map (·.2), C.cv i = true ∧ C.pin i = none) (hv1 : ∀ i ∈ vs1, i ∈ own.map (·.2)) (his : ∀ i ∈ is, i ∈ own.map (·.2)) (his1 : ∀ i ∈ is1, i ∈ vs1) (hq : Quiet g) (hq1 : Quiet g1)
    (hi : PI X tg iter (rdI C W fi)) (ok : BlkOk X.N X.env.scope scope own)
    (hg : ∀ (s : Shared) (H : Hp) (c : Addr) (cl : List (Str × Addr)) (fp : List Addr), PG (X.blk s H scope (compEnvC scope cl c X.env) fp) tg (rdG C is g)) (ht : ∀ (s : Shared) (H : Hp) (c : Addr) (cl : List (Str × Addr)) (fp : List Addr), PTs (X.blk s H scope (compEnvC scope cl c X.env) fp) ifs (rdT C W0 ft))
    (hi1 : ∀ (s : Shared) (H : Hp) (c : Addr) (cl : List (Str × Addr)) (fp : List Addr), PI (X.blk s H scope (compEnvC scope cl c X.env) fp) tg1 iter1 (rdI C W0 fi1))
    (hg1 : ∀ (s : Shared) (H : Hp) (c : Addr) (cl : List (Str × Addr)) (fp : List Addr), PG (X.blk s H scope (compEnvC scope cl c X.env) fp) tg1 (rdG C is1 g1)) (ht1 : ∀ (s : Shared) (H : Hp) (c : Addr) (cl : List (Str × Addr)) (fp : List Addr), PTs (X.blk s H scope (compEnvC scope cl c X.env) fp) ifs1 (rdT C W0 ft1))
    (he : ∀ (s : Shared) (H : Hp) (c : Addr) (cl : List (Str × Addr)) (fp : List Addr), PE (X.blk s H scope (compEnvC scope cl c X.env) fp) elt (rd C W0 fe)) (hs : ∀ x, foldedSetIterable iter X.env x = pure x := by intro _; rfl) (hs1 : ∀ env x, foldedSetIterable iter1 env x = pure x := by intro _ _; rfl) :
    PE X (.ListComp elt [⟨tg, iter, ifs, 0⟩, ⟨tg1, iter1, ifs1, 0⟩] scope pos) (rd C W (comp2M (own.map (·.2)) vs1 fi g ft fi1 g1 ft1 fe)) := pe_sub (pe_lc2 hc hN hi ok hv1 hg ht hi1 hg1 ht1 he hs hs1) fun σ H Q q => lc2_rd hv hv1 his his1 hq hq1 q
theorem ds_setComp2 {i : Nat} {y : Str} {py : Pos} {elt tg iter tg1 iter1 : Expr} {ifs ifs1 : List Expr} {scope : Scope} {own : List (Str × Nat)} {vs1 : List Nat} {pos spos : Pos} {is is1 : List Nat} {fi fi1 : M (List D)} {g g1 : D → M Unit} {ft ft1 : M Bool} {fe : M T} (hp : C.pin i = none) (hc : X.calm = true) (hN : X.N.Nodup) (hy : X.N[i]? = some y) (hyl : X.env.scope.names.lookup y = some .local)
    (hsw : swapsWith (.ListComp elt [⟨tg, iter, ifs, 0⟩, ⟨tg1, iter1, ifs1, 0⟩] scope pos) (some (.Name y py)) spos.line X.env = pure true) (hv : ∀ i ∈ own.map (·.2), C.cv i = true ∧ C.pin i = none) (hv1 : ∀ i ∈ vs1, i ∈ own.map (·.2)) (his : ∀ i ∈ is, i ∈ own.map (·.2)) (his1 : ∀ i ∈ is1, i ∈ vs1) (hq : Quiet g) (hq1 : Quiet g1)
    (hi : PI X tg iter (rdI C W fi)) (ok : BlkOk X.N X.env.scope scope own)
    (hg : ∀ (s : Shared) (H : Hp) (c : Addr) (cl : List (Str × Addr)) (fp : List Addr), PG (X.blk s H scope (compEnvC scope cl c X.env) fp) tg (rdG C is g)) (ht : ∀ (s : Shared) (H : Hp) (c : Addr) (cl : List (Str × Addr)) (fp : List Addr), PTs (X.blk s H scope (compEnvC scope cl c X.env) fp) ifs (rdT C W0 ft))
    (hi1 : ∀ (s : Shared) (H : Hp) (c : Addr) (cl : List (Str × Addr)) (fp : List Addr), PI (X.blk s H scope (compEnvC scope cl c X.env) fp) tg1 iter1 (rdI C W0 fi1))
    (hg1 : ∀ (s : Shared) (H : Hp) (c : Addr) (cl : List (Str × Addr)) (fp : List Addr), PG (X.blk s H scope (compEnvC scope cl c X.env) fp) tg1 (rdG C is1 g1)) (ht1 : ∀ (s : Shared) (H : Hp) (c : Addr) (cl : List (Str × Addr)) (fp : List Addr), PTs (X.blk s H scope (compEnvC scope cl c X.env) fp) ifs1 (rdT C W0 ft1))
    (he : ∀ (s : Shared) (H : Hp) (c : Addr) (cl : List (Str × Addr)) (fp : List Addr), PE (X.blk s H scope (compEnvC scope cl c X.env) fp) elt (rd C W0 fe)) (hs : ∀ x, foldedSetIterable iter X.env x = pure x := by intro _; rfl) (hs1 : ∀ env x, foldedSetIterable iter1 env x = pure x := by intro _ _; rfl) :
    PS X (.Assign [.Name y py] (.ListComp elt [⟨tg, iter, ifs, 0⟩, ⟨tg1, iter1, ifs1, 0⟩] scope pos) spos) (rdS C W (setM i (comp2M (own.map (·.2)) vs1 fi g ft fi1 g1 ft1 fe))) := ps_sub (ps_setLc2 hc hN hy hyl hsw hi ok hv1 hg ht hi1 hg1 ht1 he hs hs1) fun D σ H ⟨Γ, τ, n, R, w⟩ => by
  refine lc2_rd hv hv1 his his1 hq hq1 (Q := fun x H1 => gName i x σ H1 D.nx) ?_
  refine rdS_bind R w fun t Γ1 v H1 R1 w1 => ?_
  obtain ⟨t', Γ2, na, R2, w2⟩ := R1.settle (Out.wp_bind w1)
  exact w2 _ _ (R2.store na hp (fun p hp' => n p hp' i))
end
end DL
set_option maxHeartbeats 1000000
/-! defs whose code is known; the ends -/
namespace DL
open PySem L2 LamX
section
variable {P : Program} {w : World} {K : PySem.W.Frag} {mg : Str → Option Value} {base : Heap} {cl : Cl}
theorem fun_okC {x qual : Str} {st : Stmt} {f : Addr} {fd : FuncData} {N ps : List Str} {k n m : Nat} {ref : Bool} {den : M Flow} {cv : Nat → Bool} (F : Fun K x qual st f fd) (S : FnScope N ps (defScope st)) (hn : ps.length = n) (hN : N.length = m)
    (hb : ∀ (cdv : Value), fd.code = cdv → ∀ (A : Around) (outer : List PySem.Env) (s : Shared) (H : Hp) (vs : List V) (E : XK), Room k (A.deeper (PyProof.Rows.envOfC qual (defScope st) s.heap.objs.size f cdv)) → ∀ H0 F0 mu, PSs (cxOf (L2.CX P w) P w K mg base N qual (defScope st) f cdv A outer s H E) (defBody st) (rdS ⟨K, cl, H0, F0, mu, refPin ref vs, cv⟩ (WE' E) den)) :
    FnOk P w K mg base (L2.CX P w) (k + 1) f fd ps (spOf K cl n ref (callF m den)) := by
  have hle : n ≤ m := by
    rw [← hn, ← hN]
    have z := S.pre
    have z2 : (N.take ps.length).length = ps.length := by rw [z]
    rw [List.length_take] at z2
    omega
  obtain ⟨oc, od, kV, doc, pm, an, cdv, ct, osl, rfl, lk, hcd⟩ := F.ex
  refine fn_of lk hcd S (fun vs H Q E h => by rw [h.1, hn]) fun A outer s H vs Q E hr hsp => ?_
  exact body_ok hN hle (fun H0 F0 mu => hb cdv rfl A outer s H vs E hr H0 F0 mu) hsp
end
section
variable {X : Cx} {C : Cc} {W : WX}
theorem de_askF {xs : List Str} {hsV : List Hdl} {hs : List HdlD} {x a : Str} {g c P : Addr} {k : Nat} {st : Stmt} {fd : FuncData} {Ng : List Str} {params : Arguments} {body : Expr} {scope : Scope} {ws : List Nat} {is : List Int} {fE : M T} {p lpos pos : Pos} (hK : C.K = X.K) (hcatch : Catch C.K C.cl xs hsV hs) (hws : ∀ i ∈ ws, C.cv i = true ∧ C.pin i = none)
    (hg : Gl X x) (hm : X.mg x = some (.ref g)) (F : Fun X.K x x st g fd) (hb : L2.Binds X.K fd [a] []) (Sg : FnScope Ng [a] (defScope st)) (hNg : Ng[0]? = some a) (hva : Vis (defScope st) a)
    (hG : ∀ cdv, Makes X Ng x (defScope st) g cdv (defBody st) a (X.env.qual ++ "<lambda>") (TTr X.K hsV)) (TB : TabB X.base X.mg c P) (hcode : X.env.code = .ref c) (hmT : (P, X.env.qual ++ "<lambda>") ∈ C.cl.T) (hu : ∀ p ∈ C.cl.T, p.1 = P → p.2 = X.env.qual ++ "<lambda>") (hr : Room (k + 2) X.A) (L : LamN X.N X.env.scope scope ws)
    (hd : (is = [] ∧ defaultsOf params X.env = ([], [])) ∨ ∃ i j p, is = [i] ∧ params.defaults = [.Constant (.int i) j p] ∧ params.kw_defaults = []) (hbind : ∀ dvs, dflts is dvs → ∃ binds, LamBind params dvs binds ∧ ∀ y ∈ binds, scope.names.lookup y.1 = some .local)
    (hbody : ∀ (A : Around) (outer : List PySem.Env) (s : Shared) (H : Hp) (E : XK) (f c' : Addr), Room k (A.deeper (lamE (X.env.qual ++ "<lambda>") scope (cloFrom X.env.cells scope.names []) s.heap.objs.size f c')) → PE (lamX X (X.env.qual ++ "<lambda>") scope (cloFrom X.env.cells scope.names []) A outer s H E f c') body (rd C (WE' E) fE))
    (hdb : (x == ("__debug__" : Str)) = false := by decide) (hda : (a == ("__debug__" : Str)) = false := by decide) (hca : (a == ("__classdict__" : Str)) = false := by decide) :
    PE X (.Call (.Name x p) [.Lambda params body scope lpos] [] pos) (rd C W (askM xs hs ws fE)) := by
  obtain ⟨oc, od, kV, doc, pm, an, cdv, ct, osl, rfl, lk, hcd⟩ := F.ex
  exact de_ask hK hcatch hws hg hm F.kp lk hcd hb Sg hNg hva (hG cdv) TB hcode hmT hu hr L hd hbind hbody hdb hda hca
/-- a lambda without parameters -/
theorem bind_lam0 {params : Arguments} {scope : Scope} (h : ∀ (q : Str) (body : Expr) (scope : Scope) (cs : List (Str × Addr)) (doc pm cv ctv : Value), bindArgs (PySem.W.kdv_fn "<lambda>" q params (.expr body) scope cs .none doc pm cv ctv) ⟨[], []⟩ = pure []) : ∀ dvs, dflts [] dvs → ∃ binds, LamBind params dvs binds ∧ ∀ y ∈ binds, scope.names.lookup y.1 = some .local := fun dvs e => by
  have e' : dvs = [] := e
  subst e'
  exact ⟨[], ⟨fun _ => h, fun n => absurd rfl n⟩, fun y hy => nomatch hy⟩
/-- one with a default -/
theorem bind_lam1 {params : Arguments} {scope : Scope} {i : Int} {n : Str} (hn : scope.names.lookup n = some .local) (h : ∀ (t : Tok) (q : Str) (body : Expr) (scope : Scope) (cs : List (Str × Addr)) (td : Addr) (doc pm cv ctv : Value), ∃ k, bindArgs (PySem.W.kdv_fn "<lambda>" q params (.expr body) scope cs (.ref td) doc pm cv ctv) ⟨[], []⟩ = seqItems? (.ref td) >>= k ∧ k (some #[.int i t]) = pure [(n, .int i t)]) : ∀ dvs, dflts [i] dvs → ∃ binds, LamBind params dvs binds ∧ ∀ y ∈ binds, scope.names.lookup y.1 = some .local := fun dvs e => by
  obtain ⟨t, rfl⟩ := e
  refine ⟨[(n, .int i t)], ⟨fun z => (nomatch z), fun _ => h t⟩, fun y hy => ?_⟩
  cases hy with
  | head => exact hn
  | tail _ z => cases z
end
/-! ### the end of a row whose defs make lambdas -/
/-- the tables of the text's defs are empty as yet -/
def TabsNew (q : Program) (K : PySem.W.Frag) (h : Heap) : Prop := ∀ (x : Str) (d : PySem.DefRec) (c P : Addr), (PyProof.Rows.recsOf q).find? (fun e => e.name == x) = some d → PySem.W.tabIn K x = some (c, P) → PySem.W.CodeHd h c P ∧ h.get? P = some { cls := .none, data := .fields #[] }
theorem walkL {l : PySem.W.OpenLaw} {n k : Nat} {q : Program} {loose : List Str} {XP : (Str → Option Value) → Heap → Prop} {YP : World → Heap → Prop} {d : PySem.DefRec} {K : Params → PySem.W.Frag} {CX : World → CXT} {x : Str} (hn : l.most = some n) (hn2 : n ≤ sizeLine) (hdf : d.params.defaults = []) (hr : Room k callerA) (hY : ∀ (w : World) (h : Heap), YP w h → (K w.params).In h)
    (F : ∀ (w : World) (mg : Str → Option Value) (fa : Addr) (h : Heap), YP w h → (K w.params).In h → h.Ns mainGlobals mg → mg d.name = some (.ref fa) → TabsNew q (K w.params) h → LawAtS l w (K w.params) (CX w) k n x mg fa h) (hCX : ∀ (w : World) (H : Hp) (s : Shared) (e : Value) (s' : Shared), CX w [] H s (fun _ _ _ => False) e s' → False) :
    PySem.W.WalkO q loose XP YP l.row.toRowW d [] (fun f vs => PySem.call f vs) := by
  refine Att.attach_callB hn hdf fun w s₀ s₁ mg mb fa o pm cd doc a vs ns G Y ho hd hcd hmg hobj hints hlen hbits hg => ?_
  have KX := hY w _ Y
  obtain ⟨fd, cs, sp, hT, nT, C, hb, hsp, hF⟩ := F w mg fa _ Y KX G.T.g hmg (fun x d' c P e1 e2 => PySem.W.tab_of G.T KX e1 e2)
  exact law_callTs KX G.T.g G.T.b G.T.builtins G.T.nolimit hg hT nT C G.T.bmain hobj hints (Nat.le_trans hlen hn2) hr hF hb (fun H hH hS => hsp H a ns hlen hbits hH hS) fun H e s' => hCX w H s₁ e s'
/-- a def's code, known by its table -/
theorem code_of {K : PySem.W.Frag} {x : Str} {c P f : Addr} {fd : FuncData} {st : Stmt} (ht : PySem.W.tabIn K x = some (c, P)) (hn : PySem.W.nsIn K mainGlobals x = some (some (.ref f))) (F : Fun K x x st f fd) : fd.code = .ref c := by
  obtain ⟨oc, od, kV, doc, pm, an, cdv, ct, osl, rfl, lk, hcd⟩ := F.ex
  unfold PySem.W.tabIn at ht
  rw [hn] at ht
  simp only [lk] at ht
  cases cdv with
  | ref c' =>
    simp only at ht
    split at ht
    · split at ht
      · cases ht; rfl
      · cases ht
    · cases ht
  | _ => cases ht
/-- a def's table, from its parts -/
theorem tab_mk {K : PySem.W.Frag} {x : Str} {c P f : Addr} {fd : FuncData} {oc lg : Value} {od lo : Option Addr} {sl ls : Array (Option Value)} {vs : Array Value} (hn : PySem.W.nsIn K mainGlobals x = some (some (.ref f))) (lf : K.lookup f = some ⟨oc, od, .func fd, sl⟩) (hc : fd.code = .ref c) (lc : K.lookup c = some ⟨lg, lo, .fields vs, ls⟩) (hv : vs[11]? = some (.ref P)) : PySem.W.tabIn K x = some (c, P) := by
  unfold PySem.W.tabIn
  rw [hn]
  simp only [lf, hc, lc, hv]
end DL
/-! a local's own list handed on by return -/
namespace DL
open PySem L2
section
variable {C : Cc} {σ : St} {H : Hp} {Γ : Env} {τ : Hand} {v : V} {t : T}
theorem Rel.move {i : Nat} (R : Rel C σ H Γ ((v, .al i) :: τ)) (hi : Γ[i]? = some (some t)) (ht : ∀ j, t ≠ .al j) (na : NoAl τ) : Rel C σ H (Γ.set i none) ((v, t) :: τ) := by
  obtain ⟨F, ow, R⟩ := R
  obtain ⟨w, hw, ow1⟩ := R.slots i t hi
  have hv : σ[i]? = some (some v) := R.temps.1.1
  rw [hv] at hw
  cases hw
  refine ⟨F, _, R.reown (fun r => if r = .inl i then some (.inr τ.length) else if r = .inr τ.length then none else some r) (by simpa using R.len) R.pins (fun j t' e => ?_) ⟨?_, ?_⟩⟩
  · have hj : i ≠ j := fun z => by
      subst z
      rw [List.getElem?_set] at e
      split at e
      · split at e <;> cases e
      · rename_i h
        exact absurd rfl h
    rw [List.getElem?_set_ne hj] at e
    obtain ⟨w, h1, h2⟩ := R.slots j t' e
    refine ⟨w, h1, h2.keep (Sub.refl F) (fun _ _ _ q => q) (fun a q => ⟨_, q, ?_⟩)⟩
    rw [if_neg (fun z => by cases z; exact hj rfl), if_neg (fun z => by cases z)]
  · have k : OwT C.K C.cl F H (fun a => (ow a).bind (fun r => if r = .inl i then some (.inr τ.length) else if r = .inr τ.length then none else some r) = some (.inr τ.length)) v t := ow1.keep (Sub.refl F) (fun _ _ _ q => q) (fun a q => by
      show (ow a).bind _ = _
      rw [show ow a = some (.inl i) from q]
      show (if (Sum.inl i : Root) = .inl i then some (Sum.inr τ.length) else _) = _
      rw [if_pos rfl])
    cases t with
    | al j => exact absurd rfl (ht j)
    | fz d => exact k
    | ol ts => exact k
    | oi c ts => exact k
  · have go : ∀ (υ : Hand), NoAl υ → υ.length ≤ τ.length → TempsOk C σ F H ow υ → TempsOk C σ F H (fun a => (ow a).bind fun r => if r = .inl i then some (.inr τ.length) else if r = .inr τ.length then none else some r) υ := by
      intro υ
      induction υ with
      | nil => intro _ _ _; trivial
      | cons p υ ih =>
        intro ha hle h
        obtain ⟨w, t'⟩ := p
        refine ⟨h.1.keep (Sub.refl F) (fun _ _ _ q => q) (fun a q => ?_) (fun j ej q => q), ih (fun p hp => ha p (List.mem_cons_of_mem _ hp)) (Nat.le_of_succ_le hle) h.2⟩
        show (ow a).bind _ = _
        rw [show ow a = some (.inr υ.length) from q]
        show (if (Sum.inr υ.length : Root) = .inl i then some (Sum.inr τ.length) else if (Sum.inr υ.length : Root) = .inr τ.length then none else some (Sum.inr υ.length)) = _
        rw [if_neg (fun z => by cases z), if_neg (fun z => by
          have z' : υ.length = τ.length := Sum.inr.inj z
          simp at hle
          omega)]
    exact go τ na (Nat.le_refl _) R.temps.2
end
/-- return of a local: what it owns goes along -/
def retX (i : Nat) : M Flow := fun Γ => match Γ[i]? with
  | some (some (.fz d)) => .ok (.ret (.fz d)) Γ
  | some (some (.ol ts)) => .ok (.ret (.ol ts)) (Γ.set i none)
  | _ => .bad
section
variable {X : Cx} {C : Cc} {W : WX}
theorem ds_retX {i : Nat} {e : Expr} {pos : Pos} (he : PE X e (rd C W (varM i))) : PS X (.Return (some e) pos) (rdS C W (retX i)) := ps_sub (ps_ret he) fun D σ H ⟨Γ, τ, n, R, w⟩ => by
  refine ⟨Γ, τ, R, ?_⟩
  unfold retX at w
  unfold varM
  split at w
  · rename_i d hd
    rw [hd]
    exact fun v H' R' => w.2 v σ H' R'
  · rename_i ts hd
    rw [hd]
    exact fun v H' R' => w.2 v σ H' (R'.move hd (fun j z => by cases z) n)
  · exact w.elim
end
end DL
/-! xs.index(x) -/
namespace DL
open PySem L2
def rIdx (K : PySem.W.Frag) : V → List V → Hp → VK → Prop := fun x xs H Q => ∃ y d ds j, xs = [y] ∧ Dp K H x (.list ds) ∧ Dp K H y d ∧ d.canLay0 = true ∧ d.depth ≤ 32 ∧ PyData.canLayAll0 ds = true ∧ ds.length ≤ sizeLine ∧ (ds.findIdx? fun z => PyData.eqv z d) = some j ∧ Q (.int (j : Int)) H
theorem readsAll_get {h : Heap} : ∀ {vs : List Value} {xs : List PyData} {as : List Addr}, PyData.canLayAll0 xs = true → ReadsAll h vs xs as → ∀ (i : Nat) (hi : i < vs.length), ∃ hj : i < xs.length, SeqAt.readOf h vs[i] = xs[i] := by
  intro vs xs as hc r i hi
  have e := SeqAt.readsAll_map xs vs as hc r
  have hl : xs.length = vs.length := by rw [← e, List.length_map]
  refine ⟨by omega, ?_⟩
  subst e
  rw [List.getElem_map]
theorem mt_idx {X : Cx} (hu : X.A.units + 64 < cLine) : MtR X "list.index" (rIdx X.K) := by
  intro pins s σ H x xs v us Q I rx rxs h
  obtain ⟨y, d, ds, j, rfl, hx, hy, c1, c2, c3, hz, hj, q⟩ := h
  obtain ⟨u, rfl, ru⟩ := rxs.one
  obtain ⟨as, r1⟩ := Dp.reads I (.list ds) x v hx rx
  obtain ⟨bs, r2⟩ := Dp.reads I d y u hy ru
  have hu2 : X.A.units + 1 + min (PyData.depthAll ds) d.depth < cLine := Nat.lt_of_le_of_lt (by have : min (PyData.depthAll ds) d.depth ≤ d.depth := Nat.min_le_right _ _; omega) hu
  cases r1 with
  | @list a o vs n xs as h1 h2 h3 h4 =>
    obtain ⟨cls, dd, data, sl⟩ := o
    simp only at h2 h3
    subst h2 h3
    have hl : ds.length = vs.size := by
      have e := SeqAt.readsAll_map ds vs.toList _ c3 h4
      rw [← e, List.length_map, Array.length_toList]
    obtain ⟨hjl, hhit, hno⟩ := List.findIdx?_eq_some_iff_getElem.mp hj
    rw [sizeLine_eq] at hz
    refine call_meets PySem.F.slot_list_index ⟨_, h1, rfl⟩ PySem.F.entry_list_index (PySem.F.args_list_index_2 _ _)
      (SeqAt.list_indexAt a vs n dd sl u (fun z => PyData.eqv (SeqAt.readOf s.heap z) d) j (by omega) (by omega) ?_ ?_) ⟨h1, SeqAt.items_eqAt h4 r2 c3 c1 hu2, ?_⟩
    · obtain ⟨hj2, e⟩ := readsAll_get c3 h4 j (by rw [Array.length_toList]; omega)
      rw [Array.getElem_toList] at e
      show PyData.eqv (SeqAt.readOf s.heap vs[j]) d = true
      rw [e]
      exact hhit
    · intro m hm hlt
      obtain ⟨hj2, e⟩ := readsAll_get c3 h4 m (by rw [Array.length_toList]; omega)
      rw [Array.getElem_toList] at e
      show PyData.eqv (SeqAt.readOf s.heap vs[m]) d = false
      rw [e]
      have := hno m (by omega)
      simpa using this
    · exact ⟨.int (j : Int), H, I.tok _, ⟨_, rfl⟩, q⟩
/-- where the first one like x stands -/
def idxD : D → D → Option D
  | .lst ds, x => if x.fit 32 && (D.lst ds).fit 64 then (ds.findIdx? fun y => y.eqb x).map fun (j : Nat) => D.int (j : Int) else none
  | _, _ => none
def isL : D → Bool
  | .lst _ => true
  | _ => false
def indexM (fo fe : M T) : M T := bindM fo fun t1 => bindM (lookM t1) fun d0 => bindM (guardM (isL d0)) fun _ => bindM fe fun t2 => bindM (lookM t1) fun d1 => bindM (lookM t2) fun d2 => bindM (optM (idxD d1 d2)) fun d => retM (.fz d)
theorem find_py {x : D} {m : Nat} (hx : x.fit m = true) : ∀ {n : Nat} {ds : List D}, D.fits n ds = true → ((D.pys ds).findIdx? fun z => PyData.eqv z x.py) = ds.findIdx? fun y => y.eqb x
  | _, [], _ => rfl
  | n, d :: ds, h => by
    unfold D.fits at h
    rw [Bool.and_eq_true] at h
    show ((d.py :: D.pys ds).findIdx? fun z => PyData.eqv z x.py) = _
    rw [List.findIdx?_cons, List.findIdx?_cons, find_py hx h.2, D.eqb_py n m d x h.1 hx]
theorem pys_len : ∀ {ds : List D}, (D.pys ds).length = ds.length
  | [] => rfl
  | _ :: ds => congrArg (· + 1) (pys_len (ds := ds))
section
variable {X : Cx} {C : Cc} {W : WX}
theorem de_index {o e : Expr} {fo fe : M T} {apos pos : Pos} (hu : X.A.units + 64 < cLine) (hK : C.K = X.K) (ho : PE X o (rd C W fo)) (he : PE X e (rd C W fe)) (hs : starEach [e] X.env = (false, eval e X.env) :: starEach [] X.env := by rfl) (hbase : attributeBase o "index" X.env (eval o X.env) = eval o X.env := by rfl)
    (hfew : ((backTo pos (starEach [e] X.env)).all (fun x => !x.1) && (backToKw pos (keywordEach [] X.env)).all (fun x => x.1.isSome) && decide ([e].length + ([] : List Keyword).length + (if ([] : List Keyword).isEmpty then 0 else 1) < 30)) = true := by rfl)
    (hline : (apos.endLine == pos.line) = true := by rfl) : PE X (.Call (.Attribute o "index" apos) [e] [] pos) (rd C W (indexM fo fe)) := pe_sub (pe_bm PySem.F.plainAttrs_list PySem.F.slot_list_index PySem.F.type_list_index (mt_idx hu) ho (pa_cons he pa_nil hs) hbase hfew hline hs rfl) fun σ H Q ⟨Γ, τ, R, w⟩ => by
  refine rd_bind R w fun t0 Γ1 v0 H1 R1 w1 => ?_
  obtain ⟨d0, e0, w2⟩ := wp_lookM (Out.wp_bind w1)
  have w2 := Out.wp_bind w2
  cases hg : isL d0 with
  | false => rw [hg] at w2; exact w2.elim
  | true =>
    rw [hg] at w2
    have k0 : Dt C.K C.cl H1 v0 d0 := by
      obtain ⟨F, ow, R1⟩ := R1
      exact R1.look R1.temps.1 e0
    refine ⟨?_, ?_⟩
    · cases k0 with
      | lst a1 a2 a3 => exact tyV_list a1
      | _ => cases hg
    refine rd_bind R1 (wp_under w2) fun t Γ2 y H2 R2 w3 => ?_
    obtain ⟨d1, e1, w4⟩ := wp_lookM (Out.wp_bind w3)
    obtain ⟨d2, e2, w5⟩ := wp_lookM (Out.wp_bind w4)
    obtain ⟨F, ow, R2⟩ := R2
    have k2 := R2.look R2.temps.1 e2
    have k1 := R2.look R2.temps.2.1 e1
    have w6 := Out.wp_bind w5
    cases hd : idxD d1 d2 with
    | none => rw [hd] at w6; exact w6.elim
    | some d =>
      rw [hd] at w6
      unfold idxD at hd
      split at hd
      · rename_i ds
        split at hd
        · rename_i hh
          rw [Bool.and_eq_true] at hh
          cases hj : ds.findIdx? fun y => y.eqb d2 with
          | none => rw [hj] at hd; cases hd
          | some j =>
            rw [hj] at hd
            cases hd
            have hfs : D.fits 63 ds = true := hh.2
            rw [← hK]
            refine ⟨y, _, D.pys ds, j, rfl, k1.dp (n := 64) hh.2, k2.dp hh.1, (D.fit_lay 32 _ hh.1).1, (D.fit_lay 32 _ hh.1).2, (D.fits_lay 63 ds hfs).1, ?_, (find_py hh.1 hfs).trans hj, w6 _ _ ⟨F, ow, R2.pop.pop.push (.int _)⟩⟩
            rw [pys_len]
            cases k1 with
            | lst a1 a2 a3 => rw [← a3.length]; exact a2
        · cases hd
      · cases hd
end
end DL
set_option maxHeartbeats 1000000
/-! a list comprehension whose element knows the state at the block's start -/
namespace DL
open PySem PySem.Spec PyProof.Rows L2
section
variable {X : Cx}
/-- the element's promise, given what holds where the block starts -/
abbrev AtStart (X : Cx) (pins : List (Addr × Obj)) (σ : L2.St) (scope : Scope) (elt : Expr) (te : TE) : Prop :=
  ∀ (sB : Shared) (HB : Hp) (c : Addr) (cs : List (Str × Addr)) (fp : List Addr), Inv X pins σ HB sB → (∀ b ∈ fp, FpOk X pins HB b) → PE (X.blk sB HB scope (compEnvC scope cs c X.env) fp) elt te
theorem lc_start {elt tg iter : Expr} {scope : Scope} {own : List (Str × Nat)} {pos : Pos} {wi : TI} {g : TG} {tt : TT} {te : L2.St → TE} (calm : X.calm = true) (nd : X.N.Nodup) (pi : PI X tg iter wi) (blk : BlkOk X.N X.env.scope scope own)
    (pg : ∀ (s : Shared) (H : Hp) (C : Addr) (cl : List (Str × Addr)) (fp : List Addr), PG (X.blk s H scope (compEnvC scope cl C X.env) fp) tg g)
    (pt : ∀ (s : Shared) (H : Hp) (C : Addr) (cl : List (Str × Addr)) (fp : List Addr), PTs (X.blk s H scope (compEnvC scope cl C X.env) fp) [] tt)
    (pe : ∀ pins σ, AtStart X pins σ scope elt (te σ)) (fold : ∀ x, foldedSetIterable iter X.env x = pure x := by intro _; rfl) : PE X (.ListComp elt [⟨tg, iter, [], 0⟩] scope pos) (fun σ H Q => tLc wi g tt (te σ) (own.map (·.2)) σ H Q) := by
  refine ⟨fun pins s σ H Q I0 goal => ?_⟩
  rw [eval_ListComp]
  have cap : ∀ y ∈ scope.names, y.2 = .free → ∃ c, X.env.cells.lookup y.1 = some c := fun y hy e => (blk.free y hy e).elim (fun k => I0.ok.has _ (.inl k)) (fun k => I0.ok.has _ (.inr k))
  refine wpAny_comprehension_free rfl fold (closure_ok cap) blk.kind (fun y hy e => (blk.uniq y hy).trans (congrArg some e))
    (thn (pi.run pins s σ H _ I0 goal) fun _ _ itr => thn itr fun _ sI ⟨it, fp, tn, J, HI, ei, II, TI, tI, fI, qI⟩ => ?_)
  subst ei
  refine wpAny_newObj_type (newEnv_comp ?_) (by show 0 ≤ sizeLine; decide)
  have nL : HI sI.heap.objs.size = none := II.hok.fresh (Nat.le_refl _)
  obtain ⟨W, ⟨m0, w0⟩, turn⟩ := qI _ nL
  let sB : Shared := { sI with heap := sI.heap.push { cls := .type "list", data := .seq ([] : List Value).toArray } }
  let HB : Hp := upd HI sI.heap.objs.size (.lst [])
  have IB : Inv X pins σ HB sB := II.laid (t' := sI.toks) (fun b o e => Heap.get?_push_of_some _ e) (Nat.le_refl _) ⟨Nat.zero_le _, [], 0, .nil, Heap.get?_push_size _ rfl⟩
  have lt : ∀ b ∈ fp, b < sI.heap.objs.size := fun b hb => let ⟨_, e, _⟩ := TI.obj _ _ tI b hb; Heap.lt_size e
  have fB : ∀ b ∈ fp, FpOk X pins HB b := fun b hb => ⟨by show upd HI _ _ b = none; rw [upd_ne (Nat.ne_of_lt (lt b hb))]; exact (fI b hb).1, (fI b hb).2⟩
  have fB2 : ∀ b ∈ fp, FpOk X pins HB b ∧ b < sB.heap.objs.size := fun b hb => ⟨fB b hb, by show b < (sI.heap.push _).objs.size; rw [Heap.size_push]; exact Nat.lt_succ_of_lt (lt b hb)⟩
  have IK := block_start IB blk nd fB2
  have tB : tn 0 sB.heap := TI.keep _ _ _ tI fun b _ o e => Heap.get?_push_of_some _ e
  let cs := cellsFrom (sB.heap.objs.size + 1) scope.names (cloFrom X.env.cells scope.names [])
  let ce := compEnvC scope cs sB.heap.objs.size X.env
  let Y := X.blk sB HB scope ce fp
  have eY : PE Y elt (te σ) := pe pins σ sB HB _ _ fp IB fB
  have gY : PG Y tg g := pg _ _ _ _ _
  have oY : PTs Y [] tt := pt _ _ _ _ _
  let sK : Shared := { sB with heap := pushCells (sB.heap.push { cls := .type "dict", data := .dict #[] }) scope.names }
  have IK : Inv Y [] (wipe σ (own.map (·.2))) HB sK := IK
  have tK : tn 0 sK.heap := TI.keep _ _ _ tB fun b _ o e => pushCells_keeps _ _ _ _ (Heap.get?_push_of_some _ e)
  have still : ∀ {σ' : L2.St} {H' : Hp} {s' : Shared}, Inv Y [] σ' H' s' → (∀ b ∈ fp, H' b = none) → ∀ b ∈ fp, FpOk Y [] H' b := fun {σ' H' s'} I' n b hb =>
    ⟨n b hb, (I'.ok.exf b hb).1, I'.ok.exfs b hb, .inl hb, fun x c e => (I'.ok.exf b hb).2 x c e, fun p hp => (nomatch (show p ∈ ([] : List (Addr × Obj)) from hp))⟩
  have run : codeAny (model X.prog X.w) X.A (.compLoop (.ListComp elt [⟨tg, iter, [], 0⟩] scope pos) 0 (.ref it) (.ref sI.heap.objs.size) ce) (compPost (model X.prog X.w) X.A X.xe none (EP X pins σ Q) (.ref sI.heap.objs.size) sB.heap.objs.size) sK := by
    refine compLoop_any (fun n s' => ∃ i H', Inv Y [] (wipe σ (own.map (·.2))) H' s' ∧ tn i s'.heap ∧ (∀ b ∈ fp, H' b = none) ∧ W i n H') (fun n s5 ⟨i, H5, I5, t5, n5, w5⟩ => ?_) m0 ⟨0, HB, IK, tK, fun b hb => (fB b hb).1, w0⟩
    rcases turn i n H5 w5 with ⟨stop, qq⟩ | ⟨go, Nx, dec, step⟩
    · refine thnF (TI.done Y rfl rfl rfl calm i [] s5 _ H5 (fun _ _ => False) I5 (still I5 n5) t5 stop) fun r s6 ⟨er, I6⟩ => ?_
      subst er
      have I7 : Inv X pins σ H5 s6 := IB.call' (ch := fp) I6.os I6.base I6.hok I6.bare fun b hb => ⟨(fB b hb).2.2.2.1, (fB b hb).2.1, (fB b hb).2.2.2.2.1, (fB b hb).2.2.2.2.2⟩
      obtain ⟨mm, ns, _⟩ := I6.loc
      have nC : H5 sB.heap.objs.size = none := I6.free
      have fC := IB.fpOk (H' := H5) (Nat.le_refl _) nC
      exact ⟨mm, ns, fun h2 sb => ⟨.ref _, H5, I7.turned (t' := s6.toks) (fun b o hb e => (sb.2 b hb).trans e) fC.1 fC.2.1 fC.2.2.2.1 fC.2.2.2.2.1 fC.2.2.2.2.2, rfl, qq⟩⟩
    · refine thnF (TI.item Y rfl rfl rfl calm i [] s5 _ H5 (fun _ _ => False) I5 (still I5 n5) t5 go) fun r s6 ⟨u, er, h6⟩ => ?_
      subst er
      refine thnF h6 fun _ s7 ⟨x, H7, I7, r7, y7, t7, n7⟩ => ?_
      have P7 := I7.pinned (still I7 n7) (TI.obj _ _ t7)
      refine thnF (gY.run _ s7 _ H7 x u _ P7 r7 (step x H7 y7)) fun _ s8 ⟨σ8, H8, I8, e8, q8⟩ => ?_
      refine thnF (oY.run _ s8 σ8 H8 _ I8 q8) fun b s9 ⟨H9, I9, q9⟩ => ?_
      have close : ∀ {s' : Shared} {H' : Hp}, Inv Y ([] ++ pinsAt fp s7.heap) σ8 H' s' → Nx H' → ∃ m, m < n ∧ ∃ i H', Inv Y [] (wipe σ (own.map (·.2))) H' s' ∧ tn i s'.heap ∧ (∀ b ∈ fp, H' b = none) ∧ W i m H' := fun {s' H'} I' nx => by
        obtain ⟨m', hm, w'⟩ := dec H' nx
        have held : ∀ b ∈ fp, ∀ o, s7.heap.get? b = some o → s'.heap.get? b = some o ∧ H' b = none := fun b hb o e =>
          have z := I'.pin (b, o) (List.mem_append_right _ (List.mem_append_right _ (mem_pinsAt hb e)))
          ⟨z.1, z.2.1⟩
        refine ⟨m', hm, i + 1, H', (I'.unpinned (pins := [])).weak (by rw [← e8, wipe_length]) (fun j v e => ?_), TI.keep _ _ _ t7 fun b hb o e => (held b hb o e).1, fun b hb => ?_, w'⟩
        · rw [← e8] at e
          exact (wipe_some e).1
        · obtain ⟨o, e, _⟩ := TI.obj _ _ t7 b hb
          exact (held b hb o e).2
      cases b with
      | false =>
        simp only [Bool.false_eq_true, if_false] at q9 ⊢
        exact close I9 q9
      | true =>
        simp only [if_true] at q9 ⊢
        exact thnF (eY.run _ s9 σ8 H9 _ I9 q9) fun z s10 ⟨yv, H10, I10, r10, acc, hD, hz, nx⟩ => app_ok (X := Y) I10 hD hz r10 fun s11 I11 => close I11 nx
  exact codeAny_compStart_list run (TI.self X.A 0 _ _ _ tK run)
end
end DL
set_option maxHeartbeats 1000000
/-! a lambda as a thing in hand -/
namespace DL
open PySem PySem.Spec PyProof.Rows L2 LamX
theorem fnO_ok {P : Program} {w : World} {H : Hp} {h : Heap} {f c' : Addr} {L : LamI} {dV doc pm ctv : Value} (e : h.get? f = some (PySem.W.kdv_obj "<lambda>" L.q L.params (.expr L.body) L.scope L.cs dV doc pm c' ctv)) : ObjOk P w H h f (FnO f c' L dV) :=
  ⟨⟨doc, pm, ctv, e⟩, ⟨_, e⟩, fun h1 h2 ⟨d, p, c, z⟩ k => ⟨d, p, c, k _ z⟩⟩
theorem dfO_ok {P : Program} {w : World} {H : Hp} {h : Heap} {td : Addr} {dvs : List Value} (e : h.get? td = some (PySem.W.kdv_tup dvs)) : ObjOk P w H h td (DfO td dvs) := ⟨e, ⟨_, e⟩, fun h1 h2 z k => k _ z⟩
theorem nt_ext {φ : Heap → Prop} : NT (.ext φ) := fun _ z => by cases z
theorem ext_upd {H : Hp} {a : Addr} {o : HO} (h : H a = none) : DL.Ext H (upd H a o) := fun b u e => ⟨u, by rw [upd_ne (ne_of_none e h)]; exact e, fun _ => rfl⟩
theorem Ext.trans {H H1 H2 : Hp} (x : DL.Ext H H1) (y : DL.Ext H1 H2) : DL.Ext H H2 := fun b o e => by
  obtain ⟨o1, e1, k1⟩ := x b o e
  obtain ⟨o2, e2, k2⟩ := y b o1 e1
  exact ⟨o2, e2, fun n => by have z := k1 n; subst z; exact k2 n⟩
theorem tabs_new {T : List (Addr × Str)} {H : Hp} {a : Addr} {o : HO} (hT : Tabs T H) (h : H a = none) : Tabs T (upd H a o) := fun p hp => by
  obtain ⟨ps, a1, a2, a3⟩ := hT p hp
  refine ⟨ps, by rw [upd_ne (ne_of_none a1 h)]; exact a1, a2, fun pos cv e => ?_⟩
  obtain ⟨c, e1, e2⟩ := a3 pos cv e
  exact ⟨c, e1, by rw [upd_ne (ne_of_none e2 h)]; exact e2⟩
section
variable {X : Cx} {pins : List (Addr × Obj)} {σ : L2.St} {H : Hp} {s : Shared}
theorem lamT_tail {T : List (Addr × Str)} {c P : Addr} {L : LamI} {ws : List Nat} {pos : Pos} {dV : Value} {E : Value → Shared → Prop} {Q : Value → Shared → Prop} (I : Inv X pins σ H s) (TB : TabB X.base X.mg c P) (hcode : X.env.code = .ref c) (hq : L.q = X.env.qual ++ "<lambda>") (hcs : L.cs = cloFrom X.env.cells L.scope.names [])
    (hm : (P, L.q) ∈ T) (hu : ∀ p ∈ T, p.1 = P → p.2 = L.q) (hT : Tabs T H) (N : LamN X.N X.env.scope L.scope ws)
    (h : ∀ (f c' : Addr) (H2 : Hp) (s' : Shared), Inv X pins σ H2 s' → DL.Ext H H2 → Tabs T H2 → H2 f = some (FnO f c' L dV) → H2 c' = some (CodeO c' L.q) → Q (.ref f) s') :
    wpAny (model X.prog X.w) X.A (makeTail "<lambda>" L.q L.params (.expr L.body) L.scope X.env dV .none none pos pos.line) Q E s := by
  obtain ⟨ps, hP, ht, ha⟩ := hT _ hm
  have hfree : ∀ y ∈ L.scope.names, y.2 = .free → ∃ c, X.env.cells.lookup y.1 = some c := fun y hy e => (N.free y hy e).elim (fun k => I.ok.has _ (.inl k)) (fun k => I.ok.has _ (.inr k))
  have bP : s.heap.BuiltinsAt X.mg P := TB.bm.keeps I.bk
  have hP' : s.heap.get? P = some { cls := .none, data := .fields ps } := I.hok P _ hP
  cases hc : codeAmong pos ps.toList with
  | none =>
    refine PySem.W.kdv_makeTail (mg := X.mg) (c := c) (P := P) (ps := ps) (closure_ok hfree) I.ok.glob (I.mod.glob.keeps I.bk) hcode (TB.code.keeps I.bk) hP' ht hc TB.gP bP fun c' ctv doc h' tk hx hge hlt hrec htb => ?_
    obtain ⟨c2, oc, vs, t, e2, hoc, hd, hv⟩ := hrec
    cases e2
    have nC : H c' = none := I.hok.fresh hge
    have I1 := inv_table (t' := tk) (more := #[rawInt pos.line, rawInt pos.col, .ref c']) (h' := h') I hP (fun b o hb e => hx b o hb e) htb hge ⟨oc, vs, t, hoc, hd, hv⟩
    have xt : DL.Ext H _ := tab_ext (more := #[rawInt pos.line, rawInt pos.col, .ref c']) (q := L.q) hP nC
    have eL : (ps ++ #[rawInt pos.line, rawInt pos.col, .ref c']).toList = ps.toList ++ [rawInt pos.line, rawInt pos.col, .ref c'] := by simp
    have T1 : Tabs T (upd (upd H P (.tbl (ps ++ #[rawInt pos.line, rawInt pos.col, .ref c']))) c' (CodeO c' L.q)) := fun p hp => by
      by_cases hb : p.1 = P
      · rw [hu p hp hb, hb]
        refine ⟨_, by rw [upd_ne (ne_of_none hP nC), upd_same], by rw [eL]; exact PySem.TriplesOk_snoc _ _ _ _ ht, fun p' cv hcv => ?_⟩
        rw [eL] at hcv
        rcases among_app _ ht hcv with z | z
        · obtain ⟨c0, e1, e2⟩ := ha p' cv z
          exact ⟨c0, e1, xt.nt e2 codeO_ne⟩
        · exact ⟨c', z, upd_same⟩
      · obtain ⟨ps', a1, a2, a3⟩ := hT p hp
        refine ⟨ps', by rw [upd_ne (ne_of_none a1 nC), upd_ne hb]; exact a1, a2, fun p' cv hcv => ?_⟩
        obtain ⟨c0, e1, e2⟩ := a3 p' cv hcv
        exact ⟨c0, e1, xt.nt e2 codeO_ne⟩
    have nF := I1.hok.fresh (a := h'.objs.size) (Nat.le_refl _)
    have I2 := I1.laid (t' := tk) (a := h'.objs.size) (o := FnO h'.objs.size c' L dV) (h' := h'.push (PySem.W.kdv_obj "<lambda>" L.q L.params (.expr L.body) L.scope (cloFrom X.env.cells L.scope.names []) dV doc ((X.mg "__name__").getD .none) c' ctv))
      (fun b o e => Heap.get?_push_of_some _ e) (Nat.le_refl _) (fnO_ok (by rw [hcs]; exact Heap.get?_push_size _ rfl))
    exact h _ c' _ _ I2 (xt.trans (ext_upd nF)) (tabs_new T1 nF) upd_same (by rw [upd_ne (ne_of_none upd_same nF)]; exact upd_same)
  | some cv =>
    obtain ⟨c', e, hco⟩ := ha pos cv hc
    subst e
    refine PySem.W.kdv_makeTailHit (mg := X.mg) (c := c) (P := P) (ps := ps) (closure_ok hfree) I.ok.glob (I.mod.glob.keeps I.bk) hcode (TB.code.keeps I.bk) hP' ht hc bP fun ctv doc h' tk hx sz => ?_
    have nF := I.hok.fresh (a := h'.objs.size) sz
    have I2 := I.laid (t' := tk) (a := h'.objs.size) (o := FnO h'.objs.size c' L dV) (h' := h'.push (PySem.W.kdv_obj "<lambda>" L.q L.params (.expr L.body) L.scope (cloFrom X.env.cells L.scope.names []) dV doc ((X.mg "__name__").getD .none) c' ctv))
      (fun b o e => Heap.get?_push_of_some _ (hx b o e)) sz (fnO_ok (by rw [hcs]; exact Heap.get?_push_size _ rfl))
    exact h _ c' _ _ I2 (ext_upd nF) (tabs_new hT nF) upd_same (by rw [upd_ne (ne_of_none hco nF)]; exact hco)
/-- the reading of a lambda's making -/
def tLam (T : List (Addr × Str)) (L : LamI) : TE := fun _ H Q => Tabs T H ∧ ∀ (f c' : Addr) (dV : Value) (dvs : List Value) (H2 : Hp), dflts L.is dvs → DL.Ext H H2 → Tabs T H2 → H2 f = some (FnO f c' L dV) → H2 c' = some (CodeO c' L.q) → DfOk H2 dV dvs → Q (.ref f) H2
theorem pe_lamT {T : List (Addr × Str)} {c P : Addr} {L : LamI} {ws : List Nat} {pos : Pos} (TB : TabB X.base X.mg c P) (hcode : X.env.code = .ref c) (hq : L.q = X.env.qual ++ "<lambda>") (hcs : L.cs = cloFrom X.env.cells L.scope.names []) (hm : (P, L.q) ∈ T) (hu : ∀ p ∈ T, p.1 = P → p.2 = L.q) (N : LamN X.N X.env.scope L.scope ws)
    (hd : (L.is = [] ∧ defaultsOf L.params X.env = ([], [])) ∨ ∃ i j p, L.is = [i] ∧ L.params.defaults = [.Constant (.int i) j p] ∧ L.params.kw_defaults = []) : PE X (.Lambda L.params L.body L.scope pos) (tLam T L) := by
  refine ⟨fun pins s σ H Q I ⟨hT, go⟩ => ?_⟩
  rcases hd with ⟨e0, hdef⟩ | ⟨i, j, p, e0, hdef, hkw⟩
  · refine PySem.W.kla_eval hdef ?_
    rw [makeFunction_eq]
    simp only [List.zip_nil_right, List.filterMap_nil, List.isEmpty_nil, if_true, pure_bind]
    rw [← hq]
    exact lamT_tail I TB hcode hq hcs hm hu hT N fun f c' H2 s' I2 x2 T2 a1 a2 => ⟨.ref f, H2, I2, rfl, go f c' .none [] H2 (by rw [e0]; rfl) x2 T2 a1 a2 (.inl ⟨rfl, rfl⟩)⟩
  · refine PySem.W.kdv_lam (by rw [hdef]; rfl) hkw ?_
    rw [hdef]
    refine PySem.W.kdv_all1 (thn ((pe_int (i := i) (j := j) (pos := p)).run pins s σ H (fun v H1 => v = .int i ∧ H1 = H) I ⟨rfl, rfl⟩) fun u s1 ⟨v, H1, I1, r1, ev, eH⟩ => ?_)
    subst ev
    subst eH
    refine PySem.W.kdv_all0 ?_
    obtain ⟨t, rfl⟩ : ∃ t, u = Value.int i t := r1
    rw [makeFunction_eq]
    simp only [List.zip_nil_right, List.filterMap_nil, List.isEmpty_nil, List.isEmpty_cons, Bool.false_eq_true, if_false, if_true, pure_bind]
    refine wpAny_bind (wpAny_newTextTuple ?_)
    have nT : H1 s1.heap.objs.size = none := I1.hok.fresh (Nat.le_refl _)
    have I2 := I1.laid (t' := s1.toks) (a := s1.heap.objs.size) (o := DfO s1.heap.objs.size [.int i t]) (h' := s1.heap.push (PySem.W.kdv_tup [.int i t])) (fun b o e => Heap.get?_push_of_some _ e) (Nat.le_refl _) (dfO_ok (Heap.get?_push_size _ rfl))
    rw [← hq]
    exact lamT_tail I2 TB hcode hq hcs hm hu (tabs_new hT nT) N fun f c' H2 s' I3 x2 T2 a1 a2 => ⟨.ref f, H2, I3, rfl, go f c' (.ref s1.heap.objs.size) [.int i t] H2 (by rw [e0]; exact ⟨t, rfl⟩) ((ext_upd nT).trans x2) T2 a1 a2 (.inr ⟨by simp, _, rfl, x2.nt upd_same nt_ext⟩)⟩
end
section
variable {X : Cx} {C : Cc} {W : WX}
open Classical in
theorem Rel.clo {σ : L2.St} {H H2 : Hp} {Γ : Env} {τ : Hand} {f c' : Addr} {i : Nat} {L : LamI} {dV : Value} {dvs : List Value} (R : Rel C σ H Γ τ) (hi : C.cl.lam[i]? = some L) (hd : dflts L.is dvs) (x : DL.Ext H H2) (T2 : Tabs C.cl.T H2) (a1 : H2 f = some (FnO f c' L dV)) (a2 : H2 c' = some (CodeO c' L.q)) (a3 : DfOk H2 dV dvs) :
    Rel C σ H2 Γ ((.ref f, .fz (.clo i)) :: τ) := by
  obtain ⟨F, ow, R⟩ := R
  let F' : Hp := fun a => if a = f ∨ a = c' ∨ dV = .ref a then H2 a else F a
  have new : ∀ a o, F' a = some o → F a = some o ∨ (H2 a = some o ∧ Ex0 o) := fun a o e => by
    by_cases h : a = f ∨ a = c' ∨ dV = .ref a
    · have e : H2 a = some o := by
        have z : (if a = f ∨ a = c' ∨ dV = .ref a then H2 a else F a) = some o := e
        rw [if_pos h] at z
        exact z
      refine .inr ⟨e, ?_⟩
      rcases h with h | h | h
      · rw [h, a1] at e
        cases e
        exact ⟨_, rfl⟩
      · rw [h, a2] at e
        cases e
        exact ⟨_, rfl⟩
      · rcases a3 with ⟨_, z⟩ | ⟨_, td, z, q⟩
        · rw [z] at h
          cases h
        · rw [z] at h
          cases h
          rw [q] at e
          cases e
          exact ⟨_, rfl⟩
    · have z : (if a = f ∨ a = c' ∨ dV = .ref a then H2 a else F a) = some o := e
      rw [if_neg h] at z
      exact .inl z
  have sub : Sub F F' := fun a o e => by
    have z := x.nt (R.ex a o e) (R.ft a o e)
    show (if a = f ∨ a = c' ∨ dV = .ref a then H2 a else F a) = some o
    split
    · exact z
    · exact e
  have at_ : ∀ {a : Addr}, (a = f ∨ a = c' ∨ dV = .ref a) → F' a = H2 a := fun {a} h => if_pos h
  have R2 : Rl C σ H2 Γ τ F' ow := R.growX x sub (fun a o e => (new a o e).elim (fun z => x.nt (R.ex a o z) (R.ft a o z)) (fun z => z.1)) (fun a o e => (new a o e).imp id (fun z => .inr z.2)) T2 (fun a o e => (new a o e).elim (fun z => R.ft a o z) (fun ⟨_, φ, z⟩ ps y => by rw [z] at y; cases y))
  refine ⟨F', ow, R2.push (.clo hi (by rw [at_ (.inl rfl)]; exact a1) (by rw [at_ (.inr (.inl rfl))]; exact a2) ?_ hd)⟩
  rcases a3 with z | ⟨n, td, z, q⟩
  · exact .inl z
  · exact .inr ⟨n, td, z, by rw [at_ (.inr (.inr z))]; exact q⟩
theorem de_lam {i : Nat} {c P : Addr} {L : LamI} {ws : List Nat} {pos : Pos} (hi : C.cl.lam[i]? = some L) (TB : TabB X.base X.mg c P) (hcode : X.env.code = .ref c) (hq : L.q = X.env.qual ++ "<lambda>") (hcs : L.cs = cloFrom X.env.cells L.scope.names []) (hm : (P, L.q) ∈ C.cl.T) (hu : ∀ p ∈ C.cl.T, p.1 = P → p.2 = L.q) (N : LamN X.N X.env.scope L.scope ws)
    (hd : (L.is = [] ∧ defaultsOf L.params X.env = ([], [])) ∨ ∃ i j p, L.is = [i] ∧ L.params.defaults = [.Constant (.int i) j p] ∧ L.params.kw_defaults = []) : PE X (.Lambda L.params L.body L.scope pos) (rd C W (constM (.clo i))) :=
  pe_sub (pe_lamT (T := C.cl.T) TB hcode hq hcs hm hu N hd) fun σ H Q ⟨Γ, τ, R, w⟩ => by
    refine ⟨by obtain ⟨_, _, R⟩ := R; exact R.tabs, fun f c' dV dvs H2 h1 x T2 a1 a2 a3 => ?_⟩
    exact w _ _ (R.clo hi h1 x T2 a1 a2 a3)
end
end DL
set_option maxHeartbeats 1000000
/-! a lambda in hand, handed to a def that calls it -/
namespace DL
open PySem PySem.Spec PyProof.Rows L2 LamX
theorem Capt.unX {N : List Str} {σ : L2.St} {scope : Scope} {cs : List (Str × Addr)} {H H' : Hp} {h h' : Heap} {fs ex : List Addr} (C : Capt N σ scope cs H h) (u : Un fs ex H H' h h') (hx : ∀ y c, cs.lookup y = some c → c ∉ ex) : Capt N σ scope cs H' h' := by
  have go : ∀ {y c}, cs.lookup y = some c → ∀ {v}, h.IsCell c v → h'.IsCell c v := fun {y c} e {v} ⟨o, ho, hd⟩ => by
    obtain ⟨sl, q⟩ := u.any ho (C.non y c e) (hx y c e)
    exact ⟨_, q, hd⟩
  refine ⟨C.has, C.inj, fun y c e => (C.cell y c e).imp fun v z => go e z, fun y c e => ?_, fun i y v e1 e2 k => ?_, C.len⟩
  · obtain ⟨v, o, ho, hd⟩ := C.cell y c e
    exact u.free c o ho (C.non y c e) (hx y c e)
  · obtain ⟨c, w, a1, a2, a3⟩ := C.val i y v e1 e2 k
    exact ⟨c, w, a1, a2, go a1 a3⟩
theorem clo_up {X : Cx} {pins : List (Addr × Obj)} {σ : L2.St} {H : Hp} {s : Shared} {scope : Scope} {ws : List Nat} (I : Inv X pins σ H s) (L : LamN X.N X.env.scope scope ws) {y : Str} {c : Addr} (e : (cloFrom X.env.cells scope.names []).lookup y = some c) : X.env.cells.lookup y = some c := by
  rcases cloFrom_mem (PySem.mem_of_lookup e) with hm | ⟨h1, h2⟩
  · cases hm
  · have : ∃ c1, X.env.cells.lookup y = some c1 := by
      rcases L.free _ h1 rfl with k | k
      · exact I.ok.has _ (.inl k)
      · exact I.ok.has _ (.inr k)
    obtain ⟨c1, hc⟩ := this
    rw [hc] at h2
    rw [hc, h2]
    rfl
/-- what is tracked of a lambda -/
def Held (L : LamI) (f c' : Addr) (dV : Value) (dvs : List Value) (H : Hp) : Prop := H f = some (FnO f c' L dV) ∧ H c' = some (CodeO c' L.q) ∧ DfOk H dV dvs
section
variable {X : Cx}
theorem acts_held {Ng : List Str} {x a : Str} {sg sc : Scope} {g f c' : Addr} {cdg : Value} {L : LamI} {ws : List Nat} {dV : Value} {dvs : List Value} {binds : List (Str × Value)} {k : Nat} {t : XK → TE} {σ : L2.St} {H : Hp} {s : Shared} (N : LamN X.N sc L.scope ws) (C : Capt X.N σ L.scope L.cs H s.heap)
    (hb : LamBind L.params dvs binds) (hloc : ∀ y ∈ binds, L.scope.names.lookup y.1 = some .local) (hr : Room (k + 1) (X.A.deeper (envOfC x sg s.heap.objs.size g cdg)))
    (hbody : ∀ (A : Around) (outer : List PySem.Env) (s : Shared) (H : Hp) (E : XK) (f c' : Addr), Room k (A.deeper (lamE L.q L.scope L.cs s.heap.objs.size f c')) → PE (lamX X L.q L.scope L.cs A outer s H E f c') L.body (t E))
    (hN : Ng[0]? = some a) (hv : Vis sg a) (hd : (a == ("__debug__" : Str)) = false) (hcd : (a == ("__classdict__" : Str)) = false) : Acts X Ng x sg g cdg a f (Held L f c' dV dvs) s H (fun E H' Q' => t E (wipe σ ws) H' Q') := by
  intro W pn xe E p1 p2 tk hW
  refine ⟨fun pinsZ sZ σZ HZ Q IZ ⟨hs, ⟨k1, k2, k3⟩, ht⟩ => ?_⟩
  refine wpAny_Call_Name_kw (thn ((pe_var (pos := p1) (i := 0) hN hv hd hcd).run pinsZ sZ σZ HZ (fun v H1 => v = .ref f ∧ H1 = HZ) IZ ⟨.ref f, hs, rfl, rfl⟩) fun u s1 ⟨v, H1, I1, r1, q1⟩ => ?_)
  obtain ⟨ev, eH⟩ := q1
  subst ev
  rw [eH] at I1
  obtain rfl : u = Value.ref f := r1
  have un : Un (frs X.stack) [] H HZ s.heap s1.heap := I1.base
  obtain ⟨⟨doc, pm, ctv, ob⟩, _, _⟩ := I1.hok f _ k1
  have df : (dvs = [] ∧ dV = .none) ∨ (dvs ≠ [] ∧ ∃ td, dV = .ref td ∧ s1.heap.get? td = some (PySem.W.kdv_tup dvs)) := k3.imp id fun ⟨n, td, z, q⟩ => ⟨n, td, z, (I1.hok td _ q).1⟩
  refine PySem.W.callWith_F0 ⟨_, _, _, _, ob⟩ ?_
  have rc := lam_go (X := X) (E := E) (Q := Q) (tb := t E) ob df k2 N (C.unX un (fun _ _ _ z => nomatch z)) hb hloc I1.env0 I1.nolimit hr (fun r2 => hbody _ _ _ _ _ _ _ r2) ht
  have hx : Passes (L2.CX X.prog X.w) ((askX X Ng x sg g cdg s H).tr pn xe) E := passes_call tk hW
  refine wpAny_call (codeAny_mono rc fun r s' hq => ?_)
  cases r with
  | error e => exact hx pinsZ σZ HZ s1 e s' I1 hq
  | ok fl =>
    cases fl with
    | ret u => exact I1.after hq
    | next => exact False.elim hq
    | brk => exact False.elim hq
    | cont => exact False.elim hq
/-- what a call of one of the lambdas does: its slots aside, its reading -/
structure LamDo (X : Cx) (sc : Scope) (k : Nat) (L : LamI) (ws : List Nat) (t : XK → TE) : Prop where
  names : LamN X.N sc L.scope ws
  bind : ∀ dvs, dflts L.is dvs → ∃ binds, LamBind L.params dvs binds ∧ ∀ y ∈ binds, L.scope.names.lookup y.1 = some .local
  body : ∀ (A : Around) (outer : List PySem.Env) (s : Shared) (H : Hp) (E : XK) (f c' : Addr), Room k (A.deeper (lamE L.q L.scope L.cs s.heap.objs.size f c')) → PE (lamX X L.q L.scope L.cs A outer s H E f c') L.body (t E)
def tHandV (lams : List LamI) (TT : (XK → Hp → VK → Prop) → Hp → VK → Prop) (σ0 : L2.St) (ws : Nat → List Nat) (t : Nat → XK → TE) (te : TE) : TE := fun σ H Q => te σ H fun v H1 => ∃ (i : Nat) (L : LamI) (f c' : Addr) (dV : Value) (dvs : List Value), v = .ref f ∧ lams[i]? = some L ∧ Held L f c' dV dvs H1 ∧ dflts L.is dvs ∧ TT (fun E H' Q' => t i E (wipe σ0 (ws i)) H' Q') H1 Q
/-- x(e), e a lambda -/
theorem pe_handedV {lams : List LamI} {TT : (XK → Hp → VK → Prop) → Hp → VK → Prop} {σ0 : L2.St} {sc : Scope} {x a : Str} {g : Addr} {k : Nat} {pg : Arguments} {bg : List Stmt} {sg : Scope} {dV kV doc pm cdv ct oc : Value} {an od : Option Addr} {osl : Array (Option Value)} {Ng : List Str} {q : Str}
    {e : Expr} {te : TE} {ws : Nat → List Nat} {t : Nat → XK → TE} {p pos : Pos} (hg : Gl X x) (hm : X.mg x = some (.ref g)) (hk : PySem.W.keepIn X.K (.ref g) = true)
    (lk : X.K.lookup g = some ⟨oc, od, .func (PySem.W.fnOf x x pg bg sg dV kV doc pm an cdv ct), osl⟩) (hcg : PySem.W.codeIn X.K cdv x = true) (hb : L2.Binds X.K (PySem.W.fnOf x x pg bg sg dV kV doc pm an cdv ct) [a] []) (Sg : FnScope Ng [a] sg) (hNg : Ng[0]? = some a) (hva : Vis sg a)
    (hG : Makes X Ng x sg g cdv bg a q TT) (hr : Room (k + 2) X.A) (he : PE X e te) (cap : ∀ (i : Nat) (L : LamI), lams[i]? = some L → ∀ pins s σ H, Inv X pins σ H s → Capt X.N σ0 L.scope L.cs H s.heap) (does : ∀ (i : Nat) (L : LamI), lams[i]? = some L → LamDo X sc k L (ws i) (t i))
    (hs : starEach [e] X.env = (false, eval e X.env) :: starEach [] X.env := by rfl) (hpl : (backTo pos (starEach [] X.env)).any (·.1) = false := by rfl) (hdb : (x == ("__debug__" : Str)) = false := by decide) (hda : (a == ("__debug__" : Str)) = false := by decide) (hca : (a == ("__classdict__" : Str)) = false := by decide) :
    PE X (.Call (.Name x p) [e] [] pos) (tHandV lams TT σ0 ws t te) := by
  refine ⟨fun pins s σ H Q I h => ?_⟩
  refine wpAny_Call_Name_kw (ld_glob I hg hm ?_ hdb)
  refine PySem.W.callWith_K (h₀ := X.base) I.ok.mod.kin hk ?_ hs hpl
  rw [hs]
  show wpAny _ _ (spliced ((false, eval e X.env) :: backTo pos (starEach [] X.env))) _ _ s
  refine Calls.spliced_cons (thn (he.run pins s σ H _ I h) fun u s' ⟨v, H1, I1, rv, i, L, f, c', dV1, dvs, ev, hi, held, hdv, tt⟩ => ?_)
  subst ev
  obtain rfl : u = Value.ref f := rv
  refine Calls.spliced_nil ⟨I1.kIn, ?_⟩
  obtain ⟨dn, dbind, dbody⟩ := does i L hi
  obtain ⟨binds, b1, b2⟩ := dbind dvs hdv
  have rc : codeAny (model X.prog X.w) X.A (.call (.ref g) ⟨[.ref f], []⟩) (CR C8.CX0 X.stack X.prog X.w H1 s' Q C8.E0) s' := by
    refine run_ofS (N := Ng) (ps := [a]) (us := [.ref f]) (vs := [.ref f]) lk hcg Sg hr I1.env0 (hb s' [.ref f] I1.kIn rfl) (.cons rfl .nil) rfl fun hr' => ?_
    obtain ⟨t', ht', hq'⟩ := hG f _ s' H1 Q _ (acts_held (X := X) (t := t i) dn (cap i L hi pins s' σ H1 I1) b1 b2 hr' dbody hNg hva hda hca) held tt
    exact ⟨t', ht'.nox, hq'⟩
  refine wpAny_call (codeAny_mono rc fun r s2 hq => ?_)
  cases r with
  | error e => exact (show False from hq).elim
  | ok fl =>
    cases fl with
    | ret u => exact I1.after hq
    | next => exact False.elim hq
    | brk => exact False.elim hq
    | cont => exact False.elim hq
end
end DL
set_option maxHeartbeats 1000000
/-! the meaning of asking a lambda in hand; of asking each of a list -/
namespace DL
open PySem PySem.Spec PyProof.Rows L2 LamX
section
variable {X : Cx} {C : Cc} {W : WX}
theorem ask_go {xs : List Str} {hsV : List Hdl} {hs : List HdlD} {ws : List Nat} {fE : M T} {σ : L2.St} {H : Hp} {Γ : Env} {τ : Hand} {Q : VK} (hcatch : Catch C.K C.cl xs hsV hs) (hws : ∀ i ∈ ws, C.cv i = true ∧ C.pin i = none) (R : Rel C σ H Γ τ)
    (w : (askM xs hs ws fE Γ).Wp (fun t Γ' => ∀ v H', Rel C σ H' Γ' ((v, t) :: τ) → Q v H') (wx C W σ τ)) : TTr C.K hsV (fun E H' Q' => rd C (WE' E) fE (wipe σ ws) H' Q') H Q := by
  have R1 := R.wipe hws
  refine ⟨wipeE Γ ws, τ, R1, ?_⟩
  have back : ∀ {v : V} {t : T} {Γ2 : Env} {H2 : Hp}, Rel C (wipe σ ws) H2 Γ2 ((v, t) :: τ) → Rel C σ H2 (wipeE Γ2 ws) ((v, t) :: τ) := fun {v t Γ2 H2} R2 => by
    have R3 := R2.wipe hws
    refine Rel.unwipe (vs := ws) hws (fun i hi => ?_) ?_ wipeE_no R3
    · rw [wipe_out hi, wipe_out hi]
    · rw [wipe_length, wipe_length]
  have w0 : (askO xs hs ws (fE (wipeE Γ ws))).Wp (fun t Γ' => ∀ v H', Rel C σ H' Γ' ((v, t) :: τ) → Q v H') (wx C W σ τ) := w
  cases q : fE (wipeE Γ ws) with
  | ok t Γ2 =>
    rw [q] at w0
    intro v H2 R2
    have w1 : ((frz t Γ2).bind (toldT ws)).Wp (fun t Γ' => ∀ v H', Rel C σ H' Γ' ((v, t) :: τ) → Q v H') (wx C W σ τ) := w0
    obtain ⟨d, Γ3, R3, w2⟩ := R2.frz (Out.wp_bind w1)
    refine ⟨(by show 2 ≤ sizeLine; decide), fun p hp => ?_⟩
    obtain ⟨F, ow, R3⟩ := R3
    have hd := R3.temps.1
    cases hd with
    | fz hd => exact w2 _ _ (back (R3.pop.newTup hp (by show 2 ≤ sizeLine; decide) (.cons (.str _) (.cons hd .nil))))
  | exc x' Γ2 =>
    intro cls d H2 RX
    rw [q] at w0
    have w1 := w0
    unfold askO at w1
    cases e1 : xs.contains x'.cls with
    | false => simp only [e1] at w1; exact w1.elim
    | true =>
      cases e2 : catchD x' hs with
      | none => simp only [e1, e2] at w1; exact w1.elim
      | some dd =>
        simp only [e1, e2] at w1
        exact wH_of (Q := Q) (by simpa using e1) RX hcatch e2 (fun v H' R' => w1 v H' (back R'))
  | bad =>
    rw [q] at w0
    exact w0.elim
/-- the lambdas' slots aside and meanings, by their numbers -/
abbrev FEs := List (List Nat × M T)
def askI (xs : List Str) (hs : List HdlD) (FE : FEs) : T → M T
  | .fz (.clo i) => match FE[i]? with
    | some (ws, fE) => askM xs hs ws fE
    | none => fun _ => .bad
  | _ => fun _ => .bad
def askV (xs : List Str) (hs : List HdlD) (FE : FEs) (f : M T) : M T := bindM f (askI xs hs FE)
theorem wipe_wipe' {σ : L2.St} {vs ws : List Nat} (h : ∀ i ∈ vs, i ∈ ws) : wipe (wipe σ vs) ws = wipe σ ws := wipe_ext (by rw [wipe_length]) fun i hi => wipe_out fun z => hi (h i z)
theorem de_askV {σ0 : L2.St} {vs : List Nat} {xs : List Str} {hsV : List Hdl} {hs : List HdlD} {FE : FEs} {sc : Scope} {x a q : Str} {g : Addr} {k : Nat} {pg : Arguments} {bg : List Stmt} {sg : Scope} {dV kV doc pm cdv ct oc : Value} {an od : Option Addr} {osl : Array (Option Value)} {Ng : List Str}
    {e : Expr} {fe : M T} {p pos : Pos} (hK : C.K = X.K) (hcatch : Catch C.K C.cl xs hsV hs) (hFE : ∀ (i : Nat) (z : List Nat × M T), FE[i]? = some z → (∀ j ∈ z.1, C.cv j = true ∧ C.pin j = none) ∧ ∀ j ∈ vs, j ∈ z.1) (hg : Gl X x) (hm : X.mg x = some (.ref g)) (hk : PySem.W.keepIn X.K (.ref g) = true)
    (lk : X.K.lookup g = some ⟨oc, od, .func (PySem.W.fnOf x x pg bg sg dV kV doc pm an cdv ct), osl⟩) (hcg : PySem.W.codeIn X.K cdv x = true) (hb : L2.Binds X.K (PySem.W.fnOf x x pg bg sg dV kV doc pm an cdv ct) [a] []) (Sg : FnScope Ng [a] sg) (hNg : Ng[0]? = some a) (hva : Vis sg a)
    (hG : Makes X Ng x sg g cdv bg a q (TTr X.K hsV)) (hr : Room (k + 2) X.A) (he : PE X e (rd C W fe)) (cap : ∀ (i : Nat) (L : LamI), C.cl.lam[i]? = some L → ∀ pins s σ H, Inv X pins σ H s → Capt X.N σ0 L.scope L.cs H s.heap)
    (does : ∀ (i : Nat) (L : LamI), C.cl.lam[i]? = some L → LamDo X sc k L (FE.getD i ([], fun _ => .bad)).1 (fun E => rd C (WE' E) (FE.getD i ([], fun _ => .bad)).2))
    (hst : starEach [e] X.env = (false, eval e X.env) :: starEach [] X.env := by rfl) (hpl : (backTo pos (starEach [] X.env)).any (·.1) = false := by rfl) (hdb : (x == ("__debug__" : Str)) = false := by decide) (hda : (a == ("__debug__" : Str)) = false := by decide) (hca : (a == ("__classdict__" : Str)) = false := by decide) :
    PE X (.Call (.Name x p) [e] [] pos) (fun σ2 H Q => wipe σ2 vs = wipe σ0 vs ∧ rd C W (askV xs hs FE fe) σ2 H Q) :=
  pe_sub (pe_handedV (lams := C.cl.lam) (σ0 := σ0) (ws := fun i => (FE.getD i ([], fun _ => .bad)).1) (t := fun i E => rd C (WE' E) (FE.getD i ([], fun _ => .bad)).2) hg hm hk lk hcg hb Sg hNg hva hG hr he cap does hst hpl hdb hda hca) fun σ2 H Q ⟨hw, Γ, τ, R, w⟩ => by
    refine rd_bind R w fun t Γ1 v H1 R1 w1 => ?_
    have bad : ∀ {P : Prop}, (Out.bad : Out T).Wp (fun t Γ' => ∀ v H', Rel C σ2 H' Γ' ((v, t) :: τ) → Q v H') (wx C W σ2 τ) → P := fun h => h.elim
    cases t with
    | fz d =>
      cases d with
      | clo i =>
        cases hi : FE[i]? with
        | none =>
          unfold askI at w1
          simp only [hi] at w1
          exact bad w1
        | some z =>
          obtain ⟨ws, fE⟩ := z
          unfold askI at w1
          simp only [hi] at w1
          obtain ⟨F, ow, R1⟩ := R1
          have ht := R1.temps.1
          cases ht with
          | fz ht =>
            cases ht with
            | clo k1 k2 k3 k4 k5 =>
              obtain ⟨h1, h2⟩ := hFE i _ hi
              have eD : FE.getD i ([], fun _ => .bad) = (ws, fE) := by rw [List.getD_eq_getElem?_getD, hi]; rfl
              have ex := R1.ex
              refine ⟨i, _, _, _, _, _, rfl, k1, ⟨ex _ _ k2, ex _ _ k3, k4.imp id fun ⟨n, td, z, y⟩ => ⟨n, td, z, ex _ _ y⟩⟩, k5, ?_⟩
              have eW : wipe σ0 ws = wipe σ2 ws := by rw [← wipe_wipe' (σ := σ0) h2, ← hw, wipe_wipe' h2]
              rw [← hK]
              simp only [eD, eW]
              exact ask_go hcatch h1 ⟨F, ow, R1.pop⟩ w1
      | _ => exact bad w1
    | _ => exact bad w1
end
end DL
namespace DL
open PySem PySem.Spec PyProof.Rows L2 LamX
section
variable {X : Cx} {C : Cc} {W : WX}
theorem tLc_keep {fi : M (List D)} {is vs : List Nat} {g : D → M Unit} {ft : M Bool} {te : TE} {σ : L2.St} {H : Hp} {Q : VK} (h : tLc (rdI C W fi) (rdG C is g) (rdT C W0 ft) te vs σ H Q) : tLc (rdI C W fi) (rdG C is g) (rdT C W0 ft) (fun σ2 H2 Q2 => wipe σ2 vs = wipe σ vs ∧ te σ2 H2 Q2) vs σ H Q := by
  obtain ⟨Γ, τ, R, w⟩ := h
  refine ⟨Γ, τ, R, Out.wp_mono w (fun ds Γ' q J H' υ R' I D hD => ?_) (fun _ _ z => z)⟩
  obtain ⟨Wt, w0, turn⟩ := q J H' υ R' I D hD
  refine ⟨Wt, w0, fun i m H2 hw => ?_⟩
  rcases turn i m H2 hw with z | ⟨go, Nx, dec, step⟩
  · exact .inl z
  · refine .inr ⟨go, Nx, dec, fun x H3 y => ?_⟩
    obtain ⟨Γ3, τ3, d3, a1, a2, a3⟩ := step x H3 y
    refine ⟨Γ3, τ3, d3, a1, a2, Out.wp_mono a3 (fun u Γ4 k => ?_) (fun _ _ z => z)⟩
    intro σ4 H4 b1 b2 R4
    obtain ⟨e4, Γ5, τ5, R5, w5⟩ := k σ4 H4 b1 b2 R4
    refine ⟨e4, Γ5, τ5, R5, Out.wp_mono w5 (fun b Γ6 k6 H6 R6 => ?_) (fun _ _ z => z)⟩
    have z := k6 H6 R6
    cases b with
    | true => exact ⟨e4, z⟩
    | false => exact z
/-- a comprehension whose element asks lambdas in hand -/
theorem de_compV {elt tg iter : Expr} {scope : Scope} {own : List (Str × Nat)} {pos : Pos} {is : List Nat} {fi : M (List D)} {g : D → M Unit} {fe : M T} (calm : X.calm = true) (nd : X.N.Nodup) (hv : ∀ i ∈ own.map (·.2), C.cv i = true ∧ C.pin i = none) (his : ∀ i ∈ is, i ∈ own.map (·.2)) (hq : Quiet g)
    (hi : PI X tg iter (rdI C W fi)) (ok : BlkOk X.N X.env.scope scope own)
    (hg : ∀ (s : Shared) (H : Hp) (c : Addr) (cl : List (Str × Addr)) (fp : List Addr), PG (X.blk s H scope (compEnvC scope cl c X.env) fp) tg (rdG C is g))
    (he : ∀ pins σ, AtStart X pins σ scope elt (fun σ2 H2 Q2 => wipe σ2 (own.map (·.2)) = wipe σ (own.map (·.2)) ∧ rd C W0 fe σ2 H2 Q2)) (hs : ∀ x, foldedSetIterable iter X.env x = pure x := by intro _; rfl) :
    PE X (.ListComp elt [⟨tg, iter, [], 0⟩] scope pos) (rd C W (compM (own.map (·.2)) fi g (retM true) fe)) :=
  pe_sub (lc_start (te := fun σ σ2 H2 Q2 => wipe σ2 (own.map (·.2)) = wipe σ (own.map (·.2)) ∧ rd C W0 fe σ2 H2 Q2) calm nd hi ok hg (fun _ _ _ _ _ => dts_nil) he hs) fun σ H Q q => tLc_keep (lc_rd hv his hq q)
/-- the cells of the maker, from the block's start on -/
theorem cap_start {pins : List (Addr × Obj)} {σ : L2.St} {sB : Shared} {HB : Hp} {scope : Scope} {c : Addr} {cs : List (Str × Addr)} {fp : List Addr} {L : LamI} {ws : List Nat} (IB : Inv X pins σ HB sB) (fB : ∀ b ∈ fp, FpOk X pins HB b) (N : LamN X.N X.env.scope L.scope ws) (hcs : L.cs = cloFrom X.env.cells L.scope.names []) :
    ∀ pins' s' σ' H', Inv (X.blk sB HB scope (compEnvC scope cs c X.env) fp) pins' σ' H' s' → Capt (X.blk sB HB scope (compEnvC scope cs c X.env) fp).N σ L.scope L.cs H' s'.heap := by
  intro pins' s' σ' H' I'
  have C0 := capt_of IB N
  rw [← hcs] at C0
  refine C0.unX I'.base fun y b e hb => ?_
  rw [hcs] at e
  exact (fB b hb).2.2.2.2.1 y b (clo_up IB N e) rfl
end
end DL
set_option maxHeartbeats 1000000
/-! defs that make lambdas as things in hand -/
namespace DL
open PySem L2 LamX
section
variable {K : PySem.W.Frag} {cl : Cl} {F : Hp} {ls : List LamI}
mutual
theorem Dt.lift (hl : cl.lam = []) : ∀ {v : V} {d : D}, Dt K cl F v d → Dt K ⟨cl.of, cl.T, ls⟩ F v d
  | _, _, .non => .non
  | _, _, .bl b => .bl b
  | _, _, .int i => .int i
  | _, _, .str s => .str s
  | _, _, .lst h hl' hs => .lst h hl' (Dts.lift hl hs)
  | _, _, .tup h hl' hs => .tup h hl' (Dts.lift hl hs)
  | _, _, .scr h hl' => .scr h hl'
  | _, _, .dK h hk hs => .dK h hk (Dts.lift hl hs)
  | _, _, .dT h hk hs => .dT h hk (Dts.lift hl hs)
  | _, _, .ins h hc hk hs => .ins h hc hk (Dts.lift hl hs)
  | _, _, .clo h1 _ _ _ _ => by rw [hl] at h1; cases h1
theorem Dts.lift (hl : cl.lam = []) : ∀ {vs : List V} {ds : List D}, Dts K cl F vs ds → Dts K ⟨cl.of, cl.T, ls⟩ F vs ds
  | _, _, .nil => .nil
  | _, _, .cons h hs => .cons (Dt.lift hl h) (Dts.lift hl hs)
end
theorem Dt.scalar {cl' : Cl} {v : V} {d : D} (h : Dt K cl F v d) (e : d.scal = true) : Dt K cl' F v d := by
  cases h with
  | non => exact .non
  | bl b => exact .bl b
  | int i => exact .int i
  | str s => exact .str s
  | _ => cases e
/-- a plain answer alone -/
def scalO : Out T → Out T
  | .ok (.fz d) Γ => if d.scal then .ok (.fz d) Γ else .bad
  | _ => .bad
def scalF (f : FSem) : FSem := fun ts => scalO (f ts)
theorem sp_lift {n : Nat} {f : FSem} {vs : List V} {H : Hp} {Q : VK} {E : XK} (hl : cl.lam = []) (h : spOf K cl n false (scalF f) vs H Q E) : spOf K ⟨cl.of, cl.T, ls⟩ n false f vs H Q E := by
  obtain ⟨h1, F, S, ts, h2, h3, h4, h5, h6, h7⟩ := h
  obtain ⟨ds, e, hd⟩ := h6
  refine ⟨h1, F, S, ts, h2, h3, h4, h5, ⟨ds, e, Dts.lift hl hd⟩, ?_⟩
  have w : (scalO (f ts)).Wp _ _ := h7
  cases q : f ts with
  | ok t Γ =>
    rw [q] at w
    cases t with
    | fz d =>
      cases es : d.scal with
      | false => unfold scalO at w; simp only [es] at w; exact w.elim
      | true =>
        unfold scalO at w
        simp only [es, if_true] at w
        refine ⟨w.1, fun v H' F' S0 Sr A O B => w.2 v H' F' S0 Sr ⟨A.sub, A.ex, A.new, A.frame, A.own, A.apart, A.tabs, A.ft⟩ ?_ (fun z => by cases z)⟩
        cases O with
        | fz O => exact .fz (O.scalar es)
    | _ => exact w.elim
  | exc x Γ => rw [q] at w; exact w.elim
  | bad => rw [q] at w; exact w.elim
end
section
variable {P : Program} {w : World} {K : PySem.W.Frag} {mg : Str → Option Value} {base : Heap} {cl : Cl}
theorem fun_okL {x qual : Str} {st : Stmt} {f : Addr} {fd : FuncData} {N ps : List Str} {k n m : Nat} {den : M Flow} {cv : Nat → Bool} {ls : List (Str × Addr) → List LamI} (hl : cl.lam = []) (F : Fun K x qual st f fd) (S : FnScope N ps (defScope st)) (hn : ps.length = n) (hN : N.length = m)
    (hb : ∀ (cdv : Value), fd.code = cdv → ∀ (A : Around) (outer : List PySem.Env) (s : Shared) (H : Hp) (vs : List V) (E : XK), Room k (A.deeper (PyProof.Rows.envOfC qual (defScope st) s.heap.objs.size f cdv)) → ∀ H0 F0 mu, PSs (cxOf (L2.CX P w) P w K mg base N qual (defScope st) f cdv A outer s H E) (defBody st)
      (rdS ⟨K, ⟨cl.of, cl.T, ls (cxOf (L2.CX P w) P w K mg base N qual (defScope st) f cdv A outer s H E).env.cells⟩, H0, F0, mu, refPin false vs, cv⟩ (WE' E) den)) : FnOk P w K mg base (L2.CX P w) (k + 1) f fd ps (spOf K cl n false (scalF (callF m den))) := by
  have hle : n ≤ m := by
    have z := congrArg List.length S.pre
    rw [List.length_take] at z
    omega
  obtain ⟨oc, od, kV, doc, pm, an, cdv, ct, osl, rfl, lk, hcd⟩ := F.ex
  refine fn_of lk hcd S (fun vs H Q E h => by rw [h.1, hn]) fun A outer s H vs Q E hr hsp => ?_
  exact body_ok hN hle (fun H0 F0 mu => hb cdv rfl A outer s H vs E hr H0 F0 mu) (sp_lift hl hsp)
end
/-! ### ways to a lambda within a def -/
def p0 : Pos := ⟨0, 0, 0, 0⟩
def aSt (l : List Stmt) (i : Nat) : Stmt := l.getD i (.Pass p0)
def aEx (l : List Expr) (i : Nat) : Expr := l.getD i (.Constant .none 0 p0)
def aFor : Stmt → List Stmt
  | .For _ _ b _ _ => b
  | _ => []
def aIf : Stmt → List Stmt
  | .If _ b _ _ => b
  | _ => []
def aElse : Stmt → List Stmt
  | .If _ _ b _ => b
  | _ => []
def aVal : Stmt → Expr
  | .Assign _ e _ => e
  | .Return (some e) _ => e
  | .Expr e _ => e
  | _ => .Constant .none 0 p0
def aElts : Expr → List Expr
  | .List es _ => es
  | .Tuple es _ _ => es
  | .Call _ es _ _ => es
  | .BinOp l _ r _ => [l, r]
  | _ => []
def lamP : Expr → Arguments
  | .Lambda p _ _ _ => p
  | _ => ⟨[], [], none, [], [], none, []⟩
def lamB : Expr → Expr
  | .Lambda _ b _ _ => b
  | e => e
def lamS : Expr → Scope
  | .Lambda _ _ s _ => s
  | _ => default
/-- the lambda at e, of the def q, with these cells -/
abbrev lamI (q : Str) (e : Expr) (is : List Int) (cells : List (Str × Addr)) : LamI := ⟨q ++ "<lambda>", lamP e, lamB e, lamS e, cloFrom cells (lamS e).names [], is⟩
section
variable {xs : List Str} {hs : List HdlD} {FE : FEs} {f : M T} {Γ : Env}
def askN (xs : List Str) (hs : List HdlD) (Γ : Env) : Option (List Nat × M T) → Out T
  | some z => askM xs hs z.1 z.2 Γ
  | none => .bad
theorem ev_askV : askV xs hs FE f Γ = (f Γ).bind (askI xs hs FE) := by exact rfl
theorem ev_askI {i : Nat} : askI xs hs FE (.fz (.clo i)) Γ = askN xs hs Γ FE[i]? := by
  unfold askI
  dsimp only
  cases h : FE[i]? with
  | none => exact rfl
  | some z => exact rfl
theorem ev_askN {z : List Nat × M T} : askN xs hs Γ (some z) = askM xs hs z.1 z.2 Γ := by exact rfl
end
section
variable {X : Cx} {C : Cc} {W : WX}
/-- the same by a def's record -/
theorem de_askVF {σ0 : L2.St} {vs : List Nat} {xs : List Str} {hsV : List Hdl} {hs : List HdlD} {FE : FEs} {sc : Scope} {x a q : Str} {g : Addr} {k : Nat} {st : Stmt} {fd : FuncData} {Ng : List Str} {e : Expr} {fe : M T} {p pos : Pos} (hK : C.K = X.K) (hcatch : Catch C.K C.cl xs hsV hs)
    (hFE : ∀ z ∈ FE, (∀ j ∈ z.1, C.cv j = true ∧ C.pin j = none) ∧ ∀ j ∈ vs, j ∈ z.1) (hg : Gl X x) (hm : X.mg x = some (.ref g)) (F : Fun X.K x x st g fd) (hb : L2.Binds X.K fd [a] []) (Sg : FnScope Ng [a] (defScope st)) (hNg : Ng[0]? = some a) (hva : Vis (defScope st) a)
    (hG : ∀ cdv, Makes X Ng x (defScope st) g cdv (defBody st) a q (TTr X.K hsV)) (hr : Room (k + 2) X.A) (he : PE X e (rd C W fe)) (cap : ∀ (i : Nat) (L : LamI), C.cl.lam[i]? = some L → ∀ pins s σ H, Inv X pins σ H s → Capt X.N σ0 L.scope L.cs H s.heap)
    (does : ∀ (i : Nat) (L : LamI), C.cl.lam[i]? = some L → LamDo X sc k L (FE.getD i ([], fun _ => .bad)).1 (fun E => rd C (WE' E) (FE.getD i ([], fun _ => .bad)).2))
    (hst : starEach [e] X.env = (false, eval e X.env) :: starEach [] X.env := by rfl) (hpl : (backTo pos (starEach [] X.env)).any (·.1) = false := by rfl) (hdb : (x == ("__debug__" : Str)) = false := by decide) (hda : (a == ("__debug__" : Str)) = false := by decide) (hca : (a == ("__classdict__" : Str)) = false := by decide) :
    PE X (.Call (.Name x p) [e] [] pos) (fun σ2 H Q => wipe σ2 vs = wipe σ0 vs ∧ rd C W (askV xs hs FE fe) σ2 H Q) := by
  obtain ⟨oc, od, kV, doc, pm, an, cdv, ct, osl, rfl, lk, hcd⟩ := F.ex
  exact de_askV hK hcatch (fun i z h => hFE z (List.mem_of_getElem? h)) hg hm F.kp lk hcd hb Sg hNg hva (hG cdv) hr he cap does hst hpl hdb hda hca
/-- by cases on the number -/
inductive LamAll (P : Nat → LamI → Prop) : Nat → List LamI → Prop
  | nil {n : Nat} : LamAll P n []
  | cons {n : Nat} {L : LamI} {ls : List LamI} : P n L → LamAll P (n + 1) ls → LamAll P n (L :: ls)
theorem LamAll.get {P : Nat → LamI → Prop} : ∀ {n : Nat} {ls : List LamI}, LamAll P n ls → ∀ (i : Nat) (L : LamI), ls[i]? = some L → P (n + i) L
  | _, _, .nil, i, L, h => by cases h
  | n, _, .cons h _, 0, L, e => by cases e; exact h
  | n, _, .cons _ t, i + 1, L, e => by
    have := LamAll.get t i L e
    rw [show n + 1 + i = n + (i + 1) by omega] at this
    exact this
theorem LamAll.all {P : Nat → LamI → Prop} {ls : List LamI} (h : LamAll P 0 ls) (i : Nat) (L : LamI) (e : ls[i]? = some L) : P i L := by
  have := h.get i L e
  rw [Nat.zero_add] at this
  exact this
end
end DL
/-! texts and written dicts -/
namespace DL
open PySem L2

/-! ### slices of texts -/
def cutD : D → Option Int → Option Int → Option D
  | .str z, l, h => if z.length ≤ sizeLine then some (.str (cutS z l h)) else none
  | _, _, _ => none
def sliceS (f : M T) (lo hi : M (Option Int)) : M T := bindM f fun t => bindM lo fun l => bindM hi fun h => bindM (lookM t) fun d => bindM (optM (cutD d l h)) fun e => retM (.fz e)
/-! ### x * n of a text -/
def mulSD : D → D → Option D
  | .str z, .int k => if z.length ≤ 1000 ∧ -1000 ≤ k ∧ k ≤ 1000 then some (.str (Txt.mul z k)) else none
  | _, _ => none
def rMulS : R2 := fun x y H Q => ∃ z k, x = .str z ∧ y = .int k ∧ z.length ≤ 1000 ∧ -1000 ≤ k ∧ k ≤ 1000 ∧ Q (.str (Txt.mul z k)) H
/-! ### sep.join, x.split -/
def strsD : List D → Option (List Str)
  | [] => some []
  | .str s :: ds => (strsD ds).map (s :: ·)
  | _ :: _ => none
def joinD (z : Str) (ds : List D) : Option D := match strsD ds with
  | some ys => if (ys.map (·.length)).sum + ys.length * z.length ≤ 16777216 then some (.str (Txt.join z ys)) else none
  | none => none
def joinM (z : Str) (b : M T) : M T := bindM b fun t => bindM (sqM t) fun q => bindM (optM (joinD z q.ds)) fun d => retM (.fz d)
def splitD (z : Str) : D → Option (List Str)
  | .str a => if (z.length == 0) = false ∧ a.length + 2 ≤ sizeLine ∧ (Txt.split a z).length ≤ sizeLine then some (Txt.split a z) else none
  | _ => none
def splitM (a : M T) (z : Str) : M T := bindM a fun t => bindM (lookM t) fun d => bindM (optM (splitD z d)) fun ys => retM (.ol ((ys.map D.str).map T.fz))
theorem strsD_eq : ∀ {ds : List D} {ys : List Str}, strsD ds = some ys → ds = ys.map D.str
  | [], ys, e => by cases e; rfl
  | d :: ds, ys, e => by
    cases d with
    | str s =>
      unfold strsD at e
      cases h : strsD ds with
      | none => rw [h] at e; cases e
      | some zs => rw [h] at e; cases e; rw [strsD_eq h]; rfl
    | _ => cases e
section
variable {K : PySem.W.Frag} {cl : Cl} {F : Hp}
theorem Dts.strs : ∀ {vs : List V} {ys : List Str}, Dts K cl F vs (ys.map D.str) → vs = ys.map V.str
  | _, [], h => by cases h; rfl
  | _, y :: ys, h => by
    cases h with
    | cons h hs => cases h; rw [Dts.strs hs]; rfl
theorem Dts.ofStrs : ∀ {ys : List Str}, Dts K cl F (ys.map V.str) (ys.map D.str)
  | [] => .nil
  | y :: ys => .cons (.str y) Dts.ofStrs
end
section
variable {X : Cx} {C : Cc} {W : WX}
theorem de_sliceS {e : Expr} {lo hi : Option Expr} {f : M T} {fl fh : M (Option Int)} {p2 pos : Pos} (he : PE X e (rd C W f)) (hl : PO X lo (rdO C W fl)) (hh : PO X hi (rdO C W fh)) : PE X (.Subscript e (.Slice lo hi none p2) pos) (rd C W (sliceS f fl fh)) :=
  pe_sub (pe_slice sl_str he hl hh) fun σ H Q ⟨Γ, τ, R, w⟩ => by
    refine rd_bind R w fun t Γ1 v H1 R1 w1 => ?_
    refine rdO_bind R1 (wp_under w1) fun l Γ2 H2 R2 w2 => ?_
    refine rdO_bind R2 w2 fun h Γ3 H3 R3 w3 => ?_
    obtain ⟨d, e1, w4⟩ := wp_lookM (Out.wp_bind w3)
    obtain ⟨d', e2, w5⟩ := wp_optM (Out.wp_bind w4)
    obtain ⟨F, ow, R3⟩ := R3
    have hd := R3.look R3.temps.1 e1
    cases d with
    | str z =>
      replace e2 : (if z.length ≤ sizeLine then some (D.str (cutS z l h)) else none) = some d' := e2
      split at e2 <;> cases e2
      rename_i hz
      cases hd
      exact ⟨z, rfl, hz, w5 _ _ (Rel.scal ⟨F, ow, R3.pop⟩ (.str _))⟩
    | _ => cases e2
theorem op_mulS : OpR X (binaryOp .Mult) rMulS := by
  intro pins s σ H x y v u Q I rx ry h
  obtain ⟨z, k, rfl, rfl, h1, h2, h3, q⟩ := h
  obtain ⟨t, rfl⟩ := rx
  obtain ⟨t2, rfl⟩ := ry
  refine PySem.SB.mul ⟨?_, fun h _ => ?_, fun h _ => ?_⟩ fun t' j => ⟨.str _, H, I.tok j, ⟨t', rfl⟩, q⟩
  · rw [decide_eq_false (by omega), decide_eq_false (by omega)]; rfl
  · have h4 : (9007199254740992 : Int) ≤ (2 ^ 63 - 1) / k := by
      rw [Int.le_ediv_iff_mul_le (by omega)]
      omega
    omega
  · have h4 : z.length * k.toNat ≤ 1000 * 1000 := Nat.mul_le_mul h1 (by omega)
    exact PyProof.Rows.short24 (by omega)
theorem sc_mulS {K : PySem.W.Frag} {cl : Cl} : Sc2 K cl rMulS mulSD := by
  intro H v1 v2 d1 d2 d Q h1 h2 e q
  unfold mulSD at e
  split at e
  · split at e <;> cases e
    rename_i hz
    cases h1
    cases h2
    exact ⟨_, _, rfl, rfl, hz.1, hz.2.1, hz.2.2, q _ (.str _)⟩
  · cases e
theorem de_join {z : Str} {j : Nat} {e : Expr} {f : M T} {p apos pos : Pos} (hK : C.K = X.K) (he : PE X e (rd C W f)) (hs : starEach [e] X.env = [(false, eval e X.env)] := by rfl)
    (hline : (apos.endLine == pos.line) = true := by rfl) : PE X (.Call (.Attribute (.Constant (.str z) j p) "join" apos) [e] [] pos) (rd C W (joinM z f)) :=
  pe_sub (pe_join pe_str he hs rfl hline) fun σ H Q ⟨Γ, τ, R, w⟩ => by
    refine ⟨⟨z, rfl⟩, ?_⟩
    refine rd_bind R w fun t Γ1 v H1 R1 w1 => ?_
    obtain ⟨q, e1, w2⟩ := wp_sqM (Out.wp_bind w1)
    obtain ⟨d, e2, w3⟩ := wp_optM (Out.wp_bind w2)
    obtain ⟨F, ow, R1⟩ := R1
    obtain ⟨a, vs, rfl, hq, hd, hz⟩ := R1.sq R1.temps.1 e1
    unfold joinD at e2
    split at e2
    · rename_i ys e3
      split at e2 <;> cases e2
      rename_i hl
      rw [strsD_eq e3] at hd
      have e4 := hd.strs
      subst e4
      refine ⟨z, a, ys, rfl, rfl, ?_, hl, w3 _ _ (Rel.scal ⟨F, ow, R1.pop⟩ (.str _))⟩
      rw [← hK]
      cases q with
      | l ds => exact .inl (SqL.of hq)
      | t ds => exact .inr (R1.ex.sqT hq)
      | s ns => exact .inl hq
    · cases e2
theorem de_split {z : Str} {j : Nat} {o : Expr} {f : M T} {p apos pos : Pos} (ho : PE X o (rd C W f)) (hs : starEach [.Constant (.str z) j p] X.env = [(false, eval (.Constant (.str z) j p) X.env)] := by rfl)
    (hbase : attributeBase o "split" X.env (eval o X.env) = eval o X.env := by rfl) (hline : (apos.endLine == pos.line) = true := by rfl) : PE X (.Call (.Attribute o "split" apos) [.Constant (.str z) j p] [] pos) (rd C W (splitM f z)) :=
  pe_sub (pe_split ho pe_str hs hbase hline) fun σ H Q ⟨Γ, τ, R, w⟩ => by
    refine rd_bind R w fun t Γ1 v H1 R1 w1 => ?_
    obtain ⟨d, e1, w2⟩ := wp_lookM (Out.wp_bind w1)
    obtain ⟨ys, e2, w3⟩ := wp_optM (Out.wp_bind w2)
    obtain ⟨F, ow, R1⟩ := R1
    have hd := R1.look R1.temps.1 e1
    cases d with
    | str a =>
      replace e2 : (if (z.length == 0) = false ∧ a.length + 2 ≤ sizeLine ∧ (Txt.split a z).length ≤ sizeLine then some (Txt.split a z) else none) = some ys := e2
      split at e2 <;> cases e2
      rename_i hz
      cases hd
      exact ⟨⟨a, rfl⟩, a, z, rfl, rfl, hz.1, hz.2.1, fun p hp => w3 _ _ (R1.pop.newList hp (by rw [List.length_map]; exact hz.2.2) Dts.ofStrs)⟩
    | _ => cases e2
end

/-! ### written dicts of the module -/
def kdGet (tab : List (Str × D)) : D → Option D
  | .str z => (tab.find? fun p => p.1 == z).map (·.2)
  | _ => none
def kdM (tab : List (Str × D)) (b : M T) : M T := bindM b fun t => bindM (lookM t) fun d => bindM (optM (kdGet tab d)) fun e => retM (.fz e)
section
variable {X : Cx} {C : Cc} {W : WX}
theorem de_kdict {x : Str} {a : Addr} {b : Expr} {fb : M T} {tab : List (Str × D)} {p pos : Pos} (hg : Gl X x) (hm : X.mg x = some (.ref a)) (ht : ∀ p ∈ tab, ∃ v, KDct X.K X.w a p.1 v ∧ Dt C.K C.cl emp v p.2) (hb : PE X b (rd C W fb))
    (hs : PlainIx b := by exact fun _ _ => rfl) (hx : (x == ("__debug__" : Str)) = false := by decide) : PE X (.Subscript (.Name x p) b pos) (rd C W (kdM tab fb)) :=
  pe_sub (pe_ix ix_kdict (pe_glob (v := .ref a) hg hm rfl hx) hb hs) fun σ H Q ⟨Γ, τ, R, w⟩ => by
    refine rd_bind R w fun t Γ1 v H1 R1 w1 => ?_
    obtain ⟨d, e1, w2⟩ := wp_lookM (Out.wp_bind w1)
    obtain ⟨e, e2, w3⟩ := wp_optM (Out.wp_bind w2)
    obtain ⟨F, ow, R1⟩ := R1
    have hd := R1.look R1.temps.1 e1
    cases d with
    | str z =>
      cases hd
      unfold kdGet at e2
      cases e3 : tab.find? (fun p => p.1 == z) with
      | none => simp [e3] at e2
      | some q =>
        simp [e3] at e2
        subst e2
        obtain ⟨v, h1, h2⟩ := ht q (List.mem_of_find?_eq_some e3)
        have e4 : q.1 = z := by simpa using List.find?_some e3
        rw [e4] at h1
        exact ⟨a, z, v, rfl, rfl, h1, w3 _ _ (Rel.scal ⟨F, ow, R1.pop⟩ h2)⟩
    | _ => cases e2
end

/-! ### a display of written things -/
def litT : V ⊕ List V → TE
  | .inl v => tC v
  | .inr xs => fun _ H Q => ∀ p, H p = none → Q (.ref p) (upd H p (.lst xs))
inductive Lit (K : PySem.W.Frag) (cl : Cl) : V ⊕ List V → D → Prop
  | one {v : V} {d : D} : Dt K cl emp v d → Lit K cl (.inl v) d
  | lst {xs : List V} {ds : List D} : Dts K cl emp xs ds → xs.length ≤ sizeLine → Lit K cl (.inr xs) (.lst ds)
inductive Lits (K : PySem.W.Frag) (cl : Cl) : List (Key × (V ⊕ List V)) → List (Key × D) → Prop
  | nil : Lits K cl [] []
  | cons {k : Key} {l : V ⊕ List V} {d : D} {ls : List (Key × (V ⊕ List V))} {ds : List (Key × D)} : Lit K cl l d → Lits K cl ls ds → Lits K cl ((k, l) :: ls) ((k, d) :: ds)
section
variable {X : Cx}
theorem pa_litN : PA X [] (fun _ H Q => Q [] H) := pa_sub pa_nil fun _ _ _ q => q
theorem pa_litC {e : Expr} {es : List Expr} {x : V} {xs : List V} (he : PE X e (tC x)) (hr : PA X es (fun _ H Q => Q xs H)) (hs : starEach (e :: es) X.env = (false, eval e X.env) :: starEach es X.env := by rfl) : PA X (e :: es) (fun _ H Q => Q (x :: xs) H) := pa_sub (pa_cons he hr hs) fun _ _ _ q => q
theorem pe_litL {es : List Expr} {xs : List V} {pos : Pos} (h : PA X es (fun _ H Q => Q xs H)) (hz : xs.length ≤ sizeLine) : PE X (.List es pos) (litT (.inr xs)) := pe_sub (pe_lst h) fun _ _ _ q => ⟨hz, q⟩
theorem pe_litO {e : Expr} {v : V} (h : PE X e (tC v)) : PE X e (litT (.inl v)) := h
theorem pe_negC {i : Int} {j : Nat} {p pos : Pos} : PE X (.UnaryOp .USub (.Constant (.int i) j p) pos) (tC (.int (-i))) := pe_sub (pe_un un_neg pe_int) fun _ _ _ q => ⟨i, rfl, q⟩
end
theorem upd_swap {H : Hp} {p q : Addr} {o u : HO} (h : p ≠ q) : upd (upd H p o) q u = upd (upd H q u) p o := by
  funext a
  by_cases h1 : a = p
  · subst h1
    rw [upd_ne h, upd_same, upd_same]
  · by_cases h2 : a = q
    · subst h2
      rw [upd_same, upd_ne h1, upd_same]
    · rw [upd_ne h2, upd_ne h1, upd_ne h1, upd_ne h2]
theorem upd_upd {H : Hp} {p : Addr} {o u : HO} : upd (upd H p o) p u = upd H p u := by
  funext a
  by_cases h1 : a = p
  · subst h1; rw [upd_same, upd_same]
  · rw [upd_ne h1, upd_ne h1, upd_ne h1]
section
variable {C : Cc} {σ : St} {Γ : Env} {τ : Hand}
theorem pairs_lit {p : Addr} : ∀ {ls : List (Key × (V ⊕ List V))} {ds : List (Key × D)}, Lits C.K C.cl ls ds → ∀ {G F : Hp} {ow : Addr → Option Root} {Q : List (V × V) → Hp → Prop}, Rl C σ G Γ τ F ow → G p = none →
    (∀ (kvs : List (Key × V)) (G' F' : Hp) (ow' : Addr → Option Root), Rl C σ G' Γ τ F' ow' → G' p = none → Sub F F' → kvs.map (·.1) = ds.map (·.1) → Dts C.K C.cl F' (kvs.map (·.2)) (ds.map (·.2)) → Q (kvs.map fun kv => (kV kv.1, kv.2)) (upd G' p (.dK []))) →
    tPairs (ls.map fun l => (tC (kV l.1), litT l.2)) σ (upd G p (.dK [])) Q
  | _, _, .nil, G, F, ow, Q, R, hp, q => q [] G F ow R hp (Sub.refl F) rfl .nil
  | _, _, .cons (k := k) h hs, G, F, ow, Q, R, hp, q => by
    cases h with
    | @one v d hd =>
      exact pairs_lit hs R hp fun kvs G' F' ow' R' hp' sb e1 e2 => q ((k, v) :: kvs) G' F' ow' R' hp' sb (by simp [e1]) (.cons (hd.mono (sub_emp F')) e2)
    | @lst xs es hd hz =>
      intro a ha
      have n : p ≠ a := fun z => by
        subst z
        rw [upd_same] at ha
        cases ha
      have ga : G a = none := by
        rw [upd_ne (Ne.symm n)] at ha
        exact ha
      rw [upd_swap n]
      obtain ⟨R2, sb2⟩ := R.newF (o := .lst xs) ga nt_lst
      refine pairs_lit hs R2 (by rw [upd_ne n]; exact hp) fun kvs G' F' ow' R' hp' sb e1 e2 => q ((k, .ref a) :: kvs) G' F' ow' R' hp' (sb2.trans sb) (by simp [e1]) (.cons ?_ e2)
      exact .lst (sb _ _ (upd_same ..)) hz (hd.mono (sub_emp F'))
end
theorem putK_new' {kvs : List (Key × V)} {k : Key} {v : V} (h : k ∉ kvs.map (·.1)) : putK kvs k v = kvs ++ [(k, v)] := by
  refine putK_new v ?_
  induction kvs with
  | nil => rfl
  | cons p r ih =>
    rw [List.map_cons, List.mem_cons, not_or] at h
    rw [valV_neg (fun z => h.1 z.symm)]
    exact ih h.2
theorem mergeK_nodup : ∀ (kvs acc : List (Key × V)), ((acc ++ kvs).map (·.1)).Nodup → mergeK acc kvs = acc ++ kvs
  | [], acc, _ => by rw [List.append_nil]; rfl
  | p :: r, acc, h => by
    have h' : p.1 ∉ acc.map (·.1) := by
      rw [List.map_append, List.map_cons] at h
      intro z
      exact (List.nodup_append.mp h).2.2 _ z _ List.mem_cons_self rfl
    show mergeK (putK acc p.1 p.2) r = _
    rw [putK_new' h', mergeK_nodup r _ (by rw [List.append_assoc]; exact h), List.append_assoc]
    rfl
def dictM (kds : List (Key × D)) : M T := retM (.fz (.dK kds))
section
variable {X : Cx} {C : Cc} {W : WX}
theorem de_dictC {pos : Pos} {keys : List (Option Expr)} {values : List Expr} {ls : List (Key × (V ⊕ List V))} {kds : List (Key × D)} (h : PPs X pos keys values (ls.map fun l => (tC (kV l.1), litT l.2))) (hl : Lits C.K C.cl ls kds)
    (hall : keys.all (·.isSome) = true) (hlen : keys.length = values.length) (h0 : keys ≠ []) (h15 : keys.length ≤ 15) (hn : (kds.map (·.1)).Nodup) (hk : kds.length ≤ 15) : PE X (.Dict keys values pos) (rd C W (dictM kds)) :=
  pe_sub (pe_disp h hall hlen h0 h15) fun σ H Q ⟨Γ, τ, R, w⟩ => by
    obtain ⟨F, ow, R⟩ := R
    intro p hp
    refine pairs_lit hl R hp fun kvs G' F' ow' R' hp' sb e1 e2 => ⟨upd_same .., kvs, rfl, ?_, ?_⟩
    · have : kvs.length = kds.length := by
        have := congrArg List.length e1
        simpa using this
      rw [this]
      exact hk
    · rw [upd_upd, mergeK_nodup kvs [] (by rw [List.nil_append, e1]; exact hn), List.nil_append]
      obtain ⟨R2, sb2⟩ := R'.newF (o := .dK kvs) hp' (fun _ z => by cases z)
      exact w _ _ ⟨_, _, R2.push (.dK (upd_same ..) e1 (e2.mono sb2))⟩
/-- d[key] -/
def D.key : D → Option Key
  | .int i => some (.inl i)
  | .str z => some (.inr z)
  | _ => none
def dgetD (d : D) (k : D) : Option D := match d, k.key with
  | .dK kds, some k => (kds.find? fun p => decide (p.1 = k)).map (·.2)
  | _, _ => none
def dgetT (t1 t2 : T) : M T := match t1 with
  | .fz d => bindM (lookM t2) fun k => bindM (optM (dgetD d k)) fun e => retM (.fz e)
  | _ => fun _ => .bad
def dgetM (a b : M T) : M T := bindM a fun t1 => bindM b fun t2 => dgetT t1 t2
theorem dk_find {K : PySem.W.Frag} {cl : Cl} {F : Hp} {k : Key} {e : D} : ∀ {kvs : List (Key × V)} {kds : List (Key × D)}, kvs.map (·.1) = kds.map (·.1) → Dts K cl F (kvs.map (·.2)) (kds.map (·.2)) → (kds.find? fun p => decide (p.1 = k)).map (·.2) = some e → ∃ v, valV kvs k = some v ∧ Dt K cl F v e
  | [], [], _, _, h => by cases h
  | [], _ :: _, h, _, _ => by cases h
  | _ :: _, [], h, _, _ => by cases h
  | (k1, v1) :: kvs, (k2, d2) :: kds, h, hd, h3 => by
    rw [List.map_cons, List.map_cons] at h
    have hk : k1 = k2 := (List.cons.inj h).1
    subst hk
    rw [List.map_cons, List.map_cons] at hd
    cases hd with
    | cons hv hr =>
      by_cases z : k1 = k
      · subst z
        rw [List.find?_cons_of_pos (by simp)] at h3
        cases h3
        exact ⟨v1, valV_pos rfl, hv⟩
      · rw [List.find?_cons_of_neg (by simpa using z)] at h3
        obtain ⟨v, e1, e2⟩ := dk_find (List.cons.inj h).2 hr h3
        exact ⟨v, by rw [valV_neg z]; exact e1, e2⟩
theorem key_dt {K : PySem.W.Frag} {cl : Cl} {F : Hp} {v : V} {d : D} {k : Key} (h : Dt K cl F v d) (e : d.key = some k) : v = kV k := by
  cases h <;> first | (cases e; rfl) | cases e
theorem de_dget {o i : Expr} {fo fi : M T} {pos : Pos} (hu : X.A.units + 1 < cLine) (ho : PE X o (rd C W fo)) (hi : PE X i (rd C W fi)) (hs : NoSl i := by exact fun _ _ => rfl) : PE X (.Subscript o i pos) (rd C W (dgetM fo fi)) :=
  pe_sub (pe_dget hu ho hi hs) fun σ H Q ⟨Γ, τ, R, w⟩ => by
    refine rd_bind R w fun t1 Γ1 v1 H1 R1 w1 => ?_
    refine rd_bind R1 (wp_under w1) fun t2 Γ2 v2 H2 R2 w2 => ?_
    unfold dgetT at w2
    cases t1 with
    | fz d =>
      obtain ⟨kd, e1, w3⟩ := wp_lookM (Out.wp_bind w2)
      obtain ⟨e, e2, w4⟩ := wp_optM (Out.wp_bind w3)
      obtain ⟨F, ow, R2⟩ := R2
      have hk := R2.look R2.temps.1 e1
      have ht := R2.temps.2.1
      unfold dgetD at e2
      split at e2
      · rename_i kds k e3
        have ek := key_dt hk e3
        subst ek
        cases ht with
        | fz ht =>
          cases ht with
          | dK h1 h2 h3 =>
            obtain ⟨v, e4, e5⟩ := dk_find h2 h3 e2
            refine ⟨_, v, rfl, ?_, w4 _ _ ⟨F, ow, R2.pop.pop.push e5⟩⟩
            rw [← e4]
            exact DGet.k (R2.ex _ _ h1)
      · cases e2
    | _ => exact w2.elim
end
theorem units1 {n : Nat} (h : n + 64 < cLine) : n + 1 < cLine := by omega
end DL
/-! how the later meanings come out -/
namespace DL
open PySem L2
section
variable {α β : Type} {Γ Γ' : Env} {x : Exn} {f g : M T} {i j : Nat} {t t1 t2 : T} {d d1 d2 : D} {ds es : List D}
@[simp] theorem ev_zipIt : zipIt f g Γ = (fzD f Γ).bind fun d1 => bindM (fzD g) fun d2 => bindM (optM (srcD d1)) fun xs => bindM (optM (srcD d2)) fun ys => retM (zipD xs ys) := by exact rfl
@[simp] theorem ev_src1 : srcD (.lst ds) = some ds := by exact rfl
@[simp] theorem ev_src2 : srcD (.tup ds) = some ds := by exact rfl
@[simp] theorem ev_raise {c : Str} {fl : List D → List (Str × D)} {fa : M (List T)} : raiseM c fl fa Γ = (fa Γ).bind fun ts => bindM (optM (T.fzs ts)) fun ds => fun Γ => .exc ⟨c, fl ds⟩ Γ := by exact rfl
@[simp] theorem ev_ask {xs : List Str} {hs : List HdlD} {ws : List Nat} : askM xs hs ws f Γ = askO xs hs ws (f (wipeE Γ ws)) := by exact rfl
@[simp] theorem ev_askOk {xs : List Str} {hs : List HdlD} {ws : List Nat} : askO xs hs ws (.ok t Γ) = (frz t Γ).bind (toldT ws) := by exact rfl
@[simp] theorem ev_told {ws : List Nat} : toldT ws (.fz d) Γ = .ok (.fz (.tup [.str "told", d])) (wipeE Γ ws) := by exact rfl
@[simp] theorem ev_askX {xs : List Str} {hs : List HdlD} {ws : List Nat} : askO xs hs ws (.exc x Γ) = gd (xs.contains x.cls) (orB (catchD x hs) fun d => .ok (.fz d) (wipeE Γ ws)) := by
  show (match xs.contains x.cls, catchD x hs with | true, some d => Out.ok (T.fz d) (wipeE Γ ws) | _, _ => .bad) = _
  cases xs.contains x.cls <;> cases catchD x hs <;> exact rfl
def addS (Γ : Env) : Option Sq → Option Sq → Out T
  | some (.l xs), some (.l ys) => gd (decide (xs.length + ys.length ≤ sizeLine)) (.ok (.ol ((xs ++ ys).map T.fz)) Γ)
  | some (.t xs), some (.t ys) => gd (decide (xs.length + ys.length ≤ sizeLine)) (.ok (.fz (.tup (xs ++ ys))) Γ)
  | _, _ => .bad
def addO (Γ : Env) (a b : Option D) (p q : Option Sq) : Out T := match a, b with
  | some (.int i), some (.int j) => .ok (.fz (.int (i + j))) Γ
  | some (.str x), some (.str y) => gd (decide (x.length + y.length ≤ sizeLine)) (.ok (.fz (.str (x ++ y))) Γ)
  | _, _ => addS Γ p q
@[simp] theorem ev_addT : addT t1 t2 Γ = addO Γ (look Γ t1) (look Γ t2) (sqOf Γ t1) (sqOf Γ t2) := by
  unfold addT addO
  generalize look Γ t1 = a
  generalize look Γ t2 = b
  generalize sqOf Γ t1 = p
  generalize sqOf Γ t2 = q
  have hi : ∀ (n m : Nat) (o : Out T), (if n + m ≤ sizeLine then o else .bad) = gd (decide (n + m ≤ sizeLine)) o := fun n m o => by
    by_cases h : n + m ≤ sizeLine
    · rw [if_pos h, decide_eq_true h]; exact rfl
    · rw [if_neg h, decide_eq_false h]; exact rfl
  have hs : (match p, q with
    | some (.l xs), some (.l ys) => if xs.length + ys.length ≤ sizeLine then .ok (.ol ((xs ++ ys).map T.fz)) Γ else .bad
    | some (.t xs), some (.t ys) => if xs.length + ys.length ≤ sizeLine then .ok (.fz (.tup (xs ++ ys))) Γ else .bad
    | _, _ => .bad : Out T) = addS Γ p q := by
    unfold addS
    split <;> first | exact hi _ _ _ | exact rfl
  split
  · exact rfl
  · exact hi _ _ _
  · rename_i n1 n2
    refine hs.trans ?_
    first
      | exact rfl
      | (split
         · exact (n1 _ _ rfl rfl).elim
         · exact (n2 _ _ rfl rfl).elim
         · exact rfl)
@[simp] theorem addO_i {k l : Int} {p q : Option Sq} : addO Γ (some (.int k)) (some (.int l)) p q = .ok (.fz (.int (k + l))) Γ := by exact rfl
@[simp] theorem addO_s {x y : Str} {p q : Option Sq} : addO Γ (some (.str x)) (some (.str y)) p q = gd (decide (x.length + y.length ≤ sizeLine)) (.ok (.fz (.str (x ++ y))) Γ) := by exact rfl
@[simp] theorem addO_l {xs ys us vs : List D} : addO Γ (some (.lst us)) (some (.lst vs)) (some (.l xs)) (some (.l ys)) = gd (decide (xs.length + ys.length ≤ sizeLine)) (.ok (.ol ((xs ++ ys).map T.fz)) Γ) := by exact rfl
@[simp] theorem addO_t {xs ys us vs : List D} : addO Γ (some (.tup us)) (some (.tup vs)) (some (.t xs)) (some (.t ys)) = gd (decide (xs.length + ys.length ≤ sizeLine)) (.ok (.fz (.tup (xs ++ ys))) Γ) := by exact rfl
def mulO (Γ : Env) : Option D → Option D → Option Sq → Out T
  | some (.int k), some (.int i), _ => gd (small64 i || small64 k) (.ok (.fz (.int (i * k))) Γ)
  | some (.int k), _, some (.l xs) => gd (decide (-(2 ^ 63) ≤ k) && decide (k < 2 ^ 63) && decide (xs.length * k.toNat ≤ sizeLine)) (.ok (.ol ((repL xs k).map T.fz)) Γ)
  | _, _, _ => .bad
theorem ev_mulT : mulT t1 t2 Γ = mulO Γ (look Γ t2) (look Γ t1) (sqOf Γ t1) := by
  unfold mulT
  generalize look Γ t1 = a
  generalize look Γ t2 = b
  generalize sqOf Γ t1 = p
  rcases b with _ | d <;> try exact rfl
  cases d <;> try exact rfl
  rcases a with _ | e
  · rcases p with _ | q <;> try exact rfl
    cases q <;> first | exact rfl | exact gd_ite _ _
  · cases e <;> first
      | exact gd_ite _ _
      | (rcases p with _ | q <;> first | exact rfl | (cases q <;> first | exact rfl | exact gd_ite _ _))
@[simp] theorem ev_mulK {k : Int} : mulT t1 (.fz (.int k)) Γ = mulO Γ (some (.int k)) (look Γ t1) (sqOf Γ t1) := ev_mulT
@[simp] theorem mulO_i {k l : Int} {p : Option Sq} : mulO Γ (some (.int k)) (some (.int l)) p = gd (small64 l || small64 k) (.ok (.fz (.int (l * k))) Γ) := by exact rfl
@[simp] theorem mulO_l {k : Int} {xs us : List D} : mulO Γ (some (.int k)) (some (.lst us)) (some (.l xs)) = gd (decide (-(2 ^ 63) ≤ k) && decide (k < 2 ^ 63) && decide (xs.length * k.toNat ≤ sizeLine)) (.ok (.ol ((repL xs k).map T.fz)) Γ) := by exact rfl
end
theorem rng_int {r : Int} {m : Int} (h0 : 0 ≤ r) (h1 : r < m) (hm : m ≤ 100000) : rngOk 0 r = true := by
  have e : r = (r.toNat : Int) := by omega
  rw [e]
  refine rng_nat ?_
  have : 100000 ≤ sizeLine := by decide
  omega
theorem ints_of {es : List D} (h : ∀ e ∈ es, ∃ x, e = D.int x) : ∃ xs : List Int, es = xs.map D.int := by
  induction es with
  | nil => exact ⟨[], rfl⟩
  | cons e es ih =>
    obtain ⟨x, rfl⟩ := h e List.mem_cons_self
    obtain ⟨xs, rfl⟩ := ih fun e he => h e (List.mem_cons_of_mem _ he)
    exact ⟨x :: xs, rfl⟩
/-- and each has a property -/
theorem ints_ofP {P : Int → Prop} {es : List D} (h : ∀ e ∈ es, ∃ x, e = D.int x ∧ P x) : ∃ xs : List Int, es = xs.map D.int ∧ ∀ x ∈ xs, P x := by
  induction es with
  | nil => exact ⟨[], rfl, fun _ h => nomatch h⟩
  | cons e es ih =>
    obtain ⟨x, rfl, hx⟩ := h e List.mem_cons_self
    obtain ⟨xs, rfl, hxs⟩ := ih fun e he => h e (List.mem_cons_of_mem _ he)
    exact ⟨x :: xs, rfl, List.forall_mem_cons.mpr ⟨hx, hxs⟩⟩
theorem fits_ints {n : Nat} : ∀ xs : List Int, D.fits n (xs.map D.int) = true
  | [] => by unfold D.fits; exact rfl
  | x :: xs => by
    rw [List.map_cons, D.fits, fits_ints xs]
    unfold D.fit
    exact rfl
theorem eqb_int {k l : Int} : D.eqb (.int k) (.int l) = decide (k = l) := by
  show (k == l) = _
  rw [Bool.beq_eq_decide_eq]
theorem eqbs_int : ∀ xs ys : List Int, D.eqbs (xs.map D.int) (ys.map D.int) = decide (xs = ys)
  | [], [] => rfl
  | [], _ :: _ => rfl
  | _ :: _, [] => rfl
  | x :: xs, y :: ys => by
    rw [List.map_cons, List.map_cons, D.eqbs, eqbs_int xs ys, eqb_int]
    by_cases h1 : x = y <;> by_cases h2 : xs = ys <;> simp [h1, h2]
theorem fit_ints {n : Nat} {xs : List Int} : D.fit (n + 1) (.lst (xs.map D.int)) = true := by unfold D.fit; exact fits_ints xs
theorem fit_intsT {n : Nat} {xs : List Int} : D.fit (n + 1) (.tup (xs.map D.int)) = true := by unfold D.fit; exact fits_ints xs
theorem ne_ints {xs ys : List Int} : neD (.lst (xs.map D.int)) (.lst (ys.map D.int)) = some (.bl (!decide (xs = ys))) := by
  have e2 : D.eqb (.lst (xs.map D.int)) (.lst (ys.map D.int)) = decide (xs = ys) := by unfold D.eqb; exact eqbs_int xs ys
  unfold neD
  rw [fit_ints, fit_ints, e2]
  exact rfl
theorem eq_ints {xs ys : List Int} : eqD (.lst (xs.map D.int)) (.lst (ys.map D.int)) = some (.bl (decide (xs = ys))) := by
  have e2 : D.eqb (.lst (xs.map D.int)) (.lst (ys.map D.int)) = decide (xs = ys) := by unfold D.eqb; exact eqbs_int xs ys
  unfold eqD
  rw [fit_ints, fit_ints, e2]
  exact rfl
@[simp] theorem ne_intsI {xs : List Int} : neD (.lst (xs.map D.int)) (.lst (xs.map D.int)) = some (.bl false) := by rw [ne_ints]; simp
theorem ne_ints0 {xs : List Int} : neD (.lst (xs.map D.int)) (.lst []) = some (.bl (!decide (xs = []))) := ne_ints (ys := [])
theorem ixN_of {n : Nat} {k : Int} (h0 : 0 ≤ k) (h1 : k < n) : ixN n k = some k.toNat := by
  unfold ixN
  rw [if_pos h0, if_pos h1]
theorem any_int {k : Int} : ∀ {xs : List Int}, ((xs.map D.int).any fun y => y.eqb (.int k)) = decide (k ∈ xs)
  | [] => rfl
  | x :: xs => by
    rw [List.map_cons, List.any_cons, any_int, eqb_int]
    by_cases h1 : x = k
    · simp [h1]
    · have h2 : ¬ k = x := fun e => h1 e.symm
      simp [h1, h2]
theorem in_ints {k : Int} {xs : List Int} : inD (.int k) (.lst (xs.map D.int)) = some (.bl (decide (k ∈ xs))) := by
  have h1 : D.fit 32 (.int k) = true := by unfold D.fit; exact rfl
  have h2 : D.fit 64 (.lst (xs.map D.int)) = true := fit_ints
  show (if (D.fit 32 (.int k) && D.fit 64 (.lst (xs.map D.int))) = true then some ((xs.map D.int).any fun y => y.eqb (.int k)) else none).map D.bl = _
  rw [h1, h2, any_int]
  exact rfl
theorem flat_ints : ∀ {xs : List Int}, (xs.map D.int).all D.flat = true
  | [] => rfl
  | _ :: xs => by rw [List.map_cons, List.all_cons, flat_ints]; exact rfl
theorem in_intsT {k : Int} {xs : List Int} : inD (.int k) (.tup (xs.map D.int)) = some (.bl (decide (k ∈ xs))) := by
  show (if (D.flat (.int k) && (xs.map D.int).all D.flat) = true then some ((xs.map D.int).any fun y => y.eqb (.int k)) else none).map D.bl = _
  rw [flat_ints, any_int]
  exact rfl
theorem bools_map : ∀ {bs : List Bool}, bools (bs.map D.bl) = some bs
  | [] => rfl
  | b :: bs => by rw [List.map_cons, bools, bools_map]; exact rfl
theorem all_bls {bs : List Bool} : allD [.lst (bs.map D.bl)] = some (.bl (bs.all id)) := by
  show (bools (bs.map D.bl)).map _ = _
  rw [bools_map]
  exact rfl
theorem any_bls {bs : List Bool} : anyD [.lst (bs.map D.bl)] = some (.bl (bs.any id)) := by
  show (bools (bs.map D.bl)).map _ = _
  rw [bools_map]
  exact rfl
/-- a comprehension over numbers, without effects -/
theorem comp_fun {A : Type} {vs : List Nat} {g : D → M Unit} {ft : M Bool} {fe : M T} {Γ : Env} (p : A → D) (q : A → D) : ∀ (xs : List A), (∀ x ∈ xs, turnL vs g ft fe (p x) Γ = .ok (some (q x)) Γ) → compL vs g ft fe (xs.map p) Γ = .ok (xs.map q) Γ
  | [], _ => rfl
  | x :: xs, h => by
    have h1 := h x List.mem_cons_self
    have ih := comp_fun p q xs fun x hx => h x (List.mem_cons_of_mem _ hx)
    show (turnL vs g ft fe (p x) Γ).bind (fun o => bindM (compL vs g ft fe (xs.map p)) fun es => retM (o.toList ++ es)) = _
    rw [h1]
    show (compL vs g ft fe (xs.map p) Γ).bind (fun es => retM ((some (q x)).toList ++ es)) = _
    rw [ih]
    rfl
theorem zip_ints {xs ys : List Int} : zipD (xs.map D.int) (ys.map D.int) = (xs.zip ys).map fun p => .tup [.int p.1, .int p.2] := by
  unfold zipD
  rw [List.zip_map, List.map_map]
  rfl
mutual
theorem D.eqb_self : ∀ (n : Nat) (d : D), d.fit n = true → d.eqb d = true
  | n, d, h => by
    cases d with
    | non => rfl
    | bl b => show (b == b) = true; exact beq_self_eq_true b
    | int k => show (k == k) = true; exact beq_self_eq_true k
    | str x => show (x == x) = true; exact beq_self_eq_true x
    | lst xs =>
      cases n with
      | zero => unfold D.fit at h; cases h
      | succ n =>
        unfold D.fit at h
        unfold D.eqb
        exact D.eqbs_self n xs h
    | tup xs =>
      cases n with
      | zero => unfold D.fit at h; cases h
      | succ n =>
        unfold D.fit at h
        unfold D.eqb
        exact D.eqbs_self n xs h
    | _ => unfold D.fit at h; cases h
theorem D.eqbs_self : ∀ (n : Nat) (ds : List D), D.fits n ds = true → D.eqbs ds ds = true
  | n, [], h => by unfold D.eqbs; rfl
  | n, d :: ds, h => by
    unfold D.fits at h
    rw [Bool.and_eq_true] at h
    unfold D.eqbs
    rw [D.eqb_self n d h.1, D.eqbs_self n ds h.2]
    rfl
end
theorem ne_self {d : D} (h : d.fit 64 = true) : neD d d = some (.bl false) := by
  unfold neD
  rw [h, D.eqb_self 64 d h]
  rfl
theorem eq_self {d : D} (h : d.fit 64 = true) : eqD d d = some (.bl true) := by
  unfold eqD
  rw [h, D.eqb_self 64 d h]
  rfl
@[simp] theorem fit_lst {n : Nat} {xs : List D} : D.fit (n + 1) (.lst xs) = D.fits n xs := by rw [D.fit]
@[simp] theorem fit_tup {n : Nat} {xs : List D} : D.fit (n + 1) (.tup xs) = D.fits n xs := by rw [D.fit]
@[simp] theorem fit_str {n : Nat} {x : Str} : D.fit n (.str x) = PyData.strOk x := by unfold D.fit; exact rfl
@[simp] theorem fit_int {n : Nat} {x : Int} : D.fit n (.int x) = true := by unfold D.fit; exact rfl
@[simp] theorem fit_bl {n : Nat} {x : Bool} : D.fit n (.bl x) = true := by unfold D.fit; exact rfl
@[simp] theorem fit_non {n : Nat} : D.fit n .non = true := by unfold D.fit; exact rfl
@[simp] theorem fits_nil {n : Nat} : D.fits n [] = true := by unfold D.fits; exact rfl
@[simp] theorem fits_cons {n : Nat} {x : D} {xs : List D} : D.fits n (x :: xs) = (D.fit n x && D.fits n xs) := by rw [D.fits]
section
variable {Γ : Env} {i : Nat} {d : D}
def rtX (i : Nat) (Γ : Env) : Option (Option T) → Out Flow
  | some (some (.fz d)) => .ok (.ret (.fz d)) Γ
  | some (some (.ol ts)) => .ok (.ret (.ol ts)) (Γ.set i none)
  | _ => .bad
@[simp] theorem ev_retX : retX i Γ = rtX i Γ Γ[i]? := by
  unfold retX rtX
  generalize Γ[i]? = o
  rcases o with _ | _ | t <;> first | exact rfl | (cases t <;> exact rfl)
@[simp] theorem rtX_f : rtX i Γ (some (some (.fz d))) = .ok (.ret (.fz d)) Γ := by exact rfl
@[simp] theorem rtX_l {ts : List T} : rtX i Γ (some (some (.ol ts))) = .ok (.ret (.ol ts)) (Γ.set i none) := by exact rfl
@[simp] theorem ev_chain (f g : D → D → Option D) (a b c : M T) : chainM f g a b c Γ = (a Γ).bind fun t1 => bindM b fun t2 => bindM (lookM t1) fun d1 => bindM (lookM t2) fun d2 => bindM (guardM d2.scal) fun _ => bindM (optM (f d1 d2)) fun z => bindM (optM z.toB) fun k =>
  if k then bindM c fun t3 => bindM (lookM t3) fun d3 => bindM (optM (g d2 d3)) fun d => retM (.fz d) else retM (.fz (.bl false)) := by exact rfl
end
/-- a turn of a comprehension with a test -/
theorem turn_if {vs : List Nat} {g : D → M Unit} {ft : M Bool} {fe : M T} {d e : D} {Γ Γ1 Γ2 : Env} {b : Bool} (h1 : g d Γ = .ok () Γ1) (h2 : ft Γ1 = .ok b Γ1) (h3 : b = true → fzD fe Γ1 = .ok e Γ1) (h4 : wipeE Γ1 vs = Γ) : turnL vs g ft fe d Γ = .ok (if b then some e else none) Γ := by
  unfold turnL
  rw [ev_bind, h1, ev_ok, ev_bind, ev_noX, h2, xB_o, ev_ok, ev_bind]
  cases b with
  | true => rw [if_pos rfl, ev_bind, ev_noX, h3 rfl, xB_o, ev_ok, ev_ret, ev_ok, h4]; rfl
  | false => rw [if_neg (by decide), ev_ret, ev_ok, h4]; rfl
theorem inner_if {A : Type} {vs : List Nat} {g : D → M Unit} {ft : M Bool} {fe : M T} {Γ : Env} (p : A → D) (q : A → D) (b : A → Bool) : ∀ (xs : List A) (acc : List D), acc.length + xs.length ≤ sizeLine → (∀ x ∈ xs, turnL vs g ft fe (p x) Γ = .ok (if b x then some (q x) else none) Γ) → innerL vs g ft fe acc (xs.map p) Γ = .ok (acc ++ (xs.filter b).map q) Γ
  | [], acc, _, _ => by rw [List.map_nil, List.filter_nil, List.map_nil, List.append_nil]; rfl
  | x :: xs, acc, hl, h => by
    rw [List.length_cons] at hl
    show (turnL vs g ft fe (p x) Γ).bind (fun o => bindM (growL acc o) fun acc' => innerL vs g ft fe acc' (xs.map p)) = _
    rw [h x List.mem_cons_self, ev_ok]
    have h' := fun y hy => h y (List.mem_cons_of_mem _ hy)
    cases hb : b x with
    | true =>
      rw [if_pos rfl, List.filter_cons_of_pos hb, List.map_cons]
      show (bindM (guardM (decide (acc.length < sizeLine))) (fun _ => retM (acc ++ [q x])) Γ).bind _ = _
      rw [decide_eq_true (by omega)]
      show innerL vs g ft fe (acc ++ [q x]) (xs.map p) Γ = _
      rw [inner_if p q b xs (acc ++ [q x]) (by rw [List.length_append, List.length_singleton]; omega) h', List.append_assoc]
      rfl
    | false =>
      rw [if_neg (by decide), List.filter_cons_of_neg (by rw [hb]; decide)]
      exact inner_if p q b xs acc (by omega) h'
theorem outer_all {A : Type} {vs vs1 : List Nat} {g : D → M Unit} {fi1 : M (List D)} {g1 : D → M Unit} {ft1 : M Bool} {fe : M T} {Γ : Env} (p : A → D) (r : A → List D) (N : Nat) : ∀ (xs : List A) (acc : List D), acc.length + xs.length * N ≤ sizeLine → (∀ x ∈ xs, (r x).length ≤ N ∧ ∀ acc : List D, acc.length + N ≤ sizeLine → ∃ Γ1 Γ2 ds, g (p x) Γ = .ok () Γ1 ∧ fi1 Γ1 = .ok ds Γ2 ∧ innerL vs1 g1 ft1 fe acc ds (wipeE Γ2 vs1) = .ok (acc ++ r x) (wipeE Γ2 vs1) ∧ wipeE (wipeE Γ2 vs1) vs = Γ) → outerL vs vs1 g (retM true) fi1 g1 ft1 fe acc (xs.map p) Γ = .ok (acc ++ xs.flatMap r) Γ
  | [], acc, _, _ => by rw [List.map_nil, List.flatMap_nil, List.append_nil]; rfl
  | x :: xs, acc, hl, h => by
    rw [List.length_cons, Nat.add_mul, Nat.one_mul] at hl
    obtain ⟨hr, hx⟩ := h x List.mem_cons_self
    obtain ⟨Γ1, Γ2, ds, e1, e2, e3, e4⟩ := hx acc (by omega)
    have ih := outer_all p r N xs (acc ++ r x) (by rw [List.length_append]; omega) fun y hy => h y (List.mem_cons_of_mem _ hy)
    rw [List.map_cons, List.flatMap_cons, ← List.append_assoc, ← ih]
    conv => lhs; unfold outerL
    rw [ev_bind, e1, ev_ok, ev_bind, ev_noX, ev_ret, xB_o, ev_ok, if_pos rfl, ev_bind, ev_bind, ev_noX, e2, xB_o, ev_ok]
    show (innerL vs1 g1 ft1 fe acc ds (wipeE Γ2 vs1)).bind _ = _
    rw [e3, ev_ok, e4]
theorem at_last {α : Type} {xs : List α} : atI xs (-1) = xs.getLast? := by
  unfold atI
  cases xs with
  | nil => rfl
  | cons x xs =>
    have e : ixN (x :: xs).length (-1) = some xs.length := by
      unfold ixN
      rw [if_neg (by decide), List.length_cons, if_pos (by omega)]
      congr 1
      omega
    rw [e, List.getLast?_eq_getElem?]
    rfl
theorem eqb_tups {xs ys : List Int} : D.eqb (.tup (xs.map D.int)) (.tup (ys.map D.int)) = decide (xs = ys) := by unfold D.eqb; exact eqbs_int xs ys
theorem eq_intsT {xs ys : List Int} : eqD (.tup (xs.map D.int)) (.tup (ys.map D.int)) = some (.bl (decide (xs = ys))) := by
  unfold eqD
  rw [fit_intsT, fit_intsT, eqb_tups]
  exact rfl
theorem ne_intsT {xs ys : List Int} : neD (.tup (xs.map D.int)) (.tup (ys.map D.int)) = some (.bl (!decide (xs = ys))) := by
  unfold neD
  rw [fit_intsT, fit_intsT, eqb_tups]
  exact rfl
/-- numbers in a row -/
def upL (lo : Int) (n : Nat) : List Int := (List.range n).map fun i : Nat => lo + (i : Int)
theorem rangeL_up {lo : Int} {n : Nat} : rangeL lo n = (upL lo n).map D.int := by
  unfold rangeL upL
  rw [List.map_map]
  rfl
@[simp] theorem up_len {lo : Int} {n : Nat} : (upL lo n).length = n := by unfold upL; rw [List.length_map, List.length_range]
theorem up_mem {lo z : Int} {n : Nat} : z ∈ upL lo n ↔ lo ≤ z ∧ z < lo + n := by
  unfold upL
  rw [List.mem_map]
  constructor
  · rintro ⟨i, hi, rfl⟩
    have := List.mem_range.mp hi
    omega
  · rintro ⟨h1, h2⟩
    exact ⟨(z - lo).toNat, List.mem_range.mpr (by omega), by omega⟩
theorem up_succ {lo : Int} {n : Nat} : upL lo (n + 1) = upL lo n ++ [lo + (n : Int)] := by
  unfold upL
  rw [List.range_succ, List.map_append]
  rfl
theorem up_from {f : Int} (h0 : 0 ≤ f) : ∀ n : Nat, (upL 0 n).filter (fun t => decide (f ≤ t)) = upL f ((n : Int) - f).toNat
  | 0 => by rw [show ((0 : Nat) : Int) - f = -f by omega, show (-f).toNat = 0 by omega]; rfl
  | n + 1 => by
    rw [up_succ, List.filter_append, up_from h0 n]
    by_cases h : f ≤ (n : Int)
    · rw [show (((n + 1 : Nat) : Int) - f).toNat = ((n : Int) - f).toNat + 1 by omega, up_succ, List.filter_cons_of_pos (p := fun t => decide (f ≤ t)) (decide_eq_true (show f ≤ 0 + (n : Int) by omega))]
      rw [List.filter_nil, show f + (((n : Int) - f).toNat : Int) = 0 + (n : Int) by omega]
    · rw [show (((n + 1 : Nat) : Int) - f).toNat = 0 by omega, show ((n : Int) - f).toNat = 0 by omega, List.filter_cons_of_neg (p := fun t => decide (f ≤ t)) (fun z => h (by have : f ≤ 0 + (n : Int) := of_decide_eq_true z; omega))]
      rfl
@[simp] theorem ev_index {f g : M T} {Γ : Env} : indexM f g Γ = (f Γ).bind fun t1 => bindM (lookM t1) fun d0 => bindM (guardM (isL d0)) fun _ => bindM g fun t2 => bindM (lookM t1) fun d1 => bindM (lookM t2) fun d2 => bindM (optM (idxD d1 d2)) fun d => retM (.fz d) := by exact rfl
@[simp] theorem isL_l {ds : List D} : isL (.lst ds) = true := by exact rfl
end DL
/-! how texts and written dicts come out -/
namespace DL
open PySem L2
section
variable {Γ : Env} {f g : M T} {d : D} {t : T}
@[simp] theorem ev_sliceS (lo hi : M (Option Int)) : sliceS f lo hi Γ = (f Γ).bind fun t => bindM lo fun l => bindM hi fun h => bindM (lookM t) fun d => bindM (optM (cutD d l h)) fun e => retM (.fz e) := by exact rfl
@[simp] theorem ev_cutD {z : Str} {l h : Option Int} : cutD (.str z) l h = if z.length ≤ sizeLine then some (.str (cutS z l h)) else none := by exact rfl
@[simp] theorem ev_mulSD {z : Str} {k : Int} : mulSD (.str z) (.int k) = if z.length ≤ 1000 ∧ -1000 ≤ k ∧ k ≤ 1000 then some (.str (Txt.mul z k)) else none := by exact rfl
@[simp] theorem ev_joinM {z : Str} : joinM z f Γ = (f Γ).bind fun t => bindM (sqM t) fun q => bindM (optM (joinD z q.ds)) fun d => retM (.fz d) := by exact rfl
theorem strsD_map : ∀ {ys : List Str}, strsD (ys.map D.str) = some ys
  | [] => rfl
  | y :: ys => by rw [List.map_cons, strsD, strsD_map]; rfl
theorem ev_joinD {z : Str} {ys : List Str} (h : (ys.map (·.length)).sum + ys.length * z.length ≤ 16777216) : joinD z (ys.map D.str) = some (.str (Txt.join z ys)) := by
  unfold joinD
  rw [strsD_map]
  exact if_pos h
@[simp] theorem ev_splitM {z : Str} : splitM f z Γ = (f Γ).bind fun t => bindM (lookM t) fun d => bindM (optM (splitD z d)) fun ys => retM (.ol ((ys.map D.str).map T.fz)) := by exact rfl
@[simp] theorem ev_kdM {tab : List (Str × D)} : kdM tab f Γ = (f Γ).bind fun t => bindM (lookM t) fun d => bindM (optM (kdGet tab d)) fun e => retM (.fz e) := by exact rfl
@[simp] theorem ev_kdGet {tab : List (Str × D)} {z : Str} : kdGet tab (.str z) = (tab.find? fun p => p.1 == z).map (·.2) := by exact rfl
@[simp] theorem ev_dictM {kds : List (Key × D)} : dictM kds Γ = .ok (.fz (.dK kds)) Γ := by exact rfl
@[simp] theorem ev_dgetM : dgetM f g Γ = (f Γ).bind fun t1 => bindM g fun t2 => dgetT t1 t2 := by exact rfl
@[simp] theorem ev_dgetT : dgetT (.fz d) t Γ = (lookM t Γ).bind fun k => bindM (optM (dgetD d k)) fun e => retM (.fz e) := by exact rfl
theorem ev_dgetD {kds : List (Key × D)} {z : Str} : dgetD (.dK kds) (.str z) = (kds.find? fun p => decide (p.1 = .inr z)).map (·.2) := by exact rfl
def strQ : D → M (List D)
  | .str z => bindM (guardM (decide (z.length ≤ sizeLine))) fun _ => retM (z.cps.toList.map fun c => D.str ⟨#[c]⟩)
  | _ => fun _ => .bad
@[simp] theorem ev_strIt : strIt f Γ = (f Γ).bind fun t => bindM (lookM t) strQ := by exact rfl
@[simp] theorem ev_strQ {z : Str} : strQ (.str z) Γ = gd (decide (z.length ≤ sizeLine)) (.ok (z.cps.toList.map fun c => D.str ⟨#[c]⟩) Γ) := by
  show (guardM (decide (z.length ≤ sizeLine)) Γ).bind _ = _
  rw [ev_guard]
  cases decide (z.length ≤ sizeLine) <;> exact rfl
@[simp] theorem ev_src3 {z : Str} : srcD (.str z) = if z.length ≤ sizeLine then some (z.cps.toList.map fun c => D.str ⟨#[c]⟩) else none := by exact rfl
@[simp] theorem ev_len3 {z : Str} : lenD [.str z] = if z.length ≤ sizeLine then some (.int z.length) else none := by exact rfl
@[simp] theorem ev_scalFn {f : FSem} {ts : List T} : scalF f ts = scalO (f ts) := by exact rfl
@[simp] theorem ev_scalOb {b : Bool} {Γ : Env} : scalO (.ok (.fz (.bl b)) Γ) = .ok (.fz (.bl b)) Γ := by exact rfl
end
/-! ### texts by their signs -/
/-- the text of these signs -/
def tx (l : List Nat) : Str := ⟨l.toArray⟩
@[simp] theorem tx_cps {l : List Nat} : (tx l).cps.toList = l := rfl
@[simp] theorem tx_len {l : List Nat} : (tx l).length = l.length := by show l.toArray.size = _; rw [List.size_toArray]
theorem tx_eta (z : Str) : tx z.cps.toList = z := TL.mk_tl z
theorem tx_app {a b : List Nat} : tx a ++ tx b = tx (a ++ b) := TL.ext_tl (by rw [TL.tl_append]; rfl)
theorem tx_inj {a b : List Nat} : tx a = tx b ↔ a = b := ⟨fun h => congrArg (fun z : Str => z.cps.toList) h, fun h => by rw [h]⟩
theorem tx_ext {a b : Str} (h : a.cps.toList = b.cps.toList) : a = b := TL.ext_tl h
theorem cutS_tx {l : List Nat} {lo hi : Option Int} : cutS (tx l) lo hi = tx (cutL l lo hi) := by
  unfold cutS cutL tx
  show (⟨_⟩ : Str) = ⟨_⟩
  have : (Str.length ⟨l.toArray⟩) = l.length := tx_len
  rw [this]
@[simp] theorem tx_one {c : Nat} : (⟨#[c]⟩ : Str) = tx [c] := rfl
theorem mul_tx {l : List Nat} {b : Bool} : Txt.mul (tx l) (if b then 1 else 0) = if b then tx l else tx [] := by
  cases b
  · rfl
  · exact rfl
end DL
/-! lists of owned lists -/
namespace DL
open PySem L2

def T.free : T → Bool
  | .al _ => false
  | _ => true
/-- a display whose things stay owned -/
def lstO (a : M (List T)) : M T := bindM a fun ts => bindM (guardM (ts.all T.free && decide (ts.length ≤ sizeLine))) fun _ => retM (.ol ts)
section
variable {C : Cc} {σ : St} {H F : Hp} {Γ : Env} {τ : Hand} {ow : Addr → Option Root}
/-- the roots from n on become one -/
def fuse (n : Nat) (p : Addr) (ow : Addr → Option Root) : Addr → Option Root := fun b => if b = p then some (.inr n) else match ow b with
  | some (.inr j) => if n ≤ j then some (.inr n) else some (.inr j)
  | r => r
def subOf (n : Nat) (ow : Addr → Option Root) : Addr → Option Nat := fun b => match ow b with
  | some (.inr j) => if n ≤ j then some (j - n) else none
  | _ => none
theorem handsO {p : Addr} (n : Nat) : ∀ {vs : List V} {ts : List T} {τ : Hand} {k : Nat}, vs.length = ts.length → τ.length = n + k → TempsOk C σ F H ow ((vs.zip ts).reverse ++ τ) → ts.all T.free = true → H p = none →
    (∀ b r, ow b = some r → ∃ o, H b = some o) → ∀ (H' : Hp), (∀ b o, H b = some o → H' b = some o) → OwTs C.K C.cl F H' (fun i b => fuse n p ow b = some (.inr n) ∧ b ≠ p ∧ subOf n ow b = some i) k vs ts := by
  intro vs
  induction vs with
  | nil =>
    intro ts τ k hl _ _ _ _ _ H' _
    cases ts with
    | nil => exact .nil
    | cons t ts => cases hl
  | cons v vs ih =>
    intro ts τ k hl hk R hf hp ho H' hH
    cases ts with
    | nil => cases hl
    | cons t ts =>
      rw [List.all_cons, Bool.and_eq_true] at hf
      rw [List.zip_cons_cons, List.reverse_cons, List.append_assoc] at R
      have R' : TempsOk C σ F H ow ((vs.zip ts).reverse ++ ((v, t) :: τ)) := R
      have top : ∀ (υ : Hand), TempsOk C σ F H ow (υ ++ ((v, t) :: τ)) → TempOk C σ F H (fun a => ow a = some (.inr τ.length)) v t := by
        intro υ
        induction υ with
        | nil => intro h; exact h.1
        | cons p υ ih => intro h; exact ih h.2
      have z := (top _ R').own (fun i e => by
        subst e
        cases hf.1)
      refine .cons (z.keep (Sub.refl F) (fun a o _ q => hH a o q) (fun a q => ?_)) (ih (k := k + 1) (Nat.succ.inj hl) (by rw [List.length_cons, hk]; omega) R' hf.2 hp ho H' hH)
      have q' : ow a = some (.inr (n + k)) := by rw [← hk]; exact q
      have np : a ≠ p := fun e => by
        obtain ⟨o, h⟩ := ho a _ q'
        rw [e, hp] at h
        cases h
      refine ⟨?_, np, ?_⟩
      · unfold fuse
        rw [if_neg np, q']
        show (if n ≤ n + k then _ else _) = _
        rw [if_pos (by omega)]
      · unfold subOf
        rw [q']
        show (if n ≤ n + k then some (n + k - n) else none) = some k
        rw [if_pos (by omega)]
        congr 1
        omega
theorem temps_fuse {p : Addr} {n : Nat} (hp : H p = none) (ho : ∀ b r, ow b = some r → ∃ o, H b = some o) {H' : Hp} (hH : ∀ b o, H b = some o → H' b = some o) : ∀ {τ : Hand}, τ.length ≤ n → TempsOk C σ F H ow τ → TempsOk C σ F H' (fuse n p ow) τ
  | [], _, _ => trivial
  | (v, t) :: τ, hl, h => by
    rw [List.length_cons] at hl
    refine ⟨h.1.keep (Sub.refl F) (fun a o _ q => hH a o q) (fun a q => ?_) (fun _ _ q => q), temps_fuse hp ho hH (by omega) h.2⟩
    have q' : ow a = some (.inr τ.length) := q
    have np : a ≠ p := fun e => by
      obtain ⟨o, h⟩ := ho a _ q'
      rw [e, hp] at h
      cases h
    show fuse n p ow a = some (.inr τ.length)
    unfold fuse
    rw [if_neg np, q']
    show (if n ≤ τ.length then _ else _) = _
    rw [if_neg (by omega)]
theorem fuse_inl {p : Addr} {n i : Nat} {b : Addr} (h : fuse n p ow b = some (.inl i)) : ow b = some (.inl i) := by
  unfold fuse at h
  split at h
  · cases h
  · split at h
    · split at h <;> cases h
    · exact h
theorem fuse_some {p : Addr} {n : Nat} {b : Addr} {r : Root} (h : fuse n p ow b = some r) : b = p ∨ ∃ r', ow b = some r' := by
  unfold fuse at h
  split at h
  · rename_i e; exact .inl e
  · split at h
    · rename_i j e; exact .inr ⟨_, e⟩
    · exact .inr ⟨_, h⟩
theorem Rl.newListO {p : Addr} {vs : List V} {ts : List T} (R : Rl C σ H Γ ((vs.zip ts).reverse ++ τ) F ow) (hp : H p = none) (hl : vs.length = ts.length) (hz : vs.length ≤ sizeLine) (hf : ts.all T.free = true) : Rel C σ (upd H p (.lst vs)) Γ ((.ref p, .ol ts) :: τ) := by
  have hH : ∀ b o, H b = some o → upd H p (.lst vs) b = some o := fun b o q => by rw [upd_ne (ne_of_none q hp)]; exact q
  have ho : ∀ b r, ow b = some r → ∃ o, H b = some o := fun b r q => (R.ownH b r q).imp fun o h => h.1
  have nF : ∀ b o, F b = some o → b ≠ p := fun b o q e => by
    have := R.ex b o q
    rw [e, hp] at this
    cases this
  have tdrop : ∀ (υ : Hand), TempsOk C σ F H ow (υ ++ τ) → TempsOk C σ F H ow τ := by
    intro υ
    induction υ with
    | nil => intro h; exact h
    | cons p υ ih => intro h; exact ih h.2
  refine ⟨F, fuse τ.length p ow, fun b o q => hH b o (R.ex b o q), R.old, R.new, fun b o q hm => ?_, fun b r q => ?_, fun b r q => ?_, fun b r q => ?_, fun i t q => ?_, ⟨?_, ?_⟩, R.pins, R.len, ?_, R.ft⟩
  · obtain ⟨o', e1, e2⟩ := R.frame b o q hm
    exact ⟨o', hH b o' e1, e2⟩
  · rcases fuse_some q with e | ⟨r', e⟩
    · subst e
      cases h : F b with
      | none => rfl
      | some o => exact absurd rfl (nF b o h)
    · exact R.ownF b r' e
  · rcases fuse_some q with e | ⟨r', e⟩
    · subst e
      exact ⟨_, upd_same, nx_lst⟩
    · exact (R.ownH b r' e).imp fun o h => ⟨hH b o h.1, h.2⟩
  · rcases fuse_some q with e | ⟨r', e⟩
    · subst e
      cases h : C.H0 b with
      | none => exact .inr rfl
      | some o =>
        by_cases hm : C.mu b
        · exact .inl hm
        · obtain ⟨o', e1, _⟩ := R.frame b o h hm
          rw [hp] at e1
          cases e1
    · exact R.ownN b r' e
  · obtain ⟨v, h1, h2⟩ := R.slots i t q
    refine ⟨v, h1, h2.keep (Sub.refl F) (fun b o _ q => hH b o q) (fun b q => ?_)⟩
    have q' : ow b = some (.inl i) := q
    have np : b ≠ p := fun e => by
      obtain ⟨o, h⟩ := ho b _ q'
      rw [e, hp] at h
      cases h
    show fuse τ.length p ow b = some (.inl i)
    unfold fuse
    rw [if_neg np, q']
  · exact .ol (subOf τ.length ow) upd_same hz (by unfold fuse; rw [if_pos rfl]) (handsO τ.length (k := 0) hl rfl R.temps hf hp ho _ hH)
  · exact temps_fuse hp ho hH (Nat.le_refl _) (tdrop _ R.temps)
  · exact R.tabs.ext (fun b o q => hH b o q)
end
section
variable {X : Cx} {C : Cc} {W : WX}
theorem de_lstO {es : List Expr} {f : M (List T)} {pos : Pos} (h : PA X es (rdA C W f)) : PE X (.List es pos) (rd C W (lstO f)) := pe_sub (pe_lst h) fun σ H Q ⟨Γ, τ, R, w⟩ => by
  refine rdA_bind R w fun ts Γ1 vs H1 hl R1 w1 => ?_
  obtain ⟨e2, w3⟩ := wp_guardM (Out.wp_bind w1)
  rw [Bool.and_eq_true, decide_eq_true_eq] at e2
  obtain ⟨F, ow, R1⟩ := R1
  have hl' : vs.length ≤ sizeLine := by rw [hl]; exact e2.2
  exact ⟨hl', fun p hp => w3 _ _ (R1.newListO hp hl hl' e2.1)⟩

/-! ### x[e].append(y) -/
def nestA (i : Nat) (k : D) (j : Nat) : M T := fun Γ => match Γ[i]?, k, Γ[j]? with
  | some (some (.ol ts)), .int k, some (some (.fz d)) => match ixN ts.length k with
    | some m => match ts[m]? with
      | some (.ol us) => if us.length < sizeLine then .ok (.fz .non) (Γ.set i (some (.ol (ts.set m (.ol (us ++ [.fz d])))))) else .bad
      | _ => .bad
    | none => .bad
  | _, _, _ => .bad
def appendIx (i : Nat) (fe : M T) (j : Nat) : M T := bindM (varM i) fun _ => bindM fe fun t => bindM (lookM t) fun k => nestA i k j
theorem wp_nestA {Γ : Env} {i j : Nat} {k : D} {P : T → Env → Prop} {E : Exn → Env → Prop} (h : (nestA i k j Γ).Wp P E) : ∃ ts k' d m us, k = .int k' ∧ Γ[i]? = some (some (.ol ts)) ∧ Γ[j]? = some (some (.fz d)) ∧ ixN ts.length k' = some m ∧ ts[m]? = some (.ol us) ∧ us.length < sizeLine ∧ P (.fz .non) (Γ.set i (some (.ol (ts.set m (.ol (us ++ [.fz d])))))) := by
  unfold nestA at h
  split at h
  · rename_i ts k' d e1 e2
    split at h
    · rename_i m e3
      split at h
      · rename_i us e4
        split at h
        · rename_i e5
          exact ⟨ts, k', d, m, us, rfl, e1, e2, e3, e4, e5, h⟩
        · exact h.elim
      · exact h.elim
    · exact h.elim
  · exact h.elim
theorem OwTs.other {K : PySem.W.Frag} {cl : Cl} {F H H' : Hp} {Si : Nat → Addr → Prop} {v' : V} {t' : T} : ∀ {vs : List V} {ts : List T} (i m : Nat), (∀ j c o, j ≠ i + m → Si j c → H c = some o → H' c = some o) → OwTs K cl F H Si i vs ts → OwT K cl F H' (Si (i + m)) v' t' → m < vs.length → OwTs K cl F H' Si i (vs.set m v') (ts.set m t')
  | _, _, i, m, k, .nil, h', hm => absurd hm (Nat.not_lt_zero _)
  | _, _, i, 0, k, .cons h hs, h', hm => .cons h' (OwTs.reix (i := i + 1) (i' := i + 1) (Si := Si) (Si' := Si) (fun _ _ q => q) (by
      have go : ∀ {us : List V} {ss : List T} (j : Nat), i < j → OwTs K cl F H Si j us ss → OwTs K cl F H' Si j us ss := by
        intro us
        induction us with
        | nil => intro ss j _ h; cases h; exact .nil
        | cons u us ih =>
          intro ss j hj h
          cases h with
          | cons h hs => exact .cons (h.keep (Sub.refl F) (fun c o q z => k j c o (by omega) q z) (fun _ q => q)) (ih (j + 1) (by omega) hs)
      exact go (i + 1) (by omega) hs))
  | _, _, i, m + 1, k, .cons h hs, h', hm => .cons (h.keep (Sub.refl F) (fun c o q z => k i c o (by omega) q z) (fun _ q => q)) (OwTs.other (i + 1) m (fun j c o hj => k j c o (by omega)) hs (by rw [show i + 1 + m = i + (m + 1) by omega]; exact h') (Nat.lt_of_succ_lt_succ hm))
theorem set_same {α : Type} {xs : List α} {m : Nat} {x : α} (h : xs[m]? = some x) : xs.set m x = xs := by
  apply List.ext_getElem?
  intro i
  by_cases e : m = i
  · subst e
    rw [List.getElem?_set_self (List.getElem?_eq_some_iff.mp h).1, h]
  · rw [List.getElem?_set_ne e]
theorem de_appendIx {x y : Str} {i j : Nat} {e : Expr} {fe : M T} {px ps py apos pos : Pos} (hK : C.K = X.K) (hN : X.N[i]? = some x) (hv : Vis X.env.scope x) (hNj : X.N[j]? = some y) (hvj : Vis X.env.scope y) (he : PE X e (rd C W fe)) (hx : PlainIx e := by exact fun _ _ => rfl)
    (hs : starEach [.Name y py] X.env = (false, eval (.Name y py) X.env) :: starEach [] X.env := by rfl) (hbase : attributeBase (.Subscript (.Name x px) e ps) "append" X.env (eval (.Subscript (.Name x px) e ps) X.env) = eval (.Subscript (.Name x px) e ps) X.env := by rfl)
    (hfew : ((backTo pos (starEach [.Name y py] X.env)).all (fun x => !x.1) && (backToKw pos (keywordEach [] X.env)).all (fun x => x.1.isSome) && decide ([Expr.Name y py].length + ([] : List Keyword).length + (if ([] : List Keyword).isEmpty then 0 else 1) < 30)) = true := by rfl)
    (hline : (apos.endLine == pos.line) = true := by rfl) (hd : (x == ("__debug__" : Str)) = false := by decide) (hcd : (x == ("__classdict__" : Str)) = false := by decide) (hd' : (y == ("__debug__" : Str)) = false := by decide) (hcd' : (y == ("__classdict__" : Str)) = false := by decide) :
    PE X (.Call (.Attribute (.Subscript (.Name x px) e ps) "append" apos) [.Name y py] [] pos) (rd C W (appendIx i fe j)) :=
  pe_sub (pe_bm PySem.F.plainAttrs_list PySem.F.slot_list_append PySem.F.type_list_append mt_append (pe_ix ix_list (pe_var hN hv hd hcd) he hx) (pa_cons (pe_var hNj hvj hd' hcd') pa_nil hs) hbase hfew hline hs rfl) fun σ H Q ⟨Γ, τ, R, w⟩ => by
  have w0 := Out.wp_bind w
  obtain ⟨v, hσ, w1⟩ : ∃ v, σ[i]? = some (some v) ∧ ((bindM fe fun t => bindM (lookM t) fun k => nestA i k j) Γ).Wp (fun t Γ' => ∀ v H', Rel C σ H' Γ' ((v, t) :: τ) → Q v H') (wx C W σ τ) := by
    unfold varM at w0
    obtain ⟨F, ow, R⟩ := R
    cases e1 : Γ[i]? with
    | none => simp only [e1] at w0; exact w0.elim
    | some o =>
      cases o with
      | none => simp only [e1] at w0; exact w0.elim
      | some t =>
        obtain ⟨v, h1, _⟩ := R.slots i t e1
        refine ⟨v, h1, ?_⟩
        cases t <;> simp only [e1] at w0 <;> exact w0
  refine ⟨v, hσ, ?_⟩
  refine rd_bind R w1 fun t2 Γ2 v2 H2 R2 w2 => ?_
  obtain ⟨k, ek, w3⟩ := wp_lookM (Out.wp_bind w2)
  obtain ⟨ts, k', d, m, us, rfl, e1, e2, e3, e4, e5, w4⟩ := wp_nestA w3
  obtain ⟨F, ow, R2⟩ := R2
  have hk := R2.look R2.temps.1 ek
  cases hk
  obtain ⟨a, vs, sub, h1, h2, h3, h4, h5⟩ := R2.slotList e1
  rw [h1] at hσ
  cases hσ
  obtain ⟨u, g1, g2⟩ := h5.get e4
  rw [Nat.zero_add] at g2
  have hl : vs.length = ts.length := h5.length
  have hat : atI vs k' = some u := by
    unfold atI
    rw [hl, e3]
    exact g1
  obtain ⟨vj, q1, q2⟩ := R2.slots j _ e2
  cases g2 with
  | @ol _ b ws _ sub2 f1 f2 f3 f4 =>
    obtain ⟨f5, f6, f7⟩ := f3
    refine ⟨a, vs, k', .ref b, rfl, rfl, by rw [← hK]; exact SqL.of h2, hat, tyV_list f1, vj, q1, b, ws, vj, rfl, rfl, f1, by rw [f4.length]; exact e5, w4 _ _ (Rel.scal ⟨F, ow, ?_⟩ .non)⟩
    have na : a ≠ b := fun z => f6 z.symm
    cases q2 with
    | fz q2 =>
      refine R2.pop.mutSlot f5 f1 ⟨.ref a, h1, .ol sub (by rw [upd_ne na]; exact h2) h3 h4 ?_⟩
      have key := OwTs.other (K := C.K) (cl := C.cl) (F := F) (H := H2) (H' := upd H2 b (.lst (ws ++ [vj]))) (Si := fun j c => ow c = some (.inl i) ∧ c ≠ a ∧ sub c = some j) (v' := .ref b) (t' := .ol (us ++ [.fz d])) 0 m (fun j' c o hj q z => by
        rw [upd_ne (fun e => by
          subst e
          have z2 := q.2.2
          rw [f7] at z2
          cases z2
          exact hj (Nat.zero_add _).symm)]
        exact z) h5 (.ol sub2 upd_same (by rw [List.length_append, f4.length]; exact e5) (by rw [Nat.zero_add]; exact ⟨f5, f6, f7⟩) (OwTs.append (us := [T.fz d]) ?_ (.cons (.fz q2) .nil))) (List.getElem?_eq_some_iff.mp g1).1
      · rw [set_same g1] at key
        exact key
      · rw [Nat.zero_add]
        exact ol_frz (fun c u _ n z => by rw [upd_ne n]; exact z) f4
end
end DL
/-! sorted(..) of pairs of a number and a text; str(n), int(text), max(a, b) -/
namespace SrtO
open PySem PyProof.Rows Srt
section
variable {prog : Program} {w : World} {A : Around} {E : Value → Shared → Prop} {s : Shared}
def IsPS (h : Heap) (v : Value) (x : Int) (z : PySem.Str) : Prop := ∃ a o t u n, v = .ref a ∧ h.get? a = some o ∧ o.cls = .type "tuple" ∧ o.data = .seq #[.int x t, .str z u] n
theorem IsPS.keeps {h h' : Heap} {v : Value} {x : Int} {z : PySem.Str} (p : IsPS h v x z) (k : ∀ b o, h.get? b = some o → o.cls = .type "tuple" → h'.get? b = some o) : IsPS h' v x z := by
  obtain ⟨a, o, t, u, n, e, ho, hc, hd⟩ := p
  exact ⟨a, o, t, u, n, e, k _ _ ho hc, hc, hd⟩
theorem firstsS {h : Heap} : ∀ {vs : List Value}, (∀ v ∈ vs, ∃ x y, IsPS h v x y) → ∃ fs : List Value, PySem.W.KatTups h vs fs ∧ fs.length = vs.length ∧ ∀ f ∈ fs, ∃ x t, f = Value.int x t
  | [], _ => ⟨[], PySem.W.KatTups.nil, rfl, fun _ hm => by simp at hm⟩
  | v :: vs, hp => by
    obtain ⟨fs, h1, h2, h3⟩ := firstsS (vs := vs) fun v' hm => hp v' (List.mem_cons_of_mem _ hm)
    obtain ⟨x, y, a, o, t, u, n, e, ho, hc, hd⟩ := hp v (List.mem_cons_self ..)
    subst e
    refine ⟨.int x t :: fs, PySem.W.KatTups.cons ho hc hd rfl h1, by rw [List.length_cons, List.length_cons, h2], fun f hm => ?_⟩
    rcases List.mem_cons.mp hm with rfl | hm
    · exact ⟨x, t, rfl⟩
    · exact h3 f hm
abbrev ltK (k : Value → Int × PySem.Str) (v u : Value) : Bool := decide ((k v).1 < (k u).1)
theorem swoK (k : Value → Int × PySem.Str) : Swo (ltK k) := by
  refine ⟨fun x y h => ?_, fun x y z h1 h2 => ?_⟩
  · have a := of_decide_eq_true h
    exact decide_eq_false (by omega)
  · have a := of_decide_eq_false h1
    have b := of_decide_eq_false h2
    exact decide_eq_false (by omega)
theorem ps_cmp {vs : List Value} {k : Value → Int × PySem.Str} (hp : ∀ v ∈ vs, IsPS s.heap v (k v).1 (k v).2) (hi : ∀ v ∈ vs, ∀ u ∈ vs, (k v).1 = (k u).1 → (k v).2 = (k u).2) : Cmp prog w A s (tuples' true) (fun p => p.1 ∈ vs) (lt2 (ltK k)) := by
  intro p q hm hm'
  have h1 := hp _ hm
  have h2 := hp _ hm'
  have h3 := hi _ hm _ hm'
  show wpAny (model prog w) A (keyLt' (tuples' true) p.1 q.1) (fun r s' => s' = s ∧ r = decide ((k p.1).1 < (k q.1).1)) (fun _ _ => False) s
  generalize (k p.1).1 = x at h1 h3 ⊢
  generalize (k p.1).2 = y at h1 h3 ⊢
  generalize (k q.1).1 = x' at h2 h3 ⊢
  generalize (k q.1).2 = y' at h2 h3 ⊢
  obtain ⟨a, o, t, u, n, e, ho, hc, hd⟩ := h1
  obtain ⟨a', o', t', u', n', e', ho', hc', hd'⟩ := h2
  rw [e, e']
  refine PySem.W.kat_lt ho hd ho' hd' ?_
  show PySem.W.KatLex prog w A true (decide (2 < 2)) _ [(.int x t, .int x' t'), (.str y u, .str y' u')] 0 s
  refine PySem.W.kat_cons (SeqAt.EqAt.int_int x t x' t' prog w _ _ ?_)
  refine PySem.W.kat_go (fun e1 => ?_) (fun e1 => ?_)
  · have ex : x = x' := by simpa using e1
    have ey := h3 ex
    refine PySem.W.kat_yes (PySem.W.kat_cons (SeqAt.EqAt.str_str y u y' u' prog w _ _ ?_))
    refine PySem.W.kat_go (fun e2 => ?_) (fun e2 => ?_)
    · exact PySem.W.kat_yes (PySem.W.kat_nil ⟨rfl, (decide_eq_false (by omega)).symm⟩)
    · rw [ey, beq_self_eq_true] at e2
      cases e2
  · exact PySem.W.kat_no (oneLt_int ⟨rfl, rfl⟩)
theorem ps_sortable {a : Addr} {vs : List Value} {k : Value → Int × PySem.Str} (h0 : 0 < vs.length) (hp : ∀ v ∈ vs, IsPS s.heap v (k v).1 (k v).2) (hi : ∀ v ∈ vs, ∀ u ∈ vs, (k v).1 = (k u).1 → (k v).2 = (k u).2) (ha : ∀ o, s.heap.get? a = some o → o.cls ≠ .type "tuple") : SortableO prog w A s a vs (ltK k) := by
  intro h' keep
  have hp' : ∀ v ∈ vs, IsPS h' v (k v).1 (k v).2 := fun v hm => (hp v hm).keeps fun b o e c => keep b o (fun z => by subst z; exact ha o e c) e
  obtain ⟨fs, h1, h2, h3⟩ := firstsS fun v hm => ⟨_, _, hp' v hm⟩
  refine ⟨tuples' true, fun Q E hq => ?_, ps_cmp hp' hi⟩
  refine PySem.W.kat_kind (T := .type "int") h1 (by omega) (fun f hm => ?_) (by rfl) ?_
  · obtain ⟨x, t, rfl⟩ := h3 f hm
    exact PySem.W.Looks.now
  · have e : (Value.type "int" != Value.type "tuple") = true := by first | decide +kernel | rfl | decide
    rw [e]
    exact hq
theorem sorted_ps {l : Addr} {vs : List Value} {k : Value → Int × PySem.Str} {Q : Value → Shared → Prop} (hl : s.heap.IsList l vs.toArray) (hz : vs.length ≤ sizeLine) (hp : ∀ v ∈ vs, IsPS s.heap v (k v).1 (k v).2) (hi : ∀ v ∈ vs, ∀ u ∈ vs, (k v).1 = (k u).1 → (k v).2 = (k u).2)
    (h : ∀ (h' : Heap) (d : Addr) (out : List Value), Srtd (ltK k) out → Stb (ltK k) out vs → (∀ b o, s.heap.get? b = some o → h'.get? b = some o) → s.heap.objs.size ≤ d → (∃ n, h'.get? d = some (seqObj "list" out.toArray n)) → Q (.ref d) { s with heap := h' }) :
    wpAny (model prog w) A (call (.builtin "sorted") [.ref l]) Q E s := by
  refine sorted_ord (swoK k) hl hz (fun h2 h₁ a ha kk => ?_) fun out hs hb => ?_
  · refine ps_sortable (s := { s with heap := h₁ }) (by omega) (fun v hm => (hp v hm).keeps fun b o e _ => (kk b o e).2) hi fun o e => ?_
    have e' : some o = some (seqObj "list" vs.toArray 0) := e.symm.trans ha
    cases e'
    intro c
    exact absurd (Value.type.inj c) (by decide)
  · exact h _ _ out hs hb (fun b o e => sortedAll_old e) (Nat.le_succ _) (sortedAll_at s.heap vs out.toArray)
end
end SrtO
namespace DL
open PySem L2
/-- the pair that a value is, by the heap -/
def keyH (h : Heap) : Value → Int × Str
  | .ref a => match h.get? a with
    | some o => match o.data with
      | .seq xs _ => match xs.toList with
        | [.int x _, .str z _] => (x, z)
        | _ => (0, "")
      | _ => (0, "")
    | none => (0, "")
  | _ => (0, "")
theorem keyH_of {h : Heap} {v : Value} {x : Int} {z : Str} (p : SrtO.IsPS h v x z) : keyH h v = (x, z) := by
  obtain ⟨a, o, t, u, n, rfl, ho, hc, hd⟩ := p
  unfold keyH
  simp only [ho, hd]
/-- sorted(xs), pairs of a number and a text, no two with one number -/
def rSortedS2 (K : PySem.W.Frag) : List V → Hp → VK → Prop := fun vs H Q => ∃ (a : Addr) (xs : List V) (ps : List (Int × Str)), vs = [V.ref a] ∧ SqL K H a xs ∧ xs.length = ps.length ∧ (∀ q ∈ xs.zip ps, ∃ t, q.1 = V.ref t ∧ SqT K H t [.int q.2.1, .str q.2.2]) ∧ (ps.map (·.1)).Nodup ∧
  ∀ (ys : List V) (qs : List (Int × Str)) (p : Addr), ys.length = qs.length → (ys.zip qs).Perm (xs.zip ps) → qs.Pairwise (fun a b => a.1 ≤ b.1) → H p = none → Q (.ref p) (upd H p (.lst ys))
section
variable {X : Cx}
theorem cr_sortedS2 : CallR X (.builtin "sorted") (rSortedS2 X.K) := by
  intro pins s σ H vs us Q I r h
  obtain ⟨a, xs, ps, rfl, hs, hlen, hx, hnd, q⟩ := h
  obtain ⟨its, rv, hl, hz⟩ := I.list hs
  obtain ⟨u, rfl, ru⟩ := vals1 r
  obtain rfl : u = Value.ref a := ru
  -- the items, their pairs
  have key : ∀ {xs : List V} {its : List Value} {ps : List (Int × Str)}, Vals xs its → xs.length = ps.length → (∀ q ∈ xs.zip ps, ∃ t, q.1 = V.ref t ∧ SqT X.K H t [.int q.2.1, .str q.2.2]) → (∀ v ∈ its, ∃ x z, SrtO.IsPS s.heap v x z ∧ ∃ t, v = .ref t) ∧ xs.zip ps = its.map fun v => (backV v, keyH s.heap v) := by
    intro xs its ps r
    induction r generalizing ps with
    | nil =>
      intro hl _
      cases ps with
      | nil => exact ⟨(fun _ h => nomatch h), rfl⟩
      | cons _ _ => cases hl
    | @cons x v xs its rx rt ih =>
      intro hl hx
      cases ps with
      | nil => cases hl
      | cons p ps =>
        rw [List.zip_cons_cons] at hx
        obtain ⟨h1, h2⟩ := ih (Nat.succ.inj hl) fun q hq => hx q (List.mem_cons_of_mem _ hq)
        obtain ⟨t, e, ht⟩ := hx _ List.mem_cons_self
        simp only at e ht
        subst e
        obtain rfl : v = Value.ref t := rx
        obtain ⟨its2, r2, ⟨o, ho, hc, n, hd⟩, _⟩ := I.tuple ht
        obtain ⟨u1, u2, rfl, ri, rj⟩ := vals2 r2
        obtain ⟨t1, rfl⟩ := ri
        obtain ⟨t2, rfl⟩ := rj
        have hp : SrtO.IsPS s.heap (.ref t) p.1 p.2 := ⟨t, o, t1, t2, n, rfl, ho, hc, hd⟩
        refine ⟨fun v hv => ?_, ?_⟩
        · rcases List.mem_cons.mp hv with rfl | hv
          · exact ⟨_, _, hp, t, rfl⟩
          · exact h1 v hv
        · rw [List.zip_cons_cons, List.map_cons, h2, keyH_of hp]
          rfl
  obtain ⟨k1, k2⟩ := key rv hlen hx
  have hk : ∀ v ∈ its, SrtO.IsPS s.heap v (keyH s.heap v).1 (keyH s.heap v).2 := fun v hv => by
    obtain ⟨x, z, h, _⟩ := k1 v hv
    rw [keyH_of h]
    exact h
  have e2 : its.map (fun v => keyH s.heap v) = ps := by
    have := congrArg (List.map Prod.snd) k2
    rw [List.map_map, List.map_snd_zip (by omega)] at this
    exact this.symm
  have hi : ∀ v ∈ its, ∀ u ∈ its, (keyH s.heap v).1 = (keyH s.heap u).1 → (keyH s.heap v).2 = (keyH s.heap u).2 := by
    have go : ∀ {ps : List (Int × Str)}, (ps.map (·.1)).Nodup → ∀ a ∈ ps, ∀ b ∈ ps, a.1 = b.1 → a = b := by
      intro ps
      induction ps with
      | nil => intro _ a ha; cases ha
      | cons p ps ih =>
        intro hn a ha b hb e
        rw [List.map_cons, List.nodup_cons] at hn
        rcases List.mem_cons.mp ha with ea | ha1 <;> rcases List.mem_cons.mp hb with eb | hb1
        · rw [ea, eb]
        · exact absurd (List.mem_map.mpr ⟨b, hb1, by rw [← ea]; exact e.symm⟩) hn.1
        · exact absurd (List.mem_map.mpr ⟨a, ha1, by rw [← eb]; exact e⟩) hn.1
        · exact ih hn.2 a ha1 b hb1 e
    intro v hv u hu e
    have m1 : keyH s.heap v ∈ ps := by rw [← e2]; exact List.mem_map.mpr ⟨v, hv, rfl⟩
    have m2 : keyH s.heap u ∈ ps := by rw [← e2]; exact List.mem_map.mpr ⟨u, hu, rfl⟩
    rw [go hnd _ m1 _ m2 e]
  refine SrtO.sorted_ps (k := keyH s.heap) hl.isList (by rw [← rv.length]; exact hz) hk hi fun h' d out h1 h2 kp hd hn => ?_
  have h3 : ∀ u ∈ out, ∃ a, u = Value.ref a := fun u hu => by
    obtain ⟨_, _, _, t, e⟩ := k1 u (h2.perm.mem_iff.mp hu)
    exact ⟨t, e⟩
  obtain ⟨n, hn⟩ := hn
  have ez : (out.map backV).zip (out.map fun v => keyH s.heap v) = out.map fun v => (backV v, keyH s.heap v) := by
    exact List.zip_map'
  refine ⟨.ref d, upd H d (.lst (out.map backV)), I.laid (t' := s.toks) kp hd ⟨?_, out, n, vals_back h3, hn⟩, rfl, q (out.map backV) (out.map fun v => keyH s.heap v) d (by rw [List.length_map, List.length_map]) ?_ ?_ (I.hok.fresh hd)⟩
  · rw [List.length_map, h2.perm.length_eq, ← rv.length]
    exact hz
  · rw [ez, k2]
    exact h2.perm.map _
  · exact List.pairwise_map.mpr (h1.imp fun {x y} h => by
      have := of_decide_eq_false (p := (keyH s.heap y).1 < (keyH s.heap x).1) h
      omega)
end
/-! ### as data -/
def insP (p : Int × Str) : List (Int × Str) → List (Int × Str)
  | [] => [p]
  | q :: qs => if p.1 ≤ q.1 then p :: q :: qs else q :: insP p qs
def sortP : List (Int × Str) → List (Int × Str)
  | [] => []
  | p :: ps => insP p (sortP ps)
theorem insP_perm (p : Int × Str) : ∀ qs, (insP p qs).Perm (p :: qs)
  | [] => List.Perm.refl _
  | q :: qs => by
    unfold insP
    split
    · exact List.Perm.refl _
    · exact ((insP_perm p qs).cons q).trans (List.Perm.swap p q qs)
theorem sortP_perm : ∀ ps, (sortP ps).Perm ps
  | [] => List.Perm.refl _
  | p :: ps => (insP_perm p _).trans ((sortP_perm ps).cons p)
theorem insP_sorted (p : Int × Str) : ∀ {qs : List (Int × Str)}, qs.Pairwise (fun a b => a.1 ≤ b.1) → (insP p qs).Pairwise (fun a b => a.1 ≤ b.1)
  | [], _ => List.pairwise_singleton _ _
  | q :: qs, h => by
    have h' := List.pairwise_cons.mp h
    unfold insP
    split
    · rename_i e
      refine List.pairwise_cons.mpr ⟨fun b hb => ?_, h⟩
      rcases List.mem_cons.mp hb with rfl | hb
      · exact e
      · have := h'.1 b hb
        omega
    · rename_i e
      refine List.pairwise_cons.mpr ⟨fun b hb => ?_, insP_sorted p h'.2⟩
      rcases List.mem_cons.mp ((insP_perm p qs).mem_iff.mp hb) with rfl | hb
      · omega
      · exact h'.1 b hb
theorem sortP_sorted : ∀ ps, (sortP ps).Pairwise (fun a b => a.1 ≤ b.1)
  | [] => List.Pairwise.nil
  | p :: ps => insP_sorted p (sortP_sorted ps)
theorem key_inj : ∀ {ps : List (Int × Str)}, (ps.map (·.1)).Nodup → ∀ a ∈ ps, ∀ b ∈ ps, a.1 = b.1 → a = b
  | [], _, a, ha, _, _, _ => nomatch ha
  | p :: ps, hn, a, ha, b, hb, e => by
    rw [List.map_cons, List.nodup_cons] at hn
    rcases List.mem_cons.mp ha with ea | ha1 <;> rcases List.mem_cons.mp hb with eb | hb1
    · rw [ea, eb]
    · exact absurd (List.mem_map.mpr ⟨b, hb1, by rw [← ea]; exact e.symm⟩) hn.1
    · exact absurd (List.mem_map.mpr ⟨a, ha1, by rw [← eb]; exact e⟩) hn.1
    · exact key_inj hn.2 a ha1 b hb1 e
theorem sorted_uniq : ∀ {ps qs : List (Int × Str)}, ps.Perm qs → ps.Pairwise (fun a b => a.1 ≤ b.1) → qs.Pairwise (fun a b => a.1 ≤ b.1) → (qs.map (·.1)).Nodup → ps = qs
  | [], qs, hp, _, _, _ => by rw [List.nil_perm.mp hp]
  | p :: ps, [], hp, _, _, _ => by have := hp.length_eq; cases this
  | p :: ps, q :: qs, hp, h1, h2, hn => by
    have g1 := List.pairwise_cons.mp h1
    have g2 := List.pairwise_cons.mp h2
    have mp : p ∈ q :: qs := hp.mem_iff.mp List.mem_cons_self
    have mq : q ∈ p :: ps := hp.mem_iff.mpr List.mem_cons_self
    have e : p = q := by
      refine key_inj hn p mp q List.mem_cons_self ?_
      rcases List.mem_cons.mp mp with e | m1
      · rw [e]
      · rcases List.mem_cons.mp mq with e | m2
        · rw [e]
        · have a1 := g2.1 p m1
          have a2 := g1.1 q m2
          omega
    subst e
    rw [sorted_uniq (List.Perm.cons_inv hp) g1.2 g2.2 (by rw [List.map_cons, List.nodup_cons] at hn; exact hn.2)]
abbrev prD (p : Int × Str) : D := .tup [.int p.1, .str p.2]
def pairsD : List D → Option (List (Int × Str))
  | [] => some []
  | .tup [.int x, .str z] :: ds => (pairsD ds).map ((x, z) :: ·)
  | _ :: _ => none
theorem pairsD_map : ∀ {ps : List (Int × Str)}, pairsD (ps.map prD) = some ps
  | [] => rfl
  | p :: ps => by rw [List.map_cons, pairsD, pairsD_map]; rfl
theorem pairsD_eq : ∀ {ds : List D} {ps : List (Int × Str)}, pairsD ds = some ps → ds = ps.map prD
  | [], ps, e => by cases e; rfl
  | d :: ds, ps, e => by
    unfold pairsD at e
    split at e
    · rename_i h; cases h
    · rename_i x z ds' h
      cases h
      cases e1 : pairsD ds with
      | none => rw [e1] at e; cases e
      | some qs => rw [e1] at e; cases e; rw [pairsD_eq e1]; rfl
    · cases e
def sortD (ps : List (Int × Str)) : M T := bindM (guardM (decide (ps.map (·.1)).Nodup)) fun _ => retM (.ol (((sortP ps).map prD).map T.fz))
def sortQ : Sq → M T
  | .l ds => bindM (optM (pairsD ds)) sortD
  | _ => fun _ => .bad
def sortM (f : M T) : M T := bindM f fun t => bindM (sqM t) sortQ
section
variable {X : Cx} {C : Cc} {W : WX}
theorem Dts.ofZip {K : PySem.W.Frag} {cl : Cl} {F : Hp} : ∀ {vs : List V} {ps : List (Int × Str)}, vs.length = ps.length → (∀ q ∈ vs.zip ps, Dt K cl F q.1 (prD q.2)) → Dts K cl F vs (ps.map prD)
  | [], [], _, _ => .nil
  | [], _ :: _, h, _ => by cases h
  | _ :: _, [], h, _ => by cases h
  | v :: vs, p :: ps, hl, h => by
    rw [List.zip_cons_cons] at h
    exact .cons (h _ List.mem_cons_self) (Dts.ofZip (Nat.succ.inj hl) fun q hq => h q (List.mem_cons_of_mem _ hq))
theorem Dts.toZip {K : PySem.W.Frag} {cl : Cl} {F : Hp} : ∀ {vs : List V} {ps : List (Int × Str)}, Dts K cl F vs (ps.map prD) → ∀ q ∈ vs.zip ps, Dt K cl F q.1 (prD q.2)
  | _, [], .nil, _, h => nomatch h
  | _, p :: ps, .cons h hs, q, hq => by
    rw [List.zip_cons_cons] at hq
    rcases List.mem_cons.mp hq with rfl | hq
    · exact h
    · exact Dts.toZip hs q hq
theorem de_sorted {e : Expr} {f : M T} {p pos : Pos} (hK : C.K = X.K) (hg : Gl X "sorted") (hm : X.mg "sorted" = none) (ha : PE X e (rd C W f)) (hs : starEach [e] X.env = (false, eval e X.env) :: starEach [] X.env := by rfl) : PE X (.Call (.Name "sorted" p) [e] [] pos) (rd C W (sortM f)) :=
  pe_sub (pe_callB cr_sortedS2 hg hm (by decide +kernel) (da_cons ha da_nil hs) (he := hs)) fun σ H Q ⟨Γ, τ, R, w⟩ => by
    refine rdA_one R w fun t Γ1 v H1 R1 w1 => ?_
    obtain ⟨q, e1, w2⟩ := wp_sqM (Out.wp_bind w1)
    obtain ⟨F, ow, R1⟩ := R1
    obtain ⟨a, vs, rfl, hq, hd, hz⟩ := R1.sq R1.temps.1 e1
    cases q with
    | l ds =>
      obtain ⟨ps, e2, w3⟩ := wp_optM (Out.wp_bind w2)
      obtain ⟨e3, w4⟩ := wp_guardM (Out.wp_bind w3)
      have hn := of_decide_eq_true e3
      have hd' : Dts C.K C.cl F vs (ps.map prD) := by
        rw [← pairsD_eq e2]
        exact hd
      have hl : vs.length = ps.length := by rw [hd'.length, List.length_map]
      have key := Dts.toZip hd'
      refine ⟨a, vs, ps, rfl, ?_, hl, fun q hq => ?_, hn, fun ys qs l hy hp hs hl' => ?_⟩
      · rw [← hK]
        exact SqL.of hq
      · have h := key q hq
        generalize q.1 = v at h ⊢
        cases h with
        | tup h1 h2 h3 =>
          obtain ⟨v1, v2, rfl, g1, g2⟩ := h3.two
          cases g1
          cases g2
          rw [← hK]
          exact ⟨_, rfl, R1.ex.sqT h1⟩
      · have hq2 : qs.Perm ps := by
          have := hp.map Prod.snd
          rw [List.map_snd_zip (by omega), List.map_snd_zip (by omega)] at this
          exact this
        have hqs : qs = sortP ps := sorted_uniq (hq2.trans (sortP_perm ps).symm) hs (sortP_sorted ps) (((sortP_perm ps).map _).nodup_iff.mpr hn)
        have hys : Dts C.K C.cl F ys (qs.map prD) := Dts.ofZip hy fun q hq => key q (hp.mem_iff.mp hq)
        rw [hqs] at hys
        refine w4 _ _ (R1.pop.newList hl' ?_ hys)
        rw [hy, hq2.length_eq, ← hl]
        exact hz
    | t ds => exact w2.elim
    | s ns => exact w2.elim
/-! ### str(n), int(text), max(a, b) -/
def strD : List D → Option D
  | [.int i] => if i.natAbs < 1000000 then some (.str (toString i)) else none
  | _ => none
def intT : List D → Option D
  | [.str a] => if a.length ≤ 640 then (PySem.intText? a).map D.int else none
  | _ => none
def maxD : List D → Option D
  | [.int i, .int j] => some (.int (if j > i then j else i))
  | _ => none
theorem sc_str {K : PySem.W.Frag} {cl : Cl} : ScC K cl (fun xs H Q => ∃ i, xs = [.int i] ∧ i.natAbs.log2 < 1920 ∧ Q (.str (toString i)) H) strD := by
  intro H vs ds d Q h e q
  unfold strD at e
  split at e
  · split at e <;> cases e
    rename_i i hi
    obtain ⟨v, rfl, hv⟩ := h.one
    cases hv
    refine ⟨_, rfl, ?_, q _ (.str _)⟩
    by_cases h0 : i.natAbs = 0
    · rw [h0]; decide
    · have : i.natAbs < 2 ^ 20 := by omega
      have := (Nat.log2_lt h0).mpr this
      omega
  · cases e
theorem sc_intT {K : PySem.W.Frag} {cl : Cl} : ScC K cl (fun xs H Q => ∃ a n, xs = [.str a] ∧ PySem.intText? a = some n ∧ a.length ≤ 640 ∧ Q (.int n) H) intT := by
  intro H vs ds d Q h e q
  unfold intT at e
  split at e
  · split at e
    · rename_i a ha
      obtain ⟨v, rfl, hv⟩ := h.one
      cases hv
      cases e1 : PySem.intText? a with
      | none => rw [e1] at e; cases e
      | some n =>
        rw [e1] at e
        cases e
        exact ⟨a, n, rfl, e1, ha, q _ (.int _)⟩
    · cases e
  · cases e
theorem sc_max {K : PySem.W.Frag} {cl : Cl} : ScC K cl (fun xs H Q => ∃ i j, xs = [.int i, .int j] ∧ Q (.int (if j > i then j else i)) H) maxD := by
  intro H vs ds d Q h e q
  unfold maxD at e
  split at e
  · cases e
    obtain ⟨v, u, rfl, hv, hu⟩ := h.two
    cases hv
    cases hu
    exact ⟨_, _, rfl, q _ (.int _)⟩
  · cases e
end
end DL
/-! how the last come out; texts that are plain; askings as data -/
namespace DL
open PySem L2
/-- a number's text -/
def iS (k : Int) : Str := (toString k : String)
section
variable {Γ : Env} {f g : M T} {d : D} {t : T} {i j : Nat}
@[simp] theorem ev_lstO (a : M (List T)) : lstO a Γ = (a Γ).bind fun ts => bindM (guardM (ts.all T.free && decide (ts.length ≤ sizeLine))) fun _ => retM (.ol ts) := by exact rfl
@[simp] theorem free_fz : (T.fz d).free = true := by exact rfl
@[simp] theorem free_ol {ts : List T} : (T.ol ts).free = true := by exact rfl
@[simp] theorem ev_appendIx : appendIx i f j Γ = (varM i Γ).bind fun _ => bindM f fun t => bindM (lookM t) fun k => nestA i k j := by exact rfl
@[simp] theorem ev_nestA {k : Int} : nestA i (.int k) j Γ = orB (olo (slt Γ[i]?)) fun ts => orB (fzo (slt Γ[j]?)) fun d => orB (ixN ts.length k) fun m => orB (olo ts[m]?) fun us => gd (decide (us.length < sizeLine)) (.ok (.fz .non) (Γ.set i (some (.ol (ts.set m (.ol (us ++ [.fz d]))))))) := by
  unfold nestA
  rcases h1 : Γ[i]? with _ | _ | t
  · exact rfl
  · exact rfl
  · cases t with
    | ol ts =>
      rcases h2 : Γ[j]? with _ | _ | t2
      · exact rfl
      · exact rfl
      · cases t2 with
        | fz d =>
          simp only [slt_s, olo_s, fzo_s, orB_s]
          cases h3 : ixN ts.length k with
          | none => exact rfl
          | some m =>
            simp only [orB_s]
            rcases h4 : ts[m]? with _ | t3
            · exact rfl
            · cases t3 with
              | ol us =>
                simp only [olo_s, orB_s]
                by_cases h5 : us.length < sizeLine
                · rw [if_pos h5, decide_eq_true h5]; exact rfl
                · rw [if_neg h5, decide_eq_false h5]; exact rfl
              | _ => exact rfl
        | _ => exact rfl
    | _ => rcases Γ[j]? with _ | _ | t2 <;> exact rfl
@[simp] theorem ev_sortM : sortM f Γ = (f Γ).bind fun t => bindM (sqM t) sortQ := by exact rfl
@[simp] theorem ev_sortQ {ds : List D} : sortQ (.l ds) Γ = orB (pairsD ds) fun ps => sortD ps Γ := by
  show (optM (pairsD ds) Γ).bind sortD = _
  cases pairsD ds <;> exact rfl
@[simp] theorem ev_sortD {ps : List (Int × Str)} : sortD ps Γ = gd (decide (ps.map (·.1)).Nodup) (.ok (.ol (((sortP ps).map prD).map T.fz)) Γ) := by
  show (guardM (decide (ps.map (·.1)).Nodup) Γ).bind _ = _
  rw [ev_guard]
  cases decide (ps.map (·.1)).Nodup <;> exact rfl
@[simp] theorem ev_strD1 {k : Int} : strD [.int k] = if k.natAbs < 1000000 then some (.str (iS k)) else none := by exact rfl
@[simp] theorem ev_intT1 {a : Str} : intT [.str a] = if a.length ≤ 640 then (PySem.intText? a).map D.int else none := by exact rfl
@[simp] theorem ev_maxD1 {k l : Int} : maxD [.int k, .int l] = some (.int (if l > k then l else k)) := by exact rfl
end
@[simp] theorem sm_str {n : Nat} {x : Str} : D.sm n (.str x) = PyData.strOk x := by unfold D.sm; exact rfl
/-! ### plain texts -/
def Pl (w : Str) : Prop := ∀ c ∈ w.cps.toList, c < 128
theorem Pl.ok {w : Str} (h : Pl w) : PyData.strOk w = true := by
  unfold PyData.strOk
  rw [← Array.all_toList, List.all_eq_true]
  intro c hc
  have := h c hc
  exact decide_eq_true (by omega)
theorem str_eqb {a b : Str} : (a == b) = decide (a = b) := by
  by_cases h : a = b
  · subst h; rw [decide_eq_true rfl]; exact beq_self_eq_true a
  · rw [decide_eq_false h]; exact beq_eq_false_iff_ne.mpr h
theorem eqS {a b : Str} (ha : PyData.strOk a = true) (hb : PyData.strOk b = true) : eqD (.str a) (.str b) = some (.bl (decide (a = b))) := by
  unfold eqD
  rw [fit_str, fit_str, ha, hb]
  show some (D.bl (a == b)) = _
  rw [str_eqb]
theorem neS {a b : Str} (ha : PyData.strOk a = true) (hb : PyData.strOk b = true) : neD (.str a) (.str b) = some (.bl (!decide (a = b))) := by
  unfold neD
  rw [fit_str, fit_str, ha, hb]
  show some (D.bl (!(a == b))) = _
  rw [str_eqb]
theorem any_strs {k : Str} : ∀ {xs : List Str}, ((xs.map D.str).any fun y => y.eqb (.str k)) = decide (k ∈ xs)
  | [] => rfl
  | x :: xs => by
    rw [List.map_cons, List.any_cons, any_strs]
    show ((x == k) || _) = _
    rw [str_eqb]
    by_cases h1 : x = k
    · simp [h1]
    · have h2 : ¬ k = x := fun e => h1 e.symm
      simp [h1, h2]
theorem fits_strs {n : Nat} : ∀ {xs : List Str}, (∀ x ∈ xs, PyData.strOk x = true) → D.fits n (xs.map D.str) = true
  | [], _ => fits_nil
  | x :: xs, h => by
    rw [List.map_cons, fits_cons, fit_str, h x List.mem_cons_self, fits_strs fun y hy => h y (List.mem_cons_of_mem _ hy)]
    rfl
theorem inS {k : Str} {xs : List Str} (hk : PyData.strOk k = true) (h : ∀ x ∈ xs, PyData.strOk x = true) : inB (.str k) (.lst (xs.map D.str)) = some (decide (k ∈ xs)) := by
  show (if (D.fit 32 (.str k) && D.fit 64 (.lst (xs.map D.str))) = true then some ((xs.map D.str).any fun y => y.eqb (.str k)) else none) = _
  rw [fit_str, hk, fit_lst, fits_strs h, any_strs]
  rfl
theorem flat_strs : ∀ {xs : List Str}, (xs.map D.str).all D.flat = true
  | [] => rfl
  | _ :: xs => by rw [List.map_cons, List.all_cons, flat_strs]; exact rfl
theorem inST {k : Str} {xs : List Str} : inB (.str k) (.tup (xs.map D.str)) = some (decide (k ∈ xs)) := by
  show (if (D.flat (.str k) && (xs.map D.str).all D.flat) = true then some ((xs.map D.str).any fun y => y.eqb (.str k)) else none) = _
  rw [flat_strs, any_strs]
  rfl
theorem inD_of {x y : D} {b : Bool} (h : inB x y = some b) : inD x y = some (.bl b) := by unfold inD; rw [h]; rfl
theorem ninD_of {x y : D} {b : Bool} (h : inB x y = some b) : ninD x y = some (.bl (!b)) := by unfold ninD; rw [h]; rfl
/-! ### words of a text -/
theorem joinL_len {s : Nat} : ∀ ps : List (List Nat), ps ≠ [] → (TL.joinL [s] ps).length + 1 = (ps.map List.length).sum + ps.length
  | [], h => absurd rfl h
  | [p], _ => by show p.length + 1 = p.length + 0 + 1; omega
  | p :: q :: r, _ => by
    have ih := joinL_len (s := s) (q :: r) (by simp)
    show (p ++ ([s] ++ TL.joinL [s] (q :: r))).length + 1 = p.length + ((q :: r).map List.length).sum + ((q :: r).length + 1)
    rw [List.length_append, List.length_append, List.length_singleton]
    omega
theorem joinL_mem {s c : Nat} : ∀ {ps : List (List Nat)}, c ∈ TL.joinL [s] ps → c = s ∨ ∃ p ∈ ps, c ∈ p
  | [], h => nomatch h
  | [p], h => .inr ⟨p, List.mem_cons_self, h⟩
  | p :: q :: r, h => by
    have h' : c ∈ p ++ ([s] ++ TL.joinL [s] (q :: r)) := h
    rcases List.mem_append.mp h' with h1 | h1
    · exact .inr ⟨p, List.mem_cons_self, h1⟩
    · rcases List.mem_append.mp h1 with h2 | h2
      · exact .inl (List.mem_singleton.mp h2)
      · rcases joinL_mem h2 with e | ⟨p', hp, hc⟩
        · exact .inl e
        · exact .inr ⟨p', List.mem_cons_of_mem _ hp, hc⟩
theorem mem_joinL {s c : Nat} : ∀ {ps : List (List Nat)} {p : List Nat}, p ∈ ps → c ∈ p → c ∈ TL.joinL [s] ps
  | [q], p, hp, hc => by rw [List.mem_singleton.mp hp] at hc; exact hc
  | q :: q2 :: r, p, hp, hc => by
    show c ∈ q ++ ([s] ++ TL.joinL [s] (q2 :: r))
    rcases List.mem_cons.mp hp with rfl | hp
    · exact List.mem_append_left _ hc
    · exact List.mem_append_right _ (List.mem_append_right _ (mem_joinL hp hc))
abbrev sp : Str := " "
theorem sp_tl : TL.tl sp = [32] := by rfl
def wordsOf (x : Str) : List Str := Txt.split x sp
theorem words_join (x : Str) : Txt.join sp (wordsOf x) = x := by
  rw [TL.join_eq]
  exact StrLaws.join_split x sp
theorem words_ne (x : Str) : wordsOf x ≠ [] := by
  unfold wordsOf
  intro h
  have hk : ¬ Builtin.Str.strKind x < Builtin.Str.strKind sp := by
    have : Builtin.Str.strKind sp = 0 ∨ True := .inr trivial
    intro z
    have e : (SX.S (TL.tl x)) = x := TL.mk_tl x
    have h2 := SX.split_S (a := TL.tl x) (b := [32]) (by simp) (by decide)
    rw [show SX.S (TL.tl x) = x from TL.mk_tl x, show SX.S [32] = sp from rfl] at h2
    rw [h2] at h
    have h3 : TL.spl [32] 0 [] (TL.tl x) = [] := List.map_eq_nil_iff.mp h
    have : ∀ (S : List Nat) (l : List Nat) (k : Nat) (acc : List Nat), TL.spl S k acc l ≠ [] := by
      intro S l
      induction l with
      | nil => intro k acc; unfold TL.spl; simp
      | cons c r ih =>
        intro k acc
        cases k with
        | zero =>
          unfold TL.spl
          split
          · simp
          · exact ih _ _
        | succ k => unfold TL.spl; exact ih _ _
    exact this _ _ _ _ h3
  have h2 := TL.split_spl x sp (by decide) hk
  rw [h] at h2
  have : ∀ (S : List Nat) (l : List Nat) (k : Nat) (acc : List Nat), TL.spl S k acc l ≠ [] := by
    intro S l
    induction l with
    | nil => intro k acc; unfold TL.spl; simp
    | cons c r ih =>
      intro k acc
      cases k with
      | zero =>
        unfold TL.spl
        split
        · simp
        · exact ih _ _
      | succ k => unfold TL.spl; exact ih _ _
  exact this _ _ _ _ h2.symm
theorem join_tl (ws : List Str) : (Txt.join sp ws).cps.toList = TL.joinL [32] (ws.map TL.tl) := by
  rw [TL.join_eq]
  exact TL.tl_join sp ws
theorem join_pl {ws : List Str} (h : ∀ w ∈ ws, Pl w) : Pl (Txt.join sp ws) := by
  intro c hc
  rw [join_tl] at hc
  rcases joinL_mem hc with rfl | ⟨p, hp, hc⟩
  · decide
  · obtain ⟨w, hw, rfl⟩ := List.mem_map.mp hp
    exact h w hw c hc
theorem words_pl {x : Str} (h : Pl x) : ∀ w ∈ wordsOf x, Pl w := by
  intro w hw c hc
  refine h c ?_
  rw [← words_join x, join_tl]
  exact mem_joinL (List.mem_map.mpr ⟨w, hw, rfl⟩) hc
def lensum (ws : List Str) : Nat := (ws.map (·.length)).sum
theorem lensum_tl (ws : List Str) : ((ws.map TL.tl).map List.length).sum = lensum ws := by
  unfold lensum
  rw [List.map_map]
  congr 1
theorem join_len {ws : List Str} (h : ws ≠ []) : (Txt.join sp ws).length + 1 = lensum ws + ws.length := by
  have e : (Txt.join sp ws).length = (Txt.join sp ws).cps.toList.length := by rw [Array.length_toList]; rfl
  rw [e, join_tl, joinL_len _ (by simpa using h), lensum_tl, List.length_map]
theorem words_len (x : Str) : lensum (wordsOf x) + (wordsOf x).length = x.length + 1 := by
  have := join_len (words_ne x)
  rw [words_join] at this
  omega
theorem join_le (ws : List Str) : (Txt.join sp ws).length ≤ lensum ws + ws.length := by
  by_cases h : ws = []
  · subst h; exact Nat.zero_le _
  · have := join_len h
    omega
theorem joinD_ok {ws : List Str} (h : lensum ws + ws.length ≤ 1000000) : joinD sp (ws.map D.str) = some (.str (Txt.join sp ws)) := by
  refine ev_joinD ?_
  have e : (sp : Str).length = 1 := by rfl
  rw [e]
  unfold lensum at h
  omega
theorem splitD_ok {x : Str} (h : x.length ≤ 1000000) : splitD sp (.str x) = some (wordsOf x) := by
  have h1 := words_len x
  show (if ((sp : Str).length == 0) = false ∧ x.length + 2 ≤ sizeLine ∧ (Txt.split x sp).length ≤ sizeLine then some (Txt.split x sp) else none) = _
  have h2 : (Txt.split x sp).length ≤ sizeLine := by
    show (wordsOf x).length ≤ sizeLine
    unfold sizeLine
    omega
  rw [if_pos ⟨by rfl, by unfold sizeLine; omega, h2⟩]
  rfl
theorem lensum_app {a b : List Str} : lensum (a ++ b) = lensum a + lensum b := by
  unfold lensum
  rw [List.map_append, List.sum_append]
end DL
/-! askings, plainly -/
namespace DL
open PySem L2
def dig (w : Str) : Option Int := match w.cps.toList with
  | [c] => if 48 ≤ c ∧ c ≤ 54 then some ((c : Int) - 48) else none
  | _ => none
abbrev figs : Str := "0123456"
theorem figs_tl : figs.cps.toList = [48, 49, 50, 51, 52, 53, 54] := by rfl
theorem int_fig {k : Nat} (h : k < 7) : PySem.intText? (tx [48 + k]) = some (k : Int) := by
  match k, h with
  | 0, _ => decide +kernel
  | 1, _ => decide +kernel
  | 2, _ => decide +kernel
  | 3, _ => decide +kernel
  | 4, _ => decide +kernel
  | 5, _ => decide +kernel
  | 6, _ => decide +kernel
theorem dig_fig {k : Nat} (h : k < 7) : dig (tx [48 + k]) = some (k : Int) := by
  show (if 48 ≤ 48 + k ∧ 48 + k ≤ 54 then some (((48 + k : Nat) : Int) - 48) else none) = _
  rw [if_pos (by omega)]
  congr 1
  omega
theorem dig_case (w : Str) : (w.length ≠ 1 ∧ dig w = none) ∨ (∃ c, w = tx [c] ∧ c ∉ figs.cps.toList ∧ dig w = none) ∨ ∃ k : Nat, k < 7 ∧ w = tx [48 + k] ∧ 48 + k ∈ figs.cps.toList := by
  have hl : w.length = w.cps.toList.length := by rw [Array.length_toList]; rfl
  cases h : w.cps.toList with
  | nil => exact .inl ⟨by rw [hl, h]; decide, by unfold dig; rw [h]⟩
  | cons c r =>
    cases r with
    | nil =>
      have e : w = tx [c] := by rw [← h]; exact (tx_eta w).symm
      by_cases hc : 48 ≤ c ∧ c ≤ 54
      · refine .inr (.inr ⟨c - 48, by omega, ?_, ?_⟩)
        · rw [show 48 + (c - 48) = c by omega]; exact e
        · rw [figs_tl, show 48 + (c - 48) = c by omega]
          simp
          omega
      · refine .inr (.inl ⟨c, e, ?_, ?_⟩)
        · rw [figs_tl]
          simp
          omega
        · unfold dig
          rw [h]
          exact if_neg hc
    | cons c2 r => exact .inl ⟨by rw [hl, h, List.length_cons, List.length_cons]; omega, by unfold dig; rw [h]⟩
theorem dig_lt {w : Str} {k : Int} (h : dig w = some k) : ∃ n : Nat, k = n ∧ n < 7 ∧ w = tx [48 + n] := by
  rcases dig_case w with ⟨_, e⟩ | ⟨c, _, _, e⟩ | ⟨n, hn, e, _⟩
  · rw [e] at h; cases h
  · rw [e] at h; cases h
  · rw [e, dig_fig hn] at h
    exact ⟨n, (Option.some.inj h).symm, hn, e⟩
def mkOf (w : Str) : Nat := match w.cps.toList with
  | c :: _ => if c = 45 then 1 else if c = 61 then 2 else 0
  | [] => 0
def mkS (m : Nat) : Str := if m = 1 then "-" else if m = 2 then "=" else ""
def bareOf (w : Str) : Str := if mkOf w = 0 then w else tx (w.cps.toList.drop 1)
abbrev hdOf (w : Str) : Str := tx (w.cps.toList.take 1)
theorem hd_cut (w : Str) : cutS w none (some 1) = hdOf w := by
  rw [← tx_eta w, cutS_tx]
  congr 1
  unfold cutL
  rw [show (1 : Int) = ((1 : Nat) : Int) from rfl, HT.sIx_nat, HT.sIx_none, List.drop_zero, Nat.sub_zero]
  show List.take (min 1 w.cps.toList.length) w.cps.toList = List.take 1 w.cps.toList
  by_cases h : 1 ≤ w.cps.toList.length
  · rw [Nat.min_eq_left h]
  · rw [Nat.min_eq_right (by omega), List.take_length, List.take_of_length_le (by omega)]
theorem drop_cut (w : Str) (n : Nat) : cutS w (some (n : Int)) none = tx (w.cps.toList.drop n) := by
  rw [← tx_eta w, cutS_tx]
  exact congrArg tx (cut_from (n := n))
theorem sMinus : ("-" : Str) = tx [45] := by rfl
theorem sEq : ("=" : Str) = tx [61] := by rfl
theorem mk_case (w : Str) : (mkOf w = 0 ∧ hdOf w ∉ [("-" : Str), "="] ∧ bareOf w = w) ∨ ((mkOf w = 1 ∨ mkOf w = 2) ∧ hdOf w ∈ [("-" : Str), "="] ∧ hdOf w = mkS (mkOf w) ∧ bareOf w = tx (w.cps.toList.drop 1) ∧ w = mkS (mkOf w) ++ bareOf w) := by
  have he := tx_eta w
  unfold bareOf mkOf hdOf mkS
  cases h : w.cps.toList with
  | nil =>
    refine .inl ⟨rfl, ?_, if_pos rfl⟩
    simp only [List.mem_cons, List.not_mem_nil, or_false, List.take_nil, not_or, sMinus, sEq, tx_inj]
    decide
  | cons c r =>
    rw [h] at he
    by_cases h1 : c = 45
    · subst h1
      refine .inr ⟨.inl rfl, ?_, rfl, rfl, ?_⟩
      · simp [sMinus]
      · show w = tx [45] ++ tx r
        rw [tx_app]
        exact he.symm
    · by_cases h2 : c = 61
      · subst h2
        refine .inr ⟨.inr rfl, ?_, rfl, rfl, ?_⟩
        · simp [sEq]
        · show w = tx [61] ++ tx r
          rw [tx_app]
          exact he.symm
      · refine .inl ⟨by simp [h1, h2], ?_, if_pos (by simp [h1, h2])⟩
        simp [sMinus, sEq, tx_inj, h1, h2]
theorem mk_lt (w : Str) : mkOf w < 3 := by
  rcases mk_case w with h | h
  · omega
  · omega
/-- the things behind where -/
def items (seen : List Int) : Nat → Int → List Str → Nat ⊕ List (Nat × Int)
  | _, _, [] => .inr []
  | n, last, w :: r => match dig (bareOf w) with
    | none => .inl n
    | some k => if k ∈ seen ∨ k ≤ last then .inl n else match items seen (n + 1) k r with
      | .inl a => .inl a
      | .inr ps => .inr ((mkOf w, k) :: ps)
abbrev Rd4 := Nat ⊕ (Str × Int × Int × List (Nat × Int))
def read4 (w0 : Str) (a b : Int) : List Str → Rd4
  | [] => .inr (w0, a, b, [])
  | w4 :: r4 => if w4 ≠ "where" then .inl 4 else if r4 = [] then .inl 5 else match items [a, b] 5 (-1) r4 with
    | .inl n => .inl n
    | .inr ps => .inr (w0, a, b, ps)
def read3 (w0 : Str) (a : Int) : List Str → Rd4
  | [] => .inl 3
  | w3 :: r3 => match dig w3 with
    | none => .inl 3
    | some b => if b = a then .inl 3 else read4 w0 a b r3
def read2 (w0 : Str) (a : Int) : List Str → Rd4
  | [] => .inl 2
  | w2 :: r2 => if w2 ≠ "by" then .inl 2 else read3 w0 a r2
def read1 (w0 : Str) : List Str → Rd4
  | [] => .inl 1
  | w1 :: r1 => match dig w1 with
    | none => .inl 1
    | some a => read2 w0 a r1
def readIt : List Str → Rd4
  | [] => .inl 0
  | w0 :: r0 => if w0 ∉ [("greatest" : Str), "least"] then .inl 0 else read1 w0 r0
abbrev intsT (xs : List Int) : D := .tup (xs.map D.int)
abbrev askD (w : Str) (a b : Int) (o u e : List Int) : D := .tup [.str w, .int a, .int b, intsT o, intsT u, intsT e]
def pickM (m : Nat) (ps : List (Nat × Int)) : List Int := (ps.filter fun p => decide (p.1 = m)).map (·.2)
/-- the pairs by which the text is written -/
def ofKinds (o u e : List Int) : List (Int × Str) := (o.map fun t => (t, ("" : Str))) ++ (u.map fun t => (t, ("-" : Str))) ++ (e.map fun t => (t, ("=" : Str)))
def wordsFor (w : Str) (a b : Int) (ps : List (Int × Str)) : List Str := ([w, (iS a), ("by" : Str), (iS b)] : List Str) ++ (if ps = [] then ([] : List Str) else ("where" : Str) :: (sortP ps).map fun p => p.2 ++ (iS p.1))
/-! ### reading, then writing -/
theorem fig_str {k : Nat} (h : k < 7) : iS (k : Int) = tx [48 + k] := by
  match k, h with
  | 0, _ => decide +kernel
  | 1, _ => decide +kernel
  | 2, _ => decide +kernel
  | 3, _ => decide +kernel
  | 4, _ => decide +kernel
  | 5, _ => decide +kernel
  | 6, _ => decide +kernel
theorem dig_str {w : Str} {k : Int} (h : dig w = some k) : (iS k) = w := by
  obtain ⟨n, rfl, hn, rfl⟩ := dig_lt h
  exact fig_str hn
theorem item_str {w : Str} {k : Int} (h : dig (bareOf w) = some k) : mkS (mkOf w) ++ (iS k) = w := by
  rw [dig_str h]
  rcases mk_case w with ⟨h1, _, h2⟩ | ⟨_, _, _, _, h2⟩
  · rw [h1, h2]
    show ("" : Str) ++ w = w
    exact TL.ext_tl (by rw [TL.tl_append]; rfl)
  · exact h2.symm
theorem items_words {seen : List Int} : ∀ {ws : List Str} {n : Nat} {last : Int} {ps : List (Nat × Int)}, items seen n last ws = .inr ps → (ps.map fun p => mkS p.1 ++ (iS p.2)) = ws ∧ (∀ p ∈ ps, p.1 < 3 ∧ last < p.2 ∧ p.2 ∉ seen ∧ 0 ≤ p.2 ∧ p.2 < 7) ∧ ps.Pairwise (fun p q => p.2 < q.2)
  | [], n, last, ps, h => by cases h; exact ⟨rfl, (fun _ h => nomatch h), List.Pairwise.nil⟩
  | w :: ws, n, last, ps, h => by
    unfold items at h
    cases e : dig (bareOf w) with
    | none => rw [e] at h; cases h
    | some k =>
      rw [e] at h
      simp only at h
      split at h
      · cases h
      · rename_i hk
        rw [not_or] at hk
        cases e2 : items seen (n + 1) k ws with
        | inl a => rw [e2] at h; cases h
        | inr qs =>
          rw [e2] at h
          cases h
          obtain ⟨h1, h2, h3⟩ := items_words e2
          obtain ⟨m, rfl, hm, _⟩ := dig_lt e
          refine ⟨by rw [List.map_cons, h1, item_str e], fun p hp => ?_, List.pairwise_cons.mpr ⟨fun q hq => (h2 q hq).2.1, h3⟩⟩
          rcases List.mem_cons.mp hp with rfl | hp
          · exact ⟨mk_lt w, by omega, hk.1, by omega, by omega⟩
          · obtain ⟨g1, g2, g3⟩ := h2 p hp
            exact ⟨g1, by omega, g3⟩
def toPr (p : Nat × Int) : Int × Str := (p.2, mkS p.1)
theorem kinds_perm : ∀ {ps : List (Nat × Int)}, (∀ p ∈ ps, p.1 < 3) → (ofKinds (pickM 0 ps) (pickM 1 ps) (pickM 2 ps)).Perm (ps.map toPr)
  | [], _ => List.Perm.refl _
  | p :: ps, h => by
    have ih := kinds_perm (ps := ps) fun q hq => h q (List.mem_cons_of_mem _ hq)
    have hp := h p List.mem_cons_self
    obtain ⟨m, k⟩ := p
    have key : ∀ j, pickM j ((m, k) :: ps) = if m = j then k :: pickM j ps else pickM j ps := by
      intro j
      unfold pickM
      by_cases e : m = j
      · rw [List.filter_cons_of_pos (by simp [e]), if_pos e]; rfl
      · rw [List.filter_cons_of_neg (by simp [e]), if_neg e]
    rw [key, key, key, List.map_cons]
    unfold ofKinds at ih ⊢
    simp only at hp
    rcases (show m = 0 ∨ m = 1 ∨ m = 2 by omega) with rfl | rfl | rfl
    · simp only [if_true, show ¬ (0 = 1) by decide, show ¬ (0 = 2) by decide, if_false]
      exact ih.cons _
    · simp only [if_true, show ¬ (1 = 0) by decide, show ¬ (1 = 2) by decide, if_false]
      refine List.Perm.trans ?_ (ih.cons _)
      rw [List.map_cons, List.append_assoc, List.append_assoc, List.cons_append]
      exact List.perm_middle
    · simp only [if_true, show ¬ (2 = 0) by decide, show ¬ (2 = 1) by decide, if_false]
      refine List.Perm.trans ?_ (ih.cons _)
      rw [List.map_cons]
      exact List.perm_middle
theorem rising_nodup {ps : List (Nat × Int)} (h : ps.Pairwise (fun p q => p.2 < q.2)) : ((ps.map toPr).map (·.1)).Nodup := by
  rw [List.map_map]
  exact List.pairwise_map.mpr (h.imp fun {a b} h e => by
    have : a.2 = b.2 := e
    omega)
theorem kinds_sorted {ps : List (Nat × Int)} (h1 : ∀ p ∈ ps, p.1 < 3) (h2 : ps.Pairwise (fun p q => p.2 < q.2)) : sortP (ofKinds (pickM 0 ps) (pickM 1 ps) (pickM 2 ps)) = ps.map toPr :=
  sorted_uniq ((sortP_perm _).trans (kinds_perm h1)) (sortP_sorted _) (List.pairwise_map.mpr (h2.imp fun {a b} h => by show a.2 ≤ b.2; omega)) (rising_nodup h2)
theorem kinds_nodup {ps : List (Nat × Int)} (h1 : ∀ p ∈ ps, p.1 < 3) (h2 : ps.Pairwise (fun p q => p.2 < q.2)) : ((ofKinds (pickM 0 ps) (pickM 1 ps) (pickM 2 ps)).map (·.1)).Nodup := ((kinds_perm h1).map _).nodup_iff.mpr (rising_nodup h2)
theorem kinds_nil {ps : List (Nat × Int)} (h1 : ∀ p ∈ ps, p.1 < 3) : ofKinds (pickM 0 ps) (pickM 1 ps) (pickM 2 ps) = [] ↔ ps = [] := by
  have := (kinds_perm h1).length_eq
  rw [List.length_map] at this
  constructor
  · intro h; rw [h] at this; exact List.eq_nil_of_length_eq_zero this.symm
  · intro h; subst h; exact List.eq_nil_of_length_eq_zero this
/-- what is read is written back -/
theorem read_back {ws : List Str} {w : Str} {a b : Int} {ps : List (Nat × Int)} (h : readIt ws = .inr (w, a, b, ps)) : wordsFor w a b (ofKinds (pickM 0 ps) (pickM 1 ps) (pickM 2 ps)) = ws ∧ (∀ p ∈ ps, p.1 < 3 ∧ 0 ≤ p.2 ∧ p.2 < 7) ∧ ps.Pairwise (fun p q => p.2 < q.2) ∧ (0 ≤ a ∧ a < 7) ∧ (0 ≤ b ∧ b < 7) ∧ w ∈ [("greatest" : Str), "least"] := by
  unfold readIt at h
  split at h
  · cases h
  · rename_i w0 r0
    split at h
    · cases h
    · rename_i hw
      have hw' : w0 ∈ [("greatest" : Str), "least"] := Classical.not_not.mp hw
      unfold read1 at h
      split at h
      · cases h
      · rename_i w1 r1
        split at h
        · cases h
        · rename_i a' ea
          unfold read2 at h
          split at h
          · cases h
          · rename_i w2 r2
            split at h
            · cases h
            · rename_i h2
              have h2' : w2 = "by" := Classical.not_not.mp h2
              unfold read3 at h
              split at h
              · cases h
              · rename_i w3 r3
                split at h
                · cases h
                · rename_i b' eb
                  split at h
                  · cases h
                  · rename_i hab
                    obtain ⟨na, ena, hna, _⟩ := dig_lt ea
                    obtain ⟨nb, enb, hnb, _⟩ := dig_lt eb
                    unfold read4 at h
                    split at h
                    · simp only [Sum.inr.injEq, Prod.mk.injEq] at h
                      obtain ⟨rfl, rfl, rfl, rfl⟩ := h
                      refine ⟨?_, (fun _ h => nomatch h), List.Pairwise.nil, by omega, by omega, hw'⟩
                      show ([w0, (iS a'), ("by" : Str), (iS b')] : List Str) ++ [] = _
                      rw [dig_str ea, dig_str eb, h2']
                      rfl
                    · rename_i w4 r4
                      split at h
                      · cases h
                      · rename_i h4
                        have h4' : w4 = "where" := Classical.not_not.mp h4
                        split at h
                        · cases h
                        · rename_i hr
                          split at h
                          · cases h
                          · rename_i ps eq
                            simp only [Sum.inr.injEq, Prod.mk.injEq] at h
                            obtain ⟨rfl, rfl, rfl, rfl⟩ := h
                            obtain ⟨g1, g2, g3⟩ := items_words eq
                            have g4 : ∀ p ∈ ps, p.1 < 3 := fun p hp => (g2 p hp).1
                            refine ⟨?_, fun p hp => ⟨(g2 p hp).1, (g2 p hp).2.2.2.1, (g2 p hp).2.2.2.2⟩, g3, by omega, by omega, hw'⟩
                            have hne : ¬ ps = [] := fun z => by
                              subst z
                              exact hr g1.symm
                            unfold wordsFor
                            rw [if_neg (fun z => hne ((kinds_nil g4).mp z)), kinds_sorted g4 g3, dig_str ea, dig_str eb, h2', h4', List.map_map]
                            show ([w0, w1, ("by" : Str), w3] : List Str) ++ ("where" : Str) :: (ps.map fun p => mkS p.1 ++ (iS p.2)) = _
                            rw [g1]
                            rfl
end DL
set_option maxHeartbeats 1000000
/-! len({x for x in xs}), whole numbers -/
namespace DL
open PySem PySem.Spec PyProof.Rows L2 PpSet
section
variable {X : Cx}
def tSi (w : World) (wi : TI) (g : TG) (te : TE) (vs : List Nat) : TE := fun σ H Q => wi σ H fun J H1 => ∀ D, H1 D = none → ∃ W : Nat → Nat → Hp → Prop, (∃ m, W 0 m (upd H1 D (SetO w D (fun _ => false) 0))) ∧ ∀ i m H, W i m H →
  (J.stop i H ∧ Q (.ref D) H) ∨ (J.go i H ∧ ∃ Nx : Hp → Prop, (∀ H', Nx H' → ∃ m', m' < m ∧ W (i + 1) m' H') ∧ ∀ x H', J.yld i H x H' → g x (wipe σ vs) H' fun σ2 H2 => wipe σ2 vs = wipe σ vs ∧ te σ2 H2 fun y H4 =>
    ∃ (k : Int) (S : Int → Bool) (n : Nat), y = .int k ∧ H4 D = some (SetO w D S n) ∧ n + 1 < scanBound ∧ Nx (upd H4 D (SetO w D (fun j => S j || decide (j = k)) (if S k = true then n else n + 1))))
theorem si_start {elt tg iter : Expr} {scope : Scope} {own : List (Str × Nat)} {pos : Pos} {wi : TI} {g : TG} {te : TE} (calm : X.calm = true) (nd : X.N.Nodup) (pi : PI X tg iter wi) (blk : BlkOk X.N X.env.scope scope own)
    (pg : ∀ (s : Shared) (H : Hp) (C : Addr) (cl : List (Str × Addr)) (fp : List Addr), PG (X.blk s H scope (compEnvC scope cl C X.env) fp) tg g)
    (pe : ∀ (s : Shared) (H : Hp) (C : Addr) (cl : List (Str × Addr)) (fp : List Addr), PE (X.blk s H scope (compEnvC scope cl C X.env) fp) elt te) (fold : ∀ x, foldedSetIterable iter X.env x = pure x := by intro _; rfl) : PE X (.SetComp elt [⟨tg, iter, [], 0⟩] scope pos) (tSi X.w wi g te (own.map (·.2))) := by
  refine ⟨fun pins s σ H Q I0 goal => ?_⟩
  rw [PpSet.eval_SetComp]
  have cap : ∀ y ∈ scope.names, y.2 = .free → ∃ c, X.env.cells.lookup y.1 = some c := fun y hy e => (blk.free y hy e).elim (fun k => I0.ok.has _ (.inl k)) (fun k => I0.ok.has _ (.inr k))
  refine wpAny_comprehension_free rfl fold (closure_ok cap) blk.kind (fun y hy e => (blk.uniq y hy).trans (congrArg some e))
    (thn (pi.run pins s σ H _ I0 goal) fun _ _ itr => thn itr fun _ sI ⟨it, fp, tn, J, HI, ei, II, TI, tI, fI, qI⟩ => ?_)
  subst ei
  refine PpSet.newSet_ok (newEnv_comp ?_)
  have nL : HI sI.heap.objs.size = none := II.hok.fresh (Nat.le_refl _)
  obtain ⟨W, ⟨m0, w0⟩, turn⟩ := qI _ nL
  let sB : Shared := { sI with heap := sI.heap.push { cls := .type "set", dict := none, data := .set #[] 0 (.fresh 0 0 (!X.w.params.followText "set-order")) } }
  let HB : Hp := upd HI sI.heap.objs.size (SetO X.w sI.heap.objs.size (fun _ => false) 0)
  have IB : Inv X pins σ HB sB := II.laid (t' := sI.toks) (fun b o e => Heap.get?_push_of_some _ e) (Nat.le_refl _) (setO_new (setR_fresh X.w))
  have lt : ∀ b ∈ fp, b < sI.heap.objs.size := fun b hb => let ⟨_, e, _⟩ := TI.obj _ _ tI b hb; Heap.lt_size e
  have fB : ∀ b ∈ fp, FpOk X pins HB b := fun b hb => ⟨by show upd HI _ _ b = none; rw [upd_ne (Nat.ne_of_lt (lt b hb))]; exact (fI b hb).1, (fI b hb).2⟩
  have fB2 : ∀ b ∈ fp, FpOk X pins HB b ∧ b < sB.heap.objs.size := fun b hb => ⟨fB b hb, by show b < (sI.heap.push _).objs.size; rw [Heap.size_push]; exact Nat.lt_succ_of_lt (lt b hb)⟩
  have IK := block_start IB blk nd fB2
  have tB : tn 0 sB.heap := TI.keep _ _ _ tI fun b _ o e => Heap.get?_push_of_some _ e
  let cs := cellsFrom (sB.heap.objs.size + 1) scope.names (cloFrom X.env.cells scope.names [])
  let ce := compEnvC scope cs sB.heap.objs.size X.env
  let Y := X.blk sB HB scope ce fp
  have eY : PE Y elt te := pe _ _ _ _ _
  have gY : PG Y tg g := pg _ _ _ _ _
  have oY : PTs Y [] tYes := pts_nil
  let sK : Shared := { sB with heap := pushCells (sB.heap.push { cls := .type "dict", data := .dict #[] }) scope.names }
  have IK : Inv Y [] (wipe σ (own.map (·.2))) HB sK := IK
  have tK : tn 0 sK.heap := TI.keep _ _ _ tB fun b _ o e => pushCells_keeps _ _ _ _ (Heap.get?_push_of_some _ e)
  have still : ∀ {σ' : L2.St} {H' : Hp} {s' : Shared}, Inv Y [] σ' H' s' → (∀ b ∈ fp, H' b = none) → ∀ b ∈ fp, FpOk Y [] H' b := fun {σ' H' s'} I' n b hb =>
    ⟨n b hb, (I'.ok.exf b hb).1, I'.ok.exfs b hb, .inl hb, fun x c e => (I'.ok.exf b hb).2 x c e, fun p hp => (nomatch (show p ∈ ([] : List (Addr × Obj)) from hp))⟩
  have run : codeAny (model X.prog X.w) X.A (.compLoop (.SetComp elt [⟨tg, iter, [], 0⟩] scope pos) 0 (.ref it) (.ref sI.heap.objs.size) ce) (compPost (model X.prog X.w) X.A X.xe none (EP X pins σ Q) (.ref sI.heap.objs.size) sB.heap.objs.size) sK := by
    refine PpSet.compLoopS_any (fun n s' => ∃ i H', Inv Y [] (wipe σ (own.map (·.2))) H' s' ∧ tn i s'.heap ∧ (∀ b ∈ fp, H' b = none) ∧ W i n H') (fun n s5 ⟨i, H5, I5, t5, n5, w5⟩ => ?_) m0 ⟨0, HB, IK, tK, fun b hb => (fB b hb).1, w0⟩
    rcases turn i n H5 w5 with ⟨stop, qq⟩ | ⟨go, Nx, dec, step⟩
    · refine thnF (TI.done Y rfl rfl rfl calm i [] s5 _ H5 (fun _ _ => False) I5 (still I5 n5) t5 stop) fun r s6 ⟨er, I6⟩ => ?_
      subst er
      have I7 : Inv X pins σ H5 s6 := IB.call' (ch := fp) I6.os I6.base I6.hok I6.bare fun b hb => ⟨(fB b hb).2.2.2.1, (fB b hb).2.1, (fB b hb).2.2.2.2.1, (fB b hb).2.2.2.2.2⟩
      obtain ⟨mm, ns, _⟩ := I6.loc
      have nC : H5 sB.heap.objs.size = none := I6.free
      have fC := IB.fpOk (H' := H5) (Nat.le_refl _) nC
      exact ⟨mm, ns, fun h2 sb => ⟨.ref _, H5, I7.turned (t' := s6.toks) (fun b o hb e => (sb.2 b hb).trans e) fC.1 fC.2.1 fC.2.2.2.1 fC.2.2.2.2.1 fC.2.2.2.2.2, rfl, qq⟩⟩
    · refine thnF (TI.item Y rfl rfl rfl calm i [] s5 _ H5 (fun _ _ => False) I5 (still I5 n5) t5 go) fun r s6 ⟨u, er, h6⟩ => ?_
      subst er
      refine thnF h6 fun _ s7 ⟨x, H7, I7, r7, y7, t7, n7⟩ => ?_
      have P7 := I7.pinned (still I7 n7) (TI.obj _ _ t7)
      refine thnF (gY.run _ s7 _ H7 x u _ P7 r7 (step x H7 y7)) fun _ s8 ⟨σ8, H8, I8, e8, q8⟩ => ?_
      refine thnF (oY.run _ s8 σ8 H8 (fun b H9 => b = true ∧ te σ8 H9 _) I8 ⟨rfl, q8⟩) fun b s9 ⟨H9, I9, eb, q9⟩ => ?_
      subst eb
      have close : ∀ {s' : Shared} {H' : Hp}, Inv Y ([] ++ pinsAt fp s7.heap) σ8 H' s' → Nx H' → ∃ m, m < n ∧ ∃ i H', Inv Y [] (wipe σ (own.map (·.2))) H' s' ∧ tn i s'.heap ∧ (∀ b ∈ fp, H' b = none) ∧ W i m H' := fun {s' H'} I' nx => by
        obtain ⟨m', hm, w'⟩ := dec H' nx
        have held : ∀ b ∈ fp, ∀ o, s7.heap.get? b = some o → s'.heap.get? b = some o ∧ H' b = none := fun b hb o e =>
          have z := I'.pin (b, o) (List.mem_append_right _ (List.mem_append_right _ (mem_pinsAt hb e)))
          ⟨z.1, z.2.1⟩
        refine ⟨m', hm, i + 1, H', (I'.unpinned (pins := [])).weak (by rw [← e8, wipe_length]) (fun j v e => ?_), TI.keep _ _ _ t7 fun b hb o e => (held b hb o e).1, fun b hb => ?_, w'⟩
        · rw [← e8] at e
          exact (wipe_some e).1
        · obtain ⟨o, e, _⟩ := TI.obj _ _ t7 b hb
          exact (held b hb o e).2
      simp only [if_true]
      refine thnF (eY.run _ s9 σ8 H9 _ I9 q9) fun z s10 ⟨yv, H10, I10, r10, k, S, nn, ey, hD, hz, nx⟩ => ?_
      refine thnF (mt_sadd (X := Y) _ s10 σ8 H10 (.ref sI.heap.objs.size) [yv] (.ref sI.heap.objs.size) [z] (fun _ H11 => Nx H11) I10 rfl (.cons r10 .nil) ⟨_, k, S, nn, rfl, by rw [ey], hD, hz, nx⟩) fun _ s11 ⟨_, H11, I11, _, nx'⟩ => close I11 nx'
  exact PpSet.codeAny_compStart_set run (TI.self X.A 0 _ _ _ tK run)
end
/-- how many unlike ones are among the first -/
def dc (ns : List Int) : Nat → Nat
  | 0 => 0
  | i + 1 => if decide (ns.getD i 0 ∈ ns.take i) = true then dc ns i else dc ns i + 1
theorem dc_le (ns : List Int) : ∀ i, dc ns i ≤ i
  | 0 => Nat.le_refl _
  | i + 1 => by
    have := dc_le ns i
    unfold dc
    split <;> omega
theorem dc_nodup {ns : List Int} : ∀ i, i ≤ ns.length → (dc ns i = i ↔ (ns.take i).Nodup)
  | 0, _ => by simp [dc]
  | i + 1, h => by
    have ih := dc_nodup (ns := ns) i (by omega)
    have hl := dc_le ns i
    have hi : i < ns.length := h
    have e1 : ns.getD i 0 = ns[i] := by rw [List.getD_eq_getElem?_getD, List.getElem?_eq_getElem hi]; rfl
    have e2 : ns.take (i + 1) = ns.take i ++ [ns[i]] := by rw [List.take_add_one, List.getElem?_eq_getElem hi]; rfl
    rw [e2, List.nodup_append]
    unfold dc
    rw [e1]
    by_cases hm : ns[i] ∈ ns.take i
    · rw [if_pos (decide_eq_true hm)]
      refine ⟨fun z => by omega, fun z => absurd rfl (z.2.2 _ hm _ (List.mem_singleton.mpr rfl))⟩
    · rw [if_neg (by simpa using hm)]
      refine ⟨fun z => ⟨ih.mp (by omega), List.pairwise_singleton _ _, fun a ha b hb e => ?_⟩, fun z => by have := ih.mpr z.1; omega⟩
      rw [List.mem_singleton.mp hb] at e
      rw [e] at ha
      exact hm ha
def intsD : List D → Option (List Int)
  | [] => some []
  | .int k :: ds => (intsD ds).map (k :: ·)
  | _ :: _ => none
theorem intsD_eq : ∀ {ds : List D} {ns : List Int}, intsD ds = some ns → ds = ns.map D.int
  | [], ns, e => by cases e; rfl
  | d :: ds, ns, e => by
    cases d with
    | int k =>
      unfold intsD at e
      cases h : intsD ds with
      | none => rw [h] at e; cases e
      | some ms => rw [h] at e; cases e; rw [intsD_eq h]; rfl
    | _ => cases e
theorem intsD_map : ∀ {ns : List Int}, intsD (ns.map D.int) = some ns
  | [] => rfl
  | k :: ns => by rw [List.map_cons, intsD, intsD_map]; rfl
def roomM (j : Nat) : M Unit := fun Γ => if j < Γ.length then .ok () Γ else .bad
def lenSetQ : Sq → M T
  | .l ds => bindM (optM (intsD ds)) fun ns => bindM (guardM (decide (ns.length ≤ 4000))) fun _ => retM (.fz (.int (dc ns ns.length)))
  | _ => fun _ => .bad
def lenSetM (j : Nat) (f : M T) : M T := bindM f fun t => bindM (roomM j) fun _ => bindM (sqM t) lenSetQ
def rLenO (w : World) : List V → Hp → VK → Prop := fun xs H Q => ∃ (a : Addr) (S : Int → Bool) (n : Nat), xs = [.ref a] ∧ H a = some (SetO w a S n) ∧ Q (.int n) H
section
variable {X : Cx} {C : Cc} {W : WX}
theorem cr_lenO : CallR X (.builtin "len") (rLenO X.w) := by
  intro pins s σ H vs us Q I r h
  obtain ⟨a, S, n, rfl, ha, q⟩ := h
  obtain ⟨u, rfl, ru⟩ := vals1 r
  obtain rfl : u = Value.ref a := ru
  obtain ⟨o, es, ep, t, ho, hx, hd, _, _, _, hb, hf, hn, _⟩ := setO_get I ha
  have hb' : es.size < 2 ^ 62 := by
    have : scanBound ≤ 2 ^ 62 := by unfold scanBound; decide
    omega
  exact call_len_set ho hx hd hf (by omega) ⟨.int n, H, I.tok _, ⟨_, by rw [hn]⟩, q⟩
theorem de_lenSet {x : Str} {e : Expr} {f : M T} {j : Nat} {scope : Scope} {p px pt pos pos2 : Pos} (hK : C.K = X.K) (calm : X.calm = true) (nd : X.N.Nodup) (hg : Gl X "len") (hm : X.mg "len" = none) (he : PE X e (rd C W f)) (blk : BlkOk X.N X.env.scope scope [(x, j)])
    (pg : ∀ (s : Shared) (H : Hp) (Cc : Addr) (cl : List (Str × Addr)) (fp : List Addr), PG (X.blk s H scope (compEnvC scope cl Cc X.env) fp) (.Name x pt) (gName j))
    (pe : ∀ (s : Shared) (H : Hp) (Cc : Addr) (cl : List (Str × Addr)) (fp : List Addr), PE (X.blk s H scope (compEnvC scope cl Cc X.env) fp) (.Name x px) (tVar j)) (fold : ∀ z, foldedSetIterable e X.env z = pure z := by intro _; rfl)
    (hs : starEach [.SetComp (.Name x px) [⟨.Name x pt, e, [], 0⟩] scope pos2] X.env = (false, eval (.SetComp (.Name x px) [⟨.Name x pt, e, [], 0⟩] scope pos2) X.env) :: starEach [] X.env := by rfl) :
    PE X (.Call (.Name "len" p) [.SetComp (.Name x px) [⟨.Name x pt, e, [], 0⟩] scope pos2] [] pos) (rd C W (lenSetM j f)) :=
  pe_sub (pe_callB cr_lenO hg hm (by decide +kernel) (pa_cons (si_start calm nd (pi_list he) blk pg pe fold) pa_nil hs) (he := hs)) fun σ H Q ⟨Γ, τ, R, w⟩ => by
    refine rd_bind R w fun t Γ1 v H1 R1 w1 => ?_
    have w1' := Out.wp_bind w1
    obtain ⟨hj, w2⟩ : j < Γ1.length ∧ ((bindM (sqM t) lenSetQ) Γ1).Wp (fun t Γ' => ∀ v H', Rel C σ H' Γ' ((v, t) :: τ) → Q v H') (wx C W σ τ) := by
      unfold roomM at w1'
      split at w1'
      · rename_i h; exact ⟨h, w1'⟩
      · exact w1'.elim
    obtain ⟨q, e1, w3⟩ := wp_sqM (Out.wp_bind w2)
    obtain ⟨F, ow, R1⟩ := R1
    obtain ⟨a, vs, rfl, hq, hd, hz⟩ := R1.sq R1.temps.1 e1
    cases q with
    | l ds =>
      obtain ⟨ns, e2, w4⟩ := wp_optM (Out.wp_bind w3)
      obtain ⟨e3, w5⟩ := wp_guardM (Out.wp_bind w4)
      have hl := of_decide_eq_true e3
      have hd' : Dts C.K C.cl F vs (ns.map D.int) := by
        rw [← intsD_eq e2]
        exact hd
      have hv := hd'.ints
      subst hv
      have hq' : H1 a = some (.lst (ns.map V.int)) := hq
      refine ⟨a, rfl, ⟨_, SqL.of hq'⟩, fun D hD => ?_⟩
      have na : a ≠ D := ne_of_none hq' hD
      have sq : ∀ o, SqL X.K (upd H1 D o) a (ns.map V.int) := fun o => SqL.of (by rw [upd_ne na]; exact hq')
      have hσ : j < σ.length := by rw [R1.len]; exact hj
      refine ⟨fun i m H => i ≤ ns.length ∧ m = ns.length - i ∧ H = upd H1 D (SetO X.w D (fun k => decide (k ∈ ns.take i)) (dc ns i)), ⟨ns.length, Nat.zero_le _, rfl, ?_⟩, fun i m H ⟨hi, em, eH⟩ => ?_⟩
      · rw [List.take_zero]
        rfl
      subst eH
      by_cases hlt : i < ns.length
      · refine .inr ⟨⟨_, .int ns[i], sq _, by rw [List.getElem?_map, List.getElem?_eq_getElem hlt]; rfl⟩, fun H' => H' = upd H1 D (SetO X.w D (fun k => decide (k ∈ ns.take (i + 1))) (dc ns (i + 1))), fun H' eH => ⟨ns.length - (i + 1), by omega, by omega, rfl, eH⟩, fun x H' y => ?_⟩
        obtain ⟨rfl, hy⟩ := y
        have ex := hy _ (sq _)
        rw [List.getElem?_map, List.getElem?_eq_getElem hlt] at ex
        have ex' : V.int ns[i] = x := Option.some.inj ex
        subst ex'
        have hwl : j < (wipe σ [j]).length := by rw [wipe_length]; exact hσ
        refine ⟨wipe_ext (by rw [List.length_set, wipe_length]) fun b hb => ?_, _, by show ((wipe σ [j]).set j _)[j]? = _; rw [List.getElem?_set_self hwl], ns[i], fun k => decide (k ∈ ns.take i), dc ns i, rfl, upd_same, ?_, ?_⟩
        · have : j ≠ b := fun z => hb (by rw [z]; exact List.mem_singleton.mpr rfl)
          rw [List.getElem?_set_ne this, wipe_out hb]
        · have := dc_le ns i
          unfold scanBound
          omega
        · rw [upd_upd]
          have e5 : ns.take (i + 1) = ns.take i ++ [ns[i]] := by rw [List.take_add_one, List.getElem?_eq_getElem hlt]; rfl
          have e6 : ns.getD i 0 = ns[i] := by rw [List.getD_eq_getElem?_getD, List.getElem?_eq_getElem hlt]; rfl
          have e7 : (fun k => decide (k ∈ ns.take (i + 1))) = fun k => decide (k ∈ ns.take i) || decide (k = ns[i]) := by
            funext k
            rw [e5]
            simp only [List.mem_append, List.mem_singleton, Bool.decide_or]
          rw [e7]
          show _ = upd H1 D (SetO X.w D _ (if decide (ns.getD i 0 ∈ ns.take i) = true then dc ns i else dc ns i + 1))
          rw [e6]
      · have hin : i = ns.length := by omega
        subst hin
        exact .inl ⟨⟨_, sq _, by rw [List.length_map]; exact Nat.le_refl _⟩, D, _, _, rfl, upd_same, w5 _ _ (Rel.scal ⟨F, ow, R1.pop.newH hD⟩ (.int _))⟩
    | t ds => exact w3.elim
    | s ns => exact w3.elim
end
section
variable {Γ : Env} {f : M T}
@[simp] theorem ev_lenSet {j : Nat} : lenSetM j f Γ = (f Γ).bind fun t => bindM (roomM j) fun _ => bindM (sqM t) lenSetQ := by exact rfl
@[simp] theorem ev_room {j : Nat} : roomM j Γ = gd (decide (j < Γ.length)) (.ok () Γ) := by
  unfold roomM
  by_cases h : j < Γ.length
  · rw [if_pos h, decide_eq_true h]; exact rfl
  · rw [if_neg h, decide_eq_false h]; exact rfl
theorem ev_lenSetQ {ns : List Int} (h : ns.length ≤ 4000) : lenSetQ (.l (ns.map D.int)) Γ = .ok (.fz (.int (dc ns ns.length))) Γ := by
  show (optM (intsD (ns.map D.int)) Γ).bind _ = _
  rw [intsD_map, ev_optS, ev_ok]
  show (guardM (decide (ns.length ≤ 4000)) Γ).bind _ = _
  rw [decide_eq_true h]
  rfl
end
end DL
/-! f-texts; x.extend(ys); names from a tuple or a list -/
namespace DL
open PySem L2
/-! ### f-texts -/
def fmtD : D → Option D
  | .str y => if y.length ≤ sizeLine then some (.str y) else none
  | .int i => if i.natAbs < 1000000 then some (.str (iS i)) else none
  | _ => none
def fmtM (f : M T) : M T := op1 fmtD f
def D.toS : D → Option Str
  | .str y => some y
  | _ => none
def jsM : List (M T) → Str → M T
  | [], acc => retM (.fz (.str acc))
  | f :: fs, acc => bindM f fun t => bindM (lookM t) fun d => bindM (optM d.toS) fun y => bindM (guardM (decide ((acc ++ y).length ≤ sizeLine))) fun _ => jsM fs (acc ++ y)
section
variable {X : Cx} {C : Cc} {W : WX}
theorem de_fmt {e : Expr} {f : M T} {pos : Pos} (he : PE X e (rd C W f)) : PE X (.FormattedValue e (-1) none pos) (rd C W (fmtM f)) := pe_sub (pe_fmt he) fun σ H Q ⟨Γ, τ, R, w⟩ => by
  refine rd_bind R w fun t Γ1 v H1 R1 w1 => ?_
  obtain ⟨d, e1, w2⟩ := wp_lookM (Out.wp_bind w1)
  obtain ⟨d', e2, w3⟩ := wp_optM (Out.wp_bind w2)
  obtain ⟨F, ow, R1⟩ := R1
  have hd := R1.look R1.temps.1 e1
  cases d with
  | str y =>
    replace e2 : (if y.length ≤ sizeLine then some (D.str y) else none) = some d' := e2
    split at e2 <;> cases e2
    rename_i hz
    cases hd
    exact .inl ⟨y, rfl, hz, w3 _ _ (Rel.scal ⟨F, ow, R1.pop⟩ (.str _))⟩
  | int i =>
    replace e2 : (if i.natAbs < 1000000 then some (D.str (iS i)) else none) = some d' := e2
    split at e2 <;> cases e2
    rename_i hz
    cases hd
    refine .inr ⟨i, rfl, ?_, w3 _ _ (Rel.scal ⟨F, ow, R1.pop⟩ (.str _))⟩
    by_cases h0 : i.natAbs = 0
    · rw [h0]; decide
    · have : i.natAbs < 2 ^ 20 := by omega
      have := (Nat.log2_lt h0).mpr this
      omega
  | _ => cases e2
theorem js_go {σ : St} {Q : VK} : ∀ (fs : List (M T)) (acc : Str) (H : Hp), rd C W (jsM fs acc) σ H Q → tJs (fs.map (rd C W)) acc σ H fun out H1 => Q (.str out) H1
  | [], acc, H, ⟨Γ, τ, R, w⟩ => w _ _ (R.scal (.str _))
  | f :: fs, acc, H, ⟨Γ, τ, R, w⟩ => by
    refine rd_bind R w fun t Γ1 v H1 R1 w1 => ?_
    obtain ⟨d, e1, w2⟩ := wp_lookM (Out.wp_bind w1)
    obtain ⟨y, e2, w3⟩ := wp_optM (Out.wp_bind w2)
    obtain ⟨e3, w4⟩ := wp_guardM (Out.wp_bind w3)
    obtain ⟨F, ow, R1⟩ := R1
    have hd := R1.look R1.temps.1 e1
    cases d with
    | str z =>
      have ez : z = y := Option.some.inj e2
      subst ez
      cases hd
      exact ⟨_, rfl, of_decide_eq_true e3, js_go fs _ H1 ⟨Γ1, τ, ⟨F, ow, R1.pop⟩, w4⟩⟩
    | _ => cases e2
theorem de_js {v1 v2 : Expr} {rest : List Expr} {fs : List (M T)} {pos : Pos} (h : PJ X (v1 :: v2 :: rest) (fs.map (rd C W))) : PE X (.JoinedStr (v1 :: v2 :: rest) pos) (rd C W (jsM fs Str.empty)) := pe_sub (pe_joined h) fun σ H Q q => js_go fs _ H q
theorem pj_cons {e : Expr} {es : List Expr} {f : M T} {fs : List (M T)} (h : PE X e (rd C W f)) (r : PJ X es (fs.map (rd C W))) : PJ X (e :: es) ((f :: fs).map (rd C W)) := .cons h r
/-! ### x.extend(ys) -/
def extT (o : T) (q : Sq) : M T := match o, q with
  | .al i, .l ds => fun Γ => match Γ[i]? with
    | some (some (.ol ts)) => if ts.length + ds.length ≤ sizeLine then .ok (.fz .non) (Γ.set i (some (.ol (ts ++ ds.map T.fz)))) else .bad
    | _ => .bad
  | _, _ => fun _ => .bad
def extendM (fo fe : M T) : M T := bindM fo fun o => bindM (olM o) fun _ => bindM (settled fe) fun t => bindM (sqM t) fun q => extT o q
theorem wp_extT {Γ : Env} {i : Nat} {q : Sq} {P : T → Env → Prop} {E : Exn → Env → Prop} (h : (extT (.al i) q Γ).Wp P E) : ∃ ds ts, q = .l ds ∧ Γ[i]? = some (some (T.ol ts)) ∧ ts.length + ds.length ≤ sizeLine ∧ P (.fz .non) (Γ.set i (some (.ol (ts ++ ds.map T.fz)))) := by
  cases q with
  | l ds =>
    unfold extT at h
    rcases olAt (Γ := Γ) (i := i) with ⟨ts, e⟩ | n
    · simp only [e] at h
      by_cases hz : ts.length + ds.length ≤ sizeLine
      · rw [if_pos hz] at h
        exact ⟨ds, ts, rfl, e, hz, h⟩
      · rw [if_neg hz] at h
        exact h.elim
    · simp only at h
      exact h.elim
  | t ds => exact h.elim
  | s ns => exact h.elim
theorem de_extend {o e : Expr} {fo fe : M T} {apos pos : Pos} (hK : C.K = X.K) (ho : PE X o (rd C W fo)) (he : PE X e (rd C W fe)) (hs : starEach [e] X.env = (false, eval e X.env) :: starEach [] X.env := by rfl) (hbase : attributeBase o "extend" X.env (eval o X.env) = eval o X.env := by rfl)
    (hfew : ((backTo pos (starEach [e] X.env)).all (fun x => !x.1) && (backToKw pos (keywordEach [] X.env)).all (fun x => x.1.isSome) && decide ([e].length + ([] : List Keyword).length + (if ([] : List Keyword).isEmpty then 0 else 1) < 30)) = true := by rfl)
    (hline : (apos.endLine == pos.line) = true := by rfl) : PE X (.Call (.Attribute o "extend" apos) [e] [] pos) (rd C W (extendM fo fe)) := pe_sub (pe_bm PySem.F.plainAttrs_list PySem.F.slot_list_extend PySem.F.type_list_extend mt_extend ho (pa_cons he pa_nil hs) hbase hfew hline hs rfl) fun σ H Q ⟨Γ, τ, R, w⟩ => by
  refine rd_bind R w fun t0 Γ1 v0 H1 R1 w1 => ?_
  obtain ⟨i, a, vs0, rfl, rfl, h0, w2⟩ := wp_olM R1 (Out.wp_bind w1)
  refine ⟨tyV_list h0, ?_⟩
  have w2' := wp_under (p := (V.ref a, T.al i)) w2
  refine rd_bind R1 (Out.wp_assoc w2') fun t Γ2 y H2 R2 w3 => ?_
  obtain ⟨t', Γ3, _, R3, w4⟩ := R2.settle (Out.wp_bind w3)
  obtain ⟨q, e1, w5⟩ := wp_sqM (Out.wp_bind w4)
  obtain ⟨F, ow, R3⟩ := R3
  obtain ⟨ds, ts, rfl, et, hz, w6⟩ := wp_extT w5
  obtain ⟨b, ws, rfl, hq, hd, _⟩ := R3.sq R3.temps.1 e1
  obtain ⟨a', vs, sub, h1, h2, h3, h4, h5⟩ := R3.slotList et
  have h6 := R3.temps.2.1.1
  rw [h1] at h6
  cases h6
  have hl : vs.length = ts.length := h5.length
  have hw : ws.length = ds.length := hd.length
  refine ⟨a, b, vs, ws, rfl, rfl, h2, hq, by rw [hl, hw]; exact hz, w6 _ _ (Rel.scal ⟨F, ow, ?_⟩ .non)⟩
  refine R3.pop.pop.mutSlot h4 h2 ⟨_, h1, .ol sub upd_same (by rw [List.length_append, hl, hw]; exact hz) h4 ?_⟩
  exact OwTs.append (us := ds.map T.fz) (ol_frz (fun b u _ n z => by rw [upd_ne n]; exact z) h5) (OwTs.ofDts hd)
/-! ### names from a tuple or a list -/
def seqG (is : List Nat) : D → M Unit
  | .tup ds => namesG is ds
  | .lst ds => namesG is ds
  | _ => fun _ => .bad
theorem quiet_seq (is : List Nat) : Quiet (seqG is) := fun d => by
  cases d with
  | lst ds => exact quiet_tup is (.tup ds)
  | tup ds => exact quiet_tup is (.tup ds)
  | _ => intro Γ x Γ' e; cases e
theorem names_len : ∀ (is : List Nat) (ds : List D) (Γ : Env) {P : Unit → Env → Prop} {E : Exn → Env → Prop}, (namesG is ds Γ).Wp P E → ds.length = is.length
  | [], [], _, _, _, _ => rfl
  | [], _ :: _, _, _, _, w => w.elim
  | _ :: _, [], _, _, _, w => w.elim
  | i :: is, d :: ds, Γ, P, E, w => congrArg (· + 1) (names_len is ds (Γ.set i (some (.fz d))) (P := P) (E := E) w)
theorem dg_seq {es : List Expr} {kk : Nat} {pos : Pos} {n : Nat} (is : List Nat) (hK : C.K = X.K) (hn : is.length = n) (hp : ∀ i ∈ is, C.pin i = none) (h1 : PG X (.Tuple es kk pos) (gTup X.K n (gNames is))) (h2 : PG X (.Tuple es kk pos) (gUnl X.K n (gNames is))) : PG X (.Tuple es kk pos) (rdG C is (seqG is)) :=
  pg_sub' (t := fun v σ H Q => gTup X.K n (gNames is) v σ H Q ∨ gUnl X.K n (gNames is) v σ H Q) ⟨fun pins s σ H v u Q I r q => q.elim (h1.run pins s σ H v u Q I r) (h2.run pins s σ H v u Q I r)⟩ fun v σ H Q ⟨Γ, τ, d, na, R, w⟩ => by
    cases d with
    | tup ds =>
      obtain ⟨F, ow, R⟩ := R
      have z := R.temps.1
      cases z with
      | fz z =>
        cases z with
        | tup g1 _ g2 => exact .inl ⟨_, _, rfl, by rw [← hK]; exact R.ex.sqT g1, by rw [g2.length, ← hn]; exact names_len is ds Γ w, names_go hp na R.pop g2 w⟩
    | lst ds =>
      obtain ⟨F, ow, R⟩ := R
      have z := R.temps.1
      cases z with
      | fz z =>
        cases z with
        | lst g1 _ g2 => exact .inr ⟨_, _, rfl, SqL.of (R.ex _ _ g1), by rw [g2.length, ← hn]; exact names_len is ds Γ w, names_go hp na R.pop g2 w⟩
    | _ => exact w.elim
end
section
variable {Γ : Env} {f g : M T} {t : T}
@[simp] theorem ev_fmtM : fmtM f Γ = op1 fmtD f Γ := by exact rfl
@[simp] theorem ev_fmtS {y : Str} : fmtD (.str y) = if y.length ≤ sizeLine then some (.str y) else none := by exact rfl
@[simp] theorem ev_fmtI {i : Int} : fmtD (.int i) = if i.natAbs < 1000000 then some (.str (iS i)) else none := by exact rfl
@[simp] theorem ev_js0 {acc : Str} : jsM [] acc Γ = .ok (.fz (.str acc)) Γ := by exact rfl
@[simp] theorem ev_js1 {fs : List (M T)} {acc : Str} : jsM (f :: fs) acc Γ = (f Γ).bind fun t => bindM (lookM t) fun d => bindM (optM d.toS) fun y => bindM (guardM (decide ((acc ++ y).length ≤ sizeLine))) fun _ => jsM fs (acc ++ y) := by exact rfl
@[simp] theorem ev_toS {y : Str} : (D.str y).toS = some y := by exact rfl
@[simp] theorem ev_extend : extendM f g Γ = (f Γ).bind fun o => bindM (olM o) fun _ => bindM (settled g) fun t => bindM (sqM t) fun q => extT o q := by exact rfl
@[simp] theorem ev_extT {i : Nat} {ds : List D} : extT (.al i) (.l ds) Γ = orB (olo (slt Γ[i]?)) fun ts => gd (decide (ts.length + ds.length ≤ sizeLine)) (.ok (.fz .non) (Γ.set i (some (.ol (ts ++ ds.map T.fz))))) := by
  unfold extT
  dsimp only
  rcases h1 : Γ[i]? with _ | _ | t
  · exact rfl
  · exact rfl
  · cases t with
    | ol ts =>
      simp only [slt_s, olo_s, orB_s]
      by_cases h : ts.length + ds.length ≤ sizeLine
      · rw [if_pos h, decide_eq_true h]; exact rfl
      · rw [if_neg h, decide_eq_false h]; exact rfl
    | _ => exact rfl
@[simp] theorem ev_seqG1 {is : List Nat} {ds : List D} : seqG is (.tup ds) Γ = namesG is ds Γ := by exact rfl
@[simp] theorem ev_seqG2 {is : List Nat} {ds : List D} : seqG is (.lst ds) Γ = namesG is ds Γ := by exact rfl
end
end DL
/-! big numbers; lists of owned lists: comprehensions, places, exchanges -/
namespace DL
open PySem L2

/-! ### big numbers -/
def bigOk (i : Int) : Bool := decide (i.natAbs < 2 ^ 1000)
def mulBD : D → D → Option D
  | .int i, .int j => if (bigOk i && bigOk j) = true then some (.int (i * j)) else none
  | _, _ => none
def divBD : D → D → Option D
  | .int i, .int j => if (bigOk j && decide (j ≠ 0)) = true then some (.int (i.fdiv j)) else none
  | _, _ => none
def CDivB (_ j : Int) : Prop := j ≠ 0 ∧ j.natAbs < 2 ^ 1000
section
variable {X : Cx} {K : PySem.W.Frag} {cl : Cl}
theorem op_fdivB : OpR X (binaryOp .FloorDiv) (rI CDivB fun i j => .int (i.fdiv j)) := opI fun i j _ _ _ _ _ hc q => by
  refine PyProof.Rows.floordiv_int hc.1 q (.inl (PyProof.noPylong_of_log2 ?_))
  have h := (Nat.log2_lt (k := 1000) (n := j.natAbs) (fun z => hc.1 (Int.natAbs_eq_zero.mp z))).mpr hc.2
  omega
theorem sc_mulB : Sc2 K cl (rI CMulX fun i j => .int (i * j)) mulBD := sc_int fun d1 d2 d e => by
  unfold mulBD at e
  split at e
  · split at e <;> cases e
    rename_i h
    rw [Bool.and_eq_true] at h
    have h1 := of_decide_eq_true h.1
    have h2 := of_decide_eq_true h.2
    exact ⟨_, _, rfl, rfl, mulx_ok h1 h2 (by decide), .int _⟩
  · cases e
theorem sc_divB : Sc2 K cl (rI CDivB fun i j => .int (i.fdiv j)) divBD := sc_int fun d1 d2 d e => by
  unfold divBD at e
  split at e
  · split at e <;> cases e
    rename_i h
    rw [Bool.and_eq_true] at h
    exact ⟨_, _, rfl, rfl, ⟨of_decide_eq_true h.2, of_decide_eq_true h.1⟩, .int _⟩
  · cases e
end

/-! ### a comprehension whose things stay owned -/
section
variable {C : Cc} {W : WX}
theorem Rel.appendO {σ : St} {H : Hp} {Γ : Env} {τ υ : Hand} {D' : Addr} {acc : List T} {y : V} {t : T} (hυ : ∀ p ∈ υ, ∃ d, p.2 = .fz d) (R : Rel C σ H Γ ((y, t) :: (υ ++ ((.ref D', .ol acc) :: τ)))) (hf : ∀ i, t ≠ .al i) (hz : acc.length < sizeLine) :
    ∃ vs, H D' = some (.lst vs) ∧ vs.length < sizeLine ∧ Rel C σ (upd H D' (.lst (vs ++ [y]))) Γ (υ ++ ((.ref D', .ol (acc ++ [t])) :: τ)) := by
  obtain ⟨F, ow, R⟩ := R
  have hy := R.temps.1.own hf
  have Rb : Rl C σ H Γ ((.ref D', .ol acc) :: τ) F ow := R.pop.drop
  have hD := Rb.temps.1.own (fun _ z => by cases z)
  generalize hn : (υ ++ ((V.ref D', T.ol acc) :: τ)).length = n at hy
  have hn' : τ.length < n := by
    rw [← hn, List.length_append, List.length_cons]
    omega
  cases hD with
  | ol sub h1 hl hS h2 =>
    rename_i vs
    have hlen : vs.length = acc.length := h2.length
    have hS' : ow D' = some (.inr τ.length) := hS
    refine ⟨vs, h1, by rw [hlen]; exact hz, F, ?_⟩
    have hDF : F D' = none := R.ownF D' _ hS
    have fr : ∀ a o, a ≠ D' → H a = some o → upd H D' (.lst (vs ++ [y])) a = some o := fun a o n h => by
      rw [upd_ne n]
      exact h
    have nF : ∀ a o, F a = some o → a ≠ D' := fun a o e z => by
      subst z
      rw [hDF] at e
      cases e
    have Rt : Rl C σ H Γ τ F ow := Rb.pop
    have key : ∀ b r, (if ow b = some (.inr n) then some (.inr τ.length) else ow b) = some r → ∃ r', ow b = some r' := fun b r q => by
      by_cases h : ow b = some (.inr n)
      · exact ⟨_, h⟩
      · rw [if_neg h] at q
        exact ⟨_, q⟩
    have R2 : Rl C σ (upd H D' (.lst (vs ++ [y]))) Γ ((.ref D', .ol (acc ++ [t])) :: τ) F (fun b => if ow b = some (.inr n) then some (.inr τ.length) else ow b) := by
      refine ⟨fun a o q => fr a o (nF a o q) (R.ex a o q), R.old, R.new, fun a o q hm => ?_, fun a r q => ?_, fun a r q => ?_, fun a r q => ?_, fun i t' q => ?_, ⟨?_, ?_⟩, R.pins, R.len, tabs_upd R.tabs h1, R.ft⟩
      · obtain ⟨o', e1, e2⟩ := R.frame a o q hm
        refine ⟨o', fr a o' (fun z => ?_) e1, e2⟩
        subst z
        rcases R.ownN a _ hS with z | z
        · exact hm z
        · rw [z] at q
          cases q
      · obtain ⟨r', e⟩ := key a r q
        exact R.ownF a r' e
      · by_cases h : a = D'
        · subst h
          exact ⟨_, upd_same, nx_lst⟩
        · obtain ⟨r', e⟩ := key a r q
          obtain ⟨o, ho, n⟩ := R.ownH a r' e
          exact ⟨o, fr a o h ho, n⟩
      · obtain ⟨r', e⟩ := key a r q
        exact R.ownN a r' e
      · obtain ⟨w, g1, g2⟩ := R.slots i t' q
        refine ⟨w, g1, g2.keep (Sub.refl F) (fun a o s z => fr a o (fun z' => ?_) z) (fun a s => ?_)⟩
        · subst z'
          have s' : ow a = some (.inl i) := s
          rw [hS'] at s'
          cases s'
        · show (if ow a = some (.inr n) then _ else ow a) = some (.inl i)
          have s' : ow a = some (.inl i) := s
          rw [if_neg (fun z => by rw [s'] at z; cases z)]
          exact s'
      · refine OwT.ol (fun b => if ow b = some (.inr n) then some acc.length else sub b) upd_same (by rw [List.length_append, hlen]; exact hz) ?_ (OwTs.append (h2.keep (Sub.refl F) (fun j a o q z => fr a o q.2.1 z) (fun j a q => ?_)) (.cons (hy.keep (Sub.refl F) (fun a o q z => fr a o (fun z' => ?_) z) (fun a q => ?_)) .nil))
        · show (if ow D' = some (.inr n) then _ else ow D') = some (.inr τ.length)
          rw [if_neg (fun z => by rw [hS'] at z; cases z; omega)]
          exact hS'
        · obtain ⟨q1, q2, q3⟩ := q
          have q1' : ow a = some (.inr τ.length) := q1
          have nn : ¬ ow a = some (.inr n) := fun z => by rw [q1'] at z; cases z; omega
          refine ⟨?_, q2, ?_⟩
          · show (if ow a = some (.inr n) then _ else ow a) = some (.inr τ.length)
            rw [if_neg nn]
            exact q1'
          · rw [if_neg nn]
            exact q3
        · subst z'
          have q' : ow a = some (.inr n) := q
          rw [hS'] at q'
          cases q'
          omega
        · have q' : ow a = some (.inr n) := q
          refine ⟨?_, fun z => ?_, ?_⟩
          · show (if ow a = some (.inr n) then some (Sum.inr τ.length) else ow a) = some (.inr τ.length)
            rw [if_pos q']
          · subst z
            rw [hS'] at q'
            cases q'
            omega
          · show (if ow a = some (.inr n) then some acc.length else sub a) = some (0 + acc.length)
            rw [if_pos q', Nat.zero_add]
      · refine Rt.temps.keep (Sub.refl F) (fun a o j hj s z => fr a o (fun z' => ?_) z) (fun a j hj s => ?_)
        · subst z'
          rw [hS'] at s
          have s' : τ.length = j := Sum.inr.inj (Option.some.inj s)
          omega
        · show (if ow a = some (.inr n) then _ else ow a) = some (.inr j)
          rw [if_neg (fun z => by rw [s] at z; have z' : j = n := Sum.inr.inj (Option.some.inj z); omega)]
          exact s
    exact ⟨_, R.pop.relay hυ R2 (Sub.refl F)⟩
end
def turnO (vs : List Nat) (g : D → M Unit) (fe : M T) (d : D) : M T := bindM (g d) fun _ => bindM (noX fe) fun t => bindM (guardM t.free) fun _ => fun Γ => .ok t (wipeE Γ vs)
def compLO (vs : List Nat) (g : D → M Unit) (fe : M T) : List D → M (List T)
  | [] => retM []
  | d :: ds => bindM (turnO vs g fe d) fun t => bindM (compLO vs g fe ds) fun ts => retM (t :: ts)
def compO (vs : List Nat) (fi : M (List D)) (g : D → M Unit) (fe : M T) : M T := bindM fi fun ds => fun Γ => (compLO vs g fe ds (wipeE Γ vs)).bind fun ts => retM (.ol ts)
theorem T.free_al {t : T} (h : t.free = true) : ∀ i, t ≠ .al i := fun i e => by
  subst e
  cases h
section
variable {X : Cx} {C : Cc} {W : WX}
theorem lcO_rd {vs is : List Nat} {fi : M (List D)} {g : D → M Unit} {fe : M T} (hv : ∀ i ∈ vs, C.cv i = true ∧ C.pin i = none) (his : ∀ i ∈ is, i ∈ vs) (hq : Quiet g) {σ : St} {H : Hp} {Q : VK}
    (h : rd C W (compO vs fi g fe) σ H Q) : tLc (rdI C W fi) (rdG C is g) (rdT C W0 (retM true)) (rd C W0 fe) vs σ H Q := by
  obtain ⟨Γ, τ, R, w⟩ := h
  refine ⟨Γ, τ, R, Out.wp_mono (Out.wp_bind w) (fun ds Γ1 w1 J H1 υ R1 I D' hD => ?_) (fun _ _ z => z)⟩
  have w1' := Out.wp_bind w1
  have hlen := I.len H1 σ Γ1 τ R1
  refine ⟨fun i m H => m = ds.length - i ∧ i ≤ ds.length ∧ ∃ Γ acc, acc.length ≤ i ∧ Rel C (wipe σ vs) H Γ (υ ++ ((.ref D', .ol acc) :: τ)) ∧ (∀ j ∈ vs, ∀ t, Γ[j]? ≠ some (some t)) ∧
    (compLO vs g fe (ds.drop i) Γ).Wp (fun es Γ' => ∀ v H', Rel C σ H' Γ' ((v, .ol (acc ++ es)) :: τ) → Q v H') (fun _ _ => True), ⟨ds.length, by simp, Nat.zero_le _, wipeE Γ1 vs, [], Nat.le_refl _, ?_, ?_, ?_⟩, ?_⟩
  · obtain ⟨F, ow, R1⟩ := Rel.wipe hv R1
    obtain ⟨ow3, R3⟩ := R1.drop.newListF (vs := []) (ds := []) hD (Nat.zero_le _) .nil
    exact ⟨F, ow3, R1.relay I.fz R3 (Sub.refl F)⟩
  · intro j hj t e
    exact (wipeE_some e).2 hj
  · rw [List.drop_zero]
    exact Out.wp_mono w1' (fun es Γ' z => z) (fun _ _ _ => trivial)
  · rintro i m H2 ⟨rfl, hle, Γ2, acc, hacc, R2, hno, w2⟩
    by_cases hlt : i < ds.length
    · refine .inr ⟨I.go i H2 _ Γ2 _ R2 hlt, fun H' => ∃ Γ acc, acc.length ≤ i + 1 ∧ Rel C (wipe σ vs) H' Γ (υ ++ ((.ref D', .ol acc) :: τ)) ∧ (∀ j ∈ vs, ∀ t, Γ[j]? ≠ some (some t)) ∧
        (compLO vs g fe (ds.drop (i + 1)) Γ).Wp (fun es Γ' => ∀ v H', Rel C σ H' Γ' ((v, .ol (acc ++ es)) :: τ) → Q v H') (fun _ _ => True), fun H' ⟨Γ3, acc3, a3, R3, n3, w3⟩ => ⟨ds.length - (i + 1), by omega, rfl, hlt, Γ3, acc3, a3, R3, n3, w3⟩, fun x H' y => ?_⟩
      obtain ⟨d, e, R3⟩ := I.yld i H2 _ Γ2 _ x H' R2 hlt y
      have ed : ds.drop i = d :: ds.drop (i + 1) := by
        rw [List.drop_eq_getElem_cons hlt]
        rw [List.getElem?_eq_getElem hlt] at e
        rw [Option.some.inj e]
      rw [ed] at w2
      have w3 := wp_quiet (E' := fun _ _ => False) (Out.wp_bind (Out.wp_bind w2)) (hq d Γ2)
      have R3' := R3
      obtain ⟨F, ow, R3⟩ := R3
      refine ⟨Γ2, _, d, fun p hp j hj => R3.pop.noAlias (hv j (his j hj)).1 p hp, R3', Out.wp_mono w3 (fun _ Γ3 w4 σ2 H3 e1 e2 R4 => ?_) (fun _ _ z => z)⟩
      have ew : wipe σ2 vs = wipe σ vs := wipe_ext (by rw [e2, wipe_length]) fun j hj => by
        rw [e1 j (fun z => hj (his j z)), wipe_out hj]
      have w5 := Out.wp_bind w4
      refine ⟨ew, Γ3, _, R4, fun H4 R5 => ⟨Γ3, _, R5, Out.wp_mono (wp_noX w5) (fun t Γ5 w6 y H6 R6 => ?_) (fun _ _ z => z)⟩⟩
      obtain ⟨hf, w7⟩ := wp_guardM (Out.wp_bind w6)
      obtain ⟨vs', h1, h2, R7⟩ := R6.appendO I.fz (T.free_al hf) (by omega)
      refine ⟨vs', h1, h2, wipeE Γ5 vs, acc ++ [t], by rw [List.length_append]; exact Nat.succ_le_succ hacc, ?_, fun j hj t q => (wipeE_some q).2 hj, ?_⟩
      · rw [← ew]
        exact R7.wipe hv
      · refine Out.wp_mono (Out.wp_bind (show (bindM (compLO vs g fe (ds.drop (i + 1))) (fun es => retM (t :: es)) (wipeE Γ5 vs)).Wp _ _ from w7)) (fun es Γ' z => ?_) (fun _ _ _ => trivial)
        rw [List.append_assoc]
        exact z
    · have e : i = ds.length := by omega
      subst e
      rw [List.drop_length] at w2
      refine .inl ⟨I.stop H2 _ Γ2 _ R2, w2 _ _ ?_⟩
      rw [List.append_nil]
      exact Rel.unwipe hv (fun j hj => (wipe_out hj).symm) (wipe_length σ vs).symm hno R2.drop
theorem ds_setCompO {i : Nat} {y : Str} {py : Pos} {elt tg iter : Expr} {scope : Scope} {own : List (Str × Nat)} {pos spos : Pos} {is : List Nat} {fi : M (List D)} {g : D → M Unit} {fe : M T} (hp : C.pin i = none) (hc : X.calm = true) (hN : X.N.Nodup) (hy : X.N[i]? = some y) (hyl : X.env.scope.names.lookup y = some .local)
    (hsw : swapsWith (.ListComp elt [⟨tg, iter, [], 0⟩] scope pos) (some (.Name y py)) spos.line X.env = pure true) (hv : ∀ i ∈ own.map (·.2), C.cv i = true ∧ C.pin i = none) (his : ∀ i ∈ is, i ∈ own.map (·.2)) (hq : Quiet g) (hi : PI X tg iter (rdI C W fi)) (ok : BlkOk X.N X.env.scope scope own)
    (hg : ∀ (s : Shared) (H : Hp) (c : Addr) (cl : List (Str × Addr)) (fp : List Addr), PG (X.blk s H scope (compEnvC scope cl c X.env) fp) tg (rdG C is g)) (ht : ∀ (s : Shared) (H : Hp) (c : Addr) (cl : List (Str × Addr)) (fp : List Addr), PTs (X.blk s H scope (compEnvC scope cl c X.env) fp) [] (rdT C W0 (retM true)))
    (he : ∀ (s : Shared) (H : Hp) (c : Addr) (cl : List (Str × Addr)) (fp : List Addr), PE (X.blk s H scope (compEnvC scope cl c X.env) fp) elt (rd C W0 fe)) (hs : ∀ x, foldedSetIterable iter X.env x = pure x := by intro _; rfl) :
    PS X (.Assign [.Name y py] (.ListComp elt [⟨tg, iter, [], 0⟩] scope pos) spos) (rdS C W (setM i (compO (own.map (·.2)) fi g fe))) := ps_sub (ps_setLc hc hN hy hyl hsw hi ok hg ht he hs) fun D σ H ⟨Γ, τ, n, R, w⟩ => by
  refine lcO_rd hv his hq (rdS_bind R w fun t Γ1 v H1 R1 w1 => ?_)
  obtain ⟨t', Γ2, na, R2, w2⟩ := R1.settle (Out.wp_bind w1)
  exact w2 _ _ (R2.store na hp (fun p hp' => n p hp' i))
end

/-! ### x[y][z] -/
def intAt (Γ : Env) (j : Nat) : Option Int := match Γ[j]? with
  | some (some (.fz (.int a))) => some a
  | _ => none
def rowAt (d : D) (a : Int) : Option D := match d with
  | .lst ds => atI ds a
  | _ => none
def nestR (i j k : Nat) : M T := fun Γ => match look Γ (.al i), intAt Γ j, intAt Γ k with
  | some d, some a, some b => match (rowAt d a).bind (rowAt · b) with
    | some (.int n) => .ok (.fz (.int n)) Γ
    | _ => .bad
  | _, _, _ => .bad
section
variable {X : Cx} {C : Cc} {W : WX}
theorem intAt_slot {σ : St} {H F : Hp} {Γ : Env} {τ : Hand} {ow : Addr → Option Root} {j : Nat} {a : Int} (R : Rl C σ H Γ τ F ow) (e : intAt Γ j = some a) : σ[j]? = some (some (.int a)) := by
  unfold intAt at e
  split at e
  · rename_i b e1
    cases e
    obtain ⟨v, h1, h2⟩ := R.slots j _ e1
    cases h2 with
    | fz h => cases h; exact h1
  · cases e
theorem rowAt_dt {H : Hp} {v : V} {d e : D} {a : Int} (h : Dt C.K C.cl H v d) (q : rowAt d a = some e) : ∃ p vs v', v = .ref p ∧ H p = some (.lst vs) ∧ atI vs a = some v' ∧ Dt C.K C.cl H v' e := by
  unfold rowAt at q
  split at q
  · cases h with
    | lst h1 h2 h3 =>
      obtain ⟨v', e1, e2⟩ := Dts.atI h3 q
      exact ⟨_, _, v', rfl, h1, e1, e2⟩
  · cases q
theorem de_nestR {x y z : Str} (i j k : Nat) {px py pz p1 p2 : Pos} (hK : C.K = X.K) (hN : X.N[i]? = some x) (hv : Vis X.env.scope x) (hNj : X.N[j]? = some y) (hvj : Vis X.env.scope y) (hNk : X.N[k]? = some z) (hvk : Vis X.env.scope z)
    (hd : (x == ("__debug__" : Str)) = false := by decide) (hcd : (x == ("__classdict__" : Str)) = false := by decide) (hd' : (y == ("__debug__" : Str)) = false := by decide) (hcd' : (y == ("__classdict__" : Str)) = false := by decide) (hd2 : (z == ("__debug__" : Str)) = false := by decide) (hcd2 : (z == ("__classdict__" : Str)) = false := by decide)
    (hx : PlainIx (.Name y py) := by exact fun _ _ => rfl) (hx2 : PlainIx (.Name z pz) := by exact fun _ _ => rfl) :
    PE X (.Subscript (.Subscript (.Name x px) (.Name y py) p1) (.Name z pz) p2) (rd C W (nestR i j k)) :=
  pe_sub (pe_ix ix_list (pe_ix ix_list (pe_var hN hv hd hcd) (pe_var hNj hvj hd' hcd') hx) (pe_var hNk hvk hd2 hcd2) hx2) fun σ H Q ⟨Γ, τ, R, w⟩ => by
  obtain ⟨F, ow, R⟩ := R
  unfold nestR at w
  split at w
  · rename_i d a b e1 e2 e3
    split at w
    · rename_i n e4
      have s2 := intAt_slot R e2
      have s3 := intAt_slot R e3
      cases e5 : rowAt d a with
      | none => rw [e5] at e4; cases e4
      | some r =>
        rw [e5] at e4
        have e4' : rowAt r b = some (.int n) := e4
        obtain ⟨v, s1, h1⟩ : ∃ v, σ[i]? = some (some v) ∧ Dt C.K C.cl H v d := by
          unfold look at e1
          simp only at e1
          split at e1
          · rename_i t et
            obtain ⟨v, g1, g2⟩ := R.slots i _ et
            exact ⟨v, g1, g2.data R.ex (fun _ _ _ q => q) e1⟩
          · cases e1
        obtain ⟨p, vs, v', rfl, f1, f2, f3⟩ := rowAt_dt h1 e5
        obtain ⟨p', vs', v'', rfl, f4, f5, f6⟩ := rowAt_dt f3 e4'
        cases f6
        refine ⟨_, s1, _, s2, p, vs, a, _, rfl, rfl, by rw [← hK]; exact SqL.of f1, f2, _, s3, p', vs', b, _, rfl, rfl, by rw [← hK]; exact SqL.of f4, f5, w _ _ (Rel.scal ⟨F, ow, R⟩ (.int _))⟩
    · exact w.elim
  · exact w.elim

/-! ### x[y][z] = e -/
end
def nestT (ts : List T) (a b : Int) (d : D) : Option (List T) := match ixN ts.length a with
  | some m => match ts[m]? with
    | some (.ol us) => match ixN us.length b with
      | some n => some (ts.set m (.ol (us.set n (.fz d))))
      | none => none
    | _ => none
  | none => none
def nestS (i j k : Nat) (d : D) : M Unit := fun Γ => match Γ[i]?, intAt Γ j, intAt Γ k with
  | some (some (.ol ts)), some a, some b => match nestT ts a b d with
    | some ts' => .ok () (Γ.set i (some (.ol ts')))
    | none => .bad
  | _, _, _ => .bad
theorem quiet_nestS (i j k : Nat) : Quiet (nestS i j k) := fun d Γ x Γ' z => by
  unfold nestS at z
  split at z
  · split at z <;> cases z
  · cases z
section
variable {X : Cx} {C : Cc} {W : WX}
theorem dg_nest {x y z : Str} (i j k : Nat) {px py pz p1 p2 : Pos} (hK : C.K = X.K) (hN : X.N[i]? = some x) (hv : Vis X.env.scope x) (hNj : X.N[j]? = some y) (hvj : Vis X.env.scope y) (hNk : X.N[k]? = some z) (hvk : Vis X.env.scope z)
    (hd : (x == ("__debug__" : Str)) = false := by decide) (hcd : (x == ("__classdict__" : Str)) = false := by decide) (hd' : (y == ("__debug__" : Str)) = false := by decide) (hcd' : (y == ("__classdict__" : Str)) = false := by decide) (hd2 : (z == ("__debug__" : Str)) = false := by decide) (hcd2 : (z == ("__classdict__" : Str)) = false := by decide)
    (hx : PlainIx (.Name y py) := by exact fun _ _ => rfl)
    (ha : ∀ v, assign (.Subscript (.Subscript (.Name x px) (.Name y py) p1) (.Name z pz) p2) X.env v = (do
      let ov ← holding [v] (eval (.Subscript (.Name x px) (.Name y py) p1) X.env)
      let iv ← holding [v, ov] (eval (.Name z pz) X.env)
      standAt p2
      holding [v, ov, iv] (setItem ov iv v)
      release [v, ov, iv] []) := by intro _; rfl) :
    PG X (.Subscript (.Subscript (.Name x px) (.Name y py) p1) (.Name z pz) p2) (rdG C [] (nestS i j k)) :=
  pg_sub' (pg_sub (pe_ix ix_list (pe_var hN hv hd hcd) (pe_var hNj hvj hd' hcd') hx) (pe_var hNk hvk hd2 hcd2) set_list ha) fun v σ H Q ⟨Γ, τ, d, na, R, w⟩ => by
  obtain ⟨F, ow, R⟩ := R
  unfold nestS at w
  split at w
  · rename_i ts a b e1 e2 e3
    split at w
    · rename_i ts' e4
      have s2 := intAt_slot R e2
      have s3 := intAt_slot R e3
      unfold nestT at e4
      split at e4
      · rename_i m e5
        split at e4
        · rename_i us e6
          split at e4
          · rename_i n e7
            cases e4
            obtain ⟨p, vs, sub, h1, h2, h3, h4, h5⟩ := R.slotList e1
            obtain ⟨u, g1, g2⟩ := h5.get e6
            rw [Nat.zero_add] at g2
            have hl : vs.length = ts.length := h5.length
            have hat : atI vs a = some u := by
              unfold atI
              rw [hl, e5]
              exact g1
            have hv := R.temps.1
            cases hv with
            | fz hv =>
            cases g2 with
            | @ol _ q ws _ sub2 f1 f2 f3 f4 =>
              obtain ⟨f5, f6, f7⟩ := f3
              refine ⟨_, h1, _, s2, p, vs, a, .ref q, rfl, rfl, by rw [← hK]; exact SqL.of h2, hat, _, s3, q, ws, b, n, rfl, rfl, f1, by rw [f4.length]; exact e7, w _ _ (fun _ _ => rfl) rfl ⟨F, ow, ?_⟩⟩
              have na : p ≠ q := fun z => f6 z.symm
              refine R.pop.mutSlot f5 f1 ⟨.ref p, h1, .ol sub (by rw [upd_ne na]; exact h2) h3 h4 ?_⟩
              have key := OwTs.other (K := C.K) (cl := C.cl) (F := F) (H := H) (H' := upd H q (.lst (ws.set n v))) (Si := fun j c => ow c = some (.inl i) ∧ c ≠ p ∧ sub c = some j) (v' := .ref q) (t' := .ol (us.set n (.fz d))) 0 m (fun j' c o hj q z => by
                rw [upd_ne (fun e => by
                  subst e
                  have z2 := q.2.2
                  rw [f7] at z2
                  cases z2
                  exact hj (Nat.zero_add _).symm)]
                exact z) h5 (.ol sub2 upd_same (by rw [List.length_set]; exact f2) (by rw [Nat.zero_add]; exact ⟨f5, f6, f7⟩) ?_) (List.getElem?_eq_some_iff.mp g1).1
              · rw [set_same g1] at key
                exact key
              · rw [Nat.zero_add]
                exact OwTs.set (ol_frz (fun c u _ n z => by rw [upd_ne n]; exact z) f4) (.fz hv)
          · cases e4
        · cases e4
      · cases e4
    · exact w.elim
  · exact w.elim
end

/-! ### x[y], x[z] = x[z], x[y] -/
theorem OwTs.of_get {K : PySem.W.Frag} {cl : Cl} {F H : Hp} {Si : Nat → Addr → Prop} : ∀ {vs : List V} {ts : List T} {i : Nat}, vs.length = ts.length → (∀ j v t, vs[j]? = some v → ts[j]? = some t → OwT K cl F H (Si (i + j)) v t) → OwTs K cl F H Si i vs ts
  | [], [], _, _, _ => .nil
  | [], _ :: _, _, h, _ => by cases h
  | _ :: _, [], _, h, _ => by cases h
  | v :: vs, t :: ts, i, h, k => .cons (by have := k 0 v t rfl rfl; exact this) (OwTs.of_get (Nat.succ.inj h) fun j v' t' e1 e2 => by
      have := k (j + 1) v' t' (by simpa using e1) (by simpa using e2)
      rw [show i + 1 + j = i + (j + 1) by omega]
      exact this)
def swapT (ts : List T) (a b : Int) : Option (List T) := match ixN ts.length a, ixN ts.length b with
  | some m, some n => match ts[m]?, ts[n]? with
    | some p, some q => some ((ts.set m q).set n p)
    | _, _ => none
  | _, _ => none
def swapS (i j k : Nat) : M Flow := fun Γ => match Γ[i]?, intAt Γ j, intAt Γ k with
  | some (some (.ol ts)), some a, some b => match swapT ts a b with
    | some ts' => .ok .next (Γ.set i (some (.ol ts')))
    | none => .bad
  | _, _, _ => .bad
section
variable {X : Cx} {C : Cc} {W : WX}
theorem ds_swap {x y z : Str} (i j k : Nat) {x1 x2 x3 x4 y1 y2 z1 z2 s1 s2 s3 s4 pt pt2 pos : Pos} {kt k2 : Nat} (hK : C.K = X.K) (hc : X.calm = true) (hN : X.N[i]? = some x) (hv : Vis X.env.scope x) (hNj : X.N[j]? = some y) (hvj : Vis X.env.scope y) (hNk : X.N[k]? = some z) (hvk : Vis X.env.scope z)
    (hd : (x == ("__debug__" : Str)) = false := by decide) (hcd : (x == ("__classdict__" : Str)) = false := by decide) (hd' : (y == ("__debug__" : Str)) = false := by decide) (hcd' : (y == ("__classdict__" : Str)) = false := by decide) (hd2 : (z == ("__debug__" : Str)) = false := by decide) (hcd2 : (z == ("__classdict__" : Str)) = false := by decide)
    (hs : swapsWithSole [.Tuple [.Subscript (.Name x x1) (.Name y y1) s1, .Subscript (.Name x x2) (.Name z z1) s2] kt pt] (.Tuple [.Subscript (.Name x x3) (.Name z z2) s3, .Subscript (.Name x x4) (.Name y y2) s4] k2 pt2) pos.line X.env = pure false := by rfl)
    (hw : swappedStores [.Tuple [.Subscript (.Name x x1) (.Name y y1) s1, .Subscript (.Name x x2) (.Name z z1) s2] kt pt] (.Tuple [.Subscript (.Name x x3) (.Name z z2) s3, .Subscript (.Name x x4) (.Name y y2) s4] k2 pt2) X.env = pure none := by rfl) :
    PS X (.Assign [.Tuple [.Subscript (.Name x x1) (.Name y y1) s1, .Subscript (.Name x x2) (.Name z z1) s2] kt pt] (.Tuple [.Subscript (.Name x x3) (.Name z z2) s3, .Subscript (.Name x x4) (.Name y y2) s4] k2 pt2) pos) (rdS C W (swapS i j k)) :=
  ps_sub (ps_asg (pe_tup (pa_cons (pe_ix ix_list (pe_var hN hv hd hcd) (pe_var hNk hvk hd2 hcd2) (fun _ _ => rfl)) (pa_cons (pe_ix ix_list (pe_var hN hv hd hcd) (pe_var hNj hvj hd' hcd') (fun _ _ => rfl)) pa_nil rfl) rfl))
    (pg_tup hc (pgs_cons (pg_sub (pe_var hN hv hd hcd) (pe_var hNj hvj hd' hcd') set_list) (pgs_cons (pg_sub (pe_var hN hv hd hcd) (pe_var hNk hvk hd2 hcd2) set_list) pgs_nil))) hs hw) fun D σ H ⟨Γ, τ, n, R, w⟩ => by
  obtain ⟨F, ow, R⟩ := R
  unfold swapS at w
  split at w
  · rename_i ts a b e1 e2 e3
    split at w
    · rename_i ts' e4
      have q2 := intAt_slot R e2
      have q3 := intAt_slot R e3
      unfold swapT at e4
      split at e4
      · rename_i m n' e5 e6
        split at e4
        · rename_i p q e7 e8
          cases e4
          obtain ⟨A, vs, sub, h1, h2, h3, h4, h5⟩ := R.slotList e1
          have hl : vs.length = ts.length := h5.length
          obtain ⟨u, g1, g2⟩ := h5.get e7
          obtain ⟨u', g3, g4⟩ := h5.get e8
          rw [Nat.zero_add] at g2 g4
          have ha : atI vs a = some u := by
            unfold atI
            rw [hl, e5]
            exact g1
          have hb : atI vs b = some u' := by
            unfold atI
            rw [hl, e6]
            exact g3
          refine ⟨_, h1, _, q3, A, vs, b, u', rfl, rfl, by rw [← hK]; exact SqL.of h2, hb, _, h1, _, q2, A, vs, a, u, rfl, rfl, by rw [← hK]; exact SqL.of h2, ha, by show 2 ≤ sizeLine; decide, fun P hP => ?_⟩
          have nP : A ≠ P := fun z => by rw [z, hP] at h2; cases h2
          refine ⟨P, [u', u], rfl, SqT.of upd_same, rfl, u', [u], rfl, _, h1, _, q2, A, vs, a, m, rfl, rfl, by rw [upd_ne nP]; exact h2, by rw [hl]; exact e5, u, [], rfl, _, h1, _, q3, A, _, b, n', rfl, rfl, upd_same, by rw [List.length_set, hl]; exact e6, rfl, ?_⟩
          rw [upd_upd]
          refine w _ _ ⟨F, ow, ?_⟩
          have R1 := R.newH (o := .tup [u', u]) hP
          have hm : m < vs.length := (List.getElem?_eq_some_iff.mp g1).1
          have hn : n' < vs.length := (List.getElem?_eq_some_iff.mp g3).1
          have fr : ∀ c o, c ≠ A → H c = some o → upd (upd H P (.tup [u', u])) A (.lst ((vs.set m u').set n' u)) c = some o := fun c o nc hc => by
            rw [upd_ne nc, upd_ne (ne_of_none hc hP)]
            exact hc
          refine R1.mutSlot (vs := vs) h4 (by rw [upd_ne nP]; exact h2) ⟨.ref A, h1, .ol (fun c => (sub c).map fun t => if t = m then n' else if t = n' then m else t) upd_same (by rw [List.length_set, List.length_set]; exact h3) h4 (OwTs.of_get (by rw [List.length_set, List.length_set, List.length_set, List.length_set, hl]) fun r v t f1 f2 => ?_)⟩
          rw [Nat.zero_add]
          have hr : r < vs.length := by
            have := (List.getElem?_eq_some_iff.mp f1).1
            rw [List.length_set, List.length_set] at this
            exact this
          by_cases c1 : r = n'
          · subst c1
            rw [List.getElem?_set_self (by rw [List.length_set]; exact hr)] at f1
            rw [List.getElem?_set_self (by rw [List.length_set, ← hl]; exact hr)] at f2
            cases f1
            cases f2
            refine g2.keep (Sub.refl F) (fun c o s z => fr c o s.2.1 z) (fun c s => ⟨s.1, s.2.1, ?_⟩)
            rw [s.2.2]
            show some (if m = m then r else _) = some r
            rw [if_pos rfl]
          · rw [List.getElem?_set_ne (Ne.symm c1)] at f1 f2
            by_cases c2 : r = m
            · subst c2
              rw [List.getElem?_set_self hr] at f1
              rw [List.getElem?_set_self (by rw [← hl]; exact hr)] at f2
              cases f1
              cases f2
              refine g4.keep (Sub.refl F) (fun c o s z => fr c o s.2.1 z) (fun c s => ⟨s.1, s.2.1, ?_⟩)
              rw [s.2.2]
              show some (if n' = r then n' else if n' = n' then r else n') = some r
              rw [if_neg (Ne.symm c1), if_pos rfl]
            · rw [List.getElem?_set_ne (Ne.symm c2)] at f1 f2
              obtain ⟨v', k1, k2⟩ := h5.get f2
              rw [f1] at k1
              cases k1
              rw [Nat.zero_add] at k2
              refine k2.keep (Sub.refl F) (fun c o s z => fr c o s.2.1 z) (fun c s => ⟨s.1, s.2.1, ?_⟩)
              rw [s.2.2]
              show some (if r = m then n' else if r = n' then m else r) = some r
              rw [if_neg c2, if_neg c1]
        · cases e4
      · cases e4
    · exact w.elim
  · exact w.elim
end

/-! ### the inner lists are frozen -/
def frzIn (i : Nat) : M Unit := fun Γ => match Γ[i]? with
  | some (some (.ol ts)) => match T.toDs ts with
    | some ds => .ok () (Γ.set i (some (.ol (ds.map T.fz))))
    | none => .bad
  | _ => .bad
section
variable {X : Cx} {C : Cc} {W : WX}
theorem Rel.freezeIn {σ : St} {H : Hp} {Γ : Env} {τ : Hand} {i : Nat} {ts : List T} {ds : List D} (R : Rel C σ H Γ τ) (hi : Γ[i]? = some (some (.ol ts))) (h : T.toDs ts = some ds) : Rel C σ H (Γ.set i (some (.ol (ds.map T.fz)))) τ := by
  obtain ⟨F, ow, R⟩ := R
  obtain ⟨A, vs, sub, h1, h2, h3, h4, h5⟩ := R.slotList hi
  have hlt : i < Γ.length := (List.getElem?_eq_some_iff.mp hi).1
  have dec : ∀ b, Decidable (ow b = some (.inl i) ∧ b ≠ A) := fun b => inferInstance
  have sF : Sub F (fun b => if ow b = some (.inl i) ∧ b ≠ A then H b else F b) := fun b o e => by
    show (if ow b = some (.inl i) ∧ b ≠ A then H b else F b) = some o
    rw [if_neg (fun z => by rw [R.ownF b _ z.1] at e; cases e)]
    exact e
  have key : ∀ b r, (if ow b = some (.inl i) ∧ b ≠ A then none else ow b) = some r → ow b = some r ∧ ¬ (ow b = some (.inl i) ∧ b ≠ A) := fun b r e => by
    by_cases c : ow b = some (.inl i) ∧ b ≠ A
    · rw [if_pos c] at e; cases e
    · rw [if_neg c] at e; exact ⟨e, c⟩
  have oth : ∀ b r, ow b = some r → r ≠ .inl i → (if ow b = some (.inl i) ∧ b ≠ A then none else ow b) = some r := fun b r e n => by
    rw [if_neg (fun z => by rw [e] at z; exact n (Option.some.inj z.1))]
    exact e
  refine ⟨fun b => if ow b = some (.inl i) ∧ b ≠ A then H b else F b, fun b => if ow b = some (.inl i) ∧ b ≠ A then none else ow b, fun b o e => ?_, R.old.trans sF, fun b o e => ?_, R.frame, fun b r e => ?_, fun b r e => R.ownH b r (key b r e).1, fun b r e => R.ownN b r (key b r e).1, fun j t e => ?_, ?_, R.pins, by simpa using R.len, R.tabs, fun b o e => ?_⟩
  · have e' : (if ow b = some (.inl i) ∧ b ≠ A then H b else F b) = some o := e
    split at e'
    · exact e'
    · exact R.ex b o e'
  · have e' : (if ow b = some (.inl i) ∧ b ≠ A then H b else F b) = some o := e
    split at e'
    · rename_i c
      rcases R.ownN b _ c.1 with z | z
      · exact .inr (.inr (.inl z))
      · exact .inr (.inl z)
    · exact R.new b o e'
  · obtain ⟨k1, k2⟩ := key b r e
    show (if ow b = some (.inl i) ∧ b ≠ A then H b else F b) = none
    rw [if_neg k2]
    exact R.ownF b r k1
  · by_cases hj : i = j
    · subst hj
      rw [List.getElem?_set_self hlt] at e
      cases e
      refine ⟨.ref A, h1, .ol (fun _ => none) h2 h3 ?_ (OwTs.ofDts (h5.data sF (fun j b o q z => ?_) h))⟩
      · show (if ow A = some (.inl i) ∧ A ≠ A then none else ow A) = some (.inl i)
        rw [if_neg (fun z => z.2 rfl)]
        exact h4
      · show (if ow b = some (.inl i) ∧ b ≠ A then H b else F b) = some o
        rw [if_pos ⟨q.1, q.2.1⟩]
        exact z
    · rw [List.getElem?_set_ne hj] at e
      obtain ⟨w, g1, g2⟩ := R.slots j t e
      exact ⟨w, g1, g2.keep sF (fun _ _ _ q => q) (fun b q => oth b _ q (fun z => by cases z; exact hj rfl))⟩
  · exact R.temps.keep sF (fun _ _ _ _ _ q => q) (fun b j _ q => oth b _ q (fun z => by cases z))
  · have e' : (if ow b = some (.inl i) ∧ b ≠ A then H b else F b) = some o := e
    split at e'
    · rename_i c
      obtain ⟨u, hu, n⟩ := R.ownH b _ c.1
      rw [hu] at e'
      cases e'
      exact n.1
    · exact R.ft b o e'
theorem ds_frzIn {i : Nat} {st : Stmt} {f : M Flow} (h : PS X st (rdS C W f)) : PS X st (rdS C W (bindM (frzIn i) fun _ => f)) := ps_sub h fun D σ H ⟨Γ, τ, n, R, w⟩ => by
  have w1 := Out.wp_bind w
  unfold frzIn at w1
  split at w1
  · rename_i ts e1
    split at w1
    · rename_i ds e2
      exact ⟨_, τ, n, R.freezeIn e1 e2, w1⟩
    · exact w1.elim
  · exact w1.elim
end
end DL
/-! sum of a list of whole numbers -/
namespace DL
open PySem L2
def intsOf : List D → Option (List Int)
  | [] => some []
  | .int i :: ds => (intsOf ds).map (i :: ·)
  | _ :: _ => none
def sumD : List D → Option D
  | [.lst ds] => (intsOf ds).map fun ns => .int ns.sum
  | _ => none
theorem intsOf_eq : ∀ {ds : List D} {ns : List Int}, intsOf ds = some ns → ds = ns.map D.int
  | [], ns, h => by cases h; rfl
  | d :: ds, ns, h => by
    cases d with
    | int i =>
      unfold intsOf at h
      cases e : intsOf ds with
      | none => rw [e] at h; cases h
      | some ms =>
        rw [e] at h
        cases h
        rw [intsOf_eq e]
        rfl
    | _ => cases h
theorem intsOf_ints : ∀ ns : List Int, intsOf (ns.map D.int) = some ns
  | [] => rfl
  | n :: ns => by
    show (intsOf (ns.map D.int)).map (n :: ·) = _
    rw [intsOf_ints ns]
    rfl
theorem sc_sum {K : PySem.W.Frag} {cl : Cl} : ScC K cl (rSum K) sumD := by
  intro H vs ds d Q h e q
  unfold sumD at e
  split at e
  · rename_i es
    obtain ⟨v, rfl, hv⟩ := h.one
    cases e1 : intsOf es with
    | none => rw [e1] at e; cases e
    | some ns =>
      rw [e1] at e
      cases e
      cases hv with
      | lst h1 _ h2 =>
        rw [intsOf_eq e1] at h2
        exact ⟨_, ns, rfl, SqL.of (by rw [← h2.ints]; exact h1), q _ (.int _)⟩
  · cases e
theorem sum_ints {ns : List Int} : sumD [.lst (ns.map D.int)] = some (.int ns.sum) := by
  show (intsOf (ns.map D.int)).map _ = _
  rw [intsOf_ints]
  rfl
end DL
/-! boxes: the worth by the first row, what it does under changes of rows, the bordered boxes -/
namespace BX
def sumN : Nat → (Nat → Int) → Int
  | 0, _ => 0
  | n + 1, f => sumN n f + f n
theorem sum_congr {f g : Nat → Int} : ∀ {n : Nat}, (∀ i, i < n → f i = g i) → sumN n f = sumN n g
  | 0, _ => rfl
  | n + 1, h => by
    unfold sumN
    rw [sum_congr fun i hi => h i (by omega), h n (by omega)]
theorem sum_add {f g : Nat → Int} : ∀ n : Nat, sumN n (fun i => f i + g i) = sumN n f + sumN n g
  | 0 => rfl
  | n + 1 => by
    show sumN n (fun i => f i + g i) + (f n + g n) = _
    rw [sum_add n]
    show _ = sumN n f + f n + (sumN n g + g n)
    omega
theorem sum_mul {c : Int} {f : Nat → Int} : ∀ n : Nat, sumN n (fun i => c * f i) = c * sumN n f
  | 0 => by unfold sumN; rw [Int.mul_zero]
  | n + 1 => by
    unfold sumN
    rw [sum_mul n, Int.mul_add]
theorem sum_zero {f : Nat → Int} : ∀ {n : Nat}, (∀ i, i < n → f i = 0) → sumN n f = 0
  | 0, _ => rfl
  | n + 1, h => by
    unfold sumN
    rw [sum_zero fun i hi => h i (by omega), h n (by omega)]
    rfl
theorem sum_head {f : Nat → Int} : ∀ n : Nat, sumN (n + 1) f = f 0 + sumN n (fun i => f (i + 1))
  | 0 => by unfold sumN sumN; omega
  | n + 1 => by
    rw [sumN, sum_head n, sumN]
    omega
/-- a double sum whose things cancel by pairs -/
theorem dsum {g : Nat → Nat → Int} : ∀ n : Nat, (∀ k l, l < k → k ≤ n → g k l + g l (k - 1) = 0) → sumN (n + 1) (fun k => sumN n (g k)) = 0
  | 0, _ => rfl
  | n + 1, h => by
    have ih := dsum (g := g) n fun k l h1 h2 => h k l h1 (by omega)
    have e1 : sumN (n + 1) (fun k => sumN (n + 1) (g k)) = sumN (n + 1) (fun k => sumN n (g k)) + sumN (n + 1) (fun k => g k n) := by
      rw [← sum_add]
      rfl
    rw [sumN, e1, ih]
    have e2 : sumN (n + 1) (fun k => g k n) + sumN (n + 1) (g (n + 1)) = 0 := by
      rw [← sum_add]
      exact sum_zero fun i hi => by
        have := h (n + 1) i hi (Nat.le_refl _)
        rw [show n + 1 - 1 = n by omega] at this
        omega
    omega
def skip (k j : Nat) : Nat := if j < k then j else j + 1
def sg (k : Nat) : Int := if k % 2 = 0 then 1 else -1
theorem sg_succ (k : Nat) : sg (k + 1) = -sg k := by
  unfold sg
  by_cases h : k % 2 = 0
  · rw [if_pos h, if_neg (by omega)]
  · rw [if_neg h, if_pos (by omega)]; rfl
abbrev Mx := Nat → Nat → Int
def minor (A : Mx) (k : Nat) : Mx := fun i j => A (i + 1) (skip k j)
def det : Nat → Mx → Int
  | 0, _ => 1
  | n + 1, A => sumN (n + 1) fun k => sg k * A 0 k * det n (minor A k)
theorem skip_lt {n k j : Nat} (h : j < n) : skip k j < n + 1 := by unfold skip; split <;> omega
theorem det_congr : ∀ {n : Nat} {A B : Mx}, (∀ i j, i < n → j < n → A i j = B i j) → det n A = det n B
  | 0, _, _, _ => rfl
  | n + 1, A, B, h => by
    unfold det
    refine sum_congr fun k hk => ?_
    rw [h 0 k (by omega) hk, det_congr (A := minor A k) (B := minor B k) fun i j hi hj => h _ _ (by omega) (skip_lt hj)]
/-! ### one row -/
def sr (A : Mx) (i : Nat) (v : Nat → Int) : Mx := fun r c => if r = i then v c else A r c
theorem minor_rw0 (A : Mx) (v : Nat → Int) (k : Nat) : minor (sr A 0 v) k = minor A k := by
  funext i j
  unfold minor sr
  rw [if_neg (by omega)]
theorem minor_rw (A : Mx) (i : Nat) (v : Nat → Int) (k : Nat) : minor (sr A (i + 1) v) k = sr (minor A k) i (fun j => v (skip k j)) := by
  funext r c
  unfold minor sr
  by_cases h : r = i
  · rw [if_pos (by omega), if_pos h]
  · rw [if_neg (by omega), if_neg h]
theorem det_lin {c d : Int} : ∀ {n : Nat} {A : Mx} {i : Nat} {u v : Nat → Int}, i < n → det n (sr A i (fun j => c * u j + d * v j)) = c * det n (sr A i u) + d * det n (sr A i v)
  | 0, _, _, _, _, h => absurd h (Nat.not_lt_zero _)
  | n + 1, A, 0, u, v, _ => by
    unfold det
    rw [← sum_mul, ← sum_mul, ← sum_add]
    refine sum_congr fun k _ => ?_
    rw [minor_rw0, minor_rw0, minor_rw0]
    show sg k * (c * u k + d * v k) * det n (minor A k) = c * (sg k * u k * det n (minor A k)) + d * (sg k * v k * det n (minor A k))
    generalize det n (minor A k) = x
    generalize sg k = s
    simp only [Int.mul_add, Int.add_mul]
    congr 1 <;> simp only [Int.mul_assoc, Int.mul_left_comm]
  | n + 1, A, i + 1, u, v, h => by
    unfold det
    rw [← sum_mul, ← sum_mul, ← sum_add]
    refine sum_congr fun k _ => ?_
    rw [minor_rw, minor_rw, minor_rw, det_lin (A := minor A k) (u := fun j => u (skip k j)) (v := fun j => v (skip k j)) (Nat.lt_of_succ_lt_succ h)]
    have e : ∀ w, sr A (i + 1) w 0 k = A 0 k := fun w => by unfold sr; rw [if_neg (by omega)]
    rw [e, e, e]
    generalize det n (sr (minor A k) i fun j => u (skip k j)) = x
    generalize det n (sr (minor A k) i fun j => v (skip k j)) = y
    generalize sg k * A 0 k = s
    simp only [Int.mul_add]
    congr 1 <;> simp only [Int.mul_left_comm]
/-! ### two rows exchanged -/
def sw (A : Mx) (i : Nat) : Mx := fun r c => A (if r = i then i + 1 else if r = i + 1 then i else r) c
theorem minor_sw (A : Mx) (i k : Nat) : minor (sw A (i + 1)) k = sw (minor A k) i := by
  funext r c
  unfold minor sw
  by_cases h1 : r = i
  · rw [if_pos (by omega), if_pos h1]
  · rw [if_neg (by omega), if_neg h1]
    by_cases h2 : r = i + 1
    · rw [if_pos (by omega), if_pos h2]
    · rw [if_neg (by omega), if_neg h2]
theorem skip_skip {k l j : Nat} (h : l < k) : skip k (skip l j) = skip l (skip (k - 1) j) := by
  unfold skip
  by_cases h1 : j < l
  · rw [if_pos h1, if_pos (show j < k by omega), if_pos (show j < k - 1 by omega), if_pos h1]
  · by_cases h2 : j < k - 1
    · rw [if_neg h1, if_pos (show j + 1 < k by omega), if_pos h2, if_neg h1]
    · rw [if_neg h1, if_neg (show ¬ j + 1 < k by omega), if_neg h2, if_neg (show ¬ j + 1 < l by omega)]
theorem minor2 (A : Mx) {k l : Nat} (h : l < k) : minor (minor A k) l = minor (minor A l) (k - 1) := by
  funext r c
  unfold minor
  rw [skip_skip h]
theorem det2 (n : Nat) (A : Mx) : det (n + 2) A = sumN (n + 2) fun k => sumN (n + 1) fun l => sg k * A 0 k * (sg l * A 1 (skip k l) * det n (minor (minor A k) l)) := by
  show sumN (n + 2) (fun k => sg k * A 0 k * det (n + 1) (minor A k)) = _
  refine sum_congr fun k _ => ?_
  rw [sum_mul]
  rfl
theorem swap01 (n : Nat) (A : Mx) : det (n + 2) (sw A 0) = -det (n + 2) A := by
  have key : det (n + 2) A + det (n + 2) (sw A 0) = 0 := by
    rw [det2, det2, ← sum_add]
    have e : (fun k => sumN (n + 1) (fun l => sg k * A 0 k * (sg l * A 1 (skip k l) * det n (minor (minor A k) l))) + sumN (n + 1) (fun l => sg k * sw A 0 0 k * (sg l * sw A 0 1 (skip k l) * det n (minor (minor (sw A 0) k) l)))) = fun k => sumN (n + 1) (fun l => sg k * sg l * (A 0 k * A 1 (skip k l) + A 1 k * A 0 (skip k l)) * det n (minor (minor A k) l)) := by
      funext k
      rw [← sum_add]
      refine sum_congr fun l _ => ?_
      have e1 : minor (minor (sw A 0) k) l = minor (minor A k) l := by
        funext r c
        unfold minor sw
        rw [if_neg (by omega), if_neg (by omega)]
      have e2 : sw A 0 0 k = A 1 k := rfl
      have e3 : sw A 0 1 (skip k l) = A 0 (skip k l) := rfl
      rw [e1, e2, e3]
      generalize det n (minor (minor A k) l) = x
      generalize A 0 k = p
      generalize A 1 (skip k l) = q
      generalize A 1 k = r
      generalize A 0 (skip k l) = t
      simp only [Int.mul_add, Int.add_mul]
      congr 1 <;> simp only [Int.mul_assoc, Int.mul_left_comm]
    rw [e]
    refine dsum (n + 1) fun k l h1 h2 => ?_
    have e1 : skip k l = l := by unfold skip; rw [if_pos h1]
    have e2 : skip l (k - 1) = k := by unfold skip; rw [if_neg (by omega)]; omega
    rw [e1, e2, minor2 A h1]
    obtain ⟨m, rfl⟩ : ∃ m, k = m + 1 := ⟨k - 1, by omega⟩
    rw [show m + 1 - 1 = m by omega, sg_succ]
    generalize det n (minor (minor A l) m) = x
    generalize A 0 (m + 1) = p
    generalize A 1 l = q
    generalize A 1 (m + 1) = r
    generalize A 0 l = t
    generalize sg m = s
    generalize sg l = s2
    have e3 : -s * s2 * (p * q + r * t) * x = -(s2 * s * (t * r + q * p) * x) := by
      rw [Int.mul_comm p q, Int.mul_comm r t, Int.add_comm (q * p), Int.neg_mul, Int.neg_mul, Int.neg_mul, Int.mul_comm s s2]
    rw [e3]
    omega
  omega
theorem det_sw : ∀ {n i : Nat} {A : Mx}, i + 1 < n → det n (sw A i) = -det n A
  | 0, _, _, h => absurd h (Nat.not_lt_zero _)
  | 1, i, _, h => by omega
  | n + 2, 0, A, _ => swap01 n A
  | n + 2, i + 1, A, h => by
    unfold det
    rw [show -sumN (n + 1 + 1) (fun k => sg k * A 0 k * det (n + 1) (minor A k)) = (-1) * sumN (n + 1 + 1) (fun k => sg k * A 0 k * det (n + 1) (minor A k)) by omega, ← sum_mul]
    refine sum_congr fun k _ => ?_
    rw [minor_sw, det_sw (A := minor A k) (i := i) (n := n + 1) (by omega)]
    have e : sw A (i + 1) 0 k = A 0 k := by unfold sw; rw [if_neg (by omega), if_neg (by omega)]
    rw [e, Int.mul_neg]
    omega
/-- rows 0 and i alike -/
theorem det_alike {n : Nat} : ∀ (i : Nat) {A : Mx}, i + 1 < n → (∀ j, j < n → A 0 j = A (i + 1) j) → det n A = 0
  | 0, A, h, e => by
    have h1 := det_sw (A := A) h
    have h2 : det n (sw A 0) = det n A := det_congr fun r c hr hc => by
      unfold sw
      by_cases z : r = 0
      · rw [if_pos z, z]; exact (e c hc).symm
      · rw [if_neg z]
        by_cases z2 : r = 0 + 1
        · rw [if_pos z2, z2]; exact e c hc
        · rw [if_neg z2]
    omega
  | i + 1, A, h, e => by
    have h1 := det_sw (n := n) (A := A) (i := i + 1) h
    have h2 := det_alike (n := n) i (A := sw A (i + 1)) (by omega) fun j hj => by
      unfold sw
      rw [if_neg (by omega), if_neg (by omega), if_pos rfl]
      exact e j hj
    omega
/-- any two rows exchanged -/
def swp (A : Mx) (p q : Nat) : Mx := fun r c => A (if r = p then q else if r = q then p else r) c
theorem det_swp {n : Nat} : ∀ (d p : Nat) {A : Mx}, p + d + 1 < n → det n (swp A p (p + d + 1)) = -det n A
  | 0, p, A, h => det_sw h
  | d + 1, p, A, h => by
    have e : det n (swp A p (p + (d + 1) + 1)) = det n (sw (swp (sw A (p + d + 1)) p (p + d + 1)) (p + d + 1)) := det_congr fun r c _ _ => by
      simp only [swp, sw]
      congr 1
      (repeat' split) <;> omega
    rw [e, det_sw (by omega), det_swp d p (by omega), det_sw (by omega)]
    omega
end BX
/-! boxes: one step of the reckoning; the bordered boxes -/
namespace BX
theorem rw_self (A : Mx) (i : Nat) : sr A i (A i) = A := by
  funext r c
  simp only [sr]
  by_cases h : r = i
  · rw [if_pos h, h]
  · rw [if_neg h]
theorem det_scale {n i : Nat} {A : Mx} {c : Int} (h : i < n) : det n (sr A i (fun j => c * A i j)) = c * det n A := by
  have := det_lin (c := c) (d := 0) (A := A) (u := A i) (v := A i) h
  rw [rw_self, Int.zero_mul, Int.add_zero] at this
  rw [← this]
  congr 1
  congr 1
  funext j
  omega
/-- all rows scaled -/
theorem det_smul {n : Nat} {A : Mx} {c : Int} : det n (fun i j => c * A i j) = c ^ n * det n A := by
  have key : ∀ t, t ≤ n → det n (fun i j => if i < t then c * A i j else A i j) = c ^ t * det n A := by
    intro t
    induction t with
    | zero =>
      intro _
      rw [Int.pow_zero, Int.one_mul]
      exact det_congr fun i j _ _ => if_neg (Nat.not_lt_zero _)
    | succ t ih =>
      intro ht
      have h1 := det_scale (n := n) (i := t) (A := fun i j => if i < t then c * A i j else A i j) (c := c) (by omega)
      rw [ih (by omega)] at h1
      rw [Int.pow_succ, Int.mul_comm (c ^ t) c, Int.mul_assoc, ← h1]
      refine det_congr fun i j _ _ => ?_
      simp only [sr]
      by_cases e : i = t
      · subst e
        rw [if_pos rfl, if_pos (by omega)]
        simp
      · rw [if_neg e]
        by_cases e2 : i < t
        · rw [if_pos (by omega), if_pos e2]
        · rw [if_neg (by omega), if_neg e2]
  rw [← key n (Nat.le_refl _)]
  exact det_congr fun i j hi _ => (if_pos hi).symm
theorem det_col0 : ∀ {n : Nat} {A : Mx}, (∀ i, i < n + 1 → A i 0 = 0) → det (n + 1) A = 0
  | n, A, h => by
    show sumN (n + 1) (fun k => sg k * A 0 k * det n (minor A k)) = 0
    refine sum_zero fun k hk => ?_
    cases k with
    | zero => rw [h 0 (by omega), Int.mul_zero, Int.zero_mul]
    | succ k =>
      cases n with
      | zero => omega
      | succ n =>
        rw [det_col0 (A := minor A (k + 1)) fun i hi => ?_, Int.mul_zero]
        unfold minor skip
        rw [if_pos (Nat.succ_pos k)]
        exact h (i + 1) (by omega)
def chio (A : Mx) : Mx := fun i j => A 0 0 * A (i + 1) (j + 1) - A (i + 1) 0 * A 0 (j + 1)
theorem det_chio (m : Nat) (A : Mx) : A 0 0 * det m (chio A) = A 0 0 ^ m * det (m + 1) A := by
  have key : ∀ t, t ≤ m → det (m + 1) (fun i j => if 0 < i ∧ i < t + 1 then A 0 0 * A i j - A i 0 * A 0 j else A i j) = A 0 0 ^ t * det (m + 1) A := by
    intro t
    induction t with
    | zero =>
      intro _
      rw [Int.pow_zero, Int.one_mul]
      exact det_congr fun i j _ _ => if_neg (by omega)
    | succ t ih =>
      intro ht
      have h1 := det_lin (c := A 0 0) (d := -A (t + 1) 0) (n := m + 1) (i := t + 1) (A := fun i j => if 0 < i ∧ i < t + 1 then A 0 0 * A i j - A i 0 * A 0 j else A i j) (u := A (t + 1)) (v := A 0) (by omega)
      have h2 : det (m + 1) (sr (fun i j => if 0 < i ∧ i < t + 1 then A 0 0 * A i j - A i 0 * A 0 j else A i j) (t + 1) (A (t + 1))) = det (m + 1) (fun i j => if 0 < i ∧ i < t + 1 then A 0 0 * A i j - A i 0 * A 0 j else A i j) := det_congr fun i j _ _ => by
        simp only [sr]
        by_cases e : i = t + 1
        · rw [if_pos e, e, if_neg (by omega)]
        · rw [if_neg e]
      have h3 : det (m + 1) (sr (fun i j => if 0 < i ∧ i < t + 1 then A 0 0 * A i j - A i 0 * A 0 j else A i j) (t + 1) (A 0)) = 0 := by
        refine det_alike t (by omega) fun j _ => ?_
        show (if (0 : Nat) = t + 1 then A 0 j else if 0 < 0 ∧ 0 < t + 1 then _ else A 0 j) = if t + 1 = t + 1 then A 0 j else _
        rw [if_neg (by omega), if_pos rfl, if_neg (by omega)]
      rw [h2, h3, ih (by omega), Int.mul_zero, Int.add_zero] at h1
      rw [Int.pow_succ, Int.mul_comm (A 0 0 ^ t), Int.mul_assoc, ← h1]
      refine det_congr fun i j _ _ => ?_
      simp only [sr]
      by_cases e : i = t + 1
      · rw [if_pos e, e, if_pos (by omega), Int.neg_mul]
        omega
      · rw [if_neg e]
        by_cases e2 : 0 < i ∧ i < t + 1
        · rw [if_pos (by omega), if_pos e2]
        · rw [if_neg (by omega), if_neg e2]
  rw [← key m (Nat.le_refl _)]
  show _ = sumN (m + 1) (fun k => sg k * _ * det m (minor _ k))
  rw [sum_head, sum_zero (f := fun i => _) (n := m) fun k hk => ?_]
  · have e1 : det m (minor (fun i j => if 0 < i ∧ i < m + 1 then A 0 0 * A i j - A i 0 * A 0 j else A i j) 0) = det m (chio A) := det_congr fun i j hi _ => by
      show (if 0 < i + 1 ∧ i + 1 < m + 1 then A 0 0 * A (i + 1) (skip 0 j) - A (i + 1) 0 * A 0 (skip 0 j) else A (i + 1) (skip 0 j)) = chio A i j
      rw [if_pos (by omega)]
      rfl
    show _ = sg 0 * (if 0 < 0 ∧ 0 < m + 1 then A 0 0 * A 0 0 - A 0 0 * A 0 0 else A 0 0) * det m (minor (fun i j => if 0 < i ∧ i < m + 1 then A 0 0 * A i j - A i 0 * A 0 j else A i j) 0) + 0
    rw [e1, if_neg (by omega), show sg 0 = 1 from rfl, Int.one_mul, Int.add_zero]
  · obtain ⟨m', rfl⟩ : ∃ m', m = m' + 1 := ⟨m - 1, by omega⟩
    rw [det_col0 fun i hi => ?_, Int.mul_zero]
    show (if 0 < i + 1 ∧ i + 1 < m' + 1 + 1 then A 0 0 * A (i + 1) (skip (k + 1) 0) - A (i + 1) 0 * A 0 (skip (k + 1) 0) else A (i + 1) (skip (k + 1) 0)) = 0
    rw [if_pos (by omega), show skip (k + 1) 0 = 0 by unfold skip; rw [if_pos (Nat.succ_pos k)], Int.mul_comm]
    omega
/-! ### bordered boxes -/
def bord (A : Mx) (k i j : Nat) : Mx := fun r c => A (if r < k then r else i) (if c < k then c else j)
def bm (A : Mx) (k i j : Nat) : Int := det (k + 1) (bord A k i j)
def blk (A : Mx) (k : Nat) : Mx := fun i j => bm A k (k + i) (k + j)
theorem bm_kk (A : Mx) (k : Nat) : bm A k k k = det (k + 1) A := det_congr fun i j hi hj => by
  unfold bord
  congr 1 <;> split <;> omega
theorem det_two (A : Mx) : det 2 A = A 0 0 * A 1 1 - A 0 1 * A 1 0 := by
  show sumN 2 (fun k => sg k * A 0 k * sumN 1 (fun l => sg l * minor A k 0 l * 1)) = _
  show 0 + sg 0 * A 0 0 * (0 + sg 0 * minor A 0 0 0 * 1) + sg 1 * A 0 1 * (0 + sg 0 * minor A 1 0 0 * 1) = _
  have e1 : minor A 0 0 0 = A 1 1 := rfl
  have e2 : minor A 1 0 0 = A 1 0 := rfl
  rw [e1, e2, show sg 0 = 1 from rfl, show sg 1 = -1 from rfl]
  simp only [Int.zero_add, Int.one_mul, Int.mul_one, Int.neg_mul]
  omega
theorem pow_ne {p : Int} (h : p ≠ 0) : ∀ n : Nat, p ^ n ≠ 0
  | 0 => by rw [Int.pow_zero]; decide
  | n + 1 => by rw [Int.pow_succ]; exact Int.mul_ne_zero (pow_ne h n) h
theorem sylvester : ∀ (k n : Nat) (A : Mx), k + 1 ≤ n → (∀ t, t ≤ k → det t A ≠ 0) → det (n - k) (blk A k) = det k A ^ (n - k - 1) * det n A
  | 0, n, A, _, _ => by
    rw [show det 0 A = 1 from rfl, Int.one_pow, Int.one_mul]
    refine det_congr fun i j _ _ => ?_
    show sumN 1 (fun k => sg k * bord A 0 (0 + i) (0 + j) 0 k * 1) = _
    show 0 + sg 0 * A (0 + i) (0 + j) * 1 = _
    rw [show sg 0 = 1 from rfl, Nat.zero_add, Nat.zero_add]
    omega
  | k + 1, n, A, hn, hd => by
    have hk := hd k (by omega)
    have hp := hd (k + 1) (Nat.le_refl _)
    obtain ⟨m, hm⟩ : ∃ m, n = k + 1 + (m + 1) := ⟨n - k - 2, by omega⟩
    subst hm
    -- two by two
    have step : ∀ i j, k < i → k < j → bm A k k k * bm A k i j - bm A k k j * bm A k i k = det k A * bm A (k + 1) i j := by
      intro i j hi hj
      have hX : ∀ t, t ≤ k + 1 → det t (bord A (k + 1) i j) = det t A := fun t ht => det_congr fun r c hr hc => by
        unfold bord
        rw [if_pos (by omega), if_pos (by omega)]
      have h2 := sylvester k (k + 2) (bord A (k + 1) i j) (by omega) (fun t ht => by rw [hX t (by omega)]; exact hd t (by omega))
      rw [show k + 2 - k = 2 by omega, show 2 - 1 = 1 from rfl, Int.pow_one, hX k (by omega), det_two] at h2
      have eb : ∀ u v u' v', (u' = if u < k + 1 then u else i) → (v' = if v < k + 1 then v else j) → bm (bord A (k + 1) i j) k u v = bm A k u' v' := by
        intro u v u' v' hu hv
        refine det_congr fun r c hr hc => ?_
        unfold bord
        congr 1
        · by_cases h : r < k
          · rw [if_pos h, if_pos (by omega), if_pos h]
          · rw [if_neg h, hu, if_neg h]
        · by_cases h : c < k
          · rw [if_pos h, if_pos (by omega), if_pos h]
          · rw [if_neg h, hv, if_neg h]
      have b00 : blk (bord A (k + 1) i j) k 0 0 = bm A k k k := eb _ _ _ _ (by rw [if_pos (by omega)]; omega) (by rw [if_pos (by omega)]; omega)
      have b01 : blk (bord A (k + 1) i j) k 0 1 = bm A k k j := eb _ _ _ _ (by rw [if_pos (by omega)]; omega) (by rw [if_neg (by omega)])
      have b10 : blk (bord A (k + 1) i j) k 1 0 = bm A k i k := eb _ _ _ _ (by rw [if_neg (by omega)]) (by rw [if_pos (by omega)]; omega)
      have b11 : blk (bord A (k + 1) i j) k 1 1 = bm A k i j := eb _ _ _ _ (by rw [if_neg (by omega)]) (by rw [if_neg (by omega)])
      rw [b00, b01, b10, b11] at h2
      exact h2
    have ih := sylvester k (k + 1 + (m + 1)) A (by omega) fun t ht => hd t (by omega)
    rw [show k + 1 + (m + 1) - k = (m + 1) + 1 by omega, show m + 1 + 1 - 1 = m + 1 by omega] at ih
    have hc := det_chio (m + 1) (blk A k)
    have e0 : blk A k 0 0 = det (k + 1) A := bm_kk A k
    have ec : det (m + 1) (chio (blk A k)) = det k A ^ (m + 1) * det (m + 1) (blk A (k + 1)) := by
      rw [← det_smul]
      refine det_congr fun i j _ _ => ?_
      have := step (k + (i + 1)) (k + (j + 1)) (by omega) (by omega)
      unfold chio
      show bm A k (k + 0) (k + 0) * bm A k (k + (i + 1)) (k + (j + 1)) - bm A k (k + (i + 1)) (k + 0) * bm A k (k + 0) (k + (j + 1)) = det k A * bm A (k + 1) (k + 1 + i) (k + 1 + j)
      rw [show k + 1 + i = k + (i + 1) by omega, show k + 1 + j = k + (j + 1) by omega, ← this, Nat.add_zero, Int.mul_comm (bm A k (k + (i + 1)) k)]
    rw [e0, ec, ih] at hc
    rw [show k + 1 + (m + 1) - (k + 1) = m + 1 by omega, show m + 1 - 1 = m by omega]
    -- cancel
    have hc2 : det (k + 1) A * det k A ^ (m + 1) * det (m + 1) (blk A (k + 1)) = det (k + 1) A * det k A ^ (m + 1) * (det (k + 1) A ^ m * det (k + 1 + (m + 1)) A) := by
      rw [Int.mul_assoc, hc, Int.pow_succ (det (k + 1) A) m]
      generalize det (k + 1) A ^ m = x
      generalize det k A ^ (m + 1) = y
      generalize det (k + 1) A = z
      generalize det (k + 1 + (m + 1)) A = u
      simp only [Int.mul_assoc, Int.mul_left_comm, Int.mul_comm]
    exact Int.eq_of_mul_eq_mul_left (Int.mul_ne_zero hp (pow_ne hk _)) hc2
/-- the next bordered boxes from the ones before -/
theorem bord_step {k : Nat} {A : Mx} (hd : ∀ t, t ≤ k → det t A ≠ 0) {i j : Nat} (hi : k < i) (hj : k < j) : bm A k k k * bm A k i j - bm A k k j * bm A k i k = det k A * bm A (k + 1) i j := by
  have hX : ∀ t, t ≤ k + 1 → det t (bord A (k + 1) i j) = det t A := fun t ht => det_congr fun r c hr hc => by
    unfold bord
    rw [if_pos (by omega), if_pos (by omega)]
  have h2 := sylvester k (k + 2) (bord A (k + 1) i j) (by omega) (fun t ht => by rw [hX t (by omega)]; exact hd t (by omega))
  rw [show k + 2 - k = 2 by omega, show 2 - 1 = 1 from rfl, Int.pow_one, hX k (by omega), det_two] at h2
  have eb : ∀ u v u' v', (u' = if u < k + 1 then u else i) → (v' = if v < k + 1 then v else j) → bm (bord A (k + 1) i j) k u v = bm A k u' v' := by
    intro u v u' v' hu hv
    refine det_congr fun r c hr hc => ?_
    unfold bord
    congr 1
    · by_cases h : r < k
      · rw [if_pos h, if_pos (by omega), if_pos h]
      · rw [if_neg h, hu, if_neg h]
    · by_cases h : c < k
      · rw [if_pos h, if_pos (by omega), if_pos h]
      · rw [if_neg h, hv, if_neg h]
  have b00 : blk (bord A (k + 1) i j) k 0 0 = bm A k k k := eb _ _ _ _ (by rw [if_pos (by omega)]; omega) (by rw [if_pos (by omega)]; omega)
  have b01 : blk (bord A (k + 1) i j) k 0 1 = bm A k k j := eb _ _ _ _ (by rw [if_pos (by omega)]; omega) (by rw [if_neg (by omega)])
  have b10 : blk (bord A (k + 1) i j) k 1 0 = bm A k i k := eb _ _ _ _ (by rw [if_neg (by omega)]) (by rw [if_pos (by omega)]; omega)
  have b11 : blk (bord A (k + 1) i j) k 1 1 = bm A k i j := eb _ _ _ _ (by rw [if_neg (by omega)]) (by rw [if_neg (by omega)])
  rw [b00, b01, b10, b11] at h2
  exact h2
end BX
namespace BX
/-! ### how big a worth may be -/
def bnd (M : Nat) : Nat → Nat
  | 0 => 1
  | n + 1 => (n + 1) * (M * bnd M n)
theorem sum_bound {f : Nat → Int} {b : Nat} : ∀ {n : Nat}, (∀ i, i < n → (f i).natAbs ≤ b) → (sumN n f).natAbs ≤ n * b
  | 0, _ => by unfold sumN; simp
  | n + 1, h => by
    have h1 := sum_bound (n := n) fun i hi => h i (by omega)
    have h2 := h n (by omega)
    unfold sumN
    have h3 := Int.natAbs_add_le (sumN n f) (f n)
    rw [Nat.succ_mul]
    omega
theorem sg_abs (k : Nat) : (sg k).natAbs = 1 := by
  unfold sg
  split <;> rfl
theorem det_bound {M : Nat} : ∀ {n : Nat} {A : Mx}, (∀ i j, (A i j).natAbs ≤ M) → (det n A).natAbs ≤ bnd M n
  | 0, _, _ => by show (1 : Int).natAbs ≤ 1; decide
  | n + 1, A, h => by
    refine sum_bound (b := M * bnd M n) fun k _ => ?_
    rw [Int.natAbs_mul, Int.natAbs_mul, sg_abs, Nat.one_mul]
    exact Nat.mul_le_mul (h 0 k) (det_bound fun i j => h _ _)
theorem bm_bound {M : Nat} {A : Mx} (h : ∀ i j, (A i j).natAbs ≤ M) (k i j : Nat) : (bm A k i j).natAbs ≤ bnd M (k + 1) := det_bound fun r c => h _ _
/-! ### the steps of the program's reckoning -/
structure BI (n p : Nat) (A B : Mx) (b : Int) : Prop where
  le : p ≤ n
  ent : ∀ i j, p ≤ i → p ≤ j → i < n → j < n → B i j = bm A p i j
  byE : b = det p A
  nz : ∀ t, t ≤ p → det t A ≠ 0
theorem det_one (A : Mx) : det 1 A = A 0 0 := by
  show 0 + sg 0 * A 0 0 * 1 = A 0 0
  rw [show sg 0 = 1 from rfl, Int.one_mul, Int.mul_one, Int.zero_add]
theorem BI.start (n : Nat) (A : Mx) : BI n 0 A A 1 where
  le := Nat.zero_le _
  ent := fun i j _ _ _ _ => by
    unfold bm
    rw [det_one]
    rfl
  byE := rfl
  nz := fun t ht => by
    have : t = 0 := by omega
    subst this
    show (1 : Int) ≠ 0
    decide
theorem BI.swp {n p q : Nat} {A B : Mx} {b : Int} (h : BI n p A B b) (h1 : p < q) (h2 : q < n) : BI n p (swp A p q) (swp B p q) b ∧ det n (swp A p q) = -det n A := by
  have hd : ∀ t, t ≤ p → det t (BX.swp A p q) = det t A := fun t ht => det_congr fun i j hi hj => by
    unfold BX.swp
    rw [if_neg (by omega), if_neg (by omega)]
  refine ⟨⟨h.le, fun i j hi hj hin hjn => ?_, by rw [hd p (Nat.le_refl _)]; exact h.byE, fun t ht => by rw [hd t ht]; exact h.nz t ht⟩, ?_⟩
  · have e : bm (BX.swp A p q) p i j = bm A p (if i = p then q else if i = q then p else i) j := by
      unfold bm
      refine det_congr fun r c hr hc => ?_
      unfold bord BX.swp
      by_cases c1 : r < p
      · rw [if_pos c1, if_pos c1, if_neg (by omega), if_neg (by omega)]
      · rw [if_neg c1, if_neg c1]
    rw [e]
    show B (if i = p then q else if i = q then p else i) j = _
    refine h.ent _ j ?_ hj ?_ hjn <;> split <;> (try split) <;> omega
  · obtain ⟨d, rfl⟩ : ∃ d, q = p + d + 1 := ⟨q - p - 1, by omega⟩
    exact det_swp d p h2
def brow (p : Nat) (b : Int) (B : Mx) : Mx := fun i j => if p < i ∧ p < j then (B i j * B p p - B i p * B p j).fdiv b else B i j
theorem BI.step {n p : Nat} {A B : Mx} {b : Int} (h : BI n p A B b) (hn : p < n) (hp : B p p ≠ 0) : BI n (p + 1) A (brow p b B) (B p p) := by
  have e0 : B p p = det (p + 1) A := by
    rw [h.ent p p (Nat.le_refl _) (Nat.le_refl _) hn hn, bm_kk]
  refine ⟨hn, fun i j hi hj hin hjn => ?_, e0, fun t ht => ?_⟩
  · unfold brow
    rw [if_pos ⟨by omega, by omega⟩, h.ent i j (by omega) (by omega) hin hjn, h.ent p p (Nat.le_refl _) (Nat.le_refl _) hn hn, h.ent i p (by omega) (Nat.le_refl _) hin hn, h.ent p j (Nat.le_refl _) (by omega) hn hjn, h.byE]
    have := bord_step (A := A) h.nz (i := i) (j := j) (by omega) (by omega)
    rw [Int.mul_comm (bm A p i j), Int.mul_comm (bm A p i p), this]
    exact Int.mul_fdiv_cancel_left _ (h.nz p (Nat.le_refl _))
  · by_cases c : t ≤ p
    · exact h.nz t c
    · have : t = p + 1 := by omega
      subst this
      rw [← e0]
      exact hp
theorem BI.zero {n p : Nat} {A B : Mx} {b : Int} (h : BI n p A B b) (hn : p < n) (hz : ∀ i, p ≤ i → i < n → B i p = 0) : det n A = 0 := by
  have hs := sylvester p n A hn h.nz
  obtain ⟨m, hm⟩ : ∃ m, n - p = m + 1 := ⟨n - p - 1, by omega⟩
  have e : det (n - p) (blk A p) = 0 := by
    rw [hm]
    refine det_col0 fun i hi => ?_
    unfold blk
    rw [Nat.add_zero, ← h.ent (p + i) p (by omega) (Nat.le_refl _) (by omega) hn]
    exact hz _ (by omega) (by omega)
  rw [e] at hs
  have := Int.mul_eq_zero.mp hs.symm
  rcases this with z | z
  · exact absurd z (pow_ne (h.nz p (Nat.le_refl _)) _)
  · exact z
theorem swp_comm (A : Mx) (p q : Nat) : swp A p q = swp A q p := by
  funext r s
  unfold swp
  congr 1
  split <;> split <;> omega
theorem det_swp' {n p q : Nat} {A : Mx} (hp : p < n) (hq : q < n) (hne : p ≠ q) : det n (swp A p q) = -det n A := by
  rcases Nat.lt_or_gt_of_ne hne with l | l
  · obtain ⟨d, rfl⟩ : ∃ d, q = p + d + 1 := ⟨q - p - 1, by omega⟩
    exact det_swp d p hq
  · obtain ⟨d, rfl⟩ : ∃ d, p = q + d + 1 := ⟨p - q - 1, by omega⟩
    rw [swp_comm]
    exact det_swp d q hp
/-- the box of a row's sum with another one's multiple -/
theorem det_addrow {n p q : Nat} {A : Mx} {c : Int} (hp : p < n) (hq : q < n) (hne : p ≠ q) : det n (sr A p (fun j => A p j + c * A q j)) = det n A := by
  have h := det_lin (c := 1) (d := c) (A := A) (u := A p) (v := A q) hp
  have e : sr A p (fun j => 1 * A p j + c * A q j) = sr A p (fun j => A p j + c * A q j) := by
    funext r s
    unfold sr
    split
    · show 1 * A p s + c * A q s = A p s + c * A q s
      rw [Int.one_mul]
    · rfl
  rw [e, rw_self, Int.one_mul] at h
  rw [h]
  have z : det n (sr A p (A q)) = 0 := by
    have hs : BX.swp (sr A p (A q)) p q = sr A p (A q) := by
      funext r s
      unfold BX.swp sr
      by_cases c1 : r = p
      · subst c1
        simp [hne, Ne.symm hne]
      · by_cases c2 : r = q
        · subst c2
          simp [c1]
        · simp [c1, c2]
    have hn := det_swp' (A := sr A p (A q)) hp hq hne
    rw [hs] at hn
    omega
  rw [z, Int.mul_zero, Int.add_zero]
def prodN : Nat → (Nat → Int) → Int
  | 0, _ => 1
  | n + 1, f => prodN n f * f n
theorem prod_head {f : Nat → Int} : ∀ n : Nat, prodN (n + 1) f = f 0 * prodN n (fun i => f (i + 1))
  | 0 => by show 1 * f 0 = f 0 * 1; rw [Int.one_mul, Int.mul_one]
  | n + 1 => by
    show prodN (n + 1) f * f (n + 1) = f 0 * (prodN n (fun i => f (i + 1)) * f (n + 1))
    rw [prod_head n, Int.mul_assoc]
/-- nothing below the diagonal -/
theorem det_tri : ∀ {n : Nat} {A : Mx}, (∀ i j, j < i → i < n → A i j = 0) → det n A = prodN n (fun i => A i i)
  | 0, _, _ => rfl
  | n + 1, A, h => by
    rw [prod_head]
    show sumN (n + 1) (fun k => sg k * A 0 k * det n (minor A k)) = _
    rw [sum_head]
    have z : sumN n (fun k => sg (k + 1) * A 0 (k + 1) * det n (minor A (k + 1))) = 0 := sum_zero fun k hk => by
      obtain ⟨m, rfl⟩ : ∃ m, n = m + 1 := ⟨n - 1, by omega⟩
      have : det (m + 1) (minor A (k + 1)) = 0 := det_col0 fun i hi => by
        unfold minor skip
        rw [if_pos (by omega)]
        exact h (i + 1) 0 (by omega) (by omega)
      rw [this, Int.mul_zero]
    rw [z, Int.add_zero, show sg 0 = 1 from rfl, Int.one_mul]
    congr 1
    rw [det_tri (n := n) (A := minor A 0) fun i j hj hi => by
      unfold minor skip
      rw [if_neg (by omega)]
      exact h _ _ (by omega) (by omega)]
    rfl
end BX
/-! boxes: what is linear in each row and turned by each exchange is the worth, up to a factor -/
namespace BX
structure AM (n : Nat) (F : Mx → Int) : Prop where
  cg : ∀ A B : Mx, (∀ i j, i < n → j < n → A i j = B i j) → F A = F B
  lin : ∀ (A : Mx) (i : Nat) (c d : Int) (u v : Nat → Int), i < n → F (sr A i (fun j => c * u j + d * v j)) = c * F (sr A i u) + d * F (sr A i v)
  sw : ∀ (A : Mx) (i : Nat), i + 1 < n → F (sw A i) = -F A
section
variable {n : Nat} {F : Mx → Int}
theorem AM.alike (h : AM n F) : ∀ (i : Nat) {A : Mx}, i + 1 < n → (∀ j, j < n → A 0 j = A (i + 1) j) → F A = 0
  | 0, A, hi, e => by
    have h1 := h.sw A 0 hi
    have h2 : F (BX.sw A 0) = F A := h.cg _ _ fun r c hr hc => by
      unfold BX.sw
      by_cases z : r = 0
      · rw [if_pos z, z]; exact (e c hc).symm
      · rw [if_neg z]
        by_cases z2 : r = 0 + 1
        · rw [if_pos z2, z2]; exact e c hc
        · rw [if_neg z2]
    omega
  | i + 1, A, hi, e => by
    have h1 := h.sw A (i + 1) hi
    have h2 := h.alike i (A := BX.sw A (i + 1)) (by omega) fun j hj => by
      unfold BX.sw
      rw [if_neg (by omega), if_neg (by omega), if_pos rfl]
      exact e j hj
    omega
theorem AM.swp (h : AM n F) : ∀ (d p : Nat) {A : Mx}, p + d + 1 < n → F (swp A p (p + d + 1)) = -F A
  | 0, p, A, hp => by
    have : BX.swp A p (p + 0 + 1) = BX.sw A p := rfl
    rw [this]
    exact h.sw A p hp
  | d + 1, p, A, hp => by
    have e : BX.swp A p (p + (d + 1) + 1) = BX.sw (BX.swp (BX.sw A (p + d + 1)) p (p + d + 1)) (p + d + 1) := by
      funext r c
      simp only [BX.swp, BX.sw]
      congr 1
      (repeat' split) <;> omega
    rw [e, h.sw _ _ (by omega), h.swp d p (by omega), h.sw _ _ (by omega)]
    omega
theorem AM.zero (h : AM n F) {A : Mx} {i : Nat} (hi : i < n) : F (sr A i fun _ => 0) = 0 := by
  have := h.lin A i 0 0 (fun _ => 0) (fun _ => 0) hi
  have e : (fun j : Nat => (0 : Int) * (fun _ : Nat => (0 : Int)) j + 0 * (fun _ : Nat => (0 : Int)) j) = fun _ => 0 := by
    funext j
    simp
  rw [e] at this
  rw [this]
  omega
/-- a row as a sum -/
theorem AM.sum (h : AM n F) {A : Mx} {i : Nat} (hi : i < n) {w : Nat → Int} {u : Nat → Nat → Int} : ∀ m : Nat, F (sr A i fun j => sumN m fun k => w k * u k j) = sumN m fun k => w k * F (sr A i (u k))
  | 0 => h.zero hi
  | m + 1 => by
    have h1 := h.lin A i 1 (w m) (fun j => sumN m fun k => w k * u k j) (u m) hi
    have e : (fun j => 1 * (fun j => sumN m fun k => w k * u k j) j + w m * u m j) = fun j => sumN (m + 1) fun k => w k * u k j := by
      funext j
      show 1 * (sumN m fun k => w k * u k j) + w m * u m j = (sumN m fun k => w k * u k j) + w m * u m j
      rw [Int.one_mul]
    rw [e] at h1
    rw [h1, h.sum hi m, Int.one_mul]
    rfl
/-- a multiple of the first row is added to another one -/
theorem AM.add0 (h : AM n F) {A : Mx} {i : Nat} (hi : i + 1 < n) (c : Int) : F (sr A (i + 1) (fun j => A (i + 1) j + c * A 0 j)) = F A := by
  have h1 := h.lin A (i + 1) 1 c (A (i + 1)) (A 0) hi
  have e : (fun j => 1 * A (i + 1) j + c * A 0 j) = fun j => A (i + 1) j + c * A 0 j := by
    funext j
    rw [Int.one_mul]
  rw [e, rw_self, Int.one_mul] at h1
  rw [h1, h.alike i (A := sr A (i + 1) (A 0)) hi (fun j _ => by
    unfold sr
    rw [if_neg (by omega), if_pos rfl]), Int.mul_zero, Int.add_zero]
end
def eK (k : Nat) : Nat → Int := fun j => if j = k then 1 else 0
def unskip (k j : Nat) : Nat := if j < k then j else j - 1
def emb (k : Nat) (M : Mx) : Mx := fun i j => match i with
  | 0 => eK k j
  | i + 1 => if j = k then 0 else M i (unskip k j)
def idM : Mx := fun i j => if i = j then 1 else 0
theorem sum_one {f : Nat → Int} {k : Nat} : ∀ n : Nat, sumN n (fun i => f i * (if k = i then 1 else 0)) = if k < n then f k else 0
  | 0 => rfl
  | n + 1 => by
    unfold sumN
    rw [sum_one n]
    dsimp only
    by_cases c : k < n
    · rw [if_pos c, if_neg (show ¬ k = n by omega), if_pos (show k < n + 1 by omega), Int.mul_zero, Int.add_zero]
    · by_cases c2 : k = n
      · subst c2
        rw [if_neg c, if_pos rfl, if_pos (by omega), Int.mul_one, Int.zero_add]
      · rw [if_neg c, if_neg c2, if_neg (by omega), Int.mul_zero]
        rfl
theorem AM.row0 {n : Nat} {F : Mx → Int} (h : AM (n + 1) F) (A : Mx) : F A = sumN (n + 1) fun k => A 0 k * F (sr A 0 (eK k)) := by
  rw [← h.sum (A := A) (i := 0) (by omega) (w := A 0) (u := eK) (n + 1)]
  refine h.cg _ _ fun i j _ hj => ?_
  unfold sr
  split
  · rename_i e
    show A i j = sumN (n + 1) fun k => A 0 k * eK k j
    have := sum_one (f := A 0) (k := j) (n + 1)
    unfold eK
    rw [this, if_pos hj, e]
  · rfl
theorem AM.elim {n : Nat} {F : Mx → Int} (h : AM (n + 1) F) (A : Mx) {k : Nat} (hk : k < n + 1) : F (sr A 0 (eK k)) = F (emb k (minor A k)) := by
  have key : ∀ t, t ≤ n → F (fun i j => if i = 0 then eK k j else if i < t + 1 ∧ j = k then 0 else A i j) = F (sr A 0 (eK k)) := by
    intro t
    induction t with
    | zero =>
      intro _
      refine h.cg _ _ fun i j _ _ => ?_
      unfold sr
      by_cases c : i = 0
      · rw [if_pos c, if_pos c]
      · rw [if_neg c, if_neg c, if_neg (by omega)]
    | succ t ih =>
      intro ht
      rw [← ih (by omega), ← h.add0 (A := fun i j => if i = 0 then eK k j else if i < t + 1 ∧ j = k then 0 else A i j) (i := t) (by omega) (-A (t + 1) k)]
      refine h.cg _ _ fun i j _ _ => ?_
      unfold sr
      dsimp only
      by_cases c : i = 0
      · rw [if_pos c, if_neg (by omega), if_pos c]
      · rw [if_neg c]
        by_cases c2 : i = t + 1
        · subst c2
          rw [if_pos rfl]
          show (if t + 1 < t + 1 + 1 ∧ j = k then 0 else A (t + 1) j) = (if t + 1 = 0 then eK k j else if t + 1 < t + 1 ∧ j = k then 0 else A (t + 1) j) + -A (t + 1) k * (if 0 = 0 then eK k j else _)
          rw [if_neg (show ¬ t + 1 = 0 by omega), if_neg (show ¬ (t + 1 < t + 1 ∧ j = k) by omega), if_pos rfl]
          unfold eK
          by_cases c3 : j = k
          · subst c3
            rw [if_pos ⟨by omega, rfl⟩, if_pos rfl, Int.mul_one]
            omega
          · rw [if_neg (by omega), if_neg c3, Int.mul_zero, Int.add_zero]
        · rw [if_neg c2, if_neg c]
          by_cases c3 : i < t + 1 ∧ j = k
          · rw [if_pos c3, if_pos ⟨by omega, c3.2⟩]
          · rw [if_neg c3, if_neg (by omega)]
  rw [← key n (Nat.le_refl _)]
  refine h.cg _ _ fun i j hi hj => ?_
  cases i with
  | zero => rfl
  | succ i =>
    show (if i + 1 = 0 then eK k j else if i + 1 < n + 1 ∧ j = k then 0 else A (i + 1) j) = if j = k then 0 else minor A k i (unskip k j)
    rw [if_neg (by omega)]
    by_cases c : j = k
    · rw [if_pos ⟨hi, c⟩, if_pos c]
    · rw [if_neg (by omega), if_neg c]
      unfold minor skip unskip
      congr 1
      (repeat' split) <;> omega
theorem AM.emb {n : Nat} {F : Mx → Int} (h : AM (n + 1) F) {k : Nat} (hk : k < n + 1) : AM n (fun M => F (BX.emb k M)) where
  cg := fun A B e => h.cg _ _ fun i j hi hj => by
    cases i with
    | zero => rfl
    | succ i =>
      show (if j = k then 0 else A i (unskip k j)) = if j = k then 0 else B i (unskip k j)
      by_cases c : j = k
      · rw [if_pos c, if_pos c]
      · rw [if_neg c, if_neg c, e i _ (by omega) (by unfold unskip; split <;> omega)]
  lin := fun A i c d u v hi => by
    have e : ∀ w : Nat → Int, BX.emb k (sr A i w) = sr (BX.emb k A) (i + 1) (fun j => if j = k then 0 else w (unskip k j)) := fun w => by
      funext r s
      cases r with
      | zero => rfl
      | succ r =>
        show (if s = k then 0 else sr A i w r (unskip k s)) = if r + 1 = i + 1 then (if s = k then 0 else w (unskip k s)) else (if s = k then 0 else A r (unskip k s))
        unfold sr
        (repeat' split) <;> first | rfl | omega | (simp_all <;> omega)
    show F (BX.emb k (sr A i _)) = c * F (BX.emb k (sr A i u)) + d * F (BX.emb k (sr A i v))
    rw [e, e, e, ← h.lin (BX.emb k A) (i + 1) c d _ _ (by omega)]
    congr 2
    funext j
    by_cases c1 : j = k
    · rw [if_pos c1, if_pos c1, if_pos c1]
      omega
    · rw [if_neg c1, if_neg c1, if_neg c1]
  sw := fun A i hi => by
    have e : BX.emb k (BX.sw A i) = BX.sw (BX.emb k A) (i + 1) := by
      funext r s
      cases r with
      | zero =>
        unfold BX.sw
        rw [if_neg (by omega), if_neg (by omega)]
        rfl
      | succ r =>
        show (if s = k then 0 else A (if r = i then i + 1 else if r = i + 1 then i else r) (unskip k s)) = BX.emb k A (if r + 1 = i + 1 then i + 1 + 1 else if r + 1 = i + 1 + 1 then i + 1 else r + 1) s
        have e1 : (if r + 1 = i + 1 then i + 1 + 1 else if r + 1 = i + 1 + 1 then i + 1 else r + 1) = (if r = i then i + 1 else if r = i + 1 then i else r) + 1 := by
          (repeat' split) <;> omega
        rw [e1]
        rfl
    show F (BX.emb k (BX.sw A i)) = -F (BX.emb k A)
    rw [e, h.sw _ _ (by omega)]
theorem AM.unit {n : Nat} {F : Mx → Int} (h : AM (n + 1) F) : ∀ k, k < n + 1 → F (BX.emb k idM) = sg k * F idM
  | 0, _ => by
    rw [show sg 0 = 1 from rfl, Int.one_mul]
    refine h.cg _ _ fun i j hi hj => ?_
    cases i with
    | zero =>
      show (if j = 0 then 1 else 0) = if 0 = j then 1 else 0
      by_cases c : j = 0
      · rw [if_pos c, if_pos c.symm]
      · rw [if_neg c, if_neg (fun z => c z.symm)]
    | succ i =>
      show (if j = 0 then 0 else if i = unskip 0 j then 1 else 0) = if i + 1 = j then 1 else 0
      unfold unskip
      (repeat' split) <;> first | rfl | omega | (simp_all <;> omega)
  | k + 1, hk => by
    have h1 := h.unit k (by omega)
    have h2 := h.swp (A := BX.emb k idM) k 0 (by omega)
    have e : F (BX.emb (k + 1) idM) = F (BX.swp (BX.emb k idM) 0 (0 + k + 1)) := h.cg _ _ fun i j hi hj => by
      rw [Nat.zero_add]
      unfold BX.swp
      cases i with
      | zero =>
        rw [if_pos rfl]
        show (if j = k + 1 then 1 else 0) = if j = k then 0 else if k = unskip k j then 1 else 0
        unfold unskip
        (repeat' split) <;> first | rfl | omega | (simp_all <;> omega)
      | succ i =>
        rw [if_neg (by omega)]
        by_cases c0 : i + 1 = k + 1
        · rw [if_pos c0]
          have : i = k := by omega
          subst this
          show (if j = i + 1 then 0 else if i = unskip (i + 1) j then 1 else 0) = if j = i then 1 else 0
          unfold unskip
          (repeat' split) <;> first | rfl | omega | (simp_all <;> omega)
        · rw [if_neg c0]
          show (if j = k + 1 then 0 else if i = unskip (k + 1) j then 1 else 0) = if j = k then 0 else if i = unskip k j then 1 else 0
          unfold unskip
          (repeat' split) <;> first | rfl | omega | (simp_all <;> omega)
    rw [e, h2, h1, sg_succ, Int.neg_mul]
theorem AM.is : ∀ (n : Nat) {F : Mx → Int}, AM n F → ∀ A, F A = det n A * F idM
  | 0, F, h, A => by
    rw [show det 0 A = 1 from rfl, Int.one_mul]
    exact h.cg _ _ fun i j hi _ => absurd hi (Nat.not_lt_zero _)
  | n + 1, F, h, A => by
    rw [h.row0 A]
    have e : (fun k => A 0 k * F (sr A 0 (eK k))) = fun k => A 0 k * F (sr A 0 (eK k)) := rfl
    have e2 : sumN (n + 1) (fun k => A 0 k * F (sr A 0 (eK k))) = sumN (n + 1) (fun k => F idM * (sg k * A 0 k * det n (minor A k))) := sum_congr fun k hk => by
      rw [h.elim A hk, AM.is n (h.emb hk) (minor A k), h.unit k hk]
      generalize A 0 k = x
      generalize det n (minor A k) = y
      generalize sg k = z
      generalize F idM = w
      rw [Int.mul_comm w, Int.mul_assoc z, Int.mul_assoc z, Int.mul_assoc x, Int.mul_left_comm z x, Int.mul_left_comm z y]
    rw [e2, sum_mul, Int.mul_comm]
    rfl
/-! ### the worth of a product -/
def mulX (n : Nat) (A B : Mx) : Mx := fun i j => sumN n fun k => A i k * B k j
theorem am_mul (n : Nat) (B : Mx) : AM n fun A => det n (mulX n A B) where
  cg := fun A A' e => det_congr fun i j hi _ => sum_congr fun k hk => by rw [e i k hi hk]
  lin := fun A i c d u v hi => by
    have e : ∀ w : Nat → Int, mulX n (sr A i w) B = sr (mulX n A B) i (fun j => sumN n fun k => w k * B k j) := fun w => by
      funext r s
      unfold mulX sr
      by_cases c1 : r = i
      · rw [if_pos c1]
        exact sum_congr fun k _ => by rw [if_pos c1]
      · rw [if_neg c1]
        exact sum_congr fun k _ => by rw [if_neg c1]
    show det n (mulX n (sr A i _) B) = c * det n (mulX n (sr A i u) B) + d * det n (mulX n (sr A i v) B)
    rw [e, e, e, ← det_lin hi]
    congr 2
    funext j
    rw [← sum_mul, ← sum_mul, ← sum_add]
    exact sum_congr fun k _ => by rw [Int.add_mul, Int.mul_assoc, Int.mul_assoc]
  sw := fun A i hi => by
    show det n (mulX n (BX.sw A i) B) = -det n (mulX n A B)
    rw [← det_sw hi]
    rfl
theorem det_id (n : Nat) : det n idM = 1 := by
  rw [det_tri fun i j hij _ => by unfold idM; rw [if_neg (by omega)]]
  have : ∀ n, prodN n (fun i => idM i i) = 1 := by
    intro n
    induction n with
    | zero => rfl
    | succ n ih =>
      unfold prodN
      rw [ih]
      show 1 * idM n n = 1
      unfold idM
      rw [if_pos rfl]
      rfl
  exact this n
theorem det_mul (n : Nat) (A B : Mx) : det n (mulX n A B) = det n A * det n B := by
  rw [AM.is n (am_mul n B) A]
  congr 1
  refine det_congr fun i j hi _ => ?_
  unfold mulX idM
  have := sum_one (f := fun k => B k j) (k := i) n
  rw [if_pos hi] at this
  rw [← this]
  exact sum_congr fun k _ => Int.mul_comm _ _
/-! ### rows and columns exchanged -/
def tr (A : Mx) : Mx := fun i j => A j i
def minorR (A : Mx) (i : Nat) : Mx := fun r c => A (skip i r) (c + 1)
theorem det_tr_succ (n : Nat) (A : Mx) : det (n + 1) (tr A) = sumN (n + 1) fun i => sg i * A i 0 * det n (tr (minorR A i)) := rfl
theorem sum_swap {f : Nat → Int} {p : Nat} : ∀ n : Nat, p + 1 < n → sumN n (fun i => f (if i = p then p + 1 else if i = p + 1 then p else i)) = sumN n f
  | 0, h => by omega
  | n + 1, h => by
    by_cases c : p + 1 < n
    · unfold sumN
      rw [sum_swap n c]
      dsimp only
      rw [if_neg (show ¬ n = p by omega), if_neg (show ¬ n = p + 1 by omega)]
    · have : n = p + 1 := by omega
      subst this
      unfold sumN
      unfold sumN
      dsimp only
      rw [if_neg (show ¬ p + 1 = p by omega), if_pos rfl, if_pos rfl]
      have e : sumN p (fun i => f (if i = p then p + 1 else if i = p + 1 then p else i)) = sumN p f := sum_congr fun i hi => by
        rw [if_neg (by omega), if_neg (by omega)]
      rw [e]
      omega
theorem am_tr : ∀ n : Nat, AM n fun A => det n (tr A)
  | 0 => ⟨fun _ _ _ => rfl, fun _ _ _ _ _ _ h => absurd h (Nat.not_lt_zero _), fun _ _ h => absurd h (Nat.not_lt_zero _)⟩
  | n + 1 => by
    have ih := am_tr n
    refine ⟨fun A B e => det_congr fun i j hi hj => e j i hj hi, fun A r c d u v hr => ?_, fun A p hp => ?_⟩
    · show det (n + 1) (tr (sr A r _)) = c * det (n + 1) (tr (sr A r u)) + d * det (n + 1) (tr (sr A r v))
      rw [det_tr_succ, det_tr_succ, det_tr_succ, ← sum_mul, ← sum_mul, ← sum_add]
      refine sum_congr fun i hi => ?_
      by_cases c1 : i = r
      · subst c1
        have e : ∀ w : Nat → Int, minorR (sr A i w) i = minorR A i := fun w => by
          funext x y
          unfold minorR sr skip
          rw [if_neg (by split <;> omega)]
        have e2 : ∀ w : Nat → Int, sr A i w i 0 = w 0 := fun w => by unfold sr; rw [if_pos rfl]
        rw [e, e, e, e2, e2, e2, Int.mul_add, Int.add_mul, Int.mul_left_comm (sg i) c, Int.mul_left_comm (sg i) d, Int.mul_assoc c, Int.mul_assoc d]
      · have e : ∀ w : Nat → Int, minorR (sr A r w) i = sr (minorR A i) (if r < i then r else r - 1) (fun y => w (y + 1)) := fun w => by
          funext x y
          unfold minorR sr skip
          by_cases c2 : x = (if r < i then r else r - 1)
          · rw [if_pos c2, if_pos (by (repeat' split at c2) <;> split <;> omega)]
          · rw [if_neg c2, if_neg (by (repeat' split at c2) <;> split <;> omega)]
        have e2 : ∀ w : Nat → Int, sr A r w i 0 = A i 0 := fun w => by unfold sr; rw [if_neg c1]
        have h1 := ih.lin (minorR A i) (if r < i then r else r - 1) c d (fun y => u (y + 1)) (fun y => v (y + 1)) (by split <;> omega)
        have h1' : det n (tr (sr (minorR A i) (if r < i then r else r - 1) (fun y => c * u (y + 1) + d * v (y + 1)))) = c * det n (tr (sr (minorR A i) (if r < i then r else r - 1) fun y => u (y + 1))) + d * det n (tr (sr (minorR A i) (if r < i then r else r - 1) fun y => v (y + 1))) := h1
        rw [e, e, e, e2, e2, e2, h1', Int.mul_add, Int.mul_left_comm _ c, Int.mul_left_comm _ d]
    · show det (n + 1) (tr (BX.sw A p)) = -det (n + 1) (tr A)
      rw [det_tr_succ, det_tr_succ]
      have e : sumN (n + 1) (fun i => sg i * BX.sw A p i 0 * det n (tr (minorR (BX.sw A p) i))) = sumN (n + 1) (fun i => (-1) * (fun i => sg i * A i 0 * det n (tr (minorR A i))) (if i = p then p + 1 else if i = p + 1 then p else i)) := sum_congr fun i hi => by
        show sg i * A (if i = p then p + 1 else if i = p + 1 then p else i) 0 * det n (tr (minorR (BX.sw A p) i)) = -1 * (sg (if i = p then p + 1 else if i = p + 1 then p else i) * A (if i = p then p + 1 else if i = p + 1 then p else i) 0 * det n (tr (minorR A (if i = p then p + 1 else if i = p + 1 then p else i))))
        by_cases c1 : i = p
        · subst c1
          rw [if_pos rfl, sg_succ]
          have e3 : det n (tr (minorR (BX.sw A i) i)) = det n (tr (minorR A (i + 1))) := by
            congr 2
            funext x y
            unfold minorR BX.sw skip
            congr 1
            (repeat' split) <;> omega
          rw [e3, Int.neg_mul, Int.neg_mul, Int.neg_mul, Int.one_mul, Int.neg_neg]
        · by_cases c2 : i = p + 1
          · subst c2
            rw [if_neg c1, if_pos rfl, sg_succ]
            have e3 : det n (tr (minorR (BX.sw A p) (p + 1))) = det n (tr (minorR A p)) := by
              congr 2
              funext x y
              unfold minorR BX.sw skip
              congr 1
              (repeat' split) <;> omega
            rw [e3, Int.neg_mul, Int.neg_mul, Int.neg_mul, Int.one_mul]
          · rw [if_neg c1, if_neg c2]
            have e3 : minorR (BX.sw A p) i = BX.sw (minorR A i) (if p < i then p else p - 1) := by
              funext x y
              unfold minorR BX.sw skip
              congr 1
              (repeat' split) <;> omega
            have h1 := ih.sw (minorR A i) (if p < i then p else p - 1) (by split <;> omega)
            have h1' : det n (tr (BX.sw (minorR A i) (if p < i then p else p - 1))) = -det n (tr (minorR A i)) := h1
            rw [e3, h1', Int.mul_neg, Int.neg_mul, Int.one_mul]
      rw [e, sum_mul, sum_swap (f := fun i => sg i * A i 0 * det n (tr (minorR A i))) (n + 1) hp, Int.neg_mul, Int.one_mul]
theorem det_tr (n : Nat) (A : Mx) : det n (tr A) = det n A := by
  have h := AM.is n (am_tr n) A
  have e : det n (tr idM) = 1 := by
    rw [← det_id n]
    refine det_congr fun i j _ _ => ?_
    unfold tr idM
    by_cases c : i = j
    · rw [if_pos c, if_pos c.symm]
    · rw [if_neg c, if_neg (fun z => c z.symm)]
  rw [e, Int.mul_one] at h
  exact h
end BX
set_option maxHeartbeats 4000000
namespace DL
open PySem L2
def topS (i : Nat) : Stmt := PySem.Challenge.pw_signcleave_k05_whole_boxes_multiply.main.body.getD i (.Pass ⟨0, 0, 0, 0⟩)
abbrev s_sign_of : Stmt := topS 5
abbrev N_sign_of : List Str := ["number"]
theorem sc_sign_of : FnScope N_sign_of ["number"] (defScope s_sign_of) := ⟨rfl, rfl, rfl, by decide +kernel, rfl, by decide +kernel, by decide +kernel⟩
abbrev s_look_box : Stmt := topS 6
abbrev N_look_box : List Str := ["rows", "row"]
theorem sc_look_box : FnScope N_look_box ["rows"] (defScope s_look_box) := ⟨rfl, rfl, rfl, by decide +kernel, rfl, by decide +kernel, by decide +kernel⟩
abbrev s_led_row : Stmt := topS 7
abbrev N_led_row : List Str := ["here", "at", "to"]
theorem sc_led_row : FnScope N_led_row ["here", "at"] (defScope s_led_row) := ⟨rfl, rfl, rfl, by decide +kernel, rfl, by decide +kernel, by decide +kernel⟩
abbrev s_worth_of : Stmt := topS 8
abbrev N_worth_of : List Str := ["rows", "here", "row", "by", "turned", "at", "to", "low", "column", "over"]
theorem sc_worth_of : FnScope N_worth_of ["rows"] (defScope s_worth_of) := ⟨rfl, rfl, rfl, by decide +kernel, rfl, by decide +kernel, by decide +kernel⟩
abbrev s_box : Stmt := topS 9
abbrev N_box : List Str := ["rows"]
theorem sc_box : FnScope N_box ["rows"] (defScope s_box) := ⟨rfl, rfl, rfl, by decide +kernel, rfl, by decide +kernel, by decide +kernel⟩
abbrev s_box_sign : Stmt := topS 10
abbrev N_box_sign : List Str := ["rows"]
theorem sc_box_sign : FnScope N_box_sign ["rows"] (defScope s_box_sign) := ⟨rfl, rfl, rfl, by decide +kernel, rfl, by decide +kernel, by decide +kernel⟩
abbrev s__law_bag : Stmt := topS 12
abbrev N__law_bag : List Str := ["_law_script", "_law_salt", "_law_cell"]
theorem sc__law_bag : FnScope N__law_bag ["_law_script"] (defScope s__law_bag) := ⟨rfl, rfl, rfl, by decide +kernel, rfl, by decide +kernel, by decide +kernel⟩
abbrev s__law_pull : Stmt := topS 13
abbrev N__law_pull : List Str := ["_law_bag_here", "_law_many", "_law_cell", "_law_got", "_law_base", "_law_twice"]
theorem sc__law_pull : FnScope N__law_pull ["_law_bag_here", "_law_many"] (defScope s__law_pull) := ⟨rfl, rfl, rfl, by decide +kernel, rfl, by decide +kernel, by decide +kernel⟩
abbrev s__law_of : Stmt := topS 14
abbrev N__law_of : List Str := ["_law_bag_here", "_law_some"]
theorem sc__law_of : FnScope N__law_of ["_law_bag_here", "_law_some"] (defScope s__law_of) := ⟨rfl, rfl, rfl, by decide +kernel, rfl, by decide +kernel, by decide +kernel⟩
abbrev s__law_same : Stmt := topS 15
abbrev N__law_same : List Str := ["_law_found", "_law_due", "_law_k"]
theorem sc__law_same : FnScope N__law_same ["_law_found", "_law_due"] (defScope s__law_same) := ⟨rfl, rfl, rfl, by decide +kernel, rfl, by decide +kernel, by decide +kernel⟩
abbrev s__law_box_drawn : Stmt := topS 16
abbrev N__law_box_drawn : List Str := ["_law_bag_here", "_law_size", "_law_top", "_law_found", "_law_j", "_law_k", "_law_one"]
theorem sc__law_box_drawn : FnScope N__law_box_drawn ["_law_bag_here", "_law_size"] (defScope s__law_box_drawn) := ⟨rfl, rfl, rfl, by decide +kernel, rfl, by decide +kernel, by decide +kernel⟩
abbrev s_law : Stmt := topS 17
abbrev N_law : List Str := ["_law_script", "_law_bag_here", "_law_turn", "_law_size", "_law_one", "_law_other", "_law_k", "_law_row", "_law_cell", "_law_both", "_law_j", "_law_by", "_law_later", "_law_a", "_law_b"]
theorem sc_law : FnScope N_law ["_law_script"] (defScope s_law) := ⟨rfl, rfl, rfl, by decide +kernel, rfl, by decide +kernel, by decide +kernel⟩
abbrev sI_CleaveError : Stmt := inClass (topS 1) 0
theorem scI_CleaveError : FnScope ["self", "word"] ["self", "word"] (defScope sI_CleaveError) := ⟨rfl, rfl, rfl, by decide +kernel, rfl, by decide +kernel, by decide +kernel⟩
abbrev sI_BadBox : Stmt := inClass (topS 2) 0
theorem scI_BadBox : FnScope ["self"] ["self"] (defScope sI_BadBox) := ⟨rfl, rfl, rfl, by decide +kernel, rfl, by decide +kernel, by decide +kernel⟩
structure Tp (K : PySem.W.Frag) (mg : Str → Option Value) where
  f_sign_of : Addr
  fd_sign_of : FuncData
  F_sign_of : Fun K "sign_of" "sign_of" s_sign_of f_sign_of fd_sign_of
  g_sign_of : mg "sign_of" = some (.ref f_sign_of)
  b_sign_of : Binds K fd_sign_of ["number"] []
  f_look_box : Addr
  fd_look_box : FuncData
  F_look_box : Fun K "look_box" "look_box" s_look_box f_look_box fd_look_box
  g_look_box : mg "look_box" = some (.ref f_look_box)
  b_look_box : Binds K fd_look_box ["rows"] []
  f_led_row : Addr
  fd_led_row : FuncData
  F_led_row : Fun K "led_row" "led_row" s_led_row f_led_row fd_led_row
  g_led_row : mg "led_row" = some (.ref f_led_row)
  b_led_row : Binds K fd_led_row ["here", "at"] []
  f_worth_of : Addr
  fd_worth_of : FuncData
  F_worth_of : Fun K "worth_of" "worth_of" s_worth_of f_worth_of fd_worth_of
  g_worth_of : mg "worth_of" = some (.ref f_worth_of)
  b_worth_of : Binds K fd_worth_of ["rows"] []
  f_box : Addr
  fd_box : FuncData
  F_box : Fun K "box" "box" s_box f_box fd_box
  g_box : mg "box" = some (.ref f_box)
  b_box : Binds K fd_box ["rows"] []
  f_box_sign : Addr
  fd_box_sign : FuncData
  F_box_sign : Fun K "box_sign" "box_sign" s_box_sign f_box_sign fd_box_sign
  g_box_sign : mg "box_sign" = some (.ref f_box_sign)
  b_box_sign : Binds K fd_box_sign ["rows"] []
  f__law_bag : Addr
  fd__law_bag : FuncData
  F__law_bag : Fun K "_law_bag" "_law_bag" s__law_bag f__law_bag fd__law_bag
  g__law_bag : mg "_law_bag" = some (.ref f__law_bag)
  b__law_bag : Binds K fd__law_bag ["_law_script"] []
  f__law_pull : Addr
  fd__law_pull : FuncData
  F__law_pull : Fun K "_law_pull" "_law_pull" s__law_pull f__law_pull fd__law_pull
  g__law_pull : mg "_law_pull" = some (.ref f__law_pull)
  b__law_pull : Binds K fd__law_pull ["_law_bag_here", "_law_many"] []
  f__law_of : Addr
  fd__law_of : FuncData
  F__law_of : Fun K "_law_of" "_law_of" s__law_of f__law_of fd__law_of
  g__law_of : mg "_law_of" = some (.ref f__law_of)
  b__law_of : Binds K fd__law_of ["_law_bag_here", "_law_some"] []
  f__law_same : Addr
  fd__law_same : FuncData
  F__law_same : Fun K "_law_same" "_law_same" s__law_same f__law_same fd__law_same
  g__law_same : mg "_law_same" = some (.ref f__law_same)
  b__law_same : Binds K fd__law_same ["_law_found", "_law_due"] []
  f__law_box_drawn : Addr
  fd__law_box_drawn : FuncData
  F__law_box_drawn : Fun K "_law_box_drawn" "_law_box_drawn" s__law_box_drawn f__law_box_drawn fd__law_box_drawn
  g__law_box_drawn : mg "_law_box_drawn" = some (.ref f__law_box_drawn)
  b__law_box_drawn : Binds K fd__law_box_drawn ["_law_bag_here", "_law_size"] []
  f_law : Addr
  fd_law : FuncData
  F_law : Fun K "law" "law" s_law f_law fd_law
  g_law : mg "law" = some (.ref f_law)
  b_law : Binds K fd_law ["_law_script"] []
  m_all : mg "all" = none
  m_any : mg "any" = none
  m_bool : mg "bool" = none
  m_int : mg "int" = none
  m_isinstance : mg "isinstance" = none
  m_len : mg "len" = none
  m_list : mg "list" = none
  m_range : mg "range" = none
  m_str : mg "str" = none
  m_sum : mg "sum" = none
  m_tuple : mg "tuple" = none
  m_zip : mg "zip" = none
  t_MOST : Tok
  m_MOST : mg "MOST" = some (.int 7 t_MOST)
  r_MOST : RelV (V.int 7) (Value.int 7 t_MOST)
  d_MOST : ∀ cl : Cl, Dt K cl emp (V.int 7) (.int 7)
  C_CleaveError : Addr
  g_CleaveError : mg "CleaveError" = some (.ref C_CleaveError)
  C_BadBox : Addr
  g_BadBox : mg "BadBox" = some (.ref C_BadBox)
  i_CleaveError : Addr
  fdI_CleaveError : FuncData
  FD_CleaveError : FunD K "__init__" "CleaveError.__init__" (defArgs sI_CleaveError) (defBody sI_CleaveError) (defScope sI_CleaveError) [V.str "CleaveError"] [] i_CleaveError fdI_CleaveError
  rd_CleaveError : PySem.W.readsIn K C_CleaveError (.type "type") = true
  ga_CleaveError : PySem.W.specialIn K (.ref C_CleaveError) "__getattribute__" = some (some (.builtin "type.__getattribute__"))
  at_CleaveError : PySem.W.findCls K (.ref C_CleaveError) (.type "type") "__init__" = some (.val (.ref i_CleaveError))
  kp_CleaveError : PySem.W.keepIn K (.ref i_CleaveError) = true
  fI_BadBox : Addr
  fdI_BadBox : FuncData
  FI_BadBox : Fun K "__init__" "BadBox.__init__" sI_BadBox fI_BadBox fdI_BadBox
  xc_BadBox : Xc K C_BadBox
  iC_BadBox : PySem.W.findIn K (.ref C_BadBox) "__init__" = some (some (.ref fI_BadBox))
  tI_BadBox : PySem.W.typeIn K (.ref fI_BadBox) = some (.type "function")
  bI_BadBox : Binds K fdI_BadBox ["self"] []
  fd_BadBox_word : PySem.W.findIn K (.ref C_BadBox) "word" = some none
structure ClOk {K : PySem.W.Frag} {mg : Str → Option Value} (E : Tp K mg) (cl : Cl) : Prop where
  x_BadBox : cl "BadBox" = some E.C_BadBox
  tt : True
structure LamOk {K : PySem.W.Frag} {mg : Str → Option Value} (E : Tp K mg) (base : Heap) (w : World) : Prop where
  tt : True
section
variable {P : Program} {w : World} {K : PySem.W.Frag} {mg : Str → Option Value} {base : Heap} {cl : Cl}
theorem bd_CleaveError (E : Tp K mg) : Binds K E.fdI_CleaveError ["self", "word"] [] := by
  obtain ⟨ds, h1, h2⟩ := E.FD_CleaveError.binds1 (ps := ["self", "word"]) 2 1 (by simp) rfl (fun T kV doc pm an cdv ct us its h1 h2 => match us, its, h1, h2 with | [_, _], [_], _, _ => ⟨_, rfl, rfl⟩)
  cases h1
  exact h2
def bs_CleaveError (E : Tp K mg) : Bs P w K mg base "CleaveError" := ⟨E.C_CleaveError, E.i_CleaveError, .type "type", E.fdI_CleaveError, E.g_CleaveError, ⟨E.rd_CleaveError, E.ga_CleaveError⟩, E.at_CleaveError, E.kp_CleaveError, bd_CleaveError E, ci_ok E.FD_CleaveError scI_CleaveError (.inl rfl) (.inl rfl) (fun _ => rfl)⟩
theorem oi_BadBox (E : Tp K mg) : FnOk P w K mg base (L2.CX P w) 2 E.fI_BadBox E.fdI_BadBox ["self"] (spXI E.C_BadBox 0 fun _ => [("word", .str "BadBox")]) :=
  xi_ok0 (bs_CleaveError E) E.xc_BadBox E.FI_BadBox scI_BadBox (.inl rfl) (by decide) rfl (fun _ _ _ _ _ _ => rfl) (fun _ _ _ _ _ _ => ⟨_, rfl⟩) (fun _ _ _ _ _ _ => rfl)
def rs_BadBox (E : Tp K mg) (hcl : ClOk E cl) : Rs P w K mg base cl "BadBox" 0 (fun _ => [("word", .str "BadBox")]) := ⟨E.C_BadBox, E.fI_BadBox, E.fdI_BadBox, _, E.xc_BadBox.o, E.g_BadBox, E.iC_BadBox, E.tI_BadBox, E.bI_BadBox, oi_BadBox E, hcl.x_BadBox⟩
def den_sign_of : M Flow :=
  (retS (op2 subD (callD intD (argsM [(op2 gtD (varM 0) (constM (.int 0)))])) (callD intD (argsM [(op2 ltD (varM 0) (constM (.int 0)))]))))
def F_sign_of : FSem := callF 1 den_sign_of
theorem ok_sign_of (E : Tp K mg) (hcl : ClOk E cl) (hlam : LamOk E base w) : FnOk P w K mg base (L2.CX P w) 1 E.f_sign_of E.fd_sign_of ["number"] (spOf K cl 1 false F_sign_of) :=
  fun_okC (k := 0) (den := den_sign_of) (cv := cvOf []) E.F_sign_of sc_sign_of rfl rfl fun cdv hcd A outer s H vs Ex hr H0 F0 mu => by
  have tk := takes_of (X := cxOf (L2.CX P w) P w K mg base N_sign_of "sign_of" (defScope s_sign_of) E.f_sign_of cdv A outer s H Ex) rfl rfl rfl rfl
  have po := passes_of (X := cxOf (L2.CX P w) P w K mg base N_sign_of "sign_of" (defScope s_sign_of) E.f_sign_of cdv A outer s H Ex) rfl
  exact (ds_one (ds_ret (de_op op_sub sc_sub (de_callTy call_int1 sc_intc (by rfl) E.m_int (by decide +kernel) (da_cons (de_cmp op_gt sc_gt (de_var 0 rfl) de_int (nomark _)) da_nil)) (de_callTy call_int1 sc_intc (by rfl) E.m_int (by decide +kernel) (da_cons (de_cmp op_lt sc_lt (de_var 0 rfl) de_int (nomark _)) da_nil)))))
def den_look_box : M Flow :=
  (ifS (orM (boolM (op2 gtD (callD lenD (argsM [(varM 0)])) (constM (.int 7)))) (boolM (callD anyD (argsM [(compM [1] (seqIt (varM 0)) (nameG 1) (retM true) (op2 neD (callD lenD (argsM [(varF 1)])) (callD lenD (argsM [(varM 0)]))))])))) (raiseM "BadBox" (fun _ => [("word", .str "BadBox")]) (argsM [])) skipM)
def F_look_box : FSem := callF 2 den_look_box
theorem ok_look_box (E : Tp K mg) (hcl : ClOk E cl) (hlam : LamOk E base w) : FnOk P w K mg base (L2.CX P w) 4 E.f_look_box E.fd_look_box ["rows"] (spOf K cl 1 false F_look_box) :=
  fun_okC (k := 3) (den := den_look_box) (cv := cvOf [1]) E.F_look_box sc_look_box rfl rfl fun cdv hcd A outer s H vs Ex hr H0 F0 mu => by
  have tk := takes_of (X := cxOf (L2.CX P w) P w K mg base N_look_box "look_box" (defScope s_look_box) E.f_look_box cdv A outer s H Ex) rfl rfl rfl rfl
  have po := passes_of (X := cxOf (L2.CX P w) P w K mg base N_look_box "look_box" (defScope s_look_box) E.f_look_box cdv A outer s H Ex) rfl
  exact (ds_one (ds_if (PW.pt (dw_or (dt_cmp op_gt sc_gt (de_callB cr_lenD sc_len (by rfl) E.m_len PySem.boot_len (da_cons (de_var 0 rfl) da_nil)) (de_glob rfl E.m_MOST E.r_MOST (E.d_MOST _)) (nomark _)) (dw_or1 (dt_val (de_callB (cr_any rfl) sc_any (by rfl) E.m_any (by decide +kernel) (da_cons (de_comp (own := [("row", 1)]) rfl sc_look_box.nd (List.forall_mem_cons.mpr ⟨⟨rfl, rfl⟩, (fun _ h => nomatch h)⟩) (fun _ h => h) (quiet_name 1) (di_seq rfl (de_var 0 rfl)) (blkOk_by (N := N_look_box) (sc := defScope s_look_box) (by decide +kernel)) (fun _ _ _ _ _ => (dg_name (i := 1) rfl sc_look_box.nd rfl (by first | exact Or.inl rfl | exact Or.inr rfl))) (fun _ _ _ _ _ => dts_nil) (fun _ _ _ _ _ => (de_cmp (op_neD hr.units) sc_ne (de_callB cr_lenD sc_len (by rfl) E.m_len PySem.boot_len (da_cons (de_varF 1) da_nil)) (de_callB cr_lenD sc_len (by rfl) E.m_len PySem.boot_len (da_cons (de_var 0 rfl) da_nil)) (nomark _)))) da_nil)))))) (ds_one (ds_raise0 rfl (rs_BadBox E hcl) (flok0 "BadBox") rfl tk (hr.mono (by decide)) (by rfl))) ds_nil))
def den_led_row : M Flow :=
  (seqM (forM (range2 (varM 1) (callD lenD (argsM [(varM 0)]))) (nameG 2)
    (ifS (boolM (op2 neD (nestR 0 2 1) (constM (.int 0)))) (retX 2) skipM))
    (retS (constM .non)))
def F_led_row : FSem := callF 3 den_led_row
theorem ok_led_row (E : Tp K mg) (hcl : ClOk E cl) (hlam : LamOk E base w) : FnOk P w K mg base (L2.CX P w) 1 E.f_led_row E.fd_led_row ["here", "at"] (spOf K cl 2 true F_led_row) :=
  fun_okC (k := 0) (den := den_led_row) (cv := cvOf []) E.F_led_row sc_led_row rfl rfl fun cdv hcd A outer s H vs Ex hr H0 F0 mu => by
  have tk := takes_of (X := cxOf (L2.CX P w) P w K mg base N_led_row "led_row" (defScope s_led_row) E.f_led_row cdv A outer s H Ex) rfl rfl rfl rfl
  have po := passes_of (X := cxOf (L2.CX P w) P w K mg base N_led_row "led_row" (defScope s_led_row) E.f_led_row cdv A outer s H Ex) rfl
  exact (ds_cons (ds_for po rfl (quiet_name 2) (di_range2 (by rfl) E.m_range (de_var 1 rfl) (de_callB cr_lenD sc_len (by rfl) E.m_len PySem.boot_len (da_cons (de_var 0 rfl) da_nil))) (dg_name (i := 2) rfl sc_led_row.nd rfl (by first | exact Or.inl rfl | exact Or.inr rfl))
    (ds_one (ds_if (dt_cmp (op_neD hr.units) sc_ne (de_nestR 0 2 1 rfl rfl (by first | exact Or.inl rfl | exact Or.inr (Or.inl rfl) | exact Or.inr (Or.inr rfl)) rfl (by first | exact Or.inl rfl | exact Or.inr (Or.inl rfl) | exact Or.inr (Or.inr rfl)) rfl (by first | exact Or.inl rfl | exact Or.inr (Or.inl rfl) | exact Or.inr (Or.inr rfl))) de_int (nomark _)) (ds_one (ds_retX (de_var 2 rfl))) ds_nil)))
    (ds_one (ds_ret de_non)))
def den_worth_of : M Flow :=
  (seqM (setM 1 (compO [2] (seqIt (varM 0)) (nameG 2) (listM (varF 2))))
    (seqM (asgM (tupM (argsM [(constM (.int 1)), (constM (.int 1))])) (tupG [3, 4]))
    (seqM (forM (range1 (callD lenD (argsM [(varM 1)]))) (nameG 5)
    (seqM (setM 6 (callR F_led_row (argsM [(varM 1), (frozen (varM 5))])))
    (seqM (ifS (boolM (op2 isNonD (varM 6) (constM .non))) (retS (constM (.int 0))) skipM)
    (seqM (ifS (boolM (op2 neD (varM 6) (varM 5))) (seqM (swapS 1 5 6)
    (setM 4 (op2 subD (constM (.int 0)) (varM 4)))) skipM)
    (seqM (forM (range2 (addM (varM 5) (constM (.int 1))) (callD lenD (argsM [(varM 1)]))) (nameG 7)
    (forM (range2 (addM (varM 5) (constM (.int 1))) (callD lenD (argsM [(varM 1)]))) (nameG 8)
    (seqM (setM 9 (op2 subD (op2 mulBD (nestR 1 7 8) (nestR 1 5 5)) (op2 mulBD (nestR 1 7 5) (nestR 1 5 8))))
    (asgM (op2 divBD (varM 9) (varM 3)) (nestS 1 7 8)))))
    (setM 3 (nestR 1 5 5)))))))
    (retS (op2 mulBD (varM 4) (varM 3))))))
def F_worth_of : FSem := callF 10 den_worth_of
theorem ok_worth_of (E : Tp K mg) (hcl : ClOk E cl) (hlam : LamOk E base w) : FnOk P w K mg base (L2.CX P w) 2 E.f_worth_of E.fd_worth_of ["rows"] (spOf K cl 1 false F_worth_of) :=
  fun_okC (k := 1) (den := den_worth_of) (cv := cvOf [2]) E.F_worth_of sc_worth_of rfl rfl fun cdv hcd A outer s H vs Ex hr H0 F0 mu => by
  have tk := takes_of (X := cxOf (L2.CX P w) P w K mg base N_worth_of "worth_of" (defScope s_worth_of) E.f_worth_of cdv A outer s H Ex) rfl rfl rfl rfl
  have po := passes_of (X := cxOf (L2.CX P w) P w K mg base N_worth_of "worth_of" (defScope s_worth_of) E.f_worth_of cdv A outer s H Ex) rfl
  exact (ds_cons (ds_setCompO (i := 1) (own := [("row", 2)]) rfl rfl sc_worth_of.nd rfl rfl (sw_true rfl rfl rfl (by decide +kernel)) (List.forall_mem_cons.mpr ⟨⟨rfl, rfl⟩, (fun _ h => nomatch h)⟩) (fun _ h => h) (quiet_name 2) (di_seq rfl (de_var 0 rfl)) (blkOk_by (N := N_worth_of) (sc := defScope s_worth_of) (by decide +kernel)) (fun _ _ _ _ _ => (dg_name (i := 2) rfl sc_worth_of.nd rfl (by first | exact Or.inl rfl | exact Or.inr rfl))) (fun _ _ _ _ _ => dts_nil) (fun _ _ _ _ _ => (de_list rfl (by rfl) E.m_list (de_varF 2))))
    (ds_cons (ds_asg (quiet_tup [3, 4]) (de_tup (da_cons de_int (da_cons de_int da_nil))) (dg_tup [3, 4] rfl rfl (List.forall_mem_cons.mpr ⟨rfl, (List.forall_mem_cons.mpr ⟨rfl, (fun _ h => nomatch h)⟩)⟩) (pg_tup rfl (pgs_cons (pg_name (i := 3) sc_worth_of.nd rfl (by first | exact Or.inl rfl | exact Or.inr rfl)) (pgs_cons (pg_name (i := 4) sc_worth_of.nd rfl (by first | exact Or.inl rfl | exact Or.inr rfl)) pgs_nil)))))
    (ds_cons (ds_for po rfl (quiet_name 5) (di_range1 (by rfl) E.m_range (de_callB cr_lenD sc_len (by rfl) E.m_len PySem.boot_len (da_cons (de_var 1 rfl) da_nil))) (dg_name (i := 5) rfl sc_worth_of.nd rfl (by first | exact Or.inl rfl | exact Or.inr rfl))
    (ds_cons (ds_set (i := 6) sc_worth_of.nd rfl (by first | exact Or.inl rfl | exact Or.inr rfl) rfl (de_callR rfl tk (ok_led_row E hcl hlam) (hr.mono (by decide)) (by rfl) E.g_led_row E.F_led_row.kp E.b_led_row (da_cons (de_var 1 rfl) (da_cons (da_frz (de_var 5 rfl)) da_nil)) (fun _ _ _ q => argsM_len q)))
    (ds_cons (ds_if (dt_cmp op_isN sc_isN (de_var 6 rfl) de_non (nomark _)) (ds_one (ds_ret de_int)) ds_nil)
    (ds_cons (ds_if (dt_cmp (op_neD hr.units) sc_ne (de_var 6 rfl) (de_var 5 rfl) (nomark _)) (ds_cons (ds_swap 1 5 6 rfl rfl rfl (by first | exact Or.inl rfl | exact Or.inr (Or.inl rfl) | exact Or.inr (Or.inr rfl)) rfl (by first | exact Or.inl rfl | exact Or.inr (Or.inl rfl) | exact Or.inr (Or.inr rfl)) rfl (by first | exact Or.inl rfl | exact Or.inr (Or.inl rfl) | exact Or.inr (Or.inr rfl)))
    (ds_one (ds_set (i := 4) sc_worth_of.nd rfl (by first | exact Or.inl rfl | exact Or.inr rfl) rfl (de_op op_sub sc_sub de_int (de_var 4 rfl))))) ds_nil)
    (ds_cons (ds_for po rfl (quiet_name 7) (di_range2 (by rfl) E.m_range (de_add rfl (de_var 5 rfl) de_int) (de_callB cr_lenD sc_len (by rfl) E.m_len PySem.boot_len (da_cons (de_var 1 rfl) da_nil))) (dg_name (i := 7) rfl sc_worth_of.nd rfl (by first | exact Or.inl rfl | exact Or.inr rfl))
    (ds_one (ds_for po rfl (quiet_name 8) (di_range2 (by rfl) E.m_range (de_add rfl (de_var 5 rfl) de_int) (de_callB cr_lenD sc_len (by rfl) E.m_len PySem.boot_len (da_cons (de_var 1 rfl) da_nil))) (dg_name (i := 8) rfl sc_worth_of.nd rfl (by first | exact Or.inl rfl | exact Or.inr rfl))
    (ds_cons (ds_set (i := 9) sc_worth_of.nd rfl (by first | exact Or.inl rfl | exact Or.inr rfl) rfl (de_op op_sub sc_sub (de_op op_mulX sc_mulB (de_nestR 1 7 8 rfl rfl (by first | exact Or.inl rfl | exact Or.inr (Or.inl rfl) | exact Or.inr (Or.inr rfl)) rfl (by first | exact Or.inl rfl | exact Or.inr (Or.inl rfl) | exact Or.inr (Or.inr rfl)) rfl (by first | exact Or.inl rfl | exact Or.inr (Or.inl rfl) | exact Or.inr (Or.inr rfl))) (de_nestR 1 5 5 rfl rfl (by first | exact Or.inl rfl | exact Or.inr (Or.inl rfl) | exact Or.inr (Or.inr rfl)) rfl (by first | exact Or.inl rfl | exact Or.inr (Or.inl rfl) | exact Or.inr (Or.inr rfl)) rfl (by first | exact Or.inl rfl | exact Or.inr (Or.inl rfl) | exact Or.inr (Or.inr rfl)))) (de_op op_mulX sc_mulB (de_nestR 1 7 5 rfl rfl (by first | exact Or.inl rfl | exact Or.inr (Or.inl rfl) | exact Or.inr (Or.inr rfl)) rfl (by first | exact Or.inl rfl | exact Or.inr (Or.inl rfl) | exact Or.inr (Or.inr rfl)) rfl (by first | exact Or.inl rfl | exact Or.inr (Or.inl rfl) | exact Or.inr (Or.inr rfl))) (de_nestR 1 5 8 rfl rfl (by first | exact Or.inl rfl | exact Or.inr (Or.inl rfl) | exact Or.inr (Or.inr rfl)) rfl (by first | exact Or.inl rfl | exact Or.inr (Or.inl rfl) | exact Or.inr (Or.inr rfl)) rfl (by first | exact Or.inl rfl | exact Or.inr (Or.inl rfl) | exact Or.inr (Or.inr rfl))))))
    (ds_one (ds_asg (quiet_nestS 1 7 8) (de_op op_fdivB sc_divB (de_var 9 rfl) (de_var 3 rfl)) (dg_nest 1 7 8 rfl rfl (by first | exact Or.inl rfl | exact Or.inr (Or.inl rfl) | exact Or.inr (Or.inr rfl)) rfl (by first | exact Or.inl rfl | exact Or.inr (Or.inl rfl) | exact Or.inr (Or.inr rfl)) rfl (by first | exact Or.inl rfl | exact Or.inr (Or.inl rfl) | exact Or.inr (Or.inr rfl)))))))))
    (ds_one (ds_set (i := 3) sc_worth_of.nd rfl (by first | exact Or.inl rfl | exact Or.inr rfl) rfl (de_nestR 1 5 5 rfl rfl (by first | exact Or.inl rfl | exact Or.inr (Or.inl rfl) | exact Or.inr (Or.inr rfl)) rfl (by first | exact Or.inl rfl | exact Or.inr (Or.inl rfl) | exact Or.inr (Or.inr rfl)) rfl (by first | exact Or.inl rfl | exact Or.inr (Or.inl rfl) | exact Or.inr (Or.inr rfl))))))))))
    (ds_one (ds_ret (de_op op_mulX sc_mulB (de_var 4 rfl) (de_var 3 rfl)))))))
def den_box : M Flow :=
  (seqM (exprM (call0 F_look_box (argsM [(frozen (varM 0))])))
    (retS (call0 F_worth_of (argsM [(frozen (varM 0))]))))
def F_box : FSem := callF 1 den_box
theorem ok_box (E : Tp K mg) (hcl : ClOk E cl) (hlam : LamOk E base w) : FnOk P w K mg base (L2.CX P w) 5 E.f_box E.fd_box ["rows"] (spOf K cl 1 false F_box) :=
  fun_okC (k := 4) (den := den_box) (cv := cvOf []) E.F_box sc_box rfl rfl fun cdv hcd A outer s H vs Ex hr H0 F0 mu => by
  have tk := takes_of (X := cxOf (L2.CX P w) P w K mg base N_box "box" (defScope s_box) E.f_box cdv A outer s H Ex) rfl rfl rfl rfl
  have po := passes_of (X := cxOf (L2.CX P w) P w K mg base N_box "box" (defScope s_box) E.f_box cdv A outer s H Ex) rfl
  exact (ds_cons (ds_expr (de_call rfl tk (ok_look_box E hcl hlam) (hr.mono (by decide)) (by rfl) E.g_look_box E.F_look_box.kp E.b_look_box (da_cons (da_frz (de_var 0 rfl)) da_nil) (fun _ _ _ q => argsM_len q)))
    (ds_one (ds_ret (de_call rfl tk (ok_worth_of E hcl hlam) (hr.mono (by decide)) (by rfl) E.g_worth_of E.F_worth_of.kp E.b_worth_of (da_cons (da_frz (de_var 0 rfl)) da_nil) (fun _ _ _ q => argsM_len q)))))
def den_box_sign : M Flow :=
  (retS (call0 F_sign_of (argsM [(frozen (call0 F_box (argsM [(frozen (varM 0))])))])))
def F_box_sign : FSem := callF 1 den_box_sign
theorem ok_box_sign (E : Tp K mg) (hcl : ClOk E cl) (hlam : LamOk E base w) : FnOk P w K mg base (L2.CX P w) 6 E.f_box_sign E.fd_box_sign ["rows"] (spOf K cl 1 false F_box_sign) :=
  fun_okC (k := 5) (den := den_box_sign) (cv := cvOf []) E.F_box_sign sc_box_sign rfl rfl fun cdv hcd A outer s H vs Ex hr H0 F0 mu => by
  have tk := takes_of (X := cxOf (L2.CX P w) P w K mg base N_box_sign "box_sign" (defScope s_box_sign) E.f_box_sign cdv A outer s H Ex) rfl rfl rfl rfl
  have po := passes_of (X := cxOf (L2.CX P w) P w K mg base N_box_sign "box_sign" (defScope s_box_sign) E.f_box_sign cdv A outer s H Ex) rfl
  exact (ds_one (ds_ret (de_call rfl tk (ok_sign_of E hcl hlam) (hr.mono (by decide)) (by rfl) E.g_sign_of E.F_sign_of.kp E.b_sign_of (da_cons (da_frz (de_call rfl tk (ok_box E hcl hlam) (hr.mono (by decide)) (by rfl) E.g_box E.F_box.kp E.b_box (da_cons (da_frz (de_var 0 rfl)) da_nil) (fun _ _ _ q => argsM_len q))) da_nil) (fun _ _ _ q => argsM_len q))))
def den__law_bag : M Flow :=
  (seqM (setM 1 (constM (.int 977)))
    (seqM (forM (seqIt (sliceM (varM 0) (retM none) (partM (constM (.int 63))))) (nameG 2)
    (setM 1 (op2 modD (addM (addM (mulM (varM 1) (constM (.int 60013))) (varM 2)) (constM (.int 5))) (constM (.int 2147483629)))))
    (retS (lstM (argsM [(frozen (listM (sliceM (varM 0) (retM none) (partM (constM (.int 63)))))), (constM (.int 0)), (constM (.int 0)), (frozen (varM 1)), (constM (.int 0))])))))
def F__law_bag : FSem := callF 3 den__law_bag
theorem ok__law_bag (E : Tp K mg) (hcl : ClOk E cl) (hlam : LamOk E base w) : FnOk P w K mg base (L2.CX P w) 1 E.f__law_bag E.fd__law_bag ["_law_script"] (spOf K cl 1 false F__law_bag) :=
  fun_okC (k := 0) (den := den__law_bag) (cv := cvOf []) E.F__law_bag sc__law_bag rfl rfl fun cdv hcd A outer s H vs Ex hr H0 F0 mu => by
  have tk := takes_of (X := cxOf (L2.CX P w) P w K mg base N__law_bag "_law_bag" (defScope s__law_bag) E.f__law_bag cdv A outer s H Ex) rfl rfl rfl rfl
  have po := passes_of (X := cxOf (L2.CX P w) P w K mg base N__law_bag "_law_bag" (defScope s__law_bag) E.f__law_bag cdv A outer s H Ex) rfl
  exact (ds_cons (ds_set (i := 1) sc__law_bag.nd rfl (by first | exact Or.inl rfl | exact Or.inr rfl) rfl de_int)
    (ds_cons (ds_for po rfl (quiet_name 2) (di_seq rfl (de_slice rfl (de_var 0 rfl) do_none (do_some de_int))) (dg_name (i := 2) rfl sc__law_bag.nd rfl (by first | exact Or.inl rfl | exact Or.inr rfl))
    (ds_one (ds_set (i := 1) sc__law_bag.nd rfl (by first | exact Or.inl rfl | exact Or.inr rfl) rfl (de_op op_mod sc_mod (de_add rfl (de_add rfl (de_mul (de_var 1 rfl) de_int) (de_var 2 rfl)) de_int) de_int))))
    (ds_one (ds_ret (de_lst (da_cons (da_frz (de_list rfl (by rfl) E.m_list (de_slice rfl (de_var 0 rfl) do_none (do_some de_int)))) (da_cons de_int (da_cons de_int (da_cons (da_frz (de_var 1 rfl)) (da_cons de_int da_nil))))))))))
def den__law_pull : M Flow :=
  (seqM (ifS (andM (boolM (op2 ltD (ixA (varM 0) (constM (.int 2))) (constM (.int 1)))) (boolM (op2 ltD (ixA (varM 0) (constM (.int 1))) (callD lenD (argsM [(ixA (varM 0) (constM (.int 0)))]))))) (seqM (setM 2 (ixA (ixA (varM 0) (constM (.int 0))) (ixA (varM 0) (constM (.int 1)))))
    (seqM (asgM (addM (ixA (varM 0) (constM (.int 1))) (constM (.int 1))) (subG (varM 0) (constM (.int 1))))
    (ifS (boolM (op2 geD (varM 2) (op2 powD (constM (.int 10)) (constM (.int 18))))) (asgM (varM 2) (subG (varM 0) (constM (.int 2)))) (asgM (op2 modD (addM (addM (mulM (ixA (varM 0) (constM (.int 3))) (constM (.int 31337))) (op2 modD (varM 2) (constM (.int 2147483587)))) (constM (.int 7))) (constM (.int 2147483629))) (subG (varM 0) (constM (.int 3))))))) skipM)
    (seqM (ifS (boolM (op2 gtD (ixA (varM 0) (constM (.int 2))) (constM (.int 0)))) (seqM (setM 3 (op2 modD (ixA (varM 0) (constM (.int 2))) (varM 1)))
    (seqM (asgM (op2 divBD (ixA (varM 0) (constM (.int 2))) (varM 1)) (subG (varM 0) (constM (.int 2))))
    (retX 3))) skipM)
    (seqM (asgM (addM (ixA (varM 0) (constM (.int 4))) (constM (.int 1))) (subG (varM 0) (constM (.int 4))))
    (seqM (setM 4 (op2 modD (addM (ixA (varM 0) (constM (.int 3))) (mulM (ixA (varM 0) (constM (.int 4))) (constM (.int 6151)))) (constM (.int 2147483629))))
    (seqM (setM 5 (mulM (op2 modD (mulM (varM 4) (varM 4)) (constM (.int 2147483587))) (addM (op2 modD (varM 4) (constM (.int 40009))) (constM (.int 3)))))
    (seqM (asgM (op2 modD (addM (addM (varM 5) (mulM (constM (.int 30013)) (varM 4))) (constM (.int 811))) (constM (.int 2147483629))) (subG (varM 0) (constM (.int 3))))
    (retS (op2 modD (addM (op2 divD (ixA (varM 0) (constM (.int 3))) (constM (.int 67))) (mulM (op2 modD (ixA (varM 0) (constM (.int 3))) (constM (.int 8209))) (constM (.int 37)))) (varM 1)))))))))
def F__law_pull : FSem := callF 6 den__law_pull
theorem ok__law_pull (E : Tp K mg) (hcl : ClOk E cl) (hlam : LamOk E base w) : FnOk P w K mg base (L2.CX P w) 1 E.f__law_pull E.fd__law_pull ["_law_bag_here", "_law_many"] (spOf K cl 2 true F__law_pull) :=
  fun_okC (k := 0) (den := den__law_pull) (cv := cvOf []) E.F__law_pull sc__law_pull rfl rfl fun cdv hcd A outer s H vs Ex hr H0 F0 mu => by
  have tk := takes_of (X := cxOf (L2.CX P w) P w K mg base N__law_pull "_law_pull" (defScope s__law_pull) E.f__law_pull cdv A outer s H Ex) rfl rfl rfl rfl
  have po := passes_of (X := cxOf (L2.CX P w) P w K mg base N__law_pull "_law_pull" (defScope s__law_pull) E.f__law_pull cdv A outer s H Ex) rfl
  exact (ds_cons (ds_if (PW.pt (dw_and (dt_cmp op_lt sc_lt (de_ixA rfl (de_var 0 rfl) de_int) de_int (nomark _)) (dw_and1 (dt_cmp op_lt sc_lt (de_ixA rfl (de_var 0 rfl) de_int) (de_callB cr_lenD sc_len (by rfl) E.m_len PySem.boot_len (da_cons (de_ixA rfl (de_var 0 rfl) de_int) da_nil)) (nomark _))))) (ds_cons (ds_set (i := 2) sc__law_pull.nd rfl (by first | exact Or.inl rfl | exact Or.inr rfl) rfl (de_ixA rfl (de_ixA rfl (de_var 0 rfl) de_int) (de_ixA rfl (de_var 0 rfl) de_int)))
    (ds_cons (ds_asg (quiet_sub (varM 0) (constM (.int 1))) (de_add rfl (de_ixA rfl (de_var 0 rfl) de_int) de_int) (dg_sub (W := WE' Ex) (de_var 0 rfl) de_int))
    (ds_one (ds_if (dt_cmp op_ge sc_ge (de_var 2 rfl) (de_op op_pow sc_pow de_int de_int) (nomark _)) (ds_one (ds_asg (quiet_sub (varM 0) (constM (.int 2))) (de_var 2 rfl) (dg_sub (W := WE' Ex) (de_var 0 rfl) de_int))) (ds_one (ds_asg (quiet_sub (varM 0) (constM (.int 3))) (de_op op_mod sc_mod (de_add rfl (de_add rfl (de_mul (de_ixA rfl (de_var 0 rfl) de_int) de_int) (de_op op_mod sc_mod (de_var 2 rfl) de_int)) de_int) de_int) (dg_sub (W := WE' Ex) (de_var 0 rfl) de_int))))))) ds_nil)
    (ds_cons (ds_if (dt_cmp op_gt sc_gt (de_ixA rfl (de_var 0 rfl) de_int) de_int (nomark _)) (ds_cons (ds_set (i := 3) sc__law_pull.nd rfl (by first | exact Or.inl rfl | exact Or.inr rfl) rfl (de_op op_mod sc_mod (de_ixA rfl (de_var 0 rfl) de_int) (de_var 1 rfl)))
    (ds_cons (ds_asg (quiet_sub (varM 0) (constM (.int 2))) (de_op op_fdivB sc_divB (de_ixA rfl (de_var 0 rfl) de_int) (de_var 1 rfl)) (dg_sub (W := WE' Ex) (de_var 0 rfl) de_int))
    (ds_one (ds_retX (de_var 3 rfl))))) ds_nil)
    (ds_cons (ds_asg (quiet_sub (varM 0) (constM (.int 4))) (de_add rfl (de_ixA rfl (de_var 0 rfl) de_int) de_int) (dg_sub (W := WE' Ex) (de_var 0 rfl) de_int))
    (ds_cons (ds_set (i := 4) sc__law_pull.nd rfl (by first | exact Or.inl rfl | exact Or.inr rfl) rfl (de_op op_mod sc_mod (de_add rfl (de_ixA rfl (de_var 0 rfl) de_int) (de_mul (de_ixA rfl (de_var 0 rfl) de_int) de_int)) de_int))
    (ds_cons (ds_set (i := 5) sc__law_pull.nd rfl (by first | exact Or.inl rfl | exact Or.inr rfl) rfl (de_mul (de_op op_mod sc_mod (de_mul (de_var 4 rfl) (de_var 4 rfl)) de_int) (de_add rfl (de_op op_mod sc_mod (de_var 4 rfl) de_int) de_int)))
    (ds_cons (ds_asg (quiet_sub (varM 0) (constM (.int 3))) (de_op op_mod sc_mod (de_add rfl (de_add rfl (de_var 5 rfl) (de_mul de_int (de_var 4 rfl))) de_int) de_int) (dg_sub (W := WE' Ex) (de_var 0 rfl) de_int))
    (ds_one (ds_ret (de_op op_mod sc_mod (de_add rfl (de_op op_fdiv sc_div (de_ixA rfl (de_var 0 rfl) de_int) de_int) (de_mul (de_op op_mod sc_mod (de_ixA rfl (de_var 0 rfl) de_int) de_int) de_int)) (de_var 1 rfl))))))))))
def den__law_of : M Flow :=
  (retS (ixA (varM 1) (callR F__law_pull (argsM [(varM 0), (frozen (callD lenD (argsM [(varM 1)])))]))))
def F__law_of : FSem := callF 2 den__law_of
theorem ok__law_of (E : Tp K mg) (hcl : ClOk E cl) (hlam : LamOk E base w) : FnOk P w K mg base (L2.CX P w) 2 E.f__law_of E.fd__law_of ["_law_bag_here", "_law_some"] (spOf K cl 2 true F__law_of) :=
  fun_okC (k := 1) (den := den__law_of) (cv := cvOf []) E.F__law_of sc__law_of rfl rfl fun cdv hcd A outer s H vs Ex hr H0 F0 mu => by
  have tk := takes_of (X := cxOf (L2.CX P w) P w K mg base N__law_of "_law_of" (defScope s__law_of) E.f__law_of cdv A outer s H Ex) rfl rfl rfl rfl
  have po := passes_of (X := cxOf (L2.CX P w) P w K mg base N__law_of "_law_of" (defScope s__law_of) E.f__law_of cdv A outer s H Ex) rfl
  exact (ds_one (ds_ret (de_ixA rfl (de_var 1 rfl) (de_callR rfl tk (ok__law_pull E hcl hlam) (hr.mono (by decide)) (by rfl) E.g__law_pull E.F__law_pull.kp E.b__law_pull (da_cons (de_var 0 rfl) (da_cons (da_frz (de_callB cr_lenD sc_len (by rfl) E.m_len PySem.boot_len (da_cons (de_var 1 rfl) da_nil))) da_nil)) (fun _ _ _ q => argsM_len q)))))
def den__law_same (rec : FSem) : M Flow :=
  (seqM (ifS (orM (boolM (op2 isNonD (varM 1) (constM .non))) (boolM (op2 isNonD (varM 0) (constM .non)))) (retS (andV (op2 isNonD (varM 0) (constM .non)) (op2 isNonD (varM 1) (constM .non)))) skipM)
    (seqM (ifS (orM (boolM (isiM ["bool"] (varM 1))) (boolM (isiM ["bool"] (varM 0)))) (retS (andV (isiM ["bool"] (varM 1)) (andV (isiM ["bool"] (varM 0)) (op2 eqD (varM 0) (varM 1))))) skipM)
    (seqM (ifS (boolM (isiM ["int", "str"] (varM 1))) (retS (andV (isiM ["int", "str"] (varM 0)) (andV (op2 eqD (isiM ["int"] (varM 0)) (isiM ["int"] (varM 1))) (op2 eqD (varM 0) (varM 1))))) skipM)
    (seqM (ifS (orM (boolM (op2 neD (isiM ["list"] (varM 0)) (isiM ["list"] (varM 1)))) (boolM (op2 neD (isiM ["tuple"] (varM 0)) (isiM ["tuple"] (varM 1))))) (retS (constM (.bl false))) skipM)
    (retS (andV (op2 eqD (callD lenD (argsM [(varM 0)])) (callD lenD (argsM [(varM 1)]))) (callD allD (argsM [(compM [2] (range1 (callD lenD (argsM [(varM 1)]))) (nameG 2) (retM true) (call0 rec (argsM [(frozen (ixA (varM 0) (varF 2))), (frozen (ixA (varM 1) (varF 2)))])))]))))))))
def F__law_same : Nat → FSem
  | 0 => fun _ => .bad
  | k + 1 => callF 3 (den__law_same (F__law_same k))
theorem ok__law_same (E : Tp K mg) (hcl : ClOk E cl) (hlam : LamOk E base w) : ∀ d : Nat, FnOk P w K mg base (L2.CX P w) (d + 1) E.f__law_same E.fd__law_same ["_law_found", "_law_due"] (spOf K cl 2 false (F__law_same d))
  | 0 => fn_bad rfl
  | d + 1 => fun_okC (k := d + 1) (den := den__law_same (F__law_same d)) (cv := cvOf [2]) E.F__law_same sc__law_same rfl rfl fun cdv hcd A outer s H vs Ex hr H0 F0 mu => by
    have tk := takes_of (X := cxOf (L2.CX P w) P w K mg base N__law_same "_law_same" (defScope s__law_same) E.f__law_same cdv A outer s H Ex) rfl rfl rfl rfl
    have po := passes_of (X := cxOf (L2.CX P w) P w K mg base N__law_same "_law_same" (defScope s__law_same) E.f__law_same cdv A outer s H Ex) rfl
    have ih := ok__law_same E hcl hlam d
    exact (ds_cons (ds_if (PW.pt (dw_or (dt_cmp op_isN sc_isN (de_var 1 rfl) de_non (nomark _)) (dw_or1 (dt_cmp op_isN sc_isN (de_var 0 rfl) de_non (nomark _))))) (ds_one (ds_ret (de_and (de_cmp op_isN sc_isN (de_var 0 rfl) de_non (nomark _)) (de_one (de_cmp op_isN sc_isN (de_var 1 rfl) de_non (nomark _)))))) ds_nil)
    (ds_cons (ds_if (PW.pt (dw_or (dt_val (de_isi rfl (by decide +kernel) (by rfl) E.m_isinstance (by rfl) E.m_bool (by decide +kernel) (de_var 1 rfl))) (dw_or1 (dt_val (de_isi rfl (by decide +kernel) (by rfl) E.m_isinstance (by rfl) E.m_bool (by decide +kernel) (de_var 0 rfl)))))) (ds_one (ds_ret (de_and (de_isi rfl (by decide +kernel) (by rfl) E.m_isinstance (by rfl) E.m_bool (by decide +kernel) (de_var 1 rfl)) (de_and (de_isi rfl (by decide +kernel) (by rfl) E.m_isinstance (by rfl) E.m_bool (by decide +kernel) (de_var 0 rfl)) (de_one (de_cmp (op_eqD hr.units) sc_eq (de_var 0 rfl) (de_var 1 rfl) (nomark _))))))) ds_nil)
    (ds_cons (ds_if (dt_val (de_isi2 rfl (by decide +kernel) (by decide +kernel) (by rfl) E.m_isinstance (by rfl) E.m_int (by decide +kernel) (by rfl) E.m_str (by decide +kernel) (de_var 1 rfl))) (ds_one (ds_ret (de_and (de_isi2 rfl (by decide +kernel) (by decide +kernel) (by rfl) E.m_isinstance (by rfl) E.m_int (by decide +kernel) (by rfl) E.m_str (by decide +kernel) (de_var 0 rfl)) (de_and (de_cmp (op_eqD hr.units) sc_eq (de_isi rfl (by decide +kernel) (by rfl) E.m_isinstance (by rfl) E.m_int (by decide +kernel) (de_var 0 rfl)) (de_isi rfl (by decide +kernel) (by rfl) E.m_isinstance (by rfl) E.m_int (by decide +kernel) (de_var 1 rfl)) (nomark _)) (de_one (de_cmp (op_eqD hr.units) sc_eq (de_var 0 rfl) (de_var 1 rfl) (nomark _))))))) ds_nil)
    (ds_cons (ds_if (PW.pt (dw_or (dt_cmp (op_neD hr.units) sc_ne (de_isi rfl (by decide +kernel) (by rfl) E.m_isinstance (by rfl) E.m_list (by decide +kernel) (de_var 0 rfl)) (de_isi rfl (by decide +kernel) (by rfl) E.m_isinstance (by rfl) E.m_list (by decide +kernel) (de_var 1 rfl)) (nomark _)) (dw_or1 (dt_cmp (op_neD hr.units) sc_ne (de_isi rfl (by decide +kernel) (by rfl) E.m_isinstance (by rfl) E.m_tuple (by decide +kernel) (de_var 0 rfl)) (de_isi rfl (by decide +kernel) (by rfl) E.m_isinstance (by rfl) E.m_tuple (by decide +kernel) (de_var 1 rfl)) (nomark _))))) (ds_one (ds_ret de_bl)) ds_nil)
    (ds_one (ds_ret (de_and (de_cmp (op_eqD hr.units) sc_eq (de_callB cr_lenD sc_len (by rfl) E.m_len PySem.boot_len (da_cons (de_var 0 rfl) da_nil)) (de_callB cr_lenD sc_len (by rfl) E.m_len PySem.boot_len (da_cons (de_var 1 rfl) da_nil)) (nomark _)) (de_one (de_callB (cr_all rfl) sc_all (by rfl) E.m_all (by decide +kernel) (da_cons (de_comp (own := [("_law_k", 2)]) rfl sc__law_same.nd (List.forall_mem_cons.mpr ⟨⟨rfl, rfl⟩, (fun _ h => nomatch h)⟩) (fun _ h => h) (quiet_name 2) (di_range1 (by rfl) E.m_range (de_callB cr_lenD sc_len (by rfl) E.m_len PySem.boot_len (da_cons (de_var 1 rfl) da_nil))) (blkOk_by (N := N__law_same) (sc := defScope s__law_same) (by decide +kernel)) (fun _ _ _ _ _ => (dg_name (i := 2) rfl sc__law_same.nd rfl (by first | exact Or.inl rfl | exact Or.inr rfl))) (fun _ _ _ _ _ => dts_nil) (fun _ _ _ _ _ => (de_call rfl takes0 ih hr (by rfl) E.g__law_same E.F__law_same.kp E.b__law_same (da_cons (da_frz (de_ixA rfl (de_var 0 rfl) (de_varF 2))) (da_cons (da_frz (de_ixA rfl (de_var 1 rfl) (de_varF 2))) da_nil)) (fun _ _ _ q => argsM_len q)))) da_nil))))))))))
def den__law_box_drawn : M Flow :=
  (seqM (setM 2 (callR F__law_of (argsM [(varM 0), (frozen (lstM (argsM [(constM (.int 1)), (constM (.int 2)), (constM (.int 9)), (constM (.int 9999))])))])))
    (seqM (setM 3 (compM [4] (range1 (varM 1)) (nameG 4) (retM true) (compM [5] (range1 (varM 1)) (nameG 5) (retM true) (op2 subD (callR F__law_pull (argsM [(varM 0), (frozen (addM (mulM (constM (.int 2)) (varM 2)) (constM (.int 1))))])) (varM 2)))))
    (seqM (ifS (boolM (op2 gtD (varM 1) (constM (.int 4)))) (setM 3 (compM [4] (range1 (varM 1)) (nameG 4) (retM true) (compM [5] (range1 (varM 1)) (nameG 5) (retM true) (ifM (orM (boolM (op2 gtD (op2 modD (addM (varF 4) (varF 5)) (constM (.int 3))) (constM (.int 0)))) (boolM (op2 eqD (varF 4) (varF 5)))) (ixA (ixA (varM 3) (varF 4)) (varF 5)) (constM (.int 0)))))) skipM)
    (seqM (ifS (andM (boolM (op2 gtD (varM 1) (constM (.int 1)))) (boolM (op2 eqD (callR F__law_pull (argsM [(varM 0), (constM (.int 4))])) (constM (.int 0))))) (seqM (setM 4 (callR F__law_pull (argsM [(varM 0), (frozen (varM 1))])))
    (asgM (compM [6] (seqIt (ixA (varM 3) (op2 modD (addM (varF 4) (constM (.int 1))) (varM 1)))) (nameG 6) (retM true) (op2 subD (constM (.int 0)) (varF 6))) (subG (varM 3) (varF 4)))) skipM)
    (retX 3)))))
def F__law_box_drawn : FSem := callF 7 den__law_box_drawn
theorem ok__law_box_drawn (E : Tp K mg) (hcl : ClOk E cl) (hlam : LamOk E base w) : FnOk P w K mg base (L2.CX P w) 3 E.f__law_box_drawn E.fd__law_box_drawn ["_law_bag_here", "_law_size"] (spOf K cl 2 true F__law_box_drawn) :=
  fun_okC (k := 2) (den := den__law_box_drawn) (cv := cvOf [4, 5, 6]) E.F__law_box_drawn sc__law_box_drawn rfl rfl fun cdv hcd A outer s H vs Ex hr H0 F0 mu => by
  have tk := takes_of (X := cxOf (L2.CX P w) P w K mg base N__law_box_drawn "_law_box_drawn" (defScope s__law_box_drawn) E.f__law_box_drawn cdv A outer s H Ex) rfl rfl rfl rfl
  have po := passes_of (X := cxOf (L2.CX P w) P w K mg base N__law_box_drawn "_law_box_drawn" (defScope s__law_box_drawn) E.f__law_box_drawn cdv A outer s H Ex) rfl
  exact (ds_cons (ds_set (i := 2) sc__law_box_drawn.nd rfl (by first | exact Or.inl rfl | exact Or.inr rfl) rfl (de_callR rfl tk (ok__law_of E hcl hlam) (hr.mono (by decide)) (by rfl) E.g__law_of E.F__law_of.kp E.b__law_of (da_cons (de_var 0 rfl) (da_cons (da_frz (de_lst (da_cons de_int (da_cons de_int (da_cons de_int (da_cons de_int da_nil)))))) da_nil)) (fun _ _ _ q => argsM_len q)))
    (ds_cons (ds_set (i := 3) sc__law_box_drawn.nd rfl (by first | exact Or.inl rfl | exact Or.inr rfl) rfl (de_comp (own := [("_law_j", 4)]) rfl sc__law_box_drawn.nd (List.forall_mem_cons.mpr ⟨⟨rfl, rfl⟩, (fun _ h => nomatch h)⟩) (fun _ h => h) (quiet_name 4) (di_range1 (by rfl) E.m_range (de_var 1 rfl)) (blkOk_by (N := N__law_box_drawn) (sc := defScope s__law_box_drawn) (by decide +kernel)) (fun _ _ _ _ _ => (dg_name (i := 4) rfl sc__law_box_drawn.nd rfl (by first | exact Or.inl rfl | exact Or.inr rfl))) (fun _ _ _ _ _ => dts_nil) (fun _ _ _ _ _ => (de_comp (own := [("_law_k", 5)]) rfl sc__law_box_drawn.nd (List.forall_mem_cons.mpr ⟨⟨rfl, rfl⟩, (fun _ h => nomatch h)⟩) (fun _ h => h) (quiet_name 5) (di_range1 (by rfl) E.m_range (de_var 1 rfl)) (blkOk_by (N := N__law_box_drawn) (by rfl)) (fun _ _ _ _ _ => (dg_name (i := 5) rfl sc__law_box_drawn.nd rfl (by first | exact Or.inl rfl | exact Or.inr rfl))) (fun _ _ _ _ _ => dts_nil) (fun _ _ _ _ _ => (de_op op_sub sc_sub (de_callR rfl takes0 (ok__law_pull E hcl hlam) (hr.mono (by decide)) (by rfl) E.g__law_pull E.F__law_pull.kp E.b__law_pull (da_cons (de_var 0 rfl) (da_cons (da_frz (de_add rfl (de_mul de_int (de_var 2 rfl)) de_int)) da_nil)) (fun _ _ _ q => argsM_len q)) (de_var 2 rfl)))))))
    (ds_cons (ds_if (dt_cmp op_gt sc_gt (de_var 1 rfl) de_int (nomark _)) (ds_one (ds_set (i := 3) sc__law_box_drawn.nd rfl (by first | exact Or.inl rfl | exact Or.inr rfl) rfl (de_comp (own := [("_law_j", 4)]) rfl sc__law_box_drawn.nd (List.forall_mem_cons.mpr ⟨⟨rfl, rfl⟩, (fun _ h => nomatch h)⟩) (fun _ h => h) (quiet_name 4) (di_range1 (by rfl) E.m_range (de_var 1 rfl)) (blkOk_by (N := N__law_box_drawn) (sc := defScope s__law_box_drawn) (by decide +kernel)) (fun _ _ _ _ _ => (dg_name (i := 4) rfl sc__law_box_drawn.nd rfl (by first | exact Or.inl rfl | exact Or.inr rfl))) (fun _ _ _ _ _ => dts_nil) (fun _ _ _ _ _ => (de_comp (own := [("_law_k", 5)]) rfl sc__law_box_drawn.nd (List.forall_mem_cons.mpr ⟨⟨rfl, rfl⟩, (fun _ h => nomatch h)⟩) (fun _ h => h) (quiet_name 5) (di_range1 (by rfl) E.m_range (de_var 1 rfl)) (blkOk_by (N := N__law_box_drawn) (by rfl)) (fun _ _ _ _ _ => (dg_name (i := 5) rfl sc__law_box_drawn.nd rfl (by first | exact Or.inl rfl | exact Or.inr rfl))) (fun _ _ _ _ _ => dts_nil) (fun _ _ _ _ _ => (de_if (PW.pt (dw_or (dt_cmp op_gt sc_gt (de_op op_mod sc_mod (de_add rfl (de_varF 4) (de_varF 5)) de_int) de_int (nomark _)) (dw_or1 (dt_cmp (op_eqD hr.units) sc_eq (de_varF 4) (de_varF 5) (nomark _))))) (de_ixA rfl (de_ixA rfl (de_var 3 rfl) (de_varF 4)) (de_varF 5)) de_int))))))) ds_nil)
    (ds_cons (ds_if (PW.pt (dw_and (dt_cmp op_gt sc_gt (de_var 1 rfl) de_int (nomark _)) (dw_and1 (dt_cmp (op_eqD hr.units) sc_eq (de_callR rfl tk (ok__law_pull E hcl hlam) (hr.mono (by decide)) (by rfl) E.g__law_pull E.F__law_pull.kp E.b__law_pull (da_cons (de_var 0 rfl) (da_cons de_int da_nil)) (fun _ _ _ q => argsM_len q)) de_int (nomark _))))) (ds_cons (ds_set (i := 4) sc__law_box_drawn.nd rfl (by first | exact Or.inl rfl | exact Or.inr rfl) rfl (de_callR rfl tk (ok__law_pull E hcl hlam) (hr.mono (by decide)) (by rfl) E.g__law_pull E.F__law_pull.kp E.b__law_pull (da_cons (de_var 0 rfl) (da_cons (da_frz (de_var 1 rfl)) da_nil)) (fun _ _ _ q => argsM_len q)))
    (ds_one (ds_asg (quiet_sub (varM 3) (varF 4)) (de_comp (own := [("_law_one", 6)]) rfl sc__law_box_drawn.nd (List.forall_mem_cons.mpr ⟨⟨rfl, rfl⟩, (fun _ h => nomatch h)⟩) (fun _ h => h) (quiet_name 6) (di_seq rfl (de_ixA rfl (de_var 3 rfl) (de_op op_mod sc_mod (de_add rfl (de_varF 4) de_int) (de_var 1 rfl)))) (blkOk_by (N := N__law_box_drawn) (sc := defScope s__law_box_drawn) (by decide +kernel)) (fun _ _ _ _ _ => (dg_name (i := 6) rfl sc__law_box_drawn.nd rfl (by first | exact Or.inl rfl | exact Or.inr rfl))) (fun _ _ _ _ _ => dts_nil) (fun _ _ _ _ _ => (de_op op_sub sc_sub de_int (de_varF 6)))) (dg_sub (W := WE' Ex) (de_var 3 rfl) (de_varF 4))))) ds_nil)
    (ds_one (ds_retX (de_var 3 rfl)))))))
def den_law : M Flow :=
  (seqM (setM 1 (call0 F__law_bag (argsM [(frozen (varM 0))])))
    (seqM (forM (range1 (constM (.int 4))) (nameG 2)
    (seqM (setM 3 (addM (constM (.int 1)) (callR F__law_pull (argsM [(varM 1), (constM (.int 4))]))))
    (seqM (asgM (compM [6] (range1 (constM (.int 2))) (nameG 6) (retM true) (callR F__law_box_drawn (argsM [(varM 1), (frozen (varM 3))]))) (seqG [4, 5]))
    (seqM (setM 4 (compM [7] (seqIt (varM 4)) (nameG 7) (retM true) (compM [8] (seqIt (varF 7)) (nameG 8) (retM true) (op2 subD (op2 modD (varF 8) (constM (.int 19))) (constM (.int 9))))))
    (seqM (setM 5 (compM [7] (seqIt (varM 5)) (nameG 7) (retM true) (compM [8] (seqIt (varF 7)) (nameG 8) (retM true) (op2 subD (op2 modD (varF 8) (constM (.int 19))) (constM (.int 9))))))
    (seqM (setM 9 (lstM (argsM [])))
    (seqM (forM (seqIt (varM 4)) (nameG 7)
    (exprM (appendM (varM 9) (compM [10] (range1 (varM 3)) (nameG 10) (retM true) (callD sumD (argsM [(compM [6] (range1 (varM 3)) (nameG 6) (retM true) (mulM (ixA (varF 7) (varF 6)) (ixA (ixA (varM 5) (varF 6)) (varF 10))))]))))))
    (seqM (ifS (notM (boolM (call0 (F__law_same 6) (argsM [(frozen (call0 F_box (argsM [(varM 9)]))), (frozen (mulM (call0 F_box (argsM [(frozen (varM 4))])) (call0 F_box (argsM [(frozen (varM 5))]))))])))) (retS (constM (.bl false))) skipM)
    (seqM (ifS (boolM (op2 neD (call0 F_box (argsM [(frozen (compM [6] (range1 (varM 3)) (nameG 6) (retM true) (compM [7] (seqIt (varM 4)) (nameG 7) (retM true) (ixA (varF 7) (varF 6)))))])) (call0 F_box (argsM [(frozen (varM 4))])))) (retS (constM (.bl false))) skipM)
    (ifS (boolM (op2 gtD (varM 3) (constM (.int 1)))) (seqM (setM 6 (callR F__law_pull (argsM [(varM 1), (frozen (varM 3))])))
    (seqM (setM 10 (op2 modD (addM (addM (varF 6) (constM (.int 1))) (callR F__law_pull (argsM [(varM 1), (frozen (op2 subD (varM 3) (constM (.int 1))))]))) (varM 3)))
    (seqM (setM 11 (op2 subD (callR F__law_pull (argsM [(varM 1), (constM (.int 9))])) (constM (.int 4))))
    (seqM (setM 12 (compM [7] (seqIt (varM 4)) (nameG 7) (retM true) (listM (varF 7))))
    (seqM (asgM (compM [13, 14] (zipIt (ixA (varM 4) (varF 10)) (ixA (varM 4) (varF 6))) (tupG [13, 14]) (retM true) (addM (varF 13) (mulM (varM 11) (varF 14)))) (subG (varM 12) (varF 10)))
    (seqM (ifS (boolM (op2 neD (call0 F_box (argsM [(varM 12)])) (call0 F_box (argsM [(frozen (varM 4))])))) (retS (constM (.bl false))) skipM)
    (seqM (setM 12 (compM [7] (seqIt (varM 4)) (nameG 7) (retM true) (listM (varF 7))))
    (seqM (asgM (tupM (argsM [(frozen (ixA (varM 4) (varF 6))), (frozen (ixA (varM 4) (varF 10)))])) (tupGs (consG (subG (varM 12) (varF 10)) (consG (subG (varM 12) (varF 6)) nilG)) 2))
    (ifS (orM (boolM (op2 neD (call0 F_box (argsM [(varM 12)])) (op2 subD (constM (.int 0)) (call0 F_box (argsM [(frozen (varM 4))]))))) (boolM (op2 neD (call0 F_box_sign (argsM [(varM 12)])) (op2 subD (constM (.int 0)) (call0 F_box_sign (argsM [(frozen (varM 4))])))))) (retS (constM (.bl false))) skipM))))))))) skipM))))))))))
    (retS (constM (.bl true)))))
def F_law : FSem := callF 15 den_law
theorem ok_law (E : Tp K mg) (hcl : ClOk E cl) (hlam : LamOk E base w) : FnOk P w K mg base (L2.CX P w) 8 E.f_law E.fd_law ["_law_script"] (spOf K cl 1 false F_law) :=
  fun_okC (k := 7) (den := den_law) (cv := cvOf [6, 7, 8, 10, 13, 14]) E.F_law sc_law rfl rfl fun cdv hcd A outer s H vs Ex hr H0 F0 mu => by
  have tk := takes_of (X := cxOf (L2.CX P w) P w K mg base N_law "law" (defScope s_law) E.f_law cdv A outer s H Ex) rfl rfl rfl rfl
  have po := passes_of (X := cxOf (L2.CX P w) P w K mg base N_law "law" (defScope s_law) E.f_law cdv A outer s H Ex) rfl
  exact (ds_cons (ds_set (i := 1) sc_law.nd rfl (by first | exact Or.inl rfl | exact Or.inr rfl) rfl (de_call rfl tk (ok__law_bag E hcl hlam) (hr.mono (by decide)) (by rfl) E.g__law_bag E.F__law_bag.kp E.b__law_bag (da_cons (da_frz (de_var 0 rfl)) da_nil) (fun _ _ _ q => argsM_len q)))
    (ds_cons (ds_for po rfl (quiet_name 2) (di_range1 (by rfl) E.m_range de_int) (dg_name (i := 2) rfl sc_law.nd rfl (by first | exact Or.inl rfl | exact Or.inr rfl))
    (ds_cons (ds_set (i := 3) sc_law.nd rfl (by first | exact Or.inl rfl | exact Or.inr rfl) rfl (de_add rfl de_int (de_callR rfl tk (ok__law_pull E hcl hlam) (hr.mono (by decide)) (by rfl) E.g__law_pull E.F__law_pull.kp E.b__law_pull (da_cons (de_var 1 rfl) (da_cons de_int da_nil)) (fun _ _ _ q => argsM_len q))))
    (ds_cons (ds_asg (quiet_seq [4, 5]) (de_comp (own := [("_law_k", 6)]) rfl sc_law.nd (List.forall_mem_cons.mpr ⟨⟨rfl, rfl⟩, (fun _ h => nomatch h)⟩) (fun _ h => h) (quiet_name 6) (di_range1 (by rfl) E.m_range de_int) (blkOk_by (N := N_law) (sc := defScope s_law) (by decide +kernel)) (fun _ _ _ _ _ => (dg_name (i := 6) rfl sc_law.nd rfl (by first | exact Or.inl rfl | exact Or.inr rfl))) (fun _ _ _ _ _ => dts_nil) (fun _ _ _ _ _ => (de_callR rfl takes0 (ok__law_box_drawn E hcl hlam) (hr.mono (by decide)) (by rfl) E.g__law_box_drawn E.F__law_box_drawn.kp E.b__law_box_drawn (da_cons (de_var 1 rfl) (da_cons (da_frz (de_var 3 rfl)) da_nil)) (fun _ _ _ q => argsM_len q)))) (dg_seq [4, 5] rfl rfl (List.forall_mem_cons.mpr ⟨rfl, (List.forall_mem_cons.mpr ⟨rfl, (fun _ h => nomatch h)⟩)⟩) (pg_tup rfl (pgs_cons (pg_name (i := 4) sc_law.nd rfl (by first | exact Or.inl rfl | exact Or.inr rfl)) (pgs_cons (pg_name (i := 5) sc_law.nd rfl (by first | exact Or.inl rfl | exact Or.inr rfl)) pgs_nil))) (pg_unl rfl (pgs_cons (pg_name (i := 4) sc_law.nd rfl (by first | exact Or.inl rfl | exact Or.inr rfl)) (pgs_cons (pg_name (i := 5) sc_law.nd rfl (by first | exact Or.inl rfl | exact Or.inr rfl)) pgs_nil)))))
    (ds_cons (ds_set (i := 4) sc_law.nd rfl (by first | exact Or.inl rfl | exact Or.inr rfl) rfl (de_comp (own := [("_law_row", 7)]) rfl sc_law.nd (List.forall_mem_cons.mpr ⟨⟨rfl, rfl⟩, (fun _ h => nomatch h)⟩) (fun _ h => h) (quiet_name 7) (di_seq rfl (de_var 4 rfl)) (blkOk_by (N := N_law) (sc := defScope s_law) (by decide +kernel)) (fun _ _ _ _ _ => (dg_name (i := 7) rfl sc_law.nd rfl (by first | exact Or.inl rfl | exact Or.inr rfl))) (fun _ _ _ _ _ => dts_nil) (fun _ _ _ _ _ => (de_comp (own := [("_law_cell", 8)]) rfl sc_law.nd (List.forall_mem_cons.mpr ⟨⟨rfl, rfl⟩, (fun _ h => nomatch h)⟩) (fun _ h => h) (quiet_name 8) (di_seq rfl (de_varF 7)) (blkOk_by (N := N_law) (by rfl)) (fun _ _ _ _ _ => (dg_name (i := 8) rfl sc_law.nd rfl (by first | exact Or.inl rfl | exact Or.inr rfl))) (fun _ _ _ _ _ => dts_nil) (fun _ _ _ _ _ => (de_op op_sub sc_sub (de_op op_mod sc_mod (de_varF 8) de_int) de_int))))))
    (ds_cons (ds_set (i := 5) sc_law.nd rfl (by first | exact Or.inl rfl | exact Or.inr rfl) rfl (de_comp (own := [("_law_row", 7)]) rfl sc_law.nd (List.forall_mem_cons.mpr ⟨⟨rfl, rfl⟩, (fun _ h => nomatch h)⟩) (fun _ h => h) (quiet_name 7) (di_seq rfl (de_var 5 rfl)) (blkOk_by (N := N_law) (sc := defScope s_law) (by decide +kernel)) (fun _ _ _ _ _ => (dg_name (i := 7) rfl sc_law.nd rfl (by first | exact Or.inl rfl | exact Or.inr rfl))) (fun _ _ _ _ _ => dts_nil) (fun _ _ _ _ _ => (de_comp (own := [("_law_cell", 8)]) rfl sc_law.nd (List.forall_mem_cons.mpr ⟨⟨rfl, rfl⟩, (fun _ h => nomatch h)⟩) (fun _ h => h) (quiet_name 8) (di_seq rfl (de_varF 7)) (blkOk_by (N := N_law) (by rfl)) (fun _ _ _ _ _ => (dg_name (i := 8) rfl sc_law.nd rfl (by first | exact Or.inl rfl | exact Or.inr rfl))) (fun _ _ _ _ _ => dts_nil) (fun _ _ _ _ _ => (de_op op_sub sc_sub (de_op op_mod sc_mod (de_varF 8) de_int) de_int))))))
    (ds_cons (ds_set (i := 9) sc_law.nd rfl (by first | exact Or.inl rfl | exact Or.inr rfl) rfl (de_lst da_nil))
    (ds_cons (ds_for po rfl (quiet_name 7) (di_seq rfl (de_var 4 rfl)) (dg_name (i := 7) rfl sc_law.nd rfl (by first | exact Or.inl rfl | exact Or.inr rfl))
    (ds_one (ds_expr (de_append rfl (de_var 9 rfl) (de_comp (own := [("_law_j", 10)]) rfl sc_law.nd (List.forall_mem_cons.mpr ⟨⟨rfl, rfl⟩, (fun _ h => nomatch h)⟩) (fun _ h => h) (quiet_name 10) (di_range1 (by rfl) E.m_range (de_var 3 rfl)) (blkOk_by (N := N_law) (sc := defScope s_law) (by decide +kernel)) (fun _ _ _ _ _ => (dg_name (i := 10) rfl sc_law.nd rfl (by first | exact Or.inl rfl | exact Or.inr rfl))) (fun _ _ _ _ _ => dts_nil) (fun _ _ _ _ _ => (de_callB (cr_sum rfl) sc_sum (by rfl) E.m_sum (by decide +kernel) (da_cons (de_comp (own := [("_law_k", 6)]) rfl sc_law.nd (List.forall_mem_cons.mpr ⟨⟨rfl, rfl⟩, (fun _ h => nomatch h)⟩) (fun _ h => h) (quiet_name 6) (di_range1 (by rfl) E.m_range (de_var 3 rfl)) (blkOk_by (N := N_law) (by rfl)) (fun _ _ _ _ _ => (dg_name (i := 6) rfl sc_law.nd rfl (by first | exact Or.inl rfl | exact Or.inr rfl))) (fun _ _ _ _ _ => dts_nil) (fun _ _ _ _ _ => (de_mul (de_ixA rfl (de_varF 7) (de_varF 6)) (de_ixA rfl (de_ixA rfl (de_var 5 rfl) (de_varF 6)) (de_varF 10))))) da_nil))))))))
    (ds_cons (ds_if (dt_not (dt_val (de_call rfl tk (ok__law_same E hcl hlam 6) (hr.mono (by decide)) (by rfl) E.g__law_same E.F__law_same.kp E.b__law_same (da_cons (da_frz (de_call rfl tk (ok_box E hcl hlam) (hr.mono (by decide)) (by rfl) E.g_box E.F_box.kp E.b_box (da_cons (de_var 9 rfl) da_nil) (fun _ _ _ q => argsM_len q))) (da_cons (da_frz (de_mul (de_call rfl tk (ok_box E hcl hlam) (hr.mono (by decide)) (by rfl) E.g_box E.F_box.kp E.b_box (da_cons (da_frz (de_var 4 rfl)) da_nil) (fun _ _ _ q => argsM_len q)) (de_call rfl tk (ok_box E hcl hlam) (hr.mono (by decide)) (by rfl) E.g_box E.F_box.kp E.b_box (da_cons (da_frz (de_var 5 rfl)) da_nil) (fun _ _ _ q => argsM_len q)))) da_nil)) (fun _ _ _ q => argsM_len q)))) (ds_one (ds_ret de_bl)) ds_nil)
    (ds_cons (ds_if (dt_cmp (op_neD hr.units) sc_ne (de_call rfl tk (ok_box E hcl hlam) (hr.mono (by decide)) (by rfl) E.g_box E.F_box.kp E.b_box (da_cons (da_frz (de_comp (own := [("_law_k", 6)]) rfl sc_law.nd (List.forall_mem_cons.mpr ⟨⟨rfl, rfl⟩, (fun _ h => nomatch h)⟩) (fun _ h => h) (quiet_name 6) (di_range1 (by rfl) E.m_range (de_var 3 rfl)) (blkOk_by (N := N_law) (sc := defScope s_law) (by decide +kernel)) (fun _ _ _ _ _ => (dg_name (i := 6) rfl sc_law.nd rfl (by first | exact Or.inl rfl | exact Or.inr rfl))) (fun _ _ _ _ _ => dts_nil) (fun _ _ _ _ _ => (de_comp (own := [("_law_row", 7)]) rfl sc_law.nd (List.forall_mem_cons.mpr ⟨⟨rfl, rfl⟩, (fun _ h => nomatch h)⟩) (fun _ h => h) (quiet_name 7) (di_seq rfl (de_var 4 rfl)) (blkOk_by (N := N_law) (by rfl)) (fun _ _ _ _ _ => (dg_name (i := 7) rfl sc_law.nd rfl (by first | exact Or.inl rfl | exact Or.inr rfl))) (fun _ _ _ _ _ => dts_nil) (fun _ _ _ _ _ => (de_ixA rfl (de_varF 7) (de_varF 6))))))) da_nil) (fun _ _ _ q => argsM_len q)) (de_call rfl tk (ok_box E hcl hlam) (hr.mono (by decide)) (by rfl) E.g_box E.F_box.kp E.b_box (da_cons (da_frz (de_var 4 rfl)) da_nil) (fun _ _ _ q => argsM_len q)) (nomark _)) (ds_one (ds_ret de_bl)) ds_nil)
    (ds_one (ds_if (dt_cmp op_gt sc_gt (de_var 3 rfl) de_int (nomark _)) (ds_cons (ds_set (i := 6) sc_law.nd rfl (by first | exact Or.inl rfl | exact Or.inr rfl) rfl (de_callR rfl tk (ok__law_pull E hcl hlam) (hr.mono (by decide)) (by rfl) E.g__law_pull E.F__law_pull.kp E.b__law_pull (da_cons (de_var 1 rfl) (da_cons (da_frz (de_var 3 rfl)) da_nil)) (fun _ _ _ q => argsM_len q)))
    (ds_cons (ds_set (i := 10) sc_law.nd rfl (by first | exact Or.inl rfl | exact Or.inr rfl) rfl (de_op op_mod sc_mod (de_add rfl (de_add rfl (de_varF 6) de_int) (de_callR rfl tk (ok__law_pull E hcl hlam) (hr.mono (by decide)) (by rfl) E.g__law_pull E.F__law_pull.kp E.b__law_pull (da_cons (de_var 1 rfl) (da_cons (da_frz (de_op op_sub sc_sub (de_var 3 rfl) de_int)) da_nil)) (fun _ _ _ q => argsM_len q))) (de_var 3 rfl)))
    (ds_cons (ds_set (i := 11) sc_law.nd rfl (by first | exact Or.inl rfl | exact Or.inr rfl) rfl (de_op op_sub sc_sub (de_callR rfl tk (ok__law_pull E hcl hlam) (hr.mono (by decide)) (by rfl) E.g__law_pull E.F__law_pull.kp E.b__law_pull (da_cons (de_var 1 rfl) (da_cons de_int da_nil)) (fun _ _ _ q => argsM_len q)) de_int))
    (ds_cons (ds_setComp (i := 12) (own := [("_law_row", 7)]) rfl rfl sc_law.nd rfl rfl (sw_true rfl rfl rfl (by decide +kernel)) (List.forall_mem_cons.mpr ⟨⟨rfl, rfl⟩, (fun _ h => nomatch h)⟩) (fun _ h => h) (quiet_name 7) (di_seq rfl (de_var 4 rfl)) (blkOk_by (N := N_law) (sc := defScope s_law) (by decide +kernel)) (fun _ _ _ _ _ => (dg_name (i := 7) rfl sc_law.nd rfl (by first | exact Or.inl rfl | exact Or.inr rfl))) (fun _ _ _ _ _ => dts_nil) (fun _ _ _ _ _ => (de_list rfl (by rfl) E.m_list (de_varF 7))))
    (ds_cons (ds_asg (quiet_sub (varM 12) (varF 10)) (de_comp (own := [("_law_a", 13), ("_law_b", 14)]) rfl sc_law.nd (List.forall_mem_cons.mpr ⟨⟨rfl, rfl⟩, (List.forall_mem_cons.mpr ⟨⟨rfl, rfl⟩, (fun _ h => nomatch h)⟩)⟩) (fun _ h => h) (quiet_tup [13, 14]) (di_zip rfl (by rfl) E.m_zip (de_ixA rfl (de_var 4 rfl) (de_varF 10)) (de_ixA rfl (de_var 4 rfl) (de_varF 6))) (blkOk_by (N := N_law) (sc := defScope s_law) (by decide +kernel)) (fun _ _ _ _ _ => (dg_tup [13, 14] rfl rfl (List.forall_mem_cons.mpr ⟨rfl, (List.forall_mem_cons.mpr ⟨rfl, (fun _ h => nomatch h)⟩)⟩) (pg_tup rfl (pgs_cons (pg_name (i := 13) sc_law.nd rfl (by first | exact Or.inl rfl | exact Or.inr rfl)) (pgs_cons (pg_name (i := 14) sc_law.nd rfl (by first | exact Or.inl rfl | exact Or.inr rfl)) pgs_nil))))) (fun _ _ _ _ _ => dts_nil) (fun _ _ _ _ _ => (de_add rfl (de_varF 13) (de_mul (de_var 11 rfl) (de_varF 14))))) (dg_sub (W := WE' Ex) (de_var 12 rfl) (de_varF 10)))
    (ds_cons (ds_if (dt_cmp (op_neD hr.units) sc_ne (de_call rfl tk (ok_box E hcl hlam) (hr.mono (by decide)) (by rfl) E.g_box E.F_box.kp E.b_box (da_cons (de_var 12 rfl) da_nil) (fun _ _ _ q => argsM_len q)) (de_call rfl tk (ok_box E hcl hlam) (hr.mono (by decide)) (by rfl) E.g_box E.F_box.kp E.b_box (da_cons (da_frz (de_var 4 rfl)) da_nil) (fun _ _ _ q => argsM_len q)) (nomark _)) (ds_one (ds_ret de_bl)) ds_nil)
    (ds_cons (ds_setComp (i := 12) (own := [("_law_row", 7)]) rfl rfl sc_law.nd rfl rfl (sw_true rfl rfl rfl (by decide +kernel)) (List.forall_mem_cons.mpr ⟨⟨rfl, rfl⟩, (fun _ h => nomatch h)⟩) (fun _ h => h) (quiet_name 7) (di_seq rfl (de_var 4 rfl)) (blkOk_by (N := N_law) (sc := defScope s_law) (by decide +kernel)) (fun _ _ _ _ _ => (dg_name (i := 7) rfl sc_law.nd rfl (by first | exact Or.inl rfl | exact Or.inr rfl))) (fun _ _ _ _ _ => dts_nil) (fun _ _ _ _ _ => (de_list rfl (by rfl) E.m_list (de_varF 7))))
    (ds_cons (ds_asg (quiet_tupGs (quiet_cons (quiet_sub (varM 12) (varF 10)) (quiet_cons (quiet_sub (varM 12) (varF 6)) quiet_nil))) (de_tup (da_cons (da_frz (de_ixA rfl (de_var 4 rfl) (de_varF 6))) (da_cons (da_frz (de_ixA rfl (de_var 4 rfl) (de_varF 10))) da_nil))) (dg_tupGs rfl rfl (dgs_cons (quiet_sub (varM 12) (varF 10)) (dg_sub (W := WE' Ex) (de_var 12 rfl) (de_varF 10)) (dgs_cons (quiet_sub (varM 12) (varF 6)) (dg_sub (W := WE' Ex) (de_var 12 rfl) (de_varF 6)) dgs_nil))))
    (ds_one (ds_if (PW.pt (dw_or (dt_cmp (op_neD hr.units) sc_ne (de_call rfl tk (ok_box E hcl hlam) (hr.mono (by decide)) (by rfl) E.g_box E.F_box.kp E.b_box (da_cons (de_var 12 rfl) da_nil) (fun _ _ _ q => argsM_len q)) (de_op op_sub sc_sub de_int (de_call rfl tk (ok_box E hcl hlam) (hr.mono (by decide)) (by rfl) E.g_box E.F_box.kp E.b_box (da_cons (da_frz (de_var 4 rfl)) da_nil) (fun _ _ _ q => argsM_len q))) (nomark _)) (dw_or1 (dt_cmp (op_neD hr.units) sc_ne (de_call rfl tk (ok_box_sign E hcl hlam) (hr.mono (by decide)) (by rfl) E.g_box_sign E.F_box_sign.kp E.b_box_sign (da_cons (de_var 12 rfl) da_nil) (fun _ _ _ q => argsM_len q)) (de_op op_sub sc_sub de_int (de_call rfl tk (ok_box_sign E hcl hlam) (hr.mono (by decide)) (by rfl) E.g_box_sign E.F_box_sign.kp E.b_box_sign (da_cons (da_frz (de_var 4 rfl)) da_nil) (fun _ _ _ q => argsM_len q))) (nomark _))))) (ds_one (ds_ret de_bl)) ds_nil)))))))))) ds_nil)))))))))))
    (ds_one (ds_ret de_bl))))
end
end DL
set_option maxHeartbeats 1000000
namespace DL
open PySem L2
/-! ### drawing, numbers of nine figures -/
theorem big_lt {i : Int} {k : Nat} (hk : k ≤ 1000) (h : i.natAbs < 2 ^ k) : bigOk i = true := decide_eq_true (Nat.lt_of_lt_of_le h (Nat.pow_le_pow_right (by decide) hk))
theorem div_big {z m : Int} (h0 : 0 < m) (h1 : m < 4294967296) : divBD (.int z) (.int m) = some (.int (z.fdiv m)) := by
  have hb : bigOk m = true := big_lt (k := 32) (by decide) (by have : (2 : Nat) ^ 32 = 4294967296 := by decide
                                                               omega)
  show (if (bigOk m && decide (m ≠ 0)) = true then some (D.int (z.fdiv m)) else none) = _
  rw [hb, decide_eq_true (show m ≠ 0 by omega)]
  rfl
/-! ### drawing: this row's own -/
theorem pull_ok (b : Bag) (hb : b.Ok) (m : Int) (h0 : 0 < m) (h1 : m < 4294967296) : Drawn m (F__law_pull [b.t, .fz (.int m)]) := by
  obtain ⟨cs, p, c, s, n⟩ := b
  obtain ⟨p0, s0, s1⟩ := hb
  simp only at p0 s0 s1
  have e1 : small64 6151 = true := by decide
  have e2 : ∀ z : Int, small64 (z % 2147483629) = true := fun z => small_of (by omega) (by omega)
  have e3 : ∀ z : Int, small64 (z % 2147483587) = true := fun z => small_of (by omega) (by omega)
  have e4 : small64 30013 = true := by decide
  have e5 : small64 37 = true := by decide
  have e6 : small64 31337 = true := by decide
  have p1 : 0 ≤ p + 1 := by omega
  have hm : m ≠ 0 := by omega
  have g0 : ∀ z : Int, 0 ≤ z % m := fun z => Int.emod_nonneg _ hm
  have g1 : ∀ z : Int, z % m < m := fun z => Int.emod_lt_of_pos _ h0
  have g2 : ∀ z : Int, 0 ≤ z % 2147483629 := fun z => Int.emod_nonneg _ (by decide)
  have g3 : ∀ z : Int, z % 2147483629 < 2147483629 := fun z => Int.emod_lt_of_pos _ (by decide)
  have hdv : ∀ z : Int, divBD (.int z) (.int m) = some (.int (z.fdiv m)) := fun z => div_big h0 h1
  by_cases hc : c < 1
  · have hc0 : ¬ 0 < c := by omega
    by_cases hp : p < (cs.length : Int)
    · have hx : ∃ x, atI (cs.map D.int) p = some (.int x) := by
        have hlt : p.toNat < cs.length := by omega
        exact ⟨cs[p.toNat], atI_of p0 (by rw [List.getElem?_map, List.getElem?_eq_getElem hlt]; rfl)⟩
      obtain ⟨x, hx⟩ := hx
      by_cases hbig : (1000000000000000000 : Int) ≤ x
      · have hx0 : 0 < x := by omega
        simp [F__law_pull, den__law_pull, Bag.t, hc, hp, hx, hbig, hx0, h0, hdv]
        exact drawn_mk p1 s0 s1 (g0 _) (g1 _)
      · simp [F__law_pull, den__law_pull, Bag.t, hc, hp, hx, hbig, hc0, h0, hdv, e1, e2, e3, e4, e5, e6]
        exact drawn_mk p1 (g2 _) (g3 _) (g0 _) (g1 _)
    · simp [F__law_pull, den__law_pull, Bag.t, hc, hp, hc0, h0, hdv, e1, e2, e3, e4, e5, e6]
      exact drawn_mk p0 (g2 _) (g3 _) (g0 _) (g1 _)
  · have hc0 : 0 < c := by omega
    simp [F__law_pull, den__law_pull, Bag.t, hc, hc0, h0, hdv]
    exact drawn_mk p0 s0 s1 (g0 _) (g1 _)
theorem of_ok (b : Bag) (hb : b.Ok) (ds : List D) (h0 : 0 < ds.length) (h1 : ds.length < 1073741824) : ∃ (d : D) (b' : Bag) (Γ' : Env), d ∈ ds ∧ b'.Ok ∧ F__law_of [b.t, .fz (.lst ds)] = .ok (.fz d) (some b'.t :: Γ') := by
  obtain ⟨r, b', Γ', hb', r0, r1, e⟩ := pull_ok b hb ds.length (by omega) (by omega)
  have hlt : r.toNat < ds.length := by omega
  have hx : atI ds r = some ds[r.toNat] := atI_of r0 (List.getElem?_eq_getElem hlt)
  refine ⟨ds[r.toNat], b', [some (.fz (.lst ds))], List.getElem_mem hlt, hb', ?_⟩
  simp [F__law_of, den__law_of, e, hx]
theorem bag_ok (ns : List Int) (h : ns.length ≤ 63) : ∃ b : Bag, b.Ok ∧ Gives (F__law_bag [.fz (.scr ns)]) b.t := by
  have key : ∀ (cs : List Int) (s : Int) (o : Option T), 0 ≤ s → s < 2147483629 → ∃ s' o', 0 ≤ s' ∧ s' < 2147483629 ∧ loopM (nameG 2) (setM 1 (op2 modD (addM (addM (mulM (varM 1) (constM (.int 60013))) (varM 2)) (constM (.int 5))) (constM (.int 2147483629)))) (cs.map D.int) [some (.fz (.scr ns)), some (.fz (.int s)), o] = .ok .next [some (.fz (.scr ns)), some (.fz (.int s')), o'] := by
    intro cs
    induction cs with
    | nil => exact fun s o h0 h1 => ⟨s, o, h0, h1, rfl⟩
    | cons c cs ih =>
      intro s o h0 h1
      have e4 : small64 60013 = true := by decide
      obtain ⟨s', o', g0, g1, g⟩ := ih ((s * 60013 + c + 5) % 2147483629) (some (.fz (.int c))) (Int.emod_nonneg _ (by decide)) (Int.emod_lt_of_pos _ (by decide))
      refine ⟨s', o', g0, g1, ?_⟩
      rw [← g]
      simp [e4]
  have hc : cutL (ns.map D.int) none (some 63) = ns.map D.int := cut_le (n := 63) (by rw [List.length_map]; exact h)
  obtain ⟨s', o', g0, g1, g⟩ := key ns 977 none (by decide) (by decide)
  refine ⟨⟨ns, 0, 0, s', 0⟩, ⟨Int.le_refl _, g0, g1⟩, ?_⟩
  simp [-List.map_map, F__law_bag, den__law_bag, hc, g, sizeLine]
  rfl
/-! ### sameness: this row's own -/
theorem same_ok : ∀ (k n : Nat) (d : D), n < k → d.sm n = true → Gives (F__law_same k [.fz d, .fz d]) (.fz (.bl true))
  | 0, n, d, h, _ => absurd h (Nat.not_lt_zero _)
  | k + 1, n, d, h, hs => by
    have sq : ∀ (q : D) (xs : List D), (q = .lst xs ∨ q = .tup xs) → q.sm n = true → Gives (F__law_same (k + 1) [.fz q, .fz q]) (.fz (.bl true)) := by
      intro q xs hq hs
      have hxs : ∃ m, n = m + 1 ∧ xs.length ≤ sizeLine ∧ D.sms m xs = true := by
        cases n with
        | zero => rcases hq with rfl | rfl <;> unfold D.sm at hs <;> cases hs
        | succ m =>
          refine ⟨m, rfl, ?_⟩
          rcases hq with rfl | rfl <;> simp only [sm_lst, sm_tup, Bool.and_eq_true, decide_eq_true_eq] at hs <;> exact hs
      obtain ⟨m, rfl, hl, hm⟩ := hxs
      have hr := rng_nat hl
      have hc : compL [2] (nameG 2) (retM true) (call0 (F__law_same k) (argsM [(frozen (ixA (varM 0) (varF 2))), (frozen (ixA (varM 1) (varF 2)))])) (rangeL 0 xs.length) [some (.fz q), some (.fz q), none] = .ok (trues xs.length) [some (.fz q), some (.fz q), none] := by
        refine comp_map _ _ (by simp [rangeL, trues]) fun i d e hd he => ?_
        have hi : i < xs.length := by
          have := (List.getElem?_eq_some_iff.mp hd).1
          simpa [rangeL] using this
        have h1 : d = .int (i : Int) := by
          have := (List.getElem?_eq_some_iff.mp hd).2
          simpa [rangeL] using this.symm
        have h2 : e = .bl true := by
          have := (List.getElem?_eq_some_iff.mp he).2
          simpa [trues] using this.symm
        subst h1 h2
        have hx : atI xs (i : Int) = some xs[i] := atI_nat (List.getElem?_eq_getElem hi)
        obtain ⟨Γ', g⟩ := same_ok k m xs[i] (by omega) (D.sms_mem hm (List.getElem_mem hi))
        rcases hq with rfl | rfl <;> simp [hx, g]
      rcases hq with rfl | rfl <;> simp [F__law_same, den__law_same, isTy, hr, hc]
    cases d with
    | non => simp [F__law_same, den__law_same]
    | bl b => simp [F__law_same, den__law_same, isTy]
    | int i => simp [F__law_same, den__law_same, isTy]
    | str x =>
      have hx : PyData.strOk x = true := by unfold D.sm at hs; exact hs
      simp [F__law_same, den__law_same, isTy, hx]
    | lst xs => exact sq _ xs (.inl rfl) hs
    | tup xs => exact sq _ xs (.inr rfl) hs
    | scr ns => unfold D.sm at hs; cases hs
    | dK _ => unfold D.sm at hs; cases hs
    | dT _ => unfold D.sm at hs; cases hs
    | ins _ _ => unfold D.sm at hs; cases hs
    | clo _ => unfold D.sm at hs; cases hs
/-! ### boxes as data -/
open BX
def rowD (n : Nat) (f : Nat → Int) : List D := (List.range n).map fun j => D.int (f j)
def rowT (n : Nat) (f : Nat → Int) : List T := (List.range n).map fun j => T.fz (.int (f j))
def gridT (n : Nat) (A : Mx) : List T := (List.range n).map fun i => T.ol (rowT n (A i))
def matD (n : Nat) (A : Mx) : List D := (List.range n).map fun i => D.lst (rowD n (A i))
def matU (n : Nat) (A : Mx) : List D := (List.range n).map fun i => D.tup (rowD n (A i))
@[simp] theorem rowD_len {n : Nat} {f : Nat → Int} : (rowD n f).length = n := by simp [rowD]
@[simp] theorem rowT_len {n : Nat} {f : Nat → Int} : (rowT n f).length = n := by simp [rowT]
@[simp] theorem gridT_len {n : Nat} {A : Mx} : (gridT n A).length = n := by simp [gridT]
@[simp] theorem matD_len {n : Nat} {A : Mx} : (matD n A).length = n := by simp [matD]
@[simp] theorem matU_len {n : Nat} {A : Mx} : (matU n A).length = n := by simp [matU]
theorem toDs_map {α : Type} {f : α → T} {g : α → D} (h : ∀ a, (f a).toD = some (g a)) : ∀ l : List α, T.toDs (l.map f) = some (l.map g)
  | [] => rfl
  | a :: l => by
    show T.toDs (f a :: l.map f) = some (g a :: l.map g)
    unfold T.toDs
    rw [h a, toDs_map h l]
@[simp] theorem toDs_row {n : Nat} {f : Nat → Int} : T.toDs (rowT n f) = some (rowD n f) := toDs_map (fun _ => rfl) _
@[simp] theorem toDs_grid {n : Nat} {A : Mx} : T.toDs (gridT n A) = some (matD n A) := toDs_map (fun i => by
  show (T.toDs (rowT n (A i))).map D.lst = _
  rw [toDs_row]
  rfl) _
@[simp] theorem toD_grid {n : Nat} {A : Mx} : T.toD (.ol (gridT n A)) = some (.lst (matD n A)) := by
  show (T.toDs (gridT n A)).map D.lst = _
  rw [toDs_grid]
  rfl
theorem atI_range {α : Type} {n i : Nat} {f : Nat → α} (h : i < n) : atI ((List.range n).map f) (i : Int) = some (f i) := atI_nat (by simp [h])
theorem ixN_lt {n i : Nat} (h : i < n) : ixN n (i : Int) = some i := by
  unfold ixN
  simp
  omega
@[simp] theorem at_row {n i : Nat} {f : Nat → Int} (h : i < n) : atI (rowD n f) (i : Int) = some (.int (f i)) := atI_range h
@[simp] theorem at_mat {n i : Nat} {A : Mx} (h : i < n) : atI (matD n A) (i : Int) = some (.lst (rowD n (A i))) := atI_range h
theorem grid_get {n i : Nat} {A : Mx} (h : i < n) : (gridT n A)[i]? = some (.ol (rowT n (A i))) := by simp [gridT, h]
theorem map_range_ext {α : Type} {n : Nat} {f g : Nat → α} (h : ∀ i, i < n → f i = g i) : (List.range n).map f = (List.range n).map g := List.map_congr_left fun i hi => h i (List.mem_range.mp hi)
theorem row_ext {n : Nat} {f g : Nat → Int} (h : ∀ j, j < n → f j = g j) : rowT n f = rowT n g := map_range_ext fun j hj => by rw [h j hj]
theorem rowD_ext {n : Nat} {f g : Nat → Int} (h : ∀ j, j < n → f j = g j) : rowD n f = rowD n g := map_range_ext fun j hj => by rw [h j hj]
theorem grid_ext {n : Nat} {A B : Mx} (h : ∀ i j, i < n → j < n → A i j = B i j) : gridT n A = gridT n B := map_range_ext fun i hi => by rw [row_ext fun j hj => h i j hi hj]
theorem mat_ext {n : Nat} {A B : Mx} (h : ∀ i j, i < n → j < n → A i j = B i j) : matD n A = matD n B := map_range_ext fun i hi => by rw [rowD_ext fun j hj => h i j hi hj]
theorem set_range {α : Type} {n a : Nat} {f : Nat → α} {v : α} : ((List.range n).map f).set a v = (List.range n).map fun i => if i = a then v else f i := by
  apply List.ext_getElem?
  intro i
  by_cases h : i < n
  · by_cases e : a = i
    · subst e
      rw [List.getElem?_set_self (by simpa using h)]
      simp [h]
    · rw [List.getElem?_set_ne e]
      simp [h, Ne.symm e]
  · rw [List.getElem?_eq_none (by simp; omega), List.getElem?_eq_none (by simp; omega)]
def up (A : Mx) (a b : Nat) (v : Int) : Mx := fun i j => if i = a ∧ j = b then v else A i j
theorem nestR_grid {Γ : Env} {i j k n a b : Nat} {A : Mx} (hi : Γ[i]? = some (some (.ol (gridT n A)))) (hj : intAt Γ j = some (a : Int)) (hk : intAt Γ k = some (b : Int)) (ha : a < n) (hb : b < n) : nestR i j k Γ = .ok (.fz (.int (A a b))) Γ := by
  have hl : look Γ (.al i) = some (.lst (matD n A)) := by
    unfold look
    simp only [hi]
    exact toD_grid
  have h1 : rowAt (.lst (matD n A)) (a : Int) = some (.lst (rowD n (A a))) := at_mat ha
  have h2 : rowAt (.lst (rowD n (A a))) (b : Int) = some (.int (A a b)) := at_row hb
  unfold nestR
  simp only [hl, hj, hk, h1, Option.bind_some, h2]
theorem nestS_grid {Γ : Env} {i j k n a b : Nat} {A : Mx} {v : Int} (hi : Γ[i]? = some (some (.ol (gridT n A)))) (hj : intAt Γ j = some (a : Int)) (hk : intAt Γ k = some (b : Int)) (ha : a < n) (hb : b < n) : nestS i j k (.int v) Γ = .ok () (Γ.set i (some (.ol (gridT n (up A a b v))))) := by
  have h1 : nestT (gridT n A) a b (.int v) = some (gridT n (up A a b v)) := by
    unfold nestT
    simp only [gridT_len, ixN_lt ha, grid_get ha, rowT_len, ixN_lt hb]
    congr 1
    unfold gridT rowT
    rw [set_range, set_range]
    refine map_range_ext fun i _ => ?_
    by_cases e : i = a
    · subst e
      rw [if_pos rfl]
      congr 1
      refine map_range_ext fun j _ => ?_
      by_cases e : j = b
      · subst e
        simp [up]
      · simp [up, e]
    · rw [if_neg e]
      congr 1
      refine map_range_ext fun j _ => ?_
      simp [up, e]
  unfold nestS
  simp only [hi, hj, hk, h1]
theorem swap_range {α : Type} {n a b : Nat} {f : Nat → α} : (((List.range n).map f).set a (f b)).set b (f a) = (List.range n).map fun i => f (if i = a then b else if i = b then a else i) := by
  rw [set_range, set_range]
  refine map_range_ext fun i _ => ?_
  by_cases e : i = b
  · subst e
    rw [if_pos rfl]
    by_cases e2 : i = a
    · subst e2; rw [if_pos rfl]
    · rw [if_neg e2, if_pos rfl]
  · rw [if_neg e]
    by_cases e2 : i = a
    · subst e2; rw [if_pos rfl, if_pos rfl]
    · rw [if_neg e2, if_neg e2, if_neg e]
theorem swapS_grid {Γ : Env} {i j k n a b : Nat} {A : Mx} (hi : Γ[i]? = some (some (.ol (gridT n A)))) (hj : intAt Γ j = some (a : Int)) (hk : intAt Γ k = some (b : Int)) (ha : a < n) (hb : b < n) : swapS i j k Γ = .ok .next (Γ.set i (some (.ol (gridT n (swp A a b))))) := by
  have h1 : swapT (gridT n A) a b = some (gridT n (swp A a b)) := by
    unfold swapT
    simp only [gridT_len, ixN_lt ha, ixN_lt hb, grid_get ha, grid_get hb]
    congr 1
    exact swap_range (f := fun i => T.ol (rowT n (A i)))
  unfold swapS
  simp only [hi, hj, hk, h1]
/-! ### the worth of a box: the program's reckoning -/
def leadF (B : Mx) (p : Nat) : Nat → Nat → Option Nat
  | 0, _ => none
  | m + 1, a => if B a p ≠ 0 then some a else leadF B p m (a + 1)
theorem rangeL_nat (a m : Nat) : rangeL (a : Int) (m + 1) = .int (a : Int) :: rangeL ((a + 1 : Nat) : Int) m := by
  rw [rangeL_succ]
  rfl
theorem led_loop (n p : Nat) (B : Mx) (hp : p < n) : ∀ (m a : Nat) (o : Option T), a + m = n → ∃ o', loopM (nameG 2) (ifS (boolM (op2 neD (nestR 0 2 1) (constM (.int 0)))) (retX 2) skipM) (rangeL (a : Int) m) [some (.ol (gridT n B)), some (.fz (.int (p : Int))), o] =
    (match leadF B p m a with
      | some t => .ok (.ret (.fz (.int (t : Int)))) [some (.ol (gridT n B)), some (.fz (.int (p : Int))), o']
      | none => .ok .next [some (.ol (gridT n B)), some (.fz (.int (p : Int))), o'])
  | 0, a, o, h => ⟨o, rfl⟩
  | m + 1, a, o, h => by
    have hr : nestR 0 2 1 [some (.ol (gridT n B)), some (.fz (.int (p : Int))), some (.fz (.int (a : Int)))] = .ok (.fz (.int (B a p))) [some (.ol (gridT n B)), some (.fz (.int (p : Int))), some (.fz (.int (a : Int)))] := nestR_grid (n := n) (a := a) (b := p) rfl rfl rfl (by omega) hp
    by_cases hz : B a p = 0
    · obtain ⟨o', e⟩ := led_loop n p B hp m (a + 1) (some (.fz (.int (a : Int)))) (by omega)
      refine ⟨o', ?_⟩
      unfold leadF
      rw [if_neg (fun z => z hz), rangeL_nat, ← e]
      simp [hr, hz]
    · refine ⟨some (.fz (.int (a : Int))), ?_⟩
      unfold leadF
      rw [if_pos hz, rangeL_nat]
      simp [hr, hz]
theorem rng_nats {a b : Nat} (h : b ≤ 1000) (h2 : a ≤ 1000) : rngOk (a : Int) (b : Int) = true := by
  have : 1000 ≤ sizeLine := by decide
  simp only [rngOk, Bool.and_eq_true, decide_eq_true_eq]
  omega
theorem led_ok (n p : Nat) (B : Mx) (hp : p < n) (hn : n ≤ 1000) : ∃ o', F_led_row [.ol (gridT n B), .fz (.int (p : Int))] =
    (match leadF B p (n - p) p with
      | some t => .ok (.fz (.int (t : Int))) [some (.ol (gridT n B)), some (.fz (.int (p : Int))), o']
      | none => .ok (.fz .non) [some (.ol (gridT n B)), some (.fz (.int (p : Int))), o']) := by
  obtain ⟨o', e⟩ := led_loop n p B hp (n - p) p none (by omega)
  have hr := rng_nats (a := p) hn (by omega)
  have ht : ((n : Int) - (p : Int)).toNat = n - p := by omega
  refine ⟨o', ?_⟩
  cases hl : leadF B p (n - p) p with
  | some t =>
    rw [hl] at e
    simp [F_led_row, den_led_row, hr, ht, e]
  | none =>
    rw [hl] at e
    simp [F_led_row, den_led_row, hr, ht, e]
theorem lead_some {B : Mx} {p : Nat} : ∀ {m a t : Nat}, leadF B p m a = some t → a ≤ t ∧ t < a + m ∧ B t p ≠ 0
  | 0, a, t, h => by cases h
  | m + 1, a, t, h => by
    unfold leadF at h
    by_cases hz : B a p = 0
    · rw [if_neg (fun z => z hz)] at h
      obtain ⟨h1, h2, h3⟩ := lead_some h
      exact ⟨by omega, by omega, h3⟩
    · rw [if_pos hz] at h
      cases h
      exact ⟨Nat.le_refl _, by omega, hz⟩
theorem lead_none {B : Mx} {p : Nat} : ∀ {m a : Nat}, leadF B p m a = none → ∀ i, a ≤ i → i < a + m → B i p = 0
  | 0, a, _, i, h1, h2 => by omega
  | m + 1, a, h, i, h1, h2 => by
    unfold leadF at h
    by_cases hz : B a p = 0
    · rw [if_neg (fun z => z hz)] at h
      by_cases e : i = a
      · rw [e]; exact hz
      · exact lead_none h i (by omega) (by omega)
    · rw [if_pos hz] at h
      cases h
abbrev wCol : M Flow := (seqM (setM 9 (op2 subD (op2 mulBD (nestR 1 7 8) (nestR 1 5 5)) (op2 mulBD (nestR 1 7 5) (nestR 1 5 8)))) (asgM (op2 divBD (varM 9) (varM 3)) (nestS 1 7 8)))
abbrev wRow : M Flow := (forM (range2 (addM (varM 5) (constM (.int 1))) (callD lenD (argsM [(varM 1)]))) (nameG 8) wCol)
abbrev wTurn : M Flow := (seqM (setM 6 (callR F_led_row (argsM [(varM 1), (frozen (varM 5))])))
    (seqM (ifS (boolM (op2 isNonD (varM 6) (constM .non))) (retS (constM (.int 0))) skipM)
    (seqM (ifS (boolM (op2 neD (varM 6) (varM 5))) (seqM (swapS 1 5 6)
    (setM 4 (op2 subD (constM (.int 0)) (varM 4)))) skipM)
    (seqM (forM (range2 (addM (varM 5) (constM (.int 1))) (callD lenD (argsM [(varM 1)]))) (nameG 7) wRow)
    (setM 3 (nestR 1 5 5))))))
def wst (R : T) (n : Nat) (B : Mx) (b : Int) (x4 : Option T) (p : Nat) (x6 x7 x8 x9 : Option T) : Env := [some R, some (.ol (gridT n B)), none, some (.fz (.int b)), x4, some (.fz (.int (p : Int))), x6, x7, x8, x9]
theorem mul_big {i j : Int} (h1 : bigOk i = true) (h2 : bigOk j = true) : mulBD (.int i) (.int j) = some (.int (i * j)) := by
  show (if (bigOk i && bigOk j) = true then some (D.int (i * j)) else none) = _
  rw [h1, h2]
  rfl
theorem divB {i j : Int} (h1 : bigOk j = true) (h2 : j ≠ 0) : divBD (.int i) (.int j) = some (.int (i.fdiv j)) := by
  show (if (bigOk j && decide (j ≠ 0)) = true then some (D.int (i.fdiv j)) else none) = _
  rw [h1, decide_eq_true h2]
  rfl
theorem wCol_ok {R : T} {n p l c : Nat} {B : Mx} {b : Int} (x4 x6 x9 : Option T) (hp : p < n) (hl : l < n) (hc : c < n) (hb : bigOk b = true) (hb0 : b ≠ 0) (h1 : bigOk (B l c) = true) (h2 : bigOk (B p p) = true) (h3 : bigOk (B l p) = true) (h4 : bigOk (B p c) = true) :
    ∃ o9, wCol (wst R n B b x4 p x6 (some (.fz (.int (l : Int)))) (some (.fz (.int (c : Int)))) x9) = .ok .next (wst R n (up B l c ((B l c * B p p - B l p * B p c).fdiv b)) b x4 p x6 (some (.fz (.int (l : Int)))) (some (.fz (.int (c : Int)))) o9) := by
  have r1 : nestR 1 7 8 (wst R n B b x4 p x6 (some (.fz (.int (l : Int)))) (some (.fz (.int (c : Int)))) x9) = .ok (.fz (.int (B l c))) (wst R n B b x4 p x6 (some (.fz (.int (l : Int)))) (some (.fz (.int (c : Int)))) x9) := nestR_grid (n := n) (a := l) (b := c) rfl rfl rfl hl hc
  have r2 : nestR 1 5 5 (wst R n B b x4 p x6 (some (.fz (.int (l : Int)))) (some (.fz (.int (c : Int)))) x9) = .ok (.fz (.int (B p p))) (wst R n B b x4 p x6 (some (.fz (.int (l : Int)))) (some (.fz (.int (c : Int)))) x9) := nestR_grid (n := n) (a := p) (b := p) rfl rfl rfl hp hp
  have r3 : nestR 1 7 5 (wst R n B b x4 p x6 (some (.fz (.int (l : Int)))) (some (.fz (.int (c : Int)))) x9) = .ok (.fz (.int (B l p))) (wst R n B b x4 p x6 (some (.fz (.int (l : Int)))) (some (.fz (.int (c : Int)))) x9) := nestR_grid (n := n) (a := l) (b := p) rfl rfl rfl hl hp
  have r4 : nestR 1 5 8 (wst R n B b x4 p x6 (some (.fz (.int (l : Int)))) (some (.fz (.int (c : Int)))) x9) = .ok (.fz (.int (B p c))) (wst R n B b x4 p x6 (some (.fz (.int (l : Int)))) (some (.fz (.int (c : Int)))) x9) := nestR_grid (n := n) (a := p) (b := c) rfl rfl rfl hp hc
  have r5 : nestS 1 7 8 (.int ((B l c * B p p - B l p * B p c).fdiv b)) (wst R n B b x4 p x6 (some (.fz (.int (l : Int)))) (some (.fz (.int (c : Int)))) (some (.fz (.int (B l c * B p p - B l p * B p c))))) = .ok () (wst R n (up B l c ((B l c * B p p - B l p * B p c).fdiv b)) b x4 p x6 (some (.fz (.int (l : Int)))) (some (.fz (.int (c : Int)))) (some (.fz (.int (B l c * B p p - B l p * B p c))))) := nestS_grid (n := n) (a := l) (b := c) rfl rfl rfl hl hc
  have m1 := mul_big h1 h2
  have m2 := mul_big h3 h4
  have m3 := divB (i := B l c * B p p - B l p * B p c) hb hb0
  refine ⟨some (.fz (.int (B l c * B p p - B l p * B p c))), ?_⟩
  unfold wst at r1 r2 r3 r4 r5 ⊢
  simp [wCol, r1, r2, r3, r4, r5, m1, m2, m3]
/-- one row, the columns from c on -/
def rowUp (B : Mx) (p l : Nat) (b : Int) (c : Nat) : Mx := fun i j => if i = l ∧ c ≤ j then (B i j * B p p - B i p * B p j).fdiv b else B i j
theorem wCols {R : T} {n p l : Nat} {b : Int} {x4 x6 : Option T} (hp : p < l) (hl : l < n) (hb : bigOk b = true) (hb0 : b ≠ 0) : ∀ (m c : Nat) (B : Mx) (x8 x9 : Option T), c + m = n → p < c → bigOk (B p p) = true → bigOk (B l p) = true → (∀ j, c ≤ j → j < n → bigOk (B l j) = true ∧ bigOk (B p j) = true) →
    ∃ o8 o9, loopM (nameG 8) wCol (rangeL (c : Int) m) (wst R n B b x4 p x6 (some (.fz (.int (l : Int)))) x8 x9) = .ok .next (wst R n (rowUp B p l b c) b x4 p x6 (some (.fz (.int (l : Int)))) o8 o9)
  | 0, c, B, x8, x9, h, _, _, _, _ => by
    refine ⟨x8, x9, ?_⟩
    have e : gridT n (rowUp B p l b c) = gridT n B := grid_ext fun i j hi hj => by
      unfold rowUp
      rw [if_neg (by omega)]
    unfold wst
    rw [e]
    exact rfl
  | m + 1, c, B, x8, x9, h, hc, h1, h2, h3 => by
    obtain ⟨o9, e1⟩ := wCol_ok (R := R) (n := n) (p := p) (l := l) (c := c) (B := B) (b := b) x4 x6 x9 (by omega) hl (by omega) hb hb0 (h3 c (Nat.le_refl _) (by omega)).1 h1 h2 (h3 c (Nat.le_refl _) (by omega)).2
    generalize hv : (B l c * B p p - B l p * B p c).fdiv b = v at e1
    obtain ⟨q8, q9, e2⟩ := wCols (R := R) (x4 := x4) (x6 := x6) hp hl hb hb0 m (c + 1) (up B l c v) (some (.fz (.int (c : Int)))) o9 (by omega) (by omega) (by unfold up; rw [if_neg (by omega)]; exact h1) (by unfold up; rw [if_neg (by omega)]; exact h2) (fun j hj hjn => by
      unfold up
      rw [if_neg (by omega), if_neg (by omega)]
      exact h3 j (by omega) hjn)
    refine ⟨q8, q9, ?_⟩
    have e : gridT n (rowUp (up B l c v) p l b (c + 1)) = gridT n (rowUp B p l b c) := grid_ext fun i j hi hj => by
      unfold rowUp up
      by_cases c1 : i = l
      · subst c1
        by_cases c2 : j = c
        · subst c2
          rw [if_neg (by omega), if_pos ⟨rfl, rfl⟩, if_pos ⟨rfl, Nat.le_refl _⟩, hv]
        · by_cases c3 : c ≤ j
          · rw [if_pos ⟨rfl, by omega⟩, if_neg (by omega), if_neg (by omega), if_neg (by omega), if_neg (by omega), if_pos ⟨rfl, c3⟩]
          · rw [if_neg (by omega), if_neg (by omega), if_neg (by omega)]
      · rw [if_neg (by omega), if_neg (by omega), if_neg (by omega)]
    have e3 : wst R n (rowUp (up B l c v) p l b (c + 1)) b x4 p x6 (some (.fz (.int (l : Int)))) q8 q9 = wst R n (rowUp B p l b c) b x4 p x6 (some (.fz (.int (l : Int)))) q8 q9 := by
      unfold wst
      rw [e]
    rw [← e3, ← e2, rangeL_nat]
    show ((nameG 8 (.int (c : Int)) (wst R n B b x4 p x6 (some (.fz (.int (l : Int)))) x8 x9)).bind fun _ => bindM wCol (loopK (nameG 8) wCol (rangeL ((c + 1 : Nat) : Int) m))) = _
    have e4 : nameG 8 (.int (c : Int)) (wst R n B b x4 p x6 (some (.fz (.int (l : Int)))) x8 x9) = .ok () (wst R n B b x4 p x6 (some (.fz (.int (l : Int)))) (some (.fz (.int (c : Int)))) x9) := rfl
    rw [e4]
    show (wCol (wst R n B b x4 p x6 (some (.fz (.int (l : Int)))) (some (.fz (.int (c : Int)))) x9)).bind _ = _
    rw [e1]
    exact rfl
/-- the rows from l on -/
def rowsUp (B : Mx) (p : Nat) (b : Int) (l : Nat) : Mx := fun i j => if l ≤ i ∧ p < j then (B i j * B p p - B i p * B p j).fdiv b else B i j
theorem wRow_ok {R : T} {n p l : Nat} {B : Mx} {b : Int} (x4 x6 x8 x9 : Option T) (hn : n ≤ 1000) (hp : p < l) (hl : l < n) (hb : bigOk b = true) (hb0 : b ≠ 0) (h1 : bigOk (B p p) = true) (h2 : bigOk (B l p) = true) (h3 : ∀ j, p < j → j < n → bigOk (B l j) = true ∧ bigOk (B p j) = true) :
    ∃ o8 o9, wRow (wst R n B b x4 p x6 (some (.fz (.int (l : Int)))) x8 x9) = .ok .next (wst R n (rowUp B p l b (p + 1)) b x4 p x6 (some (.fz (.int (l : Int)))) o8 o9) := by
  obtain ⟨o8, o9, e⟩ := wCols (R := R) (x4 := x4) (x6 := x6) hp hl hb hb0 (n - (p + 1)) (p + 1) B x8 x9 (by omega) (by omega) h1 h2 (fun j hj => h3 j (by omega))
  refine ⟨o8, o9, ?_⟩
  have hr := rng_nats (a := p + 1) (b := n) hn (by omega)
  have ht : ((n : Int) - ((p + 1 : Nat) : Int)).toNat = n - (p + 1) := by omega
  rw [Int.natCast_add, show ((1 : Nat) : Int) = 1 from rfl] at hr ht e
  rw [← e]
  unfold wst
  simp [wRow, hr, ht]
theorem wRows {R : T} {n p : Nat} {b : Int} {x4 x6 : Option T} (hn : n ≤ 1000) (hb : bigOk b = true) (hb0 : b ≠ 0) : ∀ (m l : Nat) (B : Mx) (x7 x8 x9 : Option T), l + m = n → p < l → bigOk (B p p) = true → (∀ i, l ≤ i → i < n → bigOk (B i p) = true) → (∀ i j, l ≤ i → i < n → p < j → j < n → bigOk (B i j) = true ∧ bigOk (B p j) = true) →
    ∃ o7 o8 o9, loopM (nameG 7) wRow (rangeL (l : Int) m) (wst R n B b x4 p x6 x7 x8 x9) = .ok .next (wst R n (rowsUp B p b l) b x4 p x6 o7 o8 o9)
  | 0, l, B, x7, x8, x9, h, _, _, _, _ => by
    refine ⟨x7, x8, x9, ?_⟩
    have e : gridT n (rowsUp B p b l) = gridT n B := grid_ext fun i j hi hj => by
      unfold rowsUp
      rw [if_neg (by omega)]
    unfold wst
    rw [e]
    exact rfl
  | m + 1, l, B, x7, x8, x9, h, hp, h1, h2, h3 => by
    obtain ⟨o8, o9, e1⟩ := wRow_ok (R := R) (n := n) (p := p) (l := l) (B := B) (b := b) x4 x6 x8 x9 hn hp (by omega) hb hb0 h1 (h2 l (Nat.le_refl _) (by omega)) (fun j hj hjn => h3 l j (Nat.le_refl _) (by omega) hj hjn)
    obtain ⟨q7, q8, q9, e2⟩ := wRows (R := R) (p := p) (x4 := x4) (x6 := x6) hn hb hb0 m (l + 1) (rowUp B p l b (p + 1)) (some (.fz (.int (l : Int)))) o8 o9 (by omega) (by omega) (by unfold rowUp; rw [if_neg (by omega)]; exact h1) (fun i hi hin => by unfold rowUp; rw [if_neg (by omega)]; exact h2 i (by omega) hin) (fun i j hi hin hj hjn => by
      unfold rowUp
      rw [if_neg (by omega), if_neg (by omega)]
      exact h3 i j (by omega) hin hj hjn)
    refine ⟨q7, q8, q9, ?_⟩
    have e : gridT n (rowsUp (rowUp B p l b (p + 1)) p b (l + 1)) = gridT n (rowsUp B p b l) := grid_ext fun i j hi hj => by
      unfold rowsUp rowUp
      by_cases c1 : i = l
      · subst c1
        by_cases c2 : p < j
        · rw [if_neg (by omega), if_pos ⟨rfl, by omega⟩, if_pos ⟨Nat.le_refl _, c2⟩]
        · rw [if_neg (by omega), if_neg (by omega), if_neg (by omega)]
      · by_cases c3 : l ≤ i ∧ p < j
        · rw [if_pos ⟨by omega, c3.2⟩, if_neg (by omega), if_neg (by omega), if_neg (by omega), if_neg (by omega), if_pos c3]
        · rw [if_neg (by omega), if_neg (by omega), if_neg c3]
    have e3 : wst R n (rowsUp (rowUp B p l b (p + 1)) p b (l + 1)) b x4 p x6 q7 q8 q9 = wst R n (rowsUp B p b l) b x4 p x6 q7 q8 q9 := by
      unfold wst
      rw [e]
    rw [← e3, ← e2, rangeL_nat]
    show ((nameG 7 (.int (l : Int)) (wst R n B b x4 p x6 x7 x8 x9)).bind fun _ => bindM wRow (loopK (nameG 7) wRow (rangeL ((l + 1 : Nat) : Int) m))) = _
    have e4 : nameG 7 (.int (l : Int)) (wst R n B b x4 p x6 x7 x8 x9) = .ok () (wst R n B b x4 p x6 (some (.fz (.int (l : Int)))) x8 x9) := rfl
    rw [e4]
    show (wRow (wst R n B b x4 p x6 (some (.fz (.int (l : Int)))) x8 x9)).bind _ = _
    rw [e1]
    exact rfl
theorem rowsUp_brow {B : Mx} {p : Nat} {b : Int} : rowsUp B p b (p + 1) = brow p b B := by
  funext i j
  unfold rowsUp brow
  rfl
def Bnd (A : Mx) : Prop := ∀ i j, (A i j).natAbs ≤ 2 ^ 30
theorem bnd_small : ∀ k, k < 8 → BX.bnd (2 ^ 30) k < 2 ^ 1000 := by decide +kernel
theorem big_le {i : Int} {k : Nat} (hk : k < 8) (h : i.natAbs ≤ BX.bnd (2 ^ 30) k) : bigOk i = true := decide_eq_true (Nat.lt_of_le_of_lt h (bnd_small k hk))
theorem _root_.BX.BI.big {n p : Nat} {A B : Mx} {b : Int} (h : BI n p A B b) (hA : Bnd A) (hn : n ≤ 7) (hp : p < n) : ∀ i j, p ≤ i → p ≤ j → i < n → j < n → bigOk (B i j) = true := fun i j hi hj hin hjn => by
  rw [h.ent i j hi hj hin hjn]
  exact big_le (k := p + 1) (by omega) (bm_bound hA _ _ _)
theorem _root_.BX.BI.bigb {n p : Nat} {A B : Mx} {b : Int} (h : BI n p A B b) (hA : Bnd A) (hn : n ≤ 7) : bigOk b = true := by
  rw [h.byE]
  exact big_le (k := p) (by have := h.le; omega) (det_bound hA)
theorem Bnd.swp {A : Mx} (h : Bnd A) (p q : Nat) : Bnd (BX.swp A p q) := fun i j => h _ _
abbrev tI (t : Int) : Option T := some (.fz (.int t))
abbrev tA : M Flow := (setM 6 (callR F_led_row (argsM [(varM 1), (frozen (varM 5))])))
abbrev tB : M Flow := (ifS (boolM (op2 isNonD (varM 6) (constM .non))) (retS (constM (.int 0))) skipM)
abbrev tC : M Flow := (ifS (boolM (op2 neD (varM 6) (varM 5))) (seqM (swapS 1 5 6) (setM 4 (op2 subD (constM (.int 0)) (varM 4)))) skipM)
abbrev tD : M Flow := (forM (range2 (addM (varM 5) (constM (.int 1))) (callD lenD (argsM [(varM 1)]))) (nameG 7) wRow)
abbrev tE : M Flow := (setM 3 (nestR 1 5 5))
theorem tA_ok {d : D} {n p : Nat} {B : Mx} {b t : Int} (x6 x7 x8 x9 : Option T) (hp : p < n) (hn : n ≤ 1000) : tA (wst (.fz d) n B b (tI t) p x6 x7 x8 x9) = .ok .next (wst (.fz d) n B b (tI t) p (some (.fz (match leadF B p (n - p) p with | some q => .int (q : Int) | none => .non))) x7 x8 x9) := by
  obtain ⟨o', e⟩ := led_ok n p B hp hn
  unfold wst
  cases hl : leadF B p (n - p) p with
  | some q =>
    rw [hl] at e
    simp [e]
  | none =>
    rw [hl] at e
    simp [e]
theorem tC_ok {d : D} {n p q : Nat} {B : Mx} {b t : Int} (x7 x8 x9 : Option T) (hp : p < n) (hq : q < n) : tC (wst (.fz d) n B b (tI t) p (tI (q : Int)) x7 x8 x9) = .ok .next (if q = p then wst (.fz d) n B b (tI t) p (tI (q : Int)) x7 x8 x9 else wst (.fz d) n (BX.swp B p q) b (tI (0 - t)) p (tI (q : Int)) x7 x8 x9) := by
  have r1 : swapS 1 5 6 (wst (.fz d) n B b (tI t) p (tI (q : Int)) x7 x8 x9) = .ok .next (wst (.fz d) n (BX.swp B p q) b (tI t) p (tI (q : Int)) x7 x8 x9) := swapS_grid (n := n) (a := p) (b := q) rfl rfl rfl hp hq
  by_cases h : q = p
  · rw [if_pos h]
    subst h
    unfold wst tI
    simp
  · rw [if_neg h]
    have h' : ¬ (q : Int) = (p : Int) := fun z => h (by omega)
    unfold wst tI at r1 ⊢
    simp [h', r1]
theorem tD_ok {d : D} {n p : Nat} {B : Mx} {b : Int} {x4 x6 : Option T} (x7 x8 x9 : Option T) (hp : p < n) (hn : n ≤ 7) (hb : bigOk b = true) (hb0 : b ≠ 0) (h : ∀ i j, p ≤ i → p ≤ j → i < n → j < n → bigOk (B i j) = true) : ∃ o7 o8 o9, tD (wst (.fz d) n B b x4 p x6 x7 x8 x9) = .ok .next (wst (.fz d) n (brow p b B) b x4 p x6 o7 o8 o9) := by
  obtain ⟨o7, o8, o9, e⟩ := wRows (R := .fz d) (n := n) (p := p) (b := b) (x4 := x4) (x6 := x6) (by omega) hb hb0 (n - (p + 1)) (p + 1) B x7 x8 x9 (by omega) (by omega) (h p p (Nat.le_refl _) (Nat.le_refl _) hp hp) (fun i hi hin => h i p (by omega) (Nat.le_refl _) hin hp) (fun i j hi hin hj hjn => ⟨h i j (by omega) (by omega) hin hjn, h p j (Nat.le_refl _) (by omega) hp hjn⟩)
  refine ⟨o7, o8, o9, ?_⟩
  rw [rowsUp_brow] at e
  have hr := rng_nats (a := p + 1) (b := n) (by omega) (by omega)
  have ht : ((n : Int) - ((p + 1 : Nat) : Int)).toNat = n - (p + 1) := by omega
  rw [Int.natCast_add, show ((1 : Nat) : Int) = 1 from rfl] at hr ht e
  rw [← e]
  unfold wst
  simp [hr, ht]
theorem tE_ok {d : D} {n p : Nat} {B : Mx} {b : Int} {x4 x6 : Option T} (x7 x8 x9 : Option T) (hp : p < n) : tE (wst (.fz d) n B b x4 p x6 x7 x8 x9) = .ok .next (wst (.fz d) n B (B p p) x4 p x6 x7 x8 x9) := by
  have r1 : nestR 1 5 5 (wst (.fz d) n B b x4 p x6 x7 x8 x9) = .ok (.fz (.int (B p p))) (wst (.fz d) n B b x4 p x6 x7 x8 x9) := nestR_grid (n := n) (a := p) (b := p) rfl rfl rfl hp hp
  unfold wst at r1 ⊢
  simp [r1]
theorem seq_next {f g : M Flow} {Γ Γ' : Env} (h : f Γ = .ok .next Γ') : seqM f g Γ = g Γ' := by
  show (f Γ).bind _ = _
  rw [h]
  rfl
theorem wTurn_ok {d : D} {n p : Nat} {A B : Mx} {b t : Int} (hI : BI n p A B b) (hA : Bnd A) (hn : n ≤ 7) (hp : p < n) (ht : t = 1 ∨ t = -1) (x6 x7 x8 x9 : Option T) :
    (∃ Γ, wTurn (wst (.fz d) n B b (tI t) p x6 x7 x8 x9) = .ok (.ret (.fz (.int 0))) Γ ∧ det n A = 0) ∨
    (∃ (A' B' : Mx) (b' t' : Int) (o6 o7 o8 o9 : Option T), wTurn (wst (.fz d) n B b (tI t) p x6 x7 x8 x9) = .ok .next (wst (.fz d) n B' b' (tI t') p o6 o7 o8 o9) ∧ BI n (p + 1) A' B' b' ∧ Bnd A' ∧ (t' = 1 ∨ t' = -1) ∧ t' * det n A' = t * det n A) := by
  have e1 := tA_ok (d := d) (n := n) (p := p) (B := B) (b := b) (t := t) x6 x7 x8 x9 hp (by omega)
  cases hl : leadF B p (n - p) p with
  | none =>
    left
    rw [hl] at e1
    have hz := hI.zero hp (fun i hi hin => lead_none hl i hi (by omega))
    refine ⟨wst (.fz d) n B b (tI t) p (some (.fz .non)) x7 x8 x9, ?_, hz⟩
    show seqM tA (seqM tB _) _ = _
    rw [seq_next e1]
    unfold wst tI
    simp
  | some q =>
    right
    rw [hl] at e1
    obtain ⟨q1, q2, q3⟩ := lead_some hl
    have hq : q < n := by omega
    have e2 : tB (wst (.fz d) n B b (tI t) p (tI (q : Int)) x7 x8 x9) = .ok .next (wst (.fz d) n B b (tI t) p (tI (q : Int)) x7 x8 x9) := by
      unfold wst tI
      simp
    have e3 := tC_ok (d := d) (n := n) (p := p) (q := q) (B := B) (b := b) (t := t) x7 x8 x9 hp hq
    obtain ⟨A1, B1, t1, hI1, hA1, ht1, hd1, hp1, e4⟩ : ∃ (A1 B1 : Mx) (t1 : Int), BI n p A1 B1 b ∧ Bnd A1 ∧ (t1 = 1 ∨ t1 = -1) ∧ t1 * det n A1 = t * det n A ∧ B1 p p ≠ 0 ∧ tC (wst (.fz d) n B b (tI t) p (tI (q : Int)) x7 x8 x9) = .ok .next (wst (.fz d) n B1 b (tI t1) p (tI (q : Int)) x7 x8 x9) := by
      by_cases c : q = p
      · rw [if_pos c] at e3
        subst c
        exact ⟨A, B, t, hI, hA, ht, rfl, q3, e3⟩
      · rw [if_neg c] at e3
        obtain ⟨s1, s2⟩ := hI.swp (show p < q by omega) hq
        refine ⟨BX.swp A p q, BX.swp B p q, 0 - t, s1, hA.swp p q, by rcases ht with rfl | rfl <;> simp, ?_, ?_, e3⟩
        · rw [s2, Int.zero_sub, Int.neg_mul_neg]
        · unfold BX.swp
          rw [if_pos rfl]
          exact q3
    have hb0 : b ≠ 0 := by rw [hI1.byE]; exact hI1.nz p (Nat.le_refl _)
    obtain ⟨o7, o8, o9, e5⟩ := tD_ok (d := d) (n := n) (p := p) (B := B1) (b := b) (x4 := tI t1) (x6 := tI (q : Int)) x7 x8 x9 hp hn (hI1.bigb hA1 hn) hb0 (hI1.big hA1 hn hp)
    have e6 := tE_ok (d := d) (n := n) (p := p) (B := brow p b B1) (b := b) (x4 := tI t1) (x6 := tI (q : Int)) o7 o8 o9 hp
    have e7 : brow p b B1 p p = B1 p p := by
      unfold brow
      rw [if_neg (by omega)]
    rw [e7] at e6
    refine ⟨A1, brow p b B1, B1 p p, t1, tI (q : Int), o7, o8, o9, ?_, hI1.step hp hp1, hA1, ht1, hd1⟩
    show seqM tA (seqM tB (seqM tC (seqM tD tE))) _ = _
    rw [seq_next e1, seq_next e2, seq_next e4, seq_next e5, e6]
theorem wLoop {d : D} {n : Nat} (hn : n ≤ 7) : ∀ (m p : Nat) (A B : Mx) (b t : Int) (x5 x6 x7 x8 x9 : Option T), p + m = n → BI n p A B b → Bnd A → (t = 1 ∨ t = -1) →
    (∃ Γ, loopM (nameG 5) wTurn (rangeL (p : Int) m) [some (.fz d), some (.ol (gridT n B)), none, some (.fz (.int b)), tI t, x5, x6, x7, x8, x9] = .ok (.ret (.fz (.int 0))) Γ ∧ t * det n A = 0) ∨
    (∃ (B' : Mx) (b' t' : Int) (o5 o6 o7 o8 o9 : Option T), loopM (nameG 5) wTurn (rangeL (p : Int) m) [some (.fz d), some (.ol (gridT n B)), none, some (.fz (.int b)), tI t, x5, x6, x7, x8, x9] = .ok .next [some (.fz d), some (.ol (gridT n B')), none, some (.fz (.int b')), tI t', o5, o6, o7, o8, o9] ∧ bigOk b' = true ∧ bigOk t' = true ∧ t' * b' = t * det n A)
  | 0, p, A, B, b, t, x5, x6, x7, x8, x9, h, hI, hA, ht => by
    right
    have e : p = n := by omega
    subst e
    refine ⟨B, b, t, x5, x6, x7, x8, x9, rfl, hI.bigb hA hn, by rcases ht with rfl | rfl <;> exact big_lt (k := 1) (by decide) (by decide), by rw [hI.byE]⟩
  | m + 1, p, A, B, b, t, x5, x6, x7, x8, x9, h, hI, hA, ht => by
    rw [rangeL_nat]
    have e0 : ∀ f : Flow → M Flow, (nameG 5 (.int (p : Int)) [some (.fz d), some (.ol (gridT n B)), none, some (.fz (.int b)), tI t, x5, x6, x7, x8, x9]).bind (fun _ => bindM wTurn f) = (wTurn (wst (.fz d) n B b (tI t) p x6 x7 x8 x9)).bind f := fun f => rfl
    rcases wTurn_ok (d := d) hI hA hn (by omega) ht x6 x7 x8 x9 with ⟨Γ, e1, hz⟩ | ⟨A1, B1, b1, t1, o6, o7, o8, o9, e1, hI1, hA1, ht1, hd1⟩
    · left
      refine ⟨Γ, ?_, by rw [hz, Int.mul_zero]⟩
      rw [ev_loop1, e0, e1]
      exact rfl
    · have go : loopM (nameG 5) wTurn (.int (p : Int) :: rangeL ((p + 1 : Nat) : Int) m) [some (.fz d), some (.ol (gridT n B)), none, some (.fz (.int b)), tI t, x5, x6, x7, x8, x9] = loopM (nameG 5) wTurn (rangeL ((p + 1 : Nat) : Int) m) [some (.fz d), some (.ol (gridT n B1)), none, some (.fz (.int b1)), tI t1, tI (p : Int), o6, o7, o8, o9] := by
        rw [ev_loop1, e0, e1]
        exact rfl
      rw [go]
      rcases wLoop (d := d) hn m (p + 1) A1 B1 b1 t1 (tI (p : Int)) o6 o7 o8 o9 (by omega) hI1 hA1 ht1 with ⟨Γ, e2, hz⟩ | ⟨B2, b2, t2, q5, q6, q7, q8, q9, e2, g1, g2, g3⟩
      · left
        exact ⟨Γ, e2, by rw [← hd1]; exact hz⟩
      · right
        exact ⟨B2, b2, t2, q5, q6, q7, q8, q9, e2, g1, g2, by rw [g3, hd1]⟩
/-- a box: lists or tuples -/
inductive Box (n : Nat) (A : Mx) : D → Prop
  | ll : Box n A (.lst (matD n A))
  | tt : Box n A (.tup (matU n A))
/-! ### box and box_sign -/
@[simp] theorem ev_compO {vs : List Nat} {fi : M (List D)} {g : D → M Unit} {fe : M T} {Γ : Env} : compO vs fi g fe Γ = (fi Γ).bind fun ds => fun Γ => (compLO vs g fe ds (wipeE Γ vs)).bind fun ts => retM (.ol ts) := by exact rfl
theorem compLO_range {vs : List Nat} {g : D → M Unit} {fe : M T} {Γ : Env} {α : Type} {f : α → D} {h : α → T} : ∀ l : List α, (∀ i ∈ l, turnO vs g fe (f i) Γ = .ok (h i) Γ) → compLO vs g fe (l.map f) Γ = .ok (l.map h) Γ
  | [], _ => rfl
  | a :: l, k => by
    show (turnO vs g fe (f a) Γ).bind (fun t => bindM (compLO vs g fe (l.map f)) fun ts => retM (t :: ts)) = _
    rw [k a List.mem_cons_self]
    show (compLO vs g fe (l.map f) Γ).bind (fun ts => retM (h a :: ts)) = _
    rw [compLO_range l fun i hi => k i (List.mem_cons_of_mem _ hi)]
    exact rfl
theorem rowD_fz {n : Nat} {f : Nat → Int} : (rowD n f).map T.fz = rowT n f := by
  unfold rowD rowT
  rw [List.map_map]
  rfl
@[simp] theorem ev_turnO {vs : List Nat} {g : D → M Unit} {fe : M T} {d : D} {Γ : Env} : turnO vs g fe d Γ = (g d Γ).bind fun _ => bindM (noX fe) fun t => bindM (guardM t.free) fun _ => fun Γ => .ok t (wipeE Γ vs) := by exact rfl
theorem worth_ok {n : Nat} {A : Mx} {d : D} (hd : Box n A d) (hn : n ≤ 7) (hA : Bnd A) : ∃ Γ, F_worth_of [.fz d] = .ok (.fz (.int (det n A))) Γ := by
  have hc : ∀ ds : List D, (ds = matD n A ∨ ds = matU n A) → compLO [2] (nameG 2) (listM (varF 2)) ds [some (.fz d), none, none, none, none, none, none, none, none, none] = .ok (gridT n A) [some (.fz d), none, none, none, none, none, none, none, none, none] := by
    intro ds hds
    rcases hds with rfl | rfl
    · refine compLO_range (List.range n) fun i _ => ?_
      simp [rowD_fz]
    · refine compLO_range (List.range n) fun i _ => ?_
      simp [rowD_fz]
  have hr : rngOk 0 (n : Int) = true := rng_nat (by have : 7 ≤ sizeLine := by decide
                                                    omega)
  have hl := wLoop (d := d) hn n 0 A A 1 1 none none none none none (by omega) (BI.start n A) hA (.inl rfl)
  rw [Int.one_mul, show ((0 : Nat) : Int) = 0 from rfl] at hl
  have start : F_worth_of [.fz d] = outF ((loopM (nameG 5) wTurn (rangeL 0 n) [some (.fz d), some (.ol (gridT n A)), none, some (.fz (.int 1)), tI 1, none, none, none, none, none]).bind (fun fl => match fl with | .next => retS (op2 mulBD (varM 4) (varM 3)) | fl => retM fl)) := by
    show outF (den_worth_of [some (.fz d), none, none, none, none, none, none, none, none, none]) = _
    have e1 : (setM 1 (compO [2] (seqIt (varM 0)) (nameG 2) (listM (varF 2)))) [some (.fz d), none, none, none, none, none, none, none, none, none] = .ok .next [some (.fz d), some (.ol (gridT n A)), none, none, none, none, none, none, none, none] := by
      cases hd with
      | ll => simp [hc _ (.inl rfl)]
      | tt => simp [hc _ (.inr rfl)]
    have e2 : (asgM (tupM (argsM [(constM (.int 1)), (constM (.int 1))])) (tupG [3, 4])) [some (.fz d), some (.ol (gridT n A)), none, none, none, none, none, none, none, none] = .ok .next [some (.fz d), some (.ol (gridT n A)), none, some (.fz (.int 1)), tI 1, none, none, none, none, none] := by
      simp [sizeLine]
    have ed : den_worth_of = seqM (setM 1 (compO [2] (seqIt (varM 0)) (nameG 2) (listM (varF 2)))) (seqM (asgM (tupM (argsM [(constM (.int 1)), (constM (.int 1))])) (tupG [3, 4])) (seqM (forM (range1 (callD lenD (argsM [(varM 1)]))) (nameG 5) wTurn) (retS (op2 mulBD (varM 4) (varM 3))))) := by
      unfold den_worth_of
      exact rfl
    rw [ed, seq_next e1, seq_next e2]
    refine congrArg outF ?_
    have e3 : (range1 (callD lenD (argsM [(varM 1)]))) [some (.fz d), some (.ol (gridT n A)), none, some (.fz (.int 1)), tI 1, none, none, none, none, none] = .ok (rangeL 0 n) [some (.fz d), some (.ol (gridT n A)), none, some (.fz (.int 1)), tI 1, none, none, none, none, none] := by
      simp [hr]
    show (((range1 (callD lenD (argsM [(varM 1)]))) _).bind fun ds => loopM (nameG 5) wTurn ds).bind _ = _
    rw [e3]
    exact rfl
  rw [start]
  rcases hl with ⟨Γ, e, hz⟩ | ⟨B', b', t', o5, o6, o7, o8, o9, e, g1, g2, g3⟩
  · refine ⟨Γ, ?_⟩
    rw [e, hz]
    exact rfl
  · refine ⟨[some (.fz d), some (.ol (gridT n B')), none, some (.fz (.int b')), tI t', o5, o6, o7, o8, o9], ?_⟩
    rw [e, ← g3]
    have m1 := mul_big g2 g1
    show outF (retS (op2 mulBD (varM 4) (varM 3)) _) = _
    simp [m1]
def badBox : Exn := ⟨"BadBox", [("word", .str "BadBox")]⟩
theorem look_ok {q : D} {rows : List (List D)} (hq : q = .lst (rows.map D.lst) ∨ q = .tup (rows.map D.tup)) : ∃ Γ, F_look_box [.fz q] = if rows.length ≤ 7 ∧ (rows.any fun r => !decide ((r.length : Int) = (rows.length : Int))) = false then .ok (.fz .non) Γ else .exc badBox Γ := by
  have hc : ∀ (w : List D → D), (w = D.lst ∨ w = D.tup) → compL [1] (nameG 1) (retM true) (op2 neD (callD lenD (argsM [(varF 1)])) (callD lenD (argsM [(varM 0)]))) (rows.map w) [some (.fz q), none] = .ok ((rows.map fun r => !decide ((r.length : Int) = (rows.length : Int))).map D.bl) [some (.fz q), none] := by
    intro w hw
    rw [List.map_map]
    refine comp_fun w (D.bl ∘ fun r => !decide ((r.length : Int) = (rows.length : Int))) rows fun r _ => ?_
    rcases hq with rfl | rfl <;> rcases hw with rfl | rfl <;> simp
  have ha := any_bls (bs := rows.map fun r => !decide ((r.length : Int) = (rows.length : Int)))
  rw [List.any_map] at ha
  have ha' : anyD [.lst ((rows.map fun r => !decide ((r.length : Int) = (rows.length : Int))).map D.bl)] = some (.bl (rows.any fun r => !decide ((r.length : Int) = (rows.length : Int)))) := ha
  have h1 := hc D.lst (.inl rfl)
  have h2 := hc D.tup (.inr rfl)
  generalize ((rows.map fun r => !decide ((r.length : Int) = (rows.length : Int))).map D.bl) = es at h1 h2 ha'
  generalize (rows.any fun r => !decide ((r.length : Int) = (rows.length : Int))) = b at ha'
  refine ⟨[some (.fz q), none], ?_⟩
  by_cases c : rows.length ≤ 7
  · have c' : ¬ (7 : Int) < (rows.length : Int) := by omega
    cases b with
    | false =>
      rw [if_pos ⟨c, rfl⟩]
      rcases hq with rfl | rfl <;> simp [F_look_box, den_look_box, h1, h2, ha', c']
    | true =>
      rw [if_neg (fun z => by cases z.2)]
      rcases hq with rfl | rfl <;> simp [F_look_box, den_look_box, h1, h2, ha', c', badBox]
  · have c' : (7 : Int) < (rows.length : Int) := by omega
    rw [if_neg (fun z => c z.1)]
    rcases hq with rfl | rfl <;> simp [F_look_box, den_look_box, c', badBox]
theorem box_rows {n : Nat} {A : Mx} {d : D} (hd : Box n A d) : d = .lst (((List.range n).map fun i => rowD n (A i)).map D.lst) ∨ d = .tup (((List.range n).map fun i => rowD n (A i)).map D.tup) := by
  cases hd with
  | ll => left; rw [List.map_map]; rfl
  | tt => right; rw [List.map_map]; rfl
theorem box_ok {n : Nat} {A : Mx} {d : D} (hd : Box n A d) (hn : n ≤ 7) (hA : Bnd A) : ∃ Γ, F_box [.fz d] = .ok (.fz (.int (det n A))) Γ := by
  obtain ⟨Γ1, e1⟩ := look_ok (box_rows hd)
  rw [if_pos ⟨by simpa using hn, by
    rw [List.any_map, List.any_eq_false]
    intro i _
    simp⟩] at e1
  obtain ⟨Γ2, e2⟩ := worth_ok hd hn hA
  refine ⟨[some (.fz d)], ?_⟩
  simp [F_box, den_box, e1, e2]
def zsgn (z : Int) : Int := (if z > 0 then 1 else 0) - (if z < 0 then 1 else 0)
theorem sign_ok (z : Int) : ∃ Γ, F_sign_of [.fz (.int z)] = .ok (.fz (.int (zsgn z))) Γ := by
  refine ⟨[some (.fz (.int z))], ?_⟩
  unfold zsgn
  simp [F_sign_of, den_sign_of]
theorem boxs_ok {n : Nat} {A : Mx} {d : D} (hd : Box n A d) (hn : n ≤ 7) (hA : Bnd A) : ∃ Γ, F_box_sign [.fz d] = .ok (.fz (.int (zsgn (det n A)))) Γ := by
  obtain ⟨Γ1, e1⟩ := box_ok hd hn hA
  obtain ⟨Γ2, e2⟩ := sign_ok (det n A)
  refine ⟨[some (.fz d)], ?_⟩
  simp [F_box_sign, den_box_sign, e1, e2]
/-! ### the law's own worth, by the first row -/
theorem cut_to {α : Type} {xs : List α} {n : Nat} : cutL xs none (some (n : Int)) = xs.take n := by
  unfold cutL
  rw [HT.sIx_nat, HT.sIx_none, List.drop_zero, Nat.sub_zero]
  rcases Nat.le_total n xs.length with h | h
  · rw [Nat.min_eq_left h]
  · rw [Nat.min_eq_right h, List.take_length, List.take_of_length_le h]
theorem skip_row {n k : Nat} {f : Nat → Int} (h : k < n + 1) : (rowD (n + 1) f).take k ++ (rowD (n + 1) f).drop (k + 1) = rowD n (fun j => f (skip k j)) := by
  apply List.ext_getElem?
  intro i
  unfold rowD
  by_cases c : i < k
  · rw [List.getElem?_append_left (by simp; omega), List.getElem?_take_of_lt c]
    simp [show i < n + 1 by omega, show i < n by omega, skip, c]
  · rw [List.getElem?_append_right (by simp; omega)]
    simp only [List.length_take, List.length_map, List.length_range, List.getElem?_drop]
    rw [show k + 1 + (i - min k (n + 1)) = i + 1 by omega]
    by_cases c2 : i < n
    · simp [c2, skip, c]
    · simp [c2]
theorem mat_drop {n : Nat} {A : Mx} : (matD (n + 1) A).drop 1 = (List.range n).map fun i => D.lst (rowD (n + 1) (A (i + 1))) := by
  unfold matD
  rw [List.range_succ_eq_map, List.map_cons, List.map_map]
  rfl
theorem fits_row {n k : Nat} {f : Nat → Int} : D.fits k (rowD n f) = true := by
  have := fits_ints (n := k) ((List.range n).map f)
  rw [List.map_map] at this
  exact this
theorem fits_map {α : Type} {k : Nat} {f : α → D} (h : ∀ a, D.fit k (f a) = true) : ∀ l : List α, D.fits k (l.map f) = true
  | [] => by unfold D.fits; rfl
  | a :: l => by
    rw [List.map_cons, D.fits, h a, fits_map h l]
    rfl
theorem fit_mat {n : Nat} {A : Mx} : D.fit 64 (.lst (matD n A)) = true := by
  unfold D.fit
  exact fits_map (fun i => by unfold D.fit; exact fits_row) _
theorem eq_mat0 {n : Nat} {A : Mx} : eqD (.lst (matD n A)) (.lst []) = some (.bl (decide (n = 0))) := by
  have h2 : D.fit 64 (.lst []) = true := by unfold D.fit D.fits; rfl
  unfold eqD
  rw [fit_mat, h2]
  cases n with
  | zero => rfl
  | succ n =>
    unfold matD
    rw [List.range_succ_eq_map]
    rfl
theorem small_bnd {z : Int} (h : z.natAbs ≤ 2 ^ 30) : small64 z = true := by
  have e : (2 : Nat) ^ 30 = 1073741824 := by decide
  unfold small64
  rw [Bool.and_eq_true, decide_eq_true_eq, decide_eq_true_eq]
  omega
/-! ### drawn boxes -/
theorem row_of {P : Nat → Int → Prop} {n : Nat} {es : List D} (hl : es.length = n) (h : ∀ j e, es[j]? = some e → ∃ x, e = D.int x ∧ P j x) (h0 : ∀ j, P j 0) : ∃ f : Nat → Int, es = rowD n f ∧ ∀ j, P j (f j) := by
  refine ⟨fun j => match es[j]? with | some (.int x) => x | _ => 0, ?_, fun j => ?_⟩
  · apply List.ext_getElem?
    intro j
    unfold rowD
    by_cases c : j < n
    · cases e : es[j]? with
      | none =>
        rw [List.getElem?_eq_none_iff] at e
        omega
      | some d =>
        obtain ⟨x, rfl, _⟩ := h j d e
        simp [c, e]
    · rw [List.getElem?_eq_none (by omega), List.getElem?_eq_none (by simp; omega)]
  · show P j (match es[j]? with | some (.int x) => x | _ => 0)
    cases e : es[j]? with
    | none => exact h0 j
    | some d =>
      obtain ⟨x, rfl, hx⟩ := h j d e
      exact hx
theorem mat_of {P : Nat → (Nat → Int) → Prop} {n m : Nat} {es : List D} (hl : es.length = m) (h : ∀ i e, es[i]? = some e → ∃ f, e = D.lst (rowD n f) ∧ P i f) (h0 : ∀ i, P i fun _ => 0) : ∃ A : Mx, es = ((List.range m).map fun i => D.lst (rowD n (A i))) ∧ ∀ i, P i (A i) := by
  have key : ∀ i, ∃ f, P i f ∧ ∀ e, es[i]? = some e → e = D.lst (rowD n f) := fun i => by
    cases e : es[i]? with
    | none => exact ⟨_, h0 i, fun _ z => by cases z⟩
    | some d =>
      obtain ⟨f, hf, hp⟩ := h i d e
      exact ⟨f, hp, fun _ z => by cases z; exact hf⟩
  refine ⟨fun i => Classical.choose (key i), ?_, fun i => (Classical.choose_spec (key i)).1⟩
  apply List.ext_getElem?
  intro i
  by_cases c : i < m
  · cases e : es[i]? with
    | none =>
      rw [List.getElem?_eq_none_iff] at e
      omega
    | some d =>
      have := (Classical.choose_spec (key i)).2 d e
      simp [c]
      exact this
  · rw [List.getElem?_eq_none (by omega), List.getElem?_eq_none (by simp; omega)]
theorem comp_invI {S : Type} (G : S → Env) (I : S → Prop) (Pe : Nat → D → Prop) {vs : List Nat} {g : D → M Unit} {ft : M Bool} {fe : M T} : ∀ (ds : List D) (k : Nat) (s : S), I s → (∀ j s d, ds[j]? = some d → I s → ∃ s' e, I s' ∧ Pe (k + j) e ∧ turnL vs g ft fe d (G s) = .ok (some e) (G s')) → ∃ s' es, I s' ∧ es.length = ds.length ∧ (∀ j e, es[j]? = some e → Pe (k + j) e) ∧ compL vs g ft fe ds (G s) = .ok es (G s')
  | [], k, s, hI, _ => ⟨s, [], hI, rfl, (fun _ _ h => by simp at h), rfl⟩
  | d :: ds, k, s, hI, h => by
    obtain ⟨s1, e, h1, hp, h2⟩ := h 0 s d rfl hI
    obtain ⟨s2, es, h3, hl, hpe, h4⟩ := comp_invI G I Pe ds (k + 1) s1 h1 fun j s d hd hi => by
      have := h (j + 1) s d hd hi
      rw [show k + (j + 1) = k + 1 + j by omega] at this
      exact this
    refine ⟨s2, e :: es, h3, congrArg (· + 1) hl, fun j x hx => ?_, ?_⟩
    · cases j with
      | zero => simp at hx; subst hx; exact hp
      | succ j =>
        have := hpe j x (by simpa using hx)
        rw [show k + (j + 1) = k + 1 + j by omega]
        exact this
    · show (turnL vs g ft fe d (G s)).bind (fun o => bindM (compL vs g ft fe ds) fun es => retM (o.toList ++ es)) = _
      rw [h2]
      show (compL vs g ft fe ds (G s1)).bind (fun es => retM ((some e).toList ++ es)) = _
      rw [h4]
      rfl
theorem compLO_invI {S : Type} (G : S → Env) (I : S → Prop) (Pe : Nat → T → Prop) {vs : List Nat} {g : D → M Unit} {fe : M T} : ∀ (ds : List D) (k : Nat) (s : S), I s → (∀ j s d, ds[j]? = some d → I s → ∃ s' e, I s' ∧ Pe (k + j) e ∧ turnO vs g fe d (G s) = .ok e (G s')) → ∃ s' es, I s' ∧ es.length = ds.length ∧ (∀ j e, es[j]? = some e → Pe (k + j) e) ∧ compLO vs g fe ds (G s) = .ok es (G s')
  | [], k, s, hI, _ => ⟨s, [], hI, rfl, (fun _ _ h => by simp at h), rfl⟩
  | d :: ds, k, s, hI, h => by
    obtain ⟨s1, e, h1, hp, h2⟩ := h 0 s d rfl hI
    obtain ⟨s2, es, h3, hl, hpe, h4⟩ := compLO_invI G I Pe ds (k + 1) s1 h1 fun j s d hd hi => by
      have := h (j + 1) s d hd hi
      rw [show k + (j + 1) = k + 1 + j by omega] at this
      exact this
    refine ⟨s2, e :: es, h3, congrArg (· + 1) hl, fun j x hx => ?_, ?_⟩
    · cases j with
      | zero => simp at hx; subst hx; exact hp
      | succ j =>
        have := hpe j x (by simpa using hx)
        rw [show k + (j + 1) = k + 1 + j by omega]
        exact this
    · show (turnO vs g fe d (G s)).bind (fun t => bindM (compLO vs g fe ds) fun ts => retM (t :: ts)) = _
      rw [h2]
      show (compLO vs g fe ds (G s1)).bind (fun ts => retM (e :: ts)) = _
      rw [h4]
      rfl
theorem grid_of {P : Nat → (Nat → Int) → Prop} {n m : Nat} {es : List T} (hl : es.length = m) (h : ∀ i e, es[i]? = some e → ∃ f, e = T.ol (rowT n f) ∧ P i f) (h0 : ∀ i, P i fun _ => 0) : ∃ A : Mx, es = ((List.range m).map fun i => T.ol (rowT n (A i))) ∧ ∀ i, P i (A i) := by
  have key : ∀ i, ∃ f, P i f ∧ ∀ e, es[i]? = some e → e = T.ol (rowT n f) := fun i => by
    cases e : es[i]? with
    | none => exact ⟨_, h0 i, fun _ z => by cases z⟩
    | some d =>
      obtain ⟨f, hf, hp⟩ := h i d e
      exact ⟨f, hp, fun _ z => by cases z; exact hf⟩
  refine ⟨fun i => Classical.choose (key i), ?_, fun i => (Classical.choose_spec (key i)).1⟩
  apply List.ext_getElem?
  intro i
  by_cases c : i < m
  · cases e : es[i]? with
    | none =>
      rw [List.getElem?_eq_none_iff] at e
      omega
    | some d =>
      have := (Classical.choose_spec (key i)).2 d e
      simp [c]
      exact this
  · rw [List.getElem?_eq_none (by omega), List.getElem?_eq_none (by simp; omega)]
def B9 (x : Int) : Prop := x.natAbs ≤ 999999999
theorem b9_0 : B9 0 := by unfold B9; decide
abbrev dB : M Flow := (setM 3 (compM [4] (range1 (varM 1)) (nameG 4) (retM true) (compM [5] (range1 (varM 1)) (nameG 5) (retM true) (op2 subD (callR F__law_pull (argsM [(varM 0), (frozen (addM (mulM (constM (.int 2)) (varM 2)) (constM (.int 1))))])) (varM 2)))))
theorem dB_ok (b : Bag) (hb : b.Ok) (n : Nat) (hn : n ≤ 1000) (t : Int) (t0 : 0 < t) (t1 : t ≤ 999999999) (x3 : Option T) : ∃ (A : Mx) (b' : Bag), b'.Ok ∧ (∀ i j, B9 (A i j)) ∧ dB [some b.t, tI (n : Int), tI t, x3, none, none, none] = .ok .next [some b'.t, tI (n : Int), tI t, some (.ol ((matD n A).map T.fz)), none, none, none] := by
  have hr : rngOk 0 (n : Int) = true := rng_nat (Nat.le_trans hn (by decide))
  have s2 : small64 2 = true := by decide
  obtain ⟨b2, es, hb2, hes, hpe, hcomp⟩ := comp_invI (S := Bag) (fun b => [some b.t, tI (n : Int), tI t, x3, none, none, none]) Bag.Ok (fun _ e => ∃ f, e = D.lst (rowD n f) ∧ ∀ j, B9 (f j)) (vs := [4]) (g := nameG 4) (ft := retM true) (fe := compM [5] (range1 (varM 1)) (nameG 5) (retM true) (op2 subD (callR F__law_pull (argsM [(varM 0), (frozen (addM (mulM (constM (.int 2)) (varM 2)) (constM (.int 1))))])) (varM 2))) (rangeL 0 n) 0 b hb (by
    intro j b d hd hb
    obtain ⟨b3, es, hb3, hes, hpe, hcomp⟩ := comp_invI (S := Bag) (fun b => [some b.t, tI (n : Int), tI t, x3, some (.fz d), none, none]) Bag.Ok (fun _ e => ∃ x, e = D.int x ∧ B9 x) (vs := [5]) (g := nameG 5) (ft := retM true) (fe := op2 subD (callR F__law_pull (argsM [(varM 0), (frozen (addM (mulM (constM (.int 2)) (varM 2)) (constM (.int 1))))])) (varM 2)) (rangeL 0 n) 0 b hb (by
      intro j b d' hd' hb
      obtain ⟨r, b4, Γ4, hb4, r0, r1, e4⟩ := pull_ok b hb (2 * t + 1) (by omega) (by omega)
      refine ⟨b4, .int (r - t), hb4, ⟨_, rfl, by unfold B9; omega⟩, ?_⟩
      unfold tI
      simp [e4, s2])
    obtain ⟨f, rfl, hf⟩ := row_of (P := fun _ x => B9 x) (hes.trans rangeL_length) (fun j e he => hpe j e he) (fun _ => b9_0)
    refine ⟨b3, .lst (rowD n f), hb3, ⟨f, rfl, hf⟩, ?_⟩
    unfold tI at hcomp ⊢
    simp [hr, hcomp])
  obtain ⟨A, rfl, hA⟩ := mat_of (P := fun _ f => ∀ j, B9 (f j)) (n := n) (hes.trans rangeL_length) (fun i e he => hpe i e he) (fun _ _ => b9_0)
  refine ⟨A, b2, hb2, hA, ?_⟩
  unfold tI at hcomp ⊢
  unfold matD
  generalize ((List.range n).map fun i => D.lst (rowD n (A i))) = es at hcomp ⊢
  simp [hr, hcomp]

abbrev dC : M Flow := (ifS (boolM (op2 gtD (varM 1) (constM (.int 4)))) (setM 3 (compM [4] (range1 (varM 1)) (nameG 4) (retM true) (compM [5] (range1 (varM 1)) (nameG 5) (retM true) (ifM (orM (boolM (op2 gtD (op2 modD (addM (varF 4) (varF 5)) (constM (.int 3))) (constM (.int 0)))) (boolM (op2 eqD (varF 4) (varF 5)))) (ixA (ixA (varM 3) (varF 4)) (varF 5)) (constM (.int 0)))))) skipM)
theorem dC_ok (b : Bag) (n : Nat) (hn : n ≤ 1000) (x2 : Option T) (A : Mx) (hA : ∀ i j, B9 (A i j)) : ∃ (A' : Mx), (∀ i j, B9 (A' i j)) ∧ dC [some b.t, tI (n : Int), x2, some (.ol ((matD n A).map T.fz)), none, none, none] = .ok .next [some b.t, tI (n : Int), x2, some (.ol ((matD n A').map T.fz)), none, none, none] := by
  have hr : rngOk 0 (n : Int) = true := rng_nat (Nat.le_trans hn (by decide))
  by_cases h4 : (4 : Int) < (n : Int)
  · obtain ⟨_, es, _, hes, hpe, hcomp⟩ := comp_invI (S := Unit) (fun _ => [some b.t, tI (n : Int), x2, some (.ol ((matD n A).map T.fz)), none, none, none]) (fun _ => True) (fun _ e => ∃ f, e = D.lst (rowD n f) ∧ ∀ j, B9 (f j)) (vs := [4]) (g := nameG 4) (ft := retM true) (fe := compM [5] (range1 (varM 1)) (nameG 5) (retM true) (ifM (orM (boolM (op2 gtD (op2 modD (addM (varF 4) (varF 5)) (constM (.int 3))) (constM (.int 0)))) (boolM (op2 eqD (varF 4) (varF 5)))) (ixA (ixA (varM 3) (varF 4)) (varF 5)) (constM (.int 0)))) (rangeL 0 n) 0 () trivial (by
      intro i _ d hd _
      obtain ⟨hi, rfl⟩ := rangeL_get hd
      rw [Int.zero_add]
      obtain ⟨_, es, _, hes, hpe, hcomp⟩ := comp_invI (S := Unit) (fun _ => [some b.t, tI (n : Int), x2, some (.ol ((matD n A).map T.fz)), tI (i : Int), none, none]) (fun _ => True) (fun _ e => ∃ x, e = D.int x ∧ B9 x) (vs := [5]) (g := nameG 5) (ft := retM true) (fe := (ifM (orM (boolM (op2 gtD (op2 modD (addM (varF 4) (varF 5)) (constM (.int 3))) (constM (.int 0)))) (boolM (op2 eqD (varF 4) (varF 5)))) (ixA (ixA (varM 3) (varF 4)) (varF 5)) (constM (.int 0)))) (rangeL 0 n) 0 () trivial (by
        intro j _ d' hd' _
        obtain ⟨hj, rfl⟩ := rangeL_get hd'
        rw [Int.zero_add]
        have a1 := at_mat (A := A) hi
        have a2 := at_row (f := A i) hj
        by_cases c1 : (0 : Int) < ((i : Int) + (j : Int)) % 3
        · refine ⟨(), .int (A i j), trivial, ⟨_, rfl, hA i j⟩, ?_⟩
          unfold tI
          simp [c1, a1, a2]
        · by_cases c2 : (i : Int) = (j : Int)
          · refine ⟨(), .int (A i j), trivial, ⟨_, rfl, hA i j⟩, ?_⟩
            unfold tI
            simp [c1, c2, a1, a2]
            have : i = j := by omega
            subst this
            simp [a1, a2]
          · refine ⟨(), .int 0, trivial, ⟨_, rfl, b9_0⟩, ?_⟩
            unfold tI
            simp [c1, c2])
      obtain ⟨f, rfl, hf⟩ := row_of (P := fun _ x => B9 x) (hes.trans rangeL_length) (fun j e he => hpe j e he) (fun _ => b9_0)
      refine ⟨(), .lst (rowD n f), trivial, ⟨f, rfl, hf⟩, ?_⟩
      unfold tI at hcomp ⊢
      simp [hr, hcomp])
    obtain ⟨A', rfl, hA'⟩ := mat_of (P := fun _ f => ∀ j, B9 (f j)) (n := n) (hes.trans rangeL_length) (fun i e he => hpe i e he) (fun _ _ => b9_0)
    refine ⟨A', hA', ?_⟩
    have hm : ((List.range n).map fun i => D.lst (rowD n (A' i))) = matD n A' := rfl
    rw [hm] at hcomp
    unfold tI at hcomp ⊢
    generalize matD n A' = es at hcomp ⊢
    simp [hr, hcomp, h4]
  · refine ⟨A, hA, ?_⟩
    unfold tI
    simp [h4]
abbrev dD : M Flow := (ifS (andM (boolM (op2 gtD (varM 1) (constM (.int 1)))) (boolM (op2 eqD (callR F__law_pull (argsM [(varM 0), (constM (.int 4))])) (constM (.int 0))))) (seqM (setM 4 (callR F__law_pull (argsM [(varM 0), (frozen (varM 1))])))
    (asgM (compM [6] (seqIt (ixA (varM 3) (op2 modD (addM (varF 4) (constM (.int 1))) (varM 1)))) (nameG 6) (retM true) (op2 subD (constM (.int 0)) (varF 6))) (subG (varM 3) (varF 4)))) skipM)
theorem set_mat {n a : Nat} {A : Mx} {f : Nat → Int} : ((matD n A).map T.fz).set a (.fz (.lst (rowD n f))) = (matD n (sr A a f)).map T.fz := by
  unfold matD
  rw [List.map_map, List.map_map, set_range]
  refine map_range_ext fun i _ => ?_
  by_cases e : i = a
  · subst e
    rw [if_pos rfl]
    show _ = T.fz (D.lst (rowD n (sr A i f i)))
    congr 2
    refine rowD_ext fun j _ => ?_
    unfold sr
    rw [if_pos rfl]
  · rw [if_neg e]
    show T.fz (D.lst (rowD n (A i))) = T.fz (D.lst (rowD n (sr A a f i)))
    congr 2
    refine rowD_ext fun j _ => ?_
    unfold sr
    rw [if_neg e]
theorem dD_ok (b : Bag) (hb : b.Ok) (n : Nat) (hn : n ≤ 1000) (x2 : Option T) (A : Mx) (hA : ∀ i j, B9 (A i j)) : ∃ (A' : Mx) (b' : Bag) (o4 : Option T), b'.Ok ∧ (∀ i j, B9 (A' i j)) ∧ dD [some b.t, tI (n : Int), x2, some (.ol ((matD n A).map T.fz)), none, none, none] = .ok .next [some b'.t, tI (n : Int), x2, some (.ol ((matD n A').map T.fz)), o4, none, none] := by
  by_cases h1 : (1 : Int) < (n : Int)
  · obtain ⟨p, b1, Γ1, hb1, p0, p1, e1⟩ := pull_ok b hb 4 (by decide) (by decide)
    by_cases hp : p = 0
    · obtain ⟨r, b2, Γ2, hb2, r0, r1, e2⟩ := pull_ok b1 hb1 n (by omega) (by omega)
      obtain ⟨j, rfl⟩ : ∃ j : Nat, r = (j : Int) := ⟨r.toNat, by omega⟩
      have hj : j < n := by omega
      obtain ⟨k, hk⟩ : ∃ k : Nat, ((j : Int) + 1) % (n : Int) = (k : Int) := ⟨(((j : Int) + 1) % (n : Int)).toNat, by
        have := Int.emod_nonneg ((j : Int) + 1) (show (n : Int) ≠ 0 by omega)
        omega⟩
      have hkn : k < n := by
        have := Int.emod_lt_of_pos ((j : Int) + 1) (show (0 : Int) < (n : Int) by omega)
        omega
      have a1 := at_mat (A := A) hkn
      have n0 : (0 : Int) < (n : Int) := by omega
      have hcomp : compL [6] (nameG 6) (retM true) (op2 subD (constM (.int 0)) (varF 6)) (rowD n (A k)) [some b2.t, tI (n : Int), x2, some (.ol ((matD n A).map T.fz)), tI (j : Int), none, none] = .ok (rowD n (fun c => 0 - A k c)) [some b2.t, tI (n : Int), x2, some (.ol ((matD n A).map T.fz)), tI (j : Int), none, none] := by
        refine comp_fun (fun c => D.int (A k c)) (fun c => D.int (0 - A k c)) (List.range n) fun c _ => ?_
        unfold tI
        simp
      have i1 := ixN_lt hj
      refine ⟨sr A j (fun c => 0 - A k c), b2, tI (j : Int), hb2, fun r c => ?_, ?_⟩
      · unfold sr
        split
        · have := hA k c
          show (0 - A k c).natAbs ≤ 999999999
          unfold B9 at this
          omega
        · exact hA r c
      · have hs := set_mat (n := n) (a := j) (A := A) (f := fun c => 0 - A k c)
        have hl : (matD n A).length = n := matD_len
        unfold tI at hcomp ⊢
        generalize rowD n (fun c => 0 - A k c) = es at hcomp hs
        rw [← hs]
        have n1 : 0 < n := by omega
        simp [h1, e1, hp, e2, n0, n1, hk, a1, hcomp, i1]
    · refine ⟨A, b1, none, hb1, hA, ?_⟩
      unfold tI
      simp [h1, e1, hp]
  · refine ⟨A, b, none, hb, hA, ?_⟩
    unfold tI
    simp [h1]
theorem drawn_ok (b : Bag) (hb : b.Ok) (n : Nat) (hn : n ≤ 1000) : ∃ (A : Mx) (b' : Bag) (Γ' : Env), b'.Ok ∧ (∀ i j, B9 (A i j)) ∧ F__law_box_drawn [b.t, .fz (.int (n : Int))] = .ok (.ol ((matD n A).map T.fz)) (some b'.t :: Γ') := by
  obtain ⟨d, b1, Γ1, hd, hb1, e1⟩ := of_ok b hb [.int 1, .int 2, .int 9, .int 9999] (by simp) (by simp)
  obtain ⟨t, rfl, t0, t1⟩ : ∃ t : Int, d = .int t ∧ 0 < t ∧ t ≤ 999999999 := by
    simp at hd
    rcases hd with h | h | h | h <;> exact ⟨_, h, by decide, by decide⟩
  obtain ⟨A1, b2, hb2, hA1, e2⟩ := dB_ok b1 hb1 n hn t t0 t1 none
  obtain ⟨A2, hA2, e3⟩ := dC_ok b2 n hn (tI t) A1 hA1
  obtain ⟨A3, b3, o4, hb3, hA3, e4⟩ := dD_ok b2 hb2 n hn (tI t) A2 hA2
  have e0 : (setM 2 (callR F__law_of (argsM [(varM 0), (frozen (lstM (argsM [(constM (.int 1)), (constM (.int 2)), (constM (.int 9)), (constM (.int 9999))])))]))) [some b.t, tI (n : Int), none, none, none, none, none] = .ok .next [some b1.t, tI (n : Int), tI t, none, none, none, none] := by
    unfold tI
    simp [e1, sizeLine]
  have ed : den__law_box_drawn = seqM (setM 2 (callR F__law_of (argsM [(varM 0), (frozen (lstM (argsM [(constM (.int 1)), (constM (.int 2)), (constM (.int 9)), (constM (.int 9999))])))]))) (seqM dB (seqM dC (seqM dD (retX 3)))) := by
    unfold den__law_box_drawn
    with_reducible rfl
  refine ⟨A3, b3, [tI (n : Int), tI t, none, o4, none, none], hb3, hA3, ?_⟩
  show outF (den__law_box_drawn [some b.t, tI (n : Int), none, none, none, none, none]) = _
  rw [ed, seq_next e0, seq_next e2, seq_next e3, seq_next e4]
  exact rfl
theorem zip_rows {n : Nat} {f g : Nat → Int} : zipD (rowD n f) (rowD n g) = (List.range n).map fun c => .tup [.int (f c), .int (g c)] := by
  have h := zip_ints (xs := (List.range n).map f) (ys := (List.range n).map g)
  rw [List.map_map, List.map_map] at h
  have h' : zipD (rowD n f) (rowD n g) = _ := h
  rw [h']
  apply List.ext_getElem?
  intro i
  by_cases c : i < n
  · simp [c]
  · rw [List.getElem?_eq_none (by simp; omega), List.getElem?_eq_none (by simp; omega)]
end DL
set_option maxHeartbeats 1000000
namespace DL
open PySem L2 BX
abbrev uA : M Flow := (setM 3 (addM (constM (.int 1)) (callR F__law_pull (argsM [(varM 1), (constM (.int 4))]))))
abbrev uB : M Flow := (asgM (compM [6] (range1 (constM (.int 2))) (nameG 6) (retM true) (callR F__law_box_drawn (argsM [(varM 1), (frozen (varM 3))]))) (seqG [4, 5]))
abbrev uEl : M T := (op2 subD (op2 modD (varF 8) (constM (.int 19))) (constM (.int 9)))
abbrev uC : M Flow := (setM 4 (compM [7] (seqIt (varM 4)) (nameG 7) (retM true) (compM [8] (seqIt (varF 7)) (nameG 8) (retM true) uEl)))
abbrev uD : M Flow := (setM 5 (compM [7] (seqIt (varM 5)) (nameG 7) (retM true) (compM [8] (seqIt (varF 7)) (nameG 8) (retM true) uEl)))
abbrev uE : M Flow := (setM 9 (lstM (argsM [])))
abbrev uCell : M T := (mulM (ixA (varF 7) (varF 6)) (ixA (ixA (varM 5) (varF 6)) (varF 10)))
abbrev uRowE : M T := (compM [10] (range1 (varM 3)) (nameG 10) (retM true) (callD sumD (argsM [(compM [6] (range1 (varM 3)) (nameG 6) (retM true) uCell)])))
abbrev uFt : M Flow := (exprM (appendM (varM 9) uRowE))
abbrev uF : M Flow := (forM (seqIt (varM 4)) (nameG 7) uFt)
abbrev uG : M Flow := (ifS (notM (boolM (call0 (F__law_same 6) (argsM [(frozen (call0 F_box (argsM [(varM 9)]))), (frozen (mulM (call0 F_box (argsM [(frozen (varM 4))])) (call0 F_box (argsM [(frozen (varM 5))]))))])))) (retS (constM (.bl false))) skipM)
abbrev uH : M Flow := (ifS (boolM (op2 neD (call0 F_box (argsM [(frozen (compM [6] (range1 (varM 3)) (nameG 6) (retM true) (compM [7] (seqIt (varM 4)) (nameG 7) (retM true) (ixA (varF 7) (varF 6)))))])) (call0 F_box (argsM [(frozen (varM 4))])))) (retS (constM (.bl false))) skipM)
abbrev uI : M Flow := (setM 6 (callR F__law_pull (argsM [(varM 1), (frozen (varM 3))])))
abbrev uJ : M Flow := (setM 10 (op2 modD (addM (addM (varF 6) (constM (.int 1))) (callR F__law_pull (argsM [(varM 1), (frozen (op2 subD (varM 3) (constM (.int 1))))]))) (varM 3)))
abbrev uK : M Flow := (setM 11 (op2 subD (callR F__law_pull (argsM [(varM 1), (constM (.int 9))])) (constM (.int 4))))
abbrev uL : M Flow := (setM 12 (compM [7] (seqIt (varM 4)) (nameG 7) (retM true) (listM (varF 7))))
abbrev uM : M Flow := (asgM (compM [13, 14] (zipIt (ixA (varM 4) (varF 10)) (ixA (varM 4) (varF 6))) (tupG [13, 14]) (retM true) (addM (varF 13) (mulM (varM 11) (varF 14)))) (subG (varM 12) (varF 10)))
abbrev uN : M Flow := (ifS (boolM (op2 neD (call0 F_box (argsM [(varM 12)])) (call0 F_box (argsM [(frozen (varM 4))])))) (retS (constM (.bl false))) skipM)
abbrev uO : M Flow := (asgM (tupM (argsM [(frozen (ixA (varM 4) (varF 6))), (frozen (ixA (varM 4) (varF 10)))])) (tupGs (consG (subG (varM 12) (varF 10)) (consG (subG (varM 12) (varF 6)) nilG)) 2))
abbrev uP : M Flow := (ifS (orM (boolM (op2 neD (call0 F_box (argsM [(varM 12)])) (op2 subD (constM (.int 0)) (call0 F_box (argsM [(frozen (varM 4))]))))) (boolM (op2 neD (call0 F_box_sign (argsM [(varM 12)])) (op2 subD (constM (.int 0)) (call0 F_box_sign (argsM [(frozen (varM 4))])))))) (retS (constM (.bl false))) skipM)
abbrev uQ : M Flow := (ifS (boolM (op2 gtD (varM 3) (constM (.int 1)))) (seqM uI (seqM uJ (seqM uK (seqM uL (seqM uM (seqM uN (seqM uL (seqM uO uP)))))))) skipM)
abbrev turnU : M Flow := seqM uA (seqM uB (seqM uC (seqM uD (seqM uE (seqM uF (seqM uG (seqM uH uQ)))))))
def kst (R : D) (b : Bag) (x2 x3 x4 x5 x6 x7 x9 x10 x11 x12 : Option T) : Env := [some (.fz R), some b.t, x2, x3, x4, x5, x6, x7, none, x9, x10, x11, x12, none, none]
abbrev tM (n : Nat) (A : Mx) : Option T := some (.fz (.lst (matD n A)))
abbrev tO (n : Nat) (A : Mx) : Option T := some (.ol ((matD n A).map T.fz))
theorem uA_ok (R : D) (b : Bag) (hb : b.Ok) (x2 x3 x4 x5 x6 x7 x9 x10 x11 x12 : Option T) : ∃ (n : Nat) (b' : Bag), b'.Ok ∧ 1 ≤ n ∧ n ≤ 4 ∧ uA (kst R b x2 x3 x4 x5 x6 x7 x9 x10 x11 x12) = .ok .next (kst R b' x2 (tI (n : Int)) x4 x5 x6 x7 x9 x10 x11 x12) := by
  obtain ⟨r, b1, Γ1, hb1, r0, r1, e1⟩ := pull_ok b hb 4 (by decide) (by decide)
  refine ⟨(1 + r).toNat, b1, hb1, by omega, by omega, ?_⟩
  have e : (((1 + r).toNat : Nat) : Int) = 1 + r := by omega
  rw [e]
  unfold kst tI
  simp [e1]
theorem uB_ok (R : D) (b : Bag) (hb : b.Ok) (n : Nat) (hn : n ≤ 4) (x2 x4 x5 x6 x7 x9 x10 x11 x12 : Option T) : ∃ (A B : Mx) (b' : Bag), b'.Ok ∧ uB (kst R b x2 (tI (n : Int)) x4 x5 x6 x7 x9 x10 x11 x12) = .ok .next (kst R b' x2 (tI (n : Int)) (tM n A) (tM n B) none x7 x9 x10 x11 x12) := by
  obtain ⟨A, b1, Γ1, hb1, _, e1⟩ := drawn_ok b hb n (by omega)
  obtain ⟨B, b2, Γ2, hb2, _, e2⟩ := drawn_ok b1 hb1 n (by omega)
  have r2 : rngOk 0 2 = true := by decide
  have h2 : rangeL 0 2 = [.int 0, .int 1] := rfl
  refine ⟨A, B, b2, hb2, ?_⟩
  unfold kst tI tM
  generalize matD n A = es at e1 ⊢
  generalize matD n B = fs at e2 ⊢
  have hc : compL [6] (nameG 6) (retM true) (callR F__law_box_drawn (argsM [(varM 1), (frozen (varM 3))])) [.int 0, .int 1] [some (.fz R), some b.t, x2, some (.fz (.int (n : Int))), x4, x5, none, x7, none, x9, x10, x11, x12, none, none] = .ok [.lst es, .lst fs] [some (.fz R), some b2.t, x2, some (.fz (.int (n : Int))), x4, x5, none, x7, none, x9, x10, x11, x12, none, none] := by
    have t1 : turnL [6] (nameG 6) (retM true) (callR F__law_box_drawn (argsM [(varM 1), (frozen (varM 3))])) (.int 0) [some (.fz R), some b.t, x2, some (.fz (.int (n : Int))), x4, x5, none, x7, none, x9, x10, x11, x12, none, none] = .ok (some (.lst es)) [some (.fz R), some b1.t, x2, some (.fz (.int (n : Int))), x4, x5, none, x7, none, x9, x10, x11, x12, none, none] := by
      simp [e1]
    have t2 : turnL [6] (nameG 6) (retM true) (callR F__law_box_drawn (argsM [(varM 1), (frozen (varM 3))])) (.int 1) [some (.fz R), some b1.t, x2, some (.fz (.int (n : Int))), x4, x5, none, x7, none, x9, x10, x11, x12, none, none] = .ok (some (.lst fs)) [some (.fz R), some b2.t, x2, some (.fz (.int (n : Int))), x4, x5, none, x7, none, x9, x10, x11, x12, none, none] := by
      simp [e2]
    show (turnL _ _ _ _ _ _).bind (fun o => bindM (compL _ _ _ _ _) fun es => retM (o.toList ++ es)) = _
    rw [t1]
    show ((turnL _ _ _ _ _ _).bind (fun o => bindM (compL _ _ _ _ _) fun es => retM (o.toList ++ es))).bind (fun es' => retM ((some (D.lst es)).toList ++ es')) = _
    rw [t2]
    rfl
  simp [r2, h2, hc]
def m19 (A : Mx) : Mx := fun i j => A i j % 19 - 9
theorem m19_b (A : Mx) (i j : Nat) : (m19 A i j).natAbs ≤ 9 := by
  unfold m19
  omega
theorem comp19 {n : Nat} {A : Mx} {Γ : Env} (h8 : Γ = Γ.set 8 none) (h7 : Γ = Γ.set 7 none) (hl : 8 < Γ.length) : compL [7] (nameG 7) (retM true) (compM [8] (seqIt (varF 7)) (nameG 8) (retM true) uEl) (matD n A) Γ = .ok (matD n (m19 A)) Γ := by
  refine comp_fun (fun i => D.lst (rowD n (A i))) (fun i => D.lst (rowD n (m19 A i))) (List.range n) fun i _ => ?_
  have hi : compL [8] (nameG 8) (retM true) uEl (rowD n (A i)) (Γ.set 7 (some (.fz (.lst (rowD n (A i)))))) = .ok (rowD n (m19 A i)) (Γ.set 7 (some (.fz (.lst (rowD n (A i)))))) := by
    refine comp_fun (fun j => D.int (A i j)) (fun j => D.int (m19 A i j)) (List.range n) fun j _ => ?_
    have g1 : ((Γ.set 7 (some (.fz (.lst (rowD n (A i)))))).set 8 (some (.fz (.int (A i j)))))[8]? = some (some (.fz (.int (A i j)))) := by
      rw [List.getElem?_set_self (by simpa using hl)]
    have g2 : ((Γ.set 7 (some (.fz (.lst (rowD n (A i)))))).set 8 (some (.fz (.int (A i j))))).set 8 none = Γ.set 7 (some (.fz (.lst (rowD n (A i))))) := by
      rw [List.set_set, List.set_comm _ _ (show (7 : Nat) ≠ 8 by decide), ← h8]
    simp [g1, m19]
    rw [← g2, List.set_set]
  have g1 : (Γ.set 7 (some (.fz (.lst (rowD n (A i))))))[7]? = some (some (.fz (.lst (rowD n (A i))))) := by
    rw [List.getElem?_set_self (by omega)]
  have g2 : (Γ.set 7 (some (.fz (.lst (rowD n (A i)))))).set 7 none = Γ := by
    rw [List.set_set]
    exact h7.symm
  have g3 : (Γ.set 7 (some (.fz (.lst (rowD n (A i)))))).set 8 none = Γ.set 7 (some (.fz (.lst (rowD n (A i))))) := by
    rw [List.set_comm _ _ (show (7 : Nat) ≠ 8 by decide), ← h8]
  generalize rowD n (A i) = es at *
  simp [g1, g3, hi]
  rw [← h7]
theorem uC_ok (R : D) (b : Bag) (n : Nat) (A : Mx) (x2 x3 x5 x6 x7 x9 x10 x11 x12 : Option T) : uC (kst R b x2 x3 (tM n A) x5 x6 x7 x9 x10 x11 x12) = .ok .next (kst R b x2 x3 (tO n (m19 A)) x5 x6 none x9 x10 x11 x12) := by
  have hc := comp19 (n := n) (A := A) (Γ := kst R b x2 x3 (tM n A) x5 x6 none x9 x10 x11 x12) rfl rfl (by show 8 < 15; decide)
  unfold kst tM tO at *
  generalize matD n (m19 A) = fs at hc ⊢
  generalize matD n A = es at hc ⊢
  simp [hc]
theorem uD_ok (R : D) (b : Bag) (n : Nat) (A : Mx) (x2 x3 x4 x6 x7 x9 x10 x11 x12 : Option T) : uD (kst R b x2 x3 x4 (tM n A) x6 x7 x9 x10 x11 x12) = .ok .next (kst R b x2 x3 x4 (tO n (m19 A)) x6 none x9 x10 x11 x12) := by
  have hc := comp19 (n := n) (A := A) (Γ := kst R b x2 x3 x4 (tM n A) x6 none x9 x10 x11 x12) rfl rfl (by show 8 < 15; decide)
  unfold kst tM tO at *
  generalize matD n (m19 A) = fs at hc ⊢
  generalize matD n A = es at hc ⊢
  simp [hc]
theorem uE_ok (R : D) (b : Bag) (x2 x3 x4 x5 x6 x7 x9 x10 x11 x12 : Option T) : uE (kst R b x2 x3 x4 x5 x6 x7 x9 x10 x11 x12) = .ok .next (kst R b x2 x3 x4 x5 x6 x7 (some (.ol [])) x10 x11 x12) := by
  unfold kst
  simp [sizeLine]
theorem sum_range (f : Nat → Int) : ∀ n : Nat, ((List.range n).map f).sum = sumN n f
  | 0 => rfl
  | n + 1 => by
    rw [List.range_succ, List.map_append, List.sum_append, sum_range f n]
    simp [sumN]
theorem prodB {n : Nat} {A B : Mx} (hn : n ≤ 4) (hA : ∀ i j, (A i j).natAbs ≤ 9) (hB : ∀ i j, (B i j).natAbs ≤ 9) : Bnd (mulX n A B) := fun i j => by
  have := sum_bound (n := n) (b := 81) (f := fun k => A i k * B k j) fun k _ => by
    rw [Int.natAbs_mul]
    exact Nat.mul_le_mul (hA i k) (hB k j)
  have h2 : n * 81 ≤ 2 ^ 30 := Nat.le_trans (Nat.mul_le_mul hn (Nat.le_refl _)) (by decide)
  exact Nat.le_trans this h2
theorem bnd9 {A : Mx} (hA : ∀ i j, (A i j).natAbs ≤ 9) : Bnd A := fun i j => Nat.le_trans (hA i j) (by decide)
theorem uFt_ok (R : D) (b : Bag) (n i : Nat) (hn : n ≤ 4) (hi : i < n) (A B : Mx) (hA : ∀ i j, (A i j).natAbs ≤ 9) (ts : List T) (hts : ts.length < 10) (x2 x4 x10 x11 x12 : Option T) : uFt (kst R b x2 (tI (n : Int)) x4 (tO n B) none (some (.fz (.lst (rowD n (A i))))) (some (.ol ts)) x10 x11 x12) = .ok .next (kst R b x2 (tI (n : Int)) x4 (tO n B) none (some (.fz (.lst (rowD n (A i))))) (some (.ol (ts ++ [.fz (.lst (rowD n (mulX n A B i)))]))) none x11 x12) := by
  have hr : rngOk 0 (n : Int) = true := rng_nat (Nat.le_trans hn (by decide))
  have hin : ∀ j, j < n → compL [6] (nameG 6) (retM true) uCell (rangeL 0 n) (kst R b x2 (tI (n : Int)) x4 (tO n B) none (some (.fz (.lst (rowD n (A i))))) (some (.ol ts)) (tI (j : Int)) x11 x12) = .ok (((List.range n).map fun k => A i k * B k j).map D.int) (kst R b x2 (tI (n : Int)) x4 (tO n B) none (some (.fz (.lst (rowD n (A i))))) (some (.ol ts)) (tI (j : Int)) x11 x12) := by
    intro j hj
    rw [List.map_map]
    refine comp_fun (fun k : Nat => D.int (0 + (k : Int))) (D.int ∘ fun k => A i k * B k j) (List.range n) fun k hk => ?_
    have hk' := List.mem_range.mp hk
    have a1 := at_row (f := A i) hk'
    have a2 := at_mat (A := B) hk'
    have a3 := at_row (f := B k) hj
    have s1 : small64 (A i k) = true := small_bnd (Nat.le_trans (hA i k) (by decide))
    unfold kst tI tO
    simp [a1, a2, a3, s1]
  have hout : compL [10] (nameG 10) (retM true) (callD sumD (argsM [(compM [6] (range1 (varM 3)) (nameG 6) (retM true) uCell)])) (rangeL 0 n) (kst R b x2 (tI (n : Int)) x4 (tO n B) none (some (.fz (.lst (rowD n (A i))))) (some (.ol ts)) none x11 x12) = .ok (rowD n (mulX n A B i)) (kst R b x2 (tI (n : Int)) x4 (tO n B) none (some (.fz (.lst (rowD n (A i))))) (some (.ol ts)) none x11 x12) := by
    refine comp_fun (fun j : Nat => D.int (0 + (j : Int))) (fun j => D.int (mulX n A B i j)) (List.range n) fun j hj => ?_
    have h1 := hin j (List.mem_range.mp hj)
    have h2 := sum_ints (ns := (List.range n).map fun k => A i k * B k j)
    rw [sum_range] at h2
    have h3 : sumN n (fun k => A i k * B k j) = mulX n A B i j := rfl
    rw [h3] at h2
    generalize (((List.range n).map fun k => A i k * B k j).map D.int) = es at h1 h2
    unfold kst tI tO at *
    simp [hr, h1, h2]
  have hz : ts.length < sizeLine := Nat.lt_of_lt_of_le hts (by decide)
  unfold kst tI tO at *
  generalize rowD n (mulX n A B i) = es at hout ⊢
  unfold sizeLine at hz
  simp [hr, hout, hz, sizeLine]
theorem uF_ok (R : D) (b : Bag) (n : Nat) (hn : n ≤ 4) (A B : Mx) (hA : ∀ i j, (A i j).natAbs ≤ 9) (x2 x7 x10 x11 x12 : Option T) : ∃ o7 o10, uF (kst R b x2 (tI (n : Int)) (tO n A) (tO n B) none x7 (some (.ol [])) x10 x11 x12) = .ok .next (kst R b x2 (tI (n : Int)) (tM n A) (tO n B) none o7 (tO n (mulX n A B)) o10 x11 x12) := by
  obtain ⟨⟨o7, o10, ts⟩, ht, e1⟩ := loop_invB (S := Option T × Option T × List T) (fun s => kst R b x2 (tI (n : Int)) (tM n A) (tO n B) none s.1 (some (.ol s.2.2)) s.2.1 x11 x12) (fun i s => s.2.2 = (List.range i).map fun r => T.fz (.lst (rowD n (mulX n A B r)))) (g := nameG 7) (body := uFt) (matD n A) 0 (x7, x10, []) rfl (by
    rintro i ⟨y7, y10, ts⟩ d hd ht
    have hi : i < n := by
      have := (List.getElem?_eq_some_iff.mp hd).1
      rw [matD_len] at this
      exact this
    have ed : d = .lst (rowD n (A i)) := by
      unfold matD at hd
      simp [hi] at hd
      exact hd.symm
    subst ed
    rw [Nat.zero_add] at ht ⊢
    have ht' : ts = _ := ht
    refine ⟨(some (.fz (.lst (rowD n (A i)))), none, ts ++ [.fz (.lst (rowD n (mulX n A B i)))]), ?_, ?_⟩
    · show ts ++ [.fz (.lst (rowD n (mulX n A B i)))] = _
      rw [List.range_succ, List.map_append, ht']
      rfl
    · have e0 : nameG 7 (.lst (rowD n (A i))) (kst R b x2 (tI (n : Int)) (tM n A) (tO n B) none y7 (some (.ol ts)) y10 x11 x12) = .ok () (kst R b x2 (tI (n : Int)) (tM n A) (tO n B) none (some (.fz (.lst (rowD n (A i))))) (some (.ol ts)) y10 x11 x12) := rfl
      show (nameG 7 (.lst (rowD n (A i))) (kst R b x2 (tI (n : Int)) (tM n A) (tO n B) none y7 (some (.ol ts)) y10 x11 x12)).bind (fun _ => uFt) = _
      have hl : ts.length < 10 := by
        rw [ht', List.length_map, List.length_range]
        omega
      have e9 := uFt_ok R b n i hn hi A B hA ts hl x2 (tM n A) y10 x11 x12
      rw [e0, ev_ok, e9])
  rw [matD_len, Nat.zero_add] at ht
  have ht' : ts = _ := ht
  subst ht'
  refine ⟨o7, o10, ?_⟩
  have e2 : (seqIt (varM 4)) (kst R b x2 (tI (n : Int)) (tO n A) (tO n B) none x7 (some (.ol [])) x10 x11 x12) = .ok (matD n A) (kst R b x2 (tI (n : Int)) (tM n A) (tO n B) none x7 (some (.ol [])) x10 x11 x12) := by
    unfold kst tI tO tM
    simp
  have e3 : tO n (mulX n A B) = some (.ol ((List.range n).map fun r => T.fz (.lst (rowD n (mulX n A B r))))) := by
    unfold tO matD
    rw [List.map_map]
    rfl
  have e4 : uF (kst R b x2 (tI (n : Int)) (tO n A) (tO n B) none x7 (some (.ol [])) x10 x11 x12) = ((seqIt (varM 4)) (kst R b x2 (tI (n : Int)) (tO n A) (tO n B) none x7 (some (.ol [])) x10 x11 x12)).bind (fun ds => loopM (nameG 7) uFt ds) := ev_for _ _ _
  rw [e4, e2, e3]
  exact e1
theorem det_small {n : Nat} {A : Mx} (hn : n ≤ 4) (hA : ∀ i j, (A i j).natAbs ≤ 9) : small64 (det n A) = true := by
  refine small_bnd (Nat.le_trans (det_bound (M := 9) hA) ?_)
  have : ∀ n, n < 5 → BX.bnd 9 n ≤ 2 ^ 30 := by decide
  exact this n (by omega)
theorem uG_ok (R : D) (b : Bag) (n : Nat) (hn : n ≤ 4) (A B : Mx) (hA : ∀ i j, (A i j).natAbs ≤ 9) (hB : ∀ i j, (B i j).natAbs ≤ 9) (x2 x7 x10 x11 x12 : Option T) : ∃ o9, uG (kst R b x2 (tI (n : Int)) (tM n A) (tO n B) none x7 (tO n (mulX n A B)) x10 x11 x12) = .ok .next (kst R b x2 (tI (n : Int)) (tM n A) (tM n B) none x7 o9 x10 x11 x12) := by
  obtain ⟨Γ1, e1⟩ := box_ok (Box.ll (n := n) (A := mulX n A B)) (by omega) (prodB hn hA hB)
  obtain ⟨Γ2, e2⟩ := box_ok (Box.ll (n := n) (A := A)) (by omega) (bnd9 hA)
  obtain ⟨Γ3, e3⟩ := box_ok (Box.ll (n := n) (A := B)) (by omega) (bnd9 hB)
  rw [det_mul] at e1
  have s1 := det_small hn hA
  obtain ⟨Γd, hd⟩ := same_ok 6 1 (.int (det n A * det n B)) (by decide) (by simp)
  generalize det n A = p at *
  generalize det n B = q at *
  refine ⟨tO n (mulX n A B), ?_⟩
  unfold kst tI tO tM
  generalize matD n (mulX n A B) = es at *
  generalize matD n A = fs at *
  generalize matD n B = gs at *
  simp [e1, e2, e3, s1, hd]
theorem es_mat {n : Nat} {A : Mx} {es : List D} (hl : es.length = n) (h : ∀ j e, es[j]? = some e → e = D.lst (rowD n (A j))) : es = matD n A := by
  apply List.ext_getElem?
  intro i
  unfold matD
  by_cases c : i < n
  · cases e : es[i]? with
    | none => rw [List.getElem?_eq_none_iff] at e; omega
    | some d => simp [c, h i d e]
  · rw [List.getElem?_eq_none (by omega), List.getElem?_eq_none (by simp; omega)]
theorem uH_ok (R : D) (b : Bag) (n : Nat) (hn : n ≤ 4) (A : Mx) (hA : ∀ i j, (A i j).natAbs ≤ 9) (x2 x5 x7 x9 x10 x11 x12 : Option T) : ∃ o7, uH (kst R b x2 (tI (n : Int)) (tM n A) x5 none x7 x9 x10 x11 x12) = .ok .next (kst R b x2 (tI (n : Int)) (tM n A) x5 none o7 x9 x10 x11 x12) := by
  have hr : rngOk 0 (n : Int) = true := rng_nat (Nat.le_trans hn (by decide))
  obtain ⟨o7, es, _, hes, hpe, hcomp⟩ := comp_invI (S := Option T) (fun s => kst R b x2 (tI (n : Int)) (tM n A) x5 none s x9 x10 x11 x12) (fun _ => True) (fun k e => e = D.lst (rowD n (tr A k))) (vs := [6]) (g := nameG 6) (ft := retM true) (fe := compM [7] (seqIt (varM 4)) (nameG 7) (retM true) (ixA (varF 7) (varF 6))) (rangeL 0 n) 0 x7 trivial (by
    intro k y7 d hd _
    obtain ⟨hk, rfl⟩ := rangeL_get hd
    rw [Int.zero_add, Nat.zero_add]
    have hc : compL [7] (nameG 7) (retM true) (ixA (varF 7) (varF 6)) (matD n A) (kst R b x2 (tI (n : Int)) (tM n A) x5 (tI (k : Int)) none x9 x10 x11 x12) = .ok (rowD n (tr A k)) (kst R b x2 (tI (n : Int)) (tM n A) x5 (tI (k : Int)) none x9 x10 x11 x12) := by
      refine comp_fun (fun i => D.lst (rowD n (A i))) (fun i => D.int (tr A k i)) (List.range n) fun i _ => ?_
      have a1 := at_row (f := A i) hk
      unfold kst tI tM tr
      simp [a1]
    refine ⟨none, .lst (rowD n (tr A k)), trivial, rfl, ?_⟩
    unfold kst tI tM at *
    generalize rowD n (tr A k) = fs at hc ⊢
    generalize matD n A = es at hc ⊢
    simp [hc])
  have hm := es_mat (A := tr A) (hes.trans rangeL_length) (fun j e he => by have := hpe j e he; rw [Nat.zero_add] at this; exact this)
  subst hm
  obtain ⟨Γ1, e1⟩ := box_ok (Box.ll (n := n) (A := tr A)) (by omega) (bnd9 fun i j => hA j i)
  obtain ⟨Γ2, e2⟩ := box_ok (Box.ll (n := n) (A := A)) (by omega) (bnd9 hA)
  rw [det_tr] at e1
  refine ⟨o7, ?_⟩
  generalize det n A = p at *
  unfold kst tI tM at *
  generalize matD n (tr A) = fs at *
  generalize matD n A = es at *
  simp [hr, hcomp, e1, e2]
theorem uIJK_ok (R : D) (b : Bag) (hb : b.Ok) (n : Nat) (h1 : 1 < n) (hn : n ≤ 4) (x2 x4 x5 x6 x7 x9 x10 x11 x12 : Option T) : ∃ (j k : Nat) (y : Int) (b' : Bag), b'.Ok ∧ j < n ∧ k < n ∧ j ≠ k ∧ y.natAbs ≤ 4 ∧ ∀ g : M Flow, seqM uI (seqM uJ (seqM uK g)) (kst R b x2 (tI (n : Int)) x4 x5 x6 x7 x9 x10 x11 x12) = g (kst R b' x2 (tI (n : Int)) x4 x5 (tI (k : Int)) x7 x9 (tI (j : Int)) (tI y) x12) := by
  obtain ⟨r, b1, Γ1, hb1, r0, r1, e1⟩ := pull_ok b hb n (by omega) (by omega)
  obtain ⟨k, rfl⟩ : ∃ k : Nat, r = (k : Int) := ⟨r.toNat, by omega⟩
  obtain ⟨s, b2, Γ2, hb2, s0, s1, e2⟩ := pull_ok b1 hb1 ((n : Int) - 1) (by omega) (by omega)
  obtain ⟨u, b3, Γ3, hb3, u0, u1, e3⟩ := pull_ok b2 hb2 9 (by decide) (by decide)
  have n0 : (0 : Int) < (n : Int) := by omega
  have n1 : 0 < n := by omega
  obtain ⟨j, hj⟩ : ∃ j : Nat, ((k : Int) + 1 + s) % (n : Int) = (j : Int) := ⟨(((k : Int) + 1 + s) % (n : Int)).toNat, by
    have := Int.emod_nonneg ((k : Int) + 1 + s) (show (n : Int) ≠ 0 by omega)
    omega⟩
  have hjn : j < n := by
    have := Int.emod_lt_of_pos ((k : Int) + 1 + s) n0
    omega
  have hne : j ≠ k := fun z => by
    subst z
    have h7 : n = 2 ∨ n = 3 ∨ n = 4 := by omega
    rcases h7 with rfl | rfl | rfl <;> omega
  refine ⟨j, k, u - 4, b3, hb3, hjn, by omega, hne, by omega, fun g => ?_⟩
  have f1 : uI (kst R b x2 (tI (n : Int)) x4 x5 x6 x7 x9 x10 x11 x12) = .ok .next (kst R b1 x2 (tI (n : Int)) x4 x5 (tI (k : Int)) x7 x9 x10 x11 x12) := by
    unfold kst tI
    simp [e1]
  have f2 : uJ (kst R b1 x2 (tI (n : Int)) x4 x5 (tI (k : Int)) x7 x9 x10 x11 x12) = .ok .next (kst R b2 x2 (tI (n : Int)) x4 x5 (tI (k : Int)) x7 x9 (tI (j : Int)) x11 x12) := by
    unfold kst tI
    simp [e2, n0, n1, hj]
  have f3 : uK (kst R b2 x2 (tI (n : Int)) x4 x5 (tI (k : Int)) x7 x9 (tI (j : Int)) x11 x12) = .ok .next (kst R b3 x2 (tI (n : Int)) x4 x5 (tI (k : Int)) x7 x9 (tI (j : Int)) (tI (u - 4)) x12) := by
    unfold kst tI
    simp [e3]
  rw [seq_next f1, seq_next f2, seq_next f3]
theorem uL_ok (R : D) (b : Bag) (n : Nat) (A : Mx) (x2 x3 x5 x6 x7 x9 x10 x11 x12 : Option T) : uL (kst R b x2 x3 (tM n A) x5 x6 x7 x9 x10 x11 x12) = .ok .next (kst R b x2 x3 (tM n A) x5 x6 none x9 x10 x11 (tO n A)) := by
  have hc : compL [7] (nameG 7) (retM true) (listM (varF 7)) (matD n A) (kst R b x2 x3 (tM n A) x5 x6 none x9 x10 x11 x12) = .ok (matD n A) (kst R b x2 x3 (tM n A) x5 x6 none x9 x10 x11 x12) := by
    refine comp_fun (fun i => D.lst (rowD n (A i))) (fun i => D.lst (rowD n (A i))) (List.range n) fun i _ => ?_
    unfold kst
    simp
  unfold kst tM tO at *
  generalize matD n A = es at hc ⊢
  simp [hc]
theorem uM_ok (R : D) (b : Bag) (n j k : Nat) (A : Mx) (y : Int) (hy : y.natAbs ≤ 4) (hj : j < n) (hk : k < n) (x2 x3 x5 x7 x9 : Option T) : uM (kst R b x2 x3 (tM n A) x5 (tI (k : Int)) x7 x9 (tI (j : Int)) (tI y) (tO n A)) = .ok .next (kst R b x2 x3 (tM n A) x5 (tI (k : Int)) x7 x9 (tI (j : Int)) (tI y) (tO n (sr A j (fun c => A j c + y * A k c)))) := by
  have a1 := at_mat (A := A) hj
  have a2 := at_mat (A := A) hk
  have s1 : small64 y = true := small_bnd (Nat.le_trans hy (by decide))
  have hz := zip_rows (n := n) (f := A j) (g := A k)
  have hcomp : compL [13, 14] (tupG [13, 14]) (retM true) (addM (varF 13) (mulM (varM 11) (varF 14))) ((List.range n).map fun c => .tup [.int (A j c), .int (A k c)]) (kst R b x2 x3 (tM n A) x5 (tI (k : Int)) x7 x9 (tI (j : Int)) (tI y) (tO n A)) = .ok (rowD n (fun c => A j c + y * A k c)) (kst R b x2 x3 (tM n A) x5 (tI (k : Int)) x7 x9 (tI (j : Int)) (tI y) (tO n A)) := by
    refine comp_fun (fun c => D.tup [.int (A j c), .int (A k c)]) (fun c => D.int (A j c + y * A k c)) (List.range n) fun c _ => ?_
    unfold kst tI
    simp [s1]
  have hs := set_mat (n := n) (a := j) (A := A) (f := fun c => A j c + y * A k c)
  have i1 := ixN_lt hj
  unfold kst tI tM tO at *
  rw [← hs]
  generalize rowD n (fun c => A j c + y * A k c) = es at hcomp ⊢
  generalize ((List.range n).map fun c => D.tup [.int (A j c), .int (A k c)]) = src at hcomp hz
  simp [a1, a2, hz, hcomp, i1]
theorem uN_ok (R : D) (b : Bag) (n : Nat) (hn : n ≤ 4) (A A' : Mx) (hA : Bnd A) (hA' : Bnd A') (hd : det n A' = det n A) (x2 x3 x5 x6 x7 x9 x10 x11 : Option T) : uN (kst R b x2 x3 (tM n A) x5 x6 x7 x9 x10 x11 (tO n A')) = .ok .next (kst R b x2 x3 (tM n A) x5 x6 x7 x9 x10 x11 (tO n A')) := by
  obtain ⟨Γ1, e1⟩ := box_ok (Box.ll (n := n) (A := A')) (by omega) hA'
  obtain ⟨Γ2, e2⟩ := box_ok (Box.ll (n := n) (A := A)) (by omega) hA
  rw [hd] at e1
  generalize det n A = p at *
  unfold kst tM tO
  generalize matD n A = es at *
  generalize matD n A' = fs at *
  simp [e1, e2]
theorem swp_sr {n : Nat} {A : Mx} {j k : Nat} (hne : j ≠ k) : (matD n (sr (sr A j (A k)) k (A j))).map T.fz = (matD n (BX.swp A j k)).map T.fz := by
  rw [mat_ext fun i c _ _ => ?_]
  unfold sr BX.swp
  by_cases c1 : i = k
  · subst c1
    rw [if_pos rfl, if_neg (Ne.symm hne), if_pos rfl]
  · rw [if_neg c1]
    by_cases c2 : i = j
    · subst c2
      rw [if_pos rfl, if_pos rfl]
    · rw [if_neg c2, if_neg c2, if_neg c1]
theorem uO_ok (R : D) (b : Bag) (n j k : Nat) (A : Mx) (hj : j < n) (hk : k < n) (hne : j ≠ k) (x2 x3 x5 x7 x9 x11 : Option T) : uO (kst R b x2 x3 (tM n A) x5 (tI (k : Int)) x7 x9 (tI (j : Int)) x11 (tO n A)) = .ok .next (kst R b x2 x3 (tM n A) x5 (tI (k : Int)) x7 x9 (tI (j : Int)) x11 (tO n (BX.swp A j k))) := by
  have a1 := at_mat (A := A) hj
  have a2 := at_mat (A := A) hk
  have s1 := set_mat (n := n) (a := j) (A := A) (f := A k)
  have s2 := set_mat (n := n) (a := k) (A := sr A j (A k)) (f := A j)
  rw [swp_sr hne] at s2
  have i1 := ixN_lt hj
  have i2 := ixN_lt hk
  have l1 : ((matD n A).map T.fz).length = n := by simp
  unfold kst tI tM tO
  rw [← s2, ← s1]
  simp [a1, a2, i1, i2, sizeLine]
theorem zsgn_neg (z : Int) : zsgn (-z) = 0 - zsgn z := by
  unfold zsgn
  (repeat' split) <;> omega
theorem uP_ok (R : D) (b : Bag) (n : Nat) (hn : n ≤ 4) (A A' : Mx) (hA : Bnd A) (hA' : Bnd A') (hd : det n A' = -det n A) (x2 x3 x5 x6 x7 x9 x10 x11 : Option T) : uP (kst R b x2 x3 (tM n A) x5 x6 x7 x9 x10 x11 (tO n A')) = .ok .next (kst R b x2 x3 (tM n A) x5 x6 x7 x9 x10 x11 (tO n A')) := by
  obtain ⟨Γ1, e1⟩ := box_ok (Box.ll (n := n) (A := A')) (by omega) hA'
  obtain ⟨Γ2, e2⟩ := box_ok (Box.ll (n := n) (A := A)) (by omega) hA
  obtain ⟨Γ3, e3⟩ := boxs_ok (Box.ll (n := n) (A := A')) (by omega) hA'
  obtain ⟨Γ4, e4⟩ := boxs_ok (Box.ll (n := n) (A := A)) (by omega) hA
  rw [hd, zsgn_neg] at e3
  rw [hd] at e1
  generalize zsgn (det n A) = q at *
  generalize det n A = p at *
  unfold kst tM tO
  generalize matD n A = es at *
  generalize matD n A' = fs at *
  simp [e1, e2, e3, e4]
theorem bnd_row {A : Mx} (hA : ∀ i j, (A i j).natAbs ≤ 9) {j k : Nat} {y : Int} (hy : y.natAbs ≤ 4) : Bnd (sr A j (fun c => A j c + y * A k c)) := fun i c => by
  unfold sr
  split
  · show (A j c + y * A k c).natAbs ≤ 2 ^ 30
    have h1 := hA j c
    have h2 := hA k c
    have h3 := Int.natAbs_add_le (A j c) (y * A k c)
    rw [Int.natAbs_mul] at h3
    have h4 : y.natAbs * (A k c).natAbs ≤ 4 * 9 := Nat.mul_le_mul hy h2
    have : (2 : Nat) ^ 30 = 1073741824 := by decide
    omega
  · exact bnd9 hA i c
theorem ifS_t {c : M Bool} {f g : M Flow} {Γ Γ' : Env} (h : c Γ = .ok true Γ') : ifS c f g Γ = f Γ' := by
  unfold ifS ifM
  show (c Γ).bind _ = _
  rw [h]
  rfl
theorem uQ_ok (R : D) (b : Bag) (hb : b.Ok) (n : Nat) (hn : n ≤ 4) (A : Mx) (hA : ∀ i j, (A i j).natAbs ≤ 9) (x2 x5 x7 x9 x10 x11 x12 : Option T) : ∃ (b' : Bag) (o6 o7 o10 o11 o12 : Option T), b'.Ok ∧ uQ (kst R b x2 (tI (n : Int)) (tM n A) x5 none x7 x9 x10 x11 x12) = .ok .next (kst R b' x2 (tI (n : Int)) (tM n A) x5 o6 o7 x9 o10 o11 o12) := by
  by_cases h1 : 1 < n
  · obtain ⟨j, k, y, b1, hb1, hj, hk, hne, hy, e1⟩ := uIJK_ok R b hb n h1 hn x2 (tM n A) x5 none x7 x9 x10 x11 x12
    have e2 := uL_ok R b1 n A x2 (tI (n : Int)) x5 (tI (k : Int)) x7 x9 (tI (j : Int)) (tI y) x12
    have e3 := uM_ok R b1 n j k A y hy hj hk x2 (tI (n : Int)) x5 none x9
    have e4 := uN_ok R b1 n hn A (sr A j (fun c => A j c + y * A k c)) (bnd9 hA) (bnd_row hA hy) (det_addrow hj hk hne) x2 (tI (n : Int)) x5 (tI (k : Int)) none x9 (tI (j : Int)) (tI y)
    have e5 := uL_ok R b1 n A x2 (tI (n : Int)) x5 (tI (k : Int)) none x9 (tI (j : Int)) (tI y) (tO n (sr A j (fun c => A j c + y * A k c)))
    have e6 := uO_ok R b1 n j k A hj hk hne x2 (tI (n : Int)) x5 none x9 (tI y)
    have e7 := uP_ok R b1 n hn A (BX.swp A j k) (bnd9 hA) ((bnd9 hA).swp j k) (det_swp' hj hk hne) x2 (tI (n : Int)) x5 (tI (k : Int)) none x9 (tI (j : Int)) (tI y)
    refine ⟨b1, tI (k : Int), none, tI (j : Int), tI y, tO n (BX.swp A j k), hb1, ?_⟩
    have e0 : uQ (kst R b x2 (tI (n : Int)) (tM n A) x5 none x7 x9 x10 x11 x12) = seqM uI (seqM uJ (seqM uK (seqM uL (seqM uM (seqM uN (seqM uL (seqM uO uP))))))) (kst R b x2 (tI (n : Int)) (tM n A) x5 none x7 x9 x10 x11 x12) := by
      have h1' : (1 : Int) < (n : Int) := by omega
      have t : (boolM (op2 gtD (varM 3) (constM (.int 1)))) (kst R b x2 (tI (n : Int)) (tM n A) x5 none x7 x9 x10 x11 x12) = .ok true (kst R b x2 (tI (n : Int)) (tM n A) x5 none x7 x9 x10 x11 x12) := by
        unfold kst tI
        simp [h1']
      exact ifS_t t
    rw [e0, e1, seq_next e2, seq_next e3, seq_next e4, seq_next e5, seq_next e6, e7]
  · refine ⟨b, none, x7, x10, x11, x12, hb, ?_⟩
    have h1' : ¬ (1 : Int) < (n : Int) := by omega
    unfold kst tI
    simp [h1']
theorem turnU_ok (R : D) (b : Bag) (hb : b.Ok) (x2 x3 x4 x5 x6 x7 x9 x10 x11 x12 : Option T) : ∃ (b' : Bag) (o3 o4 o5 o6 o7 o9 o10 o11 o12 : Option T), b'.Ok ∧ turnU (kst R b x2 x3 x4 x5 x6 x7 x9 x10 x11 x12) = .ok .next (kst R b' x2 o3 o4 o5 o6 o7 o9 o10 o11 o12) := by
  obtain ⟨n, b1, hb1, n1, hn, e1⟩ := uA_ok R b hb x2 x3 x4 x5 x6 x7 x9 x10 x11 x12
  obtain ⟨A0, B0, b2, hb2, e2⟩ := uB_ok R b1 hb1 n hn x2 x4 x5 x6 x7 x9 x10 x11 x12
  have e3 := uC_ok R b2 n A0 x2 (tI (n : Int)) (tM n B0) none x7 x9 x10 x11 x12
  have e4 := uD_ok R b2 n B0 x2 (tI (n : Int)) (tO n (m19 A0)) none none x9 x10 x11 x12
  have e5 := uE_ok R b2 x2 (tI (n : Int)) (tO n (m19 A0)) (tO n (m19 B0)) none none x9 x10 x11 x12
  obtain ⟨o7, o10, e6⟩ := uF_ok R b2 n hn (m19 A0) (m19 B0) (m19_b A0) x2 none x10 x11 x12
  obtain ⟨o9, e7⟩ := uG_ok R b2 n hn (m19 A0) (m19 B0) (m19_b A0) (m19_b B0) x2 o7 o10 x11 x12
  obtain ⟨q7, e8⟩ := uH_ok R b2 n hn (m19 A0) (m19_b A0) x2 (tM n (m19 B0)) o7 o9 o10 x11 x12
  obtain ⟨b3, w6, w7, w10, w11, w12, hb3, e9⟩ := uQ_ok R b2 hb2 n hn (m19 A0) (m19_b A0) x2 (tM n (m19 B0)) q7 o9 o10 x11 x12
  refine ⟨b3, tI (n : Int), tM n (m19 A0), tM n (m19 B0), w6, w7, o9, w10, w11, w12, hb3, ?_⟩
  exact (seq_next e1).trans ((seq_next e2).trans ((seq_next e3).trans ((seq_next e4).trans ((seq_next e5).trans ((seq_next e6).trans ((seq_next e7).trans ((seq_next e8).trans e9)))))))
theorem law_sem (ns : List Int) (h : ns.length ≤ 63) : Gives (F_law [.fz (.scr ns)]) (.fz (.bl true)) := by
  obtain ⟨b, hb, Γ0, e0⟩ := bag_ok ns h
  obtain ⟨⟨b1, y2, y3, y4, y5, y6, y7, y9, y10, y11, y12⟩, hb1, e1⟩ := loop_inv (S := Bag × Option T × Option T × Option T × Option T × Option T × Option T × Option T × Option T × Option T × Option T) (fun s => kst (.scr ns) s.1 s.2.1 s.2.2.1 s.2.2.2.1 s.2.2.2.2.1 s.2.2.2.2.2.1 s.2.2.2.2.2.2.1 s.2.2.2.2.2.2.2.1 s.2.2.2.2.2.2.2.2.1 s.2.2.2.2.2.2.2.2.2.1 s.2.2.2.2.2.2.2.2.2.2) (fun _ s => s.1.Ok) (g := nameG 2) (body := turnU) (rangeL 0 4) 0 (b, none, none, none, none, none, none, none, none, none, none) hb (by
    rintro k ⟨b, y2, y3, y4, y5, y6, y7, y9, y10, y11, y12⟩ d hd hb
    obtain ⟨b', z3, z4, z5, z6, z7, z9, z10, z11, z12, hb', e⟩ := turnU_ok (.scr ns) b hb (some (.fz d)) y3 y4 y5 y6 y7 y9 y10 y11 y12
    refine ⟨(b', some (.fz d), z3, z4, z5, z6, z7, z9, z10, z11, z12), hb', ?_⟩
    have q : nameG 2 d (kst (.scr ns) b y2 y3 y4 y5 y6 y7 y9 y10 y11 y12) = .ok () (kst (.scr ns) b (some (.fz d)) y3 y4 y5 y6 y7 y9 y10 y11 y12) := rfl
    show (nameG 2 d (kst (.scr ns) b y2 y3 y4 y5 y6 y7 y9 y10 y11 y12)).bind (fun _ => turnU) = _
    rw [q]
    exact e)
  simp only at e1
  have r4 : rngOk 0 4 = true := by decide
  have f1 : (setM 1 (call0 F__law_bag (argsM [(frozen (varM 0))]))) [some (.fz (.scr ns)), none, none, none, none, none, none, none, none, none, none, none, none, none, none] = .ok .next (kst (.scr ns) b none none none none none none none none none none) := by
    unfold kst
    simp [e0]
  have f2 : (forM (range1 (constM (.int 4))) (nameG 2) turnU) (kst (.scr ns) b none none none none none none none none none none) = .ok .next (kst (.scr ns) b1 y2 y3 y4 y5 y6 y7 y9 y10 y11 y12) := by
    have q : (range1 (constM (.int 4))) (kst (.scr ns) b none none none none none none none none none none) = .ok (rangeL 0 4) (kst (.scr ns) b none none none none none none none none none none) := by
      unfold kst
      simp [r4]
    rw [ev_for, q]
    exact e1
  have ed : den_law = seqM (setM 1 (call0 F__law_bag (argsM [(frozen (varM 0))]))) (seqM (forM (range1 (constM (.int 4))) (nameG 2) turnU) (retS (constM (.bl true)))) := by
    unfold den_law
    with_reducible rfl
  show Gives (outF (den_law [some (.fz (.scr ns)), none, none, none, none, none, none, none, none, none, none, none, none, none, none])) _
  rw [ed, seq_next f1, seq_next f2]
  exact ⟨_, rfl⟩
end DL
namespace DL
open PySem L2
theorem all_mk {l : PySem.W.OpenLaw} {w : World} {q : Program} {K : PySem.W.Frag} {h : Heap} {mg : Str → Option Value} {fa f1 f2 f3 f4 f5 f6 f7 f8 f9 f10 f11 f12 C1 C2 bi1 bt1 xi2 : Addr} (X : K.In h) (G : h.Ns mainGlobals mg) (hfa : mg "law" = some (.ref fa)) (TN : TabsNew q K h)
    {od1 an1 od2 an2 od3 an3 od4 an4 od5 an5 od6 an6 od7 an7 od8 an8 od9 an9 od10 an10 od11 an11 od12 an12 bod1 ban1 btd1 xod2 xan2 : Option Addr} {sl1 sl2 sl3 sl4 sl5 sl6 sl7 sl8 sl9 sl10 sl11 sl12 bsl1 bts1 xsl2 : Array (Option Value)} {oc1 kV1 dc1 pm1 cd1 ct1 oc2 kV2 dc2 pm2 cd2 ct2 oc3 kV3 dc3 pm3 cd3 ct3 oc4 kV4 dc4 pm4 cd4 ct4 oc5 kV5 dc5 pm5 cd5 ct5 oc6 kV6 dc6 pm6 cd6 ct6 oc7 kV7 dc7 pm7 cd7 ct7 oc8 kV8 dc8 pm8 cd8 ct8 oc9 kV9 dc9 pm9 cd9 ct9 oc10 kV10 dc10 pm10 cd10 ct10 oc11 kV11 dc11 pm11 cd11 ct11 oc12 kV12 dc12 pm12 cd12 ct12 boc1 bkV1 bdc1 bpm1 bcd1 bct1 btc1 xoc2 xkV2 xdc2 xpm2 xcd2 xct2 : Value} {tk1 : Tok} {bits1 : List Value} {bn1 : Nat}
    (a1 : PySem.W.nsIn K mainGlobals "sign_of" = some (some (.ref f1)))
    (l1 : K.lookup f1 = some ⟨oc1, od1, .func (PySem.W.fnOf "sign_of" "sign_of" (defArgs s_sign_of) (defBody s_sign_of) (defScope s_sign_of) .none kV1 dc1 pm1 an1 cd1 ct1), sl1⟩)
    (c1 : PySem.W.codeIn K cd1 "sign_of" = true)
    (k1 : PySem.W.keepIn K (.ref f1) = true)
    (a2 : PySem.W.nsIn K mainGlobals "look_box" = some (some (.ref f2)))
    (l2 : K.lookup f2 = some ⟨oc2, od2, .func (PySem.W.fnOf "look_box" "look_box" (defArgs s_look_box) (defBody s_look_box) (defScope s_look_box) .none kV2 dc2 pm2 an2 cd2 ct2), sl2⟩)
    (c2 : PySem.W.codeIn K cd2 "look_box" = true)
    (k2 : PySem.W.keepIn K (.ref f2) = true)
    (a3 : PySem.W.nsIn K mainGlobals "led_row" = some (some (.ref f3)))
    (l3 : K.lookup f3 = some ⟨oc3, od3, .func (PySem.W.fnOf "led_row" "led_row" (defArgs s_led_row) (defBody s_led_row) (defScope s_led_row) .none kV3 dc3 pm3 an3 cd3 ct3), sl3⟩)
    (c3 : PySem.W.codeIn K cd3 "led_row" = true)
    (k3 : PySem.W.keepIn K (.ref f3) = true)
    (a4 : PySem.W.nsIn K mainGlobals "worth_of" = some (some (.ref f4)))
    (l4 : K.lookup f4 = some ⟨oc4, od4, .func (PySem.W.fnOf "worth_of" "worth_of" (defArgs s_worth_of) (defBody s_worth_of) (defScope s_worth_of) .none kV4 dc4 pm4 an4 cd4 ct4), sl4⟩)
    (c4 : PySem.W.codeIn K cd4 "worth_of" = true)
    (k4 : PySem.W.keepIn K (.ref f4) = true)
    (a5 : PySem.W.nsIn K mainGlobals "box" = some (some (.ref f5)))
    (l5 : K.lookup f5 = some ⟨oc5, od5, .func (PySem.W.fnOf "box" "box" (defArgs s_box) (defBody s_box) (defScope s_box) .none kV5 dc5 pm5 an5 cd5 ct5), sl5⟩)
    (c5 : PySem.W.codeIn K cd5 "box" = true)
    (k5 : PySem.W.keepIn K (.ref f5) = true)
    (a6 : PySem.W.nsIn K mainGlobals "box_sign" = some (some (.ref f6)))
    (l6 : K.lookup f6 = some ⟨oc6, od6, .func (PySem.W.fnOf "box_sign" "box_sign" (defArgs s_box_sign) (defBody s_box_sign) (defScope s_box_sign) .none kV6 dc6 pm6 an6 cd6 ct6), sl6⟩)
    (c6 : PySem.W.codeIn K cd6 "box_sign" = true)
    (k6 : PySem.W.keepIn K (.ref f6) = true)
    (a7 : PySem.W.nsIn K mainGlobals "_law_bag" = some (some (.ref f7)))
    (l7 : K.lookup f7 = some ⟨oc7, od7, .func (PySem.W.fnOf "_law_bag" "_law_bag" (defArgs s__law_bag) (defBody s__law_bag) (defScope s__law_bag) .none kV7 dc7 pm7 an7 cd7 ct7), sl7⟩)
    (c7 : PySem.W.codeIn K cd7 "_law_bag" = true)
    (k7 : PySem.W.keepIn K (.ref f7) = true)
    (a8 : PySem.W.nsIn K mainGlobals "_law_pull" = some (some (.ref f8)))
    (l8 : K.lookup f8 = some ⟨oc8, od8, .func (PySem.W.fnOf "_law_pull" "_law_pull" (defArgs s__law_pull) (defBody s__law_pull) (defScope s__law_pull) .none kV8 dc8 pm8 an8 cd8 ct8), sl8⟩)
    (c8 : PySem.W.codeIn K cd8 "_law_pull" = true)
    (k8 : PySem.W.keepIn K (.ref f8) = true)
    (a9 : PySem.W.nsIn K mainGlobals "_law_of" = some (some (.ref f9)))
    (l9 : K.lookup f9 = some ⟨oc9, od9, .func (PySem.W.fnOf "_law_of" "_law_of" (defArgs s__law_of) (defBody s__law_of) (defScope s__law_of) .none kV9 dc9 pm9 an9 cd9 ct9), sl9⟩)
    (c9 : PySem.W.codeIn K cd9 "_law_of" = true)
    (k9 : PySem.W.keepIn K (.ref f9) = true)
    (a10 : PySem.W.nsIn K mainGlobals "_law_same" = some (some (.ref f10)))
    (l10 : K.lookup f10 = some ⟨oc10, od10, .func (PySem.W.fnOf "_law_same" "_law_same" (defArgs s__law_same) (defBody s__law_same) (defScope s__law_same) .none kV10 dc10 pm10 an10 cd10 ct10), sl10⟩)
    (c10 : PySem.W.codeIn K cd10 "_law_same" = true)
    (k10 : PySem.W.keepIn K (.ref f10) = true)
    (a11 : PySem.W.nsIn K mainGlobals "_law_box_drawn" = some (some (.ref f11)))
    (l11 : K.lookup f11 = some ⟨oc11, od11, .func (PySem.W.fnOf "_law_box_drawn" "_law_box_drawn" (defArgs s__law_box_drawn) (defBody s__law_box_drawn) (defScope s__law_box_drawn) .none kV11 dc11 pm11 an11 cd11 ct11), sl11⟩)
    (c11 : PySem.W.codeIn K cd11 "_law_box_drawn" = true)
    (k11 : PySem.W.keepIn K (.ref f11) = true)
    (a12 : PySem.W.nsIn K mainGlobals "law" = some (some (.ref f12)))
    (l12 : K.lookup f12 = some ⟨oc12, od12, .func (PySem.W.fnOf "law" "law" (defArgs s_law) (defBody s_law) (defScope s_law) .none kV12 dc12 pm12 an12 cd12 ct12), sl12⟩)
    (c12 : PySem.W.codeIn K cd12 "law" = true)
    (k12 : PySem.W.keepIn K (.ref f12) = true)
    (z1 : PySem.W.nsIn K mainGlobals "all" = some none)
    (z2 : PySem.W.nsIn K mainGlobals "any" = some none)
    (z3 : PySem.W.nsIn K mainGlobals "bool" = some none)
    (z4 : PySem.W.nsIn K mainGlobals "int" = some none)
    (z5 : PySem.W.nsIn K mainGlobals "isinstance" = some none)
    (z6 : PySem.W.nsIn K mainGlobals "len" = some none)
    (z7 : PySem.W.nsIn K mainGlobals "list" = some none)
    (z8 : PySem.W.nsIn K mainGlobals "range" = some none)
    (z9 : PySem.W.nsIn K mainGlobals "str" = some none)
    (z10 : PySem.W.nsIn K mainGlobals "sum" = some none)
    (z11 : PySem.W.nsIn K mainGlobals "tuple" = some none)
    (z12 : PySem.W.nsIn K mainGlobals "zip" = some none)
    (n1 : PySem.W.nsIn K mainGlobals "MOST" = some (some (.int 7 tk1)))
    (cn1 : PySem.W.nsIn K mainGlobals "CleaveError" = some (some (.ref C1)))
    (cn2 : PySem.W.nsIn K mainGlobals "BadBox" = some (some (.ref C2)))
    (bat1 : PySem.W.findCls K (.ref C1) (.type "type") "__init__" = some (.val (.ref bi1)))
    (brd1 : PySem.W.readsIn K C1 (.type "type") = true)
    (bga1 : PySem.W.specialIn K (.ref C1) "__getattribute__" = some (some (.builtin "type.__getattribute__")))
    (bl1 : K.lookup bi1 = some ⟨boc1, bod1, .func (PySem.W.fnOf "__init__" "CleaveError.__init__" (defArgs sI_CleaveError) (defBody sI_CleaveError) (defScope sI_CleaveError) (.ref bt1) bkV1 bdc1 bpm1 ban1 bcd1 bct1), bsl1⟩)
    (bc1 : PySem.W.codeIn K bcd1 "CleaveError.__init__" = true)
    (bk1 : PySem.W.keepIn K (.ref bi1) = true)
    (bd1 : K.lookup bt1 = some ⟨btc1, btd1, .seq bits1.toArray bn1, bts1⟩)
    (bv1 : Vals [V.str "CleaveError"] bits1)
    (xl2 : ∃ nm q N bs sn sub ab col dd k0 k1 k2 k3 k5, K.lookup C2 = some (excClassObj nm q C2 N bs [.ref C1, .type "ValueError", .type "Exception", .type "BaseException", .type "object"] true sn sub ab col dd k0 k1 k2 k3 k5 "ValueError.__new__"))
    (xsa2 : PySem.W.findIn K (.ref C2) "__setattr__" = some (some (.builtin "object.__setattr__")))
    (xeC2 : PySem.W.subIn K (.ref C2) (.type "BaseException") = some true)
    (xtC2 : PySem.W.typeIn K (.ref C2) = some (.type "type"))
    (xkC2 : PySem.W.keepIn K (.ref C2) = true)
    (xin2 : PySem.W.findIn K (.ref C2) "__init__" = some (some (.ref xi2)))
    (xti2 : PySem.W.typeIn K (.ref xi2) = some (.type "function"))
    (xil2 : K.lookup xi2 = some ⟨xoc2, xod2, .func (PySem.W.fnOf "__init__" "BadBox.__init__" (defArgs sI_BadBox) (defBody sI_BadBox) (defScope sI_BadBox) .none xkV2 xdc2 xpm2 xan2 xcd2 xct2), xsl2⟩)
    (xic2 : PySem.W.codeIn K xcd2 "BadBox.__init__" = true)
    (xik2 : PySem.W.keepIn K (.ref xi2) = true)
    (xfword2 : PySem.W.findIn K (.ref C2) "word" = some none)
    : LamX.LawAtS l w K (L2.CX l.prog w) 8 63 "_law_script" mg fa h := by
  have e := hfa.symm.trans (PySem.W.mg_of X G a12)
  cases e
  have q1 := fun_mk (st := s_sign_of) l1 c1 k1
  have b1 := q1.binds (ps := ["number"]) fun _ _ _ _ _ _ us hl => match us, hl with | [_], _ => rfl
  have q2 := fun_mk (st := s_look_box) l2 c2 k2
  have b2 := q2.binds (ps := ["rows"]) fun _ _ _ _ _ _ us hl => match us, hl with | [_], _ => rfl
  have q3 := fun_mk (st := s_led_row) l3 c3 k3
  have b3 := q3.binds (ps := ["here", "at"]) fun _ _ _ _ _ _ us hl => match us, hl with | [_, _], _ => rfl
  have q4 := fun_mk (st := s_worth_of) l4 c4 k4
  have b4 := q4.binds (ps := ["rows"]) fun _ _ _ _ _ _ us hl => match us, hl with | [_], _ => rfl
  have q5 := fun_mk (st := s_box) l5 c5 k5
  have b5 := q5.binds (ps := ["rows"]) fun _ _ _ _ _ _ us hl => match us, hl with | [_], _ => rfl
  have q6 := fun_mk (st := s_box_sign) l6 c6 k6
  have b6 := q6.binds (ps := ["rows"]) fun _ _ _ _ _ _ us hl => match us, hl with | [_], _ => rfl
  have q7 := fun_mk (st := s__law_bag) l7 c7 k7
  have b7 := q7.binds (ps := ["_law_script"]) fun _ _ _ _ _ _ us hl => match us, hl with | [_], _ => rfl
  have q8 := fun_mk (st := s__law_pull) l8 c8 k8
  have b8 := q8.binds (ps := ["_law_bag_here", "_law_many"]) fun _ _ _ _ _ _ us hl => match us, hl with | [_, _], _ => rfl
  have q9 := fun_mk (st := s__law_of) l9 c9 k9
  have b9 := q9.binds (ps := ["_law_bag_here", "_law_some"]) fun _ _ _ _ _ _ us hl => match us, hl with | [_, _], _ => rfl
  have q10 := fun_mk (st := s__law_same) l10 c10 k10
  have b10 := q10.binds (ps := ["_law_found", "_law_due"]) fun _ _ _ _ _ _ us hl => match us, hl with | [_, _], _ => rfl
  have q11 := fun_mk (st := s__law_box_drawn) l11 c11 k11
  have b11 := q11.binds (ps := ["_law_bag_here", "_law_size"]) fun _ _ _ _ _ _ us hl => match us, hl with | [_, _], _ => rfl
  have q12 := fun_mk (st := s_law) l12 c12 k12
  have b12 := q12.binds (ps := ["_law_script"]) fun _ _ _ _ _ _ us hl => match us, hl with | [_], _ => rfl
  have xq2 := fun_mk (st := sI_BadBox) xil2 xic2 xik2
  have xb2 := xq2.binds (ps := ["self"]) fun _ _ _ _ _ _ us hl => match us, hl with | [_], _ => rfl
  obtain ⟨nm2, qn2, N2, bs2, sn2, sub2, ab2, col2, dd2, p02, p12, p22, p32, p52, xL2⟩ := xl2
  let E : Tp K mg := ⟨f1, (PySem.W.fnOf "sign_of" "sign_of" (defArgs s_sign_of) (defBody s_sign_of) (defScope s_sign_of) .none kV1 dc1 pm1 an1 cd1 ct1), q1, PySem.W.mg_of X G a1, b1, f2, (PySem.W.fnOf "look_box" "look_box" (defArgs s_look_box) (defBody s_look_box) (defScope s_look_box) .none kV2 dc2 pm2 an2 cd2 ct2), q2, PySem.W.mg_of X G a2, b2, f3, (PySem.W.fnOf "led_row" "led_row" (defArgs s_led_row) (defBody s_led_row) (defScope s_led_row) .none kV3 dc3 pm3 an3 cd3 ct3), q3, PySem.W.mg_of X G a3, b3, f4, (PySem.W.fnOf "worth_of" "worth_of" (defArgs s_worth_of) (defBody s_worth_of) (defScope s_worth_of) .none kV4 dc4 pm4 an4 cd4 ct4), q4, PySem.W.mg_of X G a4, b4, f5, (PySem.W.fnOf "box" "box" (defArgs s_box) (defBody s_box) (defScope s_box) .none kV5 dc5 pm5 an5 cd5 ct5), q5, PySem.W.mg_of X G a5, b5, f6, (PySem.W.fnOf "box_sign" "box_sign" (defArgs s_box_sign) (defBody s_box_sign) (defScope s_box_sign) .none kV6 dc6 pm6 an6 cd6 ct6), q6, PySem.W.mg_of X G a6, b6, f7, (PySem.W.fnOf "_law_bag" "_law_bag" (defArgs s__law_bag) (defBody s__law_bag) (defScope s__law_bag) .none kV7 dc7 pm7 an7 cd7 ct7), q7, PySem.W.mg_of X G a7, b7, f8, (PySem.W.fnOf "_law_pull" "_law_pull" (defArgs s__law_pull) (defBody s__law_pull) (defScope s__law_pull) .none kV8 dc8 pm8 an8 cd8 ct8), q8, PySem.W.mg_of X G a8, b8, f9, (PySem.W.fnOf "_law_of" "_law_of" (defArgs s__law_of) (defBody s__law_of) (defScope s__law_of) .none kV9 dc9 pm9 an9 cd9 ct9), q9, PySem.W.mg_of X G a9, b9, f10, (PySem.W.fnOf "_law_same" "_law_same" (defArgs s__law_same) (defBody s__law_same) (defScope s__law_same) .none kV10 dc10 pm10 an10 cd10 ct10), q10, PySem.W.mg_of X G a10, b10, f11, (PySem.W.fnOf "_law_box_drawn" "_law_box_drawn" (defArgs s__law_box_drawn) (defBody s__law_box_drawn) (defScope s__law_box_drawn) .none kV11 dc11 pm11 an11 cd11 ct11), q11, PySem.W.mg_of X G a11, b11, _, (PySem.W.fnOf "law" "law" (defArgs s_law) (defBody s_law) (defScope s_law) .none kV12 dc12 pm12 an12 cd12 ct12), q12, PySem.W.mg_of X G a12, b12, PySem.W.mg_none_of X G z1, PySem.W.mg_none_of X G z2, PySem.W.mg_none_of X G z3, PySem.W.mg_none_of X G z4, PySem.W.mg_none_of X G z5, PySem.W.mg_none_of X G z6, PySem.W.mg_none_of X G z7, PySem.W.mg_none_of X G z8, PySem.W.mg_none_of X G z9, PySem.W.mg_none_of X G z10, PySem.W.mg_none_of X G z11, PySem.W.mg_none_of X G z12, tk1, PySem.W.mg_of X G n1, ⟨_, rfl⟩, fun _ => .int _, C1, PySem.W.mg_of X G cn1, C2, PySem.W.mg_of X G cn2, bi1, (PySem.W.fnOf "__init__" "CleaveError.__init__" (defArgs sI_CleaveError) (defBody sI_CleaveError) (defScope sI_CleaveError) (.ref bt1) bkV1 bdc1 bpm1 ban1 bcd1 bct1), ⟨⟨boc1, bod1, _, _, _, _, _, _, _, _, rfl, bl1, bc1, .inr ⟨by simp, bt1, _, bits1, bn1, rfl, bd1, rfl, bv1⟩, .inl rfl⟩, bk1⟩, brd1, bga1, bat1, bk1, xi2, (PySem.W.fnOf "__init__" "BadBox.__init__" (defArgs sI_BadBox) (defBody sI_BadBox) (defScope sI_BadBox) .none xkV2 xdc2 xpm2 xan2 xcd2 xct2), xq2, ⟨⟨⟨nm2, qn2, N2, bs2, _, sn2, sub2, ab2, col2, dd2, p02, p12, p22, p32, p52, xL2, rfl⟩, xsa2, xeC2, xtC2, xkC2⟩, xfword2⟩, xin2, xti2, xb2, xfword2⟩
  let cl : Cl := ⟨fun c => if c = "BadBox" then some C2 else none, [], []⟩
  have hcl : ClOk E cl := ⟨rfl, trivial⟩
  refine ⟨(PySem.W.fnOf "law" "law" (defArgs s_law) (defBody s_law) (defScope s_law) .none kV12 dc12 pm12 an12 cd12 ct12), [], spOf K cl 1 false F_law, (fun _ h => nomatch h), (fun _ h => nomatch h), (fun _ h => nomatch h), fun s v => .of_eq rfl, fun H a ns hl _ hH hS => ?_, fun base _ _ hB => ok_law E hcl ⟨trivial⟩⟩
  refine sp_law hS hl (fun p hp => ?_) (law_sem ns hl)
  cases hp
end DL
open PySem PySem.W PyProof.Rows
set_option maxHeartbeats 0 in
theorem PySem.Challenge.cw_signcleave_k05_whole_boxes_multiply_holds : PySem.Challenge.rw_signcleave_k05_whole_boxes_multiply.Holds := by
  w_on; o_law; k_head; (case hw => w_witness2)
  k_fill
  refine DL.walkL (l := PySem.Challenge.rw_signcleave_k05_whole_boxes_multiply) (n := 63) (k := 8) (x := "_law_script") (CX := fun w => L2.CX PySem.Challenge.rw_signcleave_k05_whole_boxes_multiply.prog w) rfl (by decide) rfl ⟨rfl, by decide, by decide⟩ (fun w h Y => (by first | exact PySem.W.kIn_of Y | exact PySem.W.km_in_of Y)) ?F (fun _ _ _ _ _ h => DL.cx_no h)
  case F =>
    intro w mg fa h Y KX G hmg TN
    refine' DL.all_mk KX G hmg TN ?a1 ?l1 ?c1 ?k1 ?a2 ?l2 ?c2 ?k2 ?a3 ?l3 ?c3 ?k3 ?a4 ?l4 ?c4 ?k4 ?a5 ?l5 ?c5 ?k5 ?a6 ?l6 ?c6 ?k6 ?a7 ?l7 ?c7 ?k7 ?a8 ?l8 ?c8 ?k8 ?a9 ?l9 ?c9 ?k9 ?a10 ?l10 ?c10 ?k10 ?a11 ?l11 ?c11 ?k11 ?a12 ?l12 ?c12 ?k12 ?z1 ?z2 ?z3 ?z4 ?z5 ?z6 ?z7 ?z8 ?z9 ?z10 ?z11 ?z12 ?n1 ?cn1 ?cn2 ?bat1 ?brd1 ?bga1 ?bl1 ?bc1 ?bk1 ?bd1 ?bv1 ?xl2 ?xsa2 ?xeC2 ?xtC2 ?xkC2 ?xin2 ?xti2 ?xil2 ?xic2 ?xik2 ?xfword2
    (case a1 => k_is)
    (case l1 => k_is)
    (case c1 => k_is)
    (case k1 => k_is)
    (case a2 => k_is)
    (case l2 => k_is)
    (case c2 => k_is)
    (case k2 => k_is)
    (case a3 => k_is)
    (case l3 => k_is)
    (case c3 => k_is)
    (case k3 => k_is)
    (case a4 => k_is)
    (case l4 => k_is)
    (case c4 => k_is)
    (case k4 => k_is)
    (case a5 => k_is)
    (case l5 => k_is)
    (case c5 => k_is)
    (case k5 => k_is)
    (case a6 => k_is)
    (case l6 => k_is)
    (case c6 => k_is)
    (case k6 => k_is)
    (case a7 => k_is)
    (case l7 => k_is)
    (case c7 => k_is)
    (case k7 => k_is)
    (case a8 => k_is)
    (case l8 => k_is)
    (case c8 => k_is)
    (case k8 => k_is)
    (case a9 => k_is)
    (case l9 => k_is)
    (case c9 => k_is)
    (case k9 => k_is)
    (case a10 => k_is)
    (case l10 => k_is)
    (case c10 => k_is)
    (case k10 => k_is)
    (case a11 => k_is)
    (case l11 => k_is)
    (case c11 => k_is)
    (case k11 => k_is)
    (case a12 => k_is)
    (case l12 => k_is)
    (case c12 => k_is)
    (case k12 => k_is)
    (case z1 => k_is)
    (case z2 => k_is)
    (case z3 => k_is)
    (case z4 => k_is)
    (case z5 => k_is)
    (case z6 => k_is)
    (case z7 => k_is)
    (case z8 => k_is)
    (case z9 => k_is)
    (case z10 => k_is)
    (case z11 => k_is)
    (case z12 => k_is)
    (case n1 => k_is)
    (case cn1 => k_is)
    (case cn2 => k_is)
    (case bat1 => k_is)
    (case brd1 => k_is)
    (case bga1 => k_is)
    (case bl1 => k_is)
    (case bc1 => k_is)
    (case bk1 => k_is)
    (case bd1 => k_is)
    (case bv1 => exact .cons ⟨_, rfl⟩ .nil)
    (case xl2 => exact ⟨_, _, _, _, _, _, _, _, _, _, _, _, _, _, by k_is⟩)
    (case xsa2 => k_is)
    (case xeC2 => k_is)
    (case xtC2 => k_is)
    (case xkC2 => k_is)
    (case xin2 => k_is)
    (case xti2 => k_is)
    (case xil2 => k_is)
    (case xic2 => k_is)
    (case xik2 => k_is)
    (case xfword2 => k_is)
