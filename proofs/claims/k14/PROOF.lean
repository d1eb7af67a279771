import PyProof.Rows.All
import Wide.All
import OpenK.AllK
import Wide.FinOn
import HandS.ForMost
import HandS.Lambda
import HandS.ExcInit
import HandS.TryMany
import HandS.ExcOwn
import HandS.CallSlots
import HandS.WordsExc
import HandS.TupAny
import HandS.TupMul
import HandS.Flow
import HandS.Wide
import HandS.IsInst
import HandS.WordsList
import HandS.Deep
import HandS.SortInts
import HandS.Conv
import HandS.Zip
import HandS.RevRange
import HandS.ClsMeth
import HandS.ExcField
import HandS.EndTab
import HandS.Defaults
import HandS.Words
import HandS.RaiseMore
import KE.KDflt
import KE.IntText
import KE.GoesZip
import KE.GoesMore
import KE.GoesEnum
import KE.GoesEnumKw
import KE.KUnpackStar
import HandS.Codes
import HandS.Dict
import HandS.SortKw
import HandS.SetFor
import KE.BitLaws
import PySem.Challenge.RW_voidquilt_k14_gaps_about_points
set_option Elab.async false
set_option linter.all false
set_option maxRecDepth 100000
set_option maxHeartbeats 4000000
/-! VqA: plain data D, the tree of draws G, what a value stands for in a heap (Den), the walk's state, its judgements. -/
namespace VQ
open PySem PySem.Spec PyProof.Rows L2

/-! ### plain data -/
inductive D where
  | non | bl (b : Bool) | int (i : Int) | str (s : List Nat) | tup (xs : List D) | lst (xs : List D)
  | dk (kvs : List (Key × D)) | dt (kvs : List (List Key × D)) | obj (n : Nat) | ty (n : String)
  deriving Inhabited

/-! ### a tree of draws: an answer, an exception, a number below n drawn, or stuck -/
inductive G (ε α : Type) where
  | ret (a : α) | exc (e : ε) | draw (n : Nat) (k : Nat → G ε α) | bad
namespace G
variable {ε ε' α β γ : Type}
def bind (m : G ε α) (f : α → G ε β) : G ε β :=
  match m with
  | ret a => f a
  | exc e => exc e
  | draw n k => draw n fun r => (k r).bind f
  | bad => bad
def map (f : α → β) (m : G ε α) : G ε β := m.bind fun a => ret (f a)
/-- another kind of exception -/
def exs (g : ε → ε') : G ε α → G ε' α
  | ret a => ret a
  | exc e => exc (g e)
  | draw n k => draw n fun r => (k r).exs g
  | bad => bad
/-- an exception is taken up -/
def catch_ (m : G ε α) (f : ε → G ε' α) : G ε' α :=
  match m with
  | ret a => ret a
  | exc e => f e
  | draw n k => draw n fun r => (k r).catch_ f
  | bad => bad
/-- whatever is drawn: an answer of which Q holds or an exception of which E holds -/
def all (m : G ε α) (Q : α → Prop) (E : ε → Prop) : Prop :=
  match m with
  | ret a => Q a
  | exc e => E e
  | draw n k => 0 < n ∧ ∀ r, r < n → (k r).all Q E
  | bad => False
@[simp] theorem bind_ret (a : α) (f : α → G ε β) : (ret a : G ε α).bind f = f a := rfl
@[simp] theorem bind_exc (e : ε) (f : α → G ε β) : (exc e : G ε α).bind f = exc e := rfl
@[simp] theorem bind_bad (f : α → G ε β) : (bad : G ε α).bind f = bad := rfl
@[simp] theorem all_ret (a : α) (Q : α → Prop) (E : ε → Prop) : (ret a : G ε α).all Q E = Q a := rfl
@[simp] theorem all_exc (e : ε) (Q : α → Prop) (E : ε → Prop) : (exc e : G ε α).all Q E = E e := rfl
theorem all_draw (n : Nat) (k : Nat → G ε α) (Q : α → Prop) (E : ε → Prop) : (draw n k : G ε α).all Q E = (0 < n ∧ ∀ r, r < n → (k r).all Q E) := rfl
theorem all_mono {Q Q' : α → Prop} {E E' : ε → Prop} (hQ : ∀ a, Q a → Q' a) (hE : ∀ e, E e → E' e) : ∀ {m : G ε α}, m.all Q E → m.all Q' E'
  | ret a, h => hQ a h
  | exc e, h => hE e h
  | draw n k, h => ⟨h.1, fun r hr => all_mono hQ hE (h.2 r hr)⟩
theorem all_bind {Q : β → Prop} {E : ε → Prop} {f : α → G ε β} : ∀ {m : G ε α}, (m.bind f).all Q E ↔ m.all (fun a => (f a).all Q E) E
  | ret _ => Iff.rfl
  | exc _ => Iff.rfl
  | bad => Iff.rfl
  | draw n k => by
    show (0 < n ∧ ∀ r, r < n → ((k r).bind f).all Q E) ↔ (0 < n ∧ ∀ r, r < n → (k r).all _ E)
    exact ⟨fun h => ⟨h.1, fun r hr => all_bind.mp (h.2 r hr)⟩, fun h => ⟨h.1, fun r hr => all_bind.mpr (h.2 r hr)⟩⟩
theorem bind_assoc (f : α → G ε β) (g : β → G ε γ) : ∀ m : G ε α, (m.bind f).bind g = m.bind fun a => (f a).bind g
  | ret _ => rfl
  | exc _ => rfl
  | bad => rfl
  | draw n k => congrArg (draw n) (funext fun r => bind_assoc f g (k r))
theorem all_catch {Q : α → Prop} {E : ε' → Prop} {f : ε → G ε' α} : ∀ {m : G ε α}, (m.catch_ f).all Q E ↔ m.all Q (fun e => (f e).all Q E)
  | ret _ => Iff.rfl
  | exc _ => Iff.rfl
  | bad => Iff.rfl
  | draw n k => by
    show (0 < n ∧ ∀ r, r < n → ((k r).catch_ f).all Q E) ↔ (0 < n ∧ ∀ r, r < n → (k r).all Q _)
    exact ⟨fun h => ⟨h.1, fun r hr => all_catch.mp (h.2 r hr)⟩, fun h => ⟨h.1, fun r hr => all_catch.mpr (h.2 r hr)⟩⟩
theorem all_exs {Q : α → Prop} {E : ε' → Prop} {g : ε → ε'} : ∀ {m : G ε α}, (m.exs g).all Q E ↔ m.all Q (fun e => E (g e))
  | ret _ => Iff.rfl
  | exc _ => Iff.rfl
  | bad => Iff.rfl
  | draw n k => by
    show (0 < n ∧ ∀ r, r < n → ((k r).exs g).all Q E) ↔ (0 < n ∧ ∀ r, r < n → (k r).all Q _)
    exact ⟨fun h => ⟨h.1, fun r hr => all_exs.mp (h.2 r hr)⟩, fun h => ⟨h.1, fun r hr => all_exs.mpr (h.2 r hr)⟩⟩
@[simp] theorem map_ret (f : α → β) (a : α) : (ret a : G ε α).map f = ret (f a) := rfl
theorem all_map {Q : β → Prop} {E : ε → Prop} {f : α → β} {m : G ε α} : (m.map f).all Q E ↔ m.all (fun a => Q (f a)) E := all_bind
end G

/-! ### what a value stands for -/
abbrev Same (H H' : Hp) : Prop := ∀ b o, H b = some o → H' b = some o
theorem Same.rfl' {H : Hp} : Same H H := fun _ _ h => h
theorem Same.tr {H H1 H2 : Hp} (a : Same H H1) (b : Same H1 H2) : Same H H2 := fun c o h => b c o (a c o h)
theorem sqL_same {K : PySem.W.Frag} {H H' : Hp} {a : Addr} {xs : List V} (s : Same H H') (h : SqL K H a xs) : SqL K H' a xs := by
  rcases h with (h | ⟨o, h⟩) | h
  · exact .inl (.inl (s _ _ h))
  · exact .inl (.inr ⟨o, s _ _ h⟩)
  · exact .inr h
theorem sqT_same {K : PySem.W.Frag} {H H' : Hp} {a : Addr} {xs : List V} (s : Same H H') (h : SqT K H a xs) : SqT K H' a xs := by
  rcases h with (h | ⟨o, h⟩) | h
  · exact .inl (.inl (s _ _ h))
  · exact .inl (.inr ⟨o, s _ _ h⟩)
  · exact .inr h

section
variable (K : PySem.W.Frag) (ad : Nat → Option Addr) (Hv : Hp)
mutual
def Den : D → V → Prop
  | .non, v => v = .non
  | .bl b, v => v = .bl b
  | .int i, v => v = .int i
  | .str s, v => v = .str ⟨s.toArray⟩
  | .tup ds, v => ∃ a vs, v = .ref a ∧ SqT K Hv a vs ∧ DenL ds vs
  | .lst ds, v => ∃ a vs, v = .ref a ∧ Hv a = some (.lst vs) ∧ DenL ds vs
  | .dk kds, v => ∃ a kvs, v = .ref a ∧ Hv a = some (.dK kvs) ∧ DenK kds kvs
  | .dt kds, v => ∃ a kvs, v = .ref a ∧ Hv a = some (.dT kvs) ∧ DenT kds kvs
  | .obj n, v => ∃ a, ad n = some a ∧ v = .ref a
  | .ty n, v => v = .ty n
def DenL : List D → List V → Prop
  | [], vs => vs = []
  | d :: ds, vs => ∃ v r, vs = v :: r ∧ Den d v ∧ DenL ds r
def DenK : List (Key × D) → List (Key × V) → Prop
  | [], kvs => kvs = []
  | (k, d) :: kds, kvs => ∃ v r, kvs = (k, v) :: r ∧ Den d v ∧ DenK kds r
def DenT : List (List Key × D) → List (List Key × V) → Prop
  | [], kvs => kvs = []
  | (k, d) :: kds, kvs => ∃ v r, kvs = (k, v) :: r ∧ Den d v ∧ DenT kds r
end
end

section
variable {K : PySem.W.Frag} {ad ad' : Nat → Option Addr} {Hv Hv' : Hp}
mutual
theorem Den.mono (hs : Same Hv Hv') (ha : ∀ n a, ad n = some a → ad' n = some a) : ∀ {d : D} {v : V}, Den K ad Hv d v → Den K ad' Hv' d v
  | .non, _, h => h
  | .bl _, _, h => h
  | .int _, _, h => h
  | .str _, _, h => h
  | .tup _, _, ⟨a, vs, e, s, r⟩ => ⟨a, vs, e, sqT_same hs s, DenL.mono hs ha r⟩
  | .lst _, _, ⟨a, vs, e, s, r⟩ => ⟨a, vs, e, hs _ _ s, DenL.mono hs ha r⟩
  | .dk _, _, ⟨a, kvs, e, s, r⟩ => ⟨a, kvs, e, hs _ _ s, DenK.mono hs ha r⟩
  | .dt _, _, ⟨a, kvs, e, s, r⟩ => ⟨a, kvs, e, hs _ _ s, DenT.mono hs ha r⟩
  | .obj _, _, ⟨a, e, q⟩ => ⟨a, ha _ _ e, q⟩
  | .ty _, _, h => h
theorem DenL.mono (hs : Same Hv Hv') (ha : ∀ n a, ad n = some a → ad' n = some a) : ∀ {ds : List D} {vs : List V}, DenL K ad Hv ds vs → DenL K ad' Hv' ds vs
  | [], _, h => h
  | _ :: _, _, ⟨v, r, e, h, t⟩ => ⟨v, r, e, Den.mono hs ha h, DenL.mono hs ha t⟩
theorem DenK.mono (hs : Same Hv Hv') (ha : ∀ n a, ad n = some a → ad' n = some a) : ∀ {ds : List (Key × D)} {vs : List (Key × V)}, DenK K ad Hv ds vs → DenK K ad' Hv' ds vs
  | [], _, h => h
  | (_, _) :: _, _, ⟨v, r, e, h, t⟩ => ⟨v, r, e, Den.mono hs ha h, DenK.mono hs ha t⟩
theorem DenT.mono (hs : Same Hv Hv') (ha : ∀ n a, ad n = some a → ad' n = some a) : ∀ {ds : List (List Key × D)} {vs : List (List Key × V)}, DenT K ad Hv ds vs → DenT K ad' Hv' ds vs
  | [], _, h => h
  | (_, _) :: _, _, ⟨v, r, e, h, t⟩ => ⟨v, r, e, Den.mono hs ha h, DenT.mono hs ha t⟩
end
theorem DenL.length : ∀ {ds : List D} {vs : List V}, DenL K ad Hv ds vs → vs.length = ds.length
  | [], _, h => by cases h; rfl
  | _ :: _, _, ⟨_, _, e, _, t⟩ => by cases e; simp [DenL.length t]
theorem DenL.get : ∀ {ds : List D} {vs : List V} {i : Nat} {d : D}, DenL K ad Hv ds vs → ds[i]? = some d → ∃ v, vs[i]? = some v ∧ Den K ad Hv d v
  | [], _, _, _, _, e => by simp at e
  | _ :: _, _, 0, _, ⟨v, _, e, h, _⟩, q => by cases e; simp at q; subst q; exact ⟨v, rfl, h⟩
  | _ :: _, _, i + 1, _, ⟨_, _, e, _, t⟩, q => by
    cases e
    obtain ⟨v, h1, h2⟩ := DenL.get t (by simpa using q)
    exact ⟨v, by simpa using h1, h2⟩
theorem DenL.get' {ds : List D} {vs : List V} {i : Nat} {v : V} (h : DenL K ad Hv ds vs) (e : vs[i]? = some v) : ∃ d, ds[i]? = some d ∧ Den K ad Hv d v := by
  have hl := h.length
  have hi : i < vs.length := (List.getElem?_eq_some_iff.mp e).1
  obtain ⟨w, h1, h2⟩ := h.get (i := i) (d := ds[i]'(by omega)) (by simp [show i < ds.length by omega])
  rw [e] at h1; cases h1
  exact ⟨_, by simp [show i < ds.length by omega], h2⟩
theorem DenL.append : ∀ {ds es : List D} {vs ws : List V}, DenL K ad Hv ds vs → DenL K ad Hv es ws → DenL K ad Hv (ds ++ es) (vs ++ ws)
  | [], _, _, _, h, q => by cases h; exact q
  | _ :: _, _, _, _, ⟨v, r, e, h, t⟩, q => by cases e; exact ⟨v, _, rfl, h, DenL.append t q⟩
theorem DenL.take : ∀ {ds : List D} {vs : List V} (n : Nat), DenL K ad Hv ds vs → DenL K ad Hv (ds.take n) (vs.take n)
  | _, _, 0, _ => by simp [DenL]
  | [], _, _ + 1, h => by cases h; simp [DenL]
  | _ :: _, _, n + 1, ⟨v, r, e, h, t⟩ => by cases e; exact ⟨v, _, rfl, h, DenL.take n t⟩
theorem DenL.drop : ∀ {ds : List D} {vs : List V} (n : Nat), DenL K ad Hv ds vs → DenL K ad Hv (ds.drop n) (vs.drop n)
  | _, _, 0, h => h
  | [], _, _ + 1, h => by cases h; simp [DenL]
  | _ :: _, _, n + 1, ⟨v, r, e, h, t⟩ => by cases e; exact DenL.drop n t
theorem DenL.set : ∀ {ds : List D} {vs : List V} (i : Nat) {d : D} {v : V}, DenL K ad Hv ds vs → Den K ad Hv d v → DenL K ad Hv (ds.set i d) (vs.set i v)
  | [], _, _, _, _, h, _ => by cases h; simp [DenL]
  | _ :: _, _, 0, _, _, ⟨v, r, e, h, t⟩, q => by cases e; exact ⟨_, _, rfl, q, t⟩
  | _ :: _, _, i + 1, _, _, ⟨v, r, e, h, t⟩, q => by cases e; exact ⟨v, _, rfl, h, DenL.set i t q⟩
theorem DenL.nil_of {ds : List D} (h : DenL K ad Hv ds []) : ds = [] := by
  have := h.length
  cases ds with
  | nil => rfl
  | cons _ _ => simp at this
theorem DenL.one {d : D} {v : V} (h : Den K ad Hv d v) : DenL K ad Hv [d] [v] := ⟨v, [], rfl, h, rfl⟩
theorem DenL.nil : DenL K ad Hv [] [] := rfl
theorem DenL.cons {d : D} {v : V} {ds : List D} {vs : List V} (h : Den K ad Hv d v) (t : DenL K ad Hv ds vs) : DenL K ad Hv (d :: ds) (v :: vs) := ⟨v, vs, rfl, h, t⟩
theorem DenL.replicate {ds : List D} {vs : List V} (h : DenL K ad Hv ds vs) : ∀ n : Nat, DenL K ad Hv (List.replicate n ds).flatten (List.replicate n vs).flatten
  | 0 => rfl
  | n + 1 => by rw [List.replicate_succ, List.replicate_succ]; exact h.append (DenL.replicate h n)
end

/-! ### data without a thing that may change -/
mutual
def flat : D → Bool
  | .lst _ => false
  | .dk _ => false
  | .dt _ => false
  | .tup ds => flatL ds
  | _ => true
def flatL : List D → Bool
  | [] => true
  | d :: ds => flat d && flatL ds
end
/-- Hv2 lacks nothing of Hv1 but lists and dicts -/
def Less (Hv1 Hv2 : Hp) : Prop := ∀ b o, Hv1 b = some o → Hv2 b = some o ∨ (∃ xs, o = .lst xs) ∨ (∃ xs, o = .dK xs) ∨ (∃ xs, o = .dT xs)
theorem less_tup {K : PySem.W.Frag} {H1 H2 : Hp} {a : Addr} {xs : List V} (l : Less H1 H2) (h : SqT K H1 a xs) : SqT K H2 a xs := by
  rcases h with (h | ⟨o, h⟩) | h
  · rcases l _ _ h with q | ⟨_, q⟩ | ⟨_, q⟩ | ⟨_, q⟩
    · exact .inl (.inl q)
    all_goals cases q
  · rcases l _ _ h with q | ⟨_, q⟩ | ⟨_, q⟩ | ⟨_, q⟩
    · exact .inl (.inr ⟨o, q⟩)
    all_goals cases q
  · exact .inr h
section
variable {K : PySem.W.Frag} {ad : Nat → Option Addr} {Hv Hv' : Hp}
mutual
theorem Den.less (l : Less Hv Hv') : ∀ {d : D} {v : V}, flat d = true → Den K ad Hv d v → Den K ad Hv' d v
  | .non, _, _, h => h
  | .bl _, _, _, h => h
  | .int _, _, _, h => h
  | .str _, _, _, h => h
  | .tup _, _, f, ⟨a, vs, e, s, r⟩ => ⟨a, vs, e, less_tup l s, DenL.less l f r⟩
  | .lst _, _, f, _ => by cases f
  | .dk _, _, f, _ => by cases f
  | .dt _, _, f, _ => by cases f
  | .obj _, _, _, h => h
  | .ty _, _, _, h => h
theorem DenL.less (l : Less Hv Hv') : ∀ {ds : List D} {vs : List V}, flatL ds = true → DenL K ad Hv ds vs → DenL K ad Hv' ds vs
  | [], _, _, h => h
  | d :: ds, _, f, ⟨v, r, e, h, t⟩ => by
    have f' : (flat d && flatL ds) = true := f
    rw [Bool.and_eq_true] at f'
    exact ⟨v, r, e, Den.less l f'.1 h, DenL.less l f'.2 t⟩
end
end
end VQ

/-! VqB: the world beside the plain data, a point of the walk, the judgements of expressions over plain data. -/
namespace VQ
open PySem PySem.Spec PyProof.Rows L2

/-- the tables of code objects, all within F -/
structure TabF (F : Addr → Prop) (H : Hp) (P : Addr) (q : Str) : Prop where
  own : F P
  at_ : ∃ ps : Array Value, H P = some (.tbl ps) ∧ PySem.TriplesOk ps.toList ∧ ∀ (pos : Pos) (cv : Value), PySem.codeAmong pos ps.toList = some cv → ∃ c, cv = .ref c ∧ H c = some (LamX.CodeO c q) ∧ F c
/-- the mutable world: its state, where its objects stand, how it lies in a heap (its own addresses F; the view Hv; the heap) -/
structure WM (K : PySem.W.Frag) where
  S : Type
  rep : S → (Nat → Option Addr) → (Addr → Prop) → Hp → Hp → Prop
  flat : S → Bool
  stay : ∀ {s ad F Hv Hv' H H'}, rep s ad F Hv H → Same Hv Hv' → (∀ b o, F b → H b = some o → H' b = some o) → rep s ad F Hv' H'
  less : ∀ {s ad F Hv Hv' H}, flat s = true → rep s ad F Hv H → Less Hv Hv' → rep s ad F Hv' H
  dom : ∀ {s ad F Hv H b}, rep s ad F Hv H → F b → ∃ o, H b = some o
  T : List (Addr × Str)
  tabs : ∀ {s ad F Hv H}, rep s ad F Hv H → ∀ p ∈ T, TabF F H p.1 p.2
  grow : ∀ {s ad F F' Hv H H'}, rep s ad F Hv H → (∀ x, F x → F' x) → (∀ b o, F b → H b = some o → (∀ ps, o ≠ .tbl ps) → H' b = some o) → (∀ p ∈ T, TabF F' H' p.1 p.2) → (∀ x, F' x → ∃ o, H' x = some o) → rep s ad F' Hv H'

/-- a point of the walk -/
structure Pt {K : PySem.W.Frag} (M : WM K) where
  s : M.S
  F : Addr → Prop
  Hv : Hp
  H : Hp
  ad : Nat → Option Addr
section
variable {K : PySem.W.Frag} {M : WM K}
structure Pt.Ok (p : Pt M) : Prop where
  view : Same p.Hv p.H
  off : ∀ b, p.F b → p.Hv b = none
  rep : M.rep p.s p.ad p.F p.Hv p.H
structure Ext (p q : Pt M) : Prop where
  view : Same p.Hv q.Hv
  frame : ∀ b o, p.H b = some o → ¬ p.F b → q.H b = some o
  new : ∀ b o, q.Hv b = some o → (∃ o', p.Hv b = some o') ∨ p.H b = none ∨ p.F b
  foot : ∀ b, q.F b → p.F b ∨ p.H b = none
  ad : ∀ n a, p.ad n = some a → q.ad n = some a
theorem Ext.refl (p : Pt M) : Ext p p := ⟨Same.rfl', fun _ _ h _ => h, fun b o h => .inl ⟨o, h⟩, fun _ h => .inl h, fun _ _ h => h⟩
theorem Ext.trans {p q r : Pt M} (a : Ext p q) (b : Ext q r) : Ext p r where
  view := a.view.tr b.view
  frame := fun c o h n => b.frame c o (a.frame c o h n) fun z => (a.foot c z).elim n fun z' => by rw [h] at z'; cases z'
  new := fun c o h => by
    rcases b.new c o h with ⟨o', h1⟩ | h1 | h1
    · exact a.new c o' h1
    · cases e : p.H c with
      | none => exact .inr (.inl rfl)
      | some u =>
        refine .inr (.inr (Classical.byContradiction fun n => ?_))
        rw [a.frame c u e n] at h1; cases h1
    · rcases a.foot c h1 with z | z
      · exact .inr (.inr z)
      · exact .inr (.inl z)
  foot := fun c h => by
    rcases b.foot c h with z | z
    · exact a.foot c z
    · cases e : p.H c with
      | none => exact .inr rfl
      | some u =>
        refine .inl (Classical.byContradiction fun n => ?_)
        rw [a.frame c u e n] at z; cases z
  ad := fun n a' h => b.ad n a' (a.ad n a' h)
theorem Ext.den {p q : Pt M} (e : Ext p q) {d : D} {v : V} (h : Den K p.ad p.Hv d v) : Den K q.ad q.Hv d v := h.mono e.view e.ad
theorem Ext.denL {p q : Pt M} (e : Ext p q) {d : List D} {v : List V} (h : DenL K p.ad p.Hv d v) : DenL K q.ad q.Hv d v := h.mono e.view e.ad

/-- a new object laid, seen by all: a is new -/
def Pt.lay (p : Pt M) (a : Addr) (o : HO) : Pt M := ⟨p.s, p.F, upd p.Hv a o, upd p.H a o, p.ad⟩
/-- a new object laid, not seen -/
def Pt.hid (p : Pt M) (a : Addr) (o : HO) : Pt M := ⟨p.s, p.F, p.Hv, upd p.H a o, p.ad⟩
theorem same_upd {H : Hp} {a : Addr} {o : HO} (h : H a = none) : Same H (upd H a o) := fun b u e => by rw [upd_ne (ne_of_none e h)]; exact e
theorem Pt.Ok.vn {p : Pt M} (ok : p.Ok) {a : Addr} (h : p.H a = none) : p.Hv a = none := by
  cases e : p.Hv a with
  | none => rfl
  | some o => rw [ok.view _ _ e] at h; cases h
theorem Pt.Ok.fn {p : Pt M} (ok : p.Ok) {a : Addr} (h : p.H a = none) : ¬ p.F a := fun z => by
  obtain ⟨o, e⟩ := M.dom ok.rep z
  rw [h] at e; cases e
theorem ext_lay {p : Pt M} (ok : p.Ok) {a : Addr} {o : HO} (h : p.H a = none) : Ext p (p.lay a o) :=
  ⟨same_upd (ok.vn h), fun b u e _ => same_upd h b u e, fun b u e => by
    by_cases z : b = a
    · subst z; exact .inr (.inl h)
    · exact .inl ⟨u, by rw [← upd_ne (H := p.Hv) (o := o) z]; exact e⟩, fun _ h => .inl h, fun _ _ h => h⟩
theorem ok_lay {p : Pt M} (ok : p.Ok) {a : Addr} {o : HO} (h : p.H a = none) : (p.lay a o).Ok :=
  ⟨fun b u e => by
    by_cases z : b = a
    · subst z
      have e' : upd p.Hv b o b = some u := e
      rw [upd_same] at e'
      show upd p.H b o b = some u
      rw [upd_same]; exact e'
    · have e' : upd p.Hv a o b = some u := e
      rw [upd_ne z] at e'
      show upd p.H a o b = some u
      rw [upd_ne z]; exact ok.view _ _ e', fun b f => by
    have z : b ≠ a := fun z => ok.fn h (z ▸ f)
    show upd p.Hv a o b = none
    rw [upd_ne z]; exact ok.off b f, M.stay ok.rep (same_upd (ok.vn h)) fun b u _ e => same_upd h b u e⟩
theorem ext_hid {p : Pt M} {a : Addr} {o : HO} (h : p.H a = none) : Ext p (p.hid a o) :=
  ⟨Same.rfl', fun b u e _ => same_upd h b u e, fun b u e => .inl ⟨u, e⟩, fun _ h => .inl h, fun _ _ h => h⟩
theorem ok_hid {p : Pt M} (ok : p.Ok) {a : Addr} {o : HO} (h : p.H a = none) : (p.hid a o).Ok :=
  ⟨ok.view.tr (same_upd h), ok.off, M.stay ok.rep Same.rfl' fun b u _ e => same_upd h b u e⟩
/-- a hidden object is shown -/
def Pt.show' (p : Pt M) (a : Addr) (o : HO) : Pt M := ⟨p.s, p.F, upd p.Hv a o, p.H, p.ad⟩
theorem ok_show {p : Pt M} (ok : p.Ok) {a : Addr} {o : HO} (h : p.H a = some o) (hv : p.Hv a = none) (hf : ¬ p.F a) : (p.show' a o).Ok :=
  ⟨fun b u e => by
    by_cases z : b = a
    · subst z
      have e' : upd p.Hv b o b = some u := e
      rw [upd_same] at e'
      cases e'; exact h
    · have e' : upd p.Hv a o b = some u := e
      rw [upd_ne z] at e'
      exact ok.view _ _ e', fun b f => by
    have z : b ≠ a := fun z => hf (z ▸ f)
    show upd p.Hv a o b = none
    rw [upd_ne z]; exact ok.off b f, M.stay ok.rep (same_upd hv) fun b u _ e => e⟩
theorem ext_show {p q : Pt M} (e : Ext p q) {a : Addr} {o : HO} (hv : q.Hv a = none) (hn : p.H a = none ∨ p.F a) : Ext p (q.show' a o) :=
  ⟨e.view.tr (same_upd hv), e.frame, fun b u r => by
    by_cases z : b = a
    · subst z; exact .inr hn
    · have r' : upd q.Hv a o b = some u := r
      rw [upd_ne z] at r'
      exact e.new _ _ r', e.foot, e.ad⟩

/-! ### results -/
/-- seen data, or a list (a dict) just made that nothing else holds -/
inductive R where
  | sh (d : D) | fr (d : D)
def R.d : R → D
  | .sh d => d
  | .fr d => d
/-- what a list or a dict holds -/
def HoDen (K : PySem.W.Frag) (ad : Nat → Option Addr) (Hv : Hp) : HO → D → Prop
  | .lst vs, .lst ds => DenL K ad Hv ds vs
  | .dK vs, .dk ds => DenK K ad Hv ds vs
  | .dT vs, .dt ds => DenT K ad Hv ds vs
  | _, _ => False
theorem HoDen.mono {ad ad' : Nat → Option Addr} {Hv Hv' : Hp} (hs : Same Hv Hv') (ha : ∀ n a, ad n = some a → ad' n = some a) {o : HO} {d : D} (h : HoDen K ad Hv o d) : HoDen K ad' Hv' o d := by
  cases o <;> cases d <;> first | exact False.elim h | exact DenL.mono hs ha h | exact DenK.mono hs ha h | exact DenT.mono hs ha h
theorem HoDen.den {ad : Nat → Option Addr} {Hv : Hp} {a : Addr} {o : HO} {d : D} (h : HoDen K ad Hv o d) (e : Hv a = some o) : Den K ad Hv d (.ref a) := by
  cases o <;> cases d <;> first | exact False.elim h | exact ⟨a, _, rfl, e, h⟩
/-- r stands at v in q, made since p -/
def ROk (p q : Pt M) : R → V → Prop
  | .sh d, v => Den K q.ad q.Hv d v
  | .fr d, v => ∃ a o, v = .ref a ∧ q.H a = some o ∧ q.Hv a = none ∧ ¬ q.F a ∧ (p.H a = none ∨ p.F a) ∧ HoDen K q.ad q.Hv o d
/-- .. shown to all -/
theorem ROk.seen {p q : Pt M} (e : Ext p q) (ok : q.Ok) {r : R} {v : V} (h : ROk p q r v) : ∃ q', Ext p q' ∧ q'.Ok ∧ q'.H = q.H ∧ q'.s = q.s ∧ Den K q'.ad q'.Hv r.d v := by
  cases r with
  | sh d => exact ⟨q, e, ok, rfl, rfl, h⟩
  | fr d =>
    obtain ⟨a, o, rfl, h1, h2, h3, h4, h5⟩ := h
    exact ⟨q.show' a o, ext_show e h2 h4, ok_show ok h1 h2 h3, rfl, rfl, (h5.mono (same_upd h2) fun _ _ h => h).den upd_same⟩

/-! ### exceptions -/
structure Exc where
  cls : Str
  fs : List (Str × D)
/-- x is the exception of the class cls, its fields in the dict dd -/
def XOk (mg : Str → Option Value) (q : Pt M) (x : Exc) (cls : Value) (dd : Option Addr) : Prop :=
  mg x.cls = some cls ∧ ∃ d fv, dd = some d ∧ q.H d = some (.xd fv) ∧ ¬ q.F d ∧ ∀ f y, x.fs.lookup f = some y → ∃ v, fv.lookup f = some v ∧ Den K q.ad q.Hv y v
theorem XOk.ext {mg : Str → Option Value} {q r : Pt M} (e : Ext q r) {x : Exc} {cls : Value} {dd : Option Addr} (h : XOk mg q x cls dd) : XOk mg r x cls dd := by
  obtain ⟨h1, d, fv, h2, h3, h4, h5⟩ := h
  refine ⟨h1, d, fv, h2, e.frame _ _ h3 h4, fun z => ?_, fun f y l => ?_⟩
  · rcases e.foot d z with z | z
    · exact h4 z
    · rw [h3] at z; cases z
  · obtain ⟨v, l1, l2⟩ := h5 f y l
    exact ⟨v, l1, e.den l2⟩

/-! ### readings over plain data -/
variable (mg : Str → Option Value) (M)
abbrev Sl := List (Option V)
abbrev Dv := List (Option D)
abbrev Gx (α : Type) := G (Exc × M.S) (α × M.S)
abbrev Ev (α : Type) := Dv → M.S → Gx M α
/-- the names' data -/
structure EnvD (p : Pt M) (σ : Sl) (ρ : Dv) : Prop where
  len : σ.length = ρ.length
  get : ∀ (i : Nat) (d : D), ρ[i]? = some (some d) → ∃ v, σ[i]? = some (some v) ∧ Den K p.ad p.Hv d v
/-- an exception's end -/
def XEnd (p : Pt M) (W : WX) (σ : Sl) : Exc × M.S → Prop := fun x => ∀ cls dd (q : Pt M), Ext p q → q.Ok → q.s = x.2 → XOk mg q x.1 cls dd → W cls dd σ q.H
def tG {α : Type} (W : WX) (T : Pt M → α → V → Pt M → Prop) (ee : Ev M α) : TE := fun σ H Q => ∃ (ρ : Dv) (p : Pt M), p.H = H ∧ p.Ok ∧ EnvD M p σ ρ ∧
  (ee ρ p.s).all (fun r => ∀ v (q : Pt M), Ext p q → q.Ok → q.s = r.2 → T p r.1 v q → Q v q.H) (XEnd M mg p W σ)
/-- a value -/
abbrev tD (W : WX) (ee : Ev M D) : TE := tG M mg W (fun _ d v q => Den K q.ad q.Hv d v) ee
/-- a result -/
abbrev tR (W : WX) (ee : Ev M R) : TE := tG M mg W (fun p r v q => ROk p q r v) ee
/-- a test -/
def tB' (W : WX) (ee : Ev M Bool) : TT := fun σ H Q => ∃ (ρ : Dv) (p : Pt M), p.H = H ∧ p.Ok ∧ EnvD M p σ ρ ∧
  (ee ρ p.s).all (fun r => ∀ (q : Pt M), Ext p q → q.Ok → q.s = r.2 → Q r.1 q.H) (XEnd M mg p W σ)
/-- arguments -/
def tA (W : WX) (ee : Ev M (List D)) : TA := fun σ H Q => ∃ (ρ : Dv) (p : Pt M), p.H = H ∧ p.Ok ∧ EnvD M p σ ρ ∧
  (ee ρ p.s).all (fun r => ∀ vs (q : Pt M), Ext p q → q.Ok → q.s = r.2 → DenL K q.ad q.Hv r.1 vs → Q vs q.H) (XEnd M mg p W σ)
/-- a def's promise: what it tells of its arguments' data -/
def spV (n : Nat) (f : List D → M.S → Gx M R) : Sp := fun vs H Q E => ∃ (ds : List D) (p : Pt M), vs.length = n ∧ p.H = H ∧ p.Ok ∧ DenL K p.ad p.Hv ds vs ∧
  (f ds p.s).all (fun r => ∀ v (q : Pt M), Ext p q → q.Ok → q.s = r.2 → ROk p q r.1 v → Q v q.H) (fun x => ∀ cls dd (q : Pt M), Ext p q → q.Ok → q.s = x.2 → XOk mg q x.1 cls dd → E cls dd q.H)
end
section
variable {X : Cx}
theorem _root_.L2.PE.con {e : Expr} {t t' : TE} (h : PE X e t) (i : ∀ σ H Q, t' σ H Q → t σ H Q) : PE X e t' := ⟨fun pins s σ H Q I q => h.run pins s σ H Q I (i _ _ _ q)⟩
theorem _root_.L2.PT.con {e : Expr} {t t' : TT} (h : PT X e t) (i : ∀ σ H Q, t' σ H Q → t σ H Q) : PT X e t' := ⟨fun pins s σ H Q I q => h.run pins s σ H Q I (i _ _ _ q)⟩
theorem _root_.L2.PA.con {e : List Expr} {t t' : TA} (h : PA X e t) (i : ∀ σ H Q, t' σ H Q → t σ H Q) : PA X e t' := ⟨fun pos pins s σ H Q I q => h.run pos pins s σ H Q I (i _ _ _ q)⟩
theorem _root_.L2.PS.con {e : Stmt} {t t' : TS} (h : PS X e t) (i : ∀ D σ H, t' D σ H → t D σ H) : PS X e t' := ⟨fun pins s σ H D I q => h.run pins s σ H D I (i _ _ _ q)⟩
theorem _root_.L2.PSs.con {e : List Stmt} {t t' : TS} (h : PSs X e t) (i : ∀ D σ H, t' D σ H → t D σ H) : PSs X e t' := ⟨fun pins s σ H D I q => h.run pins s σ H D I (i _ _ _ q)⟩
end
end VQ

/-! VqC: expressions over plain data. -/
namespace VQ
open PySem PySem.Spec PyProof.Rows L2

def big : Nat := 1000000
theorem big_line {n : Nat} (h : n ≤ big) : n ≤ sizeLine := by
  rw [sizeLine_eq]; exact Nat.le_trans h (by decide)

section
variable {K : PySem.W.Frag} {M : WM K} {mg : Str → Option Value}
theorem EnvD.ext {p q : Pt M} {σ : Sl} {ρ : Dv} (e : Ext p q) (h : EnvD M p σ ρ) : EnvD M q σ ρ := ⟨h.len, fun i d hd => by
  obtain ⟨v, h1, h2⟩ := h.get i d hd
  exact ⟨v, h1, e.den h2⟩⟩
theorem XEnd.ext {p q : Pt M} {W : WX} {σ : Sl} {x : Exc × M.S} (e : Ext p q) (h : XEnd M mg p W σ x) : XEnd M mg q W σ x :=
  fun cls dd r e2 ok es xk => h cls dd r (e.trans e2) ok es xk
/-- the first part of a reading, what follows it told apart -/
theorem tG.seq {α β : Type} {W : WX} {T : Pt M → α → V → Pt M → Prop} {ea : Ev M α} {k : α × M.S → Gx M β} {σ : Sl} {ρ : Dv} {p : Pt M} {Q : VK} {Q' : β × M.S → Prop} (ok : p.Ok) (en : EnvD M p σ ρ)
    (h : ((ea ρ p.s).bind k).all Q' (XEnd M mg p W σ))
    (hk : ∀ r v (q : Pt M), Ext p q → q.Ok → q.s = r.2 → T p r.1 v q → (k r).all Q' (XEnd M mg p W σ) → Q v q.H) : tG M mg W T ea σ p.H Q :=
  ⟨ρ, p, rfl, ok, en, G.all_mono (fun r hr v q e ok' es t => hk r v q e ok' es t hr) (fun _ hx => hx) (G.all_bind.mp h)⟩
theorem tA.seq {β : Type} {W : WX} {ea : Ev M (List D)} {k : List D × M.S → Gx M β} {σ : Sl} {ρ : Dv} {p : Pt M} {Q : List V → Hp → Prop} {Q' : β × M.S → Prop} (ok : p.Ok) (en : EnvD M p σ ρ)
    (h : ((ea ρ p.s).bind k).all Q' (XEnd M mg p W σ))
    (hk : ∀ r vs (q : Pt M), Ext p q → q.Ok → q.s = r.2 → DenL K q.ad q.Hv r.1 vs → (k r).all Q' (XEnd M mg p W σ) → Q vs q.H) : tA M mg W ea σ p.H Q :=
  ⟨ρ, p, rfl, ok, en, G.all_mono (fun r hr v q e ok' es t => hk r v q e ok' es t hr) (fun _ hx => hx) (G.all_bind.mp h)⟩
theorem tB'.seq {β : Type} {W : WX} {ea : Ev M Bool} {k : Bool × M.S → Gx M β} {σ : Sl} {ρ : Dv} {p : Pt M} {Q : Bool → Hp → Prop} {Q' : β × M.S → Prop} (ok : p.Ok) (en : EnvD M p σ ρ)
    (h : ((ea ρ p.s).bind k).all Q' (XEnd M mg p W σ))
    (hk : ∀ r (q : Pt M), Ext p q → q.Ok → q.s = r.2 → (k r).all Q' (XEnd M mg p W σ) → Q r.1 q.H) : tB' M mg W ea σ p.H Q :=
  ⟨ρ, p, rfl, ok, en, G.all_mono (fun r hr q e ok' es => hk r q e ok' es hr) (fun _ hx => hx) (G.all_bind.mp h)⟩
theorem XEnds {p q : Pt M} {W : WX} {σ : Sl} {α : Type} {g : Gx M α} {Q Q' : α × M.S → Prop} (e : Ext p q) (h : g.all Q (XEnd M mg p W σ)) (hq : ∀ r, Q r → Q' r) : g.all Q' (XEnd M mg q W σ) :=
  G.all_mono hq (fun _ hx => hx.ext e) h
end

/-! ### the readings' parts -/
def op {ε α σ : Type} (o : Option α) (s : σ) : G ε (α × σ) := match o with
  | some a => .ret (a, s)
  | none => .bad
section
variable {K : PySem.W.Frag} (M : WM K)
def eVar (i : Nat) : Ev M D := fun ρ s => match ρ[i]? with
  | some (some d) => .ret (d, s)
  | _ => .bad
def eC (d : D) : Ev M D := fun _ s => .ret (d, s)
variable {M}
def eSeen (ee : Ev M R) : Ev M D := fun ρ s => (ee ρ s).bind fun r => .ret (r.1.d, r.2)
def eSh (ee : Ev M D) : Ev M R := fun ρ s => (ee ρ s).bind fun r => .ret (.sh r.1, r.2)
def eBin (f : D → D → Option R) (ea eb : Ev M D) : Ev M R := fun ρ s => (ea ρ s).bind fun a => (eb ρ a.2).bind fun b => op (f a.1 b.1) b.2
def eBinD (f : D → D → Option D) (ea eb : Ev M D) : Ev M D := fun ρ s => (ea ρ s).bind fun a => (eb ρ a.2).bind fun b => op (f a.1 b.1) b.2
def eUn (f : D → Option D) (ea : Ev M D) : Ev M D := fun ρ s => (ea ρ s).bind fun a => op (f a.1) a.2
def eTest (f : D → Option Bool) (ea : Ev M D) : Ev M Bool := fun ρ s => (ea ρ s).bind fun a => op (f a.1) a.2
def eNot (ea : Ev M Bool) : Ev M Bool := fun ρ s => (ea ρ s).bind fun a => .ret (!a.1, a.2)
def eAnd (ea eb : Ev M Bool) : Ev M Bool := fun ρ s => (ea ρ s).bind fun a => if a.1 = true then eb ρ a.2 else .ret (false, a.2)
def eOr (ea eb : Ev M Bool) : Ev M Bool := fun ρ s => (ea ρ s).bind fun a => if a.1 = true then .ret (true, a.2) else eb ρ a.2
def eIf {α : Type} (c : Ev M Bool) (ea eb : Ev M α) : Ev M α := fun ρ s => (c ρ s).bind fun b => if b.1 = true then ea ρ b.2 else eb ρ b.2
def eAndV (t : D → Option Bool) (ea eb : Ev M D) : Ev M D := fun ρ s => (ea ρ s).bind fun a => match t a.1 with
  | some true => eb ρ a.2
  | some false => .ret a
  | none => .bad
def eOrV (t : D → Option Bool) (ea eb : Ev M D) : Ev M D := fun ρ s => (ea ρ s).bind fun a => match t a.1 with
  | some true => .ret a
  | some false => eb ρ a.2
  | none => .bad
def eBl (ea : Ev M Bool) : Ev M D := fun ρ s => (ea ρ s).bind fun a => .ret (.bl a.1, a.2)
def eNil : Ev M (List D) := fun _ s => .ret ([], s)
def eCons (ea : Ev M D) (er : Ev M (List D)) : Ev M (List D) := fun ρ s => (ea ρ s).bind fun a => (er ρ a.2).bind fun r => .ret (a.1 :: r.1, r.2)
def eTup (ea : Ev M (List D)) : Ev M D := fun ρ s => (ea ρ s).bind fun a => if a.1.length ≤ big then .ret (.tup a.1, a.2) else .bad
def eLst (ea : Ev M (List D)) : Ev M R := fun ρ s => (ea ρ s).bind fun a => if a.1.length ≤ big then .ret (.fr (.lst a.1), a.2) else .bad
/-- a built-in function of its arguments' data -/
def eFun (f : List D → Option R) (ea : Ev M (List D)) : Ev M R := fun ρ s => (ea ρ s).bind fun a => op (f a.1) a.2
/-- a def -/
def eCall (n : Nat) (f : List D → M.S → Gx M R) (dfl : List D) (ea : Ev M (List D)) : Ev M R := fun ρ s => (ea ρ s).bind fun a => if (a.1 ++ dfl).length = n then f (a.1 ++ dfl) a.2 else .bad
end

/-! ### operators by data -/
/-- an operator's reading serves a function of data -/
def OpD {K : PySem.W.Frag} (M : WM K) (f : D → D → Option R) (r : R2) : Prop := ∀ (p : Pt M) (x y : V) (d e : D) (res : R) (Q : VK), p.Ok → Den K p.ad p.Hv d x → Den K p.ad p.Hv e y → f d e = some res →
  (∀ v (q : Pt M), Ext p q → q.Ok → q.s = p.s → ROk p q res v → Q v q.H) → r x y p.H Q
def UnD {K : PySem.W.Frag} (M : WM K) (f : D → Option D) (r : V → Hp → VK → Prop) : Prop := ∀ (p : Pt M) (x : V) (d res : D) (Q : VK), p.Ok → Den K p.ad p.Hv d x → f d = some res →
  (∀ v (q : Pt M), Ext p q → q.Ok → q.s = p.s → Den K q.ad q.Hv res v → Q v q.H) → r x p.H Q
def CallD {K : PySem.W.Frag} (M : WM K) (f : List D → Option R) (r : List V → Hp → VK → Prop) : Prop := ∀ (p : Pt M) (xs : List V) (ds : List D) (res : R) (Q : VK), p.Ok → DenL K p.ad p.Hv ds xs → f ds = some res →
  (∀ v (q : Pt M), Ext p q → q.Ok → q.s = p.s → ROk p q res v → Q v q.H) → r xs p.H Q
section
variable {X : Cx} {M : WM X.K} {W : WX} {e a b : Expr} {es rest : List Expr} {pos : Pos} {ea eb : Ev M D} {er : Ev M R} {el : Ev M (List D)}
theorem ROk.tr {K : PySem.W.Frag} {M : WM K} {p q r : Pt M} (e : Ext p q) (e2 : Ext q r) {x : R} {v : V} (h : ROk q r x v) : ROk p r x v := by
  cases x with
  | sh d => exact h
  | fr d =>
    obtain ⟨a, o, h1, h2, h3, h4, h5, h6⟩ := h
    refine ⟨a, o, h1, h2, h3, h4, ?_, h6⟩
    rcases h5 with h5 | h5
    · cases z : p.H a with
      | none => exact .inl rfl
      | some u =>
        refine .inr (Classical.byContradiction fun n => ?_)
        rw [e.frame a u z n] at h5; cases h5
    · exact (e.foot a h5).symm
theorem ev_seen (h : PE X e (tR M X.mg W er)) : PE X e (tD M X.mg W (eSeen er)) := h.con fun σ H Q ⟨ρ, p, hH, ok, en, q⟩ => by
  subst hH
  refine tG.seq ok en q fun r v q' ex ok' es rk hq => ?_
  obtain ⟨q2, e2, ok2, hH, hs, dn⟩ := rk.seen ex ok'
  rw [← hH]
  exact hq v q2 e2 ok2 (hs.trans es) dn
theorem ev_sh (h : PE X e (tD M X.mg W ea)) : PE X e (tR M X.mg W (eSh ea)) := h.con fun σ H Q ⟨ρ, p, hH, ok, en, q⟩ => by
  subst hH
  exact tG.seq ok en q fun r v q' ex ok' es rk hq => hq v q' ex ok' es rk
theorem ev_var (i : Nat) {x : Str} {pos : Pos} (hN : X.N[i]? = some x := by rfl) (hv : Vis X.env.scope x := by first | exact Or.inl rfl | exact Or.inr (Or.inl rfl) | exact Or.inr (Or.inr rfl)) (hd : (x == ("__debug__" : Str)) = false := by decide)
    (hcd : (x == ("__classdict__" : Str)) = false := by decide) : PE X (.Name x pos) (tD M X.mg W (eVar M i)) := (pe_var hN hv hd hcd).con fun σ H Q ⟨ρ, p, hH, ok, en, q⟩ => by
  subst hH
  cases z : ρ[i]? with
  | none => simp only [eVar, z] at q; exact q.elim
  | some o =>
    cases o with
    | none => simp only [eVar, z] at q; exact q.elim
    | some d =>
      obtain ⟨v, h1, h2⟩ := en.get i d z
      simp only [eVar, z] at q
      exact ⟨v, h1, q v p (Ext.refl p) ok rfl h2⟩
theorem ev_const {v : V} {d : D} (h : PE X e (tC v)) (hd : ∀ ad Hv, Den X.K ad Hv d v) : PE X e (tD M X.mg W (eC M d)) := h.con fun σ H Q ⟨ρ, p, hH, ok, en, q⟩ => by
  subst hH
  exact q v p (Ext.refl p) ok rfl (hd _ _)
theorem ev_int {i : Int} {j : Nat} {pos : Pos} : PE X (.Constant (.int i) j pos) (tD M X.mg W (eC M (.int i))) := ev_const pe_int fun _ _ => rfl
theorem ev_bl {i : Bool} {j : Nat} {pos : Pos} : PE X (.Constant (.bool i) j pos) (tD M X.mg W (eC M (.bl i))) := ev_const pe_bl fun _ _ => rfl
theorem ev_non {j : Nat} {pos : Pos} : PE X (.Constant .none j pos) (tD M X.mg W (eC M .non)) := ev_const pe_non fun _ _ => rfl
theorem ev_str {x : Str} {j : Nat} {pos : Pos} (l : List Nat) (h : x = ⟨l.toArray⟩ := by decide +kernel) : PE X (.Constant (.str x) j pos) (tD M X.mg W (eC M (.str l))) := ev_const pe_str fun _ _ => by subst h; rfl
/-- a constant of the module -/
theorem ev_glob {x : Str} {v : V} {u : Value} {d : D} {pos : Pos} (hg : Gl X x) (hm : X.mg x = some u) (r : RelV v u) (hd : ∀ ad Hv, Den X.K ad Hv d v) (hdb : (x == ("__debug__" : Str)) = false := by decide) :
    PE X (.Name x pos) (tD M X.mg W (eC M d)) := ev_const (pe_glob hg hm r hdb) hd
theorem ev_bin {o : Operator} {r : R2} {f : D → D → Option R} (ho : OpR X (binaryOp o) r) (hf : OpD M f r) (ha : PE X a (tD M X.mg W ea)) (hb : PE X b (tD M X.mg W eb)) :
    PE X (.BinOp a o b pos) (tR M X.mg W (eBin f ea eb)) := (pe_op ho ha hb).con fun σ H Q ⟨ρ, p, hH, ok, en, q⟩ => by
  subst hH
  show tD M X.mg W ea σ p.H fun x H1 => tD M X.mg W eb σ H1 fun y H2 => r x y H2 Q
  refine tG.seq ok en q fun r1 x q1 ex1 ok1 es1 dx h1 => ?_
  rw [← es1] at h1
  refine tG.seq ok1 (en.ext ex1) (XEnds ex1 h1 fun _ h => h) fun r2 y q2 ex2 ok2 es2 dy h2 => ?_
  cases z : f r1.1 r2.1 with
  | none => simp only [op, z] at h2; exact h2.elim
  | some res =>
    simp only [op, z] at h2
    exact hf q2 x y _ _ res Q ok2 (ex2.den dx) dy z fun v q3 e3 ok3 es3 rk => h2 v q3 ((ex1.trans ex2).trans e3) ok3 (es3.trans es2) (rk.tr (ex1.trans ex2) e3)
theorem ev_un {o : UnaryOp} {r : V → Hp → VK → Prop} {f : D → Option D} (ho : UnR X (unaryOp o) r) (hf : UnD M f r) (ha : PE X a (tD M X.mg W ea)) : PE X (.UnaryOp o a pos) (tD M X.mg W (eUn f ea)) := (pe_un ho ha).con fun σ H Q ⟨ρ, p, hH, ok, en, q⟩ => by
  subst hH
  show tD M X.mg W ea σ p.H fun x H1 => r x H1 Q
  refine tG.seq ok en q fun r1 x q1 ex1 ok1 es1 dx h1 => ?_
  cases z : f r1.1 with
  | none => simp only [op, z] at h1; exact h1.elim
  | some res =>
    simp only [op, z] at h1
    exact hf q1 x _ res Q ok1 dx z fun v q3 e3 ok3 es3 rk => h1 v q3 (ex1.trans e3) ok3 (es3.trans es1) rk
/-- a comparison -/
theorem ev_cmp {o : CmpOp} {r : R2} {f : D → D → Option D} (ho : OpR X (compareOp o) r) (hf : OpD M (fun d e => (f d e).map R.sh) r) (ha : PE X a (tD M X.mg W ea)) (hb : PE X b (tD M X.mg W eb)) (hm : behindInMarks o b = false := by rfl) :
    PE X (.Compare a [o] [b] pos) (tD M X.mg W (eBinD f ea eb)) := (pe_cmpR ho ha hb hm).con fun σ H Q ⟨ρ, p, hH, ok, en, q⟩ => by
  subst hH
  show tD M X.mg W ea σ p.H fun x H1 => tD M X.mg W eb σ H1 fun y H2 => r x y H2 Q
  refine tG.seq ok en q fun r1 x q1 ex1 ok1 es1 dx h1 => ?_
  rw [← es1] at h1
  refine tG.seq ok1 (en.ext ex1) (XEnds ex1 h1 fun _ h => h) fun r2 y q2 ex2 ok2 es2 dy h2 => ?_
  cases z : f r1.1 r2.1 with
  | none => simp only [op, z] at h2; exact h2.elim
  | some res =>
    simp only [op, z] at h2
    exact hf q2 x y _ _ (.sh res) Q ok2 (ex2.den dx) dy (by show Option.map R.sh (f r1.1 r2.1) = _; rw [z]; rfl) fun v q3 e3 ok3 es3 rk => h2 v q3 ((ex1.trans ex2).trans e3) ok3 (es3.trans es2) rk

/-! ### tests -/
/-- the truth of a value -/
def TrD {K : PySem.W.Frag} (M : WM K) (f : D → Option Bool) : Prop := ∀ (p : Pt M) (x : V) (d : D) (k : Bool), p.Ok → Den K p.ad p.Hv d x → f d = some k → TruV K x p.H k
theorem tt_val {f : D → Option Bool} (hf : TrD M f) (ha : PE X a (tD M X.mg W ea)) (he : ∀ whole, isTrue a X.env whole = (do let v ← whole; standAt a.pos; holding [v] (truthy v)) := by intro _; rfl) :
    PT X a (tB' M X.mg W (eTest f ea)) := (pt_truth ha he).con fun σ H Q ⟨ρ, p, hH, ok, en, q⟩ => by
  subst hH
  show tD M X.mg W ea σ p.H fun x H' => ∃ k, TruV X.K x H' k ∧ Q k H'
  refine tG.seq ok en q fun r1 x q1 ex1 ok1 es1 dx h1 => ?_
  cases z : f r1.1 with
  | none => simp only [op, z] at h1; exact h1.elim
  | some k =>
    simp only [op, z] at h1
    exact ⟨k, hf q1 x _ k ok1 dx z, h1 q1 ex1 ok1 es1⟩
/-- a comparison as a test -/
theorem tt_cmp {o : CmpOp} {r : R2} {f : D → D → Option Bool} (ho : OpR X (compareOp o) r) (hf : OpD M (fun d e => (f d e).map fun k => R.sh (.bl k)) r) (ha : PE X a (tD M X.mg W ea)) (hb : PE X b (tD M X.mg W eb)) (hm : behindInMarks o b = false := by rfl) :
    PT X (.Compare a [o] [b] pos) (tB' M X.mg W (fun ρ s => (ea ρ s).bind fun x => (eb ρ x.2).bind fun y => op (f x.1 y.1) y.2)) := (pt_cmpR ho ha hb hm).con fun σ H Q ⟨ρ, p, hH, ok, en, q⟩ => by
  subst hH
  show tD M X.mg W ea σ p.H fun x H1 => tD M X.mg W eb σ H1 fun y H2 => r x y H2 fun x H' => ∃ k, x = .bl k ∧ Q k H'
  refine tG.seq ok en q fun r1 x q1 ex1 ok1 es1 dx h1 => ?_
  rw [← es1] at h1
  refine tG.seq ok1 (en.ext ex1) (XEnds ex1 h1 fun _ h => h) fun r2 y q2 ex2 ok2 es2 dy h2 => ?_
  cases z : f r1.1 r2.1 with
  | none => simp only [op, z] at h2; exact h2.elim
  | some res =>
    simp only [op, z] at h2
    exact hf q2 x y _ _ (.sh (.bl res)) _ ok2 (ex2.den dx) dy (by show Option.map _ (f r1.1 r2.1) = _; rw [z]; rfl) fun v q3 e3 ok3 es3 rk => ⟨res, rk, h2 q3 ((ex1.trans ex2).trans e3) ok3 (es3.trans es2)⟩
variable {ta tb tc : Ev M Bool}
theorem tt_not (ha : PT X a (tB' M X.mg W ta)) : PT X (.UnaryOp .Not a pos) (tB' M X.mg W (eNot ta)) := (pt_not ha).con fun σ H Q ⟨ρ, p, hH, ok, en, q⟩ => by
  subst hH
  show tB' M X.mg W ta σ p.H fun c H1 => Q (!c) H1
  exact tB'.seq ok en q fun r1 q1 ex1 ok1 es1 h1 => h1 q1 ex1 ok1 es1
theorem _root_.L2.PW.con {X : Cx} {e : Expr} {t t' : TT} (h : PW X e t) (i : ∀ σ H Q, t' σ H Q → t σ H Q) : PW X e t' := ⟨fun wh pins s σ H Q I q => h.run wh pins s σ H Q I (i _ _ _ q)⟩
theorem tw_and1 (ha : PT X a (tB' M X.mg W ta)) : PW X (.BoolOp .And [a] pos) (tB' M X.mg W ta) := pw_and1 ha
theorem tw_or1 (ha : PT X a (tB' M X.mg W ta)) : PW X (.BoolOp .Or [a] pos) (tB' M X.mg W ta) := pw_or1 ha
theorem tw_and (ha : PT X a (tB' M X.mg W ta)) (hb : PW X (.BoolOp .And (b :: rest) pos) (tB' M X.mg W tb)) : PW X (.BoolOp .And (a :: b :: rest) pos) (tB' M X.mg W (eAnd ta tb)) := (pw_and ha hb).con fun σ H Q ⟨ρ, p, hH, ok, en, q⟩ => by
  subst hH
  show tB' M X.mg W ta σ p.H fun c H1 => if c = true then tB' M X.mg W tb σ H1 Q else Q false H1
  refine tB'.seq ok en q fun r1 q1 ex1 ok1 es1 h1 => ?_
  obtain ⟨c, s1⟩ := r1
  cases c with
  | true =>
    have h1' : (tb ρ s1).all _ (XEnd M X.mg p W σ) := h1
    rw [← show q1.s = s1 from es1] at h1'
    exact ⟨ρ, q1, rfl, ok1, en.ext ex1, XEnds ex1 h1' fun r h q2 e2 ok2 es2 => h q2 (ex1.trans e2) ok2 es2⟩
  | false => exact (show (G.ret (false, s1)).all _ _ from h1) q1 ex1 ok1 es1
theorem tw_or (ha : PT X a (tB' M X.mg W ta)) (hb : PW X (.BoolOp .Or (b :: rest) pos) (tB' M X.mg W tb)) : PW X (.BoolOp .Or (a :: b :: rest) pos) (tB' M X.mg W (eOr ta tb)) := (pw_or ha hb).con fun σ H Q ⟨ρ, p, hH, ok, en, q⟩ => by
  subst hH
  show tB' M X.mg W ta σ p.H fun c H1 => if c = true then Q true H1 else tB' M X.mg W tb σ H1 Q
  refine tB'.seq ok en q fun r1 q1 ex1 ok1 es1 h1 => ?_
  obtain ⟨c, s1⟩ := r1
  cases c with
  | true => exact (show (G.ret (true, s1)).all _ _ from h1) q1 ex1 ok1 es1
  | false =>
    have h1' : (tb ρ s1).all _ (XEnd M X.mg p W σ) := h1
    rw [← show q1.s = s1 from es1] at h1'
    exact ⟨ρ, q1, rfl, ok1, en.ext ex1, XEnds ex1 h1' fun r h q2 e2 ok2 es2 => h q2 (ex1.trans e2) ok2 es2⟩
/-- a chain of two comparisons, as a test -/
theorem tt_chain {c : Expr} {o o' : CmpOp} {r r' : R2} {f f' : D → D → Option Bool} {ec : Ev M D} (ho : OpR X (compareOp o) r) (ho' : OpR X (compareOp o') r') (hf : OpD M (fun d e => (f d e).map fun k => R.sh (.bl k)) r) (hf' : OpD M (fun d e => (f' d e).map fun k => R.sh (.bl k)) r')
    (ha : PE X a (tD M X.mg W ea)) (hb : PE X b (tD M X.mg W eb)) (hc : PE X c (tD M X.mg W ec)) (hp : PE X (.Compare a [o, o'] [b, c] pos) (tChain r r' (tD M X.mg W ea) (tD M X.mg W eb) (tD M X.mg W ec))) :
    PE X (.Compare a [o, o'] [b, c] pos) (tD M X.mg W (fun ρ s => (ea ρ s).bind fun x => (eb ρ x.2).bind fun y => (op (f x.1 y.1) y.2).bind fun k => if k.1 = true then (ec ρ k.2).bind fun z => (op (f' y.1 z.1) z.2).bind fun m => .ret (.bl m.1, m.2) else .ret (.bl false, k.2))) := hp.con fun σ H Q ⟨ρ, p, hH, ok, en, q⟩ => by
  subst hH
  show tD M X.mg W ea σ p.H fun x H1 => tD M X.mg W eb σ H1 fun y H2 => r x y H2 fun z H3 => ∃ k, z = .bl k ∧ (if k = true then tD M X.mg W ec σ H3 fun w' H4 => r' y w' H4 Q else Q (.bl false) H3)
  refine tG.seq ok en q fun r1 x q1 ex1 ok1 es1 dx h1 => ?_
  rw [← es1] at h1
  refine tG.seq ok1 (en.ext ex1) (XEnds ex1 h1 fun _ h => h) fun r2 y q2 ex2 ok2 es2 dy h2 => ?_
  cases z : f r1.1 r2.1 with
  | none => simp only [op, z] at h2; exact h2.elim
  | some k =>
    simp only [op, z, G.bind_ret] at h2
    refine hf q2 x y _ _ (.sh (.bl k)) _ ok2 (ex2.den dx) dy (by show Option.map _ (f r1.1 r2.1) = _; rw [z]; rfl) fun v q3 e3 ok3 es3 rk => ⟨k, rk, ?_⟩
    have e13 := (ex1.trans ex2).trans e3
    cases k with
    | false => exact (show (G.ret (D.bl false, r2.2)).all _ _ from h2) (.bl false) q3 e13 ok3 (es3.trans es2) rfl
    | true =>
      have h3 : ((ec ρ r2.2).bind _).all _ (XEnd M X.mg q1 W σ) := h2
      rw [← show q3.s = r2.2 from es3.trans es2] at h3
      show tD M X.mg W ec σ q3.H fun w' H4 => r' y w' H4 Q
      refine tG.seq ok3 (en.ext e13) (XEnds (ex2.trans e3) h3 fun _ h => h) fun r4 w q4 ex4 ok4 es4 dw h4 => ?_
      cases z' : f' r2.1 r4.1 with
      | none => simp only [op, z'] at h4; exact h4.elim
      | some m =>
        simp only [op, z', G.bind_ret] at h4
        exact hf' q4 y w _ _ (.sh (.bl m)) _ ok4 ((e3.trans ex4).den dy) dw (by show Option.map _ (f' r2.1 r4.1) = _; rw [z']; rfl) fun v5 q5 e5 ok5 es5 rk5 => h4 v5 q5 ((e13.trans ex4).trans e5) ok5 (es5.trans es4) rk5
/-! ### choices, and, or as values -/
theorem ev_if {c : Expr} (hc : PT X c (tB' M X.mg W tc)) (ha : PE X a (tD M X.mg W ea)) (hb : PE X b (tD M X.mg W eb)) : PE X (.IfExp c a b pos) (tD M X.mg W (eIf tc ea eb)) := (pe_ifExp hc ha hb).con fun σ H Q ⟨ρ, p, hH, ok, en, q⟩ => by
  subst hH
  show tB' M X.mg W tc σ p.H fun c H1 => if c = true then tD M X.mg W ea σ H1 Q else tD M X.mg W eb σ H1 Q
  refine tB'.seq ok en q fun r1 q1 ex1 ok1 es1 h1 => ?_
  obtain ⟨c, s1⟩ := r1
  cases c with
  | true =>
    have h1' : (ea ρ s1).all _ (XEnd M X.mg p W σ) := h1
    rw [← show q1.s = s1 from es1] at h1'
    exact ⟨ρ, q1, rfl, ok1, en.ext ex1, XEnds ex1 h1' fun r h v q2 e2 ok2 es2 => h v q2 (ex1.trans e2) ok2 es2⟩
  | false =>
    have h1' : (eb ρ s1).all _ (XEnd M X.mg p W σ) := h1
    rw [← show q1.s = s1 from es1] at h1'
    exact ⟨ρ, q1, rfl, ok1, en.ext ex1, XEnds ex1 h1' fun r h v q2 e2 ok2 es2 => h v q2 (ex1.trans e2) ok2 es2⟩
theorem ev_ifR {c : Expr} {er' : Ev M R} (hc : PT X c (tB' M X.mg W tc)) (ha : PE X a (tR M X.mg W er)) (hb : PE X b (tR M X.mg W er')) : PE X (.IfExp c a b pos) (tR M X.mg W (eIf tc er er')) := (pe_ifExp hc ha hb).con fun σ H Q ⟨ρ, p, hH, ok, en, q⟩ => by
  subst hH
  show tB' M X.mg W tc σ p.H fun c H1 => if c = true then tR M X.mg W er σ H1 Q else tR M X.mg W er' σ H1 Q
  refine tB'.seq ok en q fun r1 q1 ex1 ok1 es1 h1 => ?_
  obtain ⟨c, s1⟩ := r1
  cases c with
  | true =>
    have h1' : (er ρ s1).all _ (XEnd M X.mg p W σ) := h1
    rw [← show q1.s = s1 from es1] at h1'
    exact ⟨ρ, q1, rfl, ok1, en.ext ex1, XEnds ex1 h1' fun r h v q2 e2 ok2 es2 rk => h v q2 (ex1.trans e2) ok2 es2 (rk.tr ex1 e2)⟩
  | false =>
    have h1' : (er' ρ s1).all _ (XEnd M X.mg p W σ) := h1
    rw [← show q1.s = s1 from es1] at h1'
    exact ⟨ρ, q1, rfl, ok1, en.ext ex1, XEnds ex1 h1' fun r h v q2 e2 ok2 es2 rk => h v q2 (ex1.trans e2) ok2 es2 (rk.tr ex1 e2)⟩
theorem ev_one {o} (h : PE X a (tD M X.mg W ea)) : PE X (.BoolOp o [a] pos) (tD M X.mg W ea) := pe_one h
theorem ev_and {f : D → Option Bool} (hf : TrD M f) (ha : PE X a (tD M X.mg W ea)) (hb : PE X (.BoolOp .And (b :: rest) pos) (tD M X.mg W eb)) : PE X (.BoolOp .And (a :: b :: rest) pos) (tD M X.mg W (eAndV f ea eb)) := (pe_andT ha hb).con fun σ H Q ⟨ρ, p, hH, ok, en, q⟩ => by
  subst hH
  show tD M X.mg W ea σ p.H fun x H1 => ∃ k, TruV X.K x H1 k ∧ if k = true then tD M X.mg W eb σ H1 Q else Q x H1
  refine tG.seq ok en q fun r1 x q1 ex1 ok1 es1 dx h1 => ?_
  cases z : f r1.1 with
  | none => simp only [z] at h1; exact h1.elim
  | some k =>
    refine ⟨k, hf q1 x _ k ok1 dx z, ?_⟩
    cases k with
    | true =>
      simp only [z] at h1
      rw [← es1] at h1
      exact ⟨ρ, q1, rfl, ok1, en.ext ex1, XEnds ex1 h1 fun r h v q2 e2 ok2 es2 => h v q2 (ex1.trans e2) ok2 es2⟩
    | false =>
      simp only [z] at h1
      exact h1 x q1 ex1 ok1 es1 dx
theorem ev_or {f : D → Option Bool} (hf : TrD M f) (ha : PE X a (tD M X.mg W ea)) (hb : PE X (.BoolOp .Or (b :: rest) pos) (tD M X.mg W eb)) : PE X (.BoolOp .Or (a :: b :: rest) pos) (tD M X.mg W (eOrV f ea eb)) := (pe_orT ha hb).con fun σ H Q ⟨ρ, p, hH, ok, en, q⟩ => by
  subst hH
  show tD M X.mg W ea σ p.H fun x H1 => ∃ k, TruV X.K x H1 k ∧ if k = true then Q x H1 else tD M X.mg W eb σ H1 Q
  refine tG.seq ok en q fun r1 x q1 ex1 ok1 es1 dx h1 => ?_
  cases z : f r1.1 with
  | none => simp only [z] at h1; exact h1.elim
  | some k =>
    refine ⟨k, hf q1 x _ k ok1 dx z, ?_⟩
    cases k with
    | false =>
      simp only [z] at h1
      rw [← es1] at h1
      exact ⟨ρ, q1, rfl, ok1, en.ext ex1, XEnds ex1 h1 fun r h v q2 e2 ok2 es2 => h v q2 (ex1.trans e2) ok2 es2⟩
    | true =>
      simp only [z] at h1
      exact h1 x q1 ex1 ok1 es1 dx
theorem ev_not {f : D → Option Bool} (hf : TrD M f) (ha : PE X a (tD M X.mg W ea)) : PE X (.UnaryOp .Not a pos) (tD M X.mg W (eUn (fun d => (f d).map fun k => .bl (!k)) ea)) := (pe_notT ha).con fun σ H Q ⟨ρ, p, hH, ok, en, q⟩ => by
  subst hH
  show tD M X.mg W ea σ p.H fun x H1 => ∃ k, TruV X.K x H1 k ∧ Q (.bl (!k)) H1
  refine tG.seq ok en q fun r1 x q1 ex1 ok1 es1 dx h1 => ?_
  cases z : f r1.1 with
  | none => simp only [op, z, Option.map_none] at h1; exact h1.elim
  | some k =>
    simp only [op, z, Option.map_some] at h1
    exact ⟨k, hf q1 x _ k ok1 dx z, h1 _ q1 ex1 ok1 es1 rfl⟩
/-! ### arguments, displays -/
theorem ea_nil : PA X [] (tA M X.mg W (eNil : Ev M (List D))) := pa_nil.con fun σ H Q ⟨ρ, p, hH, ok, en, q⟩ => by
  subst hH
  exact q [] p (Ext.refl p) ok rfl DenL.nil
theorem ea_cons (ha : PE X e (tD M X.mg W ea)) (hr : PA X es (tA M X.mg W el)) (hs : starEach (e :: es) X.env = (false, eval e X.env) :: starEach es X.env := by rfl) : PA X (e :: es) (tA M X.mg W (eCons ea el)) := (pa_cons ha hr hs).con fun σ H Q ⟨ρ, p, hH, ok, en, q⟩ => by
  subst hH
  show tD M X.mg W ea σ p.H fun x H1 => tA M X.mg W el σ H1 fun xs H2 => Q (x :: xs) H2
  refine tG.seq ok en q fun r1 x q1 ex1 ok1 es1 dx h1 => ?_
  rw [← es1] at h1
  refine tA.seq ok1 (en.ext ex1) (XEnds ex1 h1 fun _ h => h) fun r2 ys q2 ex2 ok2 es2 dy h2 => ?_
  exact h2 _ q2 (ex1.trans ex2) ok2 es2 (DenL.cons (ex2.den dx) dy)
theorem ev_tup {x1} (h : PA X es (tA M X.mg W el)) : PE X (.Tuple es x1 pos) (tD M X.mg W (eTup el)) := (pe_tup h).con fun σ H Q ⟨ρ, p, hH, ok, en, q⟩ => by
  subst hH
  show tA M X.mg W el σ p.H fun xs H1 => xs.length ≤ sizeLine ∧ ∀ p, H1 p = none → Q (.ref p) (upd H1 p (.tup xs))
  refine tA.seq ok en q fun r1 xs q1 ex1 ok1 es1 dx h1 => ?_
  by_cases hl : r1.1.length ≤ big
  · rw [if_pos hl] at h1
    refine ⟨by rw [dx.length]; exact big_line hl, fun a ha => ?_⟩
    exact h1 (.ref a) (q1.lay a (.tup xs)) (ex1.trans (ext_lay ok1 ha)) (ok_lay ok1 ha) es1 ⟨a, xs, rfl, SqT.of upd_same, (ext_lay ok1 ha).denL dx⟩
  · rw [if_neg hl] at h1; exact h1.elim
theorem ev_lst (h : PA X es (tA M X.mg W el)) : PE X (.List es pos) (tR M X.mg W (eLst el)) := (pe_lst h).con fun σ H Q ⟨ρ, p, hH, ok, en, q⟩ => by
  subst hH
  show tA M X.mg W el σ p.H fun xs H1 => xs.length ≤ sizeLine ∧ ∀ p, H1 p = none → Q (.ref p) (upd H1 p (.lst xs))
  refine tA.seq ok en q fun r1 xs q1 ex1 ok1 es1 dx h1 => ?_
  by_cases hl : r1.1.length ≤ big
  · rw [if_pos hl] at h1
    refine ⟨by rw [dx.length]; exact big_line hl, fun a ha => ?_⟩
    refine h1 (.ref a) (q1.hid a (.lst xs)) (ex1.trans (ext_hid ha)) (ok_hid ok1 ha) es1 ⟨a, .lst xs, rfl, upd_same, ok1.vn ha, ok1.fn ha, ?_, dx⟩
    cases z : p.H a with
    | none => exact .inl rfl
    | some u =>
      refine .inr (Classical.byContradiction fun n => ?_)
      rw [ex1.frame a u z n] at ha; cases ha
  · rw [if_neg hl] at h1; exact h1.elim
/-! ### calls -/
theorem new_old {p q : Pt M} (e : Ext p q) {a : Addr} (ha : q.H a = none) : p.H a = none ∨ p.F a := by
  cases z : p.H a with
  | none => exact .inl rfl
  | some u =>
    refine .inr (Classical.byContradiction fun n => ?_)
    rw [e.frame a u z n] at ha; cases ha
/-- a def of the text, called by the name x with n values in all; dfl: the defaults that fill up what is not given -/
structure DefOk (P : Program) (w : World) (K : PySem.W.Frag) (mg : Str → Option Value) (base : Heap) (M : WM K) (k : Nat) (x : Str) (n : Nat) (fs : List D → M.S → Gx M R) (dfl : List D) : Prop where
  ex : ∃ (f : Addr) (fd : FuncData) (ps : List Str) (ds : List Value) (dvs : List V), FnOk P w K mg base (L2.CX P w) k f fd ps (spV M mg n fs) ∧ mg x = some (.ref f) ∧ PySem.W.keepIn K (.ref f) = true ∧ Binds K fd ps ds ∧ Vals dvs ds ∧ ∀ ad Hv, DenL K ad Hv dfl dvs
variable {k j : Nat} {n : Nat} {fs : List D → M.S → Gx M R} {dfl : List D} {x : Str} {pp : Pos}
/-- f(..), a def of the text -/
theorem ev_call (c : DefOk X.prog X.w X.K X.mg X.base M k x n fs dfl) (hr : Room j X.A) (tk : Takes X W) (ha : PA X (e :: es) (tA M X.mg W el)) (hkj : k ≤ j := by decide) (hg : Gl X x := by rfl)
    (hdb : (x == ("__debug__" : Str)) = false := by decide) (he : starEach (e :: es) X.env = (false, eval e X.env) :: starEach es X.env := by rfl)
    (hpl : (backTo pos (starEach es X.env)).any (·.1) = false := by rfl) :
    PE X (.Call (.Name x pp) (e :: es) [] pos) (tR M X.mg W (eCall n fs dfl el)) := by
  obtain ⟨f, fd, ps, ds, dvs, F, hm, hk, hb, hd, hdd⟩ := c.ex
  refine (pe_callSD F (hr.mono hkj) hg hm hk hb hd (passAt tk) ha hdb he hpl).con fun σ H Q ⟨ρ, p, hH, ok, en, q⟩ => ?_
  subst hH
  show tA M X.mg W el σ p.H fun vs H1 => spV M X.mg n fs (vs ++ dvs) H1 Q (WE W σ)
  refine tA.seq ok en q fun r1 xs q1 ex1 ok1 es1 dx h1 => ?_
  have dl : DenL X.K q1.ad q1.Hv (r1.1 ++ dfl) (xs ++ dvs) := dx.append (hdd _ _)
  by_cases hl : (r1.1 ++ dfl).length = n
  · rw [if_pos hl] at h1
    rw [← es1] at h1
    exact ⟨r1.1 ++ dfl, q1, by rw [dl.length]; exact hl, rfl, ok1, dl, G.all_mono (fun r h v q2 e2 ok2 es2 rk => h v q2 (ex1.trans e2) ok2 es2 (rk.tr ex1 e2)) (fun x h cls dd q2 e2 ok2 es2 xk => h cls dd q2 (ex1.trans e2) ok2 es2 xk) h1⟩
  · rw [if_neg hl] at h1; exact h1.elim
/-- a built-in function, a built-in type called -/
theorem ev_fun {id : String} {r : List V → Hp → VK → Prop} {f : List D → Option R} (hc : CallR X (.builtin id) r) (hf : CallD M f r) (hm : X.mg x = none) (hv : bootBuiltins x = some (.builtin id)) (ha : PA X (e :: es) (tA M X.mg W el)) (hg : Gl X x := by rfl) (hn : x ≠ "__name__" := by decide)
    (hdb : (x == ("__debug__" : Str)) = false := by decide) (he : starEach (e :: es) X.env = (false, eval e X.env) :: starEach es X.env := by rfl)
    (hpl : (backTo pos (starEach es X.env)).any (·.1) = false := by rfl) : PE X (.Call (.Name x pp) (e :: es) [] pos) (tR M X.mg W (eFun f el)) := (pe_callB hc hg hm hv ha hn hdb he hpl).con fun σ H Q ⟨ρ, p, hH, ok, en, q⟩ => by
  subst hH
  show tA M X.mg W el σ p.H fun vs H1 => r vs H1 Q
  refine tA.seq ok en q fun r1 xs q1 ex1 ok1 es1 dx h1 => ?_
  cases z : f r1.1 with
  | none => simp only [op, z] at h1; exact h1.elim
  | some res =>
    simp only [op, z] at h1
    exact hf q1 xs _ res Q ok1 dx z fun v q3 e3 ok3 es3 rk => h1 v q3 (ex1.trans e3) ok3 (es3.trans es1) (rk.tr ex1 e3)
theorem ev_typ {id : String} {r : List V → Hp → VK → Prop} {f : List D → Option R} (hc : CallR X (.type id) r) (hf : CallD M f r) (hm : X.mg x = none) (hv : bootBuiltins x = some (.type id)) (ha : PA X (e :: es) (tA M X.mg W el)) (hg : Gl X x := by rfl) (hn : x ≠ "__name__" := by decide)
    (hdb : (x == ("__debug__" : Str)) = false := by decide) (he : starEach (e :: es) X.env = (false, eval e X.env) :: starEach es X.env := by rfl)
    (hpl : (backTo pos (starEach es X.env)).any (·.1) = false := by rfl) : PE X (.Call (.Name x pp) (e :: es) [] pos) (tR M X.mg W (eFun f el)) := (pe_callTy hc hg hm hv ha hn hdb he hpl).con fun σ H Q ⟨ρ, p, hH, ok, en, q⟩ => by
  subst hH
  show tA M X.mg W el σ p.H fun vs H1 => r vs H1 Q
  refine tA.seq ok en q fun r1 xs q1 ex1 ok1 es1 dx h1 => ?_
  cases z : f r1.1 with
  | none => simp only [op, z] at h1; exact h1.elim
  | some res =>
    simp only [op, z] at h1
    exact hf q1 xs _ res Q ok1 dx z fun v q3 e3 ok3 es3 rk => h1 v q3 (ex1.trans e3) ok3 (es3.trans es1) (rk.tr ex1 e3)
end
end VQ

/-! VqD: operators, comparisons, built-in functions by data. -/
namespace VQ
open PySem PySem.Spec PyProof.Rows L2

theorem str_app (a b : List Nat) : (⟨a.toArray⟩ : Str) ++ (⟨b.toArray⟩ : Str) = ⟨(a ++ b).toArray⟩ := by
  show (⟨a.toArray ++ b.toArray⟩ : Str) = _
  simp
theorem str_len (a : List Nat) : (⟨a.toArray⟩ : Str).length = a.length := by simp [Str.length]
theorem str_tl (a : List Nat) : (⟨a.toArray⟩ : Str).cps.toList = a := rfl
theorem str_inj {a b : List Nat} : ((⟨a.toArray⟩ : Str) = ⟨b.toArray⟩) ↔ a = b := by
  constructor
  · intro h
    have := congrArg (fun s : Str => s.cps.toList) h
    simpa using this
  · intro h; rw [h]

section
variable {K : PySem.W.Frag} {M : WM K}
/-- an end with seen data, the heap as it stands -/
theorem fin_sh {p : Pt M} {d : D} {v : V} {Q : VK} (ok : p.Ok) (q : ∀ v (q : Pt M), Ext p q → q.Ok → q.s = p.s → ROk p q (.sh d) v → Q v q.H) (h : Den K p.ad p.Hv d v) : Q v p.H := q v p (Ext.refl p) ok rfl h
/-- a new tuple -/
theorem fin_tup {p : Pt M} {ds : List D} {vs : List V} {a : Addr} {Q : VK} (ok : p.Ok) (q : ∀ v (q : Pt M), Ext p q → q.Ok → q.s = p.s → ROk p q (.sh (.tup ds)) v → Q v q.H) (h : DenL K p.ad p.Hv ds vs) (ha : p.H a = none) : Q (.ref a) (upd p.H a (.tup vs)) :=
  q (.ref a) (p.lay a (.tup vs)) (ext_lay ok ha) (ok_lay ok ha) rfl ⟨a, vs, rfl, SqT.of upd_same, (ext_lay ok ha).denL h⟩
/-- a new list -/
theorem fin_lst {p : Pt M} {ds : List D} {vs : List V} {a : Addr} {Q : VK} (ok : p.Ok) (q : ∀ v (q : Pt M), Ext p q → q.Ok → q.s = p.s → ROk p q (.fr (.lst ds)) v → Q v q.H) (h : DenL K p.ad p.Hv ds vs) (ha : p.H a = none) : Q (.ref a) (upd p.H a (.lst vs)) :=
  q (.ref a) (p.hid a (.lst vs)) (ext_hid ha) (ok_hid ok ha) rfl ⟨a, .lst vs, rfl, upd_same, ok.vn ha, ok.fn ha, .inl ha, h⟩
theorem sqT_H {p : Pt M} (ok : p.Ok) {a : Addr} {vs : List V} (h : SqT K p.Hv a vs) : SqT K p.H a vs := sqT_same ok.view h

/-! ### + -/
def addD : D → D → Option R
  | .int i, .int j => some (.sh (.int (i + j)))
  | .str a, .str b => if a.length + b.length ≤ big then some (.sh (.str (a ++ b))) else none
  | .tup a, .tup b => if a.length + b.length ≤ big then some (.sh (.tup (a ++ b))) else none
  | .lst a, .lst b => if a.length + b.length ≤ big then some (.fr (.lst (a ++ b))) else none
  | _, _ => none
def rAddD (K : PySem.W.Frag) : R2 := fun x y H Q => (rI0 (fun i j => .int (i + j)) x y H Q) ∨ (∃ i j, x = .str i ∧ y = .str j ∧ i.length + j.length ≤ sizeLine ∧ Q (.str (i ++ j)) H) ∨ rCatA K x y H Q ∨ rCat x y H Q
theorem or_add {X : Cx} : OpR X (binaryOp .Add) (rAddD X.K) := op_add.or (op_add_str.or (op_catA.or op_cat))
theorem od_add : OpD M addD (rAddD K) := fun p x y d e res Q ok hx hy hf q => by
  cases d <;> cases e <;> first | (simp only [addD] at hf; done) | skip
  all_goals try (simp only [addD] at hf; cases hf; done)
  · cases hx; cases hy; cases hf
    exact .inl ⟨_, _, rfl, rfl, fin_sh ok q rfl⟩
  · cases hx; cases hy
    simp only [addD] at hf
    split at hf
    · rename_i hl
      cases hf
      refine .inr (.inl ⟨_, _, rfl, rfl, ?_, ?_⟩)
      · rw [str_len, str_len]; exact big_line hl
      · rw [str_app]; exact fin_sh ok q rfl
    · cases hf
  · simp only [addD] at hf
    split at hf
    · rename_i hl
      cases hf
      obtain ⟨a, vs, rfl, h1, h2⟩ := hx
      obtain ⟨b, ws, rfl, h3, h4⟩ := hy
      refine .inr (.inr (.inl ⟨a, b, vs, ws, rfl, rfl, sqT_H ok h1, sqT_H ok h3, ?_, fun e => ?_, fun _ e => ?_, fun _ _ p hp => ?_⟩))
      · rw [h2.length, h4.length]; exact big_line hl
      · subst e
        have e := h2.nil_of
        subst e
        exact fin_sh ok q ⟨b, ws, rfl, h3, h4⟩
      · subst e
        have e := h4.nil_of
        subst e
        exact fin_sh ok q ⟨a, vs, rfl, h1, by simpa using h2⟩
      · exact fin_tup ok q (h2.append h4) hp
    · cases hf
  · simp only [addD] at hf
    split at hf
    · rename_i hl
      cases hf
      obtain ⟨a, vs, rfl, h1, h2⟩ := hx
      obtain ⟨b, ws, rfl, h3, h4⟩ := hy
      refine .inr (.inr (.inr ⟨a, b, vs, ws, rfl, rfl, ok.view _ _ h1, ok.view _ _ h3, ?_, fun p hp => ?_⟩))
      · rw [h2.length, h4.length]; exact big_line hl
      · exact fin_lst ok q (h2.append h4) hp
    · cases hf
/-! ### other arithmetic -/
def int2 (C : Int → Int → Bool) (g : Int → Int → Int) : D → D → Option R
  | .int i, .int j => if C i j = true then some (.sh (.int (g i j))) else none
  | _, _ => none
theorem od_int {C : Int → Int → Bool} {C' : Int → Int → Prop} {g : Int → Int → Int} (h : ∀ i j, C i j = true → C' i j) : OpD M (int2 C g) (rI C' fun i j => .int (g i j)) := fun p x y d e res Q ok hx hy hf q => by
  cases d <;> cases e <;> first | (simp only [int2] at hf; done) | skip
  all_goals try (simp only [int2] at hf; cases hf; done)
  cases hx; cases hy
  simp only [int2] at hf
  split at hf
  · rename_i hc
    cases hf
    exact ⟨_, _, rfl, rfl, h _ _ hc, fin_sh ok q rfl⟩
  · cases hf
def int20 (g : Int → Int → Int) : D → D → Option R
  | .int i, .int j => some (.sh (.int (g i j)))
  | _, _ => none
theorem od_int0 {g : Int → Int → Int} : OpD M (int20 g) (rI0 fun i j => .int (g i j)) := fun p x y d e res Q ok hx hy hf q => by
  cases d <;> cases e <;> first | (simp only [int20] at hf; done) | skip
  all_goals try (simp only [int20] at hf; cases hf; done)
  cases hx; cases hy; cases hf
  exact ⟨_, _, rfl, rfl, fin_sh ok q rfl⟩
def subD : D → D → Option R := int20 fun i j => i - j
/-- bounds that nothing reckons with -/
noncomputable def lk (x : Int) : Int := (Classical.choice ⟨(⟨x, rfl⟩ : {y : Int // y = x})⟩).1
theorem lk_eq (x : Int) : lk x = x := (Classical.choice ⟨(⟨x, rfl⟩ : {y : Int // y = x})⟩).2
noncomputable def small (i : Int) : Bool := decide (-lk (2 ^ 64) < i) && decide (i < lk (2 ^ 64))
theorem small_ok {i : Int} (h : small i = true) : -(2 ^ 64) < i ∧ i < 2 ^ 64 := by
  unfold small at h
  rw [lk_eq, Bool.and_eq_true] at h
  exact ⟨of_decide_eq_true h.1, of_decide_eq_true h.2⟩
theorem small_of {i : Int} (h1 : -(2 ^ 64) < i) (h2 : i < 2 ^ 64) : small i = true := by
  unfold small
  rw [lk_eq, decide_eq_true h1, decide_eq_true h2]; rfl
noncomputable def fdivD : D → D → Option R := int2 (fun _ j => decide (0 < j) && decide (j < lk 1073741824)) fun i j => i / j
def modD : D → D → Option R := int2 (fun _ j => decide (0 < j)) fun i j => i % j
noncomputable def powD : D → D → Option R := int2 (fun i j => decide (0 ≤ j) && decide (j ≤ lk 1000000) && small i) fun i j => i ^ j.toNat
noncomputable def shlD : D → D → Option R := int2 (fun i j => decide (0 ≤ j) && decide (j ≤ lk 1000000) && small i) fun i j => i * 2 ^ j.toNat
def shrD : D → D → Option R := int2 (fun _ j => decide (0 ≤ j)) fun i j => i / 2 ^ j.toNat
def andD : D → D → Option R := int20 Builtin.bitAnd
def xorD : D → D → Option R := int20 Builtin.bitXor
theorem od_fdiv : OpD M fdivD (rI CDiv fun i j => .int (i / j)) := od_int fun i j h => by
  rw [lk_eq] at h
  simpa [CDiv] using h
theorem od_mod : OpD M modD (rI (fun _ j => 0 < j) fun i j => .int (i % j)) := od_int fun i j h => by simpa using h
theorem pow_ok {i j : Int} (h : (decide (0 ≤ j) && decide (j ≤ lk 1000000) && small i) = true) : CPow i j := by
  rw [lk_eq] at h
  simp only [Bool.and_eq_true, decide_eq_true_eq] at h
  obtain ⟨⟨h1, h2⟩, h3⟩ := h
  obtain ⟨h4, h5⟩ := small_ok h3
  exact ⟨h1, h2, by omega⟩
theorem od_pow : OpD M powD (rI CPow fun i j => .int (i ^ j.toNat)) := od_int fun i j h => pow_ok h
theorem od_shl : OpD M shlD (rI CPow fun i j => .int (i * 2 ^ j.toNat)) := od_int fun i j h => pow_ok h
theorem od_shr : OpD M shrD (rI (fun _ j => 0 ≤ j) fun i j => .int (i / 2 ^ j.toNat)) := od_int fun i j h => by simpa using h
theorem od_sub : OpD M subD (rI0 fun i j => .int (i - j)) := od_int0
theorem od_and : OpD M andD (rI0 fun i j => .int (Builtin.bitAnd i j)) := od_int0
theorem od_xor : OpD M xorD (rI0 fun i j => .int (Builtin.bitXor i j)) := od_int0
def negD : D → Option D
  | .int i => some (.int (-i))
  | _ => none
theorem ud_neg : UnD M negD (rU fun i => .int (-i)) := fun p x d res Q ok hx hf q => by
  cases d <;> first | (cases hf; done) | skip
  cases hx; cases hf
  exact ⟨_, rfl, q _ p (Ext.refl p) ok rfl rfl⟩
/-! ### truth -/
def truD : D → Option Bool
  | .non => some false
  | .bl b => some b
  | .int i => some (i != 0)
  | .str s => if s.length ≤ big then some (!s.isEmpty) else none
  | .tup l => some (!l.isEmpty)
  | .lst l => some (!l.isEmpty)
  | .dk l => some (!l.isEmpty)
  | _ => none
theorem td_tru : TrD M truD := fun p x d k ok hx hf => by
  cases d with
  | non => cases hx; cases hf; rfl
  | bl b => cases hx; cases hf; rfl
  | int i => cases hx; cases hf; rfl
  | str s =>
    cases hx
    simp only [truD] at hf
    split at hf
    · rename_i hl
      cases hf
      refine ⟨by rw [str_len]; exact big_line hl, ?_⟩
      rw [str_len]
      cases s <;> simp
      omega
    · cases hf
  | tup l =>
    cases hf
    obtain ⟨a, vs, rfl, h1, h2⟩ := hx
    refine .inr (.inl ⟨vs, sqT_H ok h1, ?_⟩)
    have := h2.length
    cases l <;> cases vs <;> simp_all
  | lst l =>
    cases hf
    obtain ⟨a, vs, rfl, h1, h2⟩ := hx
    refine .inl ⟨vs, SqL.of (ok.view _ _ h1), ?_⟩
    have := h2.length
    cases l <;> cases vs <;> simp_all
  | dk l =>
    cases hf
    obtain ⟨a, vs, rfl, h1, h2⟩ := hx
    refine .inr (.inr ⟨vs, ok.view _ _ h1, ?_⟩)
    cases l with
    | nil => cases h2; rfl
    | cons c r => obtain ⟨c1, c2⟩ := c; obtain ⟨_, _, e, _⟩ := h2; cases e; rfl
  | _ => cases hf
/-! ### comparisons -/
def cmpI (g : Int → Int → Bool) : D → D → Option Bool
  | .int i, .int j => some (g i j)
  | _, _ => none
theorem od_cmpI {g : Int → Int → Bool} : OpD M (fun d e => (cmpI g d e).map fun k => R.sh (.bl k)) (rI0 fun i j => .bl (g i j)) := fun p x y d e res Q ok hx hy hf q => by
  cases d <;> cases e <;> first | (simp [cmpI] at hf; done) | skip
  cases hx; cases hy; cases hf
  exact ⟨_, _, rfl, rfl, fin_sh ok q rfl⟩
def ltD := cmpI fun i j => decide (i < j)
def leD := cmpI fun i j => decide (i ≤ j)
def gtD := cmpI fun i j => decide (j < i)
def geD := cmpI fun i j => decide (j ≤ i)
/-- a comparison of data given as a Bool, as a value -/
def blD (f : D → D → Option Bool) : D → D → Option D := fun d e => (f d e).map .bl
theorem od_bl {f : D → D → Option Bool} {r : R2} (h : OpD M (fun d e => (f d e).map fun k => R.sh (.bl k)) r) : OpD M (fun d e => (blD f d e).map R.sh) r := fun p x y d e res Q ok hx hy hf q => h p x y d e res Q ok hx hy (by
  show Option.map _ _ = _
  have hf : Option.map R.sh (Option.map D.bl (f d e)) = some res := hf
  rw [Option.map_map] at hf
  exact hf) q
/-- is None -/
def isNon : D → Bool
  | .non => true
  | _ => false
theorem den_non {p : Pt M} {d : D} {x : V} (h : Den K p.ad p.Hv d x) : decide (x = .non) = isNon d := by
  cases d with
  | non => cases h; rfl
  | bl _ => cases h; rfl
  | int _ => cases h; rfl
  | str _ => cases h; rfl
  | ty _ => cases h; rfl
  | tup _ => obtain ⟨_, _, rfl, _⟩ := h; rfl
  | lst _ => obtain ⟨_, _, rfl, _⟩ := h; rfl
  | dk _ => obtain ⟨_, _, rfl, _⟩ := h; rfl
  | dt _ => obtain ⟨_, _, rfl, _⟩ := h; rfl
  | obj _ => obtain ⟨_, _, rfl⟩ := h; rfl
def isD : D → D → Option Bool
  | d, .non => some (isNon d)
  | _, _ => none
def isnotD : D → D → Option Bool
  | d, .non => some (!isNon d)
  | _, _ => none
theorem od_is : OpD M (fun d e => (isD d e).map fun k => R.sh (.bl k)) (fun x y H Q => y = .non ∧ Q (.bl (decide (x = .non))) H) := fun p x y d e res Q ok hx hy hf q => by
  cases e <;> first | (simp [isD] at hf; done) | skip
  cases hy; cases hf
  refine ⟨rfl, ?_⟩
  rw [den_non hx]
  exact fin_sh ok q rfl
theorem od_isnot : OpD M (fun d e => (isnotD d e).map fun k => R.sh (.bl k)) (fun x y H Q => y = .non ∧ Q (.bl (!decide (x = .non))) H) := fun p x y d e res Q ok hx hy hf q => by
  cases e <;> first | (simp [isnotD] at hf; done) | skip
  cases hy; cases hf
  refine ⟨rfl, ?_⟩
  rw [den_non hx]
  exact fin_sh ok q rfl
/-! ### == -/
mutual
/-- == of data (bools are ints) -/
def eqD : D → D → Bool
  | .non, .non => true
  | .bl a, .bl b => a == b
  | .bl a, .int j => (if a then 1 else 0) == j
  | .int i, .bl b => i == (if b then 1 else 0)
  | .int i, .int j => i == j
  | .str a, .str b => a == b
  | .tup a, .tup b => eqDs a b
  | .lst a, .lst b => eqDs a b
  | _, _ => false
def eqDs : List D → List D → Bool
  | [], [] => true
  | x :: xs, y :: ys => eqD x y && eqDs xs ys
  | _, _ => false
end
mutual
/-- what == is told of: plain, at most n deep -/
def pl : Nat → D → Bool
  | _, .non => true
  | _, .bl _ => true
  | _, .int _ => true
  | _, .str s => s.all fun c => decide (c < 1114112)
  | n + 1, .tup l => plL n l
  | n + 1, .lst l => plL n l
  | _, _ => false
def plL : Nat → List D → Bool
  | _, [] => true
  | n, d :: ds => pl n d && plL n ds
end
mutual
def py : D → PyData
  | .non => .none
  | .bl b => .bool b
  | .int i => .int i
  | .str s => .str ⟨s.toArray⟩
  | .tup l => .tuple (pyL l)
  | .lst l => .list (pyL l)
  | _ => .none
def pyL : List D → List PyData
  | [] => []
  | d :: ds => py d :: pyL ds
end

end
section
variable {K : PySem.W.Frag} {M : WM K}
mutual
theorem eqv_py : ∀ (m n : Nat) (d e : D), pl m d = true → pl n e = true → PyData.eqv (py d) (py e) = eqD d e
  | m, n, d, e, h1, h2 => by
    cases d with
    | non => cases e <;> first | rfl | (cases n <;> cases h2; done) | (cases n <;> simp [py, PyData.eqv, eqD])
    | bl b => cases e <;> first | rfl | (cases n <;> cases h2; done) | (cases n <;> simp [py, PyData.eqv, eqD])
    | int i => cases e <;> first | rfl | (cases n <;> cases h2; done) | (cases n <;> simp [py, PyData.eqv, eqD])
    | str s =>
      cases e with
      | str t =>
        show ((⟨s.toArray⟩ : Str) == ⟨t.toArray⟩) = (s == t)
        by_cases h : s = t
        · subst h; simp
        · have h' : ¬ (⟨s.toArray⟩ : Str) = ⟨t.toArray⟩ := fun q => h (str_inj.mp q)
          rw [beq_eq_false_iff_ne.mpr h, beq_eq_false_iff_ne.mpr h']
      | _ => first | rfl | (cases n <;> cases h2; done) | (cases n <;> simp [py, PyData.eqv, eqD])
    | tup l =>
      cases m with
      | zero => cases h1
      | succ m =>
        cases e with
        | tup l' =>
          cases n with
          | zero => cases h2
          | succ n => exact eqv_pyL m n l l' h1 h2
        | _ => first | rfl | (cases n <;> cases h2; done) | (cases n <;> simp [py, PyData.eqv, eqD])
    | lst l =>
      cases m with
      | zero => cases h1
      | succ m =>
        cases e with
        | lst l' =>
          cases n with
          | zero => cases h2
          | succ n => exact eqv_pyL m n l l' h1 h2
        | _ => first | rfl | (cases n <;> cases h2; done) | (cases n <;> simp [py, PyData.eqv, eqD])
    | _ => cases m <;> cases h1
theorem eqv_pyL : ∀ (m n : Nat) (ds es : List D), plL m ds = true → plL n es = true → PyData.eqvAll (pyL ds) (pyL es) = eqDs ds es
  | m, n, [], [], _, _ => rfl
  | m, n, [], _ :: _, _, _ => rfl
  | m, n, _ :: _, [], _, _ => rfl
  | m, n, d :: ds, e :: es, h1, h2 => by
    have h1' : (pl m d && plL m ds) = true := by cases m <;> exact h1
    have h2' : (pl n e && plL n es) = true := by cases n <;> exact h2
    rw [Bool.and_eq_true] at h1' h2'
    show (PyData.eqv (py d) (py e) && PyData.eqvAll (pyL ds) (pyL es)) = (eqD d e && eqDs ds es)
    rw [eqv_py m n d e h1'.1 h2'.1, eqv_pyL m n ds es h1'.2 h2'.2]
end

mutual
theorem lay_py : ∀ (n : Nat) (d : D), pl n d = true → (py d).canLay0 = true ∧ (py d).depth ≤ n
  | n, d, h => by
    cases d with
    | non => cases n <;> exact ⟨rfl, Nat.zero_le _⟩
    | bl b => cases n <;> exact ⟨rfl, Nat.zero_le _⟩
    | int i => cases n <;> exact ⟨rfl, Nat.zero_le _⟩
    | str s =>
      have h' : (s.all fun c => decide (c < 1114112)) = true := by cases n <;> exact h
      refine ⟨?_, by cases n <;> exact Nat.zero_le _⟩
      show PyData.strOk ⟨s.toArray⟩ = true
      unfold PyData.strOk
      simpa using h'
    | tup l =>
      cases n with
      | zero => cases h
      | succ n =>
        obtain ⟨h1, h2⟩ := lay_pyL n l h
        refine ⟨h1, ?_⟩
        show PyData.depth (.tuple (pyL l)) ≤ n + 1
        first | exact Nat.succ_le_succ h2 | (simp only [PyData.depth]; omega)
    | lst l =>
      cases n with
      | zero => cases h
      | succ n =>
        obtain ⟨h1, h2⟩ := lay_pyL n l h
        refine ⟨h1, ?_⟩
        show PyData.depth (.list (pyL l)) ≤ n + 1
        first | exact Nat.succ_le_succ h2 | (simp only [PyData.depth]; omega)
    | _ => cases n <;> cases h
theorem lay_pyL : ∀ (n : Nat) (ds : List D), plL n ds = true → PyData.canLayAll0 (pyL ds) = true ∧ PyData.depthAll (pyL ds) ≤ n
  | n, [], _ => ⟨rfl, Nat.zero_le _⟩
  | n, d :: ds, h => by
    have h' : (pl n d && plL n ds) = true := by cases n <;> exact h
    rw [Bool.and_eq_true] at h'
    obtain ⟨a1, a2⟩ := lay_py n d h'.1
    obtain ⟨b1, b2⟩ := lay_pyL n ds h'.2
    refine ⟨?_, ?_⟩
    · show ((py d).canLay0 && PyData.canLayAll0 (pyL ds)) = true
      rw [a1, b1]; rfl
    · show PyData.depthAll (py d :: pyL ds) ≤ n
      simp only [PyData.depthAll]
      omega
end
mutual
theorem dp_py {ad : Nat → Option Addr} {Hv : Hp} : ∀ (n : Nat) (d : D) (v : V), pl n d = true → Den K ad Hv d v → Dp K Hv v (py d)
  | n, d, v, h, hd => by
    cases d with
    | non => cases hd; exact .non
    | bl b => cases hd; exact .bl b
    | int i => cases hd; exact .int i
    | str s => cases hd; exact .str _
    | tup l =>
      cases n with
      | zero => cases h
      | succ n =>
        obtain ⟨a, vs, rfl, h1, h2⟩ := hd
        exact .tup h1 (dp_pyL n l vs h h2)
    | lst l =>
      cases n with
      | zero => cases h
      | succ n =>
        obtain ⟨a, vs, rfl, h1, h2⟩ := hd
        exact .lst (SqL.of h1) (dp_pyL n l vs h h2)
    | _ => cases n <;> cases h
theorem dp_pyL {ad : Nat → Option Addr} {Hv : Hp} : ∀ (n : Nat) (ds : List D) (vs : List V), plL n ds = true → DenL K ad Hv ds vs → DpAll K Hv vs (pyL ds)
  | n, [], vs, _, h => by cases h; exact .nil
  | n, d :: ds, vs, h, hd => by
    have h' : (pl n d && plL n ds) = true := by cases n <;> exact h
    rw [Bool.and_eq_true] at h'
    obtain ⟨v, r, rfl, h1, h2⟩ := hd
    exact .cons (dp_py n d v h'.1 h1) (dp_pyL n ds r h'.2 h2)
end
def strs2 : D → D → Bool
  | .str _, .str _ => true
  | _, _ => false
/-- == where it is told -/
def eqO (d e : D) : Option Bool := if (strs2 d e || (pl 40 d && pl 40 e)) = true then some (eqD d e) else none
def neO (d e : D) : Option Bool := (eqO d e).map (!·)
theorem shaped_py {d : D} (h : pl 40 d = true) : SeqAt.shaped (py d) = true := by
  obtain ⟨h1, h2⟩ := lay_py 40 d h
  unfold SeqAt.shaped
  rw [h1, decide_eq_true (Nat.le_trans h2 (by decide))]
  rfl
theorem eqO_cases {d e : D} {k : Bool} (h : eqO d e = some k) : (∃ a b, d = .str a ∧ e = .str b ∧ k = (a == b)) ∨ (pl 40 d = true ∧ pl 40 e = true ∧ k = PyData.eqv (py d) (py e)) := by
  unfold eqO at h
  split at h
  · rename_i hc
    cases h
    rw [Bool.or_eq_true] at hc
    rcases hc with hc | hc
    · cases d <;> cases e <;> first | (cases hc; done) | exact .inl ⟨_, _, rfl, rfl, rfl⟩
    · rw [Bool.and_eq_true] at hc
      exact .inr ⟨hc.1, hc.2, (eqv_py 40 40 d e hc.1 hc.2).symm⟩
  · cases h
theorem same_dp {H H' : Hp} (s : Same H H') : (∀ {v : V} {d : PyData}, Dp K H v d → Dp K H' v d) := by
  intro v d h
  refine Dp.rec (motive_1 := fun v d _ => Dp K H' v d) (motive_2 := fun vs ds _ => DpAll K H' vs ds) .non (fun b => .bl b) (fun i => .int i) (fun x => .str x) (fun h1 _ ih => .lst ?_ ih) (fun h1 _ ih => .tup (sqT_same s h1) ih) .nil (fun _ _ i1 i2 => .cons i1 i2) h
  exact sqL_same s h1
theorem od_eq {K : PySem.W.Frag} {M : WM K} : OpD M (fun d e => (eqO d e).map fun k => R.sh (.bl k)) (fun x y H Q => rEq x y H Q ∨ rEqD K x y H Q) := fun p x y d e res Q ok hx hy hf q => by
  cases z : eqO d e with
  | none => simp only [z] at hf; cases hf
  | some k =>
    simp only [z] at hf; cases hf
    rcases eqO_cases z with ⟨a, b, rfl, rfl, rfl⟩ | ⟨h1, h2, rfl⟩
    · cases hx; cases hy
      refine .inl ⟨rfl, ?_⟩
      have e : decide (V.str ⟨a.toArray⟩ = V.str ⟨b.toArray⟩) = (a == b) := by
        by_cases h : a = b
        · subst h; simp
        · rw [beq_eq_false_iff_ne.mpr h]
          exact decide_eq_false fun q => h (str_inj.mp (V.str.inj q))
      rw [e]
      exact fin_sh ok q rfl
    · exact .inr ⟨_, _, same_dp ok.view (dp_py 40 d x h1 hx), same_dp ok.view (dp_py 40 e y h2 hy), shaped_py h1, shaped_py h2, fin_sh ok q rfl⟩
theorem od_ne {K : PySem.W.Frag} {M : WM K} : OpD M (fun d e => (neO d e).map fun k => R.sh (.bl k)) (fun x y H Q => rNe x y H Q ∨ rNeD K x y H Q) := fun p x y d e res Q ok hx hy hf q => by
  cases z : eqO d e with
  | none => simp only [neO, z] at hf; cases hf
  | some k =>
    simp only [neO, z] at hf; cases hf
    rcases eqO_cases z with ⟨a, b, rfl, rfl, rfl⟩ | ⟨h1, h2, rfl⟩
    · cases hx; cases hy
      refine .inl ⟨rfl, ?_⟩
      have e : decide (V.str ⟨a.toArray⟩ = V.str ⟨b.toArray⟩) = (a == b) := by
        by_cases h : a = b
        · subst h; simp
        · rw [beq_eq_false_iff_ne.mpr h]
          exact decide_eq_false fun q => h (str_inj.mp (V.str.inj q))
      rw [e]
      exact fin_sh ok q rfl
    · exact .inr ⟨_, _, same_dp ok.view (dp_py 40 d x h1 hx), same_dp ok.view (dp_py 40 e y h2 hy), shaped_py h1, shaped_py h2, fin_sh ok q rfl⟩
theorem or_eq {X : Cx} (hu : X.A.units + 64 < cLine) : OpR X (compareOp .Eq) (fun x y H Q => rEq x y H Q ∨ rEqD X.K x y H Q) := op_eq.or (op_eqD hu)
theorem or_ne {X : Cx} (hu : X.A.units + 64 < cLine) : OpR X (compareOp .NotEq) (fun x y H Q => rNe x y H Q ∨ rNeD X.K x y H Q) := op_ne.or (op_neD hu)
end
end VQ

/-! VqE: subscripts, slices, in, built-in functions, methods, by data. -/
namespace VQ
open PySem PySem.Spec PyProof.Rows L2
section
variable {K : PySem.W.Frag} {ad : Nat → Option Addr} {Hv : Hp}
theorem DenL.at_ {ds : List D} {vs : List V} {i : Int} {d : D} (h : DenL K ad Hv ds vs) (e : atI ds i = some d) : ∃ v, atI vs i = some v ∧ Den K ad Hv d v := by
  unfold atI at e ⊢
  rw [h.length]
  cases z : ixN ds.length i with
  | none => rw [z] at e; cases e
  | some j =>
    rw [z] at e
    obtain ⟨v, h1, h2⟩ := h.get (i := j) (d := d) e
    exact ⟨v, h1, h2⟩
/-- l[lo:hi] -/
def cutL {α : Type} (l : List α) (lo hi : Option Int) : List α := (l.drop (HT.sIx l.length 0 lo)).take (HT.sIx l.length l.length hi - HT.sIx l.length 0 lo)
theorem DenL.cut {ds : List D} {vs : List V} (h : DenL K ad Hv ds vs) (lo hi : Option Int) : DenL K ad Hv (cutL ds lo hi) (cutV vs lo hi) := by
  unfold cutL cutV
  rw [h.length]
  exact (h.drop _).take _
/-- data of bools, of ints, of texts -/
def blsD : List D → Option (List Bool)
  | [] => some []
  | .bl b :: r => (blsD r).map (b :: ·)
  | _ => none
def intsD : List D → Option (List Int)
  | [] => some []
  | .int b :: r => (intsD r).map (b :: ·)
  | _ => none
def strsD : List D → Option (List (List Nat))
  | [] => some []
  | .str b :: r => (strsD r).map (b :: ·)
  | _ => none
theorem blsD_den : ∀ {ds : List D} {vs : List V} {bs : List Bool}, blsD ds = some bs → DenL K ad Hv ds vs → vs = bs.map V.bl
  | [], _, _, e, h => by cases e; cases h; rfl
  | .bl b :: r, _, _, e, ⟨v, vs, e2, h, t⟩ => by
    cases z : blsD r with
    | none => simp [blsD, z] at e
    | some l =>
      simp [blsD, z] at e
      subst e
      cases h; cases e2
      rw [blsD_den z t]; rfl
theorem intsD_den : ∀ {ds : List D} {vs : List V} {bs : List Int}, intsD ds = some bs → DenL K ad Hv ds vs → vs = bs.map V.int
  | [], _, _, e, h => by cases e; cases h; rfl
  | .int b :: r, _, _, e, ⟨v, vs, e2, h, t⟩ => by
    cases z : intsD r with
    | none => simp [intsD, z] at e
    | some l =>
      simp [intsD, z] at e
      subst e
      cases h; cases e2
      rw [intsD_den z t]; rfl
theorem strsD_den : ∀ {ds : List D} {vs : List V} {bs : List (List Nat)}, strsD ds = some bs → DenL K ad Hv ds vs → vs = (bs.map fun l => (⟨l.toArray⟩ : Str)).map V.str
  | [], _, _, e, h => by cases e; cases h; rfl
  | .str b :: r, _, _, e, ⟨v, vs, e2, h, t⟩ => by
    cases z : strsD r with
    | none => simp [strsD, z] at e
    | some l =>
      simp [strsD, z] at e
      subst e
      cases h; cases e2
      rw [strsD_den z t]; rfl
theorem intsD_map : ∀ l : List Int, intsD (l.map D.int) = some l
  | [] => rfl
  | i :: l => by simp [intsD, intsD_map l]
theorem blsD_map : ∀ l : List Bool, blsD (l.map D.bl) = some l
  | [] => rfl
  | i :: l => by simp [blsD, blsD_map l]
theorem strsD_map : ∀ l : List (List Nat), strsD (l.map D.str) = some l
  | [] => rfl
  | i :: l => by simp [strsD, strsD_map l]
theorem den_ints : ∀ l : List Int, DenL K ad Hv (l.map D.int) (l.map V.int)
  | [] => rfl
  | _ :: l => ⟨_, _, rfl, rfl, den_ints l⟩
theorem den_strs : ∀ l : List (List Nat), DenL K ad Hv (l.map D.str) ((l.map fun l => (⟨l.toArray⟩ : Str)).map V.str)
  | [] => rfl
  | _ :: l => ⟨_, _, rfl, rfl, den_strs l⟩
end
section
variable {X : Cx} {M : WM X.K} {W : WX} {e a b : Expr} {es rest : List Expr} {pos : Pos} {ea eb : Ev M D} {er : Ev M R} {el : Ev M (List D)}
/-! ### a[i] -/
def ixD : D → D → Option D
  | .tup l, .int i => atI l i
  | .lst l, .int i => atI l i
  | .str s, .int i => if s.length ≤ big then (atI s i).map fun c => .str [c] else none
  | _, _ => none
theorem od_ix {K : PySem.W.Frag} {M : WM K} : OpD M (fun d e => (ixD d e).map R.sh) (rIx K) := fun p x y d e res Q ok hx hy hf q => by
  cases d <;> cases e <;> first | (simp [ixD] at hf; done) | skip
  · cases hx; cases hy
    simp only [ixD] at hf
    split at hf
    · rename_i s i hl
      cases z : atI s i with
      | none => rw [z] at hf; cases hf
      | some c =>
        rw [z] at hf; cases hf
        exact .inr (.inr ⟨_, _, c, rfl, rfl, by rw [str_len]; exact big_line hl, by rw [str_tl]; exact z, fin_sh ok q rfl⟩)
    · cases hf
  · rename_i l i
    cases hy
    cases z : atI l i with
    | none => simp [ixD, z] at hf
    | some c =>
      simp [ixD, z] at hf; cases hf
      obtain ⟨a, vs, rfl, h1, h2⟩ := hx
      obtain ⟨v, h3, h4⟩ := h2.at_ z
      exact .inr (.inl ⟨a, vs, _, v, rfl, rfl, sqT_H ok h1, h3, fin_sh ok q h4⟩)
  · rename_i l i
    cases hy
    cases z : atI l i with
    | none => simp [ixD, z] at hf
    | some c =>
      simp [ixD, z] at hf; cases hf
      obtain ⟨a, vs, rfl, h1, h2⟩ := hx
      obtain ⟨v, h3, h4⟩ := h2.at_ z
      exact .inl ⟨a, vs, _, v, rfl, rfl, SqL.of (ok.view _ _ h1), h3, fin_sh ok q h4⟩
theorem ev_ix (ha : PE X a (tD M X.mg W ea)) (hb : PE X b (tD M X.mg W eb)) (hs : PlainIx b := by intro _ _; rfl) : PE X (.Subscript a b pos) (tD M X.mg W (eBinD ixD ea eb)) := (pe_ix ix_seq ha hb hs).con fun σ H Q ⟨ρ, p, hH, ok, en, q⟩ => by
  subst hH
  show tD M X.mg W ea σ p.H fun x H1 => tD M X.mg W eb σ H1 fun y H2 => rIx X.K x y H2 Q
  refine tG.seq ok en q fun r1 x q1 ex1 ok1 es1 dx h1 => ?_
  rw [← es1] at h1
  refine tG.seq ok1 (en.ext ex1) (XEnds ex1 h1 fun _ h => h) fun r2 y q2 ex2 ok2 es2 dy h2 => ?_
  cases z : ixD r1.1 r2.1 with
  | none => simp only [op, z] at h2; exact h2.elim
  | some res =>
    simp only [op, z] at h2
    exact od_ix q2 x y _ _ (.sh res) Q ok2 (ex2.den dx) dy (by show Option.map R.sh (ixD r1.1 r2.1) = _; rw [z]; rfl) fun v q3 e3 ok3 es3 rk => h2 v q3 ((ex1.trans ex2).trans e3) ok3 (es3.trans es2) rk
/-! ### a[lo:hi] -/
def slD (d : D) (lo hi : Option Int) : Option R := match d with
  | .tup l => some (.sh (.tup (cutL l lo hi)))
  | .lst l => some (.fr (.lst (cutL l lo hi)))
  | .str s => if s.length ≤ big then some (.sh (.str (cutL s lo hi))) else none
  | _ => none
/-- an end of a slice -/
def tPt (W : WX) (eo : Ev M (Option Int)) : TO := fun σ H Q => ∃ (ρ : Dv) (p : Pt M), p.H = H ∧ p.Ok ∧ EnvD M p σ ρ ∧ (eo ρ p.s).all (fun r => ∀ (q : Pt M), Ext p q → q.Ok → q.s = r.2 → Q r.1 q.H) (XEnd M X.mg p W σ)
def eNoPt {K : PySem.W.Frag} {M : WM K} : Ev M (Option Int) := fun _ s => .ret (none, s)
def intOf : D → Option Int
  | .int i => some i
  | _ => none
def ePt {K : PySem.W.Frag} {M : WM K} (ea : Ev M D) : Ev M (Option Int) := fun ρ s => (ea ρ s).bind fun a => match intOf a.1 with
  | some i => .ret (some i, a.2)
  | none => .bad
def eSl {K : PySem.W.Frag} {M : WM K} (ea : Ev M D) (el eh : Ev M (Option Int)) : Ev M R := fun ρ s => (ea ρ s).bind fun a => (el ρ a.2).bind fun l => (eh ρ l.2).bind fun h => op (slD a.1 l.1 h.1) h.2
theorem _root_.L2.PO.con {X : Cx} {e : Option Expr} {t t' : TO} (h : PO X e t) (i : ∀ σ H Q, t' σ H Q → t σ H Q) : PO X e t' := ⟨fun pins s σ H Q I q => h.run pins s σ H Q I (i _ _ _ q)⟩
theorem ep_none : PO X none (tPt W (eNoPt : Ev M _)) := po_none.con fun σ H Q ⟨ρ, p, hH, ok, en, q⟩ => by
  subst hH
  exact q p (Ext.refl p) ok rfl
theorem ep_some (ha : PE X a (tD M X.mg W ea)) : PO X (some a) (tPt W (ePt ea)) := (po_some ha).con fun σ H Q ⟨ρ, p, hH, ok, en, q⟩ => by
  subst hH
  show tD M X.mg W ea σ p.H fun x H1 => ∃ i, x = .int i ∧ Q (some i) H1
  refine tG.seq ok en q fun r1 x q1 ex1 ok1 es1 dx h1 => ?_
  obtain ⟨d, s1⟩ := r1
  cases d <;> simp only [intOf] at h1 <;> first | exact h1.elim | skip
  cases dx
  exact ⟨_, rfl, h1 q1 ex1 ok1 es1⟩
theorem ev_sl {lo hi : Option Expr} {p2 : Pos} {eo eh : Ev M (Option Int)} (ha : PE X a (tD M X.mg W ea)) (hl : PO X lo (tPt W eo)) (hh : PO X hi (tPt W eh)) :
    PE X (.Subscript a (.Slice lo hi none p2) pos) (tR M X.mg W (eSl ea eo eh)) := (pe_slice (sl_list.or (sl_tupA.or sl_str)) ha hl hh).con fun σ H Q ⟨ρ, p, hH, ok, en, q⟩ => by
  subst hH
  unfold tSl
  refine tG.seq ok en q fun r1 x q1 ex1 ok1 es1 dx h1 => ?_
  rw [← es1] at h1
  refine ⟨ρ, q1, rfl, ok1, en.ext ex1, G.all_mono (fun r2 h2 q2 ex2 ok2 es2 => ?_) (fun _ h => h.ext ex1) (G.all_bind.mp h1)⟩
  rw [← es2] at h2
  refine ⟨ρ, q2, rfl, ok2, en.ext (ex1.trans ex2), G.all_mono (fun r3 h3 q3 ex3 ok3 es3 => ?_) (fun _ h => h.ext (ex1.trans ex2)) (G.all_bind.mp h2)⟩
  have e13 := (ex1.trans ex2).trans ex3
  have dx3 := (ex2.trans ex3).den dx
  cases z : slD r1.1 r2.1 r3.1 with
  | none => simp only [op, z] at h3; exact h3.elim
  | some res =>
    simp only [op, z] at h3
    have fin : ∀ v (q4 : Pt M), Ext q3 q4 → q4.Ok → q4.s = q3.s → ROk q3 q4 res v → Q v q4.H := fun v q4 e4 ok4 es4 rk => h3 v q4 (e13.trans e4) ok4 (es4.trans es3) (rk.tr e13 e4)
    cases hd : r1.1 with
    | tup l =>
      rw [hd] at dx3 z
      cases z
      obtain ⟨a, vs, rfl, h1', h2'⟩ := dx3
      refine .inr (.inl ⟨a, vs, rfl, sqT_H ok3 h1', fun hw => ?_, fun _ p hp => fin_tup ok3 fin (h2'.cut _ _) hp⟩)
      have e : cutL l r2.1 r3.1 = l := by
        unfold cutL
        rw [← h2'.length, hw.1, hw.2, List.drop_zero, Nat.sub_zero, h2'.length, List.take_length]
      rw [e] at fin
      exact fin_sh ok3 fin ⟨a, vs, rfl, h1', h2'⟩
    | lst l =>
      rw [hd] at dx3 z
      cases z
      obtain ⟨a, vs, rfl, h1', h2'⟩ := dx3
      exact .inl ⟨a, vs, rfl, SqL.of (ok3.view _ _ h1'), fun p hp => fin_lst ok3 fin (h2'.cut _ _) hp⟩
    | str l =>
      rw [hd] at dx3 z
      simp only [slD] at z
      split at z
      · rename_i hl
        cases z
        cases dx3
        refine .inr (.inr ⟨_, rfl, by rw [str_len]; exact big_line hl, ?_⟩)
        have e : cutS ⟨l.toArray⟩ r2.1 r3.1 = ⟨(cutL l r2.1 r3.1).toArray⟩ := by
          unfold cutS cutL
          rw [str_len, str_tl]
        rw [e]
        exact fin_sh ok3 fin rfl
      · cases z
    | _ => rw [hd] at z; cases z
/-! ### in -/
def scD : D → Bool
  | .non => true
  | .bl _ => true
  | .int _ => true
  | .str _ => true
  | _ => false
def inD (d : D) : D → Option Bool
  | .str z => match d with
    | .str [c] => some (decide (c ∈ z))
    | _ => none
  | .tup l => if (scD d && l.all scD) = true then some (l.any fun y => eqD y d) else if (pl 40 d && plL 39 l) = true then some (l.any fun y => eqD y d) else none
  | .lst l => if (scD d && l.all scD) = true then some (l.any fun y => eqD y d) else if (pl 40 d && plL 39 l) = true then some (l.any fun y => eqD y d) else none
  | _ => none
theorem den_sc {K : PySem.W.Frag} {ad : Nat → Option Addr} {Hv : Hp} {d : D} {v : V} (h : Den K ad Hv d v) (s : scD d = true) : flatV v = true := by
  cases d <;> first | (cases s; done) | (cases h; rfl)
theorem den_eqV {K : PySem.W.Frag} {ad : Nat → Option Addr} {Hv : Hp} {d e : D} {v w : V} (h : Den K ad Hv d v) (h' : Den K ad Hv e w) (s : scD d = true) (s' : scD e = true) : eqV v w = eqD d e := by
  cases d <;> first | (cases s; done) | skip
  all_goals (cases e <;> first | (cases s'; done) | skip)
  all_goals (cases h; cases h'; first | rfl | skip)
  rename_i a b
  show ((⟨a.toArray⟩ : Str) == ⟨b.toArray⟩) = (a == b)
  by_cases h : a = b
  · subst h; simp
  · rw [beq_eq_false_iff_ne.mpr h, beq_eq_false_iff_ne.mpr fun q => h (str_inj.mp q)]
theorem den_all {K : PySem.W.Frag} {ad : Nat → Option Addr} {Hv : Hp} : ∀ {ds : List D} {vs : List V}, DenL K ad Hv ds vs → ds.all scD = true → vs.all flatV = true
  | [], _, h, _ => by cases h; rfl
  | d :: ds, _, ⟨v, r, e, h, t⟩, s => by
    cases e
    simp only [List.all_cons, Bool.and_eq_true] at s ⊢
    exact ⟨den_sc h s.1, den_all t s.2⟩
theorem den_any {K : PySem.W.Frag} {ad : Nat → Option Addr} {Hv : Hp} {x : D} {xv : V} (hx : Den K ad Hv x xv) (sx : scD x = true) : ∀ {ds : List D} {vs : List V}, DenL K ad Hv ds vs → ds.all scD = true → inV xv vs = ds.any fun y => eqD y x
  | [], _, h, _ => by cases h; rfl
  | d :: ds, _, ⟨v, r, e, h, t⟩, s => by
    cases e
    simp only [List.all_cons, Bool.and_eq_true] at s
    have ih := den_any hx sx t s.2
    unfold inV at ih ⊢
    rw [List.any_cons, List.any_cons, den_eqV h hx s.1 sx, ih]
def rInT (K : PySem.W.Frag) (neg : Bool) : R2 := fun x y H Q => ∃ d ds, Dp K H x d ∧ Dp K H y (.tuple ds) ∧ SeqAt.shaped d = true ∧ SeqAt.shaped (.tuple ds) = true ∧ Q (.bl (if neg then !(ds.any fun z => PyData.eqv z d) else ds.any fun z => PyData.eqv z d)) H
theorem op_inDT {X : Cx} (hu : X.A.units + 65 < cLine) : OpR X (compareOp .In) (rInT X.K false) := by
  intro pins s σ H x y v u Q I rx ry h
  obtain ⟨d, ds, hd, he, sd, se, q⟩ := h
  obtain ⟨as, r1⟩ := Dp.reads I d x v hd rx
  obtain ⟨bs, r2⟩ := Dp.reads I (.tuple ds) y u he ry
  exact SeqAt.in_tuple_reads r2 r1 (SeqAt.canLay_of_shaped se) (SeqAt.canLay_of_shaped sd) (room_in_shaped sd hu) ⟨.bl _, H, I, rfl, q⟩
theorem op_notInDT {X : Cx} (hu : X.A.units + 65 < cLine) : OpR X (compareOp .NotIn) (rInT X.K true) := by
  intro pins s σ H x y v u Q I rx ry h
  obtain ⟨d, ds, hd, he, sd, se, q⟩ := h
  obtain ⟨as, r1⟩ := Dp.reads I d x v hd rx
  obtain ⟨bs, r2⟩ := Dp.reads I (.tuple ds) y u he ry
  exact SeqAt.notIn_tuple_reads r2 r1 (SeqAt.canLay_of_shaped se) (SeqAt.canLay_of_shaped sd) (room_in_shaped sd hu) ⟨.bl _, H, I, rfl, q⟩
def rInD (K : PySem.W.Frag) (neg : Bool) : R2 := fun x y H Q => (∃ (c : Nat) (z : Str), x = .str ⟨#[c]⟩ ∧ y = .str z ∧ Q (.bl (if neg then !decide (c ∈ z.cps.toList) else decide (c ∈ z.cps.toList))) H) ∨ rIn K neg x y H Q ∨
  (∃ d ds, Dp K H x d ∧ Dp K H y (.list ds) ∧ SeqAt.shaped d = true ∧ SeqAt.shaped (.list ds) = true ∧ Q (.bl (if neg then !(ds.any fun z => PyData.eqv z d) else ds.any fun z => PyData.eqv z d)) H) ∨ rInT K neg x y H Q
theorem any_py {d : D} (hd : pl 40 d = true) : ∀ {l : List D}, plL 39 l = true → (pyL l).any (fun z => PyData.eqv z (py d)) = l.any fun y => eqD y d
  | [], _ => rfl
  | y :: l, h => by
    have h' : (pl 39 y && plL 39 l) = true := h
    rw [Bool.and_eq_true] at h'
    show (PyData.eqv (py y) (py d) || (pyL l).any _) = (eqD y d || l.any _)
    rw [eqv_py 39 40 y d h'.1 hd, any_py hd h'.2]
theorem or_in (hu : X.A.units + 65 < cLine) : OpR X (compareOp .In) (rInD X.K false) := op_in_sign.or (op_in_seq.or ((op_inD hu).or (op_inDT hu)))
theorem or_notin (hu : X.A.units + 65 < cLine) : OpR X (compareOp .NotIn) (rInD X.K true) := op_notIn_sign.or (op_notIn_seq.or ((op_notInD hu).or (op_notInDT hu)))
theorem od_inN (neg : Bool) {K : PySem.W.Frag} {M : WM K} : OpD M (fun d e => ((inD d e).map fun k => if neg then !k else k).map fun k => R.sh (.bl k)) (rInD K neg) := fun p x y d e res Q ok hx hy hf q => by
  cases e <;> first | (simp [inD] at hf; done) | skip
  · rename_i z
    cases hy
    cases d <;> first | (simp [inD] at hf; done) | skip
    rename_i s
    cases s with
    | nil => simp [inD] at hf
    | cons c s =>
      cases s with
      | cons _ _ => simp [inD] at hf
      | nil =>
        simp only [inD, Option.map_some, Option.some.injEq] at hf
        subst hf
        cases hx
        exact .inl ⟨c, _, rfl, rfl, fin_sh ok q rfl⟩
  · rename_i l
    by_cases hc : (scD d && l.all scD) = true
    · simp only [inD, if_pos hc, Option.map_some, Option.some.injEq] at hf
      subst hf
      rw [Bool.and_eq_true] at hc
      obtain ⟨a, vs, rfl, h1, h2⟩ := hy
      refine .inr (.inl ⟨a, vs, rfl, .inr (sqT_H ok h1), den_sc hx hc.1, den_all h2 hc.2, ?_⟩)
      rw [den_any hx hc.1 h2 hc.2]
      exact fin_sh ok q rfl
    · by_cases hc2 : (pl 40 d && plL 39 l) = true
      · simp only [inD, if_neg hc, if_pos hc2, Option.map_some, Option.some.injEq] at hf
        subst hf
        rw [Bool.and_eq_true] at hc2
        have hl : pl 40 (.tup l) = true := hc2.2
        refine .inr (.inr (.inr ⟨py d, pyL l, same_dp ok.view (dp_py 40 d x hc2.1 hx), same_dp ok.view (dp_py 40 (.tup l) y hl hy), shaped_py hc2.1, shaped_py hl, ?_⟩))
        rw [any_py hc2.1 hc2.2]
        exact fin_sh ok q rfl
      · simp only [inD, if_neg hc, if_neg hc2, Option.map_none] at hf
        cases hf
  · rename_i l
    by_cases hc : (scD d && l.all scD) = true
    · simp only [inD, if_pos hc, Option.map_some, Option.some.injEq] at hf
      subst hf
      rw [Bool.and_eq_true] at hc
      obtain ⟨a, vs, rfl, h1, h2⟩ := hy
      refine .inr (.inl ⟨a, vs, rfl, .inl (SqL.of (ok.view _ _ h1)), den_sc hx hc.1, den_all h2 hc.2, ?_⟩)
      rw [den_any hx hc.1 h2 hc.2]
      exact fin_sh ok q rfl
    · by_cases hc2 : (pl 40 d && plL 39 l) = true
      · simp only [inD, if_neg hc, if_pos hc2, Option.map_some, Option.some.injEq] at hf
        subst hf
        rw [Bool.and_eq_true] at hc2
        have hl : pl 40 (.lst l) = true := hc2.2
        refine .inr (.inr (.inl ⟨py d, pyL l, same_dp ok.view (dp_py 40 d x hc2.1 hx), same_dp ok.view (dp_py 40 (.lst l) y hl hy), shaped_py hc2.1, shaped_py hl, ?_⟩))
        rw [any_py hc2.1 hc2.2]
        exact fin_sh ok q rfl
      · simp only [inD, if_neg hc, if_neg hc2, Option.map_none] at hf
        cases hf
theorem od_in {K : PySem.W.Frag} {M : WM K} : OpD M (fun d e => (inD d e).map fun k => R.sh (.bl k)) (rInD K false) := fun p x y d e res Q ok hx hy hf q => od_inN false p x y d e res Q ok hx hy (by
  simpa using hf) q
def ninD (d e : D) : Option Bool := (inD d e).map (!·)
theorem od_notin {K : PySem.W.Frag} {M : WM K} : OpD M (fun d e => (ninD d e).map fun k => R.sh (.bl k)) (rInD K true) := fun p x y d e res Q ok hx hy hf q => od_inN true p x y d e res Q ok hx hy (by
  simpa [ninD] using hf) q
/-! ### built-in functions -/
def lenD : List D → Option R
  | [.str s] => if s.length ≤ big then some (.sh (.int s.length)) else none
  | [.tup l] => some (.sh (.int l.length))
  | [.lst l] => some (.sh (.int l.length))
  | _ => none
theorem cd_len {K : PySem.W.Frag} {M : WM K} : CallD M lenD (fun xs H Q => ∃ x n, xs = [x] ∧ LenV K x H n ∧ Q (.int n) H) := fun p xs ds res Q ok hx hf q => by
  cases ds with
  | nil => cases hf
  | cons d r =>
    cases r with
    | cons _ _ => cases d <;> cases hf
    | nil =>
      obtain ⟨v, r, rfl, hd, hr⟩ := hx
      cases hr
      cases d <;> first | (cases hf; done) | skip
      · cases hd
        simp only [lenD] at hf
        split at hf
        · rename_i s hl
          cases hf
          exact ⟨_, s.length, rfl, ⟨by rw [str_len]; exact big_line hl, (str_len s).symm⟩, fin_sh ok q rfl⟩
        · cases hf
      · rename_i l
        cases hf
        obtain ⟨a, vs, rfl, h1, h2⟩ := hd
        exact ⟨_, l.length, rfl, .inr ⟨vs, sqT_H ok h1, h2.length.symm⟩, fin_sh ok q rfl⟩
      · rename_i l
        cases hf
        obtain ⟨a, vs, rfl, h1, h2⟩ := hd
        exact ⟨_, l.length, rfl, .inl ⟨vs, SqL.of (ok.view _ _ h1), h2.length.symm⟩, fin_sh ok q rfl⟩
def allD : List D → Option R
  | [.lst l] => (blsD l).map fun bs => .sh (.bl (bs.all id))
  | _ => none
def anyD : List D → Option R
  | [.lst l] => (blsD l).map fun bs => .sh (.bl (bs.any id))
  | _ => none
theorem one_lst {K : PySem.W.Frag} {M : WM K} {p : Pt M} {xs : List V} {ds : List D} {f : List D → Option R} {res : R} (h : DenL K p.ad p.Hv ds xs) (hf : f ds = some res) (hs : ∀ d r, f (d :: r) ≠ none → r = [] ∧ ∃ l, d = .lst l) (h0 : f [] = none) :
    ∃ a l vs, ds = [.lst l] ∧ xs = [.ref a] ∧ p.Hv a = some (.lst vs) ∧ DenL K p.ad p.Hv l vs := by
  cases ds with
  | nil => rw [h0] at hf; cases hf
  | cons d r =>
    obtain ⟨rfl, l, rfl⟩ := hs d r (by rw [hf]; simp)
    obtain ⟨v, r, rfl, ⟨a, vs, rfl, h1, h2⟩, hr⟩ := h
    cases hr
    exact ⟨a, l, vs, rfl, rfl, h1, h2⟩
theorem cd_all {K : PySem.W.Frag} {M : WM K} : CallD M allD (rAll K) := fun p xs ds res Q ok hx hf q => by
  obtain ⟨a, l, vs, rfl, rfl, h1, h2⟩ := one_lst hx hf (fun d r h => by cases d <;> cases r <;> first | exact ⟨rfl, _, rfl⟩ | exact absurd rfl h) rfl
  cases z : blsD l with
  | none => simp only [allD, z] at hf; cases hf
  | some bs =>
    simp only [allD, z] at hf; cases hf
    refine ⟨a, bs, rfl, ?_, fin_sh ok q rfl⟩
    rw [← blsD_den z h2]
    exact SqL.of (ok.view _ _ h1)
theorem cd_any {K : PySem.W.Frag} {M : WM K} : CallD M anyD (rAny K) := fun p xs ds res Q ok hx hf q => by
  obtain ⟨a, l, vs, rfl, rfl, h1, h2⟩ := one_lst hx hf (fun d r h => by cases d <;> cases r <;> first | exact ⟨rfl, _, rfl⟩ | exact absurd rfl h) rfl
  cases z : blsD l with
  | none => simp only [anyD, z] at hf; cases hf
  | some bs =>
    simp only [anyD, z] at hf; cases hf
    refine ⟨a, bs, rfl, ?_, fin_sh ok q rfl⟩
    rw [← blsD_den z h2]
    exact SqL.of (ok.view _ _ h1)
def sumD : List D → Option R
  | [.lst l] => (intsD l).map fun ns => .sh (.int ns.sum)
  | _ => none
theorem cd_sum {K : PySem.W.Frag} {M : WM K} : CallD M sumD (rSum K) := fun p xs ds res Q ok hx hf q => by
  obtain ⟨a, l, vs, rfl, rfl, h1, h2⟩ := one_lst hx hf (fun d r h => by cases d <;> cases r <;> first | exact ⟨rfl, _, rfl⟩ | exact absurd rfl h) rfl
  cases z : intsD l with
  | none => simp only [sumD, z] at hf; cases hf
  | some bs =>
    simp only [sumD, z] at hf; cases hf
    refine ⟨a, bs, rfl, ?_, fin_sh ok q rfl⟩
    rw [← intsD_den z h2]
    exact SqL.of (ok.view _ _ h1)
def listD : List D → Option R
  | [.lst l] => some (.fr (.lst l))
  | [.tup l] => some (.fr (.lst l))
  | _ => none
def tupleD : List D → Option R
  | [.lst l] => some (.sh (.tup l))
  | [.tup l] => some (.sh (.tup l))
  | _ => none
theorem one_seq {K : PySem.W.Frag} {M : WM K} {p : Pt M} {xs : List V} {ds : List D} {f : List D → Option R} {res : R} (h : DenL K p.ad p.Hv ds xs) (hf : f ds = some res) (hs : ∀ d r, f (d :: r) ≠ none → r = [] ∧ ∃ l, d = .lst l ∨ d = .tup l) (h0 : f [] = none) :
    ∃ a l vs, xs = [.ref a] ∧ ((ds = [.lst l] ∧ p.Hv a = some (.lst vs)) ∨ (ds = [.tup l] ∧ SqT K p.Hv a vs)) ∧ DenL K p.ad p.Hv l vs := by
  cases ds with
  | nil => rw [h0] at hf; cases hf
  | cons d r =>
    obtain ⟨rfl, l, rfl | rfl⟩ := hs d r (by rw [hf]; simp)
    · obtain ⟨v, r, rfl, ⟨a, vs, rfl, h1, h2⟩, hr⟩ := h
      cases hr
      exact ⟨a, l, vs, rfl, .inl ⟨rfl, h1⟩, h2⟩
    · obtain ⟨v, r, rfl, ⟨a, vs, rfl, h1, h2⟩, hr⟩ := h
      cases hr
      exact ⟨a, l, vs, rfl, .inr ⟨rfl, h1⟩, h2⟩
theorem cd_list {K : PySem.W.Frag} {M : WM K} : CallD M listD (fun xs H Q => ∃ p ys, xs = [.ref p] ∧ (SqL K H p ys ∨ SqT K H p ys) ∧ ∀ l, H l = none → Q (.ref l) (upd H l (.lst ys))) := fun p xs ds res Q ok hx hf q => by
  obtain ⟨a, l, vs, rfl, ⟨rfl, h1⟩ | ⟨rfl, h1⟩, h2⟩ := one_seq hx hf (fun d r h => by cases d <;> cases r <;> first | exact ⟨rfl, _, .inl rfl⟩ | exact ⟨rfl, _, .inr rfl⟩ | exact absurd rfl h) rfl
  · cases hf
    exact ⟨a, vs, rfl, .inl (SqL.of (ok.view _ _ h1)), fun l hl => fin_lst ok q h2 hl⟩
  · cases hf
    exact ⟨a, vs, rfl, .inr (sqT_H ok h1), fun l hl => fin_lst ok q h2 hl⟩
theorem cd_tuple {K : PySem.W.Frag} {M : WM K} : CallD M tupleD (fun xs H Q => ∃ p ys, xs = [.ref p] ∧ ((SqL K H p ys ∧ ∀ l, H l = none → Q (.ref l) (upd H l (.tup ys))) ∨ (SqT K H p ys ∧ Q (.ref p) H))) := fun p xs ds res Q ok hx hf q => by
  obtain ⟨a, l, vs, rfl, ⟨rfl, h1⟩ | ⟨rfl, h1⟩, h2⟩ := one_seq hx hf (fun d r h => by cases d <;> cases r <;> first | exact ⟨rfl, _, .inl rfl⟩ | exact ⟨rfl, _, .inr rfl⟩ | exact absurd rfl h) rfl
  · cases hf
    exact ⟨a, vs, rfl, .inl ⟨SqL.of (ok.view _ _ h1), fun l hl => fin_tup ok q h2 hl⟩⟩
  · cases hf
    exact ⟨a, vs, rfl, .inr ⟨sqT_H ok h1, fin_sh ok q ⟨a, vs, rfl, h1, h2⟩⟩⟩
/-- the figures of a number -/
def figD (i : Int) : List Nat := (Str.ofString (toString i)).cps.toList
def strD : List D → Option R
  | [.int i] => if i.natAbs.log2 < 1920 then some (.sh (.str (figD i))) else none
  | [.str s] => some (.sh (.str s))
  | _ => none
end
end VQ

/-! VqF: isinstance, methods of texts, str and int, products of sequences. -/
namespace VQ
open PySem PySem.Spec PyProof.Rows L2
inductive Ty where
  | int | str | bool | list | tuple | dict
  deriving DecidableEq
def Ty.nm : Ty → String
  | .int => "int"
  | .str => "str"
  | .bool => "bool"
  | .list => "list"
  | .tuple => "tuple"
  | .dict => "dict"
/-- isinstance by data -/
def isT : D → Ty → Option Bool
  | .obj _, _ => none
  | .ty _, _ => none
  | .int _, .int => some true
  | .bl _, .int => some true
  | .bl _, .bool => some true
  | .str _, .str => some true
  | .lst _, .list => some true
  | .tup _, .tuple => some true
  | .dk _, .dict => some true
  | .dt _, .dict => some true
  | _, _ => some false
def isTs (d : D) : List Ty → Option Bool
  | [] => some false
  | t :: ts => match isT d t with
    | some true => some true
    | some false => isTs d ts
    | none => none
def tyS : D → String
  | .non => "NoneType"
  | .bl _ => "bool"
  | .int _ => "int"
  | .str _ => "str"
  | .tup _ => "tuple"
  | .lst _ => "list"
  | _ => "dict"
theorem kit_non (t : Ty) : kitB "NoneType" t.nm = some false := by cases t <;> decide +kernel
theorem kit_bl (t : Ty) : kitB "bool" t.nm = some (t == .int || t == .bool) := by cases t <;> decide +kernel
theorem kit_int (t : Ty) : kitB "int" t.nm = some (t == .int) := by cases t <;> decide +kernel
theorem kit_str (t : Ty) : kitB "str" t.nm = some (t == .str) := by cases t <;> decide +kernel
theorem kit_tup (t : Ty) : kitB "tuple" t.nm = some (t == .tuple) := by cases t <;> decide +kernel
theorem kit_lst (t : Ty) : kitB "list" t.nm = some (t == .list) := by cases t <;> decide +kernel
theorem kit_dct (t : Ty) : kitB "dict" t.nm = some (t == .dict) := by cases t <;> decide +kernel
theorem isT_kit {K : PySem.W.Frag} {d : D} {t : Ty} {b : Bool} (h : isT d t = some b) : PySem.W.kitOne K (.type (tyS d)) (.type t.nm) = some b := by
  refine kit_ty ?_
  cases d with
  | non => refine (kit_non t).trans ?_; rw [← h]; cases t <;> rfl
  | bl _ => refine (kit_bl t).trans ?_; rw [← h]; cases t <;> rfl
  | int _ => refine (kit_int t).trans ?_; rw [← h]; cases t <;> rfl
  | str _ => refine (kit_str t).trans ?_; rw [← h]; cases t <;> rfl
  | tup _ => refine (kit_tup t).trans ?_; rw [← h]; cases t <;> rfl
  | lst _ => refine (kit_lst t).trans ?_; rw [← h]; cases t <;> rfl
  | dk _ => refine (kit_dct t).trans ?_; rw [← h]; cases t <;> rfl
  | dt _ => refine (kit_dct t).trans ?_; rw [← h]; cases t <;> rfl
  | obj n => cases t <;> cases h
  | ty n => cases t <;> cases h
theorem isTs_kit {K : PySem.W.Frag} {d : D} : ∀ {ts : List Ty} {b : Bool}, isTs d ts = some b → PySem.W.kitAny K (.type (tyS d)) (ts.map fun t => .type t.nm) = some b
  | [], b, h => by cases h; exact kitAny_nil
  | t :: ts, b, h => by
    cases z : isT d t with
    | none => simp only [isTs, z] at h; cases h
    | some c =>
      cases c with
      | true =>
        simp only [isTs, z] at h; cases h
        exact kitAny_cons (r := true) (isT_kit z) (fun q => by cases q) fun _ => rfl
      | false =>
        simp only [isTs, z] at h
        exact kitAny_cons (isT_kit z) (fun _ => isTs_kit h) fun q => by cases q
theorem tyx_den {K : PySem.W.Frag} {M : WM K} {p : Pt M} (ok : p.Ok) {d : D} {x : V} {t : Ty} {b : Bool} (h : Den K p.ad p.Hv d x) (hb : isT d t = some b) : TyX K p.H x (.type (tyS d)) := by
  cases d with
  | non => cases h; exact .base .non
  | bl b => cases h; exact .base (.bl b)
  | int b => cases h; exact .base (.int b)
  | str b => cases h; exact .base (.str _)
  | tup l =>
    obtain ⟨a, vs, rfl, h1, _⟩ := h
    rcases sqT_H ok h1 with (h | ⟨o, h⟩) | ⟨o, its, n, h, hc, _⟩
    · exact .base (.tup h)
    · exact .fTuple h
    · exact .kTuple h hc
  | lst l =>
    obtain ⟨a, vs, rfl, h1, _⟩ := h
    exact .base (.lst (ok.view _ _ h1))
  | dk l =>
    obtain ⟨a, vs, rfl, h1, _⟩ := h
    exact .base (.dK (ok.view _ _ h1))
  | dt l =>
    obtain ⟨a, vs, rfl, h1, _⟩ := h
    exact .base (.dT (ok.view _ _ h1))
  | obj n => cases t <;> cases hb
  | ty n => cases t <;> cases hb
section
variable {X : Cx} {M : WM X.K} {W : WX} {e a b : Expr} {es rest : List Expr} {pos : Pos} {ea eb : Ev M D} {er : Ev M R} {el : Ev M (List D)}
/-- isinstance(a, T) -/
theorem ev_isi (t : Ty) {x y : Str} {pp p2 : Pos} (ha : PE X a (tD M X.mg W ea)) (hx : x = "isinstance") (hy : y = (t.nm : Str)) (hm : X.mg x = none) (hm2 : X.mg y = none) (hg : Gl X x := by rfl) (hg2 : Gl X y := by rfl)
    (he : starEach [a, .Name y p2] X.env = (false, eval a X.env) :: starEach [.Name y p2] X.env := by rfl) :
    PE X (.Call (.Name x pp) [a, .Name y p2] [] pos) (tD M X.mg W (eUn (fun d => (isT d t).map .bl) ea)) := by
  subst hx
  have bT : bootBuiltins y = some (.type t.nm) := by subst hy; cases t <;> first | rfl | decide +kernel
  have d1 : y ≠ "__name__" := by subst hy; cases t <;> decide +kernel
  have d2 : (y == ("__debug__" : Str)) = false := by subst hy; cases t <;> decide +kernel
  refine (pe_callB call_isi hg hm (by first | rfl | decide +kernel) (pa_cons ha (pa_cons (pe_bltn hg2 hm2 bT (show RelV (.ty t.nm) (.type t.nm) from rfl) d1 d2) pa_nil (by rfl)) he) (by decide) (by decide) he (by rfl)).con fun σ H Q ⟨ρ, p, hH, ok, en, q⟩ => ?_
  subst hH
  show tD M X.mg W ea σ p.H fun x H1 => rIsi X.K [x, .ty t.nm] H1 Q
  refine tG.seq ok en q fun r1 x q1 ex1 ok1 es1 dx h1 => ?_
  cases z : isT r1.1 t with
  | none => simp only [op, z, Option.map_none] at h1; exact h1.elim
  | some k =>
    simp only [op, z, Option.map_some] at h1
    exact ⟨x, .ty t.nm, .type (tyS r1.1), .type t.nm, k, rfl, .ty _, tyx_den ok1 dx z, isT_kit z, h1 _ q1 ex1 ok1 es1 rfl⟩
/-- the names of types -/
theorem ea_ty (t : Ty) {ts : List Ty} {y : Str} {p2 : Pos} (hr : PA X es (fun σ H Q => Q (ts.map fun t => V.ty t.nm) H)) (hy : y = (t.nm : Str)) (hm2 : X.mg y = none) (hg2 : Gl X y := by rfl) (he : starEach (.Name y p2 :: es) X.env = (false, eval (.Name y p2) X.env) :: starEach es X.env := by rfl) :
    PA X (.Name y p2 :: es) (fun σ H Q => Q ((t :: ts).map fun t => V.ty t.nm) H) := by
  have bT : bootBuiltins y = some (.type t.nm) := by subst hy; cases t <;> first | rfl | decide +kernel
  have d1 : y ≠ "__name__" := by subst hy; cases t <;> decide +kernel
  have d2 : (y == ("__debug__" : Str)) = false := by subst hy; cases t <;> decide +kernel
  exact pa_cons (pe_bltn hg2 hm2 bT (show RelV (.ty t.nm) (.type t.nm) from rfl) d1 d2) hr he
theorem ea_ty0 : PA X [] (fun σ H Q => Q (([] : List Ty).map fun t => V.ty t.nm) H) := pa_nil
theorem isTs_some {d : D} {t : Ty} {ts : List Ty} {b : Bool} (h : isTs d (t :: ts) = some b) : ∃ c, isT d t = some c := by
  cases z : isT d t with
  | none => simp only [isTs, z] at h; cases h
  | some c => exact ⟨c, rfl⟩
/-- isinstance(a, (T1, T2, ..)) -/
theorem ev_isiT (t : Ty) (ts : List Ty) {x : Str} {pp p2 : Pos} {k2 : Nat} {ys : List Expr} (ha : PE X a (tD M X.mg W ea)) (hx : x = "isinstance") (hy : PA X ys (fun σ H Q => Q ((t :: ts).map fun t => V.ty t.nm) H)) (hm : X.mg x = none) (hg : Gl X x := by rfl)
    (hl : (t :: ts).length ≤ big := by decide) (he : starEach [a, .Tuple ys k2 p2] X.env = (false, eval a X.env) :: starEach [.Tuple ys k2 p2] X.env := by rfl) :
    PE X (.Call (.Name x pp) [a, .Tuple ys k2 p2] [] pos) (tD M X.mg W (eUn (fun d => (isTs d (t :: ts)).map .bl) ea)) := by
  subst hx
  refine (pe_callB call_isiT hg hm (by first | rfl | decide +kernel) (pa_cons ha (pa_cons (pe_tup hy) pa_nil (by rfl)) he) (by decide) (by decide) he (by rfl)).con fun σ H Q ⟨ρ, p, hH, ok, en, q⟩ => ?_
  subst hH
  show tD M X.mg W ea σ p.H fun x H1 => ((t :: ts).map fun t => V.ty t.nm).length ≤ sizeLine ∧ ∀ p, H1 p = none → rIsiT X.K [x, .ref p] (upd H1 p (.tup ((t :: ts).map fun t => V.ty t.nm))) Q
  refine tG.seq ok en q fun r1 x q1 ex1 ok1 es1 dx h1 => ⟨by rw [List.length_map]; exact big_line hl, fun a ha => ?_⟩
  cases z : isTs r1.1 (t :: ts) with
  | none => simp only [op, z, Option.map_none] at h1; exact h1.elim
  | some k =>
    simp only [op, z, Option.map_some] at h1
    obtain ⟨c, zc⟩ := isTs_some z
    refine ⟨x, a, _, .type (tyS r1.1), (t :: ts).map fun t => .type t.nm, k, rfl, upd_same, ?_, tyx_den (ok_lay ok1 ha) ((ext_lay ok1 ha).den dx) zc, isTs_kit z, h1 _ (q1.lay a _) (ex1.trans (ext_lay ok1 ha)) (ok_lay ok1 ha) es1 rfl⟩
    have all : ∀ l : List Ty, Paired ClsV (l.map fun t => V.ty t.nm) (l.map fun t => Value.type t.nm) := fun l => by
      induction l with
      | nil => exact .nil
      | cons t l ih => exact .cons (.ty _) ih
    exact all _
/-! ### methods of texts -/
/-- a method of a text with one argument -/
def MtD {K : PySem.W.Frag} (M : WM K) (f : D → D → Option R) (r : V → List V → Hp → VK → Prop) : Prop := ∀ (p : Pt M) (x y : V) (d e : D) (res : R) (Q : VK), p.Ok → Den K p.ad p.Hv d x → Den K p.ad p.Hv e y → f d e = some res →
  (∀ v (q : Pt M), Ext p q → q.Ok → q.s = p.s → ROk p q res v → Q v q.H) → (∃ a, x = .str a) ∧ r x [y] p.H Q
theorem ev_m1 {id : String} {name : Str} {apos : Pos} {r : V → List V → Hp → VK → Prop} {f : D → D → Option R} (slot : Slot "str" name id) (ty : typeOf (.builtin id) = pure (.type "method_descriptor")) (rule : MtR X id r) (hf : MtD M f r) (ho : PE X a (tD M X.mg W ea)) (he : PE X b (tD M X.mg W eb))
    (hstr : ∀ d e, f d e ≠ none → ∃ s, d = .str s) (hs : starEach [b] X.env = [(false, eval b X.env)] := by rfl) (hbase : attributeBase a name X.env (eval a X.env) = eval a X.env := by rfl) (hline : (apos.endLine == pos.line) = true := by rfl) :
    PE X (.Call (.Attribute a name apos) [b] [] pos) (tR M X.mg W (fun ρ s => (ea ρ s).bind fun x => match x.1 with
      | .str z => (eb ρ x.2).bind fun y => op (f (.str z) y.1) y.2
      | _ => .bad)) := (pe_m1 slot ty rule ho he hs hbase hline).con fun σ H Q ⟨ρ, p, hH, ok, en, q⟩ => by
  subst hH
  show tD M X.mg W ea σ p.H fun x H1 => (∃ a, x = .str a) ∧ tD M X.mg W eb σ H1 fun y H2 => r x [y] H2 Q
  refine tG.seq ok en q fun r1 x q1 ex1 ok1 es1 dx h1 => ?_
  obtain ⟨d, s1⟩ := r1
  cases d <;> first | exact h1.elim | skip
  rename_i z
  have ex : x = .str ⟨z.toArray⟩ := dx
  refine ⟨⟨_, ex⟩, ?_⟩
  have h1' : ((eb ρ s1).bind _).all _ (XEnd M X.mg p W σ) := h1
  rw [← show q1.s = s1 from es1] at h1'
  refine tG.seq ok1 (en.ext ex1) (XEnds ex1 h1' fun _ h => h) fun r2 y q2 ex2 ok2 es2 dy h2 => ?_
  cases z2 : f (.str z) r2.1 with
  | none => simp only [op, z2] at h2; exact h2.elim
  | some res =>
    simp only [op, z2] at h2
    exact (hf q2 x y _ _ res Q ok2 (ex2.den dx) dy z2 fun v q3 e3 ok3 es3 rk => h2 v q3 ((ex1.trans ex2).trans e3) ok3 (es3.trans es2) (rk.tr (ex1.trans ex2) e3)).2
/-- sep.join(list of texts) -/
abbrev joinN : List Nat → List (List Nat) → List Nat := TL.joinL
theorem join_str (sep : List Nat) (l : List (List Nat)) : Txt.join ⟨sep.toArray⟩ (l.map fun l => (⟨l.toArray⟩ : Str)) = ⟨(joinN sep l).toArray⟩ := by
  have h := TL.tl_join ⟨sep.toArray⟩ (l.map fun l => (⟨l.toArray⟩ : Str))
  have e : (l.map fun l => (⟨l.toArray⟩ : Str)).map TL.tl = l := by
    rw [List.map_map]
    conv => rhs; rw [← List.map_id l]
    exact List.map_congr_left fun a _ => rfl
  rw [e] at h
  rw [← TL.join_eq] at h
  have h' : (Txt.join ⟨sep.toArray⟩ (l.map fun l => (⟨l.toArray⟩ : Str))).cps.toList = joinN sep l := h
  rw [← h']
def joinD : D → D → Option R
  | .str s, .lst l => (strsD l).bind fun ys => if (ys.map List.length).sum + ys.length * s.length ≤ big then some (.sh (.str (joinN s ys))) else none
  | _, _ => none
theorem sum_len (l : List (List Nat)) : ((l.map fun l => (⟨l.toArray⟩ : Str)).map (·.length)).sum = (l.map List.length).sum := by
  congr 1
  rw [List.map_map]
  exact List.map_congr_left fun a _ => str_len a
theorem md_join {K : PySem.W.Frag} {M : WM K} : MtD M joinD (fun x xs H Q => ∃ a p, ∃ ys : List Str, x = .str a ∧ xs = [.ref p] ∧ (SqL K H p (ys.map V.str) ∨ SqT K H p (ys.map V.str)) ∧ (ys.map (·.length)).sum + ys.length * a.length ≤ 16777216 ∧ Q (.str (Txt.join a ys)) H) := fun p x y d e res Q ok hx hy hf q => by
  cases d <;> cases e <;> first | (cases hf; done) | skip
  rename_i s l
  cases z : strsD l with
  | none => simp [joinD, z] at hf
  | some ys =>
    simp only [joinD, z, Option.bind_some] at hf
    split at hf
    · rename_i hl
      cases hf
      cases hx
      obtain ⟨a, vs, rfl, h1, h2⟩ := hy
      refine ⟨⟨_, rfl⟩, _, a, ys.map fun l => (⟨l.toArray⟩ : Str), rfl, rfl, .inl ?_, ?_, ?_⟩
      · rw [← strsD_den z h2]; exact SqL.of (ok.view _ _ h1)
      · rw [sum_len, List.length_map, str_len]; exact Nat.le_trans hl (by decide)
      · rw [join_str]; exact fin_sh ok q rfl
    · cases hf
/-- s.startswith(t) -/
def startsD : D → D → Option R
  | .str s, .str t => some (.sh (.bl (s.take t.length == t)))
  | _, _ => none
theorem starts_str (s t : List Nat) : Txt.startswith ⟨s.toArray⟩ ⟨t.toArray⟩ = (s.take t.length == t) := by
  unfold Txt.startswith
  rw [PySem.StrLaws.subAt_eq, str_len, str_len, str_tl, List.drop_zero]
  cases h : (s.take t.length == t) with
  | false => simp [h]
  | true =>
    have e : s.take t.length = t := by simpa using h
    have : t.length ≤ s.length := by
      have := congrArg List.length e
      rw [List.length_take] at this
      omega
    simp [this, e]
theorem md_starts {K : PySem.W.Frag} {M : WM K} : MtD M startsD (fun x xs H Q => ∃ a b, x = .str a ∧ xs = [.str b] ∧ Q (.bl (Txt.startswith a b)) H) := fun p x y d e res Q ok hx hy hf q => by
  cases d <;> cases e <;> first | (cases hf; done) | skip
  cases hf; cases hx; cases hy
  refine ⟨⟨_, rfl⟩, _, _, rfl, rfl, ?_⟩
  rw [starts_str]
  exact fin_sh ok q rfl
theorem ev_starts {apos : Pos} (ho : PE X a (tD M X.mg W ea)) (he : PE X b (tD M X.mg W eb))
    (hs : starEach [b] X.env = [(false, eval b X.env)] := by rfl) (hbase : attributeBase a "startswith" X.env (eval a X.env) = eval a X.env := by rfl) (hline : (apos.endLine == pos.line) = true := by rfl) :
    PE X (.Call (.Attribute a "startswith" apos) [b] [] pos) (tR M X.mg W (fun ρ s => (ea ρ s).bind fun x => match x.1 with
      | .str z => (eb ρ x.2).bind fun y => op (startsD (.str z) y.1) y.2
      | _ => .bad)) := ev_m1 F.slot_str_startswith F.type_str_startswith mt_startswith md_starts ho he (fun d e h => by cases d <;> first | exact absurd rfl h | exact ⟨_, rfl⟩) hs hbase hline
theorem ev_join {apos : Pos} (ho : PE X a (tD M X.mg W ea)) (he : PE X b (tD M X.mg W eb))
    (hs : starEach [b] X.env = [(false, eval b X.env)] := by rfl) (hbase : attributeBase a "join" X.env (eval a X.env) = eval a X.env := by rfl) (hline : (apos.endLine == pos.line) = true := by rfl) :
    PE X (.Call (.Attribute a "join" apos) [b] [] pos) (tR M X.mg W (fun ρ s => (ea ρ s).bind fun x => match x.1 with
      | .str z => (eb ρ x.2).bind fun y => op (joinD (.str z) y.1) y.2
      | _ => .bad)) := ev_m1 F.slot_str_join F.type_str_join mt_join md_join ho he (fun d e h => by cases d <;> first | exact absurd rfl h | exact ⟨_, rfl⟩) hs hbase hline
/-! ### str(i) -/
theorem cd_str {K : PySem.W.Frag} {M : WM K} : CallD M strD (fun xs H Q => (∃ i, xs = [.int i] ∧ i.natAbs.log2 < 1920 ∧ Q (.str (toString i)) H) ∨ ∃ a, xs = [.str a] ∧ Q (.str a) H) := fun p xs ds res Q ok hx hf q => by
  cases ds with
  | nil => cases hf
  | cons d r =>
    cases r with
    | cons _ _ => cases d <;> cases hf
    | nil =>
      obtain ⟨v, r, rfl, hd, hr⟩ := hx
      cases hr
      cases d <;> first | (cases hf; done) | skip
      · cases hd
        simp only [strD] at hf
        split at hf
        · rename_i i hl
          cases hf
          refine .inl ⟨i, rfl, hl, fin_sh ok q ?_⟩
          show V.str _ = V.str _
          unfold figD
          rfl
        · cases hf
      · cases hd
        cases hf
        exact .inr ⟨_, rfl, fin_sh ok q rfl⟩
end
end VQ

/-! VqG: statements over plain data: the frame's own lists apart. -/
namespace VQ
open PySem PySem.Spec PyProof.Rows L2

/-- what a name holds: seen data; or a list (a dict) that this frame alone holds -/
inductive VV where
  | sh (d : D) | ow (d : D)
def VV.d : VV → D
  | .sh d => d
  | .ow d => d
abbrev Nv := List (Option VV)
/-- the data of the names; of the frame's own lists those at m alone -/
def view1 (m : List Nat) (i : Nat) : Option VV → Option D
  | some (.sh d) => some d
  | some (.ow d) => if m.contains i then some d else none
  | none => none
def viewG (m : List Nat) : Nat → Nv → Dv
  | _, [] => []
  | i, o :: r => view1 m i o :: viewG m (i + 1) r
def view (m : List Nat) (ρ : Nv) : Dv := viewG m 0 ρ
theorem viewG_get (m : List Nat) : ∀ (ρ : Nv) (j i : Nat), (viewG m j ρ)[i]? = (ρ[i]?).map (view1 m (j + i))
  | [], j, i => by simp [viewG]
  | o :: r, j, 0 => by simp [viewG]
  | o :: r, j, i + 1 => by
    simp only [viewG, List.getElem?_cons_succ]
    rw [viewG_get m r (j + 1) i]
    congr 2
    omega
theorem view_get (m : List Nat) (ρ : Nv) (i : Nat) : (view m ρ)[i]? = (ρ[i]?).map (view1 m i) := by
  unfold view; rw [viewG_get, Nat.zero_add]
/-- the own lists at m are seen from now on -/
def frz1 (m : List Nat) (i : Nat) : Option VV → Option VV
  | some (.ow d) => if m.contains i then some (.sh d) else some (.ow d)
  | o => o
def frzG (m : List Nat) : Nat → Nv → Nv
  | _, [] => []
  | i, o :: r => frz1 m i o :: frzG m (i + 1) r
def frz (m : List Nat) (ρ : Nv) : Nv := frzG m 0 ρ
theorem frzG_get (m : List Nat) : ∀ (ρ : Nv) (j i : Nat), (frzG m j ρ)[i]? = (ρ[i]?).map (frz1 m (j + i))
  | [], j, i => by simp [frzG]
  | o :: r, j, 0 => by simp [frzG]
  | o :: r, j, i + 1 => by
    simp only [frzG, List.getElem?_cons_succ]
    rw [frzG_get m r (j + 1) i]
    congr 2
    omega
theorem frz_get (m : List Nat) (ρ : Nv) (i : Nat) : (frz m ρ)[i]? = (ρ[i]?).map (frz1 m i) := by
  unfold frz; rw [frzG_get, Nat.zero_add]
theorem frzG_len (m : List Nat) : ∀ (ρ : Nv) (j : Nat), (frzG m j ρ).length = ρ.length
  | [], _ => rfl
  | _ :: r, j => by simp [frzG, frzG_len m r (j + 1)]
theorem frz_len (m : List Nat) (ρ : Nv) : (frz m ρ).length = ρ.length := frzG_len m ρ 0
def flatR : R → Bool
  | .sh d => flat d
  | .fr (.lst l) => flatL l
  | .fr _ => false

section
variable {K : PySem.W.Frag} {M : WM K} {mg : Str → Option Value}
open Classical
theorem newOld {p q : Pt M} (e : Ext p q) {a : Addr} (ha : q.H a = none) : p.H a = none ∨ p.F a := by
  cases z : p.H a with
  | none => exact .inl rfl
  | some u =>
    refine .inr (Classical.byContradiction fun n => ?_)
    rw [e.frame a u z n] at ha; cases ha
/-- where the frame stands: entered at en -/
structure Rel (en : Pt M) (ρ : Nv) (σ : Sl) (p : Pt M) : Prop where
  ok : p.Ok
  ext : Ext en p
  len : σ.length = ρ.length
  sh : ∀ (i : Nat) d, ρ[i]? = some (some (.sh d)) → ∃ v, σ[i]? = some (some v) ∧ Den K p.ad p.Hv d v
  ow : ∀ (i : Nat) d, ρ[i]? = some (some (.ow d)) → ∃ a o, σ[i]? = some (some (.ref a)) ∧ p.H a = some o ∧ p.Hv a = none ∧ ¬ p.F a ∧ (en.H a = none ∨ en.F a) ∧ HoDen K p.ad p.Hv o d
  dis : ∀ (i j : Nat) d d' a, i ≠ j → ρ[i]? = some (some (.ow d)) → ρ[j]? = some (some (.ow d')) → σ[i]? = some (some (.ref a)) → σ[j]? ≠ some (some (.ref a))
/-- a is the own list of a name at m -/
def OwnAt (ρ : Nv) (σ : Sl) (m : List Nat) (a : Addr) : Prop := ∃ (i : Nat) (d : D), i ∈ m ∧ ρ[i]? = some (some (.ow d)) ∧ σ[i]? = some (some (.ref a))
/-- the point from which an expression that speaks of the names at m is told -/
noncomputable def Pt.opn (p : Pt M) (ρ : Nv) (σ : Sl) (m : List Nat) : Pt M := ⟨p.s, p.F, fun b => if OwnAt ρ σ m b then p.H b else p.Hv b, p.H, p.ad⟩
noncomputable def Pt.cls (q : Pt M) (ρ : Nv) (σ : Sl) (m : List Nat) : Pt M := ⟨q.s, q.F, fun b => if OwnAt ρ σ m b then none else q.Hv b, q.H, q.ad⟩
section
variable {en p q : Pt M} {ρ : Nv} {σ : Sl} {m : List Nat} {r : R} {v : V}
theorem Rel.at_ (h : Rel en ρ σ p) {a : Addr} (o : OwnAt ρ σ m a) : ∃ d u, p.H a = some u ∧ p.Hv a = none ∧ ¬ p.F a ∧ (en.H a = none ∨ en.F a) ∧ HoDen K p.ad p.Hv u d := by
  obtain ⟨i, d, _, h1, h2⟩ := o
  obtain ⟨a', u, e, h3⟩ := h.ow i d h1
  rw [h2] at e; cases e
  exact ⟨d, u, h3⟩
theorem opn_same (h : Rel en ρ σ p) : Same p.Hv (p.opn ρ σ m).Hv := fun b o e => by
  show (if OwnAt ρ σ m b then p.H b else p.Hv b) = some o
  split
  · exact h.ok.view _ _ e
  · exact e
theorem opn_ok (h : Rel en ρ σ p) : (p.opn ρ σ m).Ok where
  view := fun b o e => by
    have e' : (if OwnAt ρ σ m b then p.H b else p.Hv b) = some o := e
    split at e'
    · exact e'
    · exact h.ok.view _ _ e'
  off := fun b f => by
    show (if OwnAt ρ σ m b then p.H b else p.Hv b) = none
    split
    · rename_i o
      obtain ⟨_, _, _, _, nf, _⟩ := h.at_ o
      exact absurd f nf
    · exact h.ok.off b f
  rep := M.stay h.ok.rep (opn_same h) fun _ _ _ e => e
theorem viewG_len (m : List Nat) : ∀ (ρ : Nv) (j : Nat), (viewG m j ρ).length = ρ.length
  | [], _ => rfl
  | _ :: r, j => by simp [viewG, viewG_len m r (j + 1)]
theorem opn_env (h : Rel en ρ σ p) : EnvD M (p.opn ρ σ m) σ (view m ρ) := ⟨by rw [h.len]; exact (viewG_len m ρ 0).symm, fun i d e => by
  rw [view_get] at e
  cases z : ρ[i]? with
  | none => rw [z] at e; cases e
  | some o =>
    rw [z] at e
    cases o with
    | none => simp [view1] at e
    | some vv =>
      cases vv with
      | sh d' =>
        simp only [Option.map_some, view1, Option.some.injEq] at e
        subst e
        obtain ⟨v, h1, h2⟩ := h.sh i d' z
        exact ⟨v, h1, h2.mono (opn_same h) fun _ _ q => q⟩
      | ow d' =>
        simp only [Option.map_some, view1] at e
        split at e
        · rename_i hm
          simp only [Option.some.injEq] at e
          subst e
          obtain ⟨a, u, h1, h2, h3, h4, h5, h6⟩ := h.ow i d' z
          refine ⟨.ref a, h1, (h6.mono (opn_same h) fun _ _ q => q).den ?_⟩
          show (if OwnAt ρ σ m a then p.H a else p.Hv a) = some u
          rw [if_pos ⟨i, d', by simpa using hm, z, h1⟩]; exact h2
        · simp at e⟩
theorem opn_new (h : Rel en ρ σ p) (e : Ext (p.opn ρ σ m) q) {b : Addr} {o : HO} (hb : q.Hv b = some o) (no : ¬ OwnAt ρ σ m b) : (∃ o', p.Hv b = some o') ∨ p.H b = none ∨ p.F b := by
  rcases e.new b o hb with ⟨o', z⟩ | z | z
  · have z' : (if OwnAt ρ σ m b then p.H b else p.Hv b) = some o' := z
    rw [if_neg no] at z'
    exact .inl ⟨o', z'⟩
  · exact .inr (.inl z)
  · exact .inr (.inr z)
/-- an own list behind an expression -/
theorem own_behind (h : Rel en ρ σ p) (e : Ext (p.opn ρ σ m) q) {i : Nat} {d : D} (hi : ρ[i]? = some (some (.ow d))) : ∃ a u, σ[i]? = some (some (.ref a)) ∧ q.H a = some u ∧ ¬ q.F a ∧ (en.H a = none ∨ en.F a) ∧ HoDen K q.ad p.Hv u d ∧ p.H a = some u ∧ ¬ p.F a ∧ p.Hv a = none := by
  obtain ⟨a, u, h1, h2, h3, h4, h5, h6⟩ := h.ow i d hi
  refine ⟨a, u, h1, e.frame a u h2 h4, fun z => ?_, h5, h6.mono Same.rfl' e.ad, h2, h4, h3⟩
  rcases e.foot a z with z | z
  · exact h4 z
  · have z : p.H a = none := z
    rw [h2] at z; cases z
theorem cls_same (h : Rel en ρ σ p) (e : Ext (p.opn ρ σ m) q) : Same p.Hv (q.cls ρ σ m).Hv := fun b o hb => by
  show (if OwnAt ρ σ m b then none else q.Hv b) = some o
  have no : ¬ OwnAt ρ σ m b := fun z => by
    obtain ⟨_, _, _, hn, _⟩ := h.at_ z
    rw [hb] at hn; cases hn
  rw [if_neg no]
  exact e.view _ _ (opn_same h _ _ hb)
theorem cls_less (h : Rel en ρ σ p) (e : Ext (p.opn ρ σ m) q) : Less q.Hv (q.cls ρ σ m).Hv := fun b o hb => by
  by_cases no : OwnAt ρ σ m b
  · obtain ⟨d, u, h1, _, _, _, h6⟩ := h.at_ no
    have : (p.opn ρ σ m).Hv b = some u := by
      show (if OwnAt ρ σ m b then p.H b else p.Hv b) = some u
      rw [if_pos no]; exact h1
    have := e.view _ _ this
    rw [hb] at this; cases this
    refine .inr ?_
    cases o <;> cases d <;> first | exact False.elim h6 | exact .inl ⟨_, rfl⟩ | exact .inr (.inl ⟨_, rfl⟩) | exact .inr (.inr ⟨_, rfl⟩)
  · refine .inl ?_
    show (if OwnAt ρ σ m b then none else q.Hv b) = some o
    rw [if_neg no]; exact hb
theorem cls_rel (h : Rel en ρ σ p) (e : Ext (p.opn ρ σ m) q) (ok : q.Ok) (fl : M.flat q.s = true) : Rel en ρ σ (q.cls ρ σ m) := by
  have ex : Ext p (q.cls ρ σ m) := ⟨cls_same h e, e.frame, fun b o hb => by
    have hb' : (if OwnAt ρ σ m b then none else q.Hv b) = some o := hb
    split at hb'
    · cases hb'
    · rename_i no
      exact opn_new h e hb' no, e.foot, e.ad⟩
  refine ⟨⟨fun b o hb => ?_, fun b f => ?_, M.less fl ok.rep (cls_less h e)⟩, h.ext.trans ex, h.len, fun i d hi => ?_, fun i d hi => ?_, h.dis⟩
  · have hb' : (if OwnAt ρ σ m b then none else q.Hv b) = some o := hb
    split at hb'
    · cases hb'
    · exact ok.view _ _ hb'
  · show (if OwnAt ρ σ m b then none else q.Hv b) = none
    split
    · rfl
    · exact ok.off b f
  · obtain ⟨v, h1, h2⟩ := h.sh i d hi
    exact ⟨v, h1, ex.den h2⟩
  · obtain ⟨a, u, h1, h2, h3, h4, h5, h6, h7, h8⟩ := own_behind h e hi
    refine ⟨a, u, h1, h2, ?_, h3, h4, h5.mono (cls_same h e) fun _ _ q => q⟩
    show (if OwnAt ρ σ m a then none else q.Hv a) = none
    split
    · rfl
    · rename_i no
      cases z : q.Hv a with
      | none => rfl
      | some o =>
        rcases opn_new h e z no with ⟨o', z'⟩ | z' | z'
        · rw [h8] at z'; cases z'
        · rw [h6] at z'; cases z'
        · exact absurd z' h7
theorem frz_rel (h : Rel en ρ σ p) (e : Ext (p.opn ρ σ m) q) (ok : q.Ok) : Rel en (frz m ρ) σ q := by
  have vs : Same p.Hv q.Hv := (opn_same h).tr e.view
  have own : ∀ (i : Nat) d, (frz m ρ)[i]? = some (some (.ow d)) → ρ[i]? = some (some (.ow d)) ∧ i ∉ m := fun i d hi => by
    rw [frz_get] at hi
    cases z : ρ[i]? with
    | none => rw [z] at hi; cases hi
    | some o =>
      rw [z] at hi
      cases o with
      | none => simp [frz1] at hi
      | some vv =>
        cases vv with
        | sh d' => simp [frz1] at hi
        | ow d' =>
          simp only [Option.map_some, frz1] at hi
          split at hi
          · simp at hi
          · rename_i hm
            simp only [Option.some.injEq, VV.ow.injEq] at hi
            subst hi
            exact ⟨rfl, by simpa using hm⟩
  refine ⟨ok, ⟨h.ext.view.tr vs, fun b o hb nf => ?_, fun b o hb => ?_, fun b hb => ?_, fun n a ha => e.ad n a (h.ext.ad n a ha)⟩, by rw [frz_len]; exact h.len, fun i d hi => ?_, fun i d hi => ?_, fun i j d d' a hij hi hj => h.dis i j d d' a hij (own i d hi).1 (own j d' hj).1⟩
  · refine e.frame b o (h.ext.frame b o hb nf) fun z => ?_
    rcases h.ext.foot b z with z | z
    · exact nf z
    · rw [hb] at z; cases z
  · by_cases no : OwnAt ρ σ m b
    · obtain ⟨_, _, _, _, _, hn, _⟩ := h.at_ no
      exact .inr hn
    · rcases opn_new h e hb no with ⟨o', z⟩ | z | z
      · exact h.ext.new b o' z
      · rcases newOld h.ext z with z | z
        · exact .inr (.inl z)
        · exact .inr (.inr z)
      · rcases h.ext.foot b z with z | z
        · exact .inr (.inr z)
        · exact .inr (.inl z)
  · rcases e.foot b hb with z | z
    · exact h.ext.foot b z
    · rcases newOld h.ext (show p.H b = none from z) with z | z
      · exact .inr z
      · exact .inl z
  · rw [frz_get] at hi
    cases z : ρ[i]? with
    | none => rw [z] at hi; cases hi
    | some o =>
      rw [z] at hi
      cases o with
      | none => simp [frz1] at hi
      | some vv =>
        cases vv with
        | sh d' =>
          simp only [Option.map_some, frz1, Option.some.injEq, VV.sh.injEq] at hi
          subst hi
          obtain ⟨v, h1, h2⟩ := h.sh i d' z
          exact ⟨v, h1, h2.mono vs e.ad⟩
        | ow d' =>
          simp only [Option.map_some, frz1] at hi
          split at hi
          · rename_i hm
            simp only [Option.some.injEq, VV.sh.injEq] at hi
            subst hi
            obtain ⟨a, u, h1, h2, h3, h4, h5, h6⟩ := h.ow i d' z
            refine ⟨.ref a, h1, (h6.mono vs e.ad).den (e.view _ _ ?_)⟩
            show (if OwnAt ρ σ m a then p.H a else p.Hv a) = some u
            rw [if_pos ⟨i, d', by simpa using hm, z, h1⟩]; exact h2
          · simp at hi
  · obtain ⟨hi', nm⟩ := own i d hi
    obtain ⟨a, u, h1, h2, h3, h4, h5, h6, h7, h8⟩ := own_behind h e hi'
    refine ⟨a, u, h1, h2, ?_, h3, h4, h5.mono vs fun _ _ q => q⟩
    have no : ¬ OwnAt ρ σ m a := fun ⟨j, d', hj, hj2, hj3⟩ => by
      by_cases hij : i = j
      · subst hij; exact nm hj
      · exact h.dis i j d d' a hij hi' hj2 h1 hj3
    cases z : q.Hv a with
    | none => rfl
    | some o =>
      rcases opn_new h e z no with ⟨o', z'⟩ | z' | z'
      · rw [h8] at z'; cases z'
      · rw [h6] at z'; cases z'
      · exact absurd z' h7
/-- the names behind an expression that speaks of the own lists at m -/
def behind (M : WM K) (m : List Nat) (fl : Bool) (s : M.S) (ρ : Nv) : Nv := if (m.isEmpty || (fl && M.flat s)) = true then ρ else frz m ρ
theorem frz_nil (ρ : Nv) : frz [] ρ = ρ := by
  refine List.ext_getElem? fun i => ?_
  rw [frz_get]
  cases ρ[i]? with
  | none => rfl
  | some o =>
    cases o with
    | none => rfl
    | some vv => cases vv <;> rfl
/-- behind an expression: the frame again, the result seen or new -/
theorem behind_ok (h : Rel en ρ σ p) (e : Ext (p.opn ρ σ m) q) (ok : q.Ok) (rk : ROk (p.opn ρ σ m) q r v) : ∃ q', q'.H = q.H ∧ q'.s = q.s ∧ Rel en (behind M m (flatR r) q.s ρ) σ q' ∧ ROk en q' r v ∧ (∀ a, v = .ref a → (∃ d, r = .fr d) → ∀ (i : Nat) d, ρ[i]? = some (some (.ow d)) → σ[i]? ≠ some (some (.ref a))) := by
  have apart : ∀ a, v = .ref a → (∃ d, r = .fr d) → ∀ (i : Nat) d, ρ[i]? = some (some (.ow d)) → σ[i]? ≠ some (some (.ref a)) := fun a hv ⟨d, hr⟩ i d' hi hs => by
    subst hr
    obtain ⟨a', o, e1, e2, e3, e4, e5, e6⟩ := rk
    rw [hv] at e1; cases e1
    obtain ⟨a2, u, h1, h2, h3, h4, _⟩ := h.ow i d' hi
    rw [hs] at h1; cases h1
    rcases e5 with z | z
    · have z : p.H a = none := z
      rw [h2] at z; cases z
    · exact h4 z
  have isnew : ∀ a, (p.opn ρ σ m).H a = none ∨ (p.opn ρ σ m).F a → en.H a = none ∨ en.F a := fun a z => by
    rcases z with z | z
    · exact newOld h.ext z
    · exact (h.ext.foot a z).symm
  by_cases hf : (flatR r && M.flat q.s) = true
  · have hf' := hf
    rw [Bool.and_eq_true] at hf
    refine ⟨q.cls ρ σ m, rfl, rfl, ?_, ?_, apart⟩
    · unfold behind; rw [hf', Bool.or_true, if_pos rfl]; exact cls_rel h e ok hf.2
    · cases r with
      | sh d => exact Den.less (cls_less h e) hf.1 rk
      | fr d =>
        obtain ⟨a, o, e1, e2, e3, e4, e5, e6⟩ := rk
        refine ⟨a, o, e1, e2, ?_, e4, isnew a e5, ?_⟩
        · show (if OwnAt ρ σ m a then none else q.Hv a) = none
          split
          · rfl
          · exact e3
        · cases d <;> first | (cases hf.1; done) | skip
          cases o <;> first | exact False.elim e6 | skip
          exact DenL.less (cls_less h e) hf.1 e6
  · have rel : Rel en (frz m ρ) σ q := frz_rel h e ok
    have e1 : behind M m (flatR r) q.s ρ = frz m ρ := by
      unfold behind
      cases m with
      | nil => rw [frz_nil]; split <;> rfl
      | cons _ _ => rw [if_neg (by simpa using hf)]
    refine ⟨q, rfl, rfl, by rw [e1]; exact rel, ?_, apart⟩
    cases r with
    | sh d => exact rk
    | fr d =>
      obtain ⟨a, o, e1, e2, e3, e4, e5, e6⟩ := rk
      exact ⟨a, o, e1, e2, e3, e4, isnew a e5, e6⟩
/-- the name i takes the result -/
def R.vv : R → VV
  | .sh d => .sh d
  | .fr d => .ow d
theorem behind_own {fl : Bool} {s : M.S} {i : Nat} {d : D} (h : (behind M m fl s ρ)[i]? = some (some (.ow d))) : ρ[i]? = some (some (.ow d)) := by
  unfold behind at h
  split at h
  · exact h
  · rw [frz_get] at h
    cases z : ρ[i]? with
    | none => rw [z] at h; cases h
    | some o =>
      rw [z] at h
      cases o with
      | none => simp [frz1] at h
      | some vv =>
        cases vv with
        | sh d' => simp [frz1] at h
        | ow d' =>
          simp only [Option.map_some, frz1] at h
          split at h
          · simp at h
          · exact h
theorem set_rel {ρ' : Nv} (h : Rel en ρ' σ p) (rk : ROk en p r v) (ap : ∀ a, v = .ref a → (∃ d, r = .fr d) → ∀ (j : Nat) d, ρ'[j]? = some (some (.ow d)) → σ[j]? ≠ some (some (.ref a))) (i : Nat) (hi : i < ρ'.length) : Rel en (ρ'.set i (some r.vv)) (σ.set i (some v)) p := by
  have hl := h.len
  have hσ : i < σ.length := by omega
  refine ⟨h.ok, h.ext, by simp [hl], fun j d hj => ?_, fun j d hj => ?_, fun j k d d' a hjk hj hk => ?_⟩
  · by_cases e : i = j
    · subst e
      rw [List.getElem?_set_self hi] at hj
      cases r with
      | sh d' => cases hj; exact ⟨v, by rw [List.getElem?_set_self hσ], rk⟩
      | fr d' => cases hj
    · rw [List.getElem?_set_ne e] at hj ⊢
      exact h.sh j d hj
  · by_cases e : i = j
    · subst e
      rw [List.getElem?_set_self hi] at hj
      cases r with
      | sh d' => cases hj
      | fr d' =>
        cases hj
        obtain ⟨a, o, e1, e2, e3, e4, e5, e6⟩ := rk
        exact ⟨a, o, by rw [List.getElem?_set_self hσ, e1], e2, e3, e4, e5, e6⟩
    · rw [List.getElem?_set_ne e] at hj ⊢
      exact h.ow j d hj
  · by_cases e : i = j
    · subst e
      rw [List.getElem?_set_self hi] at hj
      rw [List.getElem?_set_ne hjk] at hk ⊢
      rw [List.getElem?_set_self hσ]
      intro ha
      cases r with
      | sh d' => cases hj
      | fr d' =>
        cases hj
        cases ha
        exact ap a rfl ⟨d, rfl⟩ k d' hk
    · by_cases e2 : i = k
      · subst e2
        rw [List.getElem?_set_self hi] at hk
        rw [List.getElem?_set_ne e] at hj ⊢
        rw [List.getElem?_set_self hσ]
        intro ha hb
        cases r with
        | sh d' => cases hk
        | fr d'' =>
          cases hk
          cases hb
          exact ap a rfl ⟨d', rfl⟩ j d hj ha
      · rw [List.getElem?_set_ne e] at hj ⊢
        rw [List.getElem?_set_ne e2] at hk ⊢
        exact h.dis j k d d' a hjk hj hk
end
end
end VQ

/-! VqH: the readings of statements, blocks, defs. -/
namespace VQ
open PySem PySem.Spec PyProof.Rows L2

/-- how a block goes on -/
inductive Fl where
  | nx (ρ : Nv) | rt (r : R) | bk (ρ : Nv) | ct (ρ : Nv)
section
variable {K : PySem.W.Frag} (M : WM K) (mg : Str → Option Value)
/-- an exception in a frame: its names, the world -/
abbrev Xs := Exc × Nv × M.S
abbrev Gs := G (Xs M) (Fl × M.S)
abbrev Sv := Nv → M.S → Gs M
def SEnd (en : Pt M) (Dd : Ends) : Fl × M.S → Prop
  | (.nx ρ, s) => ∀ σ (q : Pt M), Rel en ρ σ q → q.s = s → Dd.nx σ q.H
  | (.bk ρ, s) => ∀ σ (q : Pt M), Rel en ρ σ q → q.s = s → Dd.bk σ q.H
  | (.ct ρ, s) => ∀ σ (q : Pt M), Rel en ρ σ q → q.s = s → Dd.ct σ q.H
  | (.rt r, s) => ∀ v (q : Pt M), Ext en q → q.Ok → q.s = s → ROk en q r v → Dd.rt v q.H
def XSEnd (en : Pt M) (W : WX) : Xs M → Prop := fun x => ∀ cls dd σ (q : Pt M), Rel en x.2.1 σ q → q.s = x.2.2 → XOk mg q x.1 cls dd → W cls dd σ q.H
def tS (W : WX) (ss : Sv M) : TS := fun Dd σ H => ∃ (en : Pt M) (ρ : Nv) (p : Pt M), p.H = H ∧ Rel en ρ σ p ∧ (ss ρ p.s).all (SEnd M en Dd) (XSEnd M mg en W)
variable {M}
/-- an expression in a frame: what it tells of the names at m -/
def inF {α : Type} (m : List Nat) (ee : Ev M α) : Nv → M.S → G (Xs M) (α × M.S) := fun ρ s => (ee (view m ρ) s).exs fun x => (x.1, frz m ρ, x.2)
def sSet (i : Nat) (m : List Nat) (ee : Ev M R) : Sv M := fun ρ s => (inF m ee ρ s).bind fun r => if i < ρ.length then .ret (.nx ((behind M m (flatR r.1) r.2 ρ).set i (some r.1.vv)), r.2) else .bad
def sRet (m : List Nat) (ee : Ev M R) : Sv M := fun ρ s => (inF m ee ρ s).bind fun r => .ret (.rt r.1, r.2)
def sRetN : Sv M := fun _ s => .ret (.rt (.sh .non), s)
/-- return x, x an own list -/
def sRetO (i : Nat) : Sv M := fun ρ s => match ρ[i]? with
  | some (some (.ow d)) => .ret (.rt (.fr d), s)
  | some (some (.sh d)) => .ret (.rt (.sh d), s)
  | _ => .bad
def sDrop (m : List Nat) (ee : Ev M R) : Sv M := fun ρ s => (inF m ee ρ s).bind fun r => .ret (.nx (behind M m (flatR r.1) r.2 ρ), r.2)
def sIf (m : List Nat) (c : Ev M Bool) (a b : Sv M) : Sv M := fun ρ s => (inF m c ρ s).bind fun k => if k.1 = true then a (behind M m true k.2 ρ) k.2 else b (behind M m true k.2 ρ) k.2
def sNil : Sv M := fun ρ s => .ret (.nx ρ, s)
def sThen (b : Sv M) : Fl × M.S → Gs M
  | (.nx ρ', s') => b ρ' s'
  | (.rt r, s') => .ret (.rt r, s')
  | (.bk ρ', s') => .ret (.bk ρ', s')
  | (.ct ρ', s') => .ret (.ct ρ', s')
def sSeq (a b : Sv M) : Sv M := fun ρ s => (a ρ s).bind (sThen b)
def sBreak : Sv M := fun ρ s => .ret (.bk ρ, s)
def sCont : Sv M := fun ρ s => .ret (.ct ρ, s)
/-- x.append(e) -/
def sApp (i : Nat) (m : List Nat) (ee : Ev M D) : Sv M := fun ρ s => (inF m ee ρ s).bind fun r => match (behind M m (flat r.1) r.2 ρ)[i]? with
  | some (some (.ow (.lst l))) => if l.length < big ∧ i ∉ m then .ret (.nx ((behind M m (flat r.1) r.2 ρ).set i (some (.ow (.lst (l ++ [r.1]))))), r.2) else .bad
  | _ => .bad
/-- a def of its arguments' data -/
def startE (n : Nat) (ds : List D) : Nv := (ds.map fun d => some (.sh d)) ++ List.replicate (n - ds.length) none
def runD (n : Nat) (ss : Sv M) : List D → M.S → Gx M R := fun ds s => (((ss (startE n ds) s).exs fun x => (x.1, x.2.2)).bind fun f => match f with
  | (.nx _, s') => .ret (.sh .non, s')
  | (.rt r, s') => .ret (r, s')
  | _ => .bad)
end
section
variable {X : Cx} {M : WM X.K} {W : WX} {en : Pt M} {e a b : Expr} {es rest : List Expr} {pos : Pos} {ea eb : Ev M D} {er : Ev M R} {ec : Ev M Bool} {el : Ev M (List D)} {m : List Nat}
/-- an expression told in a frame -/
theorem inF_D {ρ : Nv} {σ : Sl} {p : Pt M} {Q : VK} {k : R × M.S → Gs M} {Q' : Fl × M.S → Prop} (h : Rel en ρ σ p) (hq : ((inF m er ρ p.s).bind k).all Q' (XSEnd M X.mg en W))
    (hk : ∀ r v (q : Pt M), Ext (p.opn ρ σ m) q → q.Ok → q.s = r.2 → ROk (p.opn ρ σ m) q r.1 v → (k r).all Q' (XSEnd M X.mg en W) → Q v q.H) : tR M X.mg W er σ p.H Q := by
  refine ⟨view m ρ, p.opn ρ σ m, rfl, opn_ok h, opn_env h, G.all_mono (fun r hr v q e ok es rk => hk r v q e ok es rk hr) (fun x hx cls dd q e ok es xk => ?_) (G.all_exs.mp (G.all_bind.mp hq))⟩
  exact hx cls dd σ q (frz_rel h e ok) es xk
theorem inF_V {ρ : Nv} {σ : Sl} {p : Pt M} {Q : VK} {k : D × M.S → Gs M} {Q' : Fl × M.S → Prop} (h : Rel en ρ σ p) (hq : ((inF m ea ρ p.s).bind k).all Q' (XSEnd M X.mg en W))
    (hk : ∀ r v (q : Pt M), Ext (p.opn ρ σ m) q → q.Ok → q.s = r.2 → Den X.K q.ad q.Hv r.1 v → (k r).all Q' (XSEnd M X.mg en W) → Q v q.H) : tD M X.mg W ea σ p.H Q := by
  refine ⟨view m ρ, p.opn ρ σ m, rfl, opn_ok h, opn_env h, G.all_mono (fun r hr v q e ok es rk => hk r v q e ok es rk hr) (fun x hx cls dd q e ok es xk => ?_) (G.all_exs.mp (G.all_bind.mp hq))⟩
  exact hx cls dd σ q (frz_rel h e ok) es xk
theorem inF_B {ρ : Nv} {σ : Sl} {p : Pt M} {Q : Bool → Hp → Prop} {k : Bool × M.S → Gs M} {Q' : Fl × M.S → Prop} (h : Rel en ρ σ p) (hq : ((inF m ec ρ p.s).bind k).all Q' (XSEnd M X.mg en W))
    (hk : ∀ r (q : Pt M), Ext (p.opn ρ σ m) q → q.Ok → q.s = r.2 → (k r).all Q' (XSEnd M X.mg en W) → Q r.1 q.H) : tB' M X.mg W ec σ p.H Q := by
  refine ⟨view m ρ, p.opn ρ σ m, rfl, opn_ok h, opn_env h, G.all_mono (fun r hr q e ok es => hk r q e ok es hr) (fun x hx cls dd q e ok es xk => ?_) (G.all_exs.mp (G.all_bind.mp hq))⟩
  exact hx cls dd σ q (frz_rel h e ok) es xk
theorem behind_len {fl : Bool} {s : M.S} {ρ : Nv} : (behind M m fl s ρ).length = ρ.length := by
  unfold behind; split
  · rfl
  · exact frz_len m ρ
/-- x = e -/
theorem ss_set (i : Nat) (m : List Nat) {x : Str} {pos' : Pos} (hN : X.N.Nodup) (he : PE X e (tR M X.mg W er)) (hi : X.N[i]? = some x := by rfl) (hx : Loc X.env.scope x := by first | exact Or.inl rfl | exact Or.inr rfl) (hs : swapsWith e (some (.Name x pos')) pos.line X.env = pure false := by rfl)
    (hf : X.fn x = true ∨ X.env.scope.names.lookup x = some .local := by first | exact .inl rfl | exact .inr rfl) : PS X (.Assign [.Name x pos'] e pos) (tS M X.mg W (sSet i m er)) := (ps_set hN hi hx he hs hf).con fun Dd σ H ⟨en, ρ, p, hH, rl, q⟩ => by
  subst hH
  show tR M X.mg W er σ p.H fun x H1 => Dd.nx (σ.set i (some x)) H1
  refine inF_D rl q fun r v q1 e ok es rk hr => ?_
  obtain ⟨q2, eH, eS, rl2, rk2, ap⟩ := behind_ok rl e ok rk
  split at hr
  · rename_i hi
    rw [← eH]
    rw [← es] at hr
    refine hr (σ.set i (some v)) q2 (set_rel rl2 rk2 (fun a ha hd j d hj => ap a ha hd j d (behind_own hj)) i (by rw [behind_len]; exact hi)) eS
  · exact hr.elim
theorem ss_ret (m : List Nat) (he : PE X e (tR M X.mg W er)) : PS X (.Return (some e) pos) (tS M X.mg W (sRet m er)) := (ps_ret he).con fun Dd σ H ⟨en, ρ, p, hH, rl, q⟩ => by
  subst hH
  show tR M X.mg W er σ p.H Dd.rt
  refine inF_D rl q fun r v q1 e ok es rk hr => ?_
  obtain ⟨q2, eH, eS, rl2, rk2, ap⟩ := behind_ok rl e ok rk
  rw [← eH]
  exact hr v q2 rl2.ext rl2.ok (eS.trans es) rk2
theorem ss_retN : PS X (.Return none pos) (tS M X.mg W sRetN) := ps_retN.con fun Dd σ H ⟨en, ρ, p, hH, rl, q⟩ => by
  subst hH
  exact q .non p rl.ext rl.ok rfl rfl
theorem ss_retO (i : Nat) {x : Str} {p1 : Pos} (hN : X.N[i]? = some x := by rfl) (hv : Vis X.env.scope x := by first | exact Or.inl rfl | exact Or.inr (Or.inl rfl) | exact Or.inr (Or.inr rfl)) (hd : (x == ("__debug__" : Str)) = false := by decide)
    (hcd : (x == ("__classdict__" : Str)) = false := by decide) : PS X (.Return (some (.Name x p1)) pos) (tS M X.mg W (sRetO i)) := (ps_ret (pe_var hN hv hd hcd)).con fun Dd σ H ⟨en, ρ, p, hH, rl, q⟩ => by
  subst hH
  show ∃ v, σ[i]? = some (some v) ∧ Dd.rt v p.H
  cases z : ρ[i]? with
  | none => simp only [sRetO, z] at q; exact q.elim
  | some o =>
    cases o with
    | none => simp only [sRetO, z] at q; exact q.elim
    | some vv =>
      cases vv with
      | sh d =>
        simp only [sRetO, z] at q
        obtain ⟨v, h1, h2⟩ := rl.sh i d z
        exact ⟨v, h1, q v p rl.ext rl.ok rfl h2⟩
      | ow d =>
        simp only [sRetO, z] at q
        obtain ⟨a, o, h1, h2, h3, h4, h5, h6⟩ := rl.ow i d z
        exact ⟨.ref a, h1, q (.ref a) p rl.ext rl.ok rfl ⟨a, o, rfl, h2, h3, h4, h5, h6⟩⟩
theorem ss_drop (m : List Nat) (he : PE X e (tR M X.mg W er)) (hs : swapsWith e none pos.line X.env = pure false := by rfl) : PS X (.Expr e pos) (tS M X.mg W (sDrop m er)) := (ps_expr he hs).con fun Dd σ H ⟨en, ρ, p, hH, rl, q⟩ => by
  subst hH
  show tR M X.mg W er σ p.H fun _ H1 => Dd.nx σ H1
  refine inF_D rl q fun r v q1 e ok es rk hr => ?_
  obtain ⟨q2, eH, eS, rl2, rk2, ap⟩ := behind_ok rl e ok rk
  rw [← eH]
  rw [← es] at hr
  exact hr σ q2 rl2 eS
/-! ### blocks -/
variable {st : Stmt} {sts : List Stmt} {sa sb : Sv M}
theorem sss_nil : PSs X [] (tS M X.mg W sNil) := pss_nil.con fun Dd σ H ⟨en, ρ, p, hH, rl, q⟩ => by
  subst hH
  exact q σ p rl rfl
theorem SEnd_seq {Dd : Ends} {b : Sv M} {f : Fl × M.S} (h : (sThen b f).all (SEnd M en Dd) (XSEnd M X.mg en W)) : SEnd M en { Dd with nx := tS M X.mg W b Dd } f := by
  obtain ⟨fl, s⟩ := f
  cases fl with
  | nx ρ => exact fun σ q rl es => ⟨en, ρ, q, rfl, rl, by rw [es]; exact h⟩
  | rt r => exact h
  | bk ρ => exact h
  | ct ρ => exact h
theorem sss_cons (h1 : PS X st (tS M X.mg W sa)) (h2 : PSs X sts (tS M X.mg W sb)) : PSs X (st :: sts) (tS M X.mg W (sSeq sa sb)) := (pss_cons h1 h2).con fun Dd σ H ⟨en, ρ, p, hH, rl, q⟩ => by
  subst hH
  exact ⟨en, ρ, p, rfl, rl, G.all_mono (fun f hf => SEnd_seq hf) (fun _ h => h) (G.all_bind.mp q)⟩
theorem sss_one (h1 : PS X st (tS M X.mg W sa)) : PSs X [st] (tS M X.mg W sa) := pss_one h1
theorem ss_break : PS X (.Break pos) (tS M X.mg W sBreak) := ps_break.con fun Dd σ H ⟨en, ρ, p, hH, rl, q⟩ => by
  subst hH
  exact q σ p rl rfl
theorem ss_cont : PS X (.Continue pos) (tS M X.mg W sCont) := ps_continue.con fun Dd σ H ⟨en, ρ, p, hH, rl, q⟩ => by
  subst hH
  exact q σ p rl rfl
theorem ss_pass : PS X (.Pass pos) (tS M X.mg W sNil) := ps_pass.con fun Dd σ H ⟨en, ρ, p, hH, rl, q⟩ => by
  subst hH
  exact q σ p rl rfl
/-- behind a test -/
theorem behind_b {ρ : Nv} {σ : Sl} {p q : Pt M} (h : Rel en ρ σ p) (e : Ext (p.opn ρ σ m) q) (ok : q.Ok) : ∃ q', q'.H = q.H ∧ q'.s = q.s ∧ Rel en (behind M m true q.s ρ) σ q' := by
  obtain ⟨q', h1, h2, h3, _⟩ := behind_ok (r := .sh .non) (v := .non) h e ok rfl
  exact ⟨q', h1, h2, h3⟩
theorem ss_if (m : List Nat) {c : Expr} {ba bb : List Stmt} (hc : PT X c (tB' M X.mg W ec)) (ha : PSs X ba (tS M X.mg W sa)) (hb : PSs X bb (tS M X.mg W sb)) : PS X (.If c ba bb pos) (tS M X.mg W (sIf m ec sa sb)) := (ps_if hc ha hb).con fun Dd σ H ⟨en, ρ, p, hH, rl, q⟩ => by
  subst hH
  show tB' M X.mg W ec σ p.H fun b H1 => if b = true then tS M X.mg W sa Dd σ H1 else tS M X.mg W sb Dd σ H1
  refine inF_B rl q fun r q1 e ok es hr => ?_
  obtain ⟨q2, eH, eS, rl2⟩ := behind_b rl e ok
  obtain ⟨c, s1⟩ := r
  have es2 : q1.s = s1 := es
  rw [← eH]
  cases c with
  | true =>
    have hr' : (sa (behind M m true s1 ρ) s1).all _ _ := hr
    rw [← es2] at hr'
    exact ⟨en, _, q2, rfl, rl2, by rw [eS]; exact hr'⟩
  | false =>
    have hr' : (sb (behind M m true s1 ρ) s1).all _ _ := hr
    rw [← es2] at hr'
    exact ⟨en, _, q2, rfl, rl2, by rw [eS]; exact hr'⟩
/-! ### a def -/
theorem start_rel {N : List Str} {p : Pt M} {ds : List D} {vs : List V} (ok : p.Ok) (h : DenL X.K p.ad p.Hv ds vs) (hl : vs.length ≤ N.length) : Rel p (startE N.length ds) (L2.start N vs) p := by
  have hlen := h.length
  have get : ∀ (i : Nat) vv, (startE N.length ds)[i]? = some (some vv) → ∃ d, ds[i]? = some d ∧ vv = .sh d := fun i vv e => by
    unfold startE at e
    by_cases hi : i < ds.length
    · rw [List.getElem?_append_left (by simpa using hi), List.getElem?_map] at e
      cases z : ds[i]? with
      | none => rw [z] at e; cases e
      | some d => rw [z] at e; cases e; exact ⟨d, rfl, rfl⟩
    · rw [List.getElem?_append_right (by simpa using hi), List.getElem?_replicate] at e
      split at e <;> cases e
  refine ⟨ok, Ext.refl p, ?_, fun i d e => ?_, fun i d e => ?_, fun i j d d' a _ e => ?_⟩
  · unfold L2.start startE; simp [hlen]
  · obtain ⟨d', h1, h2⟩ := get i _ e
    cases h2
    obtain ⟨v, h3, h4⟩ := h.get h1
    refine ⟨v, ?_, h4⟩
    have hi : i < vs.length := (List.getElem?_eq_some_iff.mp h3).1
    unfold L2.start
    rw [List.getElem?_append_left (by simpa using hi), List.getElem?_map, h3]; rfl
  · obtain ⟨_, _, h2⟩ := get i _ e; cases h2
  · obtain ⟨_, _, h2⟩ := get i _ e; cases h2
end
section
variable {P : Program} {w : World} {K : PySem.W.Frag} {mg : Str → Option Value} {base : Heap} {M : WM K}
/-- THE RULE for a def: its body's reading -/
theorem def_ok {x qual : Str} {st : Stmt} {f : Addr} {fd : FuncData} {N ps : List Str} {k n : Nat} {ss : Sv M} (F : Fun K x qual st f fd) (S : FnScope N ps (defScope st)) (hn : ps.length = n) (hle : n ≤ N.length)
    (hbody : ∀ (cdv : Value) (A : Around) (outer : List Env) (s : Shared) (H : Hp) (E : XK), Room k (A.deeper (envOfC qual (defScope st) s.heap.objs.size f cdv)) →
      Takes (cxOf (L2.CX P w) P w K mg base N qual (defScope st) f cdv A outer s H E) (fun cls d _ H => E cls d H) →
      PSs (cxOf (L2.CX P w) P w K mg base N qual (defScope st) f cdv A outer s H E) (defBody st) (tS M mg (fun cls d _ H => E cls d H) ss)) : FnOk P w K mg base (L2.CX P w) (k + 1) f fd ps (spV M mg n (runD N.length ss)) := by
  refine F.okX S (fun vs H Q E h => ?_) (fun cdv A outer s H vs Q E hr h => ?_)
  · obtain ⟨ds, p, h1, _⟩ := h
    rw [h1, hn]
  · obtain ⟨ds, p, h1, hH, ok, hd, hq⟩ := h
    subst hH
    refine ⟨_, hbody cdv A outer s p.H E hr (takes_of rfl rfl rfl rfl), p, startE N.length ds, p, rfl, ?_, ?_⟩
    · exact start_rel (X := cxOf (L2.CX P w) P w K mg base N qual (defScope st) f cdv A outer s p.H E) (M := M) ok hd (by omega)
    · refine G.all_mono (fun fl hf => ?_) (fun x hx => ?_) (G.all_exs.mp (G.all_bind.mp hq))
      · obtain ⟨fl, s1⟩ := fl
        cases fl with
        | nx ρ => exact fun σ q rl es => hf .non q rl.ext rl.ok es rfl
        | rt r => exact fun v q e ok es rk => hf v q e ok es rk
        | bk ρ => exact hf.elim
        | ct ρ => exact hf.elim
      · exact fun cls dd σ q rl es xk => hx cls dd q rl.ext rl.ok es xk
end
end VQ

/-! VqI: what a for walks, loops, targets, comprehensions. -/
namespace VQ
open PySem PySem.Spec PyProof.Rows L2
section
variable {K : PySem.W.Frag} {M : WM K}
/-- the iterator J gives the items one by one, as long as what q sees stands -/
def Serves (J : It) (items : List D) (q : Pt M) : Prop := ∀ H', Same q.Hv H' → (∀ (i : Nat), items.length = i → J.stop i H') ∧ ∀ (i : Nat) d, items[i]? = some d → J.go i H' ∧ ∀ x H2, J.yld i H' x H2 →
  (H2 = H' ∧ Den K q.ad q.Hv d x) ∨ (∃ a vs ds, H' a = none ∧ x = .ref a ∧ H2 = upd H' a (.tup vs) ∧ d = .tup ds ∧ DenL K q.ad q.Hv ds vs) ∨
  ∃ a vs ds b v0 d0, H' a = none ∧ upd H' a (.tup vs) b = none ∧ x = .ref b ∧ H2 = upd (upd H' a (.tup vs)) b (.tup [v0, .ref a]) ∧ d = .tup [d0, .tup ds] ∧ DenL K q.ad q.Hv ds vs ∧ Den K q.ad q.Hv d0 v0
/-- one more tuple in the heap -/
theorem rel_lay {en q' : Pt M} {ρ' : Nv} {σ' : Sl} (rl' : Rel en ρ' σ' q') {a : Addr} {vs : List V} (ha : q'.H a = none) : Rel en ρ' σ' (q'.lay a (.tup vs)) := by
  have el := ext_lay rl'.ok ha (o := .tup vs)
  refine ⟨ok_lay rl'.ok ha, rl'.ext.trans el, rl'.len, fun j d hj => ?_, fun j d hj => ?_, rl'.dis⟩
  · obtain ⟨v, h1, h2⟩ := rl'.sh j d hj
    exact ⟨v, h1, el.den h2⟩
  · obtain ⟨a', o, h1, h2, h3, h4, h5, h6⟩ := rl'.ow j d hj
    have ne : a' ≠ a := ne_of_none h2 ha
    refine ⟨a', o, h1, el.frame _ _ h2 h4, ?_, h4, h5, h6.mono el.view el.ad⟩
    show upd q'.Hv a (.tup vs) a' = none
    rw [upd_ne ne]; exact h3
/-- a target: how it takes a value into the names -/
def tGt (M : WM K) (g : D → Nv → Option Nv) : TG := fun v σ H Q => ∃ (en : Pt M) (ρ : Nv) (p : Pt M) (d : D) (ρ' : Nv), p.H = H ∧ Rel en ρ σ p ∧ Den K p.ad p.Hv d v ∧ g d ρ = some ρ' ∧ ∀ σ', Rel en ρ' σ' p → Q σ' p.H
def tGts (M : WM K) (g : List D → Nv → Option Nv) : TGs := fun vs σ H Q => ∃ (en : Pt M) (ρ : Nv) (p : Pt M) (ds : List D) (ρ' : Nv), p.H = H ∧ Rel en ρ σ p ∧ DenL K p.ad p.Hv ds vs ∧ g ds ρ = some ρ' ∧ ∀ σ', Rel en ρ' σ' p → Q σ' p.H
def gtName (i : Nat) : D → Nv → Option Nv := fun d ρ => if i < ρ.length then some (ρ.set i (some (.sh d))) else none
def gtNil : List D → Nv → Option Nv := fun ds ρ => match ds with
  | [] => some ρ
  | _ => none
def gtCons (g : D → Nv → Option Nv) (gs : List D → Nv → Option Nv) : List D → Nv → Option Nv := fun ds ρ => match ds with
  | d :: r => (g d ρ).bind (gs r)
  | [] => none
def gtTup (n : Nat) (gs : List D → Nv → Option Nv) : D → Nv → Option Nv := fun d ρ => match d with
  | .tup ds => if ds.length = n then gs ds ρ else none
  | _ => none
def gtLst (n : Nat) (gs : List D → Nv → Option Nv) : D → Nv → Option Nv := fun d ρ => match d with
  | .lst ds => if ds.length = n then gs ds ρ else none
  | _ => none
/-- the loop -/
def loopG (g : D → Nv → Option Nv) (body : Sv M) : List D → Sv M
  | [], ρ, s => .ret (.nx ρ, s)
  | d :: ds, ρ, s => match g d ρ with
    | none => .bad
    | some ρ1 => (body ρ1 s).bind fun f => match f with
      | (.nx ρ2, s2) => loopG g body ds ρ2 s2
      | (.ct ρ2, s2) => loopG g body ds ρ2 s2
      | (.bk ρ2, s2) => .ret (.nx ρ2, s2)
      | (.rt r, s2) => .ret (.rt r, s2)
def sFor (m : List Nat) (ei : Ev M (List D)) (g : D → Nv → Option Nv) (body : Sv M) : Sv M := fun ρ s => (inF m ei ρ s).bind fun r => loopG g body r.1 (frz m ρ) r.2
end
section
variable {X : Cx} {M : WM X.K} {W : WX} {e a b iter tg : Expr} {es rest : List Expr} {pos : Pos} {ea eb ec : Ev M D} {er : Ev M R} {el ei : Ev M (List D)} {m : List Nat}
/-- an iterator's reading -/
def tIt (M : WM X.K) (W : WX) (ei : Ev M (List D)) : TI := fun σ H R => ∃ (ρ : Dv) (p : Pt M), p.H = H ∧ p.Ok ∧ EnvD M p σ ρ ∧ (ei ρ p.s).all (fun r => ∀ (J : It) (q : Pt M), Ext p q → q.Ok → q.s = r.2 → Serves J r.1 q → R J q.H) (XEnd M X.mg p W σ)
theorem _root_.L2.PI.con {X : Cx} {tg e : Expr} {t t' : TI} (h : PI X tg e t) (i : ∀ σ H Q, t' σ H Q → t σ H Q) : PI X tg e t' := ⟨fun pins s σ H Q I q => h.run pins s σ H Q I (i _ _ _ q)⟩
theorem _root_.L2.PG.con {X : Cx} {tg : Expr} {t t' : TG} (h : PG X tg t) (i : ∀ v σ H Q, t' v σ H Q → t v σ H Q) : PG X tg t' := ⟨fun pins s σ H v u Q I r q => h.run pins s σ H v u Q I r (i _ _ _ _ q)⟩
theorem _root_.L2.PGs.con {X : Cx} {tg : List Expr} {t t' : TGs} (h : PGs X tg t) (i : ∀ v σ H Q, t' v σ H Q → t v σ H Q) : PGs X tg t' := ⟨fun pins s σ H v u Q I r q => h.run pins s σ H v u Q I r (i _ _ _ _ q)⟩
/-! ### targets -/
theorem tg_name (i : Nat) {x : Str} (hN : X.N.Nodup) (hi : X.N[i]? = some x := by rfl) (hx : Loc X.env.scope x := by first | exact Or.inl rfl | exact Or.inr rfl)
    (hf : X.fn x = true ∨ X.env.scope.names.lookup x = some .local := by first | exact .inl rfl | exact .inr rfl) : PG X (.Name x pos) (tGt M (gtName i)) := (pg_name hN hi hx hf).con fun v σ H Q ⟨en, ρ, p, d, ρ', hH, rl, hd, hg, q⟩ => by
  subst hH
  unfold gtName at hg
  split at hg
  · rename_i hl
    cases hg
    exact q (σ.set i (some v)) (set_rel (r := .sh d) rl hd (fun _ _ ⟨_, h⟩ => by cases h) i hl)
  · cases hg
theorem tgs_nil : PGs X [] (tGts M gtNil) := pgs_nil.con fun v σ H Q ⟨en, ρ, p, ds, ρ', hH, rl, hd, hg, q⟩ => by
  subst hH
  cases ds with
  | nil => cases hg; cases hd; exact ⟨rfl, q σ rl⟩
  | cons _ _ => cases hg
theorem tgs_cons {g : D → Nv → Option Nv} {gs : List D → Nv → Option Nv} (h : PG X e (tGt M g)) (hr : PGs X es (tGts M gs)) (hs : (assignEach (e :: es) X.env).map (·.2) = assign e X.env :: (assignEach es X.env).map (·.2) := by rfl) :
    PGs X (e :: es) (tGts M (gtCons g gs)) := (pgs_cons h hr hs).con fun v σ H Q ⟨en, ρ, p, ds, ρ', hH, rl, hd, hg, q⟩ => by
  subst hH
  cases ds with
  | nil => cases hg
  | cons d r =>
    obtain ⟨x, vs, rfl, h1, h2⟩ := hd
    simp only [gtCons] at hg
    cases z : g d ρ with
    | none => rw [z] at hg; cases hg
    | some ρ1 =>
      rw [z] at hg
      exact ⟨x, vs, rfl, en, ρ, p, d, ρ1, rfl, rl, h1, z, fun σ' rl' => ⟨en, ρ1, p, r, ρ', rfl, rl', h2, hg, q⟩⟩
theorem tg_tup (n : Nat) {gs : List D → Nv → Option Nv} {k : Nat} (hc : X.calm = true) (h : PGs X es (tGts M gs)) (hn : (assignEach es X.env).length = n := by rfl) (hst : (assignEach es X.env).findIdx? (·.1) = none := by rfl) :
    PG X (.Tuple es k pos) (tGt M (gtTup n gs)) := (pg_tup hc h hn hst).con fun v σ H Q ⟨en, ρ, p, d, ρ', hH, rl, hd, hg, q⟩ => by
  subst hH
  cases d <;> first | (cases hg; done) | skip
  obtain ⟨a, vs, rfl, h1, h2⟩ := hd
  simp only [gtTup] at hg
  split at hg
  · rename_i hl
    exact ⟨a, vs, rfl, sqT_H rl.ok h1, h2.length.trans hl, en, ρ, p, _, ρ', rfl, rl, h2, hg, q⟩
  · cases hg
theorem tg_lst (n : Nat) {gs : List D → Nv → Option Nv} {k : Nat} (hc : X.calm = true) (h : PGs X es (tGts M gs)) (hn : (assignEach es X.env).length = n := by rfl) (hst : (assignEach es X.env).findIdx? (·.1) = none := by rfl) :
    PG X (.Tuple es k pos) (tGt M (gtLst n gs)) := (pg_lst hc h hn hst).con fun v σ H Q ⟨en, ρ, p, d, ρ', hH, rl, hd, hg, q⟩ => by
  subst hH
  cases d <;> first | (cases hg; done) | skip
  obtain ⟨a, vs, rfl, h1, h2⟩ := hd
  simp only [gtLst] at hg
  split at hg
  · rename_i hl
    exact ⟨a, vs, rfl, SqL.of (rl.ok.view _ _ h1), h2.length.trans hl, en, ρ, p, _, ρ', rfl, rl, h2, hg, q⟩
  · cases hg
/-! ### the entry anew: a loop's body, told from where the loop begins -/
open Classical in
noncomputable def reb (q : Pt M) (ρ : Nv) (σ : Sl) : Pt M := ⟨q.s, q.F, q.Hv, fun b => if ∃ (i : Nat) (d : D), ρ[i]? = some (some (.ow d)) ∧ σ[i]? = some (some (.ref b)) then none else q.H b, q.ad⟩
theorem reb_rel {en q : Pt M} {ρ : Nv} {σ : Sl} (h : Rel en ρ σ q) : Rel (reb q ρ σ) ρ σ q where
  ok := h.ok
  ext := ⟨Same.rfl', fun b o e _ => by
    unfold reb at e; dsimp only at e
    split at e
    · cases e
    · exact e, fun b o e => .inl ⟨o, e⟩, fun _ f => .inl f, fun _ _ e => e⟩
  len := h.len
  sh := h.sh
  ow := fun i d hi => by
    obtain ⟨a, o, h1, h2, h3, h4, h5, h6⟩ := h.ow i d hi
    refine ⟨a, o, h1, h2, h3, h4, .inl ?_, h6⟩
    unfold reb; dsimp only
    rw [if_pos ⟨i, d, hi, h1⟩]
  dis := h.dis
section
variable {en q : Pt M} {ρ : Nv} {σ : Sl} (h : Rel en ρ σ q)
include h
theorem reb_own {b : Addr} (o : ∃ (i : Nat) (d : D), ρ[i]? = some (some (.ow d)) ∧ σ[i]? = some (some (.ref b))) : en.H b = none ∨ en.F b := by
  obtain ⟨i, d, h1, h2⟩ := o
  obtain ⟨a, u, e, _, _, _, h5, _⟩ := h.ow i d h1
  rw [h2] at e; cases e
  exact h5
theorem reb_new {b : Addr} (hb : (reb q ρ σ).H b = none ∨ (reb q ρ σ).F b) : en.H b = none ∨ en.F b := by
  rcases hb with hb | hb
  · unfold reb at hb; dsimp only at hb
    split at hb
    · rename_i o; exact reb_own h o
    · exact newOld h.ext hb
  · exact (h.ext.foot b hb).symm
theorem reb_ext {q' : Pt M} (e : Ext (reb q ρ σ) q') : Ext en q' where
  view := h.ext.view.tr e.view
  frame := fun b o hb nf => by
    have h1 := h.ext.frame b o hb nf
    refine e.frame b o ?_ fun z => ?_
    · unfold reb; dsimp only
      rw [if_neg]
      · exact h1
      · intro o'
        rcases reb_own h o' with z | z
        · rw [hb] at z; cases z
        · exact nf z
    · rcases h.ext.foot b z with z | z
      · exact nf z
      · rw [hb] at z; cases z
  new := fun b o hb => by
    rcases e.new b o hb with ⟨o', z⟩ | z | z
    · exact h.ext.new b o' z
    · exact .inr (reb_new h (.inl z))
    · exact .inr (reb_new h (.inr z))
  foot := fun b hb => by
    rcases e.foot b hb with z | z
    · exact (reb_new h (.inr z)).symm
    · exact (reb_new h (.inl z)).symm
  ad := fun n a ha => e.ad n a (h.ext.ad n a ha)
theorem reb_back {ρ' : Nv} {σ' : Sl} {q' : Pt M} (r : Rel (reb q ρ σ) ρ' σ' q') : Rel en ρ' σ' q' :=
  ⟨r.ok, reb_ext h r.ext, r.len, r.sh, fun i d hi => by
    obtain ⟨a, o, h1, h2, h3, h4, h5, h6⟩ := r.ow i d hi
    exact ⟨a, o, h1, h2, h3, h4, reb_new h h5, h6⟩, r.dis⟩
theorem reb_rok {q' : Pt M} {r : R} {v : V} (rk : ROk (reb q ρ σ) q' r v) : ROk en q' r v := by
  cases r with
  | sh d => exact rk
  | fr d =>
    obtain ⟨a, o, e1, e2, e3, e4, e5, e6⟩ := rk
    exact ⟨a, o, e1, e2, e3, e4, reb_new h e5, e6⟩
theorem reb_xend {W : WX} {x : Xs M} (hx : XSEnd M X.mg en W x) : XSEnd M X.mg (reb q ρ σ) W x := fun cls dd σ' q' rl es xk => hx cls dd σ' q' (reb_back h rl) es xk
end
/-! ### for -/
theorem ss_for (m : List Nat) {g : D → Nv → Option Nv} {body : List Stmt} {sb : Sv M} (hp : PassesOwn (model X.prog X.w) X.A X.env X.xe) (hc : X.calm = true) (hi : PI X tg iter (tIt M W ei)) (hg : PG X tg (tGt M g)) (hb : PSs X body (tS M X.mg W sb))
    (hs : ∀ x, foldedSetIterable iter X.env x = pure x := by intro _; rfl) : PS X (.For tg iter body [] pos) (tS M X.mg W (sFor m ei g sb)) := (ps_for hp hc hi hg hb hs).con fun Dd σ H ⟨en, ρ, p, hH, rl, q⟩ => by
  subst hH
  refine ⟨view m ρ, p.opn ρ σ m, rfl, opn_ok rl, opn_env rl, G.all_mono (fun r hr J q0 e ok es sv => ?_) (fun x hx cls dd q e ok es xk => hx cls dd σ q (frz_rel rl e ok) es xk) (G.all_exs.mp (G.all_bind.mp q))⟩
  have rl0 := frz_rel rl e ok
  have rb := reb_rel rl0
  rw [← es] at hr
  refine ⟨fun i n σ' H' => n = r.1.length - i ∧ i ≤ r.1.length ∧ ∃ (ρ' : Nv) (q' : Pt M), q'.H = H' ∧ Rel (reb q0 (frz m ρ) σ) ρ' σ' q' ∧ (loopG g sb (r.1.drop i) ρ' q'.s).all (SEnd M en Dd) (XSEnd M X.mg en W), ⟨r.1.length, by simp, Nat.zero_le _, frz m ρ, q0, rfl, rb, hr⟩, ?_⟩
  rintro i n σ' H' ⟨rfl, hi, ρ', q', rfl, rl', hl⟩
  have vw : Same q0.Hv q'.H := rl'.ext.view.tr rl'.ok.view
  obtain ⟨s1, s2⟩ := sv q'.H vw
  by_cases hlt : i < r.1.length
  · have hd : r.1[i]? = some r.1[i] := by simp [hlt]
    obtain ⟨g1, g2⟩ := s2 i _ hd
    refine .inr ⟨g1, fun σ2 H2 => ∃ (ρ2 : Nv) (q2 : Pt M), q2.H = H2 ∧ Rel (reb q0 (frz m ρ) σ) ρ2 σ2 q2 ∧ (loopG g sb (r.1.drop (i + 1)) ρ2 q2.s).all (SEnd M en Dd) (XSEnd M X.mg en W), fun σ2 H2 ⟨ρ2, q2, a, b, c⟩ => ⟨r.1.length - (i + 1), by omega, rfl, hlt, ρ2, q2, a, b, c⟩, fun x H2 y => ?_⟩
    have hdrop : r.1.drop i = r.1[i] :: r.1.drop (i + 1) := List.drop_eq_getElem_cons hlt
    rw [hdrop] at hl
    simp only [loopG] at hl
    cases zg : g r.1[i] ρ' with
    | none => rw [zg] at hl; exact hl.elim
    | some ρ1 =>
      rw [zg] at hl
      -- the value, at the point where it is taken
      obtain ⟨q1, eH, eS, rl1, dn⟩ : ∃ q1 : Pt M, q1.H = H2 ∧ q1.s = q'.s ∧ Rel (reb q0 (frz m ρ) σ) ρ' σ' q1 ∧ Den X.K q1.ad q1.Hv r.1[i] x := by
        rcases g2 x H2 y with ⟨rfl, dx⟩ | ⟨a, vs, ds, ha, rfl, rfl, ed, dl⟩ | ⟨a, vs, ds, b, v0, d0, ha, hb, rfl, rfl, ed, dl, d1⟩
        · exact ⟨q', rfl, rfl, rl', dx.mono rl'.ext.view rl'.ext.ad⟩
        · have el := ext_lay rl'.ok ha (o := .tup vs)
          refine ⟨q'.lay a (.tup vs), rfl, rfl, rel_lay rl' ha, ?_⟩
          rw [ed]
          exact ⟨a, vs, rfl, SqT.of upd_same, dl.mono (rl'.ext.view.tr el.view) rl'.ext.ad⟩
        · have el := ext_lay rl'.ok ha (o := .tup vs)
          have rl1 := rel_lay rl' (vs := vs) ha
          have el2 := ext_lay rl1.ok (a := b) hb (o := .tup [v0, .ref a])
          refine ⟨(q'.lay a (.tup vs)).lay b (.tup [v0, .ref a]), rfl, rfl, rel_lay rl1 hb, ?_⟩
          rw [ed]
          have da : Den X.K q'.ad (q'.lay a (.tup vs)).Hv (.tup ds) (.ref a) := ⟨a, vs, rfl, SqT.of upd_same, dl.mono (rl'.ext.view.tr el.view) rl'.ext.ad⟩
          have d2 : Den X.K q'.ad (q'.lay a (.tup vs)).Hv d0 v0 := d1.mono (rl'.ext.view.tr el.view) rl'.ext.ad
          exact ⟨b, _, rfl, SqT.of upd_same, DenL.cons (d2.mono el2.view fun _ _ e => e) (DenL.one (da.mono el2.view fun _ _ e => e))⟩
      rw [← eH]
      refine ⟨_, ρ', q1, _, ρ1, rfl, rl1, dn, zg, fun σ2 rl2 => ?_⟩
      rw [← eS] at hl
      refine ⟨_, ρ1, q1, rfl, rl2, G.all_mono (fun f hf => ?_) (fun x hx => reb_xend rl0 hx) (G.all_bind.mp hl)⟩
      obtain ⟨f, s3⟩ := f
      cases f with
      | nx ρ3 => exact fun σ3 q3 rl3 es3 => ⟨ρ3, q3, rfl, rl3, by rw [es3]; exact hf⟩
      | ct ρ3 => exact fun σ3 q3 rl3 es3 => ⟨ρ3, q3, rfl, rl3, by rw [es3]; exact hf⟩
      | bk ρ3 => exact fun σ3 q3 rl3 es3 => hf σ3 q3 (reb_back rl0 rl3) es3
      | rt r3 => exact fun v q3 e3 ok3 es3 rk3 => hf v q3 (reb_ext rl0 e3) ok3 es3 (reb_rok rl0 rk3)
  · have ei : i = r.1.length := by omega
    subst ei
    rw [List.drop_length] at hl
    exact .inl ⟨s1 _ rfl, hl σ' q' (reb_back rl0 rl') rfl⟩
end
end VQ

/-! VqJ: list comprehensions; what is walked. -/
namespace VQ
open PySem PySem.Spec PyProof.Rows L2
namespace G
variable {ε ε' α : Type}
/-- no exception is let out -/
def noX : G ε α → G ε' α
  | ret a => ret a
  | exc _ => bad
  | draw n k => draw n fun r => (k r).noX
  | bad => bad
theorem all_noX {Q : α → Prop} {E : ε' → Prop} {E' : ε → Prop} : ∀ {m : G ε α}, (m.noX : G ε' α).all Q E → m.all Q E'
  | ret _, h => h
  | exc _, h => h.elim
  | bad, h => h.elim
  | draw _ k, h => ⟨h.1, fun r hr => all_noX (h.2 r hr)⟩
@[simp] theorem noX_ret (a : α) : (ret a : G ε α).noX = (ret a : G ε' α) := rfl
end G
section
variable {K : PySem.W.Frag} {M : WM K}
def wipeD (vs : List Nat) (ρ : Dv) : Dv := vs.foldl (fun ρ i => ρ.set i none) ρ
theorem wipeD_get : ∀ (vs : List Nat) (ρ : Dv) (i : Nat) (d : D), (wipeD vs ρ)[i]? = some (some d) → ρ[i]? = some (some d) ∧ i ∉ vs
  | [], ρ, i, d, h => ⟨h, by simp⟩
  | v :: vs, ρ, i, d, h => by
    obtain ⟨h1, h2⟩ := wipeD_get vs (ρ.set v none) i d h
    by_cases e : v = i
    · subst e
      by_cases hl : v < ρ.length
      · rw [List.getElem?_set_self hl] at h1; cases h1
      · rw [List.getElem?_eq_none_iff.mpr (by simp; omega)] at h1; cases h1
    · rw [List.getElem?_set_ne e] at h1
      exact ⟨h1, by simp [h2]; exact fun q => e q.symm⟩
theorem wipeD_len : ∀ (vs : List Nat) (ρ : Dv), (wipeD vs ρ).length = ρ.length
  | [], _ => rfl
  | v :: vs, ρ => by
    show (wipeD vs (ρ.set v none)).length = _
    rw [wipeD_len vs]; simp
theorem wipe_env {p : Pt M} {σ : Sl} {ρ : Dv} {vs : List Nat} (h : EnvD M p σ ρ) : EnvD M p (wipe σ vs) (wipeD vs ρ) := ⟨by rw [wipe_length, wipeD_len]; exact h.len, fun i d e => by
  obtain ⟨h1, h2⟩ := wipeD_get vs ρ i d e
  obtain ⟨v, h3, h4⟩ := h.get i d h1
  exact ⟨v, by rw [wipe_out h2]; exact h3, h4⟩⟩
/-- a target of a comprehension: into its own names at vs -/
def tGd (M : WM K) (vs : List Nat) (g : D → Dv → Option Dv) : TG := fun v σ H Q => ∃ (ρ : Dv) (p : Pt M) (d : D) (ρ' : Dv), p.H = H ∧ EnvD M p σ ρ ∧ p.Ok ∧ Den K p.ad p.Hv d v ∧ g d ρ = some ρ' ∧ ∀ σ', EnvD M p σ' ρ' → wipe σ' vs = wipe σ vs → Q σ' p.H
def tGds (M : WM K) (vs : List Nat) (g : List D → Dv → Option Dv) : TGs := fun v σ H Q => ∃ (ρ : Dv) (p : Pt M) (ds : List D) (ρ' : Dv), p.H = H ∧ EnvD M p σ ρ ∧ p.Ok ∧ DenL K p.ad p.Hv ds v ∧ g ds ρ = some ρ' ∧ ∀ σ', EnvD M p σ' ρ' → wipe σ' vs = wipe σ vs → Q σ' p.H
def gdName (i : Nat) : D → Dv → Option Dv := fun d ρ => if i < ρ.length then some (ρ.set i (some d)) else none
def gdNil : List D → Dv → Option Dv := fun ds ρ => match ds with
  | [] => some ρ
  | _ => none
def gdCons (g : D → Dv → Option Dv) (gs : List D → Dv → Option Dv) : List D → Dv → Option Dv := fun ds ρ => match ds with
  | d :: r => (g d ρ).bind (gs r)
  | [] => none
def gdTup (n : Nat) (gs : List D → Dv → Option Dv) : D → Dv → Option Dv := fun d ρ => match d with
  | .tup ds => if ds.length = n then gs ds ρ else none
  | _ => none
/-- the loop of a comprehension -/
def lcG (g : D → Dv → Option Dv) (et : Ev M Bool) (ee : Ev M D) (ρ : Dv) : List D → List D → M.S → Gx M R
  | [], acc, s => .ret (.fr (.lst acc), s)
  | d :: ds, acc, s => match g d ρ with
    | none => .bad
    | some ρ1 => (et ρ1 s).noX.bind fun b => if b.1 = true then (ee ρ1 b.2).noX.bind fun y => if acc.length < big then lcG g et ee ρ ds (acc ++ [y.1]) y.2 else .bad else lcG g et ee ρ ds acc b.2
def eLc (vs : List Nat) (ei : Ev M (List D)) (g : D → Dv → Option Dv) (et : Ev M Bool) (ee : Ev M D) : Ev M R := fun ρ s => (ei ρ s).bind fun r => lcG g et ee (wipeD vs ρ) r.1 [] r.2
def eYes : Ev M Bool := fun _ s => .ret (true, s)
end
theorem wipe_set {σ : Sl} {i : Nat} {o : Option V} : ∀ {vs : List Nat}, i ∈ vs → wipe (σ.set i o) vs = wipe σ vs := by
  intro vs hi
  refine List.ext_getElem? fun j => ?_
  by_cases hj : j ∈ vs
  · have none_at : ∀ (τ : Sl) (vs : List Nat), j ∈ vs → (wipe τ vs)[j]? = if j < τ.length then some none else none := by
      intro τ vs
      induction vs generalizing τ with
      | nil => intro h; cases h
      | cons v vs ih =>
        intro h
        show ((wipe τ vs).set v none)[j]? = _
        by_cases e : v = j
        · subst e
          by_cases hl : v < τ.length
          · rw [List.getElem?_set_self (by rw [wipe_length]; exact hl), if_pos hl]
          · rw [if_neg hl, List.getElem?_eq_none_iff.mpr (by simp [wipe_length]; omega)]
        · rw [List.getElem?_set_ne e]
          rcases List.mem_cons.mp h with e' | e'
          · exact absurd e'.symm e
          · exact ih τ e' 
    rw [none_at _ _ hj, none_at _ _ hj]; simp
  · have : i ≠ j := fun e => hj (e ▸ hi)
    rw [wipe_out hj, wipe_out hj, List.getElem?_set_ne this]
theorem wipe_at {j : Nat} : ∀ (vs : List Nat) (τ : Sl), j ∈ vs → (wipe τ vs)[j]? = if j < τ.length then some none else none
  | [], _, h => by cases h
  | v :: vs, τ, h => by
    show ((wipe τ vs).set v none)[j]? = _
    by_cases e : v = j
    · subst e
      by_cases hl : v < τ.length
      · rw [List.getElem?_set_self (by rw [wipe_length]; exact hl), if_pos hl]
      · rw [if_neg hl, List.getElem?_eq_none_iff.mpr (by simp [wipe_length]; omega)]
    · rw [List.getElem?_set_ne e]
      rcases List.mem_cons.mp h with e' | e'
      · exact absurd e'.symm e
      · exact wipe_at vs τ e'
theorem wipe_idem {σ : Sl} {vs : List Nat} : wipe (wipe σ vs) vs = wipe σ vs := by
  refine List.ext_getElem? fun j => ?_
  by_cases hj : j ∈ vs
  · rw [wipe_at vs _ hj, wipe_at vs _ hj, wipe_length]
  · rw [wipe_out hj]
section
variable {X : Cx} {M : WM X.K} {W : WX} {e a b iter tg elt : Expr} {es rest : List Expr} {pos : Pos} {ea eb ec : Ev M D} {er : Ev M R} {el ei : Ev M (List D)} {vs : List Nat}
theorem cg_name (i : Nat) {x : Str} (hv : i ∈ vs := by decide) (hN : X.N.Nodup) (hi : X.N[i]? = some x := by rfl) (hx : Loc X.env.scope x := by first | exact Or.inl rfl | exact Or.inr rfl)
    (hf : X.fn x = true ∨ X.env.scope.names.lookup x = some .local := by first | exact .inl rfl | exact .inr rfl) : PG X (.Name x pos) (tGd M vs (gdName i)) := (pg_name hN hi hx hf).con fun v σ H Q ⟨ρ, p, d, ρ', hH, en, ok, hd, hg, q⟩ => by
  subst hH
  unfold gdName at hg
  split at hg
  · rename_i hil
    cases hg
    refine q (σ.set i (some v)) ⟨by simp [en.len], fun j d' e => ?_⟩ (wipe_set hv)
    by_cases hj : i = j
    · subst hj
      rw [List.getElem?_set_self hil] at e
      cases e
      exact ⟨v, by rw [List.getElem?_set_self (by rw [en.len]; exact hil)], hd⟩
    · rw [List.getElem?_set_ne hj] at e ⊢
      exact en.get j d' e
  · cases hg
theorem cgs_nil : PGs X [] (tGds M vs gdNil) := pgs_nil.con fun v σ H Q ⟨ρ, p, ds, ρ', hH, en, ok, hd, hg, q⟩ => by
  subst hH
  cases ds with
  | nil => cases hg; cases hd; exact ⟨rfl, q σ en rfl⟩
  | cons _ _ => cases hg
theorem cgs_cons {g : D → Dv → Option Dv} {gs : List D → Dv → Option Dv} (h : PG X e (tGd M vs g)) (hr : PGs X es (tGds M vs gs)) (hs : (assignEach (e :: es) X.env).map (·.2) = assign e X.env :: (assignEach es X.env).map (·.2) := by rfl) :
    PGs X (e :: es) (tGds M vs (gdCons g gs)) := (pgs_cons h hr hs).con fun v σ H Q ⟨ρ, p, ds, ρ', hH, en, ok, hd, hg, q⟩ => by
  subst hH
  cases ds with
  | nil => cases hg
  | cons d r =>
    obtain ⟨x, ws, rfl, h1, h2⟩ := hd
    simp only [gdCons] at hg
    cases z : g d ρ with
    | none => rw [z] at hg; cases hg
    | some ρ1 =>
      rw [z] at hg
      exact ⟨x, ws, rfl, ρ, p, d, ρ1, rfl, en, ok, h1, z, fun σ' en' hw => ⟨ρ1, p, r, ρ', rfl, en', ok, h2, hg, fun σ2 en2 hw2 => q σ2 en2 (hw2.trans hw)⟩⟩
theorem cg_tup (n : Nat) {gs : List D → Dv → Option Dv} {k : Nat} (hc : X.calm = true) (h : PGs X es (tGds M vs gs)) (hn : (assignEach es X.env).length = n := by rfl) (hst : (assignEach es X.env).findIdx? (·.1) = none := by rfl) :
    PG X (.Tuple es k pos) (tGd M vs (gdTup n gs)) := (pg_tup hc h hn hst).con fun v σ H Q ⟨ρ, p, d, ρ', hH, en, ok, hd, hg, q⟩ => by
  subst hH
  cases d <;> first | (cases hg; done) | skip
  obtain ⟨a, ws, rfl, h1, h2⟩ := hd
  simp only [gdTup] at hg
  split at hg
  · rename_i hl
    exact ⟨a, ws, rfl, sqT_H ok h1, h2.length.trans hl, ρ, p, _, ρ', rfl, en, ok, h2, hg, q⟩
  · cases hg
theorem _root_.L2.PTs.con {X : Cx} {e : List Expr} {t t' : TT} (h : PTs X e t) (i : ∀ σ H Q, t' σ H Q → t σ H Q) : PTs X e t' := ⟨fun pins s σ H Q I q => h.run pins s σ H Q I (i _ _ _ q)⟩
theorem tts_nil : PTs X [] (tB' M X.mg W eYes) := pts_nil.con fun σ H Q ⟨ρ, p, hH, ok, en, q⟩ => by
  subst hH
  exact q p (Ext.refl p) ok rfl
theorem tts_one {c : Expr} {et : Ev M Bool} (h : PT X c (tB' M X.mg W et)) : PTs X [c] (tB' M X.mg W et) := pts_one h
abbrev W0 : WX := fun _ _ _ _ => False
/-- what the drawing law of a one-line list asks, from its reading -/
theorem tLc_of {g : D → Dv → Option Dv} {et : Ev M Bool} {σ : Sl} {H : Hp} {Q : V → Hp → Prop} (h : tR M X.mg W (eLc vs ei g et ea) σ H Q) :
    tLc (tIt M W ei) (tGd M vs g) (tB' M X.mg W0 et) (tD M X.mg W0 ea) vs σ H Q := by
  obtain ⟨ρ, p, hH, okp, en, q⟩ := h
  subst hH
  unfold tLc
  refine ⟨ρ, p, rfl, okp, en, G.all_mono (fun r hr J q0 e0 ok0 es sv D hD => ?_) (fun _ h => h) (G.all_bind.mp q)⟩
  rw [← es] at hr
  have hnew : p.H D = none ∨ p.F D := newOld e0 hD
  have okd := ok_hid ok0 hD (o := .lst [])
  refine ⟨fun i n H' => n = r.1.length - i ∧ i ≤ r.1.length ∧ ∃ (acc : List VQ.D) (av : List V) (q' : Pt M), q'.H = H' ∧ q'.Ok ∧ Ext q0 q' ∧ q'.H D = some (.lst av) ∧ q'.Hv D = none ∧ ¬ q'.F D ∧ DenL X.K q'.ad q'.Hv acc av ∧
    (lcG g et ea (wipeD vs ρ) (r.1.drop i) acc q'.s).all (fun r => ∀ v (q : Pt M), Ext p q → q.Ok → q.s = r.2 → ROk p q r.1 v → Q v q.H) (XEnd M X.mg p W σ),
    ⟨r.1.length, by simp, Nat.zero_le _, [], [], q0.hid D (.lst []), rfl, okd, ext_hid hD, upd_same, ok0.vn hD, ok0.fn hD, DenL.nil, hr⟩, ?_⟩
  rintro i n H' ⟨rfl, hile, acc, av, q', rfl, ok', e', hDl, hDv, hDf, da, hl⟩
  have vw : Same q0.Hv q'.H := e'.view.tr ok'.view
  obtain ⟨s1, s2⟩ := sv q'.H vw
  by_cases hlt : i < r.1.length
  · have hd : r.1[i]? = some r.1[i] := by simp [hlt]
    obtain ⟨g1, g2⟩ := s2 i _ hd
    refine .inr ⟨g1, fun H2 => ∃ (acc : List VQ.D) (av : List V) (q' : Pt M), q'.H = H2 ∧ q'.Ok ∧ Ext q0 q' ∧ q'.H D = some (.lst av) ∧ q'.Hv D = none ∧ ¬ q'.F D ∧ DenL X.K q'.ad q'.Hv acc av ∧
      (lcG g et ea (wipeD vs ρ) (r.1.drop (i + 1)) acc q'.s).all (fun r => ∀ v (q : Pt M), Ext p q → q.Ok → q.s = r.2 → ROk p q r.1 v → Q v q.H) (XEnd M X.mg p W σ), fun H2 ⟨acc, av, q2, a1, a2⟩ => ⟨r.1.length - (i + 1), by omega, rfl, hlt, acc, av, q2, a1, a2⟩, fun x H2 y => ?_⟩
    have hdrop : r.1.drop i = r.1[i] :: r.1.drop (i + 1) := List.drop_eq_getElem_cons hlt
    rw [hdrop] at hl
    simp only [lcG] at hl
    cases zg : g r.1[i] (wipeD vs ρ) with
    | none => rw [zg] at hl; exact hl.elim
    | some ρ1 =>
      rw [zg] at hl
      obtain ⟨q1, eH, eS, e1, ok1, e1', dn⟩ : ∃ q1 : Pt M, q1.H = H2 ∧ q1.s = q'.s ∧ Ext q0 q1 ∧ q1.Ok ∧ Ext q' q1 ∧ Den X.K q1.ad q1.Hv r.1[i] x := by
        rcases g2 x H2 y with ⟨rfl, dx⟩ | ⟨a, vs, ds, ha, rfl, rfl, ed, dl⟩ | ⟨a, vs, ds, b, v0, d0, ha, hb, rfl, rfl, ed, dl, d1⟩
        · exact ⟨q', rfl, rfl, e', ok', Ext.refl _, e'.den dx⟩
        · have el := ext_lay ok' ha (o := .tup vs)
          exact ⟨q'.lay a (.tup vs), rfl, rfl, e'.trans el, ok_lay ok' ha, el, by rw [ed]; exact ⟨a, vs, rfl, SqT.of upd_same, (e'.trans el).denL dl⟩⟩
        · have el := ext_lay ok' ha (o := .tup vs)
          have ok2 := ok_lay ok' ha (o := .tup vs)
          have el2 := ext_lay ok2 (a := b) hb (o := .tup [v0, .ref a])
          have da : Den X.K q'.ad (q'.lay a (.tup vs)).Hv (.tup ds) (.ref a) := ⟨a, vs, rfl, SqT.of upd_same, (e'.trans el).denL dl⟩
          have d2 : Den X.K q'.ad (q'.lay a (.tup vs)).Hv d0 v0 := (e'.trans el).den d1
          exact ⟨(q'.lay a (.tup vs)).lay b (.tup [v0, .ref a]), rfl, rfl, (e'.trans el).trans el2, ok_lay ok2 hb, el.trans el2, by rw [ed]; exact ⟨b, _, rfl, SqT.of upd_same, DenL.cons (el2.den d2) (DenL.one (el2.den da))⟩⟩
      -- the list stays hidden behind each part
      have keepD : ∀ {q2 : Pt M}, Ext q' q2 → q2.H D = some (.lst av) ∧ q2.Hv D = none ∧ ¬ q2.F D := fun {q2} ex => by
        refine ⟨ex.frame D _ hDl hDf, ?_, fun z => ?_⟩
        · cases z : q2.Hv D with
          | none => rfl
          | some o =>
            rcases ex.new D o z with ⟨o', z'⟩ | z' | z'
            · rw [hDv] at z'; cases z'
            · rw [hDl] at z'; cases z'
            · exact absurd z' hDf
        · rcases ex.foot D z with z | z
          · exact hDf z
          · rw [hDl] at z; cases z
      rw [← eH]
      refine ⟨wipeD vs ρ, q1, r.1[i], ρ1, rfl, wipe_env (en.ext (e0.trans e1)), ok1, dn, zg, fun σ2 en2 hw => ⟨hw.trans wipe_idem, ?_⟩⟩
      rw [← eS] at hl
      refine ⟨ρ1, q1, rfl, ok1, en2, G.all_mono (fun b hb q2 e2 ok2 es2 => ?_) (fun _ h => h) (G.all_noX (E' := XEnd M X.mg q1 W0 σ2) (G.all_bind.mp hl))⟩
      obtain ⟨b, sb⟩ := b
      have es4 : q2.s = sb := es2
      cases b with
      | true =>
        have hb' : ((ea ρ1 sb).noX.bind _).all _ _ := hb
        rw [← es4] at hb'
        refine ⟨ρ1, q2, rfl, ok2, en2.ext e2, G.all_mono (fun y hy v q3 e3 ok3 es3 dy => ?_) (fun _ h => h) (G.all_noX (E' := XEnd M X.mg q2 W0 σ2) (G.all_bind.mp hb'))⟩
        obtain ⟨k1, k2, k3⟩ := keepD ((e1'.trans e2).trans e3)
        split at hy
        · rename_i hbig
          refine ⟨av, k1, ?_, acc ++ [y.1], av ++ [v], ⟨q3.s, q3.F, q3.Hv, upd q3.H D (.lst (av ++ [v])), q3.ad⟩, rfl, ?_, ?_, upd_same, k2, k3, ?_, by rw [← es3] at hy; exact hy⟩
          · rw [da.length]
            have : big < sizeLine := by rw [sizeLine_eq]; decide
            omega
          · have sm : Same q3.Hv (upd q3.H D (.lst (av ++ [v]))) := fun b o hb => by
              have : b ≠ D := fun z => by rw [z, k2] at hb; cases hb
              rw [upd_ne this]; exact ok3.view _ _ hb
            exact ⟨sm, ok3.off, M.stay ok3.rep Same.rfl' fun b o fb hb => by
              have : b ≠ D := fun z => k3 (z ▸ fb)
              show upd q3.H D (.lst (av ++ [v])) b = some o
              rw [upd_ne this]; exact hb⟩
          · have e13 := ((e1.trans e2).trans e3)
            exact ⟨e13.view, fun b o hb nf => by
              have : b ≠ D := ne_of_none hb hD
              show upd q3.H D _ b = some o
              rw [upd_ne this]; exact e13.frame b o hb nf, e13.new, e13.foot, e13.ad⟩
          · exact (((e1'.trans e2).trans e3).denL da).append (DenL.one dy)
        · exact hy.elim
      | false =>
        have hb' : (lcG g et ea (wipeD vs ρ) (r.1.drop (i + 1)) acc sb).all _ _ := hb
        rw [← es4] at hb'
        obtain ⟨k1, k2, k3⟩ := keepD (e1'.trans e2)
        exact ⟨acc, av, q2, rfl, ok2, e1.trans e2, k1, k2, k3, (e1'.trans e2).denL da, hb'⟩
  · have ei : i = r.1.length := by omega
    subst ei
    rw [List.drop_length] at hl
    exact .inl ⟨s1 _ rfl, hl (.ref D) q' (e0.trans e') ok' rfl ⟨D, .lst av, rfl, hDl, hDv, hDf, hnew, da⟩⟩
/-- [elt for tg in iter if ..] -/
theorem ev_lc (own : List (Str × Nat)) {ifs : List Expr} {scope : Scope} {g : D → Dv → Option Dv} {et : Ev M Bool} (hc : X.calm = true) (hN : X.N.Nodup) (hi : PI X tg iter (tIt M W ei)) (ok : BlkOk X.N X.env.scope scope own)
    (hg : ∀ (s : Shared) (H : Hp) (C : Addr) (cl : List (Str × Addr)) (fp : List Addr), PG (X.blk s H scope (compEnvC scope cl C X.env) fp) tg (tGd M (own.map (·.2)) g))
    (ht : ∀ (s : Shared) (H : Hp) (C : Addr) (cl : List (Str × Addr)) (fp : List Addr), PTs (X.blk s H scope (compEnvC scope cl C X.env) fp) ifs (tB' M X.mg W0 et))
    (he : ∀ (s : Shared) (H : Hp) (C : Addr) (cl : List (Str × Addr)) (fp : List Addr), PE (X.blk s H scope (compEnvC scope cl C X.env) fp) elt (tD M X.mg W0 ea)) (hs : ∀ x, foldedSetIterable iter X.env x = pure x := by intro _; rfl)
    : PE X (.ListComp elt [⟨tg, iter, ifs, 0⟩] scope pos) (tR M X.mg W (eLc (own.map (·.2)) ei g et ea)) := (pe_lc hc hN hi ok hg ht he hs).con fun _ _ _ h => tLc_of h
end
end VQ

/-! VqK: iterators; append, item stores, while, op=. -/
namespace VQ
open PySem PySem.Spec PyProof.Rows L2
section
variable {X : Cx} {M : WM X.K} {W : WX} {e a b c iter tg elt : Expr} {es rest : List Expr} {pos : Pos} {ea eb ec : Ev M D} {er : Ev M R} {el ei : Ev M (List D)} {m vs : List Nat}
def seqOf (lst : Bool) : D → Option (List D)
  | .lst l => if lst then some l else none
  | .tup l => if lst then none else some l
  | _ => none
def eItems {K : PySem.W.Frag} {M : WM K} (f : D → Option (List D)) (ea : Ev M D) : Ev M (List D) := fun ρ s => (ea ρ s).bind fun a => op (f a.1) a.2
theorem it_of {f : D → Option (List D)} {wi : TE → TI} (hp : PI X tg e (wi (tD M X.mg W ea))) (h : ∀ {σ : Sl} {H : Hp} {R : It → Hp → Prop}, (tD M X.mg W ea σ H fun x H1 => ∃ (q : Pt M) (d : D) (l : List D), q.H = H1 ∧ q.Ok ∧ Den X.K q.ad q.Hv d x ∧ f d = some l ∧ ∀ J, Serves J l q → R J H1) → wi (tD M X.mg W ea) σ H R) :
    PI X tg e (tIt M W (eItems f ea)) := hp.con fun σ H R ⟨ρ, p, hH, ok, en, q⟩ => by
  subst hH
  refine h (tG.seq ok en q fun r1 x q1 ex1 ok1 es1 dx h1 => ?_)
  cases z : f r1.1 with
  | none => simp only [op, z] at h1; exact h1.elim
  | some l =>
    simp only [op, z] at h1
    exact ⟨q1, r1.1, l, rfl, ok1, dx, z, fun J sv => h1 J q1 ex1 ok1 es1 sv⟩
theorem sv_list {q : Pt M} {a : Addr} {l : List D} {vs : List V} (h : q.Hv a = some (.lst vs)) (d : DenL X.K q.ad q.Hv l vs) : Serves (Itl X.K a) l q := fun H' sm => by
  have hs : SqL X.K H' a vs := SqL.of (sm _ _ h)
  refine ⟨fun i hi => ⟨vs, hs, by rw [d.length]; exact Nat.le_of_eq hi⟩, fun i y hy => ?_⟩
  obtain ⟨v, h1, h2⟩ := d.get hy
  refine ⟨⟨vs, v, hs, h1⟩, fun x H2 ⟨e, z⟩ => .inl ⟨e, ?_⟩⟩
  have := z vs hs
  rw [h1] at this; cases this
  exact h2
theorem sv_tup {q : Pt M} {a : Addr} {l : List D} {vs : List V} (h : SqT X.K q.Hv a vs) (d : DenL X.K q.ad q.Hv l vs) : Serves (Itt X.K a) l q := fun H' sm => by
  have hs : SqT X.K H' a vs := sqT_same sm h
  refine ⟨fun i hi => ⟨vs, hs, by rw [d.length]; exact Nat.le_of_eq hi⟩, fun i y hy => ?_⟩
  obtain ⟨v, h1, h2⟩ := d.get hy
  refine ⟨⟨vs, v, hs, h1⟩, fun x H2 ⟨e, z⟩ => .inl ⟨e, ?_⟩⟩
  have := z vs hs
  rw [h1] at this; cases this
  exact h2
/-- for x in a list -/
theorem it_list (ha : PE X e (tD M X.mg W ea)) : PI X tg e (tIt M W (eItems (seqOf true) ea)) := it_of (pi_list ha) fun h => by
  obtain ⟨ρ, p, hH, ok, en, q⟩ := h
  refine ⟨ρ, p, hH, ok, en, G.all_mono (fun r hr v q e ok es dn => ?_) (fun _ h => h) q⟩
  obtain ⟨q', d, l, eH, ok', dx, hf, hJ⟩ := hr v q e ok es dn
  cases d <;> first | (cases hf; done) | skip
  cases hf
  obtain ⟨a, vs, rfl, h1, h2⟩ := dx
  exact ⟨a, rfl, ⟨vs, SqL.of (by rw [← eH]; exact ok'.view _ _ h1)⟩, hJ _ (sv_list h1 h2)⟩
theorem it_tup (ha : PE X e (tD M X.mg W ea)) : PI X tg e (tIt M W (eItems (seqOf false) ea)) := it_of (pi_tup ha) fun h => by
  obtain ⟨ρ, p, hH, ok, en, q⟩ := h
  refine ⟨ρ, p, hH, ok, en, G.all_mono (fun r hr v q e ok es dn => ?_) (fun _ h => h) q⟩
  obtain ⟨q', d, l, eH, ok', dx, hf, hJ⟩ := hr v q e ok es dn
  cases d <;> first | (cases hf; done) | skip
  cases hf
  obtain ⟨a, vs, rfl, h1, h2⟩ := dx
  exact ⟨a, rfl, ⟨vs, by rw [← eH]; exact sqT_H ok' h1⟩, hJ _ (sv_tup h1 h2)⟩
/-- the signs of a text -/
def signsOf : D → Option (List D)
  | .str s => some (s.map fun c => .str [c])
  | _ => none
theorem it_str (ha : PE X e (tD M X.mg W ea)) : PI X tg e (tIt M W (eItems signsOf ea)) := it_of (pi_str ha) fun h => by
  obtain ⟨ρ, p, hH, ok, en, q⟩ := h
  refine ⟨ρ, p, hH, ok, en, G.all_mono (fun r hr v q e ok es dn => ?_) (fun _ h => h) q⟩
  obtain ⟨q', d, l, eH, ok', dx, hf, hJ⟩ := hr v q e ok es dn
  cases d <;> first | (cases hf; done) | skip
  rename_i s
  cases hf
  cases dx
  refine ⟨_, rfl, hJ _ fun H' sm => ⟨fun i hi => ?_, fun i y hy => ?_⟩⟩
  · show (s.toArray).size ≤ i
    simpa using Nat.le_of_eq hi
  · rw [List.getElem?_map] at hy
    cases z : s[i]? with
    | none => rw [z] at hy; cases hy
    | some c =>
      rw [z] at hy; cases hy
      have hi : i < s.length := (List.getElem?_eq_some_iff.mp z).1
      refine ⟨by show i < (s.toArray).size; simpa using hi, fun x H2 ⟨e, c', h1, h2⟩ => .inl ⟨e, ?_⟩⟩
      have h1 : s.toArray[i]? = some c' := h1
      rw [List.getElem?_toArray, z] at h1; cases h1
      rw [h2]; rfl
/-- for i in range(..) -/
def upTo (lo : Int) (n : Nat) : List D := (List.range n).map fun k => .int (lo + (k : Nat))
def downFrom (hi : Int) (n : Nat) : List D := (List.range n).map fun (k : Nat) => .int (hi + (k : Nat) * (-1))
noncomputable def in62 (i : Int) : Bool := decide (-lk (2 ^ 62) ≤ i) && decide (i < lk (2 ^ 62))
theorem in62_ok {i : Int} (h : in62 i = true) : -(2 ^ 62) ≤ i ∧ i < 2 ^ 62 := by
  unfold in62 at h
  rw [lk_eq, Bool.and_eq_true] at h
  exact ⟨of_decide_eq_true h.1, of_decide_eq_true h.2⟩
noncomputable def rng1 : D → Option (List D)
  | .int j => if in62 j = true then some (upTo 0 j.toNat) else none
  | _ => none
noncomputable def rng2 : D → D → Option (List D)
  | .int i, .int j => if (in62 i && in62 j) = true then some (upTo i (j - i).toNat) else none
  | _, _ => none
noncomputable def rngD : D → D → D → Option (List D)
  | .int i, .int j, .int c => if (in62 i && in62 j && decide (c = -1)) = true then some (downFrom i (i - j).toNat) else none
  | _, _, _ => none
def eI1 {K : PySem.W.Frag} {M : WM K} (f : D → Option (List D)) (ea : Ev M D) : Ev M (List D) := fun ρ s => (ea ρ s).bind fun a => op (f a.1) a.2
def eI2 {K : PySem.W.Frag} {M : WM K} (f : D → D → Option (List D)) (ea eb : Ev M D) : Ev M (List D) := fun ρ s => (ea ρ s).bind fun a => (eb ρ a.2).bind fun b => op (f a.1 b.1) b.2
def eI3 {K : PySem.W.Frag} {M : WM K} (f : D → D → D → Option (List D)) (ea eb ec : Ev M D) : Ev M (List D) := fun ρ s => (ea ρ s).bind fun a => (eb ρ a.2).bind fun b => (ec ρ b.2).bind fun c => op (f a.1 b.1 c.1) c.2
theorem map_get {n : Nat} {f : Nat → D} {i : Nat} {y : D} (h : ((List.range n).map f)[i]? = some y) : i < n ∧ y = f i := by
  rw [List.getElem?_map] at h
  cases z : (List.range n)[i]? with
  | none => rw [z] at h; cases h
  | some c =>
    rw [z] at h; cases h
    obtain ⟨h1, h2⟩ := List.getElem?_eq_some_iff.mp z
    exact ⟨by simpa using h1, by simp at h2; rw [h2]⟩
theorem sv_rng {q : Pt M} {lo : Int} {n : Nat} : Serves (Itr lo n) (upTo lo n) q := fun H' sm => by
  refine ⟨fun i hi => ?_, fun i y hy => ?_⟩
  · show n ≤ i
    simpa [upTo] using Nat.le_of_eq hi
  · obtain ⟨h1, rfl⟩ := map_get hy
    exact ⟨h1, fun x H2 ⟨e, h⟩ => .inl ⟨e, h⟩⟩
theorem sv_rngD {q : Pt M} {hi : Int} {n : Nat} : Serves (Itc hi (-1) n) (downFrom hi n) q := fun H' sm => by
  refine ⟨fun i hi => ?_, fun i y hy => ?_⟩
  · show n ≤ i
    simpa [downFrom] using Nat.le_of_eq hi
  · obtain ⟨h1, rfl⟩ := map_get hy
    exact ⟨h1, fun x H2 ⟨e, h⟩ => .inl ⟨e, h⟩⟩
theorem it_range1 {p pos : Pos} (hm : X.mg "range" = none) (ha : PE X a (tD M X.mg W ea)) (hg : Gl X "range" := by rfl) (hs : starEach [a] X.env = [(false, eval a X.env)] := by rfl) :
    PI X tg (.Call (.Name "range" p) [a] [] pos) (tIt M W (eI1 rng1 ea)) := (pi_range1 hg hm (pa_cons ha pa_nil hs) hs).con fun σ H R ⟨ρ, p, hH, ok, en, q⟩ => by
  subst hH
  show tD M X.mg W ea σ p.H fun x H1 => ∃ j : Int, [x] = [.int j] ∧ -(2 ^ 62) ≤ j ∧ j < 2 ^ 62 ∧ R (Itr 0 j.toNat) H1
  refine tG.seq ok en q fun r1 x q1 ex1 ok1 es1 dx h1 => ?_
  obtain ⟨d, s1⟩ := r1
  cases z : rng1 d with
  | none => simp only [op, z] at h1; exact h1.elim
  | some items =>
    simp only [op, z] at h1
    cases d <;> first | (cases z; done) | skip
    cases dx
    simp only [rng1] at z
    split at z
    · rename_i hb
      cases z
      exact ⟨_, rfl, (in62_ok hb).1, (in62_ok hb).2, h1 _ q1 ex1 ok1 es1 sv_rng⟩
    · cases z
theorem it_range2 {p pos : Pos} (hm : X.mg "range" = none) (ha : PE X a (tD M X.mg W ea)) (hb : PE X b (tD M X.mg W eb)) (hg : Gl X "range" := by rfl) (hs : starEach [a, b] X.env = [(false, eval a X.env), (false, eval b X.env)] := by rfl) (hs2 : starEach [b] X.env = [(false, eval b X.env)] := by rfl) :
    PI X tg (.Call (.Name "range" p) [a, b] [] pos) (tIt M W (eI2 rng2 ea eb)) := (pi_range2 hg hm (pa_cons ha (pa_cons hb pa_nil hs2) (by rw [hs, hs2])) hs hs2).con fun σ H R ⟨ρ, p, hH, ok, en, q⟩ => by
  subst hH
  show tD M X.mg W ea σ p.H fun x H1 => tD M X.mg W eb σ H1 fun y H2 => ∃ i j : Int, [x, y] = [.int i, .int j] ∧ (-(2 ^ 62) ≤ i ∧ i < 2 ^ 62 ∧ -(2 ^ 62) ≤ j ∧ j < 2 ^ 62) ∧ R (Itr i (j - i).toNat) H2
  refine tG.seq ok en q fun r1 x q1 ex1 ok1 es1 dx h1 => ?_
  rw [← es1] at h1
  refine tG.seq ok1 (en.ext ex1) (XEnds ex1 h1 fun _ h => h) fun r2 y q2 ex2 ok2 es2 dy h2 => ?_
  obtain ⟨d, s1⟩ := r1
  obtain ⟨e, s2⟩ := r2
  cases z : rng2 d e with
  | none => simp only [op, z] at h2; exact h2.elim
  | some items =>
    simp only [op, z] at h2
    cases d <;> first | (cases z; done) | skip
    cases e <;> first | (cases z; done) | skip
    cases dx; cases dy
    simp only [rng2] at z
    split at z
    · rename_i hb
      rw [Bool.and_eq_true] at hb
      cases z
      exact ⟨_, _, rfl, ⟨(in62_ok hb.1).1, (in62_ok hb.1).2, (in62_ok hb.2).1, (in62_ok hb.2).2⟩, h2 _ q2 (ex1.trans ex2) ok2 es2 sv_rng⟩
    · cases z
theorem it_rangeD {p pos : Pos} (hm : X.mg "range" = none) (ha : PE X a (tD M X.mg W ea)) (hb : PE X b (tD M X.mg W eb)) (hcc : PE X c (tD M X.mg W ec)) (hg : Gl X "range" := by rfl)
    (hs : starEach [a, b, c] X.env = (false, eval a X.env) :: starEach [b, c] X.env := by rfl) (hs2 : starEach [b, c] X.env = (false, eval b X.env) :: starEach [c] X.env := by rfl) (hs3 : starEach [c] X.env = (false, eval c X.env) :: starEach [] X.env := by rfl) (hpl : (backTo pos (starEach [b, c] X.env)).any (·.1) = false := by rfl) :
    PI X tg (.Call (.Name "range" p) [a, b, c] [] pos) (tIt M W (eI3 rngD ea eb ec)) := (pi_range3 hg hm (pa_cons ha (pa_cons hb (pa_cons hcc pa_nil hs3) hs2) hs) hs hpl).con fun σ H R ⟨ρ, p, hH, ok, en, q⟩ => by
  subst hH
  show tD M X.mg W ea σ p.H fun x H1 => tD M X.mg W eb σ H1 fun y H2 => tD M X.mg W ec σ H2 fun w H3 => ∃ (i j c : Int) (n : Nat), [x, y, w] = [.int i, .int j, .int c] ∧ RgC i j c n ∧ R (Itc i c n) H3
  refine tG.seq ok en q fun r1 x q1 ex1 ok1 es1 dx h1 => ?_
  rw [← es1] at h1
  refine tG.seq ok1 (en.ext ex1) (XEnds ex1 h1 fun _ h => h) fun r2 y q2 ex2 ok2 es2 dy h2 => ?_
  rw [← es2] at h2
  refine tG.seq ok2 (en.ext (ex1.trans ex2)) (XEnds ex2 h2 fun _ h => h) fun r3 w q3 ex3 ok3 es3 dw h3 => ?_
  obtain ⟨d, s1⟩ := r1
  obtain ⟨e, s2⟩ := r2
  obtain ⟨f, s3⟩ := r3
  cases z : rngD d e f with
  | none => simp only [op, z] at h3; exact h3.elim
  | some items =>
    simp only [op, z] at h3
    cases d <;> first | (cases z; done) | skip
    cases e <;> first | (cases z; done) | skip
    cases f <;> first | (cases z; done) | skip
    cases dx; cases dy; cases dw
    simp only [rngD] at z
    split at z
    · rename_i hb
      rw [Bool.and_eq_true, Bool.and_eq_true, decide_eq_true_eq] at hb
      obtain ⟨⟨b1, b2⟩, b3⟩ := hb
      subst b3
      cases z
      exact ⟨_, _, _, _, rfl, RgC.neg (in62_ok b1).1 (in62_ok b1).2 (in62_ok b2).1 (in62_ok b2).2, h3 _ q3 ((ex1.trans ex2).trans ex3) ok3 es3 sv_rngD⟩
    · cases z
/-- for i in reversed(range(n)) -/
noncomputable def rev1 : D → Option (List D)
  | .int j => if in62 j = true then some (downFrom (0 + (((j - 0).toNat : Nat) : Int) - 1) (j - 0).toNat) else none
  | _ => none
theorem it_rev1 {p pos p2 pos2 : Pos} (hm : X.mg "range" = none) (hm2 : X.mg "reversed" = none) (ha : PE X a (tD M X.mg W ea)) (hg : Gl X "range" := by rfl) (hg2 : Gl X "reversed" := by rfl) (hs : starEach [a] X.env = (false, eval a X.env) :: starEach [] X.env := by rfl)
    (hs2 : starEach [.Call (.Name "range" p) [a] [] pos] X.env = (false, eval (.Call (.Name "range" p) [a] [] pos) X.env) :: starEach [] X.env := by rfl) :
    PI X tg (.Call (.Name "reversed" p2) [.Call (.Name "range" p) [a] [] pos] [] pos2) (tIt M W (eI1 rev1 ea)) := (pi_revR hg2 hm2 (prg_1 hg hm ha hs) hs2).con fun σ H R ⟨ρ, p, hH, ok, en, q⟩ => by
  subst hH
  show tD M X.mg W ea σ p.H fun x H1 => ∃ n, x = .int n ∧ (-(2 ^ 62) ≤ 0 ∧ (0 : Int) < 2 ^ 62 ∧ -(2 ^ 62) ≤ n ∧ n < 2 ^ 62 ∧ R (Itc (0 + (((n - 0).toNat : Nat) : Int) - 1) (-1) (n - 0).toNat) H1)
  refine tG.seq ok en q fun r1 x q1 ex1 ok1 es1 dx h1 => ?_
  obtain ⟨d, s1⟩ := r1
  cases z : rev1 d with
  | none => simp only [op, z] at h1; exact h1.elim
  | some items =>
    simp only [op, z] at h1
    cases d <;> first | (cases z; done) | skip
    cases dx
    simp only [rev1] at z
    split at z
    · rename_i hb
      cases z
      exact ⟨_, rfl, by decide, by decide, (in62_ok hb).1, (in62_ok hb).2, h1 _ q1 ex1 ok1 es1 sv_rngD⟩
    · cases z
/-! ### enumerate, zip -/
def numG : Nat → List D → List D
  | _, [] => []
  | k, d :: r => .tup [.int k, d] :: numG (k + 1) r
def enumOf : D → Option (List D)
  | .lst l => some (numG 0 l)
  | _ => none
theorem numG_len : ∀ (l : List D) (k : Nat), (numG k l).length = l.length
  | [], _ => rfl
  | _ :: r, k => by simp [numG, numG_len r (k + 1)]
theorem numG_get : ∀ (l : List D) (k i : Nat) (y : D), (numG k l)[i]? = some y → ∃ d, l[i]? = some d ∧ y = .tup [.int ((k + i : Nat) : Int), d]
  | [], _, _, _, h => by cases h
  | d :: r, k, 0, y, h => by
    simp only [numG, List.getElem?_cons_zero, Option.some.injEq] at h
    exact ⟨d, rfl, h.symm⟩
  | d :: r, k, i + 1, y, h => by
    simp only [numG, List.getElem?_cons_succ] at h
    obtain ⟨e, h1, h2⟩ := numG_get r (k + 1) i y h
    exact ⟨e, by simpa using h1, by rw [h2]; congr 3; omega⟩
theorem it_enum {p pos tpos : Pos} {elts : List Expr} {kk : Nat} (hm : X.mg "enumerate" = none) (ha : PE X a (tD M X.mg W ea)) (hg : Gl X "enumerate" := by rfl) (hs : starEach [a] X.env = [(false, eval a X.env)] := by rfl) :
    PI X (.Tuple elts kk tpos) (.Call (.Name "enumerate" p) [a] [] pos) (tIt M W (eI1 enumOf ea)) := (pi_enum hg hm (pa_cons ha pa_nil hs) hs).con fun σ H R ⟨ρ, p, hH, ok, en, q⟩ => by
  subst hH
  show tD M X.mg W ea σ p.H fun x H1 => ∃ a xs, [x] = [.ref a] ∧ SqL X.K H1 a xs ∧ R (Ite X.K a) H1
  refine tG.seq ok en q fun r1 x q1 ex1 ok1 es1 dx h1 => ?_
  obtain ⟨d, s1⟩ := r1
  cases z : enumOf d with
  | none => simp only [op, z] at h1; exact h1.elim
  | some items =>
    simp only [op, z] at h1
    cases d <;> first | (cases z; done) | skip
    cases z
    obtain ⟨a, vs, rfl, h2, h3⟩ := dx
    refine ⟨a, vs, rfl, SqL.of (ok1.view _ _ h2), h1 _ q1 ex1 ok1 es1 fun H' sm => ?_⟩
    have hsq : SqL X.K H' a vs := SqL.of (sm _ _ h2)
    refine ⟨fun i hi => ⟨vs, hsq, by rw [h3.length, ← numG_len _ 0]; exact Nat.le_of_eq hi⟩, fun i y hy => ?_⟩
    obtain ⟨d, g1, rfl⟩ := numG_get _ _ _ _ hy
    obtain ⟨v, g2, g3⟩ := h3.get g1
    refine ⟨⟨vs, v, hsq, g2⟩, fun x H2 ⟨T, x', e1, e2, e3, e4⟩ => .inr <| .inl ⟨T, _, _, e2, e1, e3, rfl, ?_⟩⟩
    have := e4 vs hsq
    rw [g2] at this; cases this
    exact ⟨_, _, rfl, by rw [Nat.zero_add]; rfl, DenL.one g3⟩
def zipT : List D → List D → List D
  | a :: r, b :: t => .tup [a, b] :: zipT r t
  | _, _ => []
theorem zipT_get : ∀ (l m : List D) (i : Nat) (y : D), (zipT l m)[i]? = some y → ∃ a b, l[i]? = some a ∧ m[i]? = some b ∧ y = .tup [a, b]
  | [], _, _, _, h => by simp [zipT] at h
  | _ :: _, [], _, _, h => by simp [zipT] at h
  | a :: r, b :: t, 0, y, h => by
    simp only [zipT, List.getElem?_cons_zero, Option.some.injEq] at h
    exact ⟨a, b, rfl, rfl, h.symm⟩
  | a :: r, b :: t, i + 1, y, h => by
    simp only [zipT, List.getElem?_cons_succ] at h
    obtain ⟨a', b', h1, h2, h3⟩ := zipT_get r t i y h
    exact ⟨a', b', by simpa using h1, by simpa using h2, h3⟩
theorem zipT_len : ∀ (l m : List D), (zipT l m).length = min l.length m.length
  | [], _ => by simp [zipT]
  | _ :: _, [] => by simp [zipT]
  | a :: r, b :: t => by simp [zipT, zipT_len r t]
/-- zip of two lists, of two tuples -/
def zipOf : D → D → Option (List D)
  | .lst l, .lst m => some (zipT l m)
  | .tup l, .tup m => some (zipT l m)
  | _, _ => none
theorem it_zip {p pos tpos : Pos} {elts : List Expr} {kk : Nat} (hm : X.mg "zip" = none) (ha : PE X a (tD M X.mg W ea)) (hb : PE X b (tD M X.mg W eb)) (hg : Gl X "zip" := by rfl)
    (hs : starEach [a, b] X.env = (false, eval a X.env) :: starEach [b] X.env := by rfl) (hs2 : starEach [b] X.env = (false, eval b X.env) :: starEach [] X.env := by rfl) (hpl : (backTo pos (starEach [b] X.env)).any (·.1) = false := by rfl) :
    PI X (.Tuple elts kk tpos) (.Call (.Name "zip" p) [a, b] [] pos) (tIt M W (eI2 zipOf ea eb)) := (RZ.pi_zipA hg hm (pa_cons ha (pa_cons hb pa_nil hs2) hs) hs hpl).con fun σ H R ⟨ρ, p, hH, ok, en, q⟩ => by
  subst hH
  show tD M X.mg W ea σ p.H fun x H1 => tD M X.mg W eb σ H1 fun y H2 => ∃ a b xs ys, [x, y] = [.ref a, .ref b] ∧ ((SqL X.K H2 a xs ∧ SqL X.K H2 b ys ∧ R (Itz X.K a b) H2) ∨ (SqT X.K H2 a xs ∧ SqT X.K H2 b ys ∧ R (RZ.ItzT X.K a b) H2))
  refine tG.seq ok en q fun r1 x q1 ex1 ok1 es1 dx h1 => ?_
  rw [← es1] at h1
  refine tG.seq ok1 (en.ext ex1) (XEnds ex1 h1 fun _ h => h) fun r2 y q2 ex2 ok2 es2 dy h2 => ?_
  obtain ⟨d, s1⟩ := r1
  obtain ⟨e, s2⟩ := r2
  have dx2 := ex2.den dx
  cases z : zipOf d e with
  | none => simp only [op, z] at h2; exact h2.elim
  | some items =>
    simp only [op, z] at h2
    cases d <;> first | (cases z; done) | skip
    · cases e <;> first | (cases z; done) | skip
      cases z
      obtain ⟨a, vs, rfl, a1, a2⟩ := dx2
      obtain ⟨b, ws, rfl, b1, b2⟩ := dy
      refine ⟨a, b, vs, ws, rfl, .inr ⟨sqT_H ok2 a1, sqT_H ok2 b1, h2 _ q2 (ex1.trans ex2) ok2 es2 fun H' sm => ?_⟩⟩
      have ha' : SqT X.K H' a vs := sqT_same sm a1
      have hb' : SqT X.K H' b ws := sqT_same sm b1
      refine ⟨fun i hi => ⟨vs, ws, ha', hb', ?_⟩, fun i y hy => ?_⟩
      · rw [zipT_len] at hi; rw [a2.length, b2.length]; omega
      · obtain ⟨d, e, g1, g2, rfl⟩ := zipT_get _ _ _ _ hy
        obtain ⟨v, g3, g4⟩ := a2.get g1
        obtain ⟨w, g5, g6⟩ := b2.get g2
        refine ⟨⟨vs, ws, v, w, ha', hb', g3, g5⟩, fun x H2 ⟨T, x', y', e1, e2, e3, e4, e5⟩ => .inr <| .inl ⟨T, _, _, e2, e1, e3, rfl, ?_⟩⟩
        have t1 := e4 vs ha'
        have t2 := e5 ws hb'
        rw [g3] at t1; cases t1
        rw [g5] at t2; cases t2
        exact ⟨_, _, rfl, g4, DenL.one g6⟩
    · cases e <;> first | (cases z; done) | skip
      cases z
      obtain ⟨a, vs, rfl, a1, a2⟩ := dx2
      obtain ⟨b, ws, rfl, b1, b2⟩ := dy
      refine ⟨a, b, vs, ws, rfl, .inl ⟨SqL.of (ok2.view _ _ a1), SqL.of (ok2.view _ _ b1), h2 _ q2 (ex1.trans ex2) ok2 es2 fun H' sm => ?_⟩⟩
      have ha' : SqL X.K H' a vs := SqL.of (sm _ _ a1)
      have hb' : SqL X.K H' b ws := SqL.of (sm _ _ b1)
      refine ⟨fun i hi => ⟨vs, ws, ha', hb', ?_⟩, fun i y hy => ?_⟩
      · rw [zipT_len] at hi; rw [a2.length, b2.length]; omega
      · obtain ⟨d, e, g1, g2, rfl⟩ := zipT_get _ _ _ _ hy
        obtain ⟨v, g3, g4⟩ := a2.get g1
        obtain ⟨w, g5, g6⟩ := b2.get g2
        refine ⟨⟨vs, ws, v, w, ha', hb', g3, g5⟩, fun x H2 ⟨T, x', y', e1, e2, e3, e4, e5⟩ => .inr <| .inl ⟨T, _, _, e2, e1, e3, rfl, ?_⟩⟩
        have t1 := e4 vs ha'
        have t2 := e5 ws hb'
        rw [g3] at t1; cases t1
        rw [g5] at t2; cases t2
        exact ⟨_, _, rfl, g4, DenL.one g6⟩
end
end VQ

/-! VqL: the law's world: the bag of draws, the tables of code objects; drawing. -/
namespace VQ
open PySem PySem.Spec PyProof.Rows L2
/-- the bag at b: its numbers at l, how many are taken, what is left of the last, two numbers more -/
structure BagAt (H : Hp) (b l : Addr) : Prop where
  ne : b ≠ l
  at_ : ∃ (ns : List Int) (c g st k : Int), H b = some (.lst [.ref l, .int c, .int g, .int st, .int k]) ∧ H l = some (.lst (ns.map V.int)) ∧ ns.length ≤ 63 ∧ 0 ≤ c ∧ c ≤ ns.length ∧ 0 ≤ g ∧ 0 ≤ st ∧ st < 2147483629
/-- an inner world: objects beside the bag -/
structure IW (K : PySem.W.Frag) where
  S : Type
  rep : S → (Nat → Option Addr) → (Addr → Prop) → Hp → Hp → Prop
  flat : S → Bool
  stay : ∀ {s ad F Hv Hv' H H'}, rep s ad F Hv H → Same Hv Hv' → (∀ b o, F b → H b = some o → H' b = some o) → rep s ad F Hv' H'
  less : ∀ {s ad F Hv Hv' H}, flat s = true → rep s ad F Hv H → Less Hv Hv' → rep s ad F Hv' H
  nt : ∀ {s ad F Hv H b}, rep s ad F Hv H → F b → ∀ ps, H b ≠ some (.tbl ps)
/-- the inner world's footprint lies beside the bag -/
structure InnerOk {K : PySem.W.Frag} (I : IW K) (s : I.S) (ad : Nat → Option Addr) (b l : Addr) (F FI : Addr → Prop) (Hv H : Hp) : Prop where
  sub : ∀ x, FI x → F x ∧ x ≠ b ∧ x ≠ l
  rep : I.rep s ad FI Hv H
def bagW (K : PySem.W.Frag) (b l : Addr) (T : List (Addr × Str)) (I : IW K) : WM K where
  S := I.S
  rep := fun s ad F Hv H => ad 0 = some b ∧ F b ∧ F l ∧ (∀ p ∈ T, TabF F H p.1 p.2) ∧ BagAt H b l ∧ (∀ x, F x → ∃ o, H x = some o) ∧ ∃ FI, InnerOk I s ad b l F FI Hv H
  flat := I.flat
  stay := fun {s ad F Hv Hv' H H'} ⟨hb, fb, fl, ht, ⟨ne, ns, c, g, st, k, h2, h3, h4⟩, hd, FI, hi⟩ hs hk => ⟨hb, fb, fl, fun p hp => by
    obtain ⟨o, ps, e1, e2, e3⟩ := ht p hp
    refine ⟨o, ps, hk _ _ o e1, e2, fun pos cv e => ?_⟩
    obtain ⟨c, c1, c2, c3⟩ := e3 pos cv e
    exact ⟨c, c1, hk _ _ c3 c2, c3⟩, ⟨ne, ns, c, g, st, k, hk _ _ fb h2, hk _ _ fl h3, h4⟩, fun x hx => by
    obtain ⟨o, e⟩ := hd x hx
    exact ⟨o, hk _ _ hx e⟩, FI, hi.sub, I.stay hi.rep hs fun x o hx e => hk x o (hi.sub x hx).1 e⟩
  less := fun hf ⟨hb, fb, fl, ht, hB, hd, FI, hi⟩ hl => ⟨hb, fb, fl, ht, hB, hd, FI, hi.sub, I.less hf hi.rep hl⟩
  dom := fun ⟨_, _, _, _, _, hd, _⟩ hx => hd _ hx
  T := T
  tabs := fun ⟨_, _, _, ht, _⟩ => ht
  grow := fun {s ad F F' Hv H H'} ⟨hb, fb, fl, ht, ⟨ne, ns, c, g, st, k, h2, h3, h4⟩, hd, FI, hi⟩ hF hk hT hD => ⟨hb, hF _ fb, hF _ fl, hT, ⟨ne, ns, c, g, st, k, hk _ _ fb h2 (fun _ z => by cases z), hk _ _ fl h3 (fun _ z => by cases z), h4⟩, hD, FI, fun x hx => ⟨hF _ (hi.sub x hx).1, (hi.sub x hx).2⟩,
    I.stay hi.rep Same.rfl' fun x o hx e => hk x o (hi.sub x hx).1 e fun ps z => I.nt hi.rep hx ps (by rw [e, z])⟩
/-- no objects -/
def noI (K : PySem.W.Frag) : IW K where
  S := Unit
  rep := fun _ _ F _ _ => ∀ x, ¬ F x
  flat := fun _ => true
  stay := fun h _ _ => h
  less := fun _ h _ => h
  nt := fun h hx => (h _ hx).elim
abbrev bagM (K : PySem.W.Frag) (b l : Addr) (T : List (Addr × Str)) : WM K := bagW K b l T (noI K)
/-- a number below n is drawn -/
def pullS {S : Type} : List D → S → G (Exc × S) (R × S)
  | [.obj 0, .int n], s => if 0 < n ∧ n < 1073741824 then .draw n.toNat fun r => .ret (.sh (.int (r : Nat)), s) else .bad
  | _, _ => .bad
section
variable {K : PySem.W.Frag} {b l : Addr} {T : List (Addr × Str)} {I : IW K}
/-- the bag is written -/
theorem bag_write {p : Pt (bagW K b l T I)} (ok : p.Ok) {c g st k : Int} {ns : List Int} (hl : p.H l = some (.lst (ns.map V.int))) (h63 : ns.length ≤ 63) (h1 : 0 ≤ c) (h2 : c ≤ ns.length) (h3 : 0 ≤ g) (h4 : 0 ≤ st) (h5 : st < 2147483629) :
    Ext p ⟨p.s, p.F, p.Hv, upd p.H b (.lst [.ref l, .int c, .int g, .int st, .int k]), p.ad⟩ ∧ (⟨p.s, p.F, p.Hv, upd p.H b (.lst [.ref l, .int c, .int g, .int st, .int k]), p.ad⟩ : Pt (bagW K b l T I)).Ok := by
  obtain ⟨hb, fb, fl, ht, ⟨ne, ns0, c0, g0, st0, k0, e2, e3, e4⟩, hd, FI, hi⟩ := ok.rep
  have nb : p.Hv b = none := ok.off b fb
  refine ⟨⟨Same.rfl', fun x o hx nf => ?_, fun x o hx => .inl ⟨o, hx⟩, fun _ h => .inl h, fun _ _ h => h⟩, ⟨fun x o hx => ?_, ok.off, ⟨hb, fb, fl, fun q hq => ?_, ⟨ne, ns, c, g, st, k, upd_same, ?_, h63, h1, h2, h3, h4, h5⟩, fun x hx => ?_, FI, hi.sub, I.stay hi.rep Same.rfl' fun x o hx e => by
    show upd p.H b _ x = some o
    rw [upd_ne (hi.sub x hx).2.1]; exact e⟩⟩⟩
  · have : x ≠ b := fun z => nf (z ▸ fb)
    show upd p.H b _ x = some o
    rw [upd_ne this]; exact hx
  · have : x ≠ b := fun z => by rw [z, nb] at hx; cases hx
    show upd p.H b _ x = some o
    rw [upd_ne this]; exact ok.view _ _ hx
  · obtain ⟨o, ps, a1, a2, a3⟩ := ht q hq
    have n1 : q.1 ≠ b := ne_of a1 e2 (by intro z; cases z)
    refine ⟨o, ps, by show upd p.H b _ _ = _; rw [upd_ne n1]; exact a1, a2, fun pos cv e => ?_⟩
    obtain ⟨c, c1, c2, c3⟩ := a3 pos cv e
    have n2 : c ≠ b := ne_of c2 e2 (by intro z; unfold LamX.CodeO at z; cases z)
    exact ⟨c, c1, by show upd p.H b _ _ = _; rw [upd_ne n2]; exact c2, c3⟩
  · show upd p.H b _ l = _
    rw [upd_ne (Ne.symm ne)]; exact hl
  · by_cases z : x = b
    · exact ⟨_, by rw [z]; exact upd_same⟩
    · obtain ⟨o, e⟩ := hd x hx
      exact ⟨o, by show upd p.H b _ x = _; rw [upd_ne z]; exact e⟩
theorem ix5_0 (l c g st k : V) : atI [l, c, g, st, k] 0 = some l := rfl
theorem ix5_1 (l c g st k : V) : atI [l, c, g, st, k] 1 = some c := rfl
theorem ix5_2 (l c g st k : V) : atI [l, c, g, st, k] 2 = some g := rfl
theorem ix5_3 (l c g st k : V) : atI [l, c, g, st, k] 3 = some st := rfl
theorem ix5_4 (l c g st k : V) : atI [l, c, g, st, k] 4 = some k := rfl
end
end VQ
namespace VQ
open PySem PySem.Spec PyProof.Rows L2
/-! ### _law_pull: its reading -/
section
variable (K : PySem.W.Frag)
def pIt (i : Int) : TE := tOp (rIxL K) (tVar 0) (tC (.int i))
def pLt (a b : TE) : TT := tTest (tOp (rI0 fun i j => .bl (decide (i < j))) a b)
def pGe (a b : TE) : TT := tTest (tOp (rI0 fun i j => .bl (decide (j ≤ i))) a b)
def pAdd (a b : TE) : TE := tOp (rI0 fun i j => .int (i + j)) a b
def pSub (a b : TE) : TE := tOp (rI0 fun i j => .int (i - j)) a b
def pMul (a b : TE) : TE := tOp (rI CMul fun i j => .int (i * j)) a b
def pMod (a b : TE) : TE := tOp (rI (fun _ j => 0 < j) fun i j => .int (i % j)) a b
def pDiv (a b : TE) : TE := tOp (rI CDiv fun i j => .int (i / j)) a b
def pPow (a b : TE) : TE := tOp (rI CPow fun i j => .int (i ^ j.toNat)) a b
def pSet (e : TE) (i : Int) : TS := tAsg e (gSub (tVar 0) (tC (.int i)) rSetL)
def pI (i : Int) : TE := tC (.int i)
def pBig : TE := pPow (pI 10) (pI 18)
def tPull3 : TS := tRet (pMod (pDiv (pIt K 3) (pI 19)) (tVar 1))
def tPull2 : TS := tSeq (tIfS (pGe (pIt K 2) (tVar 1))
        (tSeq (tAsg (pMod (pIt K 2) (tVar 1)) (gName 3))
          (tSeq (pSet (pDiv (pIt K 2) (tVar 1)) 2)
            (tRet (tVar 3)))) tNext)
      (tSeq (pSet (pAdd (pIt K 4) (pI 1)) 4)
        (tSeq (pSet (pMod (pAdd (pAdd (pAdd (pPow (pIt K 3) (pI 3)) (pMul (pI 40507) (pIt K 4))) (pDiv (pIt K 3) (pI 101))) (pI 7)) (pI 2147483629)) 3)
          (tPull3 K)))
def tPull1 : TS := pSet (pMod (pAdd (pAdd (pMul (pIt K 3) (pI 69069)) (pMul (tVar 2) (pI 5))) (pIt K 1)) (pI 2147483629)) 3
def tPull0 : TS := tSeq (pSet (tIf (pGe (tVar 2) pBig) (pSub (tVar 2) pBig) (pI 0)) 2) (tPull1 K)
def tPull : TS :=
  tSeq (tIfS (tAnd (pLt (pIt K 2) (tVar 1)) (pLt (pIt K 1) (tCB (fun xs H Q => ∃ x n, xs = [x] ∧ LenV K x H n ∧ Q (.int n) H) (tCons (pIt K 0) tNil))))
      (tSeq (tAsg (tOp (rIxL K) (pIt K 0) (pIt K 1)) (gName 2))
        (tSeq (pSet (pAdd (pIt K 1) (pI 1)) 1) (tPull0 K))) tNext)
    (tPull2 K)
end
section
variable {K : PySem.W.Frag} {b l : Addr} {T : List (Addr × Str)} {I : IW K}
theorem r_it {σ : Sl} {H : Hp} {Q : VK} {i : Int} {xs : List V} {v : V} (h0 : σ[0]? = some (some (.ref b))) (hb : H b = some (.lst xs)) (hi : atI xs i = some v) (h : Q v H) : pIt K i σ H Q :=
  ⟨.ref b, h0, b, xs, i, v, rfl, rfl, SqL.of hb, hi, h⟩
theorem r_i {σ : Sl} {H : Hp} {Q : VK} {i : Int} (h : Q (.int i) H) : pI i σ H Q := h
theorem r_big {σ : Sl} {H : Hp} {Q : VK} (h : Q (.int (10 ^ 18)) H) : pBig σ H Q := ⟨10, 18, rfl, rfl, ⟨by decide, by decide, by decide⟩, h⟩
def bagL (l : Addr) (c g st k : Int) : List V := [.ref l, .int c, .int g, .int st, .int k]
/-- what a state of the bag asks -/
structure BagIn (q : Pt (bagW K b l T I)) (ns : List Int) (c g st k : Int) : Prop where
  ok : q.Ok
  hb : q.H b = some (.lst (bagL l c g st k))
  hl : q.H l = some (.lst (ns.map V.int))
  h63 : ns.length ≤ 63
  c0 : 0 ≤ c
  c1 : c ≤ ns.length
  g0 : 0 ≤ g
  s0 : 0 ≤ st
  s1 : st < 2147483629
theorem BagIn.put {q : Pt (bagW K b l T I)} {ns : List Int} {c g st k c' g' st' k' : Int} (h : BagIn q ns c g st k) (h1 : 0 ≤ c') (h2 : c' ≤ ns.length) (h3 : 0 ≤ g') (h4 : 0 ≤ st') (h5 : st' < 2147483629) :
    ∃ q' : Pt (bagW K b l T I), q'.H = upd q.H b (.lst (bagL l c' g' st' k')) ∧ Ext q q' ∧ BagIn q' ns c' g' st' k' ∧ q'.s = q.s := by
  obtain ⟨e, o⟩ := bag_write h.ok (k := k') h.hl h.h63 h1 h2 h3 h4 h5
  refine ⟨_, rfl, e, ⟨o, upd_same, ?_, h.h63, h1, h2, h3, h4, h5⟩, rfl⟩
  show upd q.H b _ l = _
  obtain ⟨_, _, _, _, ⟨ne, _⟩, _⟩ := h.ok.rep
  rw [upd_ne (Ne.symm ne)]; exact h.hl
theorem pull_tail {p q : Pt (bagW K b l T I)} (e : Ext p q) (hs : q.s = p.s) {ns : List Int} {c g st k n : Int} (B : BagIn q ns c g st k) (hn : 0 < n) (hn2 : n < 1073741824) {Q : VK} {nx : Sl → Hp → Prop} {x y : Option V}
    (h : ∀ (r : Nat) (q : Pt (bagW K b l T I)), r < n.toNat → Ext p q → q.Ok → q.s = p.s → Q (.int (r : Nat)) q.H) : tPull2 K { nx := nx, rt := Q } [some (.ref b), some (.int n), x, y] q.H := by
  refine r_it rfl B.hb (ix5_2 _ _ _ _ _) ⟨_, rfl, g, n, rfl, rfl, _, rfl, ?_⟩
  by_cases hc : n ≤ g
  · rw [decide_eq_true hc]
    refine iteT ?_
    refine r_it rfl B.hb (ix5_2 _ _ _ _ _) ⟨_, rfl, g, n, rfl, rfl, hn, ?_⟩
    refine r_it rfl B.hb (ix5_2 _ _ _ _ _) ⟨_, rfl, g, n, rfl, rfl, ⟨hn, hn2⟩, .ref b, rfl, b, bagL l c g st k, 2, 2, rfl, rfl, B.hb, rfl, ?_⟩
    have hd : 0 ≤ g / n := Int.ediv_nonneg B.g0 (by omega)
    obtain ⟨q', eH, e', B', s'⟩ := B.put (k' := k) B.c0 B.c1 hd B.s0 B.s1
    have m0 := Int.emod_nonneg g (show n ≠ 0 by omega)
    have m1 := Int.emod_lt_of_pos g hn
    refine ⟨_, rfl, ?_⟩
    have hq := h (g % n).toNat q' (by omega) (e.trans e') B'.ok (s'.trans hs)
    rw [eH] at hq
    have e1 : (((g % n).toNat : Nat) : Int) = g % n := by omega
    rw [e1] at hq
    exact hq
  · rw [decide_eq_false hc]
    refine iteF ?_
    refine r_it rfl B.hb (ix5_4 _ _ _ _ _) ⟨k, 1, rfl, rfl, .ref b, rfl, b, bagL l c g st k, 4, 4, rfl, rfl, B.hb, rfl, ?_⟩
    obtain ⟨q1, eH1, e1, B1, s1'⟩ := B.put (k' := k + 1) B.c0 B.c1 B.g0 B.s0 B.s1
    refine Eq.subst (motive := fun Hx => (tSeq (pSet (pMod (pAdd (pAdd (pAdd (pPow (pIt K 3) (pI 3)) (pMul (pI 40507) (pIt K 4))) (pDiv (pIt K 3) (pI 101))) (pI 7)) (pI 2147483629)) 3) (tPull3 K)) { nx := nx, rt := Q } [some (.ref b), some (.int n), x, y] Hx) eH1 ?_
    refine r_it rfl B1.hb (ix5_3 _ _ _ _ _) ⟨st, 3, rfl, rfl, ⟨by decide, by decide, by have := B.s0; have := B.s1; omega⟩, ?_⟩
    refine r_it rfl B1.hb (ix5_4 _ _ _ _ _) ⟨40507, k + 1, rfl, rfl, .inl ⟨by decide, by decide⟩, _, _, rfl, rfl, ?_⟩
    obtain ⟨z, hz⟩ : ∃ z : Int, z = (st ^ (3 : Int).toNat + 40507 * (k + 1) + st / 101 + 7) % 2147483629 := ⟨_, rfl⟩
    have z0 : 0 ≤ z := by rw [hz]; exact Int.emod_nonneg _ (by decide)
    have z1 : z < 2147483629 := by rw [hz]; exact Int.emod_lt_of_pos _ (by decide)
    obtain ⟨q2, eH2, e2, B2, s2'⟩ := B1.put (st' := z) (k' := k + 1) B1.c0 B1.c1 B1.g0 z0 z1
    rw [hz] at eH2
    refine r_it rfl B1.hb (ix5_3 _ _ _ _ _) ⟨st, 101, rfl, rfl, ⟨by decide, by decide⟩, _, _, rfl, rfl, _, _, rfl, rfl, _, _, rfl, rfl, (by show (0 : Int) < 2147483629; decide), .ref b, rfl, b, bagL l c g st (k + 1), 3, 3, rfl, rfl, B1.hb, rfl, ?_⟩
    refine Eq.subst (motive := fun Hx => (tPull3 K) { nx := nx, rt := Q } [some (.ref b), some (.int n), x, y] Hx) eH2 ?_
    refine r_it rfl B2.hb (ix5_3 _ _ _ _ _) ⟨z, 19, rfl, rfl, ⟨by decide, by decide⟩, _, rfl, _, n, rfl, rfl, hn, ?_⟩
    have m0 := Int.emod_nonneg (z / 19) (show n ≠ 0 by omega)
    have m1 := Int.emod_lt_of_pos (z / 19) hn
    have hq := h (z / 19 % n).toNat q2 (by omega) ((e.trans e1).trans e2) B2.ok (s2'.trans (s1'.trans hs))
    have e3 : (((z / 19 % n).toNat : Nat) : Int) = z / 19 % n := by omega
    rw [e3] at hq
    exact hq
theorem pull_read {p : Pt (bagW K b l T I)} (ok : p.Ok) {n : Int} (hn : 0 < n) (hn2 : n < 1073741824) {Q : VK} {nx : Sl → Hp → Prop}
    (h : ∀ (r : Nat) (q : Pt (bagW K b l T I)), r < n.toNat → Ext p q → q.Ok → q.s = p.s → Q (.int (r : Nat)) q.H) : tPull K { nx := nx, rt := Q } [some (.ref b), some (.int n), none, none] p.H := by
  obtain ⟨_, fb, fl, ht, ⟨ne, ns, c, g, st, k, e2, e3, h63, c0, c1, g0, s0, s1⟩, hd, _⟩ := ok.rep
  have B : BagIn p ns c g st k := ⟨ok, e2, e3, h63, c0, c1, g0, s0, s1⟩
  refine r_it rfl B.hb (ix5_2 _ _ _ _ _) ⟨_, rfl, g, n, rfl, rfl, _, rfl, ?_⟩
  by_cases hc : g < n
  · rw [decide_eq_true hc]
    refine iteT ?_
    refine r_it rfl B.hb (ix5_1 _ _ _ _ _) ?_
    refine r_it rfl B.hb (ix5_0 _ _ _ _ _) ⟨.ref l, ns.length, rfl, .inl ⟨ns.map V.int, SqL.of B.hl, by simp⟩, c, ns.length, rfl, rfl, _, rfl, ?_⟩
    by_cases hc2 : c < ns.length
    · rw [decide_eq_true hc2]
      refine iteT ?_
      obtain ⟨cell, hcell⟩ : ∃ cell, ns[c.toNat]? = some cell := ⟨ns[c.toNat]'(by omega), by simp⟩
      have hat : atI (ns.map V.int) c = some (V.int cell) := by
        have : atI (ns.map V.int) ((c.toNat : Nat) : Int) = some (V.int cell) := atI_nat (by rw [List.getElem?_map, hcell]; rfl)
        rwa [show ((c.toNat : Nat) : Int) = c by omega] at this
      refine r_it rfl B.hb (ix5_0 _ _ _ _ _) ?_
      refine r_it rfl B.hb (ix5_1 _ _ _ _ _) ⟨l, _, c, _, rfl, rfl, SqL.of B.hl, hat, ?_⟩
      refine r_it rfl B.hb (ix5_1 _ _ _ _ _) ⟨c, 1, rfl, rfl, .ref b, rfl, b, bagL l c g st k, 1, 1, rfl, rfl, B.hb, rfl, ?_⟩
      obtain ⟨q1, eH1, e1, B1, s1'⟩ := B.put (c' := c + 1) (k' := k) (by omega) (by omega) B.g0 B.s0 B.s1
      refine Eq.subst (motive := fun Hx => (tPull0 K) { nx := (tPull2 K) { nx := nx, rt := Q }, rt := Q } [some (.ref b), some (.int n), some (.int cell), none] Hx) eH1 ?_
      -- the item's rest
      have rest : ∀ g' : Int, 0 ≤ g' → ∀ q2 : Pt (bagW K b l T I), Ext p q2 → q2.s = p.s → BagIn q2 ns (c + 1) g' st k → (tPull1 K) { nx := (tPull2 K) { nx := nx, rt := Q }, rt := Q } [some (.ref b), some (.int n), some (.int cell), none] q2.H := fun g' hg' q2 e2 hs2 B2 => by
        refine r_it rfl B2.hb (ix5_3 _ _ _ _ _) ⟨st, 69069, rfl, rfl, .inr ⟨by decide, by decide⟩, _, rfl, cell, 5, rfl, rfl, .inr ⟨by decide, by decide⟩, _, _, rfl, rfl, ?_⟩
        obtain ⟨z, hz⟩ : ∃ z : Int, z = (st * 69069 + cell * 5 + (c + 1)) % 2147483629 := ⟨_, rfl⟩
        have z0 : 0 ≤ z := by rw [hz]; exact Int.emod_nonneg _ (by decide)
        have z1 : z < 2147483629 := by rw [hz]; exact Int.emod_lt_of_pos _ (by decide)
        obtain ⟨q3, eH3, e3, B3, s3'⟩ := B2.put (st' := z) (k' := k) B2.c0 B2.c1 B2.g0 z0 z1
        rw [hz] at eH3
        refine r_it rfl B2.hb (ix5_1 _ _ _ _ _) ⟨_, _, rfl, rfl, _, _, rfl, rfl, (by show (0 : Int) < 2147483629; decide), .ref b, rfl, b, bagL l (c + 1) g' st k, 3, 3, rfl, rfl, B2.hb, rfl, ?_⟩
        refine Eq.subst (motive := fun Hx => (tPull2 K) { nx := nx, rt := Q } [some (.ref b), some (.int n), some (.int cell), none] Hx) eH3 ?_
        exact pull_tail (e2.trans e3) (s3'.trans hs2) B3 hn hn2 h
      refine ⟨_, rfl, 10, 18, rfl, rfl, ⟨by decide, by decide, by decide⟩, cell, _, rfl, rfl, _, rfl, ?_⟩
      by_cases hbig : (10 : Int) ^ (18 : Int).toNat ≤ cell
      · rw [decide_eq_true hbig]
        refine iteT ?_
        obtain ⟨q2, eH2, e2, B2, s2'⟩ := B1.put (g' := cell - 10 ^ (18 : Int).toNat) (k' := k) B1.c0 B1.c1 (by omega) B1.s0 B1.s1
        refine ⟨_, rfl, 10, 18, rfl, rfl, ⟨by decide, by decide, by decide⟩, cell, _, rfl, rfl, .ref b, rfl, b, bagL l (c + 1) g st k, 2, 2, rfl, rfl, B1.hb, rfl, ?_⟩
        refine Eq.subst (motive := fun Hx => (tPull1 K) { nx := (tPull2 K) { nx := nx, rt := Q }, rt := Q } [some (.ref b), some (.int n), some (.int cell), none] Hx) eH2 ?_
        exact rest _ (by omega) q2 (e1.trans e2) (s2'.trans s1') B2
      · rw [decide_eq_false hbig]
        refine iteF ?_
        obtain ⟨q2, eH2, e2, B2, s2'⟩ := B1.put (g' := 0) (k' := k) B1.c0 B1.c1 (by omega) B1.s0 B1.s1
        refine ⟨.ref b, rfl, b, bagL l (c + 1) g st k, 2, 2, rfl, rfl, B1.hb, rfl, ?_⟩
        refine Eq.subst (motive := fun Hx => (tPull1 K) { nx := (tPull2 K) { nx := nx, rt := Q }, rt := Q } [some (.ref b), some (.int n), some (.int cell), none] Hx) eH2 ?_
        exact rest _ (by omega) q2 (e1.trans e2) (s2'.trans s1') B2
    · rw [decide_eq_false hc2]
      refine iteF ?_
      exact pull_tail (Ext.refl p) rfl B hn hn2 h
  · rw [decide_eq_false hc]
    refine iteF ?_
    exact pull_tail (Ext.refl p) rfl B hn hn2 h
end
end VQ

/-! VqM: exceptions of own classes: their __init__, raise. -/
namespace VQ
open PySem PySem.Spec PyProof.Rows L2
/-! ### C.f(e, ..), C a class, f a def of it -/
/-- the def f of the class at C, read off C -/
structure CFn (K : PySem.W.Frag) (C : Addr) (mc : Value) (m : Str) (f : Addr) : Prop where
  rd : ClX.CRead K C mc
  at_ : PySem.W.findCls K (.ref C) mc m = some (.val (.ref f))
  kp : PySem.W.keepIn K (.ref f) = true
theorem pe_clscall {X : Cx} {CX : CXT} {k : Nat} {C f : Addr} {mc : Value} {fd : FuncData} {ps : List Str} {sp : Sp} {E : XK} {x m : Str} {p apos pos : Pos} {e : Expr} {es : List Expr} {t : TA} {pl : Sem Bool} (r : CFn X.K C mc m f) (hg : Gl X x) (hm : X.mg x = some (.ref C))
    (F : FnOk X.prog X.w X.K X.mg X.base CX k f fd ps sp) (hr : Room k X.A) (hb : L2.Binds X.K fd ps []) (hx : Passes CX X E) (ha : PA X (e :: es) t) (hdb : (x == ("__debug__" : Str)) = false := by decide)
    (hst : starEach (e :: es) X.env = (false, eval e X.env) :: starEach es X.env := by rfl) (hpl : (backTo pos (starEach es X.env)).any (·.1) = false := by rfl)
    (ht : eval (.Call (.Attribute (.Name x p) m apos) (e :: es) [] pos) X.env = (do
      let ov ← eval (.Name x p) X.env
      standAt apos.atName
      let (f, first) ← holding [ov] (getMethod ov m pl)
      callWith pos f first (backTo pos (starEach (e :: es) X.env)) (backToKw pos (keywordEach [] X.env))) := by rfl) :
    PE X (.Call (.Attribute (.Name x p) m apos) (e :: es) [] pos) (tCall sp [] E t) := by
  refine ⟨fun pins s σ H Q I h => ?_⟩
  refine PySem.W.methodCall_KW (pl := pl) (ld_glob I hg hm ?_ hdb) ht
  refine PySem.W.method_cls I.kIn r.rd.ga (PySem.W.cls_value I.kIn r.rd.rd r.at_ (handed_of (v := .ref f) rfl) ?_)
  exact PySem.W.callWith_K (first := []) (h₀ := X.base) I.ok.mod.kin r.kp (thn (ha.run pos pins _ σ H _ (I.tok _) h) fun us s2 ⟨vs, H2, I2, r2, q2⟩ => ⟨I2.kIn, run_fn (us := us) (vs := vs) F hr hb .nil hx I2 r2 q2⟩) hst hpl
/-! ### an exception made -/
/-- the fields: an argument, or a text -/
abbrev FSpec := List (Str × (Nat ⊕ List Nat))
def fV (ys : List V) (p : Str × (Nat ⊕ List Nat)) : Str × V := (p.1, match p.2 with
  | .inl i => (ys[i]?).getD .non
  | .inr s => .str ⟨s.toArray⟩)
def fD (ys : List D) (p : Str × (Nat ⊕ List Nat)) : Str × D := (p.1, match p.2 with
  | .inl i => (ys[i]?).getD .non
  | .inr s => .str s)
theorem fD_den {K : PySem.W.Frag} {ad : Nat → Option Addr} {Hv : Hp} {ds : List D} {vs : List V} (h : DenL K ad Hv ds vs) : ∀ (fl : FSpec) (f : Str) (y : D), (fl.map (fD ds)).lookup f = some y → ∃ v, (fl.map (fV vs)).lookup f = some v ∧ Den K ad Hv y v
  | [], _, _, e => by cases e
  | (g, k) :: fl, f, y, e => by
    rw [List.map_cons] at e ⊢
    have e' : (match f == g with | true => some (fD ds (g, k)).2 | false => (fl.map (fD ds)).lookup f) = some y := e
    show ∃ v, (match f == g with | true => some (fV vs (g, k)).2 | false => (fl.map (fV vs)).lookup f) = some v ∧ _
    cases z : f == g with
    | false => rw [z] at e'; exact fD_den h fl f y e'
    | true =>
      rw [z] at e'
      refine ⟨_, rfl, ?_⟩
      obtain rfl : (fD ds (g, k)).2 = y := Option.some.inj e'
      cases k with
      | inr s => exact rfl
      | inl i =>
        show Den K ad Hv ((ds[i]?).getD .non) ((vs[i]?).getD .non)
        cases q : ds[i]? with
        | some d =>
          obtain ⟨v, h1, h2⟩ := h.get q
          rw [h1]; exact h2
        | none =>
          have : vs[i]? = none := by
            have := h.length
            simp only [List.getElem?_eq_none_iff] at q ⊢
            omega
          rw [this]; exact rfl
/-- an __init__ keeps: the fields of a new exception of the class at C -/
def spI (C : Addr) (n : Nat) (fl : FSpec) : Sp := fun vs H Q _ => ∃ a ys, vs = .ref a :: ys ∧ ys.length = n ∧ H a = some (exo a C none) ∧ ∀ dx, H dx = none → dx ≠ a → Q .non (upd (upd H dx (exd dx (fl.map (fV ys)))) a (exo a C (some dx)))
/-- the __init__ of a class above: of any class C -/
def spA (K : PySem.W.Frag) (ns : List Str) (n : Nat) (fl : FSpec) : Sp := fun vs H Q _ => ∃ a C ys, vs = .ref a :: ys ∧ ys.length = n ∧ OexC K C ∧ (∀ f ∈ ns, PySem.W.findIn K (.ref C) f = some none) ∧ H a = some (exo a C none) ∧
  ∀ dx, H dx = none → dx ≠ a → Q .non (upd (upd H dx (exd dx (fl.map (fV ys)))) a (exo a C (some dx)))
theorem mk_heap {H : Hp} {a d : Addr} {o1 o2 o3 o4 : HO} (ha : H a = none) (hd : d ≠ a) : upd (del (upd (upd (upd H a o1) d o2) a o3) a) d o4 = upd H d o4 := by
  funext b
  by_cases h1 : b = d
  · rw [h1, upd_same, upd_same]
  · rw [upd_ne h1, upd_ne h1]
    by_cases h2 : b = a
    · rw [h2, del_same, ha]
    · rw [del_ne h2, upd_ne h2, upd_ne h1, upd_ne h2]
section
variable {X : Cx}
/-- the class at C called: its own __init__ keeps sp -/
theorem mk_core {CX : CXT} {pins : List (Addr × Obj)} {σ : L2.St} {H1 : Hp} {s1 : Shared} {C fI : Addr} {k : Nat} {fd : FuncData} {ps : List Str} {n : Nat} {fl : FSpec} {vs : List V} {us : List Value} {Q : XK} (T : OexC X.K C)
    (iC : PySem.W.findIn X.K (.ref C) "__init__" = some (some (.ref fI))) (tI : PySem.W.typeIn X.K (.ref fI) = some (.type "function"))
    (F1 : FnOk X.prog X.w X.K X.mg X.base CX k fI fd ps (spI C n fl)) (hr : Room (k + 1) X.A) (hb : L2.Binds X.K fd ps []) (hx : Passes CX X (fun _ _ _ => False)) (I1 : L2.Inv X pins σ H1 s1) (r1 : Vals vs us) (hn : vs.length = n) (hz : n ≤ 1000)
    (q : ∀ d, H1 d = none → Q (.ref C) (some d) (upd H1 d (.xd (fl.map (fV vs))))) : wpAny (model X.prog X.w) X.A (call (.ref C) us) (MkP X pins σ Q) X.xe s1 := by
  obtain ⟨nm, q0, N, bs, bm, sn, sub, ab, col, dd, k0, k1, k2, k3, k5, hC, hbm⟩ := T.cls
  obtain ⟨hp, g, dr, tk, os⟩ := s1
  have hsz : hp.objs.size ≤ hp.objs.size + 1 := Nat.le_succ _
  have hno : H1 (hp.objs.size + 1) = none := I1.hok.fresh hsz
  have kk : ∀ b o, hp.get? b = some o → ((hp.push (PySem.W.kdv_tup us)).push (PySem.HandSPX.excO C hp.objs.size)).get? b = some o := fun b o e => Heap.get?_push_of_some _ (Heap.get?_push_of_some _ e)
  have hget : ((hp.push (PySem.W.kdv_tup us)).push (PySem.HandSPX.excO C hp.objs.size)).get? (hp.objs.size + 1) = some (PySem.HandSPX.excO C hp.objs.size) := by heap_get
  have I2 : L2.Inv X pins σ (upd H1 (hp.objs.size + 1) (exo (hp.objs.size + 1) C none)) ⟨(hp.push (PySem.W.kdv_tup us)).push (PySem.HandSPX.excO C hp.objs.size), g, dr, tk, os⟩ :=
    I1.laid (t' := tk) (a := hp.objs.size + 1) (o := exo (hp.objs.size + 1) C none) (h' := (hp.push (PySem.W.kdv_tup us)).push (PySem.HandSPX.excO C hp.objs.size)) kk hsz (exo_ok hget)
  have r2 : Vals (V.ref (hp.objs.size + 1) :: vs) (Value.ref (hp.objs.size + 1) :: us) := .cons rfl r1
  have hq : spI C n fl (V.ref (hp.objs.size + 1) :: vs) (upd H1 (hp.objs.size + 1) (exo (hp.objs.size + 1) C none))
      (fun v H2 => v = .non ∧ ∃ (d : Addr) (fs : List (Str × V)), H2 (hp.objs.size + 1) = some (exo (hp.objs.size + 1) C (some d)) ∧ H2 d = some (exd d fs) ∧ H1 d = none ∧ Q (.ref C) (some d) (upd (del H2 (hp.objs.size + 1)) d (.xd fs))) (fun _ _ _ => False) := by
    refine ⟨_, vs, rfl, hn, upd_same, fun dx hdx ne => ⟨rfl, dx, fl.map (fV vs), upd_same, ?_, ?_, ?_⟩⟩
    · rw [upd_ne ne, upd_same]
    · rw [upd_ne ne] at hdx; exact hdx
    · rw [mk_heap hno ne]
      rw [upd_ne ne] at hdx
      exact q dx hdx
  have hl : (Value.ref (hp.objs.size + 1) :: us ++ []).length = ps.length := by
    have e := r2.length
    rw [F1.len _ _ _ _ hq] at e
    rw [List.append_nil]
    exact e.symm
  have hus : us.length ≤ sizeLine := by
    have := Paired.length r1
    rw [sizeLine_eq]
    omega
  have b2 := hb _ (Value.ref (hp.objs.size + 1) :: us) I2.kIn hl
  rw [List.append_nil] at b2
  refine wpAny_call (PySem.HandSPX.call_own F.excBase_ValueError (fun Y => PySem.HandSPX.refsVE_contains Y bm hbm) (I1.kIn _ _ hC) (PySem.W.looks_findIn I1.kIn iC) (fun self => PySem.W.bind_fn I1.kIn self tI) hus
    (codeAny_mono (F1.run _ X.stack _ _ ⟨Value.ref (hp.objs.size + 1) :: us, []⟩ (Value.ref (hp.objs.size + 1) :: us) _ _ (fun _ _ _ => False) (hr.make C us []) (I2.env0.make C us []) b2 r2 hq) fun r s' hq' => ?_))
  cases r with
  | error er => exact hx pins σ _ _ er s' I2 hq'
  | ok fl =>
    cases fl with
    | ret u =>
      obtain ⟨v, H2, os2, bare2, un2, hok2, rv, ev, d, fs, ea, ed, hd1, q2⟩ := hq'
      subst ev
      obtain ⟨h2, g2, d2, t2, os'⟩ := s'
      exact ⟨rv, mk_end (raises_own T.exC T.tyC) I1 hsz kk un2 hok2 os2 bare2 ea ed hd1 q2⟩
    | next => exact False.elim hq'
    | brk => exact False.elim hq'
    | cont => exact False.elim hq'
/-- what a class of exceptions keeps: x is its name, n the count of its arguments -/
structure XcOk (P : Program) (w : World) (K : PySem.W.Frag) (mg : Str → Option Value) (base : Heap) (k : Nat) (x : Str) (n : Nat) (fl : FSpec) : Prop where
  ex : ∃ C fI fd ps, OexC K C ∧ PySem.W.findIn K (.ref C) "__init__" = some (some (.ref fI)) ∧ PySem.W.typeIn K (.ref fI) = some (.type "function") ∧ FnOk P w K mg base (CX P w) k fI fd ps (spI C n fl) ∧ L2.Binds K fd ps [] ∧ mg x = some (.ref C)
theorem passes_none {tk : Takes X (fun _ _ _ _ => False)} : Passes (CX X.prog X.w) X (fun _ _ _ => False) := passes_call tk fun _ _ _ _ h => h
theorem pmk_0 {k n : Nat} {fl : FSpec} {x : Str} {p pos : Pos} {W : WX} (h : XcOk X.prog X.w X.K X.mg X.base k x n fl) (hn : n = 0) {j : Nat} (hr : Room j X.A) (tk : Takes X W) (hj : k + 1 ≤ j) (hg : Gl X x) (hdb : (x == ("__debug__" : Str)) = false := by decide) :
    PMk X (.Call (.Name x p) [] [] pos) (fun _ H1 Q => ∃ C, X.mg x = some (.ref C) ∧ ∀ d, H1 d = none → Q (.ref C) (some d) (upd H1 d (.xd (fl.map (fV []))))) := by
  intro pins s σ H Q I hq
  obtain ⟨C, fI, fd, ps, T, iC, tI, F1, hb, hm⟩ := h.ex
  obtain ⟨C', hm', hq⟩ := hq
  rw [hm] at hm'; cases hm'
  refine wpAny_Call_Name_kw (ld_glob I hg hm ?_ hdb)
  refine PySem.W.callWith_K0 I.kIn T.kC ?_
  show wpAny _ _ (call (.ref C) []) _ _ _
  exact mk_core T iC tI F1 (hr.mono hj) hb (passes_call tk fun _ _ _ _ h => h.elim) I .nil hn.symm (by omega) hq
theorem pmk_n {k n : Nat} {fl : FSpec} {x : Str} {p pos : Pos} {e : Expr} {es : List Expr} {ta : TA} {W : WX} (h : XcOk X.prog X.w X.K X.mg X.base k x n fl) (hn : n ≤ 1000) {j : Nat} (hr : Room j X.A) (tk : Takes X W) (hj : k + 1 ≤ j) (hg : Gl X x) (ha : PA X (e :: es) ta) (hdb : (x == ("__debug__" : Str)) = false := by decide)
    (he : starEach (e :: es) X.env = (false, eval e X.env) :: starEach es X.env := by rfl) (hpl : (backTo pos (starEach es X.env)).any (·.1) = false := by rfl) :
    PMk X (.Call (.Name x p) (e :: es) [] pos) (fun σ H Q => ta σ H fun vs H1 => vs.length = n ∧ ∃ C, X.mg x = some (.ref C) ∧ ∀ d, H1 d = none → Q (.ref C) (some d) (upd H1 d (.xd (fl.map (fV vs))))) := by
  intro pins s σ H Q I hq
  obtain ⟨C, fI, fd, ps, T, iC, tI, F1, hb, hm⟩ := h.ex
  refine wpAny_Call_Name_kw (ld_glob I hg hm ?_ hdb)
  refine PySem.W.callWith_K (h₀ := X.base) I.ok.mod.kin T.kC (thn (ha.run pos pins s σ H _ I hq) fun us s1 ⟨vs, H1, I1, r1, hz, C', hm', q1⟩ => ⟨I1.kIn, ?_⟩) he hpl
  rw [hm] at hm'; cases hm'
  show wpAny _ _ (call (.ref C) us) _ _ _
  exact mk_core T iC tI F1 (hr.mono hj) hb (passes_call tk fun _ _ _ _ h => h.elim) I1 r1 hz hn q1
end
/-! ### raise -/
section
variable {K : PySem.W.Frag} {M : WM K}
theorem rel_hid {en p : Pt M} {ρ : Nv} {σ : Sl} (h : Rel en ρ σ p) {a : Addr} {o : HO} (e : p.H a = none) : Rel en ρ σ (p.hid a o) where
  ok := ok_hid h.ok e
  ext := h.ext.trans (ext_hid e)
  len := h.len
  sh := fun i d q => h.sh i d q
  ow := fun i d q => by
    obtain ⟨b, u, h1, h2, h3, h4, h5, h6⟩ := h.ow i d q
    exact ⟨b, u, h1, by show upd p.H a o b = _; rw [upd_ne (ne_of_none h2 e)]; exact h2, h3, h4, h5, h6⟩
  dis := h.dis
/-- raise x(e, ..) -/
def sRaise (x : Str) (n : Nat) (fl : FSpec) (m : List Nat) (el : Ev M (List D)) : Sv M := fun ρ s => (inF m el ρ s).bind fun r => if r.1.length = n then .exc (⟨x, fl.map (fD r.1)⟩, frz m ρ, r.2) else .bad
end
section
variable {X : Cx} {M : WM X.K} {W : WX} {el : Ev M (List D)}
theorem ss_raise0 {k n : Nat} {fl : FSpec} {x : Str} {p p1 pos : Pos} (h : XcOk X.prog X.w X.K X.mg X.base k x n fl) {j : Nat} (hr : Room j X.A) (tk : Takes X W) (hn : n = 0 := by rfl) (hj : k + 1 ≤ j := by decide) (hg : Gl X x := by rfl) (hc : X.calm = true := by rfl) (hdb : (x == ("__debug__" : Str)) = false := by decide) :
    PS X (.Raise (some (.Call (.Name x p) [] [] p1)) none pos) (tS M X.mg W (sRaise x n fl [] eNil)) := (ps_raise hc tk (pmk_0 h hn hr tk hj hg hdb)).con fun Dd σ H ⟨en, ρ, q, hH, rl, hq⟩ => by
  subst hH
  obtain ⟨C, fI, fd, ps, T, iC, tI, F1, hb, hm⟩ := h.ex
  refine ⟨C, hm, fun d hd => ?_⟩
  subst hn
  have hq' : XSEnd M X.mg en W (⟨x, fl.map (fD [])⟩, frz [] ρ, q.s) := hq
  refine hq' (.ref C) (some d) σ (q.hid d (.xd (fl.map (fV [])))) ?_ rfl ⟨hm, d, _, rfl, upd_same, rl.ok.fn hd, fun f y hl => ?_⟩
  · rw [frz_nil]; exact rel_hid rl hd
  · exact fD_den (ds := []) (vs := []) DenL.nil fl f y hl
theorem ss_raise {k n : Nat} {fl : FSpec} {x : Str} {p p1 pos : Pos} {e : Expr} {es : List Expr} (m : List Nat) (h : XcOk X.prog X.w X.K X.mg X.base k x n fl) {j : Nat} (hr : Room j X.A) (tk : Takes X W) (ha : PA X (e :: es) (tA M X.mg W el)) (hn : n ≤ 1000 := by decide) (hj : k + 1 ≤ j := by decide) (hg : Gl X x := by rfl) (hc : X.calm = true := by rfl)
    (hdb : (x == ("__debug__" : Str)) = false := by decide) (he : starEach (e :: es) X.env = (false, eval e X.env) :: starEach es X.env := by rfl) (hpl : (backTo p1 (starEach es X.env)).any (·.1) = false := by rfl) :
    PS X (.Raise (some (.Call (.Name x p) (e :: es) [] p1)) none pos) (tS M X.mg W (sRaise x n fl m el)) := (ps_raise hc tk (pmk_n h hn hr tk hj hg ha hdb he hpl)).con fun Dd σ H ⟨en, ρ, q, hH, rl, hq⟩ => by
  subst hH
  obtain ⟨C, fI, fd, ps, T, iC, tI, F1, hb, hm⟩ := h.ex
  refine ⟨view m ρ, q.opn ρ σ m, rfl, opn_ok rl, opn_env rl, G.all_mono (fun r hr vs q1 e ok es dn => ?_) (fun x hx cls dd q1 e ok es xk => hx cls dd σ q1 (frz_rel rl e ok) es xk) (G.all_exs.mp (G.all_bind.mp hq))⟩
  split at hr
  · rename_i hlen
    refine ⟨by rw [dn.length]; exact hlen, C, hm, fun d hd => ?_⟩
    have hr' : XSEnd M X.mg en W (⟨x, fl.map (fD r.1)⟩, frz m ρ, r.2) := hr
    exact hr' (.ref C) (some d) σ (q1.hid d (.xd (fl.map (fV vs)))) (rel_hid (frz_rel rl e ok) hd) es ⟨hm, d, _, rfl, upd_same, ok.fn hd, fun f y hl => fD_den dn fl f y hl⟩
  · exact hr.elim
end
end VQ

/-! VqN: try with several clauses 'except (A, B) as e'. -/
namespace VQ
open PySem PySem.Spec PyProof.Rows L2
/-! ### the test of a clause -/
theorem fly_keep {B h h' : Heap} {l : List Env} {a : Addr} {Z : Obj → Prop} (k : ∀ b o, h.get? b = some o → h'.get? b = some o) (x : HandSPX.FlyingZ B l a Z h) : HandSPX.FlyingZ B l a Z h' := by
  obtain ⟨h1, h2, h3, oe, vs, T, oT, ts, e1, e2, e3, e4, e5, e6, e7, e8, e9⟩ := x
  exact ⟨fun b o e => k b o (h1 b o e), h2, Heap.FunFrames.of_keeps (fun b o e _ => ⟨o, k b o e, rfl⟩) h3, oe, vs, T, oT, ts, k _ _ e1, e2, e3, e4, e5, e6, k _ _ e7, e8, e9⟩
/-- the clause's expression t stands for the classes cs -/
def TestOk (X : Cx) (t : Expr) (cs : List Value) : Prop := ∀ (a : Addr) (oe : Obj) (cls : Value) (pn : List (Addr × Obj)) (s : Shared) (σ : L2.St) (H : Hp) (b : Bool) (Q : Bool → Shared → Prop) (E : Value → Shared → Prop), L2.Inv (X.suite a ((a, oe) :: pn)) [] σ H s → s.heap.get? a = some oe → oe.cls = cls → PySem.W.exmAny X.K cls cs = some b →
  (∀ h', (∀ c o, s.heap.get? c = some o → h'.get? c = some o) → L2.Inv (X.suite a ((a, oe) :: pn)) [] σ H { s with heap := h' } → Q b { s with heap := h' }) →
  wpAny (model X.prog X.w) (X.A.mark (some (.ref a))) (eval t X.env) (fun c s1 => wpAny (model X.prog X.w) (X.A.mark (some (.ref a))) (excMatches (.ref a) c) Q E s1) E s
section
variable {X : Cx}
theorem looks_cls {P : Program} {w : World} {h : Heap} {a : Addr} {oe : Obj} {cls : Value} (ha : h.get? a = some oe) (hc : oe.cls = cls) : PySem.W.Looks (model P w) h (typeOf (.ref a)) cls := fun A Q E s k q => wpAny_typeOf_ref (k _ _ ha) (by rw [hc]; exact q)
theorem name_test {x : Str} {c : Value} {p : Pos} {a : Addr} {pn : List (Addr × Obj)} {σ : L2.St} {H : Hp} {s : Shared} {Q : Value → Shared → Prop} {E : Value → Shared → Prop} (hc : Names X x c) (I : L2.Inv (X.suite a pn) [] σ H s) (q : Q c s) : wpAny (model X.prog X.w) (X.A.mark (some (.ref a))) (eval (.Name x p) X.env) Q E s := by
  obtain ⟨hg, hdbg, hm | ⟨hm, hv, hnn⟩⟩ := hc
  · exact ld_glob (X := X.suite a pn) I hg hm q hdbg
  · exact ld_blt (X := X.suite a pn) I hg hm hv q hnn hdbg
theorem test1 {x : Str} {c : Value} {p : Pos} (hc : Names X x c) : TestOk X (.Name x p) [c] := fun a oe cls pn s σ H b Q E I ha ho hx q => by
  refine name_test hc I ?_
  obtain ⟨b1, d1, x1, y1, z1⟩ := PySem.W.exmAny_cons hx
  have w1 : some false = some d1 := y1
  cases w1
  have e : b = b1 := by simpa using z1
  subst e
  exact (PySem.W.exm_one (M := model X.prog X.w) I.kIn (looks_cls ha ho) x1).here (q s.heap (fun _ _ z => z) I)
theorem test2 {x y : Str} {c d : Value} {p p1 pos : Pos} {kk : Nat} (hc : Names X x c) (hd : Names X y d) : TestOk X (.Tuple [.Name x p, .Name y p1] kk pos) [c, d] := fun a oe cls pn s σ H b Q E I ha ho hx q => by
  refine wpAny_Tuple (wpAny_items_cons (name_test hc I (wpAny_items_cons (name_test hd I (wpAny_items_nil ⟨by rw [sizeLine_eq]; show 2 ≤ _; omega, ?_⟩)))))
  have kp : ∀ q o, s.heap.get? q = some o → (s.heap.push { cls := .type "tuple", data := .seq [c, d].toArray }).get? q = some o := fun _ _ z => Heap.get?_push_of_some _ z
  exact (PySem.W.exm_tup2 (M := model X.prog X.w) (I.kIn.keeps kp) ((looks_cls ha ho).keeps kp) (Heap.get?_push_size s.heap rfl) hx).here (q _ kp (I.kept (t' := s.toks) kp))
theorem test3 {x y z : Str} {c d f : Value} {p p1 p2 pos : Pos} {kk : Nat} (hc : Names X x c) (hd : Names X y d) (hf : Names X z f) : TestOk X (.Tuple [.Name x p, .Name y p1, .Name z p2] kk pos) [c, d, f] := fun a oe cls pn s σ H b Q E I ha ho hx q => by
  refine wpAny_Tuple (wpAny_items_cons (name_test hc I (wpAny_items_cons (name_test hd I (wpAny_items_cons (name_test hf I (wpAny_items_nil ⟨by rw [sizeLine_eq]; show 3 ≤ _; omega, ?_⟩)))))))
  have kp : ∀ q o, s.heap.get? q = some o → (s.heap.push { cls := .type "tuple", data := .seq [c, d, f].toArray }).get? q = some o := fun _ _ z => Heap.get?_push_of_some _ z
  exact (PySem.W.exm_tup3 (M := model X.prog X.w) (I.kIn.keeps kp) ((looks_cls ha ho).keeps kp) (Heap.get?_push_size s.heap rfl) hx).here (q _ kp (I.kept (t' := s.toks) kp))
end
/-! ### the statement -/
abbrev CTS := Addr → Value → Option Addr → TS
/-- what the clauses wish of an exception of the body; i: the slot of the name e -/
def wGen (K : PySem.W.Frag) (i : Nat) (Wout : WX) (D : Ends) : List (List Value × CTS) → WX
  | [] => Wout
  | (cs, ts) :: r => fun cls d σ H => ∃ b, PySem.W.exmAny K cls cs = some b ∧
    (b = true → ∀ a, H a = none → ts a cls d { nx := fun σ' H' => D.nx (σ'.set i none) H', rt := D.rt, bk := fun σ' H' => D.bk (σ'.set i none) H', ct := fun σ' H' => D.ct (σ'.set i none) H' } (σ.set i (some (.ref a))) H) ∧
    (b = false → wGen K i Wout D r cls d σ H)
inductive HdsG (X : Cx) (n : Str) : List ExceptHandler → List (List Value × CTS) → Prop
  | nil : HdsG X n [] []
  | cons {t : Expr} {cs : List Value} {ts : CTS} {b₀ : Stmt} {suite : List Stmt} {pos' : Pos} {hds : List ExceptHandler} {l : List (List Value × CTS)} (hc : TestOk X t cs)
      (hsu : ∀ (a : Addr) (oe : Obj) (cls : Value) (d : Option Addr) (pn : List (Addr × Obj)), Zc cls d oe → (∃ vs, oe.data = .fields vs) → PSs (X.suite a ((a, oe) :: pn)) (b₀ :: suite) (ts a cls d)) (r : HdsG X n hds l) :
      HdsG X n (.ExceptHandler (some t) (some n) (b₀ :: suite) pos' :: hds) ((cs, ts) :: l)
section
variable {X : Cx} {n : Str} {i : Nat} {body : List Stmt} {h₀ : ExceptHandler} {hds : List ExceptHandler} {l : List (List Value × CTS)} {pos : Pos} {tb : WX → TS} {Wout : WX}
theorem ps_try_gen (hs : X.stack = X.env :: X.outer) (hf : X.env.frame = some X.env.locals) (hN : X.N.Nodup) (hi : X.N[i]? = some n) (hln : X.env.kindOf n = some .local) (tk : Takes X Wout)
    (hb : ∀ (W : WX) (pn : List (Addr × Obj)) (xe : Value → Shared → Prop), Takes (X.tr pn xe) W → PassesOwn (model X.prog X.w) X.A X.env xe → PSs (X.tr pn xe) body (tb W))
    (hh : HdsG X n (h₀ :: hds) l) : PS X (.Try body (h₀ :: hds) [] [] pos) (fun D σ H => tb (wGen X.K i Wout D l) D σ H) := by
  refine ⟨fun pins s σ H D I h => ?_⟩
  have ok := I.ok
  have hfr : X.A.frames = some (X.env :: X.outer) := by rw [ok.frames, hs]
  have hloc : Loc X.env.scope n := .inl hln
  refine wpAny_Try_except ?_
  refine wpAny_mono ((hb (wGen X.K i Wout D l) (X.pn ++ pins) (fun e s₁ => wpAny (model X.prog X.w) X.A (noteFrame e X.env) (fun _ s₂ => wpAny (model X.prog X.w) X.A (setFlight e none) (fun _ s₃ =>
    wpAny (model X.prog X.w) X.A (handleBy e X.env (h₀ :: hds)) (SP X pins D) X.xe s₃) X.xe s₂) X.xe s₁) (fun u s' xx => ?_) PassesOwn.looking).run [] s σ H D (I.toTry _) h) (fun f s1 hsp => ?_) (fun e s1 he => he)
  · obtain ⟨a, B, sI, pins', σ', H', cls, d, rfl, J', nb, up, sky, na, os, ag, w⟩ := xx
    have J : L2.Inv X pins σ' H' sI := J'.ofTry ok
    have sky' : Sky B (X.env :: X.outer) a (Zc cls d) X.env.locals s'.heap := by rw [← hs]; exact sky
    show wpAny (model X.prog X.w) X.A (noteFrame (.ref a) X.env) _ _ _
    refine Sky.land Zc.steady hfr hf sky' fun h3 fl3 up3 => ?_
    have notFr : ∀ {h : Heap} {o : Obj} {vs : Array Value}, h.FunFrames B (X.env :: X.outer) → h.get? a = some o → o.data = .fields vs → a ∉ frs (X.env :: X.outer) := fun {h o vs} ff e dd hm => by
      obtain ⟨_, o', e', hnf⟩ := ff.mem hm
      rw [e] at e'; cases e'
      exact hnf _ dd
    have nfr : a ∉ frs (X.env :: X.outer) := by
      obtain ⟨oe3, vs3, he3, hz3, hd3⟩ := fl3.there
      exact notFr fl3.2.2.1 he3 hd3
    have nL : a ≠ X.env.locals := fun z => nfr (List.mem_filterMap.mpr ⟨X.env, List.mem_cons_self, by rw [hf, z]⟩)
    have nF : a ∉ X.fs := fun hm => by
      obtain ⟨e, he, q⟩ := List.mem_filterMap.mp hm
      exact nfr (List.mem_filterMap.mpr ⟨e, List.mem_cons_of_mem _ he, q⟩)
    have go : ∀ {hds' : List ExceptHandler} {l' : List (List Value × CTS)}, HdsG X n hds' l' → wGen X.K i Wout D l' cls d σ' H' → ∀ h3 : Heap, HandSPX.FlyingZ B (X.env :: X.outer) a (Zc cls d) h3 → s'.heap.UpToSlots h3 →
        wpAny (model X.prog X.w) X.A (handleBy (.ref a) X.env hds') (SP X pins D) X.xe { s' with heap := h3 } := by
      intro hds' l' hk
      induction hk with
      | nil =>
        intro w h3 fl3 up3
        refine wpAny_handleBy_nil ?_
        obtain ⟨k1, k2, k3, oe, vs, T, oT, ts', he, hz, hd, h1, hr⟩ := id fl3
        unfold PySem.passOn
        refine wpAny_bind (wpAny_field he hd h1 ?_)
        rw [if_neg (show ¬ ((Value.ref T == Value.none) = true) from by simp)]
        have fin : wpAny (model X.prog X.w) X.A (setFlight (.ref a) X.env.frame) (fun _ s4 => wpAny (model X.prog X.w) X.A (throw (.ref a) : Sem Flow) (SP X pins D) X.xe s4) X.xe { s' with heap := h3 } := by
          rw [hf]
          refine HandSPX.setFlight_upZ fl3 fun h4 hh4 up4 => wpAny_throw (tk _ _ ?_)
          exact ⟨a, B, sI, pins, σ', H', cls, d, rfl, J, nb, (up.trans up3).trans up4, .inr (.inr (by rw [hs]; exact hh4)), na, os, ag, w⟩
        first
          | exact wpAny_bind (wpAny_pure (wpAny_bind fin))
          | exact wpAny_bind fin
      | @cons t cs ts b₀ suite pos' hds2 l2 hc hsu r ih =>
        intro w h3 fl3 up3
        obtain ⟨b, hb1, hyes, hno⟩ := w
        have J3 : L2.Inv X pins σ' H' { s' with heap := h3 } := J.landed nb fl3.1 (up.trans up3) os ag
        obtain ⟨oe3, vs3, he3, hz3, hd3⟩ := fl3.there
        have S3 := J3.suite he3 hd3 na nL nF
        refine wpAny_handleBy_cons (codeAny_handlers_test ?_) (by intro q; cases q)
        refine hc a oe3 cls _ _ _ _ b _ _ S3 he3 hz3.1 hb1 fun h5 k5 S5 => ?_
        have fl5 := fly_keep k5 fl3
        have up5 : s'.heap.UpToSlots h5 := up3.trans (Heap.UpToSlots.of_keeps k5)
        cases b with
        | true =>
          refine codeAny_handlers_suite_as ?_
          refine HandSPX.lands_againZ fl5 fun h4 fl4 up4 => ?_
          have J4 : L2.Inv X pins σ' H' { s' with heap := h4 } := J.landed nb fl4.1 ((up.trans up5).trans up4) os ag
          obtain ⟨oe4, vs4, he4, hz4, hd4⟩ := fl4.there
          have S4 := J4.suite he4 hd4 na nL nF
          refine store_ok (X := X.suite a ((a, oe4) :: (X.pn ++ pins))) (v := .ref a) S4 hN hi hloc rfl (fun s5 S5 => ?_) (.inr hln)
          refine wpAny_mono ((hsu a oe4 cls d (X.pn ++ pins) hz4 ⟨_, hd4⟩).run [] s5 _ H' _ S5 (hyes rfl a na)) (fun f s6 hsp => ?_) (fun _ _ z => False.elim z)
          have end_ : ∀ {σ6 : L2.St} {H6 : Hp} {Q : Shared → Prop}, L2.Inv (X.suite a ((a, oe4) :: (X.pn ++ pins))) [] σ6 H6 s6 → (∀ s7, L2.Inv X pins (σ6.set i none) H6 s7 → Q s7) →
              wpAny (model X.prog X.w) X.A (do bindName X.env n .none; unbindBehindTheSuite X.env n pos') (fun _ s7 => Q s7) X.xe s6 := fun {σ6 H6 Q} S6 hq => gone_ok (S6.unsuite ok) hN hi hln hq
          cases f with
          | next =>
            obtain ⟨σ6, H6, S6, q6⟩ := hsp
            exact end_ S6 fun s7 J7 => ⟨_, _, J7, q6⟩
          | brk =>
            obtain ⟨σ6, H6, S6, q6⟩ := hsp
            exact end_ S6 fun s7 J7 => ⟨_, _, J7, q6⟩
          | cont =>
            obtain ⟨σ6, H6, S6, q6⟩ := hsp
            exact end_ S6 fun s7 J7 => ⟨_, _, J7, q6⟩
          | ret u =>
            obtain ⟨v6, σ6, H6, S6, r6, q6⟩ := hsp
            exact end_ S6 fun s7 J7 => ⟨_, _, _, J7, r6, q6⟩
        | false =>
          show wpAny _ X.A (handleBy (.ref a) X.env hds2) _ _ _
          exact ih (hno rfl) h5 fl5 up5
    exact go hh w h3 fl3 up3
  · cases f with
    | next =>
      obtain ⟨σ', H', J', q⟩ := hsp
      exact wpAny_execs_nil ⟨σ', H', J'.ofTry ok, q⟩
    | brk =>
      obtain ⟨σ', H', J', q⟩ := hsp
      exact ⟨σ', H', J'.ofTry ok, q⟩
    | cont =>
      obtain ⟨σ', H', J', q⟩ := hsp
      exact ⟨σ', H', J'.ofTry ok, q⟩
    | ret u =>
      obtain ⟨v, σ', H', J', r, q⟩ := hsp
      exact ⟨v, σ', H', J'.ofTry ok, r, q⟩
end
/-! ### e.f in a clause -/
/-- the class of the exception: known by its own facts -/
def tXg (K : PySem.W.Frag) (a : Addr) (cls : Value) (d : Option Addr) (f : Str) (te : TE) : TE := fun σ H Q => te σ H fun x H1 => x = .ref a ∧ ∃ (C dd : Addr) (fs : List (Str × V)) (v : V), cls = .ref C ∧ XfC K C ∧ PySem.W.findIn K (.ref C) f = some none ∧ d = some dd ∧ H1 dd = some (.xd fs) ∧ fs.lookup f = some v ∧ Q v H1
theorem pe_xg {X : Cx} {a : Addr} {oe : Obj} {cls : Value} {d : Option Addr} {pn : List (Addr × Obj)} {e : Expr} {te : TE} {pos : Pos} {n : Str}
    (hz : Zc cls d oe) (hf : ∃ vs, oe.data = .fields vs) (he : PE (X.suite a ((a, oe) :: pn)) e te) (hb : attributeBase e n X.env (eval e X.env) = eval e X.env := by rfl) :
    PE (X.suite a ((a, oe) :: pn)) (.Attribute e n pos) (tXg X.K a cls d n te) := by
  refine ⟨fun pins s σ H Q I h => ?_⟩
  refine attr_of hb (thn (he.run pins s σ H _ I h) fun u s1 hh => ?_)
  obtain ⟨x, H1, I1, rx, ex, C, dd, fs, v, ec, T, hno, ed, ea, l, q⟩ := hh
  subst ex
  obtain rfl : u = Value.ref a := rx
  subst ec
  subst ed
  obtain ⟨ha, _⟩ := I1.pin (a, oe) (List.mem_append_left _ List.mem_cons_self)
  obtain ⟨vs, hd⟩ := hf
  have hx : ObjOk X.prog X.w H1 s1.heap dd (.xd fs) := I1.hok dd _ ea
  obtain ⟨mA, hns, hr⟩ := hx
  obtain ⟨od, ho, hl⟩ := lookIn_ns hns
  obtain ⟨u, hu, ru⟩ := RelO.some_of (v := v) (o := mA n) (by rw [← l]; exact hr n)
  have J : PySem.W.InstAt s1.heap a oe C (some od) := ⟨ha, hz.1, by unfold PySem.W.notCls; rw [hd] <;> rfl, by rw [hz.2]; exact ho⟩
  exact HandSPX.exc_get I1.kIn J T.ga T.gg T.exC (PySem.W.findObj_own T.hdC hno rfl (by rw [hl, hu])) (handed_of ru) ⟨v, H1, I1.tok _, ru, q⟩
end VQ

/-! VqO: a lambda handed to _law_tried, _law_word. -/
namespace VQ
open PySem PySem.Spec PyProof.Rows L2 LamX
/-! ### a lambda is made -/
/-- what the making does: its code object is in the table already, or is laid there -/
def Laid (H H1 : Hp) (P c' : Addr) (q : Str) (ps : Array Value) : Prop := (H1 = H ∧ ∃ pos, codeAmong pos ps.toList = some (.ref c')) ∨
  ∃ ps', H1 = upd (upd H P (.tbl ps')) c' (CodeO c' q) ∧ H c' = none ∧ TriplesOk ps'.toList ∧ ∀ pos cv, codeAmong pos ps'.toList = some cv → codeAmong pos ps.toList = some cv ∨ cv = .ref c'
section
variable {X : Cx} {pins : List (Addr × Obj)} {σ : L2.St} {H : Hp} {s : Shared}
theorem lam_mk {c P : Addr} {params : Arguments} {body : Expr} {scope : Scope} {pos : Pos} {E : Value → Shared → Prop} {Q : Value → Shared → Prop} {ps : Array Value} (I : L2.Inv X pins σ H s) (TB : TabB X.base X.mg c P) (hcode : X.env.code = .ref c)
    (hP : H P = some (.tbl ps)) (ht : TriplesOk ps.toList) (ha : ∀ pos cv, codeAmong pos ps.toList = some cv → ∃ c, cv = .ref c ∧ H c = some (CodeO c (X.env.qual ++ "<lambda>"))) (hdef : defaultsOf params X.env = ([], [])) (hfree : ∀ y ∈ scope.names, y.2 = .free → ∃ c, X.env.cells.lookup y.1 = some c)
    (h : ∀ (f c' : Addr) (pm ctv : Value) (H1 : Hp) (s' : Shared), L2.Inv X pins σ H1 s' → Laid H H1 P c' (X.env.qual ++ "<lambda>") ps →
      s'.heap.get? f = some (PySem.W.kla_obj "<lambda>" (X.env.qual ++ "<lambda>") params body scope (cloFrom X.env.cells scope.names []) pm c' ctv) → H1 f = none → f ∉ frs X.stack → H1 c' = some (CodeO c' (X.env.qual ++ "<lambda>")) → Q (.ref f) s') :
    wpAny (model X.prog X.w) X.A (eval (.Lambda params body scope pos) X.env) Q E s := by
  refine PySem.W.kla_eval hdef ?_
  have bP : s.heap.BuiltinsAt X.mg P := TB.bm.keeps I.bk
  have hP' : s.heap.get? P = some { cls := .none, data := .fields ps } := I.hok P _ hP
  have nofr : ∀ f, s.heap.objs.size ≤ f → f ∉ frs X.stack := fun f hf z => by
    rcases List.mem_cons.mp (I.stkSub _ z) with e | e
    · have h1 := I.lt
      rw [← e] at h1
      exact Nat.lt_irrefl _ (Nat.lt_of_lt_of_le h1 hf)
    · exact I.nofs hf e
  cases hc : codeAmong pos ps.toList with
  | none =>
    refine PySem.W.kla_makeFunction (mg := X.mg) (c := c) (P := P) (ps := ps) (closure_ok hfree) I.ok.glob (I.mod.glob.keeps I.bk) hcode (TB.code.keeps I.bk) hP' ht hc TB.gP bP fun c' ctv h' tk hx hge hlt hrec htb => ?_
    obtain ⟨c2, oc, vs, t, e2, hoc, hd, hv⟩ := hrec
    cases e2
    have hsz : s.heap.objs.size ≤ h'.objs.size := Nat.le_trans hge (Nat.le_of_lt hlt)
    have nC : H c' = none := I.hok.fresh hge
    have I1 := inv_table (t' := tk) (more := #[rawInt pos.line, rawInt pos.col, .ref c']) (h' := h'.push (PySem.W.kla_obj "<lambda>" (X.env.qual ++ "<lambda>") params body scope (cloFrom X.env.cells scope.names []) ((X.mg "__name__").getD .none) c' ctv)) I hP
      (fun b o hb e => Heap.get?_push_of_some _ (hx b o hb e)) (Heap.get?_push_of_some _ htb) hge ⟨oc, vs, t, Heap.get?_push_of_some _ hoc, hd, hv⟩
    have eL : (ps ++ #[rawInt pos.line, rawInt pos.col, .ref c']).toList = ps.toList ++ [rawInt pos.line, rawInt pos.col, .ref c'] := by simp
    refine h h'.objs.size c' ((X.mg "__name__").getD .none) ctv _ _ I1 (.inr ⟨_, rfl, nC, by rw [eL]; exact PySem.TriplesOk_snoc _ _ _ _ ht, fun p' cv hcv => ?_⟩) (Heap.get?_push_size _ rfl) ?_ (nofr _ hsz) upd_same
    · rw [eL] at hcv
      exact among_app _ ht hcv
    · have n1 : h'.objs.size ≠ c' := Nat.ne_of_gt hlt
      have n2 : h'.objs.size ≠ P := Nat.ne_of_gt (Nat.lt_of_lt_of_le (Heap.lt_size hP') hsz)
      rw [upd_ne n1, upd_ne n2]
      exact I.hok.fresh hsz
  | some cv =>
    obtain ⟨c', e, hco⟩ := ha pos cv hc
    subst e
    refine PySem.W.kla_makeFunctionHit (mg := X.mg) (c := c) (P := P) (ps := ps) (closure_ok hfree) I.ok.glob (I.mod.glob.keeps I.bk) hcode (TB.code.keeps I.bk) hP' ht hc bP fun ctv h' tk hx hsz => ?_
    have I1 : L2.Inv X pins σ H { s with heap := h'.push (PySem.W.kla_obj "<lambda>" (X.env.qual ++ "<lambda>") params body scope (cloFrom X.env.cells scope.names []) ((X.mg "__name__").getD .none) c' ctv), toks := tk } := I.kept fun b o e => Heap.get?_push_of_some _ (hx b o e)
    exact h h'.objs.size c' ((X.mg "__name__").getD .none) ctv H _ I1 (.inl ⟨rfl, pos, hc⟩) (Heap.get?_push_size _ rfl) (I.hok.fresh hsz) (nofr _ hsz) hco
end
/-! ### it is run -/
/-- the lambda at f, seen from the state (H, h) below the frames fs -/
structure LamRun (P : Program) (w : World) (K : PySem.W.Frag) (mg : Str → Option Value) (base : Heap) (fs : List Addr) (H : Hp) (h : Heap) (f c' : Addr) (q : Str) (k : Nat) (tl : XK → Hp → VK → Prop) : Prop where
  at_ : PySem.W.FnAt f h
  fn : H f = none
  ff : f ∉ fs
  run : ∀ (A : Around) (outer : List Env) (s1 : Shared) (HZ : Hp) (Q : VK) (E : XK), Room (k + 1) A → Env0 P w K mg base A outer s1 HZ → Un fs [] H HZ h s1.heap → HZ c' = some (CodeO c' q) → tl E HZ Q → codeAny (model P w) A (.call (.ref f) ⟨[], []⟩) (CR (L2.CX P w) outer P w HZ s1 Q E) s1
theorem un_chain {fs : List Addr} {L : Addr} {H H1 H2 : Hp} {h h1 h2 : Heap} (a : Un fs [] H H1 h h1) (b : Un (L :: fs) [] H1 H2 h1 h2) (hL : h.objs.size ≤ L) : Un fs [] H H2 h h2 where
  keep := fun c ob q n hc hx => b.keep c ob (a.keep c ob q n hc hx) (a.free c ob q n hx) (fun z => (List.mem_cons.mp z).elim (fun e => Nat.lt_irrefl _ (Nat.lt_of_lt_of_le (Heap.lt_size q) (e ▸ hL))) hc) hx
  slot := fun c ob q n hc hx => by
    obtain ⟨sl, e1⟩ := a.slot c ob q n hc hx
    obtain ⟨sl2, e2⟩ := b.slot c _ e1 (a.free c ob q n hx) (List.mem_cons_of_mem _ hc) hx
    exact ⟨sl2, e2⟩
  free := fun c ob q n hx => by
    obtain ⟨o', e1⟩ := a.there c ob q hx
    exact b.free c o' e1 (a.free c ob q n hx) hx
  there := fun c ob q hx => by
    obtain ⟨o', e1⟩ := a.there c ob q hx
    exact b.there c o' e1 hx
  tups := fun c xs q => b.tups c xs (a.tups c xs q)
  frzs := fun c o u q => b.frzs c o u (a.frzs c o u q)
  tbls := fun c ps q => by
    obtain ⟨m1, e1⟩ := a.tbls c ps q
    obtain ⟨m2, e2⟩ := b.tbls c _ e1
    exact ⟨m1 ++ m2, by rw [e2, Array.append_assoc]⟩
section
variable {P : Program} {w : World} {K : PySem.W.Frag} {mg : Str → Option Value} {base : Heap} {fs : List Addr} {H H1 : Hp} {h h1 : Heap} {f c' L : Addr} {q : Str} {k : Nat} {tl : XK → Hp → VK → Prop}
/-- seen from further on, below one frame more -/
theorem LamRun.step (l : LamRun P w K mg base fs H h f c' q k tl) (u : Un fs [] H H1 h h1) (hL : h.objs.size ≤ L) : LamRun P w K mg base (L :: fs) H1 h1 f c' q k tl := by
  obtain ⟨oc, od, fd, sl, hf⟩ := l.at_
  exact ⟨⟨oc, od, fd, sl, u.keep f _ hf l.fn l.ff (by simp)⟩, u.free f _ hf l.fn (by simp), fun z => (List.mem_cons.mp z).elim (fun e => Nat.lt_irrefl _ (Nat.lt_of_lt_of_le (Heap.lt_size hf) (e ▸ hL))) l.ff,
    fun A outer s1 HZ Q E hr e0 u2 hc ht => l.run A outer s1 HZ Q E hr e0 (un_chain u u2 hL) hc ht⟩
end
section
variable {X : Cx} {pins : List (Addr × Obj)} {σ : L2.St} {H : Hp} {s : Shared}
theorem lam_run {f c' : Addr} {pm ctv : Value} {params : Arguments} {body : Expr} {scope : Scope} {k : Nat} {t : XK → TE} (I : L2.Inv X pins σ H s) (L : LamS X.env.scope scope)
    (hf : s.heap.get? f = some (PySem.W.kla_obj "<lambda>" (X.env.qual ++ "<lambda>") params body scope (cloFrom X.env.cells scope.names []) pm c' ctv)) (hfn : H f = none) (hfr : f ∉ frs X.stack)
    (hbind : bindArgs (PySem.W.kla_fn "<lambda>" (X.env.qual ++ "<lambda>") params body scope (cloFrom X.env.cells scope.names []) pm (.ref c') ctv) ⟨[], []⟩ = pure [])
    (hbody : ∀ (A : Around) (outer : List Env) (s : Shared) (H : Hp) (E : XK), Room k (A.deeper (lamEnv X scope s.heap.objs.size f c')) → PE (lamCx X A outer s H E scope f c') body (t E)) :
    LamRun X.prog X.w X.K X.mg X.base (frs X.stack) H s.heap f c' (X.env.qual ++ "<lambda>") k (fun E HZ Q => t E σ HZ Q) := by
  refine ⟨⟨_, _, _, _, hf⟩, hfn, hfr, fun A outer s1 HZ Q E hr e0 un hc ht => ?_⟩
  have of1 : s1.heap.get? f = some (PySem.W.kla_obj "<lambda>" (X.env.qual ++ "<lambda>") params body scope (cloFrom X.env.cells scope.names []) pm c' ctv) := un.keep f _ hf hfn hfr (by simp)
  obtain ⟨⟨oc, vs, t', hoc, hdc, hvc⟩, _, _⟩ := e0.hok c' _ hc
  have lim : s1.heap.NoLimit := e0.mod.nolimit.keeps fun b o e => (e0.bs b o e).1
  refine PySem.W.kla_callFunE hr.depth of1 rfl L.co L.gen rfl ⟨c', oc, vs, t', rfl, hoc, hdc, hvc⟩ ?_
  rw [hbind]
  refine wpAny_pure (wpAny_newFunctionEnv (fun y hy => (L.own y hy).2) (fun y hy => absurd hy (by simp)) (fun h₁ hns hsb => ⟨lim.fresh _ hsb, ?_⟩) L.kind)
  show codeAny _ _ (.expr body (lamEnv X scope s1.heap.objs.size f c')) _ _
  have kp : ∀ b o, s1.heap.get? b = some o → h₁.get? b = some o := fun b o e => hsb.extBut b o (Nat.ne_of_lt (Heap.lt_size e)) (Heap.get?_push_of_some _ e)
  have J : L2.Inv (lamCx X A outer s1 HZ E scope f c') [] σ HZ { s1 with heap := h₁, toks := s1.toks + ([] : List (Str × Value)).length } :=
    lam_start2 I L e0 hr.hd un hns kp
  refine PySem.W.kla_codeExpr (wpAny_mono ((hbody _ _ s1 HZ E (hr.deeper _)).run [] _ _ HZ Q J ht) (fun v s' hq => ?_) fun e s' hq => hq)
  obtain ⟨w', H', J', rv, q⟩ := hq
  exact ⟨w', H', J'.os, J'.bare, J'.base, J'.hok, rv, q⟩
end
/-- x(), x the lambda, in a def that got it -/
theorem pe_actG {Z : Cx} {f c' : Addr} {q : Str} {k i : Nat} {tl : XK → Hp → VK → Prop} {W : WX} {a : Str} {p1 p2 : Pos} (l : LamRun Z.prog Z.w Z.K Z.mg Z.base (frs Z.outer) Z.H_0 Z.s_0.heap f c' q k tl) (hfs : Z.fs = frs Z.outer) (hex : Z.ex = []) (tk : Takes Z W) (hr : Room (k + 1) Z.A) (hst : Z.stack = Z.env :: Z.outer)
    (hN : Z.N[i]? = some a) (hv : Vis Z.env.scope a) (hd : (a == ("__debug__" : Str)) = false := by decide) (hcd : (a == ("__classdict__" : Str)) = false := by decide) :
    PE Z (.Call (.Name a p1) [] [] p2) (fun σZ HZ Q => σZ[i]? = some (some (.ref f)) ∧ HZ c' = some (CodeO c' q) ∧ tl (WE W σZ) HZ Q) := by
  refine ⟨fun pinsZ sZ σZ HZ Q IZ h => ?_⟩
  obtain ⟨hs, hc, ht⟩ := h
  refine wpAny_Call_Name_kw (thn ((pe_var (pos := p1) (i := i) hN hv hd hcd).run pinsZ sZ σZ HZ (fun v H1 => v = .ref f ∧ H1 = HZ) IZ ⟨.ref f, hs, rfl, rfl⟩) fun u s1 ⟨v, H1, I1, r1, q1⟩ => ?_)
  obtain ⟨ev, eH⟩ := q1
  subst ev
  rw [eH] at I1
  obtain rfl : u = Value.ref f := r1
  have un : Un (frs Z.outer) [] Z.H_0 HZ Z.s_0.heap s1.heap := by
    have b := I1.base
    rw [hfs, hex] at b
    exact b
  obtain ⟨oc, od, fd, sl, hf⟩ := l.at_
  refine PySem.W.callWith_F0 ⟨oc, od, fd, sl, un.keep f _ hf l.fn l.ff (by simp)⟩ ?_
  refine wpAny_call (codeAny_mono (l.run Z.A Z.stack s1 HZ Q (WE W σZ) hr I1.env0 un hc ht) fun r s' hq => ?_)
  cases r with
  | error e => exact passAt tk σZ pinsZ HZ s1 e s' I1 hq
  | ok fl =>
    cases fl with
    | ret u => exact I1.after hq
    | next => exact False.elim hq
    | brk => exact False.elim hq
    | cont => exact False.elim hq
/-! ### _law_tried -/
/-- a clause: its classes; the second field that it tells -/
abbrev Cl := List (List Value × Option Str)
def tsOf (K : PySem.W.Frag) (g : Option Str) : CTS := fun a cls d => tRet (tTup (tCons (tXg K a cls d "called" (tVar 1)) (tCons (match g with
  | some f => tXg K a cls d f (tVar 1)
  | none => tC (.str "")) tNil)))
def clTs (K : PySem.W.Frag) (cl : Cl) : List (List Value × CTS) := cl.map fun p => (p.1, tsOf K p.2)
def MatchAt (K : PySem.W.Frag) (cls : Value) : Cl → Option Str → Prop
  | [], _ => False
  | (cs, g) :: r, f => (PySem.W.exmAny K cls cs = some true ∧ g = f) ∨ (PySem.W.exmAny K cls cs = some false ∧ MatchAt K cls r f)
/-- the classes of exceptions: the second field that is told of each -/
abbrev Xt := List (Str × Option Str)
structure XtOk (K : PySem.W.Frag) (mg : Str → Option Value) (cl : Cl) (xt : Xt) : Prop where
  at_ : ∀ x f, xt.lookup x = some f → ∃ C, mg x = some (.ref C) ∧ XfC K C ∧ PySem.W.findIn K (.ref C) "called" = some none ∧ (∀ g, f = some g → PySem.W.findIn K (.ref C) g = some none) ∧ MatchAt K (.ref C) cl f
def triedX (xt : Xt) (x : Exc) : Option D := match xt.lookup x.cls with
  | some (some f) => match x.fs.lookup ("called" : Str), x.fs.lookup f with
    | some a, some b => some (.tup [a, b])
    | _, _ => none
  | some none => match x.fs.lookup ("called" : Str) with
    | some a => some (.tup [a, .str []])
    | none => none
  | none => none
def sTold : List Nat := [116, 111, 108, 100]
section
variable {K : PySem.W.Frag} {M : WM K}
def eTried (xt : Xt) (ee : Ev M D) : Ev M D := fun ρ s => ((ee ρ s).bind fun r => .ret (.tup [.str sTold, r.1], r.2)).catch_ fun x => match triedX xt x.1 with
  | some d => .ret (d, x.2)
  | none => .bad
/-- the wish of _law_tried at its call -/
def TTried (K : PySem.W.Frag) (cl : Cl) (f : Addr) (tl : XK → Hp → VK → Prop) : Hp → VK → Prop := fun H Q =>
  tl (WE (wGen K 1 (fun _ _ _ _ => False) { nx := fun _ H' => Q .non H', rt := Q } (clTs K cl)) [some (.ref f), none]) H
    fun v H1 => ([V.str "told", v] : List V).length ≤ sizeLine ∧ ∀ p, H1 p = none → Q (.ref p) (upd H1 p (.tup [.str "told", v]))
theorem wgen_of {cls : Value} {cl : Cl} {fo : Option Str} {D' : Ends} {σ : L2.St} {H : Hp} {d : Option Addr} {W : WX} (hm : MatchAt K cls cl fo)
    (h : ∀ a, H a = none → tsOf K fo a cls d { nx := fun σ' H' => D'.nx (σ'.set 1 none) H', rt := D'.rt, bk := fun σ' H' => D'.bk (σ'.set 1 none) H', ct := fun σ' H' => D'.ct (σ'.set 1 none) H' } (σ.set 1 (some (.ref a))) H) : wGen K 1 W D' (clTs K cl) cls d σ H := by
  induction cl with
  | nil => exact hm.elim
  | cons p r ih =>
    obtain ⟨cs, g⟩ := p
    rcases hm with ⟨h1, h2⟩ | ⟨h1, h2⟩
    · subst h2
      exact ⟨true, h1, fun _ => h, (fun z => by cases z)⟩
    · exact ⟨false, h1, (fun z => by cases z), fun _ => ih h2⟩
end
section
variable {K : PySem.W.Frag} {M : WM K} {mg : Str → Option Value} {cl : Cl} {xt : Xt} {ee : Ev M D} {σ : Sl} {W : WX}
/-- a pair of the exception's fields is told -/
theorem tsOf_ok {p q : Pt M} (ok : q.Ok) {x : Exc} {cls : Value} {dd : Option Addr} (h : XtOk K mg cl xt) (xk : XOk mg q x cls dd) {d : D} (hx : triedX xt x = some d) {f : Addr} {Q : VK}
    (hq : ∀ v (q' : Pt M), Ext q q' → q'.Ok → q'.s = q.s → Den K q'.ad q'.Hv d v → Q v q'.H) : wGen K 1 (fun _ _ _ _ => False) { nx := fun _ H' => Q .non H', rt := Q } (clTs K cl) cls dd [some (.ref f), none] q.H := by
  obtain ⟨hm, da, fv, hd, hda, nF, hfs⟩ := xk
  subst hd
  unfold triedX at hx
  cases z : xt.lookup x.cls with
  | none => rw [z] at hx; cases hx
  | some fo =>
    obtain ⟨C, hC, T, nc, ng, hmat⟩ := h.at_ _ _ z
    rw [hm] at hC; cases hC
    rw [z] at hx
    cases z1 : x.fs.lookup ("called" : Str) with
    | none => rw [z1] at hx; cases fo <;> cases hx
    | some y1 =>
      rw [z1] at hx
      obtain ⟨v1, l1, d1⟩ := hfs _ _ z1
      have lay : ∀ (vs : List V) (ds : List D), DenL K q.ad q.Hv ds vs → ∀ p, q.H p = none → (∀ v (q' : Pt M), Ext q q' → q'.Ok → q'.s = q.s → Den K q'.ad q'.Hv (.tup ds) v → Q v q'.H) → Q (.ref p) (upd q.H p (.tup vs)) := fun vs ds dn p hp k => by
        have e := ext_lay ok (o := .tup vs) hp
        exact k (.ref p) (q.lay p (.tup vs)) e (ok_lay ok hp) rfl ⟨p, vs, rfl, .inl (.inl upd_same), e.denL dn⟩
      cases fo with
      | none =>
        cases hx
        refine wgen_of hmat fun a ha => ?_
        exact ⟨.ref a, rfl, rfl, C, da, fv, v1, rfl, T, nc, rfl, hda, l1, (by rw [sizeLine_eq]; show 2 ≤ _; omega), fun p hp => lay _ [y1, .str []] (.cons d1 (.cons rfl .nil)) p hp hq⟩
      | some g =>
        have hx' : (match x.fs.lookup g with | some b => some (D.tup [y1, b]) | none => none) = some d := by
          cases z2 : x.fs.lookup g with
          | none => simp only [z2] at hx; cases hx
          | some y2 => simp only [z2] at hx; exact hx
        cases z2 : x.fs.lookup g with
        | none => rw [z2] at hx'; cases hx'
        | some y2 =>
          rw [z2] at hx'
          cases hx'
          obtain ⟨v2, l2, d2⟩ := hfs _ _ z2
          refine wgen_of hmat fun a ha => ?_
          exact ⟨.ref a, rfl, rfl, C, da, fv, v1, rfl, T, nc, rfl, hda, l1, .ref a, rfl, rfl, C, da, fv, v2, rfl, T, ng g rfl, rfl, hda, l2, (by rw [sizeLine_eq]; show 2 ≤ _; omega), fun p hp => lay _ [y1, y2] (.cons d1 (.cons d2 .nil)) p hp hq⟩
/-- from plain data to the wish of _law_tried -/
theorem tried_ok {p : Pt M} (ok : p.Ok) {ρ : Dv} (en : EnvD M p σ ρ) (h : XtOk K mg cl xt) {f : Addr} {Q : VK} {X' : Exc × M.S → Prop}
    (hq : (eTried xt ee ρ p.s).all (fun r => ∀ v (q : Pt M), Ext p q → q.Ok → q.s = r.2 → Den K q.ad q.Hv r.1 v → Q v q.H) X') : TTried K cl f (fun E HZ Q => tD M mg (fun cls d _ H => E cls d H) ee σ HZ Q) p.H Q := by
  refine ⟨ρ, p, rfl, ok, en, ?_⟩
  refine G.all_mono (fun r hr v q e okq es dv => ?_) (fun x hx cls dd q e okq es xk => ?_) (G.all_bind.mp (G.all_catch.mp hq))
  · refine ⟨by rw [sizeLine_eq]; show 2 ≤ _; omega, fun a ha => ?_⟩
    have el := ext_lay okq (o := .tup [.str "told", v]) ha
    exact hr (.ref a) (q.lay a (.tup [.str "told", v])) (e.trans el) (ok_lay okq ha) es ⟨a, _, rfl, .inl (.inl upd_same), .cons rfl (.cons (el.den dv) .nil)⟩
  · cases z : triedX xt x.1 with
    | none => rw [z] at hx; exact hx.elim
    | some d =>
      rw [z] at hx
      exact tsOf_ok (p := p) okq h xk z fun v q' e' ok' es' dv => hx v q' (e.trans e') ok' (es'.trans es) dv
end
end VQ

/-! VqP: _law_tried(lambda: e), _law_word(lambda: e). -/
namespace VQ
open PySem PySem.Spec PyProof.Rows L2 LamX
/-! ### the walk of _law_tried -/
abbrev E00 : XK := fun _ _ _ => False
/-- the def at g: try: return ('told', ask()), the clauses cl -/
structure TriedDef (P : Program) (w : World) (K : PySem.W.Frag) (mg : Str → Option Value) (base : Heap) (g : Addr) (cl : Cl) : Prop where
  ex : ∃ (st : Stmt) (fd : FuncData) (h₀ : ExceptHandler) (hds : List ExceptHandler) (j0 j1 : Nat) (p0 p1 p2 p3 p4 p5 : Pos), Fun K "_law_tried" "_law_tried" st g fd ∧ FnScope ["_law_ask", "e"] ["_law_ask"] (defScope st) ∧ L2.Binds K fd ["_law_ask"] [] ∧ (defScope st).names.lookup ("_law_ask" : Str) = some .local ∧ (defScope st).names.lookup ("e" : Str) = some .local ∧
    defBody st = [.Try [.Return (some (.Tuple [.Constant (.str "told") j0 p0, .Call (.Name "_law_ask" p1) [] [] p2] j1 p3)) p4] (h₀ :: hds) [] [] p5] ∧
    ∀ (cdv : Value) (A : Around) (outer : List Env) (s : Shared) (H : Hp), HdsG (cxOf (L2.CX P w) P w K mg base ["_law_ask", "e"] "_law_tried" (defScope st) g cdv A outer s H E00) "e" (h₀ :: hds) (clTs K cl)
  glob : mg "_law_tried" = some (.ref g)
section
variable {P : Program} {w : World} {K : PySem.W.Frag} {mg : Str → Option Value} {base : Heap} {g f c' : Addr} {cl : Cl} {q : Str} {k : Nat} {tl : XK → Hp → VK → Prop}
theorem tried_run (D : TriedDef P w K mg base g cl) {A : Around} {outer : List Env} {s : Shared} {H : Hp} {Q : VK} (hr : Room (k + 2) A) (e0 : Env0 P w K mg base A outer s H) (l : LamRun P w K mg base (frs outer) H s.heap f c' q k tl)
    (hc : H c' = some (CodeO c' q)) (h : TTried K cl f tl H Q) : codeAny (model P w) A (.call (.ref g) ⟨[.ref f], []⟩) (CR (L2.CX P w) outer P w H s Q E00) s := by
  obtain ⟨st, fd, h₀, hds, j0, j1, p0, p1, p2, p3, p4, p5, F, S, hb, k1, k2, eb, hh⟩ := D.ex
  obtain ⟨oc, od, kV, doc, pm, an, cdv, ct, osl, e, lk, hcd⟩ := F.ex
  subst e
  have KI : K.In s.heap := e0.mod.kin.keeps fun b o e => (e0.bs b o e).1
  refine run_ofS (N := ["_law_ask", "e"]) (ps := ["_law_ask"]) (us := [.ref f]) (vs := [.ref f]) lk hcd S hr e0 (hb s [.ref f] KI rfl) (.cons rfl .nil) rfl fun hr' => ?_
  rw [eb]
  refine ⟨_, pss_one (ps_try_gen (X := cxOf (L2.CX P w) P w K mg base ["_law_ask", "e"] "_law_tried" (defScope st) g cdv A outer s H E00) (i := 1) (Wout := fun _ _ _ _ => False) rfl rfl S.nd rfl ?_ L2.takes0 (fun W pn xe tk _ => pss_one (ps_ret (pe_tup (pa_cons pe_str (pa_cons (pe_actG (i := 0) l rfl rfl tk hr' rfl rfl ?_) pa_nil))))) (hh cdv A outer s H)), ?_⟩
  · exact k2
  · exact .inl k1
  · exact ⟨rfl, hc, h⟩
/-- .. called from a def that got the lambda -/
theorem pe_tried {Z : Cx} {p1 p2 p3 : Pos} (D : TriedDef Z.prog Z.w Z.K Z.mg Z.base g cl) (l : LamRun Z.prog Z.w Z.K Z.mg Z.base (frs Z.outer) Z.H_0 Z.s_0.heap f c' q k tl) (hfs : Z.fs = frs Z.outer) (hex : Z.ex = []) (hr : Room (k + 2) Z.A) (hst : frs Z.stack = Z.env.locals :: frs Z.outer)
    (hN : Z.N[0]? = some ("_law_ask" : Str)) (hv : Vis Z.env.scope "_law_ask") (hg : Gl Z "_law_tried") :
    PE Z (.Call (.Name "_law_tried" p1) [.Name "_law_ask" p2] [] p3) (fun σ H Q => σ[0]? = some (some (.ref f)) ∧ H c' = some (CodeO c' q) ∧ TTried Z.K cl f tl H Q) := by
  refine ⟨fun pins s σ H Q I h => ?_⟩
  obtain ⟨hs, hc, ht⟩ := h
  obtain ⟨st, fd, h₀, hds, j0, j1, q0, q1, q2, q3, q4, q5, F, S, hb, _⟩ := id D.ex
  refine wpAny_Call_Name_kw (ld_glob I hg D.glob ?_ (by decide))
  refine PySem.W.callWith_K (h₀ := Z.base) I.ok.mod.kin F.kp (thn ((pa_cons (pe_var (i := 0) hN hv (by decide) (by decide)) pa_nil).run p3 pins s σ H (fun vs H1 => vs = [V.ref f] ∧ H1 = H) I ⟨.ref f, hs, rfl, rfl⟩) fun us s1 ⟨vs, H1, I1, r1, q1⟩ => ?_) (by rfl) (by rfl)
  obtain ⟨ev, eH⟩ := q1
  subst ev
  rw [eH] at I1
  refine ⟨I1.kIn, ?_⟩
  cases r1 with
  | @cons _ u0 _ us' ru rn =>
    cases rn
    obtain rfl : u0 = Value.ref f := ru
    show wpAny _ _ (call (.ref g) [.ref f]) _ _ _
    have un : Un (frs Z.outer) [] Z.H_0 H Z.s_0.heap s1.heap := by
      have b := I1.base
      rw [hfs, hex] at b
      exact b
    have l' : LamRun Z.prog Z.w Z.K Z.mg Z.base (frs Z.stack) H s1.heap f c' q k tl := by
      rw [hst]
      exact l.step un I1.ok.above
    refine wpAny_call (codeAny_mono (tried_run D hr I1.env0 l' hc ht) fun r s' hq => ?_)
    cases r with
    | error e => exact passes_call (X := Z) (W := fun _ _ _ _ => False) L2.takes0 (fun _ _ _ _ h => h) pins σ H s1 e s' I1 hq
    | ok fl =>
      cases fl with
      | ret u => exact I1.after hq
      | next => exact False.elim hq
      | brk => exact False.elim hq
      | cont => exact False.elim hq
/-! ### the walk of _law_word -/
structure WordDef (P : Program) (w : World) (K : PySem.W.Frag) (mg : Str → Option Value) (base : Heap) (g : Addr) : Prop where
  ex : ∃ (st : Stmt) (fd : FuncData) (j : Nat) (p1 p2 p3 p4 p5 p6 : Pos), Fun K "_law_word" "_law_word" st g fd ∧ FnScope ["_law_ask"] ["_law_ask"] (defScope st) ∧ L2.Binds K fd ["_law_ask"] [] ∧ (defScope st).names.lookup ("_law_ask" : Str) = some .local ∧ (defScope st).names.lookup ("_law_tried" : Str) = some .globalImplicit ∧
    defBody st = [.Return (some (.Subscript (.Call (.Name "_law_tried" p1) [.Name "_law_ask" p2] [] p3) (.Constant (.int 0) j p4) p5)) p6]
  glob : mg "_law_word" = some (.ref g)
/-- its wish: the first of the two things told -/
def TWord (K : PySem.W.Frag) (cl : Cl) (f : Addr) (tl : XK → Hp → VK → Prop) : Hp → VK → Prop := fun H Q => TTried K cl f tl H fun x H1 => rIx K x (.int 0) H1 Q
theorem word_run {g' : Addr} (D : TriedDef P w K mg base g cl) (D' : WordDef P w K mg base g') {A : Around} {outer : List Env} {s : Shared} {H : Hp} {Q : VK} (hr : Room (k + 3) A) (e0 : Env0 P w K mg base A outer s H) (l : LamRun P w K mg base (frs outer) H s.heap f c' q k tl)
    (hc : H c' = some (CodeO c' q)) (h : TWord K cl f tl H Q) : codeAny (model P w) A (.call (.ref g') ⟨[.ref f], []⟩) (CR (L2.CX P w) outer P w H s Q E00) s := by
  obtain ⟨st, fd, j, p1, p2, p3, p4, p5, p6, F, S, hb, k1, k2, eb⟩ := D'.ex
  obtain ⟨oc, od, kV, doc, pm, an, cdv, ct, osl, e, lk, hcd⟩ := F.ex
  subst e
  have KI : K.In s.heap := e0.mod.kin.keeps fun b o e => (e0.bs b o e).1
  refine run_ofS (N := ["_law_ask"]) (ps := ["_law_ask"]) (us := [.ref f]) (vs := [.ref f]) lk hcd S hr e0 (hb s [.ref f] KI rfl) (.cons rfl .nil) rfl fun hr' => ?_
  rw [eb]
  refine ⟨_, pss_one (ps_ret (pe_ix ix_seq (pe_tried (cl := cl) D l rfl rfl hr' rfl rfl (.inl k1) k2) pe_int (by intro _ _; rfl))), ?_⟩
  exact ⟨rfl, hc, h⟩
end
/-! ### over plain data -/
section
variable {X : Cx} {M : WM X.K} {W : WX} {ee eT : Ev M D}
/-- the point behind the making of a lambda -/
theorem laid_pt {p : Pt M} (ok : p.Ok) {H1 : Hp} {P c' : Addr} {q : Str} {ps : Array Value} (hm : (P, q) ∈ M.T) (hu : ∀ r ∈ M.T, r.1 = P → r.2 = q) (hP : p.H P = some (.tbl ps)) (fP : p.F P) (ht : TriplesOk ps.toList)
    (ha : ∀ pos cv, codeAmong pos ps.toList = some cv → ∃ c, cv = .ref c ∧ p.H c = some (CodeO c q) ∧ p.F c) (l : Laid p.H H1 P c' q ps) : ∃ p1 : Pt M, p1.H = H1 ∧ p1.s = p.s ∧ Ext p p1 ∧ p1.Ok := by
  rcases l with ⟨e, pos, hc⟩ | ⟨ps', e, nc, ht', ha'⟩
  · exact ⟨p, e.symm, rfl, Ext.refl p, ok⟩
  · have nPc : P ≠ c' := ne_of_none hP nc
    have old : ∀ b, b ≠ P → b ≠ c' → H1 b = p.H b := fun b h1 h2 => by rw [e, upd_ne h2, upd_ne h1]
    have keep : ∀ b o, p.H b = some o → (∀ ps, o ≠ .tbl ps) → H1 b = some o := fun b o hb n => by
      rw [old b (fun z => n ps (Option.some.inj (hb.symm.trans (by rw [z]; exact hP)))) (ne_of_none hb nc)]; exact hb
    refine ⟨⟨p.s, fun x => p.F x ∨ x = c', p.Hv, H1, p.ad⟩, rfl, rfl, ⟨Same.rfl', fun b o hb nf => ?_, fun b o hb => .inl ⟨o, hb⟩, fun b h => ?_, fun _ _ h => h⟩, ⟨fun b o hb => ?_, fun b f => ?_, M.grow ok.rep (fun x h => .inl h) (fun b o _ hb n => keep b o hb n) (fun r hr => ?_) fun x hx => ?_⟩⟩
    · show H1 b = some o
      rw [old b (fun z => nf (z ▸ fP)) (ne_of_none hb nc)]; exact hb
    · rcases h with h | h
      · exact .inl h
      · exact .inr (h ▸ nc)
    · show H1 b = some o
      have hH := ok.view _ _ hb
      rw [old b (fun z => by rw [z, ok.off P fP] at hb; cases hb) (ne_of_none hH nc)]; exact hH
    · rcases f with f | f
      · exact ok.off b f
      · rw [f]; exact ok.vn nc
    · by_cases hb : r.1 = P
      · rw [hu r hr hb, hb]
        refine ⟨.inl fP, ps', by show H1 P = _; rw [e, upd_ne nPc, upd_same], ht', fun pos cv hcv => ?_⟩
        rcases ha' pos cv hcv with z | z
        · obtain ⟨c0, e1, e2, e3⟩ := ha pos cv z
          exact ⟨c0, e1, keep _ _ e2 codeO_ne, .inl e3⟩
        · exact ⟨c', z, by show H1 c' = _; rw [e, upd_same], .inr rfl⟩
      · obtain ⟨o, ps2, a1, a2, a3⟩ := M.tabs ok.rep r hr
        refine ⟨.inl o, ps2, by show H1 r.1 = _; rw [old _ hb (ne_of_none a1 nc)]; exact a1, a2, fun pos cv hcv => ?_⟩
        obtain ⟨c0, e1, e2, e3⟩ := a3 pos cv hcv
        exact ⟨c0, e1, keep _ _ e2 codeO_ne, .inl e3⟩
    · rcases hx with hx | hx
      · obtain ⟨o, h⟩ := M.dom ok.rep hx
        by_cases hb : x = P
        · exact ⟨.tbl ps', by rw [hb]; show H1 P = _; rw [e, upd_ne nPc, upd_same]⟩
        · exact ⟨o, by show H1 x = _; rw [old x hb (ne_of_none h nc)]; exact h⟩
      · exact ⟨_, by rw [hx]; show H1 c' = _; rw [e, upd_same]⟩
/-- x(lambda: body), the def x keeping what hrun says -/
theorem pe_lamG {x : Str} {g c P : Addr} {k : Nat} {params : Arguments} {body : Expr} {scope : Scope} {p lpos pos : Pos} (hg : Gl X x) (hm : X.mg x = some (.ref g)) (hk : PySem.W.keepIn X.K (.ref g) = true)
    (hrun : ∀ (σ : Sl) (s : Shared) (H : Hp) (Q : VK) (f c' : Addr) (ρ : Dv) (q : Pt M) (X' : Exc × M.S → Prop), Env0 X.prog X.w X.K X.mg X.base X.A X.stack s H → LamRun X.prog X.w X.K X.mg X.base (frs X.stack) H s.heap f c' (X.env.qual ++ "<lambda>") k (fun E HZ Q => tD M X.mg (fun cls d _ H => E cls d H) ee σ HZ Q) →
      H c' = some (CodeO c' (X.env.qual ++ "<lambda>")) → q.H = H → q.Ok → EnvD M q σ ρ → (eT ρ q.s).all (fun r => ∀ v (q1 : Pt M), Ext q q1 → q1.Ok → q1.s = r.2 → Den X.K q1.ad q1.Hv r.1 v → Q v q1.H) X' → codeAny (model X.prog X.w) X.A (.call (.ref g) ⟨[.ref f], []⟩) (CR (L2.CX X.prog X.w) X.stack X.prog X.w H s Q E00) s)
    (TB : TabB X.base X.mg c P) (hcode : X.env.code = .ref c) (hmT : (P, X.env.qual ++ "<lambda>") ∈ M.T) (hu : ∀ r ∈ M.T, r.1 = P → r.2 = X.env.qual ++ "<lambda>") (L : LamS X.env.scope scope) (hdef : defaultsOf params X.env = ([], []))
    (hbind : ∀ (q : Str) (cl : List (Str × Addr)) (pm cv ctv : Value), bindArgs (PySem.W.kla_fn "<lambda>" q params body scope cl pm cv ctv) ⟨[], []⟩ = pure [])
    (hbody : ∀ (A : Around) (outer : List Env) (s : Shared) (H : Hp) (E : XK) (f c' : Addr), Room k (A.deeper (lamEnv X scope s.heap.objs.size f c')) → PE (lamCx X A outer s H E scope f c') body (tD M X.mg (fun cls d _ H => E cls d H) ee))
    (hdb : (x == ("__debug__" : Str)) = false := by decide) : PE X (.Call (.Name x p) [.Lambda params body scope lpos] [] pos) (tD M X.mg W eT) := by
  refine ⟨fun pins s σ H Q I h => ?_⟩
  obtain ⟨ρ, q, hH, ok, en, hq⟩ := h
  subst hH
  obtain ⟨fP, ps, hP, ht, ha⟩ := M.tabs ok.rep _ hmT
  refine wpAny_Call_Name_kw (ld_glob I hg hm ?_ hdb)
  refine PySem.W.callWith_K (h₀ := X.base) I.ok.mod.kin hk ?_ (by rfl) (by rfl)
  show wpAny _ _ (spliced ((false, eval (.Lambda params body scope lpos) X.env) :: backTo pos (starEach [] X.env))) _ _ s
  refine Calls.spliced_cons (lam_mk I TB hcode hP ht (fun pos cv e => (ha pos cv e).imp fun c h => ⟨h.1, h.2.1⟩) hdef (L.has I.ok) fun f c' pm' ctv H1 s' I1 ld hf hfn hfr hco => ?_)
  refine Calls.spliced_nil ⟨I1.kIn, ?_⟩
  obtain ⟨p1, e1, e2, ex, ok1⟩ := laid_pt ok hmT hu hP fP ht ha ld
  have l := lam_run (k := k) (t := fun E => tD M X.mg (fun cls d _ H => E cls d H) ee) I1 L hf hfn hfr (hbind _ _ _ _ _) fun A outer s H E hr => hbody A outer s H E f c' hr
  refine wpAny_call (codeAny_mono (hrun σ s' H1 Q f c' ρ p1 (fun _ => True) I1.env0 l hco e1 ok1 (en.ext ex) ?_) fun r s2 hq => ?_)
  · rw [e2]
    exact G.all_mono (fun r hr v q1 e o es dv => hr v q1 (ex.trans e) o es dv) (fun _ _ => trivial) hq
  · cases r with
    | error e => exact passes_call (X := X) (W := fun _ _ _ _ => False) L2.takes0 (fun _ _ _ _ h => h) pins σ H1 s' e s2 I1 hq
    | ok fl =>
      cases fl with
      | ret u => exact I1.after hq
      | next => exact False.elim hq
      | brk => exact False.elim hq
      | cont => exact False.elim hq
/-- what a lambda's making asks of the def's context -/
structure LamIn (X : Cx) (M : WM X.K) : Prop where
  ex : ∃ c P, TabB X.base X.mg c P ∧ X.env.code = .ref c ∧ (P, X.env.qual ++ "<lambda>") ∈ M.T ∧ ∀ r ∈ M.T, r.1 = P → r.2 = X.env.qual ++ "<lambda>"
variable {g g' : Addr} {cl : Cl} {xt : Xt} {k j : Nat} {params : Arguments} {body : Expr} {scope : Scope} {p lpos pos : Pos}
/-- _law_tried(lambda: e) -/
theorem ev_tried (D : TriedDef X.prog X.w X.K X.mg X.base g cl) (hx : XtOk X.K X.mg cl xt) (hl : LamIn X M) (hr : Room j X.A) (k : Nat)
    (hbody : ∀ (A : Around) (outer : List Env) (s : Shared) (H : Hp) (E : XK) (f c' : Addr), Room k (A.deeper (lamEnv X scope s.heap.objs.size f c')) → Takes (lamCx X A outer s H E scope f c') (fun cls d _ H => E cls d H) → PE (lamCx X A outer s H E scope f c') body (tD M X.mg (fun cls d _ H => E cls d H) ee))
    (hj : k + 2 ≤ j := by decide) (hg : Gl X "_law_tried" := by rfl) (hL : lamSB X.env.scope scope = true := by rfl) (hdef : defaultsOf params X.env = ([], []) := by rfl)
    (hbind : ∀ (q : Str) (cl : List (Str × Addr)) (pm cv ctv : Value), bindArgs (PySem.W.kla_fn "<lambda>" q params body scope cl pm cv ctv) ⟨[], []⟩ = pure [] := by intros; rfl) : PE X (.Call (.Name "_law_tried" p) [.Lambda params body scope lpos] [] pos) (tD M X.mg W (eTried xt ee)) := by
  obtain ⟨c, P, TB, hcode, hmT, hu⟩ := hl.ex
  obtain ⟨st, fd, _, _, _, _, _, _, _, _, _, _, F, _⟩ := id D.ex
  refine pe_lamG hg D.glob F.kp (fun σ s H Q f c' ρ q X' e0 l hc e1 ok en hq => ?_) TB hcode hmT hu (lamS_by hL) hdef hbind (fun A outer s H E f c' hr => hbody A outer s H E f c' hr (takes_of rfl rfl rfl rfl))
  subst e1
  exact tried_run D (hr.mono hj) e0 l hc (tried_ok ok en hx hq)
/-- the first of two things -/
def eFst {K : PySem.W.Frag} {M : WM K} (ea : Ev M D) : Ev M D := fun ρ s => (ea ρ s).bind fun r => match r.1 with
  | .tup (a :: _) => .ret (a, r.2)
  | _ => .bad
/-- _law_word(lambda: e) -/
theorem ev_word (D : TriedDef X.prog X.w X.K X.mg X.base g cl) (D' : WordDef X.prog X.w X.K X.mg X.base g') (hx : XtOk X.K X.mg cl xt) (hl : LamIn X M) (hr : Room j X.A) (k : Nat)
    (hbody : ∀ (A : Around) (outer : List Env) (s : Shared) (H : Hp) (E : XK) (f c' : Addr), Room k (A.deeper (lamEnv X scope s.heap.objs.size f c')) → Takes (lamCx X A outer s H E scope f c') (fun cls d _ H => E cls d H) → PE (lamCx X A outer s H E scope f c') body (tD M X.mg (fun cls d _ H => E cls d H) ee))
    (hj : k + 3 ≤ j := by decide) (hg : Gl X "_law_word" := by rfl) (hL : lamSB X.env.scope scope = true := by rfl) (hdef : defaultsOf params X.env = ([], []) := by rfl)
    (hbind : ∀ (q : Str) (cl : List (Str × Addr)) (pm cv ctv : Value), bindArgs (PySem.W.kla_fn "<lambda>" q params body scope cl pm cv ctv) ⟨[], []⟩ = pure [] := by intros; rfl) : PE X (.Call (.Name "_law_word" p) [.Lambda params body scope lpos] [] pos) (tD M X.mg W (eFst (eTried xt ee))) := by
  obtain ⟨c, P, TB, hcode, hmT, hu⟩ := hl.ex
  obtain ⟨st, fd, _, _, _, _, _, _, _, F, _⟩ := id D'.ex
  refine pe_lamG hg D'.glob F.kp (fun σ s H Q f c' ρ q X' e0 l hc e1 ok en hq => ?_) TB hcode hmT hu (lamS_by hL) hdef hbind (fun A outer s H E f c' hr => hbody A outer s H E f c' hr (takes_of rfl rfl rfl rfl))
  subst e1
  refine word_run D D' (hr.mono hj) e0 l hc (tried_ok ok en hx (X' := X') (G.all_mono (fun r hr v q1 e ok1 es dv => ?_) (fun _ h => h) (G.all_bind.mp hq)))
  obtain ⟨d, s1⟩ := r
  cases d with
  | tup ds =>
    cases ds with
    | nil => exact hr.elim
    | cons d0 ds =>
      obtain ⟨a, vs, rfl, h1, h2⟩ := dv
      obtain ⟨v, r, rfl, h3, h4⟩ := h2
      exact .inr (.inl ⟨a, v :: r, 0, v, rfl, rfl, sqT_same ok1.view h1, (atI_nat rfl : atI (v :: r) ((0 : Nat) : Int) = some v), hr v q1 e ok1 es h3⟩)
  | _ => exact hr.elim
end
end VQ

/-! VqQ: what a law's text asks beside: chains, constants of the module, draws, the bag, the law's own def, __init__ of exceptions. -/
namespace VQ
open PySem PySem.Spec PyProof.Rows L2
section
variable {K : PySem.W.Frag} {M : WM K}
def eCmpT (f : D → D → Option Bool) (ea eb : Ev M D) : Ev M Bool := fun ρ s => (ea ρ s).bind fun x => (eb ρ x.2).bind fun y => op (f x.1 y.1) y.2
def eChain (f f' : D → D → Option Bool) (ea eb ec : Ev M D) : Ev M D := fun ρ s => (ea ρ s).bind fun x => (eb ρ x.2).bind fun y => (op (f x.1 y.1) y.2).bind fun k => if k.1 = true then (ec ρ k.2).bind fun z => (op (f' y.1 z.1) z.2).bind fun m => .ret (.bl m.1, m.2) else .ret (.bl false, k.2)
end
section
variable {X : Cx} {M : WM X.K} {W : WX} {e a b c : Expr} {es rest : List Expr} {pos : Pos} {ea eb ec : Ev M D} {er : Ev M R} {el : Ev M (List D)}
theorem tt_cmp2 {o : CmpOp} {r : R2} {f : D → D → Option Bool} (ho : OpR X (compareOp o) r) (hf : OpD M (fun d e => (f d e).map fun k => R.sh (.bl k)) r) (ha : PE X a (tD M X.mg W ea)) (hb : PE X b (tD M X.mg W eb)) (hm : behindInMarks o b = false := by rfl) :
    PT X (.Compare a [o] [b] pos) (tB' M X.mg W (eCmpT f ea eb)) := tt_cmp ho hf ha hb hm
theorem ev_chain {o o' : CmpOp} {r r' : R2} {f f' : D → D → Option Bool} (ho : OpR X (compareOp o) r) (ho' : OpR X (compareOp o') r') (hf : OpD M (fun d e => (f d e).map fun k => R.sh (.bl k)) r) (hf' : OpD M (fun d e => (f' d e).map fun k => R.sh (.bl k)) r')
    (ha : PE X a (tD M X.mg W ea)) (hb : PE X b (tD M X.mg W eb)) (hc : PE X c (tD M X.mg W ec)) (hm : lastMarks [o, o'] [b, c] = false := by with_unfolding_all rfl) :
    PE X (.Compare a [o, o'] [b, c] pos) (tD M X.mg W (eChain f f' ea eb ec)) := tt_chain ho ho' hf hf' ha hb hc (pe_chain ho ho' ha hb hc hm)
end
/-- a constant of the module -/
structure GC (mg : Str → Option Value) (x : Str) (d : D) : Prop where
  ex : ∃ (v : V) (u : Value), mg x = some u ∧ RelV v u ∧ ∀ (K : PySem.W.Frag) (ad : Nat → Option Addr) (Hv : Hp), Den K ad Hv d v
theorem GC.int {mg : Str → Option Value} {x : Str} {i : Int} {t : Tok} (h : mg x = some (.int i t)) : GC mg x (.int i) := ⟨.int i, _, h, ⟨t, rfl⟩, fun _ _ _ => rfl⟩
theorem ev_gc {X : Cx} {M : WM X.K} {W : WX} {x : Str} {d : D} {pos : Pos} (h : GC X.mg x d) (hg : Gl X x := by rfl) (hdb : (x == ("__debug__" : Str)) = false := by decide) : PE X (.Name x pos) (tD M X.mg W (eC M d)) := by
  obtain ⟨v, u, h1, h2, h3⟩ := h.ex
  exact ev_glob hg h1 h2 (h3 X.K) hdb
/-! ### defs -/
section
variable {P : Program} {w : World} {K : PySem.W.Frag} {mg : Str → Option Value} {base : Heap} {M : WM K}
theorem DefOk.of {k : Nat} {f : Addr} {fd : FuncData} {ps : List Str} {x qual : Str} {st : Stmt} {n : Nat} {fs : List D → M.S → Gx M R} (F : Fun K x qual st f fd) (hm : mg x = some (.ref f)) (hb : L2.Binds K fd ps []) (h : FnOk P w K mg base (L2.CX P w) k f fd ps (spV M mg n fs)) : DefOk P w K mg base M k x n fs [] :=
  ⟨f, fd, ps, [], [], h, hm, F.kp, hb, .nil, fun _ _ => DenL.nil⟩
theorem DefOk.ofD {k : Nat} {f : Addr} {fd : FuncData} {ps : List Str} {ds : List Value} {dvs : List V} {dfl : List D} {x qual : Str} {st : Stmt} {n : Nat} {fs : List D → M.S → Gx M R} (F : Fun K x qual st f fd) (hm : mg x = some (.ref f)) (hb : L2.Binds K fd ps ds) (hv : Vals dvs ds) (hd : ∀ ad Hv, DenL K ad Hv dfl dvs)
    (h : FnOk P w K mg base (L2.CX P w) k f fd ps (spV M mg n fs)) : DefOk P w K mg base M k x n fs dfl := ⟨f, fd, ps, ds, dvs, h, hm, F.kp, hb, hv, hd⟩
/-- a def that nothing is asked of -/
def fBad : List D → M.S → Gx M R := fun _ _ => .bad
theorem fn_bad {k n : Nat} {f : Addr} {fd : FuncData} {ps : List Str} (hn : ps.length = n) : FnOk P w K mg base (L2.CX P w) k f fd ps (spV M mg n fBad) :=
  ⟨fun vs H Q E ⟨ds, p, h, _⟩ => h.trans hn.symm, fun A outer s H args us vs Q E _ _ _ _ ⟨ds, p, _, _, _, _, q⟩ => q.elim⟩
end
/-! ### draws -/
section
variable {P : Program} {w : World} {K : PySem.W.Frag} {mg : Str → Option Value} {base : Heap} {b l : Addr} {T : List (Addr × Str)} {I : IW K}
def nPull : List Str := ["_law_bag_here", "_law_size", "_law_cell", "_law_digit"]
theorem pull_inv {S : Type} {ds : List D} {s : S} {Q : R × S → Prop} {E : Exc × S → Prop} (h : (pullS ds s).all Q E) : ∃ n : Int, ds = [.obj 0, .int n] ∧ 0 < n ∧ n < 1073741824 ∧ ∀ r, r < n.toNat → Q (.sh (.int (r : Nat)), s) := by
  match ds, h with
  | [.obj 0, .int n], h =>
    by_cases hn : 0 < n ∧ n < 1073741824
    · have h' : (if 0 < n ∧ n < 1073741824 then (.draw n.toNat fun r => .ret (.sh (.int (r : Nat)), s) : G (Exc × S) (R × S)) else .bad).all Q E := h
      rw [if_pos hn] at h'
      exact ⟨n, rfl, hn.1, hn.2, h'.2⟩
    · have h' : (if 0 < n ∧ n < 1073741824 then (.draw n.toNat fun r => .ret (.sh (.int (r : Nat)), s) : G (Exc × S) (R × S)) else .bad).all Q E := h
      rw [if_neg hn] at h'
      exact h'.elim
theorem pull_ok {x qual : Str} {st : Stmt} {f : Addr} {fd : FuncData} {k : Nat} (F : Fun K x qual st f fd) (S : FnScope nPull ["_law_bag_here", "_law_size"] (defScope st))
    (hbody : ∀ (cdv : Value) (A : Around) (outer : List Env) (s : Shared) (H : Hp) (E : XK), PSs (cxOf (L2.CX P w) P w K mg base nPull qual (defScope st) f cdv A outer s H E) (defBody st) (tPull K)) : FnOk P w K mg base (L2.CX P w) (k + 1) f fd ["_law_bag_here", "_law_size"] (spV (bagW K b l T I) mg 2 pullS) := by
  refine F.okX S (fun vs H Q E ⟨ds, p, h, _⟩ => h) (fun cdv A outer s H vs Q E hr h => ⟨_, hbody cdv A outer s H E, ?_⟩)
  obtain ⟨ds, p, hl, hH, ok, hd, hq⟩ := h
  subst hH
  obtain ⟨n, rfl, h1, h2, hk⟩ := pull_inv hq
  obtain ⟨v1, r1, rfl, d1, v2, r2, rfl, d2, rfl⟩ := hd
  obtain ⟨a, ha, rfl⟩ := d1
  have ha : p.ad 0 = some a := ha
  obtain ⟨hb, _⟩ := ok.rep
  obtain rfl : b = a := Option.some.inj (hb.symm.trans ha)
  cases d2
  exact pull_read (p := p) ok h1 h2 fun r q hr e okq es => hk r hr (.int (r : Nat)) q e okq es rfl
/-- the bag's making: of the script's numbers -/
def spBag (K : PySem.W.Frag) : Sp := fun vs H Q _ => ∃ (a : Addr) (ns : List Int), vs = [.ref a] ∧ SqL K H a (ns.map V.int) ∧ ns.length ≤ 63 ∧ ∀ (b l : Addr) (H' : Hp), BagAt H' b l → (∀ x o, H x = some o → H' x = some o) → H b = none → H l = none → Q (.ref b) H'
/-- its body's reading -/
def tBag (K : PySem.W.Frag) : TS := tRet (tLst (tCons (tCB (fun xs H Q => ∃ p ys, xs = [.ref p] ∧ (SqL K H p ys ∨ SqT K H p ys) ∧ ∀ l, H l = none → Q (.ref l) (upd H l (.lst ys)))
  (tCons (tSl (rSlL K) (tVar 0) tNoPart (tPart (pI 63))) tNil)) (tCons (pI 0) (tCons (pI 0) (tCons (pI 1) (tCons (pI 0) tNil))))))
theorem cut63 {ns : List Int} (h : ns.length ≤ 63) : cutV (ns.map V.int) none (some 63) = ns.map V.int := by
  unfold cutV
  have e1 : HT.sIx (ns.map V.int).length 0 none = 0 := rfl
  have e2 : HT.sIx (ns.map V.int).length (ns.map V.int).length (some 63) = min 63 (ns.map V.int).length := HT.sIx_nat _ _ 63
  rw [e1, e2, List.drop_zero, Nat.sub_zero, List.take_of_length_le (by rw [List.length_map]; omega)]
theorem bag_ok {x qual : Str} {st : Stmt} {f : Addr} {fd : FuncData} {k : Nat} (F : Fun K x qual st f fd) (S : FnScope ["_law_script"] ["_law_script"] (defScope st))
    (hbody : ∀ (cdv : Value) (A : Around) (outer : List Env) (s : Shared) (H : Hp) (E : XK), PSs (cxOf (L2.CX P w) P w K mg base ["_law_script"] qual (defScope st) f cdv A outer s H E) (defBody st) (tBag K)) : FnOk P w K mg base (L2.CX P w) (k + 1) f fd ["_law_script"] (spBag K) := by
  refine F.okX S (fun vs H Q E ⟨a, ns, h, _⟩ => by rw [h]; rfl) (fun cdv A outer s H vs Q E hr h => ⟨_, hbody cdv A outer s H E, ?_⟩)
  obtain ⟨a, ns, rfl, hS, hl, hk⟩ := h
  refine ⟨.ref a, rfl, 63, rfl, a, ns.map V.int, rfl, hS, fun p hp => ⟨p, _, rfl, .inl (SqL.of upd_same), fun l hl2 => ⟨by rw [sizeLine_eq]; show 5 ≤ _; omega, fun b hb => ?_⟩⟩⟩
  have n1 : b ≠ l := fun z => by rw [z, upd_same] at hb; cases hb
  rw [upd_ne n1] at hb
  have n2 : b ≠ p := fun z => by rw [z, upd_same] at hb; cases hb
  rw [upd_ne n2] at hb
  have n3 : l ≠ p := fun z => by rw [z, upd_same] at hl2; cases hl2
  rw [upd_ne n3] at hl2
  refine hk b l _ ⟨n1, ns, 0, 0, 1, 0, upd_same, ?_, hl, by decide, by omega, by decide, by decide, by decide⟩ (fun x o e => ?_) hb hl2
  · rw [upd_ne (Ne.symm n1), upd_same, cut63 hl]
  · rw [upd_ne (ne_of_none e hb), upd_ne (ne_of_none e hl2), upd_ne (ne_of_none e hp)]; exact e
/-! ### the law's def -/
theorem pss_ex {X : Cx} {ι : Type} {sts : List Stmt} {t : ι → TS} (h : ∀ i, PSs X sts (t i)) : PSs X sts (fun D σ H => ∃ i, t i D σ H) := ⟨fun pins s σ H D I ⟨i, q⟩ => (h i).run pins s σ H D I q⟩
/-- what the law's def is handed: the script; empty tables -/
def spLaw (K : PySem.W.Frag) (T : List (Addr × Str)) : Sp := fun vs H Q _ => ∃ (a : Addr) (ns : List Int), vs = [.ref a] ∧ SqL K H a (ns.map V.int) ∧ ns.length ≤ 63 ∧ (∀ r ∈ T, H r.1 = some (.tbl #[])) ∧ ∀ H', Q (.bl true) H'
/-- the point behind the bag's making -/
def lawPt (K : PySem.W.Frag) (b l : Addr) (T : List (Addr × Str)) (I : IW K) (s0 : I.S) (H : Hp) : Pt (bagW K b l T I) := ⟨s0, fun x => x = b ∨ x = l ∨ ∃ r ∈ T, x = r.1, fun _ => none, H, fun n => if n = 0 then some b else none⟩
/-- the inner world at its beginning: nothing yet -/
def Begin {K : PySem.W.Frag} (I : IW K) (s0 : I.S) : Prop := ∀ ad H, (∀ n, ad (n + 1) = none) → I.rep s0 ad (fun _ => False) (fun _ => none) H
theorem lawPt_ok {H : Hp} {s0 : I.S} (h0 : Begin I s0) (B : BagAt H b l) (hT : ∀ r ∈ T, H r.1 = some (.tbl #[])) : (lawPt K b l T I s0 H).Ok := by
  refine ⟨(fun _ _ e => by cases e), fun _ _ => rfl, rfl, .inl rfl, .inr (.inl rfl), fun r hr => ⟨.inr (.inr ⟨r, hr, rfl⟩), #[], hT r hr, trivial, fun pos cv e => ?_⟩, B, fun x hx => ?_, fun _ => False, fun _ h => h.elim, h0 _ _ fun n => by show (if n + 1 = 0 then some b else none) = none; simp⟩
  · have z : PySem.codeAmong pos [] = some cv := e
    simp [PySem.codeAmong] at z
  · obtain ⟨ne, ns, c, g, st, k, h2, h3, h4⟩ := B
    rcases hx with h | h | ⟨r, hr, h⟩
    · exact ⟨_, by rw [h]; exact h2⟩
    · exact ⟨_, by rw [h]; exact h3⟩
    · exact ⟨_, by rw [h]; exact hT r hr⟩
theorem law_ok {st : Stmt} {f fb : Addr} {fdb : FuncData} {k kb n : Nat} {oc kV doc pm cdv ct : Value} {od an : Option Addr} {osl : Array (Option Value)} {N : List Str} {x0 x1 : Str} {rest : List Stmt} {p1 p2 p3 p4 p5 : Pos} {ss : (b l : Addr) → Sv (bagW K b l T I)} (lk : K.lookup f = some ⟨oc, od, .func (PySem.W.fnOf "law" "law" (defArgs st) (defBody st) (defScope st) .none kV doc pm an cdv ct), osl⟩) (hcd : PySem.W.codeIn K cdv "law" = true) (S : FnScope N [x0] (defScope st)) (hn : N.length = n + 2) (h0 : N[0]? = some x0) (h1 : N[1]? = some x1)
    (hv0 : Vis (defScope st) x0) (hv1 : Loc (defScope st) x1) (hd0 : (x0 == ("__debug__" : Str)) = false) (hc0 : (x0 == ("__classdict__" : Str)) = false)
    (hg : (defScope st).names.lookup ("_law_bag" : Str) = some .globalImplicit) (hm : mg "_law_bag" = some (.ref fb)) (hk : PySem.W.keepIn K (.ref fb) = true) (hbb : L2.Binds K fdb ["_law_script"] []) (B : FnOk P w K mg base (L2.CX P w) kb fb fdb ["_law_script"] (spBag K)) (hkb : kb ≤ k)
    (hb : defBody st = .Assign [.Name x1 p1] (.Call (.Name "_law_bag" p2) [.Name x0 p3] [] p4) p5 :: rest)
    (hrest : ∀ (b l : Addr) (A : Around) (outer : List Env) (s : Shared) (H : Hp) (E : XK), Room k (A.deeper (envOfC "law" (defScope st) s.heap.objs.size f cdv)) → Takes (cxOf (L2.CX P w) P w K mg base N "law" (defScope st) f cdv A outer s H E) (fun cls d _ H => E cls d H) →
      PSs (cxOf (L2.CX P w) P w K mg base N "law" (defScope st) f cdv A outer s H E) rest (tS (bagW K b l T I) mg (fun cls d _ H => E cls d H) (ss b l)))
    {s0 : I.S} (hI : Begin I s0) (hpure : ∀ b l : Addr, (ss b l (none :: some (.sh (.obj 0)) :: List.replicate n none) s0).all (fun r => r.1 = .rt (.sh (.bl true))) (fun _ => False)) : FnOk P w K mg base (L2.CX P w) (k + 1) f (PySem.W.fnOf "law" "law" (defArgs st) (defBody st) (defScope st) .none kV doc pm an cdv ct) [x0] (spLaw K T) := by
  refine fn_of lk hcd S (fun vs H Q E ⟨a, ns, h, _⟩ => by rw [h]; rfl) (fun A outer s H vs Q E hr h => ?_)
  have tk : Takes (cxOf (L2.CX P w) P w K mg base N "law" (defScope st) f cdv A outer s H E) (fun cls d _ H => E cls d H) := takes_of rfl rfl rfl rfl
  rw [hb]
  refine ⟨_, pss_cons (ps_set (i := 1) S.nd h1 hv1 (pe_callSD (E := WE fun cls d _ H => E cls d H) B (hr.mono hkb) hg hm hk hbb .nil (passAt tk) (pa_cons (pe_var (i := 0) h0 hv0 hd0 hc0) pa_nil)) (by rfl)) (pss_ex (ι := Addr × Addr) fun i => hrest i.1 i.2 A outer s H E hr tk), ?_⟩
  obtain ⟨a, ns, rfl, hS, hl, hT, hq⟩ := h
  have eN : N.length = n + 2 := hn
  refine ⟨.ref a, ?_, a, ns, rfl, hS, hl, fun b l H' hB hs hbn hln => ⟨(b, l), lawPt K b l T I s0 H', none :: some (.sh (.obj 0)) :: List.replicate n none, lawPt K b l T I s0 H', rfl, ?_, G.all_mono (fun r hr => ?_) (fun x hx => hx.elim) (hpure b l)⟩⟩
  · show (L2.start N [V.ref a])[0]? = _
    unfold L2.start; simp
  · have ok := lawPt_ok (K := K) (T := T) hI hB fun r hr => hs _ _ (hT r hr)
    have es : (L2.start N [V.ref a]).set 1 (some (V.ref b)) = some (.ref a) :: some (.ref b) :: List.replicate n none := by
      unfold L2.start
      rw [eN]
      simp [List.replicate_succ]
    show Rel (lawPt K b l T I s0 H') (none :: some (.sh (.obj 0)) :: List.replicate n none) ((L2.start N [V.ref a]).set 1 (some (V.ref b))) (lawPt K b l T I s0 H')
    rw [es]
    have get : ∀ (i : Nat) vv, (none :: some (VV.sh (.obj 0)) :: List.replicate n none : Nv)[i]? = some (some vv) → i = 1 ∧ vv = .sh (.obj 0) := fun i vv e => by
      match i with
      | 0 => simp at e
      | 1 => simp at e; exact ⟨rfl, e.symm⟩
      | i + 2 =>
        simp only [List.getElem?_cons_succ, List.getElem?_replicate] at e
        split at e <;> cases e
    refine ⟨ok, Ext.refl _, by simp, fun i d e => ?_, fun i d e => ?_, fun i j d d' a _ e => ?_⟩
    · obtain ⟨rfl, h2⟩ := get i _ e
      cases h2
      exact ⟨.ref b, rfl, b, rfl, rfl⟩
    · obtain ⟨_, h2⟩ := get i _ e; cases h2
    · obtain ⟨_, h2⟩ := get i _ e; cases h2
  · obtain ⟨fl, s1⟩ := r
    have hr : fl = .rt (.sh (.bl true)) := hr
    subst hr
    intro v q ex okq es rk
    have : v = .bl true := rk
    subst this
    exact hq _
end
/-! ### __init__ of exceptions -/
section
variable {P : Program} {w : World} {K : PySem.W.Frag} {mg : Str → Option Value} {base : Heap}
theorem upd_swap3 {H : Hp} {dx a : Addr} {o1 o2 oa : HO} (h : dx ≠ a) : upd (upd (upd H dx o1) a oa) dx o2 = upd (upd H dx o2) a oa := by
  funext x
  by_cases h1 : x = dx
  · rw [h1, upd_same, upd_ne h, upd_same]
  · rw [upd_ne h1]
    by_cases h2 : x = a
    · rw [h2, upd_same, upd_same]
    · rw [upd_ne h2, upd_ne h1, upd_ne h2, upd_ne h1]
/-- class B: def __init__(self, called): self.called = called -/
theorem base_init {st : Stmt} {q : Str} {f : Addr} {fd : FuncData} {k : Nat} {p1 p2 p3 p4 : Pos} (F : Fun K "__init__" q st f fd) (S : FnScope ["self", "called"] ["self", "called"] (defScope st)) (h1 : (defScope st).names.lookup ("self" : Str) = some .local) (h2 : (defScope st).names.lookup ("called" : Str) = some .local)
    (hb : defBody st = [.Assign [.Attribute (.Name "self" p1) "called" p2] (.Name "called" p3) p4]) : FnOk P w K mg base (L2.CX P w) (k + 1) f fd ["self", "called"] (spA K ["called"] 1 [("called", .inl 0)]) := by
  refine F.okX S (fun vs H Q E ⟨a, C, ys, h, hn, _⟩ => by rw [h, List.length_cons, hn]; rfl) (fun cdv A outer s H vs Q E hr h => ?_)
  obtain ⟨a, C, ys, rfl, hn, T, hno, ha, hq⟩ := h
  match ys, hn with
  | [y], _ =>
    rw [hb]
    refine ⟨_, pss_one (ps_ost (pe_var (i := 0) rfl (.inl h1) (by decide) (by decide)) (pe_var (i := 1) rfl (.inl h2) (by decide) (by decide)) (by rfl)), ?_⟩
    exact ⟨y, rfl, .ref a, rfl, a, C, rfl, T, hno _ (List.mem_cons_self ..), .inl ⟨ha, fun dx hd ne => hq dx hd ne⟩⟩
/-- what a class keeps of the __init__ of the class above it -/
structure AboveOk (P : Program) (w : World) (K : PySem.W.Frag) (mg : Str → Option Value) (base : Heap) (k : Nat) (x : Str) : Prop where
  ex : ∃ C mc f fd, CFn K C mc "__init__" f ∧ mg x = some (.ref C) ∧ FnOk P w K mg base (L2.CX P w) k f fd ["self", "called"] (spA K ["called"] 1 [("called", .inl 0)]) ∧ L2.Binds K fd ["self", "called"] []
abbrev tAbove (K : PySem.W.Frag) (nm : Str) : TE := tCall (spA K ["called"] 1 [("called", .inl 0)]) [] (fun _ _ _ => False) (tCons (tVar 0) (tCons (tC (.str nm)) tNil))
/-- B.__init__(self, 'C') -/
theorem pe_above {X : Cx} {k j : Nat} {x nm : Str} {p1 p2 p3 p4 p5 : Pos} {pl : Sem Bool} (A : AboveOk X.prog X.w X.K X.mg X.base k x) (hr : Room k X.A) (hg : Gl X x := by rfl) (hN : X.N[0]? = some ("self" : Str) := by rfl) (hv : Vis X.env.scope "self" := by exact Or.inl rfl) (hdb : (x == ("__debug__" : Str)) = false := by decide)
    (ht : eval (.Call (.Attribute (.Name x p1) "__init__" p2) [.Name "self" p3, .Constant (.str nm) j p4] [] p5) X.env = (do
      let ov ← eval (.Name x p1) X.env
      standAt p2.atName
      let (f, first) ← holding [ov] (getMethod ov "__init__" pl)
      callWith p5 f first (backTo p5 (starEach [.Name "self" p3, .Constant (.str nm) j p4] X.env)) (backToKw p5 (keywordEach [] X.env))) := by rfl) :
    PE X (.Call (.Attribute (.Name x p1) "__init__" p2) [.Name "self" p3, .Constant (.str nm) j p4] [] p5) (tAbove X.K nm) := by
  obtain ⟨B, mc, fB, fdB, hF, hm, hB, hbb⟩ := A.ex
  exact pe_clscall (E := fun _ _ _ => False) hF hg hm hB hr hbb (passes_call (W := fun _ _ _ _ => False) L2.takes0 fun _ _ _ _ h => h) (pa_cons (pe_var (i := 0) hN hv (by decide) (by decide)) (pa_cons pe_str pa_nil)) hdb (by rfl) (by rfl) ht
/-- class C(B): def __init__(self): B.__init__(self, 'C') -/
theorem own_init0 {st : Stmt} {q nm : Str} {l : List Nat} {f C : Addr} {fd : FuncData} {k : Nat} (F : Fun K "__init__" q st f fd) (S : FnScope ["self"] ["self"] (defScope st))
    (hbody : ∀ (cdv : Value) (A : Around) (outer : List Env) (s : Shared) (H : Hp) (E : XK), Room k (A.deeper (envOfC q (defScope st) s.heap.objs.size f cdv)) → PSs (cxOf (L2.CX P w) P w K mg base ["self"] q (defScope st) f cdv A outer s H E) (defBody st) (tDrop (tAbove K nm)))
    (hnm : nm = ⟨l.toArray⟩) (T : OexC K C) (hno : PySem.W.findIn K (.ref C) "called" = some none) : FnOk P w K mg base (L2.CX P w) (k + 1) f fd ["self"] (spI C 0 [("called", .inr l)]) := by
  refine F.okX S (fun vs H Q E ⟨a, ys, h, hn, _⟩ => by rw [h, List.length_cons, hn]; rfl) (fun cdv A outer s H vs Q E hr h => ⟨_, hbody cdv A outer s H E hr, ?_⟩)
  obtain ⟨a, ys, rfl, hn, ha, hq⟩ := h
  match ys, hn with
  | [], _ =>
    refine ⟨.ref a, rfl, a, C, [.str nm], rfl, rfl, T, fun g hg => ?_, ha, fun dx hd ne => ?_⟩
    · rw [List.mem_singleton.mp hg]; exact hno
    · have := hq dx hd ne
      rw [hnm]
      exact this
/-- class C(B): def __init__(self, v): B.__init__(self, 'C'); self.v = v -/
theorem own_init1 {st : Stmt} {q nm v : Str} {l : List Nat} {f C : Addr} {fd : FuncData} {k : Nat} (F : Fun K "__init__" q st f fd) (S : FnScope ["self", v] ["self", v] (defScope st))
    (hbody : ∀ (cdv : Value) (A : Around) (outer : List Env) (s : Shared) (H : Hp) (E : XK), Room k (A.deeper (envOfC q (defScope st) s.heap.objs.size f cdv)) → PSs (cxOf (L2.CX P w) P w K mg base ["self", v] q (defScope st) f cdv A outer s H E) (defBody st) (tSeq (tDrop (tAbove K nm)) (tOst K v (tVar 0) (tVar 1))))
    (hnm : nm = ⟨l.toArray⟩) (T : OexC K C) (hno : PySem.W.findIn K (.ref C) "called" = some none) (hno2 : PySem.W.findIn K (.ref C) v = some none) : FnOk P w K mg base (L2.CX P w) (k + 1) f fd ["self", v] (spI C 1 [(v, .inl 0), ("called", .inr l)]) := by
  refine F.okX S (fun vs H Q E ⟨a, ys, h, hn, _⟩ => by rw [h, List.length_cons, hn]; rfl) (fun cdv A outer s H vs Q E hr h => ⟨_, hbody cdv A outer s H E hr, ?_⟩)
  obtain ⟨a, ys, rfl, hn, ha, hq⟩ := h
  match ys, hn with
  | [y], _ =>
    refine ⟨.ref a, rfl, a, C, [.str nm], rfl, rfl, T, fun g hg => ?_, ha, fun dx hd ne => ?_⟩
    · rw [List.mem_singleton.mp hg]; exact hno
    · refine ⟨y, rfl, .ref a, rfl, a, C, rfl, T, hno2, .inr ⟨dx, _, upd_same, by rw [upd_ne ne, upd_same], by show 1 ≤ 900; decide, ?_⟩⟩
      rw [upd_swap3 ne, hnm]
      exact hq dx hd ne
end
end VQ
namespace VQ
open PySem PySem.Spec PyProof.Rows L2
/-! ### the built-in names -/
theorem bt_len : bootBuiltins "len" = some (.builtin "len") := by decide +kernel
theorem bt_all : bootBuiltins "all" = some (.builtin "all") := by decide +kernel
theorem bt_any : bootBuiltins "any" = some (.builtin "any") := by decide +kernel
theorem bt_sum : bootBuiltins "sum" = some (.builtin "sum") := by decide +kernel
theorem bt_list : bootBuiltins "list" = some (.type "list") := by decide +kernel
theorem bt_tuple : bootBuiltins "tuple" = some (.type "tuple") := by decide +kernel
theorem bt_str : bootBuiltins "str" = some (.type "str") := by decide +kernel
section
variable {K : PySem.W.Frag} {M : WM K}
/-- a method of a text with one argument -/
def eM1 (f : D → D → Option R) (ea eb : Ev M D) : Ev M R := fun ρ s => (ea ρ s).bind fun x => match x.1 with
  | .str z => (eb ρ x.2).bind fun y => op (f (.str z) y.1) y.2
  | _ => .bad
end
section
variable {X : Cx} {M : WM X.K} {W : WX} {a b : Expr} {pos : Pos} {ea eb : Ev M D}
theorem ev_join2 {apos : Pos} (ho : PE X a (tD M X.mg W ea)) (he : PE X b (tD M X.mg W eb)) (hs : starEach [b] X.env = [(false, eval b X.env)] := by rfl) (hbase : attributeBase a "join" X.env (eval a X.env) = eval a X.env := by rfl) (hline : (apos.endLine == pos.line) = true := by rfl) :
    PE X (.Call (.Attribute a "join" apos) [b] [] pos) (tR M X.mg W (eM1 joinD ea eb)) := ev_join ho he hs hbase hline
theorem ev_starts2 {apos : Pos} (ho : PE X a (tD M X.mg W ea)) (he : PE X b (tD M X.mg W eb)) (hs : starEach [b] X.env = [(false, eval b X.env)] := by rfl) (hbase : attributeBase a "startswith" X.env (eval a X.env) = eval a X.env := by rfl) (hline : (apos.endLine == pos.line) = true := by rfl) :
    PE X (.Call (.Attribute a "startswith" apos) [b] [] pos) (tR M X.mg W (eM1 startsD ea eb)) := ev_starts ho he hs hbase hline
end
end VQ
namespace VQ
open PySem PySem.Spec PyProof.Rows L2 LamX
section
variable {K : PySem.W.Frag} {mg : Str → Option Value} {cl : Cl} {xt : Xt}
theorem XtOk.nil : XtOk K mg cl [] := ⟨fun x f h => by cases h⟩
theorem XtOk.cons {x : Str} {f : Option Str} {C : Addr} (h1 : mg x = some (.ref C)) (h2 : XfC K C) (h3 : PySem.W.findIn K (.ref C) "called" = some none) (h4 : ∀ g, f = some g → PySem.W.findIn K (.ref C) g = some none) (h5 : MatchAt K (.ref C) cl f) (r : XtOk K mg cl xt) : XtOk K mg cl ((x, f) :: xt) := ⟨fun y g h => by
  have h' : (match y == x with | true => some f | false => xt.lookup y) = some g := h
  cases z : y == x with
  | true =>
    rw [z] at h'
    cases h'
    have e : y = x := by simpa using z
    rw [e]
    exact ⟨C, h1, h2, h3, h4, h5⟩
  | false => rw [z] at h'; exact r.at_ y g h'⟩
end
/-- the name of a def's lambdas -/
abbrev lamQ (x : Str) : Str := (x ++ ".<locals>.") ++ "<lambda>"
theorem lamIn {P : Program} {w : World} {K : PySem.W.Frag} {mg : Str → Option Value} {base : Heap} {M : WM K} {N : List Str} {sc : Scope} {f c Pt : Addr} {A : Around} {outer : List Env} {s : Shared} {H : Hp} {E : XK} {q : Str} (TB : TabB base mg c Pt) (hm : (Pt, lamQ q) ∈ M.T) (hu : ∀ r ∈ M.T, r.1 = Pt → r.2 = lamQ q) :
    LamIn (cxOf (L2.CX P w) P w K mg base N q sc f (.ref c) A outer s H E) M := ⟨⟨c, Pt, TB, rfl, hm, hu⟩⟩
end VQ

/-! VqR: the end of a law row, with the law's own table of code objects. -/
namespace VQ
open PySem PySem.Spec PyProof.Rows L2 LamX
theorem walk_tab {l : PySem.W.OpenLaw} {n k : Nat} {q : Program} {loose : List Str} {XP : (Str → Option Value) → Heap → Prop} {YP : World → Heap → Prop} {d : DefRec} {K : Params → PySem.W.Frag} {CX : World → CXT} {x : Str}
    (hn : l.most = some n) (hn2 : n ≤ sizeLine) (hdf : d.params.defaults = []) (hr : Room k callerA) (hY : ∀ (w : World) (h : Heap), YP w h → (K w.params).In h) (hd0 : (PyProof.Rows.recsOf q).find? (fun e => e.name == d.name) = some d)
    (F : ∀ (w : World) (mg : Str → Option Value) (fa : Addr) (h : Heap), (K w.params).In h → h.Ns mainGlobals mg → mg d.name = some (.ref fa) → (∀ c P, PySem.W.tabIn (K w.params) d.name = some (c, P) → PySem.W.CodeHd h c P ∧ h.get? P = some { cls := .none, data := .fields #[] }) → LawAtS l w (K w.params) (CX w) k n x mg fa h)
    (hCX : ∀ (w : World) (H : Hp) (s : Shared) (e : Value) (s' : Shared), CX w [] H s (fun _ _ _ => False) e s' → False) :
    PySem.W.WalkO q loose XP YP l.row.toRowW d [] (fun f vs => PySem.call f vs) := by
  refine Att.attach_callB hn hdf fun w s₀ s₁ mg mb fa o pm cd doc a vs ns G Y ho hd hcd hmg hobj hints hlen hbits hg => ?_
  have KX := hY w _ Y
  obtain ⟨fd, cs, sp, hT, nT, C, hb, hsp, hF⟩ := F w mg fa _ KX G.T.g hmg fun c P ht => PySem.W.tab_of G.T KX hd0 ht
  exact law_callTs KX G.T.g G.T.b G.T.builtins G.T.nolimit hg hT nT C G.T.bmain hobj hints (Nat.le_trans hlen hn2) hr hF hb (fun H hH hS => hsp H a ns hlen hbits hH hS) fun H e s' => hCX w H s₁ e s'
theorem cx_none (P : Program) (w : World) (H : Hp) (s : Shared) (e : Value) (s' : Shared) : L2.CX P w [] H s (fun _ _ _ => False) e s' → False := fun ⟨_, _, _, _, _, _, _, _, _, _, _, _, h⟩ => h
/-- a proposition shut up -/
structure Box (p : Prop) : Prop where
  out : p
section
variable {P : Program} {w : World} {K : PySem.W.Frag} {mg : Str → Option Value} {base : Heap} {T : List (Addr × Str)} {I : IW K}
theorem law_okW {st : Stmt} {f fb : Addr} {fdb : FuncData} {k kb n : Nat} {oc kV doc pm cdv ct : Value} {od an : Option Addr} {osl : Array (Option Value)} {N : List Str} {x0 x1 : Str} {rest : List Stmt} {p1 p2 p3 p4 p5 : Pos} {ss : (b l : Addr) → Sv (bagW K b l T I)} (lk : K.lookup f = some ⟨oc, od, .func (PySem.W.fnOf "law" "law" (defArgs st) (defBody st) (defScope st) .none kV doc pm an cdv ct), osl⟩) (hcd : PySem.W.codeIn K cdv "law" = true) (S : FnScope N [x0] (defScope st)) (hn : N.length = n + 2) (h0 : N[0]? = some x0) (h1 : N[1]? = some x1)
    (hv0 : Vis (defScope st) x0) (hv1 : Loc (defScope st) x1) (hd0 : (x0 == ("__debug__" : Str)) = false) (hc0 : (x0 == ("__classdict__" : Str)) = false)
    (hg : (defScope st).names.lookup ("_law_bag" : Str) = some .globalImplicit) (hm : mg "_law_bag" = some (.ref fb)) (hk : PySem.W.keepIn K (.ref fb) = true) (hbb : L2.Binds K fdb ["_law_script"] []) (B : FnOk P w K mg base (L2.CX P w) kb fb fdb ["_law_script"] (spBag K)) (hkb : kb ≤ k)
    (hb : defBody st = .Assign [.Name x1 p1] (.Call (.Name "_law_bag" p2) [.Name x0 p3] [] p4) p5 :: rest)
    (hrest : ∀ (b l : Addr) (A : Around) (outer : List Env) (s : Shared) (H : Hp) (E : XK), Room k (A.deeper (envOfC "law" (defScope st) s.heap.objs.size f cdv)) → Takes (cxOf (L2.CX P w) P w K mg base N "law" (defScope st) f cdv A outer s H E) (fun cls d _ H => E cls d H) →
      PSs (cxOf (L2.CX P w) P w K mg base N "law" (defScope st) f cdv A outer s H E) rest (tS (bagW K b l T I) mg (fun cls d _ H => E cls d H) (ss b l)))
    {s0 : I.S} (hI : Begin I s0) (hpure : ∀ b l : Addr, Box ((ss b l (none :: some (.sh (.obj 0)) :: List.replicate n none) s0).all (fun r => r.1 = .rt (.sh (.bl true))) (fun _ => False))) : FnOk P w K mg base (L2.CX P w) (k + 1) f (PySem.W.fnOf "law" "law" (defArgs st) (defBody st) (defScope st) .none kV doc pm an cdv ct) [x0] (spLaw K T) :=
  law_ok lk hcd S hn h0 h1 hv0 hv1 hd0 hc0 hg hm hk hbb B hkb hb hrest hI fun b l => (hpure b l).out
theorem begin_no : Begin (noI K) () := fun _ _ _ _ h => h
end
end VQ

/-! VqS: a lambda with one defaulted argument that is a written number. -/
namespace VQ
open PySem PySem.Spec PyProof.Rows L2 LamX
structure LamS1 (a : Str) (sc scope : Scope) : Prop where
  kind : scope.kind = .function
  co : scope.isCoroutine = false
  gen : scope.isGenerator = false
  own : ∀ y ∈ scope.names, y.2 ≠ .cell ∧ (y.2 = .local → y.1 = a)
  free : ∀ y ∈ scope.names, y.2 = .free → sc.names.lookup y.1 = some .cell ∨ sc.names.lookup y.1 = some .free
  loc : scope.names.lookup a = some .local
def lamSB1 (a : Str) (sc scope : Scope) : Bool :=
  decide (scope.kind = .function) && !scope.isCoroutine && !scope.isGenerator && (scope.names.all fun y => !decide (y.2 = .cell) && (!decide (y.2 = .local) || decide (y.1 = a)) && (!decide (y.2 = .free) || decide (sc.names.lookup y.1 = some .cell) || decide (sc.names.lookup y.1 = some .free))) && decide (scope.names.lookup a = some .local)
theorem lamS1_by {a : Str} {sc scope : Scope} (h : lamSB1 a sc scope = true) : LamS1 a sc scope := by
  unfold lamSB1 at h
  simp only [Bool.and_eq_true, Bool.or_eq_true, Bool.not_eq_true', decide_eq_true_eq, decide_eq_false_iff_not, List.all_eq_true] at h
  obtain ⟨⟨⟨⟨h1, h2⟩, h3⟩, h4⟩, h5⟩ := h
  refine ⟨h1, h2, h3, fun y hy => ⟨(h4 y hy).1.1, fun e => ?_⟩, fun y hy e => ?_, h5⟩
  · rcases (h4 y hy).1.2 with z | z
    · exact absurd e z
    · exact z
  · rcases (h4 y hy).2 with (z | z) | z
    · exact absurd e z
    · exact .inl z
    · exact .inr z
theorem LamS1.has {X : Cx} {a : Str} {scope : Scope} (L : LamS1 a X.env.scope scope) (ok : X.Ok) : ∀ y ∈ scope.names, y.2 = .free → ∃ c, X.env.cells.lookup y.1 = some c := fun y hy e => by
  rcases L.free y hy e with k | k
  · exact ok.has _ (.inl k)
  · exact ok.has _ (.inr k)
section
variable {X : Cx} {pins : List (Addr × Obj)} {σ : L2.St} {H HZ : Hp} {s s1 : Shared}
theorem lam_mk1 {c P : Addr} {params : Arguments} {body : Expr} {scope : Scope} {pos : Pos} {E : Value → Shared → Prop} {Q : Value → Shared → Prop} {ps : Array Value} {i0 : Int} {j0 : Nat} {p0 : Pos} (I : L2.Inv X pins σ H s) (TB : TabB X.base X.mg c P) (hcode : X.env.code = .ref c)
    (hP : H P = some (.tbl ps)) (ht : TriplesOk ps.toList) (ha : ∀ pos cv, codeAmong pos ps.toList = some cv → ∃ c, cv = .ref c ∧ H c = some (CodeO c (X.env.qual ++ "<lambda>"))) (hd : params.defaults = [.Constant (.int i0) j0 p0]) (hk0 : params.kw_defaults = []) (hfree : ∀ y ∈ scope.names, y.2 = .free → ∃ c, X.env.cells.lookup y.1 = some c)
    (h : ∀ (f c' t : Addr) (tk : Tok) (doc pm ctv : Value) (H1 : Hp) (s' : Shared), L2.Inv X pins σ H1 s' → Laid H H1 P c' (X.env.qual ++ "<lambda>") ps →
      s'.heap.get? f = some (PySem.W.kdv_obj "<lambda>" (X.env.qual ++ "<lambda>") params (.expr body) scope (cloFrom X.env.cells scope.names []) (.ref t) doc pm c' ctv) → s'.heap.get? t = some (PySem.W.kdv_tup [.int i0 tk]) → H1 f = none → f ∉ frs X.stack → H1 t = none → t ∉ frs X.stack → H1 c' = some (CodeO c' (X.env.qual ++ "<lambda>")) → Q (.ref f) s') :
    wpAny (model X.prog X.w) X.A (eval (.Lambda params body scope pos) X.env) Q E s := by
  refine PySem.W.kdv_lam (by rw [hd]; rfl) hk0 ?_
  rw [hd]
  refine PySem.W.kdv_all1 (thn ((pe_int (X := X) (i := i0) (j := j0) (pos := p0)).run pins s σ H (fun v H1 => v = .int i0 ∧ H1 = H) I ⟨rfl, rfl⟩) fun u s1 ⟨v, H1, I1, r1, q1⟩ => ?_)
  obtain ⟨ev, eH⟩ := q1
  subst ev
  rw [eH] at I1
  obtain ⟨tk, rfl⟩ := r1
  refine PySem.W.kdv_all0 ?_
  rw [makeFunction_eq]
  simp only [List.zip_nil_right, List.filterMap_nil, List.isEmpty_nil, List.isEmpty_cons, if_true, Bool.false_eq_true, if_false, pure_bind]
  refine wpAny_bind (wpAny_newTextTuple ?_)
  generalize hsT : ({ s1 with heap := s1.heap.push { cls := .type "tuple", data := .seq #[.int i0 tk] } } : Shared) = sT
  have IT : L2.Inv X pins σ H sT := by subst hsT; exact I1.kept fun b o e => Heap.get?_push_of_some _ e
  have hT : sT.heap.get? s1.heap.objs.size = some (PySem.W.kdv_tup [.int i0 tk]) := by subst hsT; exact Heap.get?_push_size _ rfl
  have hTs : s1.heap.objs.size < sT.heap.objs.size := Heap.lt_size hT
  have nofrT : s1.heap.objs.size ∉ frs X.stack := fun z => by
    rcases List.mem_cons.mp (I1.stkSub _ z) with e | e
    · have h1 := I1.lt
      rw [← e] at h1
      exact Nat.lt_irrefl _ h1
    · exact I1.nofs (Nat.le_refl _) e
  have nHT : H s1.heap.objs.size = none := I1.hok.fresh (Nat.le_refl _)
  have bP : sT.heap.BuiltinsAt X.mg P := TB.bm.keeps IT.bk
  have hP' : sT.heap.get? P = some { cls := .none, data := .fields ps } := IT.hok P _ hP
  have nofr : ∀ f, sT.heap.objs.size ≤ f → f ∉ frs X.stack := fun f hf z => by
    rcases List.mem_cons.mp (IT.stkSub _ z) with e | e
    · have h1 := IT.lt
      rw [← e] at h1
      exact Nat.lt_irrefl _ (Nat.lt_of_lt_of_le h1 hf)
    · exact IT.nofs hf e
  cases hc : codeAmong pos ps.toList with
  | none =>
    refine PySem.W.kdv_makeTail (mg := X.mg) (c := c) (P := P) (ps := ps) (closure_ok hfree) IT.ok.glob (IT.mod.glob.keeps IT.bk) hcode (TB.code.keeps IT.bk) hP' ht hc TB.gP bP fun c' ctv doc h' tk' hx hge hlt hrec htb => ?_
    obtain ⟨c2, oc, vs, t, e2, hoc, hd, hv⟩ := hrec
    cases e2
    have hsz : sT.heap.objs.size ≤ h'.objs.size := Nat.le_trans hge (Nat.le_of_lt hlt)
    have nC : H c' = none := IT.hok.fresh hge
    have nTP : s1.heap.objs.size ≠ P := fun e => by rw [e, hP] at nHT; cases nHT
    have nTc : s1.heap.objs.size ≠ c' := Nat.ne_of_lt (Nat.lt_of_lt_of_le hTs hge)
    have I2 := inv_table (t' := tk') (more := #[rawInt pos.line, rawInt pos.col, .ref c']) (h' := h'.push (PySem.W.kdv_obj "<lambda>" (X.env.qual ++ "<lambda>") params (.expr body) scope (cloFrom X.env.cells scope.names []) (.ref s1.heap.objs.size) doc ((X.mg "__name__").getD .none) c' ctv)) IT hP
      (fun b o hb e => Heap.get?_push_of_some _ (hx b o hb e)) (Heap.get?_push_of_some _ htb) hge ⟨oc, vs, t, Heap.get?_push_of_some _ hoc, hd, hv⟩
    have eL : (ps ++ #[rawInt pos.line, rawInt pos.col, .ref c']).toList = ps.toList ++ [rawInt pos.line, rawInt pos.col, .ref c'] := by simp
    refine h h'.objs.size c' s1.heap.objs.size tk doc ((X.mg "__name__").getD .none) ctv _ _ I2 (.inr ⟨_, rfl, nC, by rw [eL]; exact PySem.TriplesOk_snoc _ _ _ _ ht, fun p' cv hcv => ?_⟩) (Heap.get?_push_size _ rfl) (Heap.get?_push_of_some _ (hx _ _ nTP hT)) ?_ (nofr _ hsz) ?_ nofrT upd_same
    · rw [eL] at hcv
      exact among_app _ ht hcv
    · have n1 : h'.objs.size ≠ c' := Nat.ne_of_gt hlt
      have n2 : h'.objs.size ≠ P := Nat.ne_of_gt (Nat.lt_of_lt_of_le (Heap.lt_size hP') hsz)
      rw [upd_ne n1, upd_ne n2]
      exact IT.hok.fresh hsz
    · rw [upd_ne nTc, upd_ne nTP]
      exact nHT
  | some cv =>
    obtain ⟨c', e, hco⟩ := ha pos cv hc
    subst e
    refine PySem.W.kdv_makeTailHit (mg := X.mg) (c := c) (P := P) (ps := ps) (closure_ok hfree) IT.ok.glob (IT.mod.glob.keeps IT.bk) hcode (TB.code.keeps IT.bk) hP' ht hc bP fun ctv doc h' tk' hx hsz => ?_
    have I2 : L2.Inv X pins σ H { sT with heap := h'.push (PySem.W.kdv_obj "<lambda>" (X.env.qual ++ "<lambda>") params (.expr body) scope (cloFrom X.env.cells scope.names []) (.ref s1.heap.objs.size) doc ((X.mg "__name__").getD .none) c' ctv), toks := tk' } := IT.kept fun b o e => Heap.get?_push_of_some _ (hx b o e)
    exact h h'.objs.size c' s1.heap.objs.size tk doc ((X.mg "__name__").getD .none) ctv H _ I2 (.inl ⟨rfl, pos, hc⟩) (Heap.get?_push_size _ rfl) (Heap.get?_push_of_some _ (hx _ _ hT)) (IT.hok.fresh hsz) (nofr _ hsz) nHT nofrT hco
/-- the lambda's body, entered -/
theorem lam_start3 {A : Around} {outer : List Env} {E : XK} {a : Str} {scope : Scope} {f c' : Addr} {h₁ : Heap} {tk : Nat} {binds : List (Str × Value)} (I : L2.Inv X pins σ H s) (L : LamS1 a X.env.scope scope) (hN : ∀ (i : Nat) v, X.N[i]? = some a → σ[i]? ≠ some (some v)) (e0 : Env0 X.prog X.w X.K X.mg X.base A outer s1 HZ) (hd : A.handled = none)
    (un : Un (frs X.stack) [] H HZ s.heap s1.heap) (hns : h₁.Ns s1.heap.objs.size fun y => binds.reverse.lookup y) (kp : ∀ b o, s1.heap.get? b = some o → h₁.get? b = some o) :
    L2.Inv (lamCx X A outer s1 HZ E scope f c') [] σ HZ { s1 with heap := h₁, toks := tk } := by
  have hfree := L.has I.ok
  have cm : ∀ {y c}, (cloFrom X.env.cells scope.names []).lookup y = some c → X.env.cells.lookup y = some c := fun {y c} e => by
    rcases cloFrom_mem (PySem.mem_of_lookup e) with hm | ⟨h1, h2⟩
    · cases hm
    · obtain ⟨c1, hc⟩ := hfree _ h1 rfl
      have hc : X.env.cells.lookup y = some c1 := hc
      have e2 : c = c1 := by
        rw [h2, hc] <;> rfl
      rw [e2]
      exact hc
  have look : ∀ {y}, scope.names.lookup y = some .free → ∃ c, (cloFrom X.env.cells scope.names []).lookup y = some c := fun {y} hl => by
    have hy : (y, NameKind.free) ∈ scope.names := PySem.mem_of_lookup hl
    exact mem_lookup (cloFrom_has (cells := X.env.cells) (acc := []) hy)
  have cellK : ∀ {c : Addr} {v : Option Value}, H c = none → s.heap.IsCell c v → h₁.IsCell c v := fun {c v} n ⟨o, ho, hd⟩ => by
    obtain ⟨sl, q⟩ := un.any ho n (by simp)
    exact ⟨_, kp _ _ q, hd⟩
  have noA : ∀ b : Addr, b ∉ (lamCx X A outer s1 HZ E scope f c').ex := fun b z => absurd (show b ∈ ([] : List Addr) from z) (by simp)
  refine ⟨⟨e0.mod, L.kind, rfl, rfl, Nat.le_refl _, fun y z c e1 e2 => I.ok.inj y z c (cm e1) (cm e2), fun y hy => ?_, fun y c z _ => ?_, fun _ => hd, Around.frames_deeper e0.frames, .inr ⟨rfl, rfl⟩, fun b z => absurd z (noA b), e0.bs, e0.bsz, fun b _ _ => noA b,
      fun b z => absurd z (noA b), e0.funs, e0.frf⟩,
    rfl, e0.bare, Un.kept kp, ⟨_, hns, fun i y v e1 e2 e3 => ?_⟩, fun y c e => ?_, e0.hok.fresh (Nat.le_refl _), fun y c e => ?_, fun q hq => absurd (show q ∈ ([] : List (Addr × Obj)) ++ [] from hq) (by simp), e0.hok.kept kp, I.len⟩
  · have hy : scope.names.lookup y = some .cell ∨ scope.names.lookup y = some .free := hy
    rcases hy with hy | hy
    · exact absurd rfl (L.own _ (PySem.mem_of_lookup hy)).1
    · exact look hy
  · have z : false = true := z
    cases z
  · have e3 : Vis scope y := e3
    rcases e3 with k | k | k
    · have e : y = a := (L.own _ (PySem.mem_of_lookup k)).2 rfl
      subst e
      exact absurd e2 (hN i _ e1)
    · exact absurd rfl (L.own _ (PySem.mem_of_lookup k)).1
    · obtain ⟨m, hn, hl⟩ := I.loc
      have hvis : Vis X.env.scope y := (L.free _ (PySem.mem_of_lookup k) rfl).elim (fun k => .inr (.inl k)) (fun k => .inr (.inr k))
      obtain ⟨w', r, q⟩ := hl i y v e1 e2 hvis
      obtain ⟨c2, h2⟩ := look k
      refine ⟨w', r, .inr ⟨.inr k, c2, h2, ?_⟩⟩
      have c1 := cm h2
      rcases q with ⟨k', _⟩ | ⟨_, c3, e', z⟩
      · have k' : X.env.scope.names.lookup y = some .local := k'
        rcases L.free _ (PySem.mem_of_lookup k) rfl with k2 | k2 <;> rw [show X.env.scope.names.lookup y = _ from k2] at k' <;> cases k'
      · rw [c1] at e'
        cases e'
        exact cellK (I.freeC y _ c1) z
  · obtain ⟨w', z⟩ := I.cell y c (cm e)
    exact ⟨w', cellK (I.freeC y c (cm e)) z⟩
  · obtain ⟨v, o, ho, hd⟩ := I.cell y c (cm e)
    exact un.free c o ho (I.freeC y c (cm e)) (by simp)
theorem lam_run1 {a : Str} {f c' t0 : Addr} {doc pm ctv v0 : Value} {params : Arguments} {body : Expr} {scope : Scope} {k : Nat} {t : XK → TE} (I : L2.Inv X pins σ H s) (L : LamS1 a X.env.scope scope) (hN : ∀ (i : Nat) v, X.N[i]? = some a → σ[i]? ≠ some (some v))
    (hf : s.heap.get? f = some (PySem.W.kdv_obj "<lambda>" (X.env.qual ++ "<lambda>") params (.expr body) scope (cloFrom X.env.cells scope.names []) (.ref t0) doc pm c' ctv)) (hfn : H f = none) (hfr : f ∉ frs X.stack)
    (hft : s.heap.get? t0 = some (PySem.W.kdv_tup [v0])) (htn : H t0 = none) (htr : t0 ∉ frs X.stack)
    (hbind : ∃ kk : Option (Array Value) → Sem (List (Str × Value)), bindArgs (PySem.W.kdv_fn "<lambda>" (X.env.qual ++ "<lambda>") params (.expr body) scope (cloFrom X.env.cells scope.names []) (.ref t0) doc pm (.ref c') ctv) ⟨[], []⟩ = (seqItems? (.ref t0) >>= kk) ∧ kk (some #[v0]) = pure [(a, v0)])
    (hbody : ∀ (A : Around) (outer : List Env) (s : Shared) (H : Hp) (E : XK), Room k (A.deeper (lamEnv X scope s.heap.objs.size f c')) → PE (lamCx X A outer s H E scope f c') body (t E)) :
    LamRun X.prog X.w X.K X.mg X.base (frs X.stack) H s.heap f c' (X.env.qual ++ "<lambda>") k (fun E HZ Q => t E σ HZ Q) := by
  refine ⟨⟨_, _, _, _, hf⟩, hfn, hfr, fun A outer s1 HZ Q E hr e0 un hc ht => ?_⟩
  have of1 : s1.heap.get? f = some (PySem.W.kdv_obj "<lambda>" (X.env.qual ++ "<lambda>") params (.expr body) scope (cloFrom X.env.cells scope.names []) (.ref t0) doc pm c' ctv) := un.keep f _ hf hfn hfr (by simp)
  have ot1 : s1.heap.get? t0 = some (PySem.W.kdv_tup [v0]) := un.keep t0 _ hft htn htr (by simp)
  obtain ⟨⟨oc, vs, t', hoc, hdc, hvc⟩, _, _⟩ := e0.hok c' _ hc
  have lim : s1.heap.NoLimit := e0.mod.nolimit.keeps fun b o e => (e0.bs b o e).1
  obtain ⟨kk, hb1, hb2⟩ := hbind
  have hbt : BindsTo s1 (PySem.W.kdv_fn "<lambda>" (X.env.qual ++ "<lambda>") params (.expr body) scope (cloFrom X.env.cells scope.names []) (.ref t0) doc pm (.ref c') ctv) ⟨[], []⟩ [(a, v0)] := BindsTo.of_defaults rfl ot1 rfl hb1 hb2
  refine PySem.W.kla_callFunE hr.depth of1 rfl L.co L.gen rfl ⟨c', oc, vs, t', rfl, hoc, hdc, hvc⟩ (hbt _ _ _ _ ?_)
  refine wpAny_newFunctionEnv (fun y hy => (L.own y hy).1) (fun y hy => ?_) (fun h₁ hns hsb => ⟨lim.fresh _ hsb, ?_⟩) L.kind
  · rw [List.mem_singleton.mp hy]; exact L.loc
  show codeAny _ _ (.expr body (lamEnv X scope s1.heap.objs.size f c')) _ _
  have kp : ∀ b o, s1.heap.get? b = some o → h₁.get? b = some o := fun b o e => hsb.extBut b o (Nat.ne_of_lt (Heap.lt_size e)) (Heap.get?_push_of_some _ e)
  have J : L2.Inv (lamCx X A outer s1 HZ E scope f c') [] σ HZ { s1 with heap := h₁, toks := s1.toks + ([(a, v0)] : List (Str × Value)).length } :=
    lam_start3 I L hN e0 hr.hd un hns kp
  refine PySem.W.kla_codeExpr (wpAny_mono ((hbody _ _ s1 HZ E (hr.deeper _)).run [] _ _ HZ Q J ht) (fun v s' hq => ?_) fun e s' hq => hq)
  obtain ⟨w', H', J', rv, q⟩ := hq
  exact ⟨w', H', J'.os, J'.bare, J'.base, J'.hok, rv, q⟩
end
section
variable {X : Cx} {M : WM X.K} {W : WX} {ee eT : Ev M D} {a : Str} {i0 : Int} {j0 : Nat} {p0 : Pos}
def eWipe {K : PySem.W.Frag} {M : WM K} {α : Type} (vs : List Nat) (ee : Ev M α) : Ev M α := fun ρ s => ee (wipeD vs ρ) s
theorem only_ix {N : List Str} (hN : N.Nodup) {k : Nat} {a : Str} (h : N[k]? = some a := by rfl) : ∀ i : Nat, N[i]? = some a → i ∈ [k] := fun i e => by
  rw [List.mem_singleton]; exact nodup_ix hN e h
theorem wipe_some {σ : Sl} {vs : List Nat} {i : Nat} {v : V} (e : (wipe σ vs)[i]? = some (some v)) : σ[i]? = some (some v) ∧ i ∉ vs := by
  by_cases h : i ∈ vs
  · rw [wipe_at vs σ h] at e
    split at e <;> cases e
  · rw [wipe_out h] at e
    exact ⟨e, h⟩
/-- what a call of the lambda without arguments binds -/
def Binds1 (a : Str) (params : Arguments) (body : Expr) (scope : Scope) : Prop := ∀ (q : Str) (cl : List (Str × Addr)) (t0 : Addr) (doc pm cv ctv v0 : Value), ∃ kk : Option (Array Value) → Sem (List (Str × Value)), bindArgs (PySem.W.kdv_fn "<lambda>" q params (.expr body) scope cl (.ref t0) doc pm cv ctv) ⟨[], []⟩ = (seqItems? (.ref t0) >>= kk) ∧ kk (some #[v0]) = pure [(a, v0)]
theorem pe_lamG1 {x : Str} {g c P : Addr} {k : Nat} {params : Arguments} {body : Expr} {scope : Scope} {p lpos pos : Pos} (hg : Gl X x) (hm : X.mg x = some (.ref g)) (hk : PySem.W.keepIn X.K (.ref g) = true)
    (hrun : ∀ (σ : Sl) (s : Shared) (H : Hp) (Q : VK) (f c' : Addr) (ρ : Dv) (q : Pt M) (X' : Exc × M.S → Prop), Env0 X.prog X.w X.K X.mg X.base X.A X.stack s H → LamRun X.prog X.w X.K X.mg X.base (frs X.stack) H s.heap f c' (X.env.qual ++ "<lambda>") k (fun E HZ Q => tD M X.mg (fun cls d _ H => E cls d H) ee σ HZ Q) →
      H c' = some (CodeO c' (X.env.qual ++ "<lambda>")) → q.H = H → q.Ok → EnvD M q σ ρ → (eT ρ q.s).all (fun r => ∀ v (q1 : Pt M), Ext q q1 → q1.Ok → q1.s = r.2 → Den X.K q1.ad q1.Hv r.1 v → Q v q1.H) X' → codeAny (model X.prog X.w) X.A (.call (.ref g) ⟨[.ref f], []⟩) (CR (L2.CX X.prog X.w) X.stack X.prog X.w H s Q E00) s)
    (TB : TabB X.base X.mg c P) (hcode : X.env.code = .ref c) (hmT : (P, X.env.qual ++ "<lambda>") ∈ M.T) (hu : ∀ r ∈ M.T, r.1 = P → r.2 = X.env.qual ++ "<lambda>") (L : LamS1 a X.env.scope scope) (vs : List Nat) (hN : ∀ i : Nat, X.N[i]? = some a → i ∈ vs) (hd : params.defaults = [.Constant (.int i0) j0 p0]) (hk0 : params.kw_defaults = [])
    (hbind : Binds1 a params body scope)
    (hbody : ∀ (A : Around) (outer : List Env) (s : Shared) (H : Hp) (E : XK) (f c' : Addr), Room k (A.deeper (lamEnv X scope s.heap.objs.size f c')) → PE (lamCx X A outer s H E scope f c') body (tD M X.mg (fun cls d _ H => E cls d H) ee))
    (hdb : (x == ("__debug__" : Str)) = false := by decide) : PE X (.Call (.Name x p) [.Lambda params body scope lpos] [] pos) (tD M X.mg W (eWipe vs eT)) := by
  refine ⟨fun pins s σ H Q I h => ?_⟩
  obtain ⟨ρ, q, hH, ok, en, hq⟩ := h
  subst hH
  obtain ⟨fP, ps, hP, ht, ha⟩ := M.tabs ok.rep _ hmT
  refine wpAny_Call_Name_kw (ld_glob I hg hm ?_ hdb)
  refine PySem.W.callWith_K (h₀ := X.base) I.ok.mod.kin hk ?_ (by rfl) (by rfl)
  show wpAny _ _ (spliced ((false, eval (.Lambda params body scope lpos) X.env) :: backTo pos (starEach [] X.env))) _ _ s
  refine Calls.spliced_cons (lam_mk1 I TB hcode hP ht (fun pos cv e => (ha pos cv e).imp fun c h => ⟨h.1, h.2.1⟩) hd hk0 (L.has I.ok) fun f c' t0 tk doc pm' ctv H1 s' I1 ld hf hft hfn hfr htn htr hco => ?_)
  refine Calls.spliced_nil ⟨I1.kIn, ?_⟩
  obtain ⟨p1, e1, e2, ex, ok1⟩ := laid_pt ok hmT hu hP fP ht ha ld
  have IW : L2.Inv X pins (wipe σ vs) H1 s' := I1.weak (wipe_length ..) fun i v e => (wipe_some e).1
  have l := lam_run1 (k := k) (t := fun E => tD M X.mg (fun cls d _ H => E cls d H) ee) IW L (fun i v e1 e2 => (wipe_some e2).2 (hN i e1)) hf hfn hfr hft htn htr (hbind _ _ _ _ _ _ _ _) fun A outer s H E hr => hbody A outer s H E f c' hr
  refine wpAny_call (codeAny_mono (hrun (wipe σ vs) s' H1 Q f c' (wipeD vs ρ) p1 (fun _ => True) I1.env0 l hco e1 ok1 (wipe_env (en.ext ex)) ?_) fun r s2 hq => ?_)
  · rw [e2]
    exact G.all_mono (fun r hr v q1 e o es dv => hr v q1 (ex.trans e) o es dv) (fun _ _ => trivial) hq
  · cases r with
    | error e => exact passes_call (X := X) (W := fun _ _ _ _ => False) L2.takes0 (fun _ _ _ _ h => h) pins σ H1 s' e s2 I1 hq
    | ok fl =>
      cases fl with
      | ret u => exact I1.after hq
      | next => exact False.elim hq
      | brk => exact False.elim hq
      | cont => exact False.elim hq
variable {g g' : Addr} {cl : Cl} {xt : Xt} {k j : Nat} {params : Arguments} {body : Expr} {scope : Scope} {p lpos pos : Pos}
/-- _law_tried(lambda a=0: e) -/
theorem ev_tried1w (a : Str) (vs : List Nat) (D : TriedDef X.prog X.w X.K X.mg X.base g cl) (hx : XtOk X.K X.mg cl xt) (hl : LamIn X M) (hr : Room j X.A) (k : Nat)
    (hbody : ∀ (A : Around) (outer : List Env) (s : Shared) (H : Hp) (E : XK) (f c' : Addr), Room k (A.deeper (lamEnv X scope s.heap.objs.size f c')) → Takes (lamCx X A outer s H E scope f c') (fun cls d _ H => E cls d H) → PE (lamCx X A outer s H E scope f c') body (tD M X.mg (fun cls d _ H => E cls d H) ee))
    (hN : ∀ i : Nat, X.N[i]? = some a → i ∈ vs) (hj : k + 2 ≤ j := by decide) (hg : Gl X "_law_tried" := by rfl) (hL : lamSB1 a X.env.scope scope = true := by rfl) (hd : params.defaults = [.Constant (.int i0) j0 p0] := by rfl) (hk0 : params.kw_defaults = [] := by rfl)
    (hbind : Binds1 a params body scope := by intro _ _ _ _ _ _ _ _; exact ⟨_, rfl, rfl⟩) : PE X (.Call (.Name "_law_tried" p) [.Lambda params body scope lpos] [] pos) (tD M X.mg W (eWipe vs (eTried xt ee))) := by
  obtain ⟨c, P, TB, hcode, hmT, hu⟩ := hl.ex
  obtain ⟨st, fd, _, _, _, _, _, _, _, _, _, _, F, _⟩ := id D.ex
  refine pe_lamG1 hg D.glob F.kp (fun σ s H Q f c' ρ q X' e0 l hc e1 ok en hq => ?_) TB hcode hmT hu (lamS1_by hL) vs hN hd hk0 hbind (fun A outer s H E f c' hr => hbody A outer s H E f c' hr (takes_of rfl rfl rfl rfl))
  subst e1
  exact tried_run D (hr.mono hj) e0 l hc (tried_ok ok en hx hq)
/-- _law_word(lambda a=0: e) -/
theorem ev_word1w (a : Str) (vs : List Nat) (D : TriedDef X.prog X.w X.K X.mg X.base g cl) (D' : WordDef X.prog X.w X.K X.mg X.base g') (hx : XtOk X.K X.mg cl xt) (hl : LamIn X M) (hr : Room j X.A) (k : Nat)
    (hbody : ∀ (A : Around) (outer : List Env) (s : Shared) (H : Hp) (E : XK) (f c' : Addr), Room k (A.deeper (lamEnv X scope s.heap.objs.size f c')) → Takes (lamCx X A outer s H E scope f c') (fun cls d _ H => E cls d H) → PE (lamCx X A outer s H E scope f c') body (tD M X.mg (fun cls d _ H => E cls d H) ee))
    (hN : ∀ i : Nat, X.N[i]? = some a → i ∈ vs) (hj : k + 3 ≤ j := by decide) (hg : Gl X "_law_word" := by rfl) (hL : lamSB1 a X.env.scope scope = true := by rfl) (hd : params.defaults = [.Constant (.int i0) j0 p0] := by rfl) (hk0 : params.kw_defaults = [] := by rfl)
    (hbind : Binds1 a params body scope := by intro _ _ _ _ _ _ _ _; exact ⟨_, rfl, rfl⟩) : PE X (.Call (.Name "_law_word" p) [.Lambda params body scope lpos] [] pos) (tD M X.mg W (eWipe vs (eFst (eTried xt ee)))) := by
  obtain ⟨c, P, TB, hcode, hmT, hu⟩ := hl.ex
  obtain ⟨st, fd, _, _, _, _, _, _, _, F, _⟩ := id D'.ex
  refine pe_lamG1 hg D'.glob F.kp (fun σ s H Q f c' ρ q X' e0 l hc e1 ok en hq => ?_) TB hcode hmT hu (lamS1_by hL) vs hN hd hk0 hbind (fun A outer s H E f c' hr => hbody A outer s H E f c' hr (takes_of rfl rfl rfl rfl))
  subst e1
  refine word_run D D' (hr.mono hj) e0 l hc (tried_ok ok en hx (X' := X') (G.all_mono (fun r hr v q1 e ok1 es dv => ?_) (fun _ h => h) (G.all_bind.mp hq)))
  obtain ⟨d, s1⟩ := r
  cases d with
  | tup ds =>
    cases ds with
    | nil => exact hr.elim
    | cons d0 ds =>
      obtain ⟨a, vs, rfl, h1, h2⟩ := dv
      obtain ⟨v, r, rfl, h3, h4⟩ := h2
      exact .inr (.inl ⟨a, v :: r, 0, v, rfl, rfl, sqT_same ok1.view h1, (atI_nat rfl : atI (v :: r) ((0 : Nat) : Int) = some v), hr v q1 e ok1 es h3⟩)
  | _ => exact hr.elim
/-- _law_tried(lambda a=0: e), a no name of the law's -/
theorem ev_tried1 (a : Str) (D : TriedDef X.prog X.w X.K X.mg X.base g cl) (hx : XtOk X.K X.mg cl xt) (hl : LamIn X M) (hr : Room j X.A) (k : Nat)
    (hbody : ∀ (A : Around) (outer : List Env) (s : Shared) (H : Hp) (E : XK) (f c' : Addr), Room k (A.deeper (lamEnv X scope s.heap.objs.size f c')) → Takes (lamCx X A outer s H E scope f c') (fun cls d _ H => E cls d H) → PE (lamCx X A outer s H E scope f c') body (tD M X.mg (fun cls d _ H => E cls d H) ee))
    (hN : a ∉ X.N) (hj : k + 2 ≤ j := by decide) (hg : Gl X "_law_tried" := by rfl) (hL : lamSB1 a X.env.scope scope = true := by rfl) (hd : params.defaults = [.Constant (.int i0) j0 p0] := by rfl) (hk0 : params.kw_defaults = [] := by rfl)
    (hbind : Binds1 a params body scope := by intro _ _ _ _ _ _ _ _; exact ⟨_, rfl, rfl⟩) : PE X (.Call (.Name "_law_tried" p) [.Lambda params body scope lpos] [] pos) (tD M X.mg W (eTried xt ee)) :=
  ev_tried1w a [] D hx hl hr k hbody (fun _ e => absurd (List.mem_of_getElem? e) hN) hj hg hL hd hk0 hbind
/-- _law_word(lambda a=0: e), a no name of the law's -/
theorem ev_word1 (a : Str) (D : TriedDef X.prog X.w X.K X.mg X.base g cl) (D' : WordDef X.prog X.w X.K X.mg X.base g') (hx : XtOk X.K X.mg cl xt) (hl : LamIn X M) (hr : Room j X.A) (k : Nat)
    (hbody : ∀ (A : Around) (outer : List Env) (s : Shared) (H : Hp) (E : XK) (f c' : Addr), Room k (A.deeper (lamEnv X scope s.heap.objs.size f c')) → Takes (lamCx X A outer s H E scope f c') (fun cls d _ H => E cls d H) → PE (lamCx X A outer s H E scope f c') body (tD M X.mg (fun cls d _ H => E cls d H) ee))
    (hN : a ∉ X.N) (hj : k + 3 ≤ j := by decide) (hg : Gl X "_law_word" := by rfl) (hL : lamSB1 a X.env.scope scope = true := by rfl) (hd : params.defaults = [.Constant (.int i0) j0 p0] := by rfl) (hk0 : params.kw_defaults = [] := by rfl)
    (hbind : Binds1 a params body scope := by intro _ _ _ _ _ _ _ _; exact ⟨_, rfl, rfl⟩) : PE X (.Call (.Name "_law_word" p) [.Lambda params body scope lpos] [] pos) (tD M X.mg W (eFst (eTried xt ee))) :=
  ev_word1w a [] D D' hx hl hr k hbody (fun _ e => absurd (List.mem_of_getElem? e) hN) hj hg hL hd hk0 hbind
end
end VQ

/-! VqT: products, repeated lists and tuples, int of a sign, sorted ints, append, a pair of assignments, name op= e. -/
namespace VQ
open PySem PySem.Spec PyProof.Rows L2
/-! ### tuple * 1, tuple * 0 -/
theorem tup_mul_self (l : Addr) (items : Array Value) (n : Nat) (dd : Option Addr) (sl : Array (Option Value)) (x : Int) (u : Tok) (c0 : (decide (x < -(2 ^ 63)) || decide (x ≥ 2 ^ 63)) = false) (c1 : (items.isEmpty || x == 1) = true) :
    Meets (Builtin.«tuple.__mul__» ⟨[.ref l, .int x u], []⟩) (fun _ R s => s.heap.get? l = some { cls := .type "tuple", dict := dd, data := .seq items n, slots := sl } ∧ R (.ok (.ret (Value.ref l))) s) := .of_wp fun prog w A R s h => by
  obtain ⟨hp, g, d, tk, os⟩ := s
  obtain ⟨hl, h⟩ := h
  have f1 := AutoSeq1.idx_int
  wp_walk using wpAny_loadPart' hl
  repeat (first
    | (refine wpAny_ite_false (decide_eq_false (by rw [c0]; exact Bool.false_ne_true)) ?_; wp_walk using wpAny_loadPart' hl)
    | (refine wpAny_ite_true (decide_eq_true (by rw [c1])) ?_; wp_walk using wpAny_loadPart' hl))
  exact ⟨_, rfl, h⟩
theorem tup_mul_none (l : Addr) (items : Array Value) (n : Nat) (dd : Option Addr) (sl : Array (Option Value)) (x : Int) (u : Tok) (c0 : (decide (x < -(2 ^ 63)) || decide (x ≥ 2 ^ 63)) = false) (c1 : (items.isEmpty || x == 1) = false) (c2 : (decide (x ≤ 0) || items.isEmpty) = true) :
    Meets (Builtin.«tuple.__mul__» ⟨[.ref l, .int x u], []⟩) (fun _ R s => s.heap.get? l = some { cls := .type "tuple", dict := dd, data := .seq items n, slots := sl } ∧
      R (.ok (.ret (Value.ref s.heap.objs.size))) { s with heap := s.heap.push { cls := Value.type "tuple", data := Data.seq #[] }, toks := s.toks }) := .of_wp fun prog w A R s h => by
  obtain ⟨hp, g, d, tk, os⟩ := s
  obtain ⟨hl, h⟩ := h
  have f1 := AutoSeq1.idx_int
  wp_walk using wpAny_loadPart' hl
  repeat (first
    | (refine wpAny_ite_false (decide_eq_false (by rw [c0]; exact Bool.false_ne_true)) ?_; wp_walk using wpAny_loadPart' hl)
    | (refine wpAny_ite_false (decide_eq_false (by rw [c1]; exact Bool.false_ne_true)) ?_; wp_walk using wpAny_loadPart' hl)
    | (refine wpAny_ite_true (decide_eq_true (by rw [c2])) ?_; wp_walk using wpAny_loadPart' hl))
  exact ⟨_, rfl, h⟩

def rRepA (K : PySem.W.Frag) : R2 := fun x y H Q => ∃ l k xs, x = .ref l ∧ y = .int k ∧ SqT K H l xs ∧ k ≤ 1000 ∧ -1000 ≤ k ∧ xs.length ≤ 1000 ∧ (xs = [] ∨ k = 1 → Q x H) ∧ (xs ≠ [] → k ≠ 1 → ∀ p, H p = none → Q (.ref p) (upd H p (.tup (List.replicate k.toNat xs).flatten)))
theorem op_repA {X : Cx} : OpR X (binaryOp .Mult) (rRepA X.K) := by
  intro pins s σ H x y v u Q I rx ry h
  obtain ⟨l, k, xs, rfl, rfl, hT, hk1, hk2, hz, q1, q2⟩ := h
  by_cases hb : xs ≠ [] ∧ 2 ≤ k
  · exact op_repT pins s σ H (.ref l) (.int k) v u Q I rx ry ⟨l, k, xs, rfl, rfl, hT, hb.1, hb.2, hk1, hz, q2 hb.1 (by omega)⟩
  · cases rx
    obtain ⟨t, rfl⟩ := ry
    obtain ⟨its, r, ⟨⟨cls, dd, data, sl⟩, ho, hc, n, hd⟩, hs⟩ := I.tuple hT
    simp only at hc hd
    subst hc hd
    have hle : its.length = xs.length := r.length.symm
    have c0 : (decide (k < -(2 ^ 63)) || decide (k ≥ 2 ^ 63)) = false := by
      simp only [Bool.or_eq_false_iff, decide_eq_false_iff_not]
      omega
    have he : its.toArray.isEmpty = decide (xs = []) := by
      cases its with
      | nil =>
        have : xs = [] := List.eq_nil_of_length_eq_zero hle.symm
        simp [this]
      | cons a b =>
        have : xs ≠ [] := fun e => by rw [e] at hle; simp at hle
        simp [this]
    by_cases hz1 : xs = [] ∨ k = 1
    · have c1 : (its.toArray.isEmpty || k == 1) = true := by
        rw [he]
        rcases hz1 with z | z
        · simp [z]
        · simp [z]
      refine wpAny_binaryOp_repeat_ref (T := "tuple") (U := "int") (by decide) ⟨_, ho, rfl⟩ (fun s' => typeIs_int s' k t) noFill_tuple_mul F.fills_int_mul F.slot_int_rmul repeat_tuple F.slot_int_index.lookup
        (call_meets F.slot_int_rmul (typeIs_int s k t) F.entry_int_rmul (F.args_int_rmul_2 _ _) (int_rmul_tuple k t l its.toArray n dd sl)
          ⟨ho, rfl, ⟨_, ho, rfl⟩, call_meets F.slot_tuple_mul ⟨_, ho, rfl⟩ F.entry_tuple_mul (F.args_tuple_mul_2 _ _) (tup_mul_self l its.toArray n dd sl k t c0 c1) ⟨ho, ?_⟩⟩)
      exact ⟨.ref l, H, I, rfl, q1 hz1⟩
    · have hne : xs ≠ [] := fun z => hz1 (.inl z)
      have hk3 : k ≠ 1 := fun z => hz1 (.inr z)
      have hk4 : k ≤ 0 := by
        rcases Classical.em (2 ≤ k) with z | z
        · exact absurd ⟨hne, z⟩ hb
        · omega
      have c1 : (its.toArray.isEmpty || k == 1) = false := by
        rw [he]
        simp [hne, hk3]
      have c2 : (decide (k ≤ 0) || its.toArray.isEmpty) = true := by simp [hk4]
      have e0 : (List.replicate k.toNat xs).flatten = [] := by
        rw [show k.toNat = 0 by omega]; rfl
      rw [e0] at q2
      refine wpAny_binaryOp_repeat_ref (T := "tuple") (U := "int") (by decide) ⟨_, ho, rfl⟩ (fun s' => typeIs_int s' k t) noFill_tuple_mul F.fills_int_mul F.slot_int_rmul repeat_tuple F.slot_int_index.lookup
        (call_meets F.slot_int_rmul (typeIs_int s k t) F.entry_int_rmul (F.args_int_rmul_2 _ _) (int_rmul_tuple k t l its.toArray n dd sl)
          ⟨ho, rfl, ⟨_, ho, rfl⟩, call_meets F.slot_tuple_mul ⟨_, ho, rfl⟩ F.entry_tuple_mul (F.args_tuple_mul_2 _ _) (tup_mul_none l its.toArray n dd sl k t c0 c1 c2) ⟨ho, ?_⟩⟩)
      refine ⟨.ref s.heap.objs.size, _, I.laid (t' := s.toks) (o := .tup []) (fun b ob z => Heap.get?_push_of_some _ z) (Nat.le_refl _) ⟨by show 0 ≤ sizeLine; omega, [], .nil, IsTup.new _ _⟩, rfl, q2 hne hk3 _ (I.hok.fresh (Nat.le_refl _))⟩
section
variable {K : PySem.W.Frag} {M : WM K}
noncomputable def mulD : D → D → Option R
  | .int i, .int j => if i.natAbs.log2 + j.natAbs.log2 < 1000000 then some (.sh (.int (i * j))) else none
  | .lst l, .int k => if -lk 1000 ≤ k ∧ k ≤ lk 1000 ∧ l.length ≤ 1000 then some (.fr (.lst (List.replicate k.toNat l).flatten)) else none
  | .tup l, .int k => if -lk 1000 ≤ k ∧ k ≤ lk 1000 ∧ l.length ≤ 1000 then some (.sh (.tup (List.replicate k.toNat l).flatten)) else none
  | _, _ => none
def rMulD (K : PySem.W.Frag) : R2 := fun x y H Q => rI CMulW (fun i j => .int (i * j)) x y H Q ∨ rRep x y H Q ∨ rRepA K x y H Q
theorem or_mul {X : Cx} : OpR X (binaryOp .Mult) (rMulD X.K) := op_mulW.or (op_rep.or op_repA)
theorem den_rep {ad : Nat → Option Addr} {Hv : Hp} {l : List D} {vs : List V} (h : DenL K ad Hv l vs) (k : Nat) : DenL K ad Hv (List.replicate k l).flatten (List.replicate k vs).flatten := DenL.replicate h k
theorem od_mul : OpD M mulD (rMulD K) := fun p x y d e res Q ok hx hy hf q => by
  cases d <;> cases e <;> first | (simp only [mulD] at hf; done) | skip
  all_goals try (simp only [mulD] at hf; cases hf; done)
  · cases hx; cases hy
    simp only [mulD] at hf
    split at hf
    · rename_i hc
      cases hf
      exact .inl ⟨_, _, rfl, rfl, hc, fin_sh ok q rfl⟩
    · cases hf
  · rename_i l k
    obtain ⟨a, vs, rfl, h1, h2⟩ := hx
    cases hy
    simp only [mulD] at hf
    split at hf
    · rename_i hc
      rw [lk_eq] at hc
      cases hf
      have hl := h2.length
      refine .inr (.inr ⟨a, k, vs, rfl, rfl, sqT_H ok h1, hc.2.1, hc.1, by rw [hl]; exact hc.2.2, fun z => ?_, fun _ _ b hb => fin_tup ok q (den_rep h2 _) hb⟩)
      rcases z with z | z
      · subst z
        have : l = [] := List.eq_nil_of_length_eq_zero hl.symm
        subst this
        have e0 : (List.replicate k.toNat ([] : List D)).flatten = [] := by simp
        rw [e0] at q
        exact fin_sh ok q ⟨a, [], rfl, h1, h2⟩
      · subst z
        have e0 : (List.replicate (1 : Int).toNat l).flatten = l := by simp
        rw [e0] at q
        exact fin_sh ok q ⟨a, vs, rfl, h1, h2⟩
    · cases hf
  · rename_i l k
    obtain ⟨a, vs, rfl, h1, h2⟩ := hx
    cases hy
    simp only [mulD] at hf
    split at hf
    · rename_i hc
      rw [lk_eq] at hc
      cases hf
      have hl := h2.length
      refine .inr (.inl ⟨a, k, vs, rfl, rfl, ok.view _ _ h1, by omega, by omega, ?_, fun b hb => fin_lst ok q (den_rep h2 _) hb⟩)
      rw [hl, sizeLine_eq]
      have a1 : l.length * k.toNat ≤ 1000 * 1000 := Nat.mul_le_mul hc.2.2 (by omega)
      omega
    · cases hf
theorem mul_small {i j : Int} (h1 : small i = true) (h2 : small j = true) : i.natAbs.log2 + j.natAbs.log2 < 1000000 := by
  obtain ⟨a1, a2⟩ := small_ok h1
  obtain ⟨b1, b2⟩ := small_ok h2
  have lg : ∀ n : Nat, n < 2 ^ 64 → n.log2 < 65 := fun n hn => by
    by_cases z : n = 0
    · subst z; decide
    · exact Nat.lt_trans ((Nat.log2_lt z).mpr hn) (by decide)
  have := lg i.natAbs (by omega)
  have := lg j.natAbs (by omega)
  omega
/-! ### int of a sign, of a number -/
def intD : List D → Option R
  | [.int i] => some (.sh (.int i))
  | [.bl b] => some (.sh (.int (if b then 1 else 0)))
  | [.str [c]] => if 48 ≤ c ∧ c < 58 then some (.sh (.int ((c : Int) - 48))) else none
  | _ => none
theorem int_sign (c : Nat) (h1 : 48 ≤ c) (h2 : c < 58) : PySem.intText? ⟨#[c]⟩ = some ((c : Int) - 48) := by
  have : c = 48 ∨ c = 49 ∨ c = 50 ∨ c = 51 ∨ c = 52 ∨ c = 53 ∨ c = 54 ∨ c = 55 ∨ c = 56 ∨ c = 57 := by omega
  rcases this with h | h | h | h | h | h | h | h | h | h <;> subst h <;> decide +kernel
def rIntD : List V → Hp → VK → Prop := fun xs H Q => ((∃ i, xs = [.int i] ∧ Q (.int i) H) ∨ ∃ k, xs = [.bl k] ∧ Q (.int (if k then 1 else 0)) H) ∨ ∃ a n, xs = [.str a] ∧ PySem.intText? a = some n ∧ a.length ≤ 640 ∧ Q (.int n) H
theorem call_intD {X : Cx} : CallR X (.type "int") rIntD := call_int1.or call_int_str
theorem cd_int : CallD M intD rIntD := fun p xs ds res Q ok hx hf q => by
  match ds, hf with
  | [.int i], hf =>
    obtain ⟨v, r, rfl, h1, h2⟩ := hx
    cases h1; cases h2; cases hf
    exact .inl (.inl ⟨_, rfl, fin_sh ok q rfl⟩)
  | [.bl b], hf =>
    obtain ⟨v, r, rfl, h1, h2⟩ := hx
    cases h1; cases h2; cases hf
    exact .inl (.inr ⟨_, rfl, fin_sh ok q rfl⟩)
  | [.str [c]], hf =>
    obtain ⟨v, r, rfl, h1, h2⟩ := hx
    cases h1; cases h2
    simp only [intD] at hf
    split at hf
    · rename_i hc
      cases hf
      exact .inr ⟨_, _, rfl, int_sign c hc.1 hc.2, by show [c].toArray.size ≤ 640; simp, fin_sh ok q rfl⟩
    · cases hf
/-! ### sorted ints -/
def insI (x : Int) : List Int → List Int
  | [] => [x]
  | y :: r => if x ≤ y then x :: y :: r else y :: insI x r
def sortI : List Int → List Int
  | [] => []
  | x :: r => insI x (sortI r)
theorem insI_perm (x : Int) : ∀ l, (insI x l).Perm (x :: l)
  | [] => .refl _
  | y :: r => by
    unfold insI
    split
    · exact .refl _
    · exact (List.Perm.cons y (insI_perm x r)).trans (.swap x y r)
theorem sortI_perm : ∀ l, (sortI l).Perm l
  | [] => .refl _
  | x :: r => (insI_perm x _).trans ((sortI_perm r).cons x)
theorem insI_sorted (x : Int) : ∀ {l : List Int}, l.Pairwise (· ≤ ·) → (insI x l).Pairwise (· ≤ ·)
  | [], _ => by simp [insI]
  | y :: r, h => by
    obtain ⟨h1, h2⟩ := List.pairwise_cons.mp h
    unfold insI
    split
    · rename_i hxy
      exact List.pairwise_cons.mpr ⟨fun z hz => by
        rcases List.mem_cons.mp hz with e | e
        · subst e; exact hxy
        · exact Int.le_trans hxy (h1 z e), h⟩
    · rename_i hxy
      refine List.pairwise_cons.mpr ⟨fun z hz => ?_, insI_sorted x h2⟩
      rcases List.mem_cons.mp ((insI_perm x r).mem_iff.mp hz) with e | e
      · subst e; omega
      · exact h1 z e
theorem sortI_sorted : ∀ l, (sortI l).Pairwise (· ≤ ·)
  | [] => .nil
  | x :: r => insI_sorted x (sortI_sorted r)
theorem sorted_uniq : ∀ {l m : List Int}, l.Perm m → l.Pairwise (· ≤ ·) → m.Pairwise (· ≤ ·) → l = m
  | [], m, p, _, _ => (List.nil_perm.mp p).symm
  | x :: l, m, p, h1, h2 => by
    obtain ⟨a1, a2⟩ := List.pairwise_cons.mp h1
    cases m with
    | nil => exact absurd p.length_eq (by simp)
    | cons y m =>
      obtain ⟨b1, b2⟩ := List.pairwise_cons.mp h2
      have e : x = y := by
        have hx : x ∈ y :: m := p.mem_iff.mp (List.mem_cons_self ..)
        have hy : y ∈ x :: l := p.mem_iff.mpr (List.mem_cons_self ..)
        rcases List.mem_cons.mp hx with e | e
        · exact e
        · rcases List.mem_cons.mp hy with e' | e'
          · exact e'.symm
          · have := b1 x e
            have := a1 y e'
            omega
      subst e
      rw [sorted_uniq ((List.perm_cons x).mp p) a2 b2]
def sortedI : List D → Option R
  | [.lst l] => (intsD l).map fun ns => .fr (.lst ((sortI ns).map .int))
  | _ => none
theorem cd_sortedI : CallD M sortedI (rSortedI K) := fun p xs ds res Q ok hx hf q => by
  match ds, hf with
  | [.lst l], hf =>
    obtain ⟨v, r, rfl, ⟨a, vs, rfl, h1, h2⟩, h3⟩ := hx
    cases h3
    simp only [sortedI] at hf
    cases z : intsD l with
    | none => rw [z] at hf; cases hf
    | some ns =>
      rw [z] at hf
      cases hf
      rw [intsD_den z h2] at h1
      refine ⟨a, ns, rfl, SqL.of (ok.view _ _ h1), fun ns' b hp hs hb => ?_⟩
      have e : ns' = sortI ns := sorted_uniq (hp.trans (sortI_perm ns).symm) hs (sortI_sorted ns)
      subst e
      exact fin_lst ok q (den_ints _) hb
end
/-! ### x.append(e), x a list of this frame alone -/
section
variable {X : Cx} {M : WM X.K} {W : WX} {e a b : Expr} {pos : Pos} {ea eb : Ev M D} {er er2 : Ev M R} {m : List Nat}
def sAppend {K : PySem.W.Frag} {M : WM K} (i : Nat) (m : List Nat) (ee : Ev M D) : Sv M := fun ρ s => match ρ[i]? with
  | some (some (.ow (.lst _))) => (inF m ee ρ s).bind fun r => match (behind M m (flat r.1) r.2 ρ)[i]? with
    | some (some (.ow (.lst l))) => if l.length < big then .ret (.nx ((behind M m (flat r.1) r.2 ρ).set i (some (.ow (.lst (l ++ [r.1]))))), r.2) else .bad
    | _ => .bad
  | _ => .bad
theorem ss_app (i : Nat) (m : List Nat) {x : Str} {p1 apos : Pos} (he : PE X e (tD M X.mg W ea)) (hN : X.N[i]? = some x := by rfl) (hv : Vis X.env.scope x := by first | exact Or.inl rfl | exact Or.inr (Or.inl rfl) | exact Or.inr (Or.inr rfl)) (hd : (x == ("__debug__" : Str)) = false := by decide)
    (hcd : (x == ("__classdict__" : Str)) = false := by decide) (hbase : attributeBase (.Name x p1) "append" X.env (eval (.Name x p1) X.env) = eval (.Name x p1) X.env := by rfl)
    (hfew : ((backTo pos (starEach [e] X.env)).all (fun x => !x.1) && (backToKw pos (keywordEach [] X.env)).all (fun x => x.1.isSome) && decide ([e].length + ([] : List Keyword).length + (if ([] : List Keyword).isEmpty then 0 else 1) < 30)) = true := by rfl)
    (hline : (apos.endLine == pos.line) = true := by rfl) (hst : starEach [e] X.env = (false, eval e X.env) :: starEach [] X.env := by rfl) {pos2 : Pos}
    (hs : swapsWith (.Call (.Attribute (.Name x p1) "append" apos) [e] [] pos) none pos2.line X.env = pure false := by rfl) :
    PS X (.Expr (.Call (.Attribute (.Name x p1) "append" apos) [e] [] pos) pos2) (tS M X.mg W (sAppend i m ea)) :=
  (ps_expr (pe_bm PySem.F.plainAttrs_list PySem.F.slot_list_append PySem.F.type_list_append mt_append (pe_var hN hv hd hcd) (pa_cons he pa_nil hst) hbase hfew hline hst rfl) hs).con fun Dd σ H ⟨en, ρ, p, hH, rl, q⟩ => by
  subst hH
  show ∃ v, σ[i]? = some (some v) ∧ tyV X.K "list" v p.H ∧ tD M X.mg W ea σ p.H fun y H2 => rAppend v [y] H2 fun _ H3 => Dd.nx σ H3
  cases z0 : ρ[i]? with
  | none => simp only [sAppend, z0] at q; exact q.elim
  | some ob0 =>
    cases ob0 with
    | none => simp only [sAppend, z0] at q; exact q.elim
    | some vv0 =>
     cases vv0 with
     | sh _ => simp only [sAppend, z0] at q; exact q.elim
     | ow d0 =>
      cases d0 <;> first | (simp only [sAppend, z0] at q; exact q.elim) | skip
      rename_i l0
      simp only [sAppend, z0] at q
      obtain ⟨a0, o0, k1, k2, k3, k4, k5, k6⟩ := rl.ow i _ z0
      have ho0 : ∃ vs, o0 = .lst vs := by
        cases o0 <;> first | exact ⟨_, rfl⟩ | exact False.elim k6
      obtain ⟨vs0, rfl⟩ := ho0
      refine ⟨.ref a0, k1, .inl ⟨rfl, vs0, SqL.of k2⟩, ?_⟩
      refine inF_V rl q fun r y q1 ex ok es dy hr => ?_
      obtain ⟨q2, eH, eS, rl2, rk2, ap⟩ := behind_ok (r := .sh r.1) rl ex ok dy
      rw [← es, show flat r.1 = flatR (.sh r.1) from rfl] at hr
      cases zb : (behind M m (flatR (.sh r.1)) q1.s ρ)[i]? with
      | none => rw [zb] at hr; exact hr.elim
      | some ob =>
        rw [zb] at hr
        cases ob with
        | none => exact hr.elim
        | some vv =>
          cases vv with
          | sh _ => exact hr.elim
          | ow db =>
            cases db with
            | lst lb =>
              simp only at hr
              split at hr
              · rename_i hc
                obtain ⟨a1, o1, j1, j2, j3, j4, j5, j6⟩ := rl2.ow i _ zb
                rw [k1] at j1
                cases j1
                have ho1 : ∃ vs, o1 = .lst vs := by
                  cases o1 <;> first | exact ⟨_, rfl⟩ | exact False.elim j6
                obtain ⟨vs1, rfl⟩ := ho1
                have hlen : vs1.length = lb.length := DenL.length j6
                refine ⟨a0, vs1, y, rfl, rfl, by rw [← eH]; exact j2, by rw [hlen]; exact Nat.lt_of_lt_of_le hc (big_line (Nat.le_refl _)), ?_⟩
                rw [← eH]
                refine hr σ ⟨q2.s, q2.F, q2.Hv, upd q2.H a0 (.lst (vs1 ++ [y])), q2.ad⟩ ?_ eS
                have dnew : DenL X.K q2.ad q2.Hv (lb ++ [r.1]) (vs1 ++ [y]) := DenL.append j6 (DenL.one rk2)
                refine ⟨⟨fun b o hb => ?_, rl2.ok.off, M.stay rl2.ok.rep Same.rfl' fun b o fb hb => ?_⟩, ⟨rl2.ext.view, fun b o hb nf => ?_, rl2.ext.new, rl2.ext.foot, rl2.ext.ad⟩, by rw [List.length_set]; exact rl2.len, fun j d hj => ?_, fun j d hj => ?_, fun j k d d' a hjk hj hk => ?_⟩
                · have n : b ≠ a0 := fun z => by rw [z, j3] at hb; cases hb
                  show upd q2.H a0 _ b = some o
                  rw [upd_ne n]; exact rl2.ok.view _ _ hb
                · have n : b ≠ a0 := fun z => j4 (z ▸ fb)
                  show upd q2.H a0 _ b = some o
                  rw [upd_ne n]; exact hb
                · have n : b ≠ a0 := fun z => by
                    subst z
                    rcases j5 with z | z
                    · rw [hb] at z; cases z
                    · exact nf z
                  show upd q2.H a0 _ b = some o
                  rw [upd_ne n]; exact rl2.ext.frame b o hb nf
                · by_cases hij : i = j
                  · subst hij
                    rw [List.getElem?_set_self (List.getElem?_eq_some_iff.mp zb).1] at hj
                    cases hj
                  · rw [List.getElem?_set_ne hij] at hj
                    exact rl2.sh j d hj
                · by_cases hij : i = j
                  · subst hij
                    rw [List.getElem?_set_self (List.getElem?_eq_some_iff.mp zb).1] at hj
                    cases hj
                    exact ⟨a0, _, k1, upd_same, j3, j4, j5, dnew⟩
                  · rw [List.getElem?_set_ne hij] at hj
                    obtain ⟨a2, o2, e1, e2, e3, e4, e5, e6⟩ := rl2.ow j d hj
                    have n : a2 ≠ a0 := fun z => rl2.dis i j _ d a0 hij zb hj k1 (by rw [e1, z])
                    exact ⟨a2, o2, e1, by show upd q2.H a0 _ a2 = _; rw [upd_ne n]; exact e2, e3, e4, e5, e6⟩
                · have back : ∀ (j : Nat) d, ((behind M m (flatR (.sh r.1)) q1.s ρ).set i (some (.ow (.lst (lb ++ [r.1])))))[j]? = some (some (.ow d)) → ∃ d', (behind M m (flatR (.sh r.1)) q1.s ρ)[j]? = some (some (.ow d')) := fun j d hj => by
                    by_cases hij : i = j
                    · subst hij; exact ⟨_, zb⟩
                    · rw [List.getElem?_set_ne hij] at hj
                      exact ⟨d, hj⟩
                  obtain ⟨d1, z1⟩ := back j d hj
                  obtain ⟨d2, z2⟩ := back k d' hk
                  exact rl2.dis j k d1 d2 a hjk z1 z2
              · exact hr.elim
            | _ => exact hr.elim
end
end VQ

/-! VqU: a, b = x, y; a, b = e; a op= e. -/
namespace VQ
open PySem PySem.Spec PyProof.Rows L2
section
variable {X : Cx} {M : WM X.K} {W : WX} {en : Pt M} {e a b : Expr} {pos : Pos} {ea eb : Ev M D} {er er2 : Ev M R} {m : List Nat}
theorem un65 {k : Nat} {A : Around} (hr : Room k A) : A.units + 65 < cLine := by have := hr.un; omega
theorem opn0 (p : Pt M) (ρ : Nv) (σ : Sl) : p.opn ρ σ [] = p := by
  obtain ⟨s, F, Hv, H⟩ := p
  unfold Pt.opn
  congr 1
  funext b
  have : ¬ OwnAt ρ σ [] b := fun ⟨i, d, h, _⟩ => by cases h
  simp [this]
theorem behind_e {fl : Bool} {s : M.S} {ρ : Nv} : behind M [] fl s ρ = ρ := by simp [behind]
/-- a fresh thing stays hidden while something else is told -/
theorem ROk.stay {p q r : Pt M} (e : Ext p q) (e2 : Ext q r) {x : R} {v : V} (h : ROk p q x v) : ROk p r x v := by
  cases x with
  | sh d => exact e2.den h
  | fr d =>
    obtain ⟨a, o, h1, h2, h3, h4, h5, h6⟩ := h
    refine ⟨a, o, h1, e2.frame a o h2 h4, ?_, fun z => ?_, h5, h6.mono e2.view e2.ad⟩
    · cases z : r.Hv a with
      | none => rfl
      | some u =>
        rcases e2.new a u z with ⟨o', z'⟩ | z' | z'
        · rw [h3] at z'; cases z'
        · rw [h2] at z'; cases z'
        · exact absurd z' h4
    · rcases e2.foot a z with z | z
      · exact h4 z
      · rw [h2] at z; cases z
/-- a, b = x, y -/
def sPar {K : PySem.W.Frag} {M : WM K} (i j : Nat) (ea eb : Ev M R) : Sv M := fun ρ s => (inF [] ea ρ s).bind fun r => (inF [] eb ρ r.2).bind fun t => if i < ρ.length ∧ j < ρ.length then .ret (.nx ((ρ.set i (some r.1.vv)).set j (some t.1.vv)), t.2) else .bad
theorem ss_par (i j : Nat) {x y : Str} {px py pt : Pos} {kt k2 pt2} (hN : X.N.Nodup) (ha : PE X a (tR M X.mg W er)) (hb : PE X b (tR M X.mg W er2)) (hc : X.calm = true := by rfl) (hi : X.N[i]? = some x := by rfl) (hj : X.N[j]? = some y := by rfl) (hij : i ≠ j := by decide)
    (hx : X.env.scope.names.lookup x = some .local := by rfl) (hy : X.env.scope.names.lookup y = some .local := by rfl) (hs1 : starEach [a, b] X.env = (false, eval a X.env) :: starEach [b] X.env := by rfl) (hs2 : starEach [b] X.env = (false, eval b X.env) :: starEach [] X.env := by rfl)
    (hw : swappedStores [.Tuple [.Name x px, .Name y py] kt pt] (.Tuple [a, b] k2 pt2) X.env = pure (some [x, y]) := by rfl)
    (hs : swapsWithSole [.Tuple [.Name x px, .Name y py] kt pt] (.Tuple [a, b] k2 pt2) pos.line X.env = pure false := by rfl) :
    PS X (.Assign [.Tuple [.Name x px, .Name y py] kt pt] (.Tuple [a, b] k2 pt2) pos) (tS M X.mg W (sPar i j er er2)) := (ps_par hc hN hi hj hij hx hy (pa_cons ha (pa_cons hb pa_nil hs2) hs1) hw hs).con fun Dd σ H ⟨en, ρ, p, hH, rl, q⟩ => by
  subst hH
  show tR M X.mg W er σ p.H fun v H1 => tR M X.mg W er2 σ H1 fun w H2 => ∃ v' w', [v, w] = [v', w'] ∧ Dd.nx ((σ.set i (some v')).set j (some w')) H2
  refine inF_D rl q fun r v q1 ex ok es rk hr => ?_
  rw [opn0] at ex rk
  have rl1 : Rel en ρ σ q1 := by
    have := frz_rel (m := []) rl (by rw [opn0]; exact ex) ok
    rwa [frz_nil] at this
  rw [← es] at hr
  refine inF_D rl1 hr fun t w q3 ex3 ok3 es3 rk3 ht => ?_
  rw [opn0] at ex3 rk3
  have rl3 : Rel en ρ σ q3 := by
    have := frz_rel (m := []) rl1 (by rw [opn0]; exact ex3) ok3
    rwa [frz_nil] at this
  refine ⟨v, w, rfl, ?_⟩
  split at ht
  · rename_i hc
    have rkv : ROk en q3 r.1 v := ROk.tr rl.ext (ex.trans ex3) (ROk.stay ex ex3 rk)
    have rkw : ROk en q3 t.1 w := ROk.tr (rl.ext.trans ex) ex3 rk3
    have apO : ∀ {p0 q0 : Pt M} {x : R} {u : V}, Rel en ρ σ p0 → ROk p0 q0 x u → ∀ a, u = .ref a → (∃ d, x = .fr d) → ∀ (k : Nat) d, ρ[k]? = some (some (.ow d)) → σ[k]? ≠ some (some (.ref a)) := fun {p0 q0 x u} rl0 rk0 a hu ⟨d, hx⟩ k d' hk hs => by
      subst hx
      obtain ⟨a', o, e1, e2, e3, e4, e5, e6⟩ := rk0
      rw [hu] at e1; cases e1
      obtain ⟨a2, o2, h1, h2, h3, h4, _⟩ := rl0.ow k d' hk
      rw [hs] at h1; cases h1
      rcases e5 with z | z
      · rw [h2] at z; cases z
      · exact h4 z
    have s1 := set_rel rl3 rkv (apO rl rk) i hc.1
    have s2 := set_rel s1 rkw (fun a hu hx k d hk => ?_) j (by rw [List.length_set]; exact hc.2)
    · exact ht _ q3 s2 es3
    · by_cases hik : i = k
      · subst hik
        rw [List.getElem?_set_self hc.1] at hk
        rw [List.getElem?_set_self (by rw [rl3.len]; exact hc.1)]
        intro hv
        cases hv
        obtain ⟨d2, hx⟩ := hx
        rw [hx] at rk3
        obtain ⟨a', o, e1, e2, e3, e4, e5, e6⟩ := rk3
        rw [hu] at e1; cases e1
        cases hr1 : r.1 with
        | sh d3 => rw [hr1] at hk; cases hk
        | fr d3 =>
          rw [hr1] at rk
          obtain ⟨a3, o3, f1, f2, f3, f4, f5, f6⟩ := rk
          cases f1
          rcases e5 with z | z
          · rw [f2] at z; cases z
          · exact f4 z
      · rw [List.getElem?_set_ne hik] at hk ⊢
        exact apO rl1 rk3 a hu hx k d hk
  · exact ht.elim
/-- a, b = e: e's data taken apart -/
def sTgt {K : PySem.W.Frag} {M : WM K} (m : List Nat) (ee : Ev M D) (g : D → Nv → Option Nv) : Sv M := fun ρ s => (inF m ee ρ s).bind fun r => match g r.1 (behind M m (flat r.1) r.2 ρ) with
  | some ρ' => .ret (.nx ρ', r.2)
  | none => .bad
theorem ss_tgt (m : List Nat) {tg : Expr} {g : D → Nv → Option Nv} (he : PE X e (tD M X.mg W ea)) (hg : PG X tg (tGt M g)) (hs : swapsWithSole [tg] e pos.line X.env = pure false := by rfl) (hw : swappedStores [tg] e X.env = pure none := by rfl) (h1 : (assignEach [tg] X.env).map (·.2) = [assign tg X.env] := by rfl) : PS X (.Assign [tg] e pos) (tS M X.mg W (sTgt m ea g)) := (ps_asg he hg hs hw h1).con fun Dd σ H ⟨en, ρ, p, hH, rl, q⟩ => by
  subst hH
  show tD M X.mg W ea σ p.H fun v H1 => tGt M g v σ H1 fun σ2 H2 => Dd.nx σ2 H2
  refine inF_V rl q fun r v q1 ex ok es dv hr => ?_
  obtain ⟨q2, eH, eS, rl2, rk2, _⟩ := behind_ok (r := .sh r.1) rl ex ok dv
  rw [← es, show flat r.1 = flatR (.sh r.1) from rfl] at hr
  cases z : g r.1 (behind M m (flatR (.sh r.1)) q1.s ρ) with
  | none => rw [z] at hr; exact hr.elim
  | some ρ' =>
    rw [z] at hr
    exact ⟨en, _, q2, r.1, ρ', eH, rl2, rk2, z, fun σ' rl' => hr σ' q2 rl' eS⟩
/-- a op= e -/
def sAug {K : PySem.W.Frag} {M : WM K} (f : Int → Int → Int) (i : Nat) (ee : Ev M D) : Sv M := fun ρ s => match ρ[i]? with
  | some (some (.sh (.int n))) => (inF [] ee ρ s).bind fun r => match r.1 with
    | .int k => .ret (.nx (ρ.set i (some (.sh (.int (f n k))))), r.2)
    | _ => .bad
  | _ => .bad
theorem ss_aug (i : Nat) {x : Str} {pos' : Pos} {o : Operator} {f : Int → Int → Int} (ho : PIp X o (ipI f)) (hN : X.N.Nodup) (he : PE X e (tD M X.mg W ea)) (hi : X.N[i]? = some x := by rfl) (hx : Loc X.env.scope x := by first | exact Or.inl rfl | exact Or.inr rfl)
    (hf : X.fn x = true ∨ X.env.scope.names.lookup x = some .local := by first | exact .inl rfl | exact .inr rfl) : PS X (.AugAssign (.Name x pos') o e pos) (tS M X.mg W (sAug f i ea)) := (ps_aug hN hi hx he ho hf).con fun Dd σ H ⟨en, ρ, p, hH, rl, q⟩ => by
  subst hH
  cases z : ρ[i]? with
  | none => simp only [sAug, z] at q; exact q.elim
  | some ob =>
    cases ob with
    | none => simp only [sAug, z] at q; exact q.elim
    | some vv =>
      cases vv with
      | ow _ => simp only [sAug, z] at q; exact q.elim
      | sh d =>
        cases d <;> first | (simp only [sAug, z] at q; exact q.elim) | skip
        rename_i n
        simp only [sAug, z] at q
        obtain ⟨v, h1, h2⟩ := rl.sh i _ z
        cases h2
        refine ⟨.int n, h1, ?_⟩
        refine inF_V rl q fun r y q1 ex ok es dy hr => ?_
        obtain ⟨d, s1⟩ := r
        cases d <;> first | exact hr.elim | skip
        cases dy
        have rl1 : Rel en ρ σ q1 := by
          have := frz_rel (m := []) rl ex ok
          rwa [frz_nil] at this
        exact ⟨_, _, rfl, rfl, hr _ q1 (set_rel (r := .sh (.int _)) rl1 rfl (fun _ _ ⟨_, h⟩ => by cases h) i (List.getElem?_eq_some_iff.mp z).1) es⟩
theorem tR_seen {σ : Sl} {H : Hp} {Q : V → Hp → Prop} (h : tD M X.mg W (eSeen er) σ H Q) : tR M X.mg W er σ H Q := by
  obtain ⟨ρ, p, hH, ok, en, q⟩ := h
  subst hH
  refine tG.seq ok en q fun r v q' ex ok' es rk hq => ?_
  obtain ⟨q2, e2, ok2, hH, hs, dn⟩ := rk.seen ex ok'
  rw [← hH]
  exact hq v q2 e2 ok2 (hs.trans es) dn
theorem tR_sh {σ : Sl} {H : Hp} {Q : V → Hp → Prop} (h : tR M X.mg W (eSh ea) σ H Q) : tD M X.mg W ea σ H Q := by
  obtain ⟨ρ, p, hH, ok, en, q⟩ := h
  subst hH
  exact tG.seq ok en q fun r v q' ex ok' es rk hq => hq v q' ex ok' es rk
/-- a name set by any law of setting whose drawing is met by the reading -/
theorem ss_setT (i : Nat) (m : List Nat) {x : Str} {pos' : Pos} {te : TE} (hp : PS X (.Assign [.Name x pos'] e pos) (tAsg te (gName i))) (ht : ∀ σ H Q, tR M X.mg W er σ H Q → te σ H Q) :
    PS X (.Assign [.Name x pos'] e pos) (tS M X.mg W (sSet i m er)) := hp.con fun Dd σ H ⟨en, ρ, p, hH, rl, q⟩ => by
  subst hH
  refine ht σ p.H (fun x H1 => Dd.nx (σ.set i (some x)) H1) ?_
  refine inF_D rl q fun r v q1 e ok es rk hr => ?_
  obtain ⟨q2, eH, eS, rl2, rk2, ap⟩ := behind_ok rl e ok rk
  split at hr
  · rename_i hi
    rw [← eH]
    rw [← es] at hr
    refine hr (σ.set i (some v)) q2 (set_rel rl2 rk2 (fun a ha hd j d hj => ap a ha hd j d (behind_own hj)) i (by rw [behind_len]; exact hi)) eS
  · exact hr.elim
/-- a one-line list that a name without a cell can take at once -/
def LcP (X : Cx) (M : WM X.K) (W : WX) (e : Expr) (er : Ev M R) : Prop := ∀ (i : Nat) (m : List Nat) (y : Str) (py spos : Pos), X.N[i]? = some y → X.env.scope.names.lookup y = some .local →
  swapsWith e (some (.Name y py)) spos.line X.env = pure true → PS X (.Assign [.Name y py] e spos) (tS M X.mg W (sSet i m er))
theorem lcp_lc (own : List (Str × Nat)) {ei : Ev M (List D)} {iter tg elt : Expr} {ifs : List Expr} {scope : Scope} {g : D → Dv → Option Dv} {et : Ev M Bool} (hc : X.calm = true) (hN : X.N.Nodup) (hi : PI X tg iter (tIt M W ei)) (ok : BlkOk X.N X.env.scope scope own)
    (hg : ∀ (s : Shared) (H : Hp) (C : Addr) (cl : List (Str × Addr)) (fp : List Addr), PG (X.blk s H scope (compEnvC scope cl C X.env) fp) tg (tGd M (own.map (·.2)) g))
    (ht : ∀ (s : Shared) (H : Hp) (C : Addr) (cl : List (Str × Addr)) (fp : List Addr), PTs (X.blk s H scope (compEnvC scope cl C X.env) fp) ifs (tB' M X.mg W0 et))
    (he : ∀ (s : Shared) (H : Hp) (C : Addr) (cl : List (Str × Addr)) (fp : List Addr), PE (X.blk s H scope (compEnvC scope cl C X.env) fp) elt (tD M X.mg W0 ea)) (hs : ∀ x, foldedSetIterable iter X.env x = pure x := by intro _; rfl)
    : LcP X M W (.ListComp elt [⟨tg, iter, ifs, 0⟩] scope pos) (eLc (own.map (·.2)) ei g et ea) := fun i m _ _ _ hy hyl hsw => ss_setT i m (ps_setLc hc hN hy hyl hsw hi ok hg ht he hs) fun _ _ _ h => tLc_of h
theorem lcp_lcS (own : List (Str × Nat)) {ei : Ev M (List D)} {iter tg elt : Expr} {ifs : List Expr} {scope : Scope} {g : D → Dv → Option Dv} {et : Ev M Bool} (hc : X.calm = true) (hN : X.N.Nodup) (hi : PI X tg iter (tIt M W ei)) (ok : BlkOk X.N X.env.scope scope own)
    (hg : ∀ (s : Shared) (H : Hp) (C : Addr) (cl : List (Str × Addr)) (fp : List Addr), PG (X.blk s H scope (compEnvC scope cl C X.env) fp) tg (tGd M (own.map (·.2)) g))
    (ht : ∀ (s : Shared) (H : Hp) (C : Addr) (cl : List (Str × Addr)) (fp : List Addr), PTs (X.blk s H scope (compEnvC scope cl C X.env) fp) ifs (tB' M X.mg W0 et))
    (he : ∀ (s : Shared) (H : Hp) (C : Addr) (cl : List (Str × Addr)) (fp : List Addr), PE (X.blk s H scope (compEnvC scope cl C X.env) fp) elt (tD M X.mg W0 ea)) (hs : ∀ x, foldedSetIterable iter X.env x = pure x := by intro _; rfl)
    : LcP X M W (.ListComp elt [⟨tg, iter, ifs, 0⟩] scope pos) (eSh (eSeen (eLc (own.map (·.2)) ei g et ea))) := fun i m _ _ _ hy hyl hsw => ss_setT i m (ps_setLc hc hN hy hyl hsw hi ok hg ht he hs) fun _ _ _ h => tLc_of (tR_seen (tR_sh h))
/-- x = [elt for tg in iter if ..], x no cell -/
theorem ss_setLc (i : Nat) (m : List Nat) {y : Str} {py spos : Pos} (h : LcP X M W e er) (hy : X.N[i]? = some y := by rfl) (hyl : X.env.scope.names.lookup y = some .local := by rfl)
    (hsw : swapsWith e (some (.Name y py)) spos.line X.env = pure true := by exact L2.sw_true rfl rfl (by decide) (by decide)) : PS X (.Assign [.Name y py] e spos) (tS M X.mg W (sSet i m er)) := h i m _ _ _ hy hyl hsw
end
end VQ

/-! VqV: a for over whatever may be walked: a list, a tuple, a text. -/
namespace VQ
open PySem PySem.Spec PyProof.Rows L2
def iAny (K : PySem.W.Frag) (te : TE) : TI := fun σ H R => te σ H fun x H1 => (∃ a, x = .ref a ∧ (∃ xs, SqL K H1 a xs) ∧ R (Itl K a) H1) ∨ (∃ a, x = .ref a ∧ (∃ xs, SqT K H1 a xs) ∧ R (Itt K a) H1) ∨ ∃ t, x = .str t ∧ R (Its t) H1
section
variable {X : Cx} {M : WM X.K} {W : WX} {tg e : Expr} {te : TE} {ea : Ev M D}
theorem pi_any (he : PE X e te) : PI X tg e (iAny X.K te) := ⟨fun pins s σ H R I h => thn (he.run pins s σ H _ I h) fun v s1 ⟨x, H1, I1, r1, q1⟩ => by
  rcases q1 with ⟨a, rfl, ⟨xs, hq⟩, q⟩ | ⟨a, rfl, ⟨xs, hq⟩, q⟩ | ⟨t, rfl, q⟩
  · cases r1
    obtain ⟨its, rv, p, _⟩ := I1.list hq
    exact wpAny_pyIter_list p.isList (pi_one (tk := s1.toks) I1 _ (turn_list a _) ⟨_, Heap.get?_push_size _ rfl, rfl, rfl⟩ q)
  · cases r1
    obtain ⟨its, rv, p, _⟩ := I1.tuple hq
    exact wpAny_pyIter_tuple (show s1.heap.IsTuple a its.toArray from p) (pi_one (tk := s1.toks) I1 _ (turn_tuple a _) ⟨_, Heap.get?_push_size _ rfl, rfl, rfl⟩ q)
  · obtain ⟨u, rfl⟩ := r1
    by_cases hw : t.cps.all (· < 128) = true
    · exact wpAny_pyIter_ascii hw (pi_one (tk := s1.toks) I1 _ (turn_str _ t u "str_ascii_iterator" (.inl rfl)) ⟨_, Heap.get?_push_size _ rfl, rfl, rfl⟩ q)
    · exact wpAny_pyIter_wide (by simpa using hw) (pi_one (tk := s1.toks) I1 _ (turn_str _ t u "str_iterator" (.inr rfl)) ⟨_, Heap.get?_push_size _ rfl, rfl, rfl⟩ q)⟩
def anyOf : D → Option (List D)
  | .lst l => some l
  | .tup l => some l
  | .str s => some (s.map fun c => .str [c])
  | _ => none
theorem sv_str {q : Pt M} (s : List Nat) : Serves (Its ⟨s.toArray⟩) (s.map fun c => D.str [c]) q := fun H' sm => ⟨fun i hi => by
  show (s.toArray).size ≤ i
  simpa using Nat.le_of_eq hi, fun i y hy => by
  rw [List.getElem?_map] at hy
  cases z : s[i]? with
  | none => rw [z] at hy; cases hy
  | some c =>
    rw [z] at hy; cases hy
    have hi : i < s.length := (List.getElem?_eq_some_iff.mp z).1
    refine ⟨by show i < (s.toArray).size; simpa using hi, fun x H2 ⟨e, c', h1, h2⟩ => .inl ⟨e, ?_⟩⟩
    have h1 : s.toArray[i]? = some c' := h1
    rw [List.getElem?_toArray, z] at h1; cases h1
    rw [h2]; rfl⟩
theorem it_any (ha : PE X e (tD M X.mg W ea)) : PI X tg e (tIt M W (eItems anyOf ea)) := it_of (pi_any ha) fun h => by
  obtain ⟨ρ, p, hH, ok, en, q⟩ := h
  refine ⟨ρ, p, hH, ok, en, G.all_mono (fun r hr v q e ok es dn => ?_) (fun _ h => h) q⟩
  obtain ⟨q', d, l, eH, ok', dx, hf, hJ⟩ := hr v q e ok es dn
  cases d <;> first | (cases hf; done) | skip
  · cases hf
    cases dx
    exact .inr (.inr ⟨_, rfl, hJ _ (sv_str _)⟩)
  · cases hf
    obtain ⟨a, vs, rfl, h1, h2⟩ := dx
    exact .inr (.inl ⟨a, rfl, ⟨vs, by rw [← eH]; exact sqT_H ok' h1⟩, hJ _ (sv_tup h1 h2)⟩)
  · cases hf
    obtain ⟨a, vs, rfl, h1, h2⟩ := dx
    exact .inl ⟨a, rfl, ⟨vs, SqL.of (by rw [← eH]; exact ok'.view _ _ h1)⟩, hJ _ (sv_list h1 h2)⟩
end
end VQ

/-! VqW: reasoning over the readings: no program in sight. -/
namespace VK
abbrev Dfs {K : PySem.W.Frag} (M : VQ.WM K) := List VQ.D → M.S → VQ.Gx M VQ.R
end VK
namespace VQ
open PySem PySem.Spec PyProof.Rows L2 VK
namespace G
variable {ε ε' ε'' α β γ : Type}
theorem bind_draw (n : Nat) (k : Nat → G ε α) (f : α → G ε β) : (G.draw n k).bind f = G.draw n fun r => (k r).bind f := rfl
theorem exs_draw (n : Nat) (k : Nat → G ε α) (f : ε → ε') : (G.draw n k).exs f = G.draw n fun r => (k r).exs f := rfl
@[simp] theorem exs_ret (a : α) (f : ε → ε') : (ret a : G ε α).exs f = ret a := rfl
@[simp] theorem exs_exc (e : ε) (f : ε → ε') : (exc e : G ε α).exs f = exc (f e) := rfl
@[simp] theorem exs_bad (f : ε → ε') : (bad : G ε α).exs f = bad := rfl
theorem exs_bind (g : ε → ε') (f : α → G ε β) : ∀ m : G ε α, (m.bind f).exs g = (m.exs g).bind fun a => (f a).exs g
  | ret _ => rfl
  | exc _ => rfl
  | bad => rfl
  | draw n k => congrArg (draw n) (funext fun r => exs_bind g f (k r))
theorem exs_exs (g : ε → ε') (h : ε' → ε'') : ∀ m : G ε α, (m.exs g).exs h = m.exs fun e => h (g e)
  | ret _ => rfl
  | exc _ => rfl
  | bad => rfl
  | draw n k => congrArg (draw n) (funext fun r => exs_exs g h (k r))
theorem noX_bind (f : α → G ε β) : ∀ m : G ε α, ((m.bind f).noX : G ε' β) = (m.noX : G ε' α).bind fun a => ((f a).noX : G ε' β)
  | ret _ => rfl
  | exc _ => rfl
  | bad => rfl
  | draw n k => congrArg (draw n) (funext fun r => noX_bind f (k r))
theorem noX_draw (n : Nat) (k : Nat → G ε α) : ((G.draw n k).noX : G ε' α) = G.draw n fun r => (k r).noX := rfl
end G
/-- m.all P E, which a goal's elaboration does not unfold -/
structure Al {ε α : Type} (m : G ε α) (P : α → Prop) (E : ε → Prop) : Prop where
  out : m.all P E
namespace Al
variable {ε ε' α β : Type} {P : α → Prop} {E : ε → Prop}
theorem ret {a : α} (h : P a) : Al (.ret a : G ε α) P E := ⟨h⟩
theorem exc {e : ε} (h : E e) : Al (.exc e : G ε α) P E := ⟨h⟩
theorem draw {n : Nat} {k : Nat → G ε α} (h : 0 < n) (hk : ∀ r, r < n → Al (k r) P E) : Al (.draw n k) P E := ⟨⟨h, fun r hr => (hk r hr).out⟩⟩
theorem bind {m : G ε α} {f : α → G ε β} {P : β → Prop} (h : Al m (fun a => Al (f a) P E) E) : Al (m.bind f) P E := ⟨G.all_bind.mpr (G.all_mono (fun _ h => h.out) (fun _ h => h) h.out)⟩
theorem exs {m : G ε α} {g : ε → ε'} {E : ε' → Prop} (h : Al m P (fun e => E (g e))) : Al (m.exs g) P E := ⟨G.all_exs.mpr h.out⟩
theorem catch_ {m : G ε α} {f : ε → G ε' α} {E : ε' → Prop} (h : Al m P (fun e => Al (f e) P E)) : Al (m.catch_ f) P E := ⟨G.all_catch.mpr (G.all_mono (fun _ h => h) (fun _ h => h.out) h.out)⟩
theorem mono {m : G ε α} {P' : α → Prop} {E' : ε → Prop} (h : Al m P E) (hP : ∀ a, P a → P' a) (hE : ∀ e, E e → E' e) : Al m P' E' := ⟨G.all_mono hP hE h.out⟩
theorem to {m : G ε α} {P' : α → Prop} (h : Al m P E) (hP : ∀ a, P a → P' a) : Al m P' E := h.mono hP fun _ h => h
theorem bto {m : G ε α} {f : α → G ε β} {Q : β → Prop} (h : Al m P E) (hP : ∀ a, P a → Al (f a) Q E) : Al (m.bind f) Q E := .bind (h.to hP)
/-- .. of a part that raises nothing -/
theorem bto0 {m : G ε α} {f : α → G ε β} {Q : β → Prop} (h : Al m P (fun _ => False)) (hP : ∀ a, P a → Al (f a) Q E) : Al (m.bind f) Q E := .bind (h.mono hP fun _ h => h.elim)
theorem btox {m : G ε α} {g : ε → ε'} {f : α → G ε' β} {Q : β → Prop} {E : ε' → Prop} (h : Al m P (fun _ => False)) (hP : ∀ a, P a → Al (f a) Q E) : Al ((m.exs g).bind f) Q E := .bind (.exs (h.mono hP fun _ h => h.elim))
theorem noX {m : G ε α} {E' : ε' → Prop} (h : Al m P (fun _ => False)) : Al (m.noX : G ε' α) P E' := ⟨by
  have aux : ∀ {m : G ε α}, m.all P (fun _ => False) → (m.noX : G ε' α).all P E' := by
    intro m
    induction m with
    | ret a => exact fun h => h
    | exc e => exact fun h => h.elim
    | bad => exact fun h => h
    | draw n k ih => exact fun h => ⟨h.1, fun r hr => ih r (h.2 r hr)⟩
  exact aux h.out⟩
theorem bnoX {m : G ε α} {f : α → G ε' β} {Q : β → Prop} {E : ε' → Prop} (h : Al m P (fun _ => False)) (hP : ∀ a, P a → Al (f a) Q E) : Al ((m.noX : G ε' α).bind f) Q E := .bind ((noX h).to hP)
end Al
section
variable {K : PySem.W.Frag} {M : WM K} {a b : Sv M} {ρ : Nv} {s : M.S} {P : Fl × M.S → Prop} {E : Xs M → Prop} {er : Ev M R} {ea : Ev M D} {c : Ev M Bool} {i : Nat}
theorem behind0 {fl : Bool} {s : M.S} : behind M [] fl s ρ = ρ := by simp [behind]
theorem al_seq (h : Al (a ρ s) (fun f => Al (sThen b f) P E) E) : Al (sSeq a b ρ s) P E := .bind h
theorem al_nx {ρ : Nv} {s : M.S} (h : Al (b ρ s) P E) : Al (sThen b (.nx ρ, s)) P E := h
theorem al_seqE {ρ' : Nv} {s' : M.S} (h : a ρ s = .ret (.nx ρ', s')) (hk : Al (b ρ' s') P E) : Al (sSeq a b ρ s) P E := by
  refine al_seq ?_
  rw [h]; exact .ret hk
theorem seq_eq {ρ' : Nv} {s' : M.S} (h : a ρ s = .ret (.nx ρ', s')) : sSeq a b ρ s = b ρ' s' := by
  unfold sSeq; rw [h]; rfl
theorem al_set (hi : i < ρ.length) (h : Al (er (view [] ρ) s) (fun r => P (.nx (ρ.set i (some r.1.vv)), r.2)) (fun x => E (x.1, frz [] ρ, x.2))) : Al (sSet i [] er ρ s) P E := .bind (.exs (h.mono (fun r hr => by
  rw [behind0, if_pos hi]; exact .ret hr) fun _ h => h))
theorem al_ret (h : Al (er (view [] ρ) s) (fun r => P (.rt r.1, r.2)) (fun x => E (x.1, frz [] ρ, x.2))) : Al (sRet [] er ρ s) P E := .bind (.exs (h.mono (fun r hr => .ret hr) fun _ h => h))
theorem al_if {s' : M.S} {k : Bool} {m : List Nat} (h : c (view m ρ) s = .ret (k, s')) (hk : Al (if k = true then a (behind M m true s' ρ) s' else b (behind M m true s' ρ) s') P E) : Al (sIf m c a b ρ s) P E := by
  refine .bind (.exs ?_)
  rw [h]
  exact .ret hk
theorem al_ifF {s' : M.S} (h : c (view [] ρ) s = .ret (false, s')) (hk : Al (b ρ s') P E) : Al (sIf [] c a b ρ s) P E := al_if h (by rw [behind0]; exact hk)
theorem al_ifT {s' : M.S} (h : c (view [] ρ) s = .ret (true, s')) (hk : Al (a ρ s') P E) : Al (sIf [] c a b ρ s) P E := al_if h (by rw [behind0]; exact hk)
theorem al_nil (h : P (.nx ρ, s)) : Al (sNil (M := M) ρ s) P E := .ret h
/-- a loop whose turns go on -/
theorem loop_al {g : D → Nv → Option Nv} {body : Sv M} {I : Nv → M.S → Prop} : ∀ {ds : List D}, (∀ d ∈ ds, ∀ ρ s, I ρ s → ∃ ρ1, g d ρ = some ρ1 ∧ Al (body ρ1 s) (fun f => ∃ ρ2, f.1 = .nx ρ2 ∧ I ρ2 f.2) E) → ∀ {ρ : Nv} {s : M.S}, I ρ s → Al (loopG g body ds ρ s) (fun f => ∃ ρ2, f.1 = .nx ρ2 ∧ I ρ2 f.2) E
  | [], _, ρ, s, hi => .ret ⟨ρ, rfl, hi⟩
  | d :: ds, h, ρ, s, hi => by
    obtain ⟨ρ1, e, hb⟩ := h d (List.mem_cons_self ..) ρ s hi
    unfold loopG
    rw [e]
    refine .bind (hb.mono (fun f hf => ?_) fun _ h => h)
    obtain ⟨fl, s2⟩ := f
    obtain ⟨ρ2, hf, hi2⟩ := hf
    have hf : fl = .nx ρ2 := hf
    subst hf
    exact loop_al (fun d hd => h d (List.mem_cons_of_mem _ hd)) hi2
theorem al_for {ei : Ev M (List D)} {g : D → Nv → Option Nv} {body : Sv M} {I : Nv → M.S → Prop} {ds : List D} {s' : M.S} (he : ei (view [] ρ) s = .ret (ds, s')) (hi : I ρ s') (h : ∀ d ∈ ds, ∀ ρ s, I ρ s → ∃ ρ1, g d ρ = some ρ1 ∧ Al (body ρ1 s) (fun f => ∃ ρ2, f.1 = .nx ρ2 ∧ I ρ2 f.2) E) (hk : ∀ ρ2 s2, I ρ2 s2 → P (.nx ρ2, s2)) :
    Al (sFor [] ei g body ρ s) P E := by
  refine .bind (.exs ?_)
  rw [he]
  refine .ret ?_
  rw [frz_nil]
  refine (loop_al h hi).mono (fun f hf => ?_) fun _ h => h
  obtain ⟨fl, s2⟩ := f
  obtain ⟨ρ2, hf, hi2⟩ := hf
  have hf : fl = .nx ρ2 := hf
  subst hf
  exact hk ρ2 s2 hi2
/-- a loop with its list walked, the items gone through in the invariant -/
theorem loop_pre {g : D → Nv → Option Nv} {body : Sv M} {I : List D → Nv → M.S → Prop} : ∀ {ds pre : List D}, (∀ pre' d post, pre ++ ds = pre' ++ d :: post → ∀ ρ s, I pre' ρ s → ∃ ρ1, g d ρ = some ρ1 ∧ Al (body ρ1 s) (fun f => ∃ ρ2, f.1 = .nx ρ2 ∧ I (pre' ++ [d]) ρ2 f.2) E) → ∀ {ρ : Nv} {s : M.S}, I pre ρ s → Al (loopG g body ds ρ s) (fun f => ∃ ρ2, f.1 = .nx ρ2 ∧ I (pre ++ ds) ρ2 f.2) E
  | [], pre, _, ρ, s, hi => .ret ⟨ρ, rfl, by rw [List.append_nil]; exact hi⟩
  | d :: ds, pre, h, ρ, s, hi => by
    obtain ⟨ρ1, e, hb⟩ := h pre d ds rfl ρ s hi
    unfold loopG
    rw [e]
    refine .bind (hb.mono (fun f hf => ?_) fun _ h => h)
    obtain ⟨fl, s2⟩ := f
    obtain ⟨ρ2, hf, hi2⟩ := hf
    have hf : fl = .nx ρ2 := hf
    subst hf
    have := loop_pre (I := I) (ds := ds) (pre := pre ++ [d]) (fun pre' d' post e => h pre' d' post (by rw [← e]; simp)) hi2
    rw [show pre ++ d :: ds = (pre ++ [d]) ++ ds by simp]
    exact this
/-- .. a fold -/
theorem loop_fold {τ : Type} {g : D → Nv → Option Nv} {body : Sv M} (env : τ → Nv) (step : τ → D → τ) : ∀ {ds : List D} {t : τ}, (∀ t, ∀ d ∈ ds, ∃ ρ1, g d (env t) = some ρ1 ∧ body ρ1 s = .ret (.nx (env (step t d)), s)) → loopG g body ds (env t) s = .ret (.nx (env (ds.foldl step t)), s)
  | [], t, _ => rfl
  | d :: ds, t, h => by
    obtain ⟨ρ1, e, hb⟩ := h t d (List.mem_cons_self ..)
    unfold loopG
    rw [e]
    show (body ρ1 s).bind _ = _
    rw [hb]
    exact loop_fold env step fun t d hd => h t d (List.mem_cons_of_mem _ hd)
theorem for_eq {ei : Ev M (List D)} {g : D → Nv → Option Nv} {body : Sv M} {ds : List D} {s' : M.S} (he : ei (view [] ρ) s = .ret (ds, s')) : sFor [] ei g body ρ s = loopG g body ds ρ s' := by
  unfold sFor inF
  rw [he, frz_nil]; rfl
/-- a comprehension without draws -/
theorem lc_eq {g : D → Dv → Option Dv} {et : Ev M Bool} {ee : Ev M D} {ρ : Dv} (p : D → Bool) (f : D → D) : ∀ {ds acc : List D}, (∀ d ∈ ds, ∃ ρ1, g d ρ = some ρ1 ∧ et ρ1 s = .ret (p d, s) ∧ (p d = true → ee ρ1 s = .ret (f d, s))) → acc.length + ds.length ≤ big → lcG g et ee ρ ds acc s = .ret (.fr (.lst (acc ++ (ds.filter p).map f)), s)
  | [], acc, _, _ => by simp [lcG]
  | d :: ds, acc, h, hl => by
    obtain ⟨ρ1, e1, e2, e3⟩ := h d (List.mem_cons_self ..)
    unfold lcG
    rw [e1]
    show ((et ρ1 s).noX.bind _ : Gx M R) = _
    rw [e2]
    simp only [List.length_cons] at hl
    cases hp : p d with
    | false =>
      show lcG g et ee ρ ds acc s = _
      rw [lc_eq p f (fun d hd => h d (List.mem_cons_of_mem _ hd)) (by omega)]
      simp [hp]
    | true =>
      show ((ee ρ1 s).noX.bind _ : Gx M R) = _
      rw [e3 hp]
      show (if acc.length < big then lcG g et ee ρ ds (acc ++ [f d]) s else .bad) = _
      rw [if_pos (by omega), lc_eq p f (fun d hd => h d (List.mem_cons_of_mem _ hd)) (by simp; omega)]
      simp [hp]
theorem elc_eq {vs : List Nat} {ei : Ev M (List D)} {g : D → Dv → Option Dv} {et : Ev M Bool} {ee : Ev M D} {ρ : Dv} {ds : List D} {s' : M.S} (p : D → Bool) (f : D → D) (he : ei ρ s = .ret (ds, s')) (hl : ds.length ≤ big) (h : ∀ d ∈ ds, ∃ ρ1, g d (wipeD vs ρ) = some ρ1 ∧ et ρ1 s' = .ret (p d, s') ∧ (p d = true → ee ρ1 s' = .ret (f d, s'))) :
    eLc vs ei g et ee ρ s = .ret (.fr (.lst ((ds.filter p).map f)), s') := by
  unfold eLc
  rw [he]
  show lcG g et ee (wipeD vs ρ) ds [] s' = _
  rw [lc_eq p f h (by simpa using hl)]; rfl
/-- item by item -/
inductive All2 {α β : Type} (T : α → β → Prop) : List α → List β → Prop
  | nil : All2 T [] []
  | cons {a b l m} (h : T a b) (r : All2 T l m) : All2 T (a :: l) (b :: m)
theorem All2.len {α β : Type} {T : α → β → Prop} : ∀ {l : List α} {m : List β}, All2 T l m → m.length = l.length
  | _, _, .nil => rfl
  | _, _, .cons _ r => by simp [r.len]
theorem All2.each {α β : Type} {T : α → β → Prop} {Q : β → Prop} : ∀ {l : List α} {m : List β}, All2 T l m → (∀ a ∈ l, ∀ b, T a b → Q b) → ∀ b ∈ m, Q b
  | _, _, .nil, _ => fun _ h => by cases h
  | _, _, .cons h r, hq => fun b hb => by
    rcases List.mem_cons.mp hb with e | e
    · subst e; exact hq _ (List.mem_cons_self ..) _ h
    · exact r.each (fun a ha => hq a (List.mem_cons_of_mem _ ha)) b e
/-- .. with draws: each item told by T -/
theorem lc_al {g : D → Dv → Option Dv} {ee : Ev M D} {ρ : Dv} {Ex : Exc × M.S → Prop} (T : D → D → Prop) (J : M.S → Prop) : ∀ {ds acc : List D} {s : M.S}, J s → (∀ d ∈ ds, ∀ s, J s → ∃ ρ1, g d ρ = some ρ1 ∧ Al (ee ρ1 s) (fun r => T d r.1 ∧ J r.2) (fun _ => False)) → acc.length + ds.length ≤ big → Al (lcG g eYes ee ρ ds acc s) (fun r => ∃ ys, r.1 = .fr (.lst (acc ++ ys)) ∧ All2 T ds ys ∧ J r.2) Ex
  | [], acc, s, hj, _, _ => .ret ⟨[], by simp, .nil, hj⟩
  | d :: ds, acc, s, hj, h, hl => by
    obtain ⟨ρ1, e1, e2⟩ := h d (List.mem_cons_self ..) s hj
    unfold lcG
    rw [e1]
    show Al ((ee ρ1 s).noX.bind _) _ _
    simp only [List.length_cons] at hl
    refine Al.bnoX e2 fun y hy => ?_
    show Al (if acc.length < big then lcG g eYes ee ρ ds (acc ++ [y.1]) y.2 else .bad) _ _
    rw [if_pos (by omega)]
    refine (lc_al T J hy.2 (fun d hd => h d (List.mem_cons_of_mem _ hd)) (by simp; omega)).to fun r hr => ?_
    obtain ⟨ys, h1, h2, h3⟩ := hr
    exact ⟨y.1 :: ys, by rw [h1]; simp, .cons hy.1 h2, h3⟩
theorem ecall_eq {n : Nat} {f : List D → M.S → Gx M R} {dfl l l2 : List D} {el : Ev M (List D)} {ρ : Dv} {s s' : M.S} (h : el ρ s = .ret (l, s')) (hn : l2.length = n) (hl : l ++ dfl = l2) : eCall n f dfl el ρ s = f l2 s' := by
  unfold eCall
  rw [h]
  show (if (l ++ dfl).length = n then f (l ++ dfl) s' else .bad) = _
  rw [hl, if_pos hn]
theorem al_call {n : Nat} {f : List D → M.S → Gx M R} {dfl l l2 : List D} {el : Ev M (List D)} {ρ : Dv} {s s' : M.S} {P : R × M.S → Prop} {E : Exc × M.S → Prop} (h : el ρ s = .ret (l, s')) (hn : l2.length = n) (hl : l ++ dfl = l2) (k : Al (f l2 s') P E) : Al (eCall n f dfl el ρ s) P E := by
  rw [ecall_eq h hn hl]; exact k
theorem al_then {ρ : Nv} {s : M.S} {f : Fl × M.S} (hf : f = (.nx ρ, s)) (h : Al (b ρ s) P E) : Al (sThen b f) P E := by
  rw [hf]; exact h
/-- numbers are drawn -/
def PullOk (pull : Dfs M) : Prop := ∀ (n : Nat), 0 < n → n ≤ 1000000 → ∀ s, pull [.obj 0, .int n] s = .draw n fun r => .ret (.sh (.int (r : Nat)), s)
end
theorem pull_bag {K : PySem.W.Frag} {b l : PySem.Addr} {T : List (PySem.Addr × PySem.Str)} {I : IW K} : PullOk (M := bagW K b l T I) pullS := fun n h h2 s => by
  show (if 0 < (n : Int) ∧ (n : Int) < 1073741824 then (.draw (n : Int).toNat fun r => .ret (.sh (.int (r : Nat)), s) : G (Exc × I.S) (R × I.S)) else .bad) = _
  rw [if_pos ⟨by omega, by omega⟩]
  rfl
end VQ

/-! VqX: zip(.., strict=True) over whatever is drawn. -/
namespace ZS
open PySem PySem.Spec PyProof.Rows
/-- a strict zip's object -/
abbrev IsZs (h : Heap) (z TI TO : Addr) (f0 : Value) : Prop := h.get? z = some { cls := .type "zip", dict := none, data := .fields #[f0, .bool false, .bool true, .ref TI, .ref TO], slots := #[] }
section
variable {prog : Program} {w : World} {A : Around} {E : Value → Shared → Prop} {s : Shared}
theorem stop_raised {α : Type} {Q : α → Shared → Prop} (hh : A.handled = none) (hE : ∀ h' e, (∀ c o, s.heap.get? c = some o → h'.get? c = some o) → (∃ o, h'.get? e = some o ∧ o.cls = .type "StopIteration") → E (.ref e) { s with heap := h' }) :
    wpAny (model prog w) A (Builtin.SmallTypes.stopIteration : Sem α) Q E s := by
  unfold Builtin.SmallTypes.stopIteration
  refine wpAny_bind ?_
  simp only [newExc, newTuple]
  refine wpAny_bind (wpAny_newObj_type ?_ (by size_fits))
  refine wpAny_bind (m := firstArgMember _ _) (wpAny_of_eq (a := Value.none) (by first | rfl | (simp only [firstArgMember]; rfl)) ?_)
  refine wpAny_newObj_type ?_ (by size_fits)
  simp only [raiseNew]
  refine wpAny_bind (wpAny_handled ?_)
  rw [hh]
  exact wpAny_bind (wpAny_pure (wpAny_throw (hE _ _ (fun c o x => Heap.get?_push_of_some _ (Heap.get?_push_of_some _ x)) ⟨_, Heap.get?_push_size _ rfl, rfl⟩)))
theorem noe_item {it : Addr} {fp : List Addr} {n i : Nat} {P : Nat → Value → Prop} {St : Nat → Heap → Prop} {Q : Option Value → Shared → Prop} (D : Draws prog w A it fp n P St) (hi : i < n) (st : St i s.heap)
    (h : ∀ x h' tk, P i x → St (i + 1) h' → Heap.SameBut it s.heap h' → Q (some x) { s with heap := h', toks := tk }) : wpAny (model prog w) A (Builtin.SmallTypes.nextOrEnd (.ref it)) Q E s :=
  wpAny_bind (wpAny_attempt (D.item i s _ _ hi st fun x h' tk hP st' sb => wpAny_pure (h x h' tk hP st' sb)))
theorem noe_end {it : Addr} {fp : List Addr} {n : Nat} {P : Nat → Value → Prop} {St : Nat → Heap → Prop} {Q : Option Value → Shared → Prop} (D : Draws prog w A it fp n P St) (st : St n s.heap)
    (h : ∀ h', Heap.ExtBut it s.heap h' → Q none { s with heap := h' }) : wpAny (model prog w) A (Builtin.SmallTypes.nextOrEnd (.ref it)) Q E s :=
  wpAny_bind (wpAny_attempt (D.done s _ _ st fun h' e hk ⟨o, ho, hc⟩ => wpAny_bind (wpAny_isInstance (T := "StopIteration") (b := true) ⟨o, ho, hc⟩ isSubtype_stop (wpAny_pure (h h' hk)))))
theorem zs_item {z TI TO i1 i2 : Addr} {fp1 fp2 : List Addr} {n i : Nat} {P1 P2 : Nat → Value → Prop} {St1 St2 : Nat → Heap → Prop} {a b : Value} {Q : Value → Shared → Prop} (S : ZipSep2 z TI TO i1 i2 fp1 fp2) (D1 : Draws prog w A i1 fp1 n P1 St1) (D2 : Draws prog w A i2 fp2 n P2 St2)
    (hi : i < n) (hz : IsZs s.heap z TI TO .none) (hTI : IsPair s.heap TI (.ref i1) (.ref i2)) (hTO : IsPair s.heap TO a b) (h1 : St1 i s.heap) (h2 : St2 i s.heap)
    (hQ : ∀ x y h' tk, P1 i x → P2 i y → IsZs h' z TI TO (rawInt s.heap.objs.size) → IsPair h' TI (.ref i1) (.ref i2) → IsPair h' TO x y → St1 (i + 1) h' → St2 (i + 1) h' → IsPair h' s.heap.objs.size x y →
      (∀ c o, c ≠ z → c ≠ TO → c ≠ i1 → c ≠ i2 → s.heap.get? c = some o → h'.get? c = some o) → Q (.ref s.heap.objs.size) { s with heap := h', toks := tk }) :
    wpAny (model prog w) A (Builtin.«zip.__next__» ⟨[.ref z], []⟩) (fun fin s' => ∃ v, fin = .done (.ret v) ∧ Q v s') E s := by
  have n1z : i1 ≠ z := fun e => S.zf1 (e ▸ S.mem1)
  have n2z : i2 ≠ z := fun e => S.zf2 (e ▸ S.mem2)
  have n1T : i1 ≠ TO := fun e => S.Tf1 (e ▸ S.mem1)
  have n2T : i2 ≠ TO := fun e => S.Tf2 (e ▸ S.mem2)
  show wpAny _ _ (field (.ref z) 2 >>= _) _ _ _
  refine wpAny_bind (wpAny_field hz rfl (x := .bool true) rfl ?_)
  show wpAny _ _ (field (.ref z) 3 >>= _) _ _ _
  refine wpAny_bind (wpAny_field hz rfl (x := .ref TI) rfl ?_)
  refine wpAny_bind (wpAny_seqItems hTI rfl ?_)
  show wpAny _ _ (Builtin.SmallTypes.ownedTupleIsFree (.ref z) >>= _) _ _ _
  refine wpAny_bind ?_
  unfold Builtin.SmallTypes.ownedTupleIsFree
  refine wpAny_bind (wpAny_field hz rfl (x := .none) rfl (wpAny_pure ?_))
  simp only [if_true]
  refine wpAny_bind (wpAny_rule ?_)
  refine wpAny_bind (wpAny_field hz rfl (x := .ref TO) rfl ?_)
  refine wpAny_bind (wpAny_setField_rec hz (by simp) fun g1 hz1 b1 => ?_)
  replace hz1 : IsZs g1 z TI TO .ellipsis := hz1
  refine wpAny_bind ?_
  simp only [List.zipIdx_cons, List.zipIdx_nil, List.forIn_cons, List.forIn_nil]
  refine wpAny_bind (wpAny_bind (wpAny_onRaise ?_))
  show wpAny _ _ (Builtin.SmallTypes.nextOrEnd (.ref i1)) _ _ _
  have sv : ∀ {fp : List Addr} {j : Nat} {St : Nat → Heap → Prop} {it : Addr} {P : Nat → Value → Prop} (D : Draws prog w A it fp n P St) {g g' : Heap} {d : Addr}, d ∉ fp → Heap.SameBut d g g' → St j g → St j g' := fun {fp j St it P} D {g g' d} hd hb st => D.frame _ _ _ st fun c hc o e => hb.extBut c o (fun x => hd (x ▸ hc)) e
  refine noe_item D1 hi (sv D1 S.zf1 b1 h1) fun x g2 tk1 hx st1 b2 => ?_
  have hTO2 : IsPair g2 TO a b := b2.extBut _ _ (Ne.symm n1T) (b1.extBut _ _ S.TOz hTO)
  refine wpAny_bind (wpAny_seqItems hTO2 rfl ?_)
  refine wpAny_bind (wpAny_updateSeq_pair hTO2 fun g3 hTO3 b3 => ?_)
  replace hTO3 : IsPair g3 TO x b := hTO3
  refine wpAny_bind (wpAny_letGo (wpAny_pure ?_))
  refine wpAny_bind (wpAny_bind (wpAny_onRaise ?_))
  show wpAny _ _ (Builtin.SmallTypes.nextOrEnd (.ref i2)) _ _ _
  refine noe_item D2 hi (sv D2 S.Tf2 b3 (sv D2 S.sep1_2 b2 (sv D2 S.zf2 b1 h2))) fun y g4 tk2 hy st2 b4 => ?_
  have hTO4 : IsPair g4 TO x b := b4.extBut _ _ (Ne.symm n2T) hTO3
  refine wpAny_bind (wpAny_seqItems hTO4 rfl ?_)
  refine wpAny_bind (wpAny_updateSeq_pair hTO4 fun g5 hTO5 b5 => ?_)
  replace hTO5 : IsPair g5 TO x y := hTO5
  refine wpAny_bind (wpAny_letGo (wpAny_pure (wpAny_pure ?_)))
  refine wpAny_bind (wpAny_seqItems hTO5 rfl ?_)
  refine wpAny_bind (wpAny_newTuple ?_)
  have hsz : g5.objs.size = s.heap.objs.size := by rw [b5.1, b4.1, b3.1, b2.1, b1.1]
  have hz5 : IsZs g5 z TI TO .ellipsis := b5.extBut _ _ (Ne.symm S.TOz) (b4.extBut _ _ (Ne.symm n2z) (b3.extBut _ _ (Ne.symm S.TOz) (b2.extBut _ _ (Ne.symm n1z) hz1)))
  have hk5 : ∀ c o, c ≠ z → c ≠ TO → c ≠ i1 → c ≠ i2 → s.heap.get? c = some o → g5.get? c = some o := fun c o c1 c2 c3 c4 e =>
    b5.extBut _ _ c2 (b4.extBut _ _ c4 (b3.extBut _ _ c2 (b2.extBut _ _ c3 (b1.extBut _ _ c1 e))))
  have hzlt : z < g5.objs.size := Heap.lt_size hz5
  show wpAny _ _ (Builtin.SmallTypes.ownedTupleHandOut (.ref z) (.ref g5.objs.size) >>= _) _ _ _
  refine wpAny_bind ?_
  unfold Builtin.SmallTypes.ownedTupleHandOut
  have hz6 : IsZs (g5.push { cls := .type "tuple", data := .seq #[x, y] }) z TI TO .ellipsis := Heap.get?_push_of_some _ hz5
  refine wpAny_bind (wpAny_setField_rec hz6 (by simp) fun g7 hz7 b7 => ?_)
  replace hz7 : IsZs g7 z TI TO (rawInt g5.objs.size) := hz7
  refine wpAny_setField_rec hz7 (by simp) fun g8 hz8 b8 => ?_
  replace hz8 : IsZs g8 z TI TO (rawInt g5.objs.size) := hz8
  have up : ∀ c o, c ≠ z → g5.get? c = some o → g8.get? c = some o := fun c o c1 e => b8.extBut _ _ c1 (b7.extBut _ _ c1 (Heap.get?_push_of_some _ e))
  have hT8 : IsPair g8 g5.objs.size x y := b8.extBut _ _ (Nat.ne_of_gt hzlt) (b7.extBut _ _ (Nat.ne_of_gt hzlt) (Heap.get?_push_size _ rfl))
  have t1 : St1 (i + 1) g8 := D1.frame _ _ _ (sv D1 S.Tf1 b5 (sv D1 S.sep2_1 b4 (sv D1 S.Tf1 b3 st1))) fun c hc o e => up c o (fun q => S.zf1 (q ▸ hc)) e
  have t2 : St2 (i + 1) g8 := D2.frame _ _ _ (sv D2 S.Tf2 b5 st2) fun c hc o e => up c o (fun q => S.zf2 (q ▸ hc)) e
  rw [hsz] at hz8 hT8
  refine wpAny_pure ⟨_, rfl, ?_⟩
  show Q (.ref g5.objs.size) _
  rw [hsz]
  exact hQ x y g8 _ hx hy hz8 (up _ _ S.TIz (hk5 _ _ S.TIz S.TITO S.TIi1 S.TIi2 hTI)) (up _ _ S.TOz hTO5) t1 t2 hT8 fun c o c1 c2 c3 c4 e => up c o c1 (hk5 c o c1 c2 c3 c4 e)
theorem zs_end {z TI TO i1 i2 : Addr} {fp1 fp2 : List Addr} {n : Nat} {P1 P2 : Nat → Value → Prop} {St1 St2 : Nat → Heap → Prop} {a b : Value} {Q : Fin → Shared → Prop} (hh : A.handled = none) (S : ZipSep2 z TI TO i1 i2 fp1 fp2) (D1 : Draws prog w A i1 fp1 n P1 St1) (D2 : Draws prog w A i2 fp2 n P2 St2)
    (hz : IsZs s.heap z TI TO .none) (hTI : IsPair s.heap TI (.ref i1) (.ref i2)) (hTO : IsPair s.heap TO a b) (h1 : St1 n s.heap) (h2 : St2 n s.heap)
    (hE : ∀ h' e, (∀ c o, c ≠ z → c ≠ TO → c ≠ i1 → c ≠ i2 → s.heap.get? c = some o → h'.get? c = some o) → (∃ o, h'.get? e = some o ∧ o.cls = .type "StopIteration") → E (.ref e) { s with heap := h' }) :
    wpAny (model prog w) A (Builtin.«zip.__next__» ⟨[.ref z], []⟩) Q E s := by
  have n1z : i1 ≠ z := fun e => S.zf1 (e ▸ S.mem1)
  show wpAny _ _ (field (.ref z) 2 >>= _) _ _ _
  refine wpAny_bind (wpAny_field hz rfl (x := .bool true) rfl ?_)
  show wpAny _ _ (field (.ref z) 3 >>= _) _ _ _
  refine wpAny_bind (wpAny_field hz rfl (x := .ref TI) rfl ?_)
  refine wpAny_bind (wpAny_seqItems hTI rfl ?_)
  show wpAny _ _ (Builtin.SmallTypes.ownedTupleIsFree (.ref z) >>= _) _ _ _
  refine wpAny_bind ?_
  unfold Builtin.SmallTypes.ownedTupleIsFree
  refine wpAny_bind (wpAny_field hz rfl (x := .none) rfl (wpAny_pure ?_))
  simp only [if_true]
  refine wpAny_bind (wpAny_rule ?_)
  refine wpAny_bind (wpAny_field hz rfl (x := .ref TO) rfl ?_)
  refine wpAny_bind (wpAny_setField_rec hz (by simp) fun g1 hz1 b1 => ?_)
  replace hz1 : IsZs g1 z TI TO .ellipsis := hz1
  refine wpAny_bind ?_
  simp only [List.zipIdx_cons, List.zipIdx_nil, List.forIn_cons, List.forIn_nil]
  refine wpAny_bind (wpAny_bind (wpAny_onRaise ?_))
  show wpAny _ _ (Builtin.SmallTypes.nextOrEnd (.ref i1)) _ _ _
  refine noe_end D1 (D1.frame _ _ _ h1 fun c hc o e => b1.extBut c o (fun x => S.zf1 (x ▸ hc)) e) fun g2 b2 => ?_
  have hz2 : IsZs g2 z TI TO .ellipsis := b2 _ _ (Ne.symm n1z) hz1
  refine wpAny_bind (wpAny_setField_rec hz2 (by simp) fun g3 hz3 b3 => ?_)
  have k3 : ∀ c o, c ≠ z → c ≠ i1 → s.heap.get? c = some o → g3.get? c = some o := fun c o c1 c2 e => b3.extBut _ _ c1 (b2 _ _ c2 (b1.extBut _ _ c1 e))
  have st2 : St2 n g3 := D2.frame _ _ _ h2 fun c hc o e => k3 c o (fun x => S.zf2 (x ▸ hc)) (fun x => S.sep1_2 (x ▸ hc)) e
  refine wpAny_bind ?_
  show wpAny _ _ (forIn [(Value.ref i2, (1 : Nat))] PUnit.unit _ >>= _) _ _ _
  refine wpAny_bind ?_
  simp only [List.forIn_cons, List.forIn_nil]
  refine wpAny_bind ?_
  show wpAny _ _ (Builtin.SmallTypes.nextOrEnd (.ref i2) >>= _) _ _ _
  refine wpAny_bind (noe_end D2 st2 fun g4 b4 => ?_)
  show wpAny _ _ (pure _) _ _ _
  refine wpAny_pure ?_
  refine wpAny_pure ?_
  refine wpAny_bind (wpAny_rule ?_)
  refine stop_raised hh fun g5 e k5 he => ?_
  exact hE g5 e (fun c o c1 c2 c3 c4 x => k5 _ _ (b4 _ _ c4 (k3 c o c1 c3 x))) he
theorem zs_next_item {z TI TO i1 i2 : Addr} {fp1 fp2 : List Addr} {n i : Nat} {P1 P2 : Nat → Value → Prop} {St1 St2 : Nat → Heap → Prop} {a b : Value} {Q : Option Value → Shared → Prop} (S : ZipSep2 z TI TO i1 i2 fp1 fp2) (D1 : Draws prog w A.in1 i1 fp1 n P1 St1) (D2 : Draws prog w A.in1 i2 fp2 n P2 St2)
    (hi : i < n) (hz : IsZs s.heap z TI TO .none) (hTI : IsPair s.heap TI (.ref i1) (.ref i2)) (hTO : IsPair s.heap TO a b) (h1 : St1 i s.heap) (h2 : St2 i s.heap)
    (hQ : ∀ x y h' tk, P1 i x → P2 i y → IsZs h' z TI TO (rawInt s.heap.objs.size) → IsPair h' TI (.ref i1) (.ref i2) → IsPair h' TO x y → St1 (i + 1) h' → St2 (i + 1) h' → IsPair h' s.heap.objs.size x y →
      (∀ c o, c ≠ z → c ≠ TO → c ≠ i1 → c ≠ i2 → s.heap.get? c = some o → h'.get? c = some o) → Q (some (.ref s.heap.objs.size)) { s with heap := h', toks := tk }) :
    wpAny (model prog w) A (pyNext (.ref z)) Q E s := by
  have hT : s.TypeIs (.ref z) "zip" := ⟨_, hz, rfl⟩
  unfold pyNext
  exact wpAny_bind (wpAny_attempt (wpAny_callSpecial?_slot (name := Str.ofString "__next__") hT F.slot_zip_next
    (wpAny_call_entry F.slot_zip_next hT F.entry_zip_next (zs_item S D1 D2 hi hz hTI hTO h1 h2 fun x y h' tk a1 a2 a3 a4 a5 a6 a7 a8 a9 => wpAny_pure (hQ x y h' tk a1 a2 a3 a4 a5 a6 a7 a8 a9)) (F.args_zip_next_1 _))))
theorem zs_next_end {z TI TO i1 i2 : Addr} {fp1 fp2 : List Addr} {n : Nat} {P1 P2 : Nat → Value → Prop} {St1 St2 : Nat → Heap → Prop} {a b : Value} {Q : Option Value → Shared → Prop} (hh : A.handled = none) (S : ZipSep2 z TI TO i1 i2 fp1 fp2) (D1 : Draws prog w A.in1 i1 fp1 n P1 St1) (D2 : Draws prog w A.in1 i2 fp2 n P2 St2)
    (hz : IsZs s.heap z TI TO .none) (hTI : IsPair s.heap TI (.ref i1) (.ref i2)) (hTO : IsPair s.heap TO a b) (h1 : St1 n s.heap) (h2 : St2 n s.heap)
    (hQ : ∀ h', (∀ c o, c ≠ z → c ≠ TO → c ≠ i1 → c ≠ i2 → s.heap.get? c = some o → h'.get? c = some o) → Q none { s with heap := h' }) : wpAny (model prog w) A (pyNext (.ref z)) Q E s := by
  have hT : s.TypeIs (.ref z) "zip" := ⟨_, hz, rfl⟩
  unfold pyNext
  refine wpAny_bind (wpAny_attempt (wpAny_callSpecial?_slot (name := Str.ofString "__next__") hT F.slot_zip_next
    (wpAny_call_entry F.slot_zip_next hT F.entry_zip_next (zs_end hh S D1 D2 hz hTI hTO h1 h2 fun h' e hk he => ?_) (F.args_zip_next_1 _))))
  obtain ⟨o, ho, hc⟩ := he
  exact wpAny_bind (wpAny_isInstance (T := "StopIteration") (b := true) ⟨o, ho, hc⟩ isSubtype_stop (wpAny_pure (hQ _ hk)))
theorem zs_letgo {elts : List Expr} {x1} {pos : Pos} {z TI TO T : Addr} {Q : Unit → Shared → Prop} (hz : IsZs s.heap z TI TO (rawInt T)) (hQ : ∀ h', IsZs h' z TI TO .none → Heap.SameBut z s.heap h' → Q () { s with heap := h' }) :
    wpAny (model prog w) A (letOwnedTupleGo (.Tuple elts x1 pos) (.ref z) (.ref T)) Q E s := by
  unfold letOwnedTupleGo
  refine wpAny_bind (wpAny_load hz ?_)
  show wpAny _ _ (if (["enumerate", "zip", "dict_itemiterator", "dict_reverseitemiterator", "odict_iterator", "itertools.zip_longest", "itertools.pairwise"].contains "zip" &&
      (#[rawInt T, .bool false, .bool true, .ref TI, .ref TO] : Array Value)[0]? == some (rawInt T)) = true then _ else _) Q E s
  rw [if_pos (by simp)]
  exact wpAny_bind (wpAny_rule (wpAny_setField_rec hz (by simp) hQ))
theorem zs_iter {z TI TO : Addr} {f0 : Value} {Q : Value → Shared → Prop} (hz : IsZs s.heap z TI TO f0) (h : Q (.ref z) s) : wpAny (model prog w) A (pyIter (.ref z)) Q E s := by
  have hT : s.TypeIs (.ref z) "zip" := ⟨_, hz, rfl⟩
  refine wpAny_pyIter_slot hT F.slot_zip_iter (wpAny_call_entry F.slot_zip_iter hT F.entry_zip_iter ?_ (F.args_zip_iter_1 _))
  show wpAny _ _ (ret (.ref z)) _ _ s
  exact wpAny_pure ⟨_, rfl, "zip", _, hT, F.slot_zip_next.lookup, h⟩
end
/-! ### it begins -/
theorem ct_zs (a b : Value) : checkTypeCall "zip" ⟨[a, b], [(Str.ofString "strict", .bool true)]⟩ = pure () := by kernel_rfl
theorem cn_zs (a b : Value) : checkBuiltinCall "zip.__new__" ⟨[.type "zip", a, b], [(Str.ofString "strict", .bool true)]⟩ = pure () := by kernel_rfl
theorem ai_zs (obj a b : Value) : argsOk "object.__init__" ⟨[obj, a, b], [(Str.ofString "strict", .bool true)]⟩ := by unfold argsOk; kernel_rfl
abbrev zsZ (h : Heap) (o1 o2 : Obj) : Heap := (gzO2 h o1 o2).push { cls := .type "zip", data := .fields #[.none, .bool false, .bool true, .ref ((h.push o1).push o2).objs.size, .ref (gzT2 h o1 o2).objs.size] }
theorem zs_new {v1 v2 : Value} {o1 o2 : Obj} {H1 H2 : Heap → Prop} (B1 : Begins v1 o1 H1) (B2 : Begins v2 o2 H2) :
    Meets (Builtin.«zip.__new__» ⟨[.type "zip", v1, v2], [(Str.ofString "strict", .bool true)]⟩) (fun _ R s => (H1 s.heap ∧ H2 s.heap) ∧ R (.ok (.ret (.ref (gzO2 s.heap o1 o2).objs.size))) { s with heap := zsZ s.heap o1 o2 }) := .of_wp fun prog w A R s h => by
  obtain ⟨hp, g, d, tk, os⟩ := s
  obtain ⟨⟨h1, h2⟩, h⟩ := h
  have hsub := sub_zip
  have q1 : ∀ {A' : Around} {E : Value → Shared → Prop} {Q : Value → Shared → Prop}, Q (.ref hp.objs.size) ⟨(hp.push o1), g, d, tk, os⟩ → wpAny (model prog w) A' (pyIter v1) Q E ⟨hp, g, d, tk, os⟩ := fun q => B1.iter prog w _ _ ⟨hp, g, d, tk, os⟩ _ (B1.keeps _ _ h1 fun b o' e => e) q
  have q2 : ∀ {A' : Around} {E : Value → Shared → Prop} {Q : Value → Shared → Prop}, Q (.ref (hp.push o1).objs.size) ⟨((hp.push o1).push o2), g, d, tk, os⟩ → wpAny (model prog w) A' (pyIter v2) Q E ⟨(hp.push o1), g, d, tk, os⟩ := fun q => B2.iter prog w _ _ ⟨(hp.push o1), g, d, tk, os⟩ _ (B2.keeps _ _ h2 fun b o' e => (Heap.get?_push_of_some _ e)) q
  have e1 : (Str.ofString "strict" == ("strict" : Str)) = true := by decide +kernel
  have e2 : (Str.ofString "strict" != ("strict" : Str)) = false := by decide +kernel
  have e4 : (("strict" : Str) == Str.ofString "strict") = true := by decide +kernel
  wp_walk using q1, q2
  exact ⟨_, rfl, h⟩
section
variable {prog : Program} {w : World} {A : Around} {E : Value → Shared → Prop} {s : Shared}
theorem zs_begins {v1 v2 : Value} {o1 o2 : Obj} {H1 H2 : Heap → Prop} {Q : Value → Shared → Prop} (B1 : Begins v1 o1 H1) (B2 : Begins v2 o2 H2) (h1 : H1 s.heap) (h2 : H2 s.heap)
    (h : ∀ h', IsZs h' (s.heap.objs.size + 4) (s.heap.objs.size + 2) (s.heap.objs.size + 3) .none → IsPair h' (s.heap.objs.size + 2) (.ref s.heap.objs.size) (.ref (s.heap.objs.size + 1)) →
      IsPair h' (s.heap.objs.size + 3) .none .none → h'.get? s.heap.objs.size = some o1 → h'.get? (s.heap.objs.size + 1) = some o2 → (∀ c o, s.heap.get? c = some o → h'.get? c = some o) → Q (.ref (s.heap.objs.size + 4)) { s with heap := h' }) :
    wpAny (model prog w) A (call (.type "zip") [v1, v2] [(Str.ofString "strict", .bool true)]) Q E s := by
  refine callType_newKw F.called_zip (by decide) (ct_zs _ _) (cn_zs _ _) (fun obj => ai_zs obj _ _) F.entry_zip_new (zs_new B1 B2) ⟨⟨h1, h2⟩, ?_⟩
  have z1 : (s.heap.push o1).objs.size = s.heap.objs.size + 1 := by rw [Heap.size_push]
  have z2 : ((s.heap.push o1).push o2).objs.size = s.heap.objs.size + 2 := by rw [Heap.size_push, z1]
  have z3 : (gzT2 s.heap o1 o2).objs.size = s.heap.objs.size + 3 := by rw [Heap.size_push, z2]
  have z4 : (gzO2 s.heap o1 o2).objs.size = s.heap.objs.size + 4 := by rw [Heap.size_push, z3]
  have p5 : ∀ {c o}, (gzO2 s.heap o1 o2).get? c = some o → (zsZ s.heap o1 o2).get? c = some o := fun e => Heap.get?_push_of_some _ e
  have p4 : ∀ {c o}, (gzT2 s.heap o1 o2).get? c = some o → (zsZ s.heap o1 o2).get? c = some o := fun e => p5 (Heap.get?_push_of_some _ e)
  have p3 : ∀ {c o}, ((s.heap.push o1).push o2).get? c = some o → (zsZ s.heap o1 o2).get? c = some o := fun e => p4 (Heap.get?_push_of_some _ e)
  have p2 : ∀ {c o}, (s.heap.push o1).get? c = some o → (zsZ s.heap o1 o2).get? c = some o := fun e => p3 (Heap.get?_push_of_some _ e)
  have e5 : (zsZ s.heap o1 o2).get? (gzO2 s.heap o1 o2).objs.size = some _ := Heap.get?_push_size _ rfl
  have e4 : (zsZ s.heap o1 o2).get? (gzT2 s.heap o1 o2).objs.size = some _ := p5 (Heap.get?_push_size _ rfl)
  have e3 : (zsZ s.heap o1 o2).get? ((s.heap.push o1).push o2).objs.size = some _ := p4 (Heap.get?_push_size _ rfl)
  have e2 : (zsZ s.heap o1 o2).get? (s.heap.push o1).objs.size = some o2 := p3 (Heap.get?_push_size _ B2.free)
  have e1 : (zsZ s.heap o1 o2).get? s.heap.objs.size = some o1 := p2 (Heap.get?_push_size _ B1.free)
  rw [z4, z3, z2] at e5
  rw [z3] at e4
  rw [z2, z1] at e3
  rw [z1] at e2
  show _ ∧ _
  rw [z4]
  exact ⟨⟨_, e5, rfl⟩, h _ e5 e3 e4 e1 e2 fun c o x => p2 (Heap.get?_push_of_some _ x)⟩
end
end ZS

/-! VqY: for a, b in zip(x, y, strict=True), x and y lists or tuples. -/
namespace VQ
open PySem PySem.Spec PyProof.Rows L2 ZS
/-- a list (k) or a tuple -/
def SqK (K : PySem.W.Frag) (k : Bool) (H : Hp) (a : Addr) (xs : List V) : Prop := match k with
  | true => SqL K H a xs
  | false => SqT K H a xs
def IsK (k : Bool) (h : Heap) (a : Addr) (its : Array Value) : Prop := match k with
  | true => h.IsList a its
  | false => h.IsTuple a its
def ItrK (k : Bool) (h : Heap) (it a : Addr) (i : Nat) : Prop := match k with
  | true => h.IsListIter it a i
  | false => h.IsTupleIter it a i
def objK (k : Bool) (a : Addr) : Obj := match k with
  | true => { cls := .type "list_iterator", data := .fields #[.ref a, .int 0 0] }
  | false => { cls := .type "tuple_iterator", data := .fields #[.ref a, .int 0 0] }
theorem ItrK.keep {k : Bool} {h h' : Heap} {it a : Addr} {i : Nat} (st : ItrK k h it a i) (hk : ∀ o, h.get? it = some o → h'.get? it = some o) : ItrK k h' it a i := by
  cases k with
  | false => exact Heap.IsTupleIter.at st hk
  | true => exact Heap.IsListIter.at st hk
theorem drawsK (k : Bool) {prog : Program} {w : World} {A : Around} (hh : A.handled = none) (it l : Addr) (hne : l ≠ it) (items : Array Value) : Draws prog w A it [it, l] items.size (fun i v => items[i]? = some v) (fun i h => ItrK k h it l i ∧ IsK k h l items) := by
  cases k
  · exact Draws.tuple hh it l hne items
  · exact Draws.list hh it l hne items
theorem invK {X : Cx} {pins : List (Addr × Obj)} {σ : L2.St} {H : Hp} {s : Shared} {a : Addr} {xs : List V} (k : Bool) (I : L2.Inv X pins σ H s) (h : SqK X.K k H a xs) : ∃ its : List Value, Vals xs its ∧ IsK k s.heap a its.toArray ∧ a < s.heap.objs.size := by
  cases k
  · obtain ⟨its, rv, p, _⟩ := I.tuple h
    obtain ⟨o, ho, _⟩ := id p
    exact ⟨its, rv, p, Heap.lt_size ho⟩
  · obtain ⟨its, rv, p, _⟩ := I.list h
    exact ⟨its, rv, p.isList, p.lt⟩
theorem sqK_inj {X : Cx} {pins : List (Addr × Obj)} {σ : L2.St} {H : Hp} {s : Shared} {a : Addr} {xs ys : List V} (k : Bool) (I : L2.Inv X pins σ H s) (h : SqK X.K k H a xs) (h' : SqK X.K k H a ys) : xs = ys := by
  cases k
  · exact I.tuple_inj h h'
  · exact I.list_inj h h'
theorem itrK_obj {k : Bool} {h : Heap} {it a : Addr} {i : Nat} (st : ItrK k h it a i) : ∃ o, h.get? it = some o ∧ ∀ v, o.data ≠ .cell v := by
  cases k <;> obtain ⟨o, e, _, d⟩ := st <;> exact ⟨o, e, fun v q => by rw [d] at q; cases q⟩
def Itzs (K : PySem.W.Frag) (k1 k2 : Bool) (a b : Addr) : It :=
  ⟨fun i H => ∃ (xs ys : List V), SqK K k1 H a xs ∧ SqK K k2 H b ys ∧ xs.length = ys.length ∧ i < xs.length,
    fun i H v H' => ∃ T x y, v = .ref T ∧ H T = none ∧ H' = upd H T (.tup [x, y]) ∧ (∀ xs, SqK K k1 H a xs → xs[i]? = some x) ∧ ∀ ys, SqK K k2 H b ys → ys[i]? = some y,
    fun i H => ∃ xs ys : List V, SqK K k1 H a xs ∧ SqK K k2 H b ys ∧ xs.length = i ∧ ys.length = i⟩
theorem turn_zs {P : Program} {w : World} {K : PySem.W.Frag} {elts : List Expr} {kk : Nat} {tpos : Pos} {k1 k2 : Bool} {a b z TI TO i1 i2 : Addr} (S : ZipSep2 z TI TO i1 i2 [i1, a] [i2, b]) (ne1 : a ≠ i1) (ne2 : b ≠ i2) :
    Turn P w K (.Tuple elts kk tpos) (Itzs K k1 k2 a b) [z, TI, TO, i1, i2] z (fun i h => IsZs h z TI TO .none ∧ IsPair h TI (.ref i1) (.ref i2) ∧ (∃ x y, IsPair h TO x y) ∧ ItrK k1 h i1 a i ∧ ItrK k2 h i2 b i) where
  mem := by simp
  obj := fun i h st c hc => by
    obtain ⟨hz, hTI, ⟨x, y, hTO⟩, h1, h2⟩ := st
    simp only [List.mem_cons, List.not_mem_nil, or_false] at hc
    rcases hc with q | q | q | q | q
    · rw [q]; exact ⟨_, hz, fun v q => nomatch q⟩
    · rw [q]; exact ⟨_, hTI, fun v q => nomatch q⟩
    · rw [q]; exact ⟨_, hTO, fun v q => nomatch q⟩
    · rw [q]; exact itrK_obj h1
    · rw [q]; exact itrK_obj h2
  keep := fun i h h' st k => by
    obtain ⟨hz, hTI, ⟨x, y, hTO⟩, h1, h2⟩ := st
    exact ⟨k z (by simp) _ hz, k TI (by simp) _ hTI, ⟨x, y, k TO (by simp) _ hTO⟩, h1.keep fun o q => k i1 (by simp) o q, h2.keep fun o q => k i2 (by simp) o q⟩
  item := by
    intro X hP hw hK hc i pins s σ H E I hf st hg
    subst hP hw hK
    obtain ⟨hz, hTI, ⟨x0, y0, hTO⟩, h1, h2⟩ := st
    obtain ⟨xs, ys, qx, qy, hlen, hi⟩ := hg
    obtain ⟨its, rv, p, pl⟩ := invK k1 I qx
    obtain ⟨its2, rv2, p2, pl2⟩ := invK k2 I qy
    have l1 := rv.length
    have l2 := rv2.length
    have hh : X.A.in1.handled = none := I.ok.hd hc
    have hs2 : its2.toArray.size = its.toArray.size := by simp; omega
    have D1 := drawsK k1 (prog := X.prog) (w := X.w) hh i1 a ne1 its.toArray
    have D2 := drawsK k2 (prog := X.prog) (w := X.w) hh i2 b ne2 its2.toArray
    rw [hs2] at D2
    have hzl : z < s.heap.objs.size := Heap.lt_size hz
    refine zs_next_item S D1 D2 (by simp; omega) hz hTI hTO ⟨h1, p⟩ ⟨h2, p2⟩ fun u u2 h' tk hu hu2 a1 a2 a3 a4 a5 a6 a7 => ⟨_, rfl, zs_letgo (s := { s with heap := h', toks := tk }) a1 fun h'' z'' sb => ?_⟩
    obtain ⟨x, hx⟩ : ∃ x, xs[i]? = some x := ⟨xs[i], by simp [hi]⟩
    obtain ⟨y, hy⟩ : ∃ y, ys[i]? = some y := ⟨ys[i]'(by omega), by simp [show i < ys.length by omega]⟩
    obtain ⟨v, hv, rx⟩ := rv.get hx
    obtain ⟨v2, hv2, ry⟩ := rv2.get hy
    have eu : u = v := by simpa [hv] using hu.symm
    have eu2 : u2 = v2 := by simpa [hv2] using hu2.symm
    subst eu eu2
    have hT2 : h''.get? s.heap.objs.size = some { cls := .type "tuple", data := .seq #[u, u2] } := (sb.2 _ (Nat.ne_of_gt hzl)).trans a6
    have new : ObjOk X.prog X.w (upd H s.heap.objs.size (.tup [x, y])) h'' s.heap.objs.size (.tup [x, y]) := ⟨by show 2 ≤ sizeLine; decide, [u, u2], .cons rx (.cons ry .nil), ⟨_, hT2, rfl, _, rfl⟩⟩
    have I1 : L2.Inv X pins σ (upd H s.heap.objs.size (.tup [x, y])) { s with heap := h'', toks := tk } :=
      I.turnedNew (t' := tk) (ch := [z, TI, TO, i1, i2]) (fun c o hb q => (sb.2 c (fun q' => hb (by simp [q']))).trans (a7 c o (fun q' => hb (by simp [q'])) (fun q' => hb (by simp [q'])) (fun q' => hb (by simp [q'])) (fun q' => hb (by simp [q'])) q)) hf (Nat.le_refl _) new
    refine ⟨.ref s.heap.objs.size, _, I1, rfl, ⟨_, x, y, rfl, I.hok.fresh (Nat.le_refl _), rfl, fun l hl => by rw [sqK_inj k1 I hl qx]; exact hx, fun l hl => by rw [sqK_inj k2 I hl qy]; exact hy⟩, ⟨z'', ?_, ⟨u, u2, ?_⟩, ?_, ?_⟩, fun c hcm => ?_⟩
    · exact (sb.2 _ S.TIz).trans a2
    · exact (sb.2 _ S.TOz).trans a3
    · exact a4.1.keep fun o q => (sb.2 _ (fun e => S.zf1 (e ▸ S.mem1))).trans q
    · exact a5.1.keep fun o q => (sb.2 _ (fun e => S.zf2 (e ▸ S.mem2))).trans q
    · have hlt : c < s.heap.objs.size := by
        obtain ⟨o1, e1, _⟩ := itrK_obj h1
        obtain ⟨o2, e2, _⟩ := itrK_obj h2
        simp only [List.mem_cons, List.not_mem_nil, or_false] at hcm
        rcases hcm with q | q | q | q | q
        · rw [q]; exact hzl
        · rw [q]; exact Heap.lt_size hTI
        · rw [q]; exact Heap.lt_size hTO
        · rw [q]; exact Heap.lt_size e1
        · rw [q]; exact Heap.lt_size e2
      rw [upd_ne (Nat.ne_of_lt hlt)]
      exact (hf c hcm).1
  done := by
    intro X hP hw hK hc i pins s σ H E I hf st hg
    subst hP hw hK
    obtain ⟨hz, hTI, ⟨x0, y0, hTO⟩, h1, h2⟩ := st
    obtain ⟨xs, ys, qx, qy, e1, e2⟩ := hg
    obtain ⟨its, rv, p, _⟩ := invK k1 I qx
    obtain ⟨its2, rv2, p2, _⟩ := invK k2 I qy
    have l1 := rv.length
    have l2 := rv2.length
    have hh : X.A.in1.handled = none := I.ok.hd hc
    have D1 := drawsK k1 (prog := X.prog) (w := X.w) hh i1 a ne1 its.toArray
    have D2 := drawsK k2 (prog := X.prog) (w := X.w) hh i2 b ne2 its2.toArray
    have z1 : its.toArray.size = i := by simp; omega
    have z2 : its2.toArray.size = i := by simp; omega
    rw [z1] at D1
    rw [z2] at D2
    exact zs_next_end (I.ok.hd hc) S D1 D2 hz hTI hTO ⟨h1, p⟩ ⟨h2, p2⟩ fun h' hk => ⟨rfl, I.turnedL (t' := s.toks) (ch := [z, TI, TO, i1, i2]) (fun c o hb q => hk c o (fun q' => hb (by simp [q'])) (fun q' => hb (by simp [q'])) (fun q' => hb (by simp [q'])) (fun q' => hb (by simp [q'])) q) hf⟩
  self := fun A i s Q E st h => zs_iter st.1 h
/-! ### zip(x, y, strict=True) walked -/
def ownK (k : Bool) (K : PySem.W.Frag) (H : Hp) (a : Addr) (xs : List V) : Prop := SqK K k H a xs
theorem beginsK (k : Bool) (a : Addr) (its : Array Value) : Begins (.ref a) (objK k a) (fun h => IsK k h a its) := by
  cases k
  · exact begins_tuple a its
  · exact begins_list a its
theorem itrK_new (k : Bool) {h : Heap} {it a : Addr} (e : h.get? it = some (objK k a)) : ItrK k h it a 0 := by
  cases k
  · exact ⟨_, e, rfl, rfl⟩
  · exact ⟨_, e, rfl, rfl⟩
def iZs (K : PySem.W.Frag) (ta : TA) : TI := fun σ H R => ta σ H fun vs H1 => ∃ a b k1 k2 xs ys, vs = [.ref a, .ref b] ∧ SqK K k1 H1 a xs ∧ SqK K k2 H1 b ys ∧ xs.length = ys.length ∧ R (Itzs K k1 k2 a b) H1
theorem callWith_tkw {M : Model} {A : Around} {E : Value → Shared → Prop} {s : Shared} {pos : Pos} {T : String} {x : Sem Value} {rest : List (Bool × Sem Value)} {kws : List (Option Str × Sem Value)} {Q : Value → Shared → Prop} (hplain : ((false, x) :: rest).any (·.1) = false) (hall : kws.all (·.1.isSome) = true) (hkw : kws.any (·.1.isNone) = false)
    (h : wpAny M A (spliced ((false, x) :: rest)) (fun vs s₁ => wpAny M A (evalAll (kws.map (·.2))) (fun kvs s₂ => wpAny M A (call (.type T) vs ((kws.filterMap (·.1)).zip kvs)) Q E s₂) E s₁) E s) : wpAny M A (callWith pos (.type T) [] ((false, x) :: rest) kws) Q E s := by
  unfold callWith
  refine wpAny_bind (wpAny_holding (wpAny_mono (evalArgs_kwB (Q := fun a s₁ => wpAny M A (call (.type T) ([] ++ a.pos) a.kw) Q E s₁) hall h) (fun a s₁ h₁ => wpAny_bind (wpAny_standAt ?_)) fun _ _ x => x))
  simp only [hplain, hkw, Bool.or_false]
  refine wpAny_bind (wpAny_pure ?_)
  exact wpAny_bind (wpAny_mono h₁ (fun r s₂ hr => wpAny_bind (wpAny_holding (wpAny_point (wpAny_pure hr)))) fun _ _ x => x)
theorem pi_zs {X : Cx} {e e2 : Expr} {ta : TA} {p pos kp tpos : Pos} {j : Nat} {cp : Pos} {elts : List Expr} {kk : Nat} (hm : X.mg "zip" = none) (ha : PA X [e, e2] ta) (hg : Gl X "zip" := by rfl)
    (hs : starEach [e, e2] X.env = (false, eval e X.env) :: starEach [e2] X.env := by rfl) (hpl : (backTo pos (starEach [e2] X.env)).any (·.1) = false := by rfl) :
    PI X (.Tuple elts kk tpos) (.Call (.Name "zip" p) [e, e2] [⟨some "strict", .Constant (.bool true) j cp, kp⟩] pos) (iZs X.K ta) := by
  refine ⟨fun pins s σ H R I h => ?_⟩
  have hb : backTo pos (starEach [e, e2] X.env) = (false, eval e X.env) :: backTo pos (starEach [e2] X.env) := by rw [hs]; rfl
  refine wpAny_Call_Name_kw (ld_blt I hg hm boot_zip ?_)
  rw [hb]
  refine callWith_tkw (by show (false || (backTo pos (starEach [e2] X.env)).any (·.1)) = false; rw [hpl]; rfl) rfl rfl ?_
  rw [← hb]
  refine thn (ha.run pos pins s σ H _ I h) fun us s1 ⟨vs, H1, I1, r1, q1⟩ => ?_
  obtain ⟨a, b, k1, k2, xs, ys, ex, hqx, hqy, hlen, q⟩ := q1
  subst ex
  refine thn ((pk_cons (nm := some "strict") (kpos := kp) (pe_bl (b := true) (j := j) (pos := cp)) pk_nil).run pos pins s1 σ H1 (fun ws H2 => ws = [.bl true] ∧ H2 = H1) I1 ⟨rfl, rfl⟩) fun ks s2 ⟨ws, H2, I2, r2, e1, e2⟩ => ?_
  subst e1 e2
  cases r2 with
  | cons ra rb =>
    cases rb
    cases ra
    cases r1 with
    | cons r rr =>
      cases rr with
      | cons r' rr =>
        cases rr
        cases r
        cases r'
        obtain ⟨its, rv, p1, la⟩ := invK k1 I2 hqx
        obtain ⟨its2, rv2, p2, lb⟩ := invK k2 I2 hqy
        refine zs_begins (beginsK k1 a its.toArray) (beginsK k2 b its2.toArray) p1 p2 fun h' hz hTI hTO h1 h2 hk => zs_iter hz ?_
        have I3 : L2.Inv X pins σ H2 { s2 with heap := h' } := I2.kept (t' := s2.toks) hk
        refine ⟨s2.heap.objs.size + 4, [s2.heap.objs.size + 4, s2.heap.objs.size + 2, s2.heap.objs.size + 3, s2.heap.objs.size, s2.heap.objs.size + 1], _, _, H2, rfl, I3, turn_zs (PySem.zip_sep2 (fun c hc => by rw [List.mem_singleton.mp hc]; exact la) (fun c hc => by rw [List.mem_singleton.mp hc]; exact lb)) (Nat.ne_of_lt la) (Nat.ne_of_lt (Nat.lt_succ_of_lt lb)), ⟨hz, hTI, ⟨_, _, hTO⟩, itrK_new k1 h1, itrK_new k2 h2⟩, fun c hcm => ?_, q⟩
        have hle : s2.heap.objs.size ≤ c := by
          have e' : c = s2.heap.objs.size + 4 ∨ c = s2.heap.objs.size + 2 ∨ c = s2.heap.objs.size + 3 ∨ c = s2.heap.objs.size ∨ c = s2.heap.objs.size + 1 := by simpa using hcm
          rcases e' with z | z | z | z | z <;> rw [z] <;> first | exact Nat.le_add_right _ _ | exact Nat.le_refl _
        exact I2.fpOk hle (I2.hok.fresh hle)
section
variable {X : Cx} {M : WM X.K} {W : WX} {a b : Expr} {ea eb : Ev M D}
/-- what a zip with strict hands over -/
def seqL : D → Option (List D)
  | .lst l => some l
  | .tup l => some l
  | _ => none
def zipS (x y : D) : Option (List D) := match seqL x, seqL y with
  | some l, some m => if l.length = m.length then some (zipT l m) else none
  | _, _ => none
theorem seqL_at {q : Pt M} (ok : q.Ok) {d : D} {x : V} {l : List D} (z : seqL d = some l) (h : Den X.K q.ad q.Hv d x) : ∃ k a vs, x = .ref a ∧ SqK X.K k q.H a vs ∧ DenL X.K q.ad q.Hv l vs ∧ ∀ H', Same q.Hv H' → SqK X.K k H' a vs := by
  cases d <;> first | (cases z; done) | skip
  · cases z
    obtain ⟨a, vs, rfl, a1, a2⟩ := h
    exact ⟨false, a, vs, rfl, sqT_H ok a1, a2, fun H' sm => sqT_same sm a1⟩
  · cases z
    obtain ⟨a, vs, rfl, a1, a2⟩ := h
    exact ⟨true, a, vs, rfl, SqL.of (ok.view _ _ a1), a2, fun H' sm => SqL.of (sm _ _ a1)⟩
theorem it_zipS {p pos kp cp tpos : Pos} {j : Nat} {elts : List Expr} {kk : Nat} (hm : X.mg "zip" = none) (ha : PE X a (tD M X.mg W ea)) (hb : PE X b (tD M X.mg W eb)) (hg : Gl X "zip" := by rfl)
    (hs : starEach [a, b] X.env = (false, eval a X.env) :: starEach [b] X.env := by rfl) (hs2 : starEach [b] X.env = (false, eval b X.env) :: starEach [] X.env := by rfl) (hpl : (backTo pos (starEach [b] X.env)).any (·.1) = false := by rfl) :
    PI X (.Tuple elts kk tpos) (.Call (.Name "zip" p) [a, b] [⟨some "strict", .Constant (.bool true) j cp, kp⟩] pos) (tIt M W (eI2 zipS ea eb)) := (pi_zs hm (pa_cons ha (pa_cons hb pa_nil hs2) hs) hg hs hpl).con fun σ H R ⟨ρ, p, hH, ok, en, q⟩ => by
  subst hH
  show tD M X.mg W ea σ p.H fun x H1 => tD M X.mg W eb σ H1 fun y H2 => ∃ a b k1 k2 xs ys, [x, y] = [.ref a, .ref b] ∧ SqK X.K k1 H2 a xs ∧ SqK X.K k2 H2 b ys ∧ xs.length = ys.length ∧ R (Itzs X.K k1 k2 a b) H2
  refine tG.seq ok en q fun r1 x q1 ex1 ok1 es1 dx h1 => ?_
  rw [← es1] at h1
  refine tG.seq ok1 (en.ext ex1) (XEnds ex1 h1 fun _ h => h) fun r2 y q2 ex2 ok2 es2 dy h2 => ?_
  obtain ⟨d, s1⟩ := r1
  obtain ⟨e, s2⟩ := r2
  have dx2 := ex2.den dx
  cases z : zipS d e with
  | none => simp only [op, z] at h2; exact h2.elim
  | some items =>
    simp only [op, z] at h2
    unfold zipS at z
    cases zl : seqL d with
    | none => rw [zl] at z; cases z
    | some l =>
      rw [zl] at z
      cases zm : seqL e with
      | none => rw [zm] at z; cases z
      | some m =>
        rw [zm] at z
        dsimp only at z
        split at z
        · rename_i hlen
          cases z
          obtain ⟨k1, a, vs, rfl, a1, a2, a3⟩ := seqL_at ok2 zl dx2
          obtain ⟨k2, b, ws, rfl, b1, b2, b3⟩ := seqL_at ok2 zm dy
          have hl : vs.length = ws.length := by rw [a2.length, b2.length]; exact hlen
          refine ⟨a, b, k1, k2, vs, ws, rfl, a1, b1, hl, h2 _ q2 (ex1.trans ex2) ok2 es2 fun H' sm => ?_⟩
          refine ⟨fun i hi => ?_, fun i y hy => ?_⟩
          · exact ⟨vs, ws, a3 H' sm, b3 H' sm, by rw [a2.length]; rw [zipT_len] at hi; omega, by rw [b2.length]; rw [zipT_len] at hi; omega⟩
          · obtain ⟨d, e, g1, g2, rfl⟩ := zipT_get _ _ _ _ hy
            obtain ⟨v, g3, g4⟩ := a2.get g1
            obtain ⟨w, g5, g6⟩ := b2.get g2
            have hi : i < vs.length := (List.getElem?_eq_some_iff.mp g3).1
            refine ⟨⟨vs, ws, a3 H' sm, b3 H' sm, hl, hi⟩, fun x H2 ⟨T, x', y', e1, e2, e3, e4, e5⟩ => .inr <| .inl ⟨T, _, _, e2, e1, e3, rfl, ?_⟩⟩
            have t1 := e4 vs (a3 H' sm)
            have t2 := e5 ws (b3 H' sm)
            rw [g3] at t1; cases t1
            rw [g5] at t2; cases t2
            exact ⟨_, _, rfl, g4, DenL.one g6⟩
        · cases z
end
end VQ

/-! printed by vg.py from the law's text: readings of its defs, shared. -/
namespace VK
open PySem PySem.Spec PyProof.Rows L2 VQ
def x_BadBeginning : FSpec := [("called", .inr [66, 97, 100, 66, 101, 103, 105, 110, 110, 105, 110, 103])]
noncomputable section
variable {K : PySem.W.Frag} (M : WM K)
def s_law_of (f__law_pull : Dfs M) : Sv M := (sRet (M := M) [] (eSh (M := M) (eBinD (M := M) ixD (eVar M 1) (eSeen (M := M) (eCall (M := M) 2 f__law_pull [] (eCons (M := M) (eVar M 0) (eCons (M := M) (eSeen (M := M) (eFun (M := M) lenD (eCons (M := M) (eVar M 1) (eNil (M := M))))) (eNil (M := M)))))))))
def w_law_of (pull : Dfs M) : Dfs M := runD 2 (s_law_of M pull)
def s_law_figs : Sv M := (sSeq (M := M) (sSet (M := M) 1 [] (eSh (M := M) (eC M (.str []))))
    (sSeq (M := M) (sFor (M := M) [] (eI1 (M := M) rng1 (eC M (.int 5))) (gtName 2) (sSeq (M := M) (sSet (M := M) 1 [] (eSh (M := M) (eSeen (M := M) (eBin (M := M) addD (eSeen (M := M) (eFun (M := M) strD (eCons (M := M) (eSeen (M := M) (eBin (M := M) modD (eVar M 0) (eC M (.int 2)))) (eNil (M := M))))) (eVar M 1)))))
    (sSet (M := M) 0 [] (eSh (M := M) (eSeen (M := M) (eBin (M := M) fdivD (eVar M 0) (eC M (.int 2))))))))
    (sRet (M := M) [] (eSh (M := M) (eVar M 1)))))
def w_law_figs : Dfs M := runD 3 (s_law_figs M)
def s_law_worth (f__law_of : Dfs M) (f__law_pull : Dfs M) : Sv M := (sRet (M := M) [] (eCall (M := M) 2 f__law_of [] (eCons (M := M) (eVar M 0) (eCons (M := M) (eSeen (M := M) (eLst (M := M) (eCons (M := M) (eSeen (M := M) (eCall (M := M) 2 f__law_pull [] (eCons (M := M) (eVar M 0) (eCons (M := M) (eC M (.int 32)) (eNil (M := M)))))) (eCons (M := M) (eSeen (M := M) (eCall (M := M) 2 f__law_pull [] (eCons (M := M) (eVar M 0) (eCons (M := M) (eC M (.int 32)) (eNil (M := M)))))) (eCons (M := M) (eSeen (M := M) (eCall (M := M) 2 f__law_pull [] (eCons (M := M) (eVar M 0) (eCons (M := M) (eC M (.int 4)) (eNil (M := M)))))) (eCons (M := M) (eC M (.int 0)) (eCons (M := M) (eC M (.int 31)) (eNil (M := M))))))))) (eNil (M := M))))))
def w_law_worth (pull : Dfs M) : Dfs M := runD 1 (s_law_worth M (w_law_of M pull) pull)
def s_law_begin (f__law_of : Dfs M) (f__law_figs : Dfs M) (f__law_worth : Dfs M) : Sv M := (sSeq (M := M) (sSet (M := M) 1 [] (eSh (M := M) (eSeen (M := M) (eCall (M := M) 2 f__law_of [] (eCons (M := M) (eVar M 0) (eCons (M := M) (eSeen (M := M) (eLst (M := M) (eCons (M := M) (eC M (.int 0)) (eCons (M := M) (eC M (.int 0)) (eCons (M := M) (eC M (.int 1)) (eCons (M := M) (eC M (.int 2)) (eCons (M := M) (eC M (.int 3)) (eCons (M := M) (eC M (.int 4)) (eCons (M := M) (eC M (.int 5)) (eNil (M := M))))))))))) (eNil (M := M))))))))
    (sRet (M := M) [] (eSl (M := M) (eSeen (M := M) (eCall (M := M) 1 f__law_figs [] (eCons (M := M) (eSeen (M := M) (eCall (M := M) 1 f__law_worth [] (eCons (M := M) (eVar M 0) (eNil (M := M))))) (eNil (M := M))))) (eNoPt (M := M)) (ePt (M := M) (eVar M 1)))))
def w_law_begin (pull : Dfs M) : Dfs M := runD 2 (s_law_begin M (w_law_of M pull) (w_law_figs M) (w_law_worth M pull))
def s_law_under (f__law_figs : Dfs M) : Sv M := (sRet (M := M) [] (eLc (M := M) [1] (eI1 (M := M) rng1 (eC M (.int 32))) (gdName 1) (eCmpT (M := M) eqO (eSeen (M := M) (eSl (M := M) (eSeen (M := M) (eCall (M := M) 1 f__law_figs [] (eCons (M := M) (eVar M 1) (eNil (M := M))))) (eNoPt (M := M)) (ePt (M := M) (eSeen (M := M) (eFun (M := M) lenD (eCons (M := M) (eVar M 0) (eNil (M := M)))))))) (eVar M 0)) (eVar M 1)))
def w_law_under : Dfs M := runD 2 (s_law_under M (w_law_figs M))
def s_law_odd_begin (f__law_of : Dfs M) : Sv M := (sRet (M := M) [] (eCall (M := M) 2 f__law_of [] (eCons (M := M) (eVar M 0) (eCons (M := M) (eSeen (M := M) (eLst (M := M) (eCons (M := M) (eC M (.str [48, 49, 50])) (eCons (M := M) (eC M (.str [50])) (eCons (M := M) (eC M (.str [32])) (eCons (M := M) (eC M (.str [48, 49, 48, 49, 48, 49])) (eCons (M := M) (eC M (.str [48, 48, 48, 48, 48, 48])) (eCons (M := M) (eC M (.str [97])) (eCons (M := M) (eC M (.str [49, 32])) (eCons (M := M) (eC M (.str [48, 45])) (eNil (M := M)))))))))))) (eNil (M := M))))))
def w_law_odd_begin (pull : Dfs M) : Dfs M := runD 1 (s_law_odd_begin M (w_law_of M pull))
def s_law_same (f__law_same : Dfs M) : Sv M := (sSeq (M := M) (sIf (M := M) [] (eCmpT (M := M) isD (eVar M 1) (eC M .non)) (sRet (M := M) [] (eSh (M := M) (eBinD (M := M) (blD isD) (eVar M 0) (eC M .non)))) (sNil (M := M)))
    (sSeq (M := M) (sIf (M := M) [] (eOr (M := M) (eTest (M := M) truD (eUn (M := M) (fun d => (isT d .bool).map .bl) (eVar M 1))) (eTest (M := M) truD (eUn (M := M) (fun d => (isT d .bool).map .bl) (eVar M 0)))) (sRet (M := M) [] (eSh (M := M) (eAndV (M := M) truD (eUn (M := M) (fun d => (isT d .bool).map .bl) (eVar M 1)) (eAndV (M := M) truD (eUn (M := M) (fun d => (isT d .bool).map .bl) (eVar M 0)) (eBinD (M := M) (blD eqO) (eVar M 0) (eVar M 1)))))) (sNil (M := M)))
    (sSeq (M := M) (sIf (M := M) [] (eTest (M := M) truD (eUn (M := M) (fun d => (isTs d (.int :: [.str])).map .bl) (eVar M 1))) (sRet (M := M) [] (eSh (M := M) (eAndV (M := M) truD (eBinD (M := M) (blD eqO) (eUn (M := M) (fun d => (isT d .int).map .bl) (eVar M 0)) (eUn (M := M) (fun d => (isT d .int).map .bl) (eVar M 1))) (eAndV (M := M) truD (eUn (M := M) (fun d => (isTs d (.int :: [.str])).map .bl) (eVar M 0)) (eBinD (M := M) (blD eqO) (eVar M 0) (eVar M 1)))))) (sNil (M := M)))
    (sSeq (M := M) (sIf (M := M) [] (eOr (M := M) (eCmpT (M := M) neO (eUn (M := M) (fun d => (isT d .list).map .bl) (eVar M 0)) (eUn (M := M) (fun d => (isT d .list).map .bl) (eVar M 1))) (eCmpT (M := M) neO (eUn (M := M) (fun d => (isT d .tuple).map .bl) (eVar M 0)) (eUn (M := M) (fun d => (isT d .tuple).map .bl) (eVar M 1)))) (sRet (M := M) [] (eSh (M := M) (eC M (.bl false)))) (sNil (M := M)))
    (sRet (M := M) [] (eSh (M := M) (eAndV (M := M) truD (eBinD (M := M) (blD eqO) (eSeen (M := M) (eFun (M := M) lenD (eCons (M := M) (eVar M 0) (eNil (M := M))))) (eSeen (M := M) (eFun (M := M) lenD (eCons (M := M) (eVar M 1) (eNil (M := M)))))) (eSeen (M := M) (eFun (M := M) allD (eCons (M := M) (eSeen (M := M) (eLc (M := M) [2] (eI1 (M := M) rng1 (eSeen (M := M) (eFun (M := M) lenD (eCons (M := M) (eVar M 1) (eNil (M := M)))))) (gdName 2) (eYes (M := M)) (eSeen (M := M) (eCall (M := M) 2 f__law_same [] (eCons (M := M) (eBinD (M := M) ixD (eVar M 0) (eVar M 2)) (eCons (M := M) (eBinD (M := M) ixD (eVar M 1) (eVar M 2)) (eNil (M := M)))))))) (eNil (M := M))))))))))))
def w_law_same : Nat → Dfs M
  | 0 => fBad
  | n + 1 => runD 3 (s_law_same M (w_law_same n))
def s_turned : Sv M := (sRet (M := M) [] (eBin (M := M) addD (eSeen (M := M) (eSl (M := M) (eVar M 0) (eNoPt (M := M)) (ePt (M := M) (eUn (M := M) negD (eC M (.int 1)))))) (eIf (M := M) (eCmpT (M := M) eqO (eBinD (M := M) ixD (eVar M 0) (eUn (M := M) negD (eC M (.int 1)))) (eC M (.str [49]))) (eC M (.str [48])) (eC M (.str [49])))))
def w_turned : Dfs M := runD 1 (s_turned M)
def s_is_beginning : Sv M := (sRet (M := M) [] (eSh (M := M) (eAndV (M := M) truD (eUn (M := M) (fun d => (isT d .str).map .bl) (eVar M 0)) (eAndV (M := M) truD (eBinD (M := M) (blD leD) (eSeen (M := M) (eFun (M := M) lenD (eCons (M := M) (eVar M 0) (eNil (M := M))))) (eC M (.int 5))) (eSeen (M := M) (eFun (M := M) allD (eCons (M := M) (eSeen (M := M) (eLc (M := M) [1] (eItems (M := M) anyOf (eVar M 0)) (gdName 1) (eYes (M := M)) (eBinD (M := M) (blD inD) (eVar M 1) (eC M (.str [48, 49]))))) (eNil (M := M)))))))))
def w_is_beginning : Dfs M := runD 2 (s_is_beginning M)
def s_brother (f_is_beginning : Dfs M) (f_turned : Dfs M) : Sv M := (sSeq (M := M) (sIf (M := M) [] (eOr (M := M) (eNot (M := M) (eTest (M := M) truD (eSeen (M := M) (eCall (M := M) 1 f_is_beginning [] (eCons (M := M) (eVar M 0) (eNil (M := M))))))) (eCmpT (M := M) eqO (eVar M 0) (eC M (.str [])))) (sRaise (M := M) "BadBeginning" 0 x_BadBeginning [] (eNil (M := M))) (sNil (M := M)))
    (sRet (M := M) [] (eCall (M := M) 1 f_turned [] (eCons (M := M) (eVar M 0) (eNil (M := M))))))
def w_brother : Dfs M := runD 1 (s_brother M (w_is_beginning M) (w_turned M))
def s_span (f_is_beginning : Dfs M) : Sv M := (sSeq (M := M) (sIf (M := M) [] (eNot (M := M) (eTest (M := M) truD (eSeen (M := M) (eCall (M := M) 1 f_is_beginning [] (eCons (M := M) (eVar M 0) (eNil (M := M))))))) (sRaise (M := M) "BadBeginning" 0 x_BadBeginning [] (eNil (M := M))) (sNil (M := M)))
    (sSeq (M := M) (sSet (M := M) 1 [] (eSh (M := M) (eC M (.int 0))))
    (sSeq (M := M) (sFor (M := M) [] (eItems (M := M) anyOf (eVar M 0)) (gtName 2) (sSet (M := M) 1 [] (eSh (M := M) (eSeen (M := M) (eBin (M := M) addD (eSeen (M := M) (eBin (M := M) mulD (eC M (.int 2)) (eVar M 1))) (eSeen (M := M) (eFun (M := M) intD (eCons (M := M) (eVar M 2) (eNil (M := M))))))))))
    (sSeq (M := M) (sSet (M := M) 3 [] (eSh (M := M) (eSeen (M := M) (eBin (M := M) subD (eC M (.int 5)) (eSeen (M := M) (eFun (M := M) lenD (eCons (M := M) (eVar M 0) (eNil (M := M)))))))))
    (sRet (M := M) [] (eSh (M := M) (eTup (M := M) (eCons (M := M) (eSeen (M := M) (eBin (M := M) shlD (eVar M 1) (eVar M 3))) (eCons (M := M) (eSeen (M := M) (eBin (M := M) shlD (eSeen (M := M) (eBin (M := M) addD (eVar M 1) (eC M (.int 1)))) (eVar M 3))) (eNil (M := M)))))))))))
def w_span : Dfs M := runD 4 (s_span M (w_is_beginning M))
def s_law_k02 (f__law_begin : Dfs M) (f__law_under : Dfs M) (f__law_same : Dfs M) (f_span : Dfs M) (f_brother : Dfs M) (f__law_odd_begin : Dfs M) (xt : Xt) : Sv M := (sSeq (M := M) (sFor (M := M) [] (eI1 (M := M) rng1 (eC M (.int 8))) (gtName 2) (sSeq (M := M) (sSet (M := M) 3 [] (eSh (M := M) (eSeen (M := M) (eCall (M := M) 1 f__law_begin [] (eCons (M := M) (eVar M 1) (eNil (M := M)))))))
    (sSeq (M := M) (sSet (M := M) 4 [] (eSh (M := M) (eSeen (M := M) (eCall (M := M) 1 f__law_under [] (eCons (M := M) (eVar M 3) (eNil (M := M)))))))
    (sSeq (M := M) (sIf (M := M) [] (eNot (M := M) (eTest (M := M) truD (eSeen (M := M) (eCall (M := M) 2 f__law_same [] (eCons (M := M) (eSeen (M := M) (eCall (M := M) 1 f_span [] (eCons (M := M) (eVar M 3) (eNil (M := M))))) (eCons (M := M) (eTup (M := M) (eCons (M := M) (eBinD (M := M) ixD (eVar M 4) (eC M (.int 0))) (eCons (M := M) (eSeen (M := M) (eBin (M := M) addD (eBinD (M := M) ixD (eVar M 4) (eUn (M := M) negD (eC M (.int 1)))) (eC M (.int 1)))) (eNil (M := M))))) (eNil (M := M)))))))) (sRet (M := M) [] (eSh (M := M) (eC M (.bl false)))) (sNil (M := M)))
    (sSeq (M := M) (sIf (M := M) [] (eCmpT (M := M) eqO (eVar M 3) (eC M (.str []))) (sIf (M := M) [] (eCmpT (M := M) neO (eFst (M := M) (eTried (M := M) xt (eSeen (M := M) (eCall (M := M) 1 f_brother [] (eCons (M := M) (eVar M 3) (eNil (M := M))))))) (eC M (.str [66, 97, 100, 66, 101, 103, 105, 110, 110, 105, 110, 103]))) (sRet (M := M) [] (eSh (M := M) (eC M (.bl false)))) (sNil (M := M))) (sSeq (M := M) (sSet (M := M) 5 [] (eSh (M := M) (eSeen (M := M) (eCall (M := M) 1 f_brother [] (eCons (M := M) (eVar M 3) (eNil (M := M)))))))
    (sSeq (M := M) (sIf (M := M) [] (eOr (M := M) (eNot (M := M) (eTest (M := M) truD (eUn (M := M) (fun d => (isT d .str).map .bl) (eVar M 5)))) (eCmpT (M := M) neO (eSeen (M := M) (eCall (M := M) 1 f_brother [] (eCons (M := M) (eVar M 5) (eNil (M := M))))) (eVar M 3))) (sRet (M := M) [] (eSh (M := M) (eC M (.bl false)))) (sNil (M := M)))
    (sIf (M := M) [] (eCmpT (M := M) neO (eSeen (M := M) (eFun (M := M) sortedI (eCons (M := M) (eSeen (M := M) (eBin (M := M) addD (eVar M 4) (eSeen (M := M) (eCall (M := M) 1 f__law_under [] (eCons (M := M) (eVar M 5) (eNil (M := M))))))) (eNil (M := M))))) (eSeen (M := M) (eCall (M := M) 1 f__law_under [] (eCons (M := M) (eSeen (M := M) (eSl (M := M) (eVar M 3) (eNoPt (M := M)) (ePt (M := M) (eUn (M := M) negD (eC M (.int 1)))))) (eNil (M := M)))))) (sRet (M := M) [] (eSh (M := M) (eC M (.bl false)))) (sNil (M := M))))))
    (sSeq (M := M) (sSet (M := M) 6 [] (eSh (M := M) (eSeen (M := M) (eCall (M := M) 1 f__law_odd_begin [] (eCons (M := M) (eVar M 1) (eNil (M := M)))))))
    (sIf (M := M) [] (eCmpT (M := M) neO (eSeen (M := M) (eLst (M := M) (eCons (M := M) (eFst (M := M) (eTried (M := M) xt (eSeen (M := M) (eCall (M := M) 1 f_span [] (eCons (M := M) (eVar M 6) (eNil (M := M))))))) (eCons (M := M) (eFst (M := M) (eTried (M := M) xt (eSeen (M := M) (eCall (M := M) 1 f_brother [] (eCons (M := M) (eVar M 6) (eNil (M := M))))))) (eNil (M := M)))))) (eSeen (M := M) (eBin (M := M) mulD (eSeen (M := M) (eLst (M := M) (eCons (M := M) (eC M (.str [66, 97, 100, 66, 101, 103, 105, 110, 110, 105, 110, 103])) (eNil (M := M))))) (eC M (.int 2))))) (sRet (M := M) [] (eSh (M := M) (eC M (.bl false)))) (sNil (M := M)))))))))
    (sRet (M := M) [] (eSh (M := M) (eAndV (M := M) truD (eBinD (M := M) (blD eqO) (eSeen (M := M) (eCall (M := M) 1 f_span [] (eCons (M := M) (eC M (.str [])) (eNil (M := M))))) (eTup (M := M) (eCons (M := M) (eC M (.int 0)) (eCons (M := M) (eC M (.int 32)) (eNil (M := M)))))) (eBinD (M := M) (blD eqO) (eSeen (M := M) (eCall (M := M) 1 f_span [] (eCons (M := M) (eC M (.str [48, 49])) (eNil (M := M))))) (eTup (M := M) (eCons (M := M) (eC M (.int 8)) (eCons (M := M) (eC M (.int 16)) (eNil (M := M))))))))))
end
end VK

/-! Pq: small equations that the unfolding uses. -/
namespace VK
open PySem PySem.Spec PyProof.Rows L2 VQ
theorem lb0 : (0 ≤ big) = True := eq_true (by decide)
theorem lb1 : (1 ≤ big) = True := eq_true (by decide)
theorem lb2 : (2 ≤ big) = True := eq_true (by decide)
theorem lb3 : (3 ≤ big) = True := eq_true (by decide)
theorem lb4 : (4 ≤ big) = True := eq_true (by decide)
theorem lb5 : (5 ≤ big) = True := eq_true (by decide)
theorem lb6 : (6 ≤ big) = True := eq_true (by decide)
theorem lb7 : (7 ≤ big) = True := eq_true (by decide)
theorem lb8 : (8 ≤ big) = True := eq_true (by decide)
theorem lb9 : (9 ≤ big) = True := eq_true (by decide)
theorem lb10 : (10 ≤ big) = True := eq_true (by decide)
theorem lb11 : (11 ≤ big) = True := eq_true (by decide)
theorem lb12 : (12 ≤ big) = True := eq_true (by decide)
theorem lb13 : (13 ≤ big) = True := eq_true (by decide)
theorem lb14 : (14 ≤ big) = True := eq_true (by decide)
theorem lb15 : (15 ≤ big) = True := eq_true (by decide)
theorem lb16 : (16 ≤ big) = True := eq_true (by decide)
theorem lb17 : (17 ≤ big) = True := eq_true (by decide)
theorem lb18 : (18 ≤ big) = True := eq_true (by decide)
theorem lb19 : (19 ≤ big) = True := eq_true (by decide)
theorem lb20 : (20 ≤ big) = True := eq_true (by decide)
theorem lb21 : (21 ≤ big) = True := eq_true (by decide)
theorem lb22 : (22 ≤ big) = True := eq_true (by decide)
theorem lb23 : (23 ≤ big) = True := eq_true (by decide)
theorem lb24 : (24 ≤ big) = True := eq_true (by decide)
theorem lb25 : (25 ≤ big) = True := eq_true (by decide)
theorem lb26 : (26 ≤ big) = True := eq_true (by decide)
theorem lb27 : (27 ≤ big) = True := eq_true (by decide)
theorem lb28 : (28 ≤ big) = True := eq_true (by decide)
theorem lb29 : (29 ≤ big) = True := eq_true (by decide)
theorem lb30 : (30 ≤ big) = True := eq_true (by decide)
theorem add_ii (i j : Int) : addD (.int i) (.int j) = some (.sh (.int (i + j))) := rfl
theorem add_ss {a b : List Nat} (h : a.length + b.length ≤ big) : addD (.str a) (.str b) = some (.sh (.str (a ++ b))) := by simp [addD, h]
theorem add_tt {a b : List D} (h : a.length + b.length ≤ big) : addD (.tup a) (.tup b) = some (.sh (.tup (a ++ b))) := by simp [addD, h]
theorem add_ll {a b : List D} (h : a.length + b.length ≤ big) : addD (.lst a) (.lst b) = some (.fr (.lst (a ++ b))) := by simp [addD, h]
theorem sub_ii (i j : Int) : subD (.int i) (.int j) = some (.sh (.int (i - j))) := rfl
theorem mul_ok {i j : Int} (h1 : small i = true) (h2 : small j = true) : mulD (.int i) (.int j) = some (.sh (.int (i * j))) := by simp [mulD, mul_small h1 h2]
theorem mul_lk {l : List D} {k : Int} (h1 : -1000 ≤ k) (h2 : k ≤ 1000) (h3 : l.length ≤ 1000) : mulD (.lst l) (.int k) = some (.fr (.lst (List.replicate k.toNat l).flatten)) := by simp [mulD, lk_eq, h1, h2, h3]
theorem mul_tk {l : List D} {k : Int} (h1 : -1000 ≤ k) (h2 : k ≤ 1000) (h3 : l.length ≤ 1000) : mulD (.tup l) (.int k) = some (.sh (.tup (List.replicate k.toNat l).flatten)) := by simp [mulD, lk_eq, h1, h2, h3]
theorem int_c {c : Nat} (h1 : 48 ≤ c) (h2 : c < 58) : VQ.intD [.str [c]] = some (.sh (.int ((c : Int) - 48))) := by simp [VQ.intD, h1, h2]
theorem mod_ii {i j : Int} (h : 0 < j) : modD (.int i) (.int j) = some (.sh (.int (i % j))) := by simp [modD, int2, h]
theorem fdiv_ii {i j : Int} (h : 0 < j) (h2 : j < 1073741824) : fdivD (.int i) (.int j) = some (.sh (.int (i / j))) := by simp [fdivD, int2, lk_eq, h, h2]
theorem shl_ii {i j : Int} (h : 0 ≤ j) (h2 : j ≤ 1000000) (h3 : small i = true) : shlD (.int i) (.int j) = some (.sh (.int (i * 2 ^ j.toNat))) := by simp [shlD, int2, lk_eq, h, h2, h3]
theorem shr_ii {i j : Int} (h : 0 ≤ j) : shrD (.int i) (.int j) = some (.sh (.int (i / 2 ^ j.toNat))) := by simp [shrD, int2, h]
theorem in62_nat {n : Nat} (h : n ≤ 1000000) : in62 ((n : Nat) : Int) = true := by
  have h1 : -(2 ^ 62) ≤ ((n : Nat) : Int) := by omega
  have h2 : ((n : Nat) : Int) < 2 ^ 62 := by omega
  unfold in62
  rw [lk_eq, decide_eq_true h1, decide_eq_true h2]; rfl
theorem rng1_eq {n : Nat} (h : n ≤ 1000000) : rng1 (.int (n : Nat)) = some ((List.range n).map fun k => .int (0 + (k : Nat))) := by
  have e : rng1 (.int (n : Nat)) = if in62 ((n : Nat) : Int) = true then some (VQ.upTo 0 ((n : Nat) : Int).toNat) else none := rfl
  rw [e, if_pos (in62_nat h), Int.toNat_natCast]; rfl
theorem catch_ret {ε ε' α : Type} (a : α) (f : ε → G ε' α) : (G.ret a : G ε α).catch_ f = .ret a := rfl
theorem catch_exc {ε ε' α : Type} (e : ε) (f : ε → G ε' α) : (G.exc e : G ε α).catch_ f = f e := rfl
theorem tried_0 {xt : Xt} {x : PySem.Str} {fl : FSpec} {l : List Nat} (h : xt.lookup x = some none) (hf : (fl.map (fD [])).lookup ("called" : PySem.Str) = some (D.str l)) : triedX xt ⟨x, fl.map (fD [])⟩ = some (.tup [.str l, .str []]) := by
  unfold triedX
  simp only [h, hf]
theorem v1_sh (m : List Nat) (i : Nat) (d : D) : view1 m i (some (.sh d)) = some d := rfl
theorem v1_no (m : List Nat) (i : Nat) : view1 m i none = none := rfl
theorem v1_ow (i : Nat) (d : D) : view1 [] i (some (.ow d)) = none := rfl
theorem v1_on (m : List Nat) (i : Nat) (d : D) : view1 m i (some (.ow d)) = if m.contains i = true then some d else none := rfl
theorem f1_sh (m : List Nat) (i : Nat) (d : D) : frz1 m i (some (.sh d)) = some (.sh d) := rfl
theorem f1_no (m : List Nat) (i : Nat) : frz1 m i none = none := rfl
theorem f1_on (m : List Nat) (i : Nat) (d : D) : frz1 m i (some (.ow d)) = if m.contains i = true then some (.sh d) else some (.ow d) := rfl
theorem bq_tt : (true == true) = true := rfl
theorem bq_tf : (true == false) = false := rfl
theorem bq_ft : (false == true) = false := rfl
theorem bq_ff : (false == false) = true := rfl
theorem q_bb (a b : Bool) : eqO (.bl a) (.bl b) = some (a == b) := by cases a <;> cases b <;> rfl
theorem q_ss (a b : List Nat) : eqO (.str a) (.str b) = some (a == b) := rfl
theorem q_ii (a b : Int) : eqO (.int a) (.int b) = some (a == b) := rfl
theorem n_bb (a b : Bool) : neO (.bl a) (.bl b) = some (!(a == b)) := by cases a <;> cases b <;> rfl
theorem n_ss (a b : List Nat) : neO (.str a) (.str b) = some (!(a == b)) := rfl
theorem n_ii (a b : Int) : neO (.int a) (.int b) = some (!(a == b)) := rfl
theorem beq_list {α : Type} [BEq α] [LawfulBEq α] {a b : List α} : (a == b) = true ↔ a = b := beq_iff_eq
mutual
theorem eqD_refl : ∀ (n : Nat) (d : D), pl n d = true → eqD d d = true
  | _, .non, _ => rfl
  | _, .bl b, _ => by simp [eqD]
  | _, .int b, _ => by simp [eqD]
  | _, .str b, _ => by simp [eqD]
  | n + 1, .tup l, h => by
    simp only [pl] at h
    simp only [eqD]
    exact eqDs_refl n l h
  | n + 1, .lst l, h => by
    simp only [pl] at h
    simp only [eqD]
    exact eqDs_refl n l h
  | 0, .tup _, h => by simp [pl] at h
  | 0, .lst _, h => by simp [pl] at h
  | _, .dk _, h => by simp [pl] at h
  | _, .dt _, h => by simp [pl] at h
  | _, .obj _, h => by simp [pl] at h
  | _, .ty _, h => by simp [pl] at h
theorem eqDs_refl : ∀ (n : Nat) (l : List D), plL n l = true → eqDs l l = true
  | _, [], _ => rfl
  | n, d :: r, h => by
    simp only [plL, Bool.and_eq_true] at h
    simp only [eqDs, Bool.and_eq_true]
    exact ⟨eqD_refl n d h.1, eqDs_refl n r h.2⟩
end
theorem eqO_refl {d : D} (h : pl 40 d = true) : eqO d d = some true := by
  unfold eqO
  rw [h, Bool.and_self, Bool.or_true, if_pos rfl, eqD_refl 40 d h]
theorem neO_refl {d : D} (h : pl 40 d = true) : neO d d = some false := by
  unfold neO
  rw [eqO_refl h]; rfl
theorem plL_ints {α : Type} (f : α → Int) (n : Nat) : ∀ l : List α, plL n (l.map fun x => .int (f x)) = true
  | [] => rfl
  | x :: l => by simp [plL, pl, plL_ints f n l]
theorem pl_ints {α : Type} (f : α → Int) (n : Nat) (l : List α) : pl (n + 1) (.lst (l.map fun x => .int (f x))) = true := by
  simp only [pl]; exact plL_ints f n l
theorem sorted_ints {α : Type} (f : α → Int) (l : List α) : sortedI [.lst (l.map fun x => .int (f x))] = some (.fr (.lst ((sortI (l.map f)).map .int))) := by
  have : l.map (fun x => D.int (f x)) = (l.map f).map D.int := by simp
  show (intsD _).map _ = _
  rw [this, intsD_map]; rfl
/-- str of 0 or 1 -/
theorem fig2 (j : Int) : figD (j % 2) = [48 + (j % 2).toNat] := by
  rcases Int.emod_two_eq j with h | h <;> rw [h] <;> decide +kernel
theorem log2ok (j : Int) : (j % 2).natAbs.log2 < 1920 := by
  rcases Int.emod_two_eq j with h | h <;> rw [h] <;> decide
theorem str2 (j : Int) : strD [.int (j % 2)] = some (.sh (.str [48 + (j % 2).toNat])) := by
  show (if (j % 2).natAbs.log2 < 1920 then some (R.sh (.str (figD (j % 2)))) else none) = _
  rw [if_pos (log2ok j), fig2]
/-- five figures of a number -/
def b5 (i : Int) : List Nat := [48 + (i / 2 / 2 / 2 / 2 % 2).toNat, 48 + (i / 2 / 2 / 2 % 2).toNat, 48 + (i / 2 / 2 % 2).toNat, 48 + (i / 2 % 2).toNat, 48 + (i % 2).toNat]
def isSign (c : Nat) : Bool := c == 48 || c == 49
/-- a beginning -/
def beg (l : List Nat) : Bool := decide (l.length ≤ 5) && l.all isSign
def begsN : Nat → List (List Nat)
  | 0 => [[]]
  | n + 1 => [] :: ((begsN n).map (48 :: ·) ++ (begsN n).map (49 :: ·))
theorem begsN_mem : ∀ (n : Nat) (l : List Nat), l.length ≤ n → l.all isSign = true → l ∈ begsN n
  | 0, l, h, _ => by
    have : l = [] := List.eq_nil_of_length_eq_zero (by omega)
    subst this; simp [begsN]
  | n + 1, [], _, _ => by simp [begsN]
  | n + 1, c :: l, h, hs => by
    simp only [List.all_cons, Bool.and_eq_true, isSign, Bool.or_eq_true, beq_iff_eq] at hs
    have := begsN_mem n l (by simpa using h) (by simpa [isSign] using hs.2)
    rcases hs.1 with e | e <;> subst e <;> simp [begsN, this]
theorem beg_mem {l : List Nat} (h : beg l = true) : l ∈ begsN 5 := by
  simp only [beg, Bool.and_eq_true, decide_eq_true_eq] at h
  exact begsN_mem 5 l h.1 h.2
theorem beg_len {l : List Nat} (h : beg l = true) : l.length ≤ 5 := by
  simp only [beg, Bool.and_eq_true, decide_eq_true_eq] at h; exact h.1
theorem beg_take {l : List Nat} (h : beg l = true) (k : Nat) : beg (l.take k) = true := by
  simp only [beg, Bool.and_eq_true, decide_eq_true_eq, List.all_eq_true] at h ⊢
  exact ⟨by rw [List.length_take]; omega, fun x hx => h.2 x (List.mem_of_mem_take hx)⟩
theorem b5_beg (i : Int) : beg (b5 i) = true := by
  have : ∀ j : Int, isSign (48 + (j % 2).toNat) = true := fun j => by
    rcases Int.emod_two_eq j with h | h <;> rw [h] <;> decide
  simp [beg, b5, this]
theorem cut_to {α : Type} (l : List α) (k : Nat) : cutL l none (some (k : Int)) = l.take k := by
  unfold cutL
  rw [HT.sIx_none, HT.sIx_nat]
  simp [List.take_eq_take_iff]
theorem cut_from {α : Type} (l : List α) (k : Nat) : cutL l (some (k : Int)) none = l.drop k := by
  unfold cutL
  rw [HT.sIx_none, HT.sIx_nat]
  by_cases h : k ≤ l.length
  · rw [Nat.min_eq_left h]
    exact List.take_of_length_le (by simp)
  · rw [Nat.min_eq_right (by omega), List.drop_of_length_le (Nat.le_refl _), List.drop_of_length_le (by omega)]; simp
theorem cut_last {α : Type} (l : List α) : cutL l none (some (-1)) = l.dropLast := by
  unfold cutL HT.sIx
  simp only [show ((-1 : Int) < 0) from by decide, if_true, List.drop_zero, Nat.sub_zero]
  rw [List.dropLast_eq_take]
  congr 1
  omega
theorem at_last {α : Type} (l : List α) (h : l ≠ []) : atI l (-1) = some (l.getLast h) := by
  have hl : 0 < l.length := List.length_pos_iff.mpr h
  unfold atI ixN
  rw [if_neg (by decide), if_pos (by omega)]
  show l[(-1 + (l.length : Int)).toNat]? = _
  rw [show (-1 + (l.length : Int)).toNat = l.length - 1 by omega, List.getLast_eq_getElem]
  simp [hl]
theorem at_neg {α : Type} (l : List α) (k : Nat) (h : k < l.length) : atI l (-((k : Int) + 1)) = l[l.length - 1 - k]? := by
  unfold atI ixN
  rw [if_neg (by omega), if_pos (by omega)]
  show l[(-((k : Int) + 1) + (l.length : Int)).toNat]? = _
  rw [show (-((k : Int) + 1) + (l.length : Int)).toNat = l.length - 1 - k by omega]
theorem foldl_fst {α β γ : Type} (f : α → γ → α) (g : γ → β) : ∀ (l : List γ) (t : α × β), (l.foldl (fun t c => (f t.1 c, g c)) t).1 = l.foldl f t.1
  | [], _ => rfl
  | c :: l, t => foldl_fst f g l (f t.1 c, g c)
theorem two_pow5 {k : Nat} (h : k ≤ 5) : (2 : Int) ^ k ≤ 32 := by
  have : k = 0 ∨ k = 1 ∨ k = 2 ∨ k = 3 ∨ k = 4 ∨ k = 5 := by omega
  rcases this with e | e | e | e | e | e <;> subst e <;> decide
def valN (l : List Nat) : Int := l.foldl (fun (a : Int) (c : Nat) => 2 * a + ((c : Int) - 48)) 0
theorem val_aux : ∀ (l : List Nat) (a : Int), l.all isSign = true → 0 ≤ a → 0 ≤ l.foldl (fun (a : Int) (c : Nat) => 2 * a + ((c : Int) - 48)) a ∧ l.foldl (fun (a : Int) (c : Nat) => 2 * a + ((c : Int) - 48)) a < (a + 1) * 2 ^ l.length
  | [], a, _, h => ⟨h, by simp; omega⟩
  | c :: l, a, hs, h => by
    simp only [List.all_cons, Bool.and_eq_true, isSign, Bool.or_eq_true, beq_iff_eq] at hs
    have hc := hs.1
    obtain ⟨v0, v1⟩ := val_aux l (2 * a + ((c : Int) - 48)) (by simpa [isSign] using hs.2) (by omega)
    refine ⟨v0, Int.lt_of_lt_of_le v1 ?_⟩
    rw [List.length_cons, Int.pow_succ, Int.mul_comm _ 2, ← Int.mul_assoc]
    exact Int.mul_le_mul_of_nonneg_right (by omega) (Int.le_of_lt (Int.pow_pos (by decide)))
theorem val_lt {l : List Nat} (hs : l.all isSign = true) (h5 : l.length ≤ 5) : 0 ≤ valN l ∧ valN l < 32 := by
  obtain ⟨a, b⟩ := val_aux l 0 hs (by decide)
  have := two_pow5 h5
  exact ⟨a, by unfold valN; omega⟩
theorem b5_len (i : Int) : (b5 i).length = 5 := rfl
section
variable {K : PySem.W.Frag} {M : WM K} {s s' : M.S} {α : Type}
/-- comprehensions over a typed list -/
theorem elc_fil {vs : List Nat} {ei : Ev M (List D)} {g : D → Dv → Option Dv} {et : Ev M Bool} {ee : Ev M D} {ρ : Dv} (xs : List α) (inj : α → D) (p : α → Bool) (F : α → D) (he : ei ρ s = .ret (xs.map inj, s')) (hl : xs.length ≤ big) (h : ∀ x ∈ xs, ∃ ρ1, g (inj x) (wipeD vs ρ) = some ρ1 ∧ et ρ1 s' = .ret (p x, s') ∧ (p x = true → ee ρ1 s' = .ret (F x, s'))) :
    eLc vs ei g et ee ρ s = .ret (.fr (.lst ((xs.filter p).map F)), s') := by
  have aux : ∀ (xs : List α) (acc : List D), acc.length + xs.length ≤ big → (∀ x ∈ xs, ∃ ρ1, g (inj x) (wipeD vs ρ) = some ρ1 ∧ et ρ1 s' = .ret (p x, s') ∧ (p x = true → ee ρ1 s' = .ret (F x, s'))) → lcG g et ee (wipeD vs ρ) (xs.map inj) acc s' = .ret (.fr (.lst (acc ++ (xs.filter p).map F)), s') := by
    intro xs
    induction xs with
    | nil => intro acc _ _; simp [lcG]
    | cons x xs ih =>
      intro acc hl h
      obtain ⟨ρ1, e1, e2, e3⟩ := h x (List.mem_cons_self ..)
      simp only [List.length_cons] at hl
      rw [List.map_cons]
      unfold lcG
      rw [e1]
      show ((et ρ1 s').noX.bind _ : Gx M R) = _
      rw [e2]
      cases hp : p x with
      | false =>
        show lcG g et ee _ _ acc s' = _
        rw [ih acc (by omega) fun y hy => h y (List.mem_cons_of_mem _ hy)]
        simp [hp]
      | true =>
        show ((ee ρ1 s').noX.bind _ : Gx M R) = _
        rw [e3 hp]
        show (if acc.length < big then lcG g et ee _ _ (acc ++ [F x]) s' else .bad) = _
        rw [if_pos (by omega), ih _ (by simp; omega) fun y hy => h y (List.mem_cons_of_mem _ hy)]
        simp [hp]
  unfold eLc
  rw [he]
  show lcG g et ee (wipeD vs ρ) (xs.map inj) [] s' = _
  rw [aux xs [] (by simpa using hl) h]; rfl
theorem elc_map {vs : List Nat} {ei : Ev M (List D)} {g : D → Dv → Option Dv} {ee : Ev M D} {ρ : Dv} (xs : List α) (inj : α → D) (F : α → D) (he : ei ρ s = .ret (xs.map inj, s')) (hl : xs.length ≤ big) (h : ∀ x ∈ xs, ∃ ρ1, g (inj x) (wipeD vs ρ) = some ρ1 ∧ ee ρ1 s' = .ret (F x, s')) :
    eLc vs ei g eYes ee ρ s = .ret (.fr (.lst (xs.map F)), s') := by
  rw [elc_fil xs inj (fun _ => true) F he hl fun x hx => by
    obtain ⟨ρ1, h1, h2⟩ := h x hx
    exact ⟨ρ1, h1, rfl, fun _ => h2⟩]
  rw [List.filter_eq_self.mpr fun _ _ => rfl]
theorem for_fold {τ : Type} {ei : Ev M (List D)} {g : D → Nv → Option Nv} {body : Sv M} {ρ : Nv} (xs : List α) (inj : α → D) (env : τ → Nv) (step : τ → α → τ) (t : τ) (he : ei (view [] ρ) s = .ret (xs.map inj, s')) (hρ : ρ = env t) (h : ∀ t, ∀ x ∈ xs, ∃ ρ1, g (inj x) (env t) = some ρ1 ∧ body ρ1 s' = .ret (.nx (env (step t x)), s')) :
    sFor [] ei g body ρ s = .ret (.nx (env (xs.foldl step t)), s') := by
  have aux : ∀ (xs : List α) (t : τ), (∀ t, ∀ x ∈ xs, ∃ ρ1, g (inj x) (env t) = some ρ1 ∧ body ρ1 s' = .ret (.nx (env (step t x)), s')) → loopG g body (xs.map inj) (env t) s' = .ret (.nx (env (xs.foldl step t)), s') := by
    intro xs
    induction xs with
    | nil => intro t _; rfl
    | cons x xs ih =>
      intro t h
      obtain ⟨ρ1, e1, e2⟩ := h t x (List.mem_cons_self ..)
      rw [List.map_cons]
      unfold loopG
      rw [e1]
      show (body ρ1 s').bind _ = _
      rw [e2]
      exact ih (step t x) fun t y hy => h t y (List.mem_cons_of_mem _ hy)
  rw [for_eq he, hρ]
  exact aux xs t h
/-- .. the items gone through told -/
theorem for_pre {τ : Type} {ei : Ev M (List D)} {g : D → Nv → Option Nv} {body : Sv M} {ρ : Nv} (xs : List α) (inj : α → D) (env : τ → Nv) (step : τ → α → τ) (t : τ) (he : ei (view [] ρ) s = .ret (xs.map inj, s')) (hρ : ρ = env t) (h : ∀ pre x post, xs = pre ++ x :: post → ∃ ρ1, g (inj x) (env (pre.foldl step t)) = some ρ1 ∧ body ρ1 s' = .ret (.nx (env (step (pre.foldl step t) x)), s')) :
    sFor [] ei g body ρ s = .ret (.nx (env (xs.foldl step t)), s') := by
  have aux : ∀ (ys pre : List α), xs = pre ++ ys → loopG g body (ys.map inj) (env (pre.foldl step t)) s' = .ret (.nx (env (xs.foldl step t)), s') := by
    intro ys
    induction ys with
    | nil => intro pre e; rw [e, List.append_nil]; rfl
    | cons y ys ih =>
      intro pre e
      obtain ⟨ρ1, e1, e2⟩ := h pre y ys e
      rw [List.map_cons]
      unfold loopG
      rw [e1]
      show (body ρ1 s').bind _ = _
      rw [e2]
      have := ih (pre ++ [y]) (by rw [e]; simp)
      rw [List.foldl_append] at this
      exact this
  rw [for_eq he, hρ]
  exact aux xs [] rfl
/-- a loop that goes back at the first item of a kind -/
theorem for_find {ei : Ev M (List D)} {g : D → Nv → Option Nv} {body : Sv M} {ρ : Nv} (xs : List α) (inj : α → D) (env : Option α → Nv) (p : α → Bool) (r : α → R) (he : ei (view [] ρ) s = .ret (xs.map inj, s')) (hρ : ρ = env none) (h : ∀ o, ∀ x ∈ xs, ∃ ρ1, g (inj x) (env o) = some ρ1 ∧ body ρ1 s' = if p x = true then .ret (.rt (r x), s') else .ret (.nx (env (some x)), s')) :
    sFor [] ei g body ρ s = match xs.find? p with | some x => .ret (.rt (r x), s') | none => .ret (.nx (env xs.getLast?), s') := by
  have aux : ∀ (xs : List α) (o : Option α), (∀ o, ∀ x ∈ xs, ∃ ρ1, g (inj x) (env o) = some ρ1 ∧ body ρ1 s' = if p x = true then .ret (.rt (r x), s') else .ret (.nx (env (some x)), s')) → loopG g body (xs.map inj) (env o) s' = match xs.find? p with | some x => .ret (.rt (r x), s') | none => .ret (.nx (env (xs.getLast?.or o)), s') := by
    intro xs
    induction xs with
    | nil => intro o _; rfl
    | cons x xs ih =>
      intro o h
      obtain ⟨ρ1, e1, e2⟩ := h o x (List.mem_cons_self ..)
      rw [List.map_cons]
      unfold loopG
      rw [e1]
      show (body ρ1 s').bind _ = _
      rw [e2, List.find?_cons]
      cases hp : p x with
      | true => rfl
      | false =>
        show loopG g body (xs.map inj) (env (some x)) s' = _
        rw [ih (some x) fun o y hy => h o y (List.mem_cons_of_mem _ hy)]
        cases hf : xs.find? p with
        | some y => rfl
        | none =>
          simp only
          congr 3
          cases xs with
          | nil => rfl
          | cons y ys => simp [List.getLast?_cons]
  rw [for_eq he, hρ, aux xs none h]
  simp
/-- a comprehension whose items are drawn -/
theorem lc_draw {β : Type} {g : D → Dv → Option Dv} {ee : Ev M D} {ρ : Dv} {ds : List D} {Ex : Exc × M.S → Prop} (inj : β → D) (Q : β → Prop) (hl : ds.length ≤ big) (h : ∀ d ∈ ds, ∃ ρ1, g d ρ = some ρ1 ∧ Al (ee ρ1 s) (fun r => ∃ z, Q z ∧ r = (inj z, s)) (fun _ => False)) :
    Al (lcG g eYes ee ρ ds [] s) (fun r => ∃ zs : List β, zs.length = ds.length ∧ (∀ z ∈ zs, Q z) ∧ r = (.fr (.lst (zs.map inj)), s)) Ex := by
  refine (lc_al (fun _ y => ∃ z, Q z ∧ y = inj z) (fun t => t = s) rfl (fun d hd t ht => ?_) (by simpa using hl)).to fun r hr => ?_
  · subst ht
    obtain ⟨ρ1, e1, e2⟩ := h d hd
    refine ⟨ρ1, e1, e2.to fun r hr => ?_⟩
    obtain ⟨z, hz, e⟩ := hr
    subst e
    exact ⟨⟨z, hz, rfl⟩, rfl⟩
  · obtain ⟨ys, h1, h2, h3⟩ := hr
    have aux : ∀ {ds ys : List D}, All2 (fun _ y => ∃ z, Q z ∧ y = inj z) ds ys → ∃ zs : List β, zs.length = ds.length ∧ (∀ z ∈ zs, Q z) ∧ ys = zs.map inj := by
      intro ds ys h
      induction h with
      | nil => exact ⟨[], rfl, by simp, rfl⟩
      | cons h _ ih =>
        obtain ⟨z, hz, rfl⟩ := h
        obtain ⟨zs, a, b, rfl⟩ := ih
        exact ⟨z :: zs, by simp [a], by simpa using ⟨hz, b⟩, rfl⟩
    obtain ⟨zs, a, b, rfl⟩ := aux h2
    obtain ⟨r1, r2⟩ := r
    cases h1; cases h3
    exact ⟨zs, a, b, rfl⟩
theorem frzG_e : ∀ (i : Nat) (ρ : Nv), frzG [] i ρ = ρ
  | _, [] => rfl
  | i, o :: r => by
    unfold frzG
    rw [frzG_e (i + 1) r]
    cases o with
    | none => rfl
    | some v => cases v <;> rfl
theorem all_map (l : List α) (f : α → Bool) : allD [.lst (l.map fun x => .bl (f x))] = some (.sh (.bl (l.all f))) := by
  have : l.map (fun x => D.bl (f x)) = (l.map f).map D.bl := by simp
  show (blsD _).map _ = _
  rw [this, blsD_map]
  simp [List.all_map]
theorem any_map (l : List α) (f : α → Bool) : anyD [.lst (l.map fun x => .bl (f x))] = some (.sh (.bl (l.any f))) := by
  have : l.map (fun x => D.bl (f x)) = (l.map f).map D.bl := by simp
  show (blsD _).map _ = _
  rw [this, blsD_map]
  simp [List.any_map]
end
end VK

local macro_rules | `(tactic| walk_at "U") => `(tactic| simp -implicitDefEqProofs only [VQ.runD, VQ.startE, VQ.sSeq, VQ.sThen, VQ.sSet, VQ.sRet, VQ.sRetN, VQ.sRetO, VQ.sDrop, VQ.sIf, VQ.sNil, VQ.sBreak, VQ.sCont, VQ.sPar, VQ.sTgt, VQ.sAug, VQ.sAppend, VQ.sRaise, VQ.inF, VQ.eVar, VQ.eC, VQ.eSeen, VQ.eSh, VQ.eBin, VQ.eBinD, VQ.eUn, VQ.eTest, VQ.eNot, VQ.eAnd, VQ.eOr, VQ.eIf, VQ.eAndV, VQ.eOrV, VQ.eBl, VQ.eNil, VQ.eCons, VQ.eTup, VQ.eLst, VQ.eFun, VQ.eCall, VQ.eNoPt, VQ.ePt, VQ.intOf, VQ.eSl, VQ.eChain, VQ.eCmpT, VQ.eM1, VQ.eFst, VQ.eTried, VQ.startsD, VK.catch_ret, VK.catch_exc, VQ.eYes, VQ.eI1, VQ.eI2, VQ.eI3, VQ.eItems, VQ.view, VQ.viewG, VK.v1_sh, VK.v1_no, VK.v1_ow, VK.v1_on, VQ.frz, VQ.frzG, VK.f1_sh, VK.f1_no, VK.f1_on, VQ.behind, VQ.op, VQ.R.d, VQ.R.vv, VQ.G.bind_ret, VQ.G.bind_exc, VQ.G.exs_ret, VQ.G.exs_exc, VQ.G.bind_draw, VQ.G.exs_draw, VQ.G.noX_ret, VQ.G.exs_exs, VQ.G.exs_bind, VQ.G.bind_assoc, VQ.G.noX_bind, VQ.G.noX_draw, VQ.G.exs_bad, VQ.gtName, VQ.gdName, VQ.gtTup, VQ.gtCons, VQ.gtNil, VQ.gdTup, VQ.gdCons, VQ.gdNil, VQ.wipeD, List.foldl, List.map, List.length, List.replicate, List.cons_append, List.nil_append, List.append_nil, List.isEmpty_nil, Bool.true_or, if_true, ↓reduceIte, ite_self, List.getElem?_cons_zero, List.getElem?_cons_succ, List.set_cons_zero, List.set_cons_succ, Nat.zero_add, Nat.reduceAdd, Nat.reduceSub, Nat.reduceLT, Nat.reduceLeDiff, Nat.reduceEqDiff, VK.lb0, VK.lb1, VK.lb2, VK.lb3, VK.lb4, VK.lb5, VK.lb6, VK.lb7, VK.lb8, VK.lb9, VK.lb10, VK.lb11, VK.lb12, VK.lb13, VK.lb14, VK.lb15, VK.lb16, VK.lb17, VK.lb18, VK.lb19, VK.lb20, VK.lb21, VK.lb22, VK.lb23, VK.lb24, VK.lb25, VK.lb26, VK.lb27, VK.lb28, VK.lb29, VK.lb30, VQ.lenD, VK.add_ii, VK.add_ss, VK.add_tt, VK.add_ll, VK.sub_ii, Option.getD_some, Option.getD_none, VQ.negD, VK.frzG_e,  VK.all_map, VK.any_map, VQ.ixD, VQ.isT, VQ.isTs, VQ.truD, VQ.blD, VQ.isD, VQ.isnotD, VQ.isNon, Option.map_some, Option.map_none, Option.bind_some, Option.bind_none, Bool.not_true, Bool.not_false, VQ.slD, VK.cut_to, VK.cut_from, VK.cut_last, VK.q_ss, VK.q_ii, VK.q_bb, VK.n_ss, VK.n_ii, VK.n_bb, VQ.leD, VQ.ltD, VQ.gtD, VQ.geD, VQ.cmpI, decide_true, decide_false, beq_self_eq_true, VK.bq_tt, VK.bq_tf, VK.bq_ft, VK.bq_ff, Bool.or_true, Bool.or_false, Bool.false_or,  Bool.false_eq_true, Bool.and_true, Bool.true_and, Bool.and_false, Bool.false_and])
local macro_rules | `(tactic| walk_at "US") => `(tactic| simp -implicitDefEqProofs only [*, VQ.runD, VQ.startE, VQ.sSeq, VQ.sThen, VQ.sSet, VQ.sRet, VQ.sRetN, VQ.sRetO, VQ.sDrop, VQ.sIf, VQ.sNil, VQ.sBreak, VQ.sCont, VQ.sPar, VQ.sTgt, VQ.sAug, VQ.sAppend, VQ.sRaise, VQ.inF, VQ.eVar, VQ.eC, VQ.eSeen, VQ.eSh, VQ.eBin, VQ.eBinD, VQ.eUn, VQ.eTest, VQ.eNot, VQ.eAnd, VQ.eOr, VQ.eIf, VQ.eAndV, VQ.eOrV, VQ.eBl, VQ.eNil, VQ.eCons, VQ.eTup, VQ.eLst, VQ.eFun, VQ.eCall, VQ.eNoPt, VQ.ePt, VQ.intOf, VQ.eSl, VQ.eChain, VQ.eCmpT, VQ.eM1, VQ.eFst, VQ.eTried, VQ.startsD, VK.catch_ret, VK.catch_exc, VQ.eYes, VQ.eI1, VQ.eI2, VQ.eI3, VQ.eItems, VQ.view, VQ.viewG, VK.v1_sh, VK.v1_no, VK.v1_ow, VK.v1_on, VQ.frz, VQ.frzG, VK.f1_sh, VK.f1_no, VK.f1_on, VQ.behind, VQ.op, VQ.R.d, VQ.R.vv, VQ.G.bind_ret, VQ.G.bind_exc, VQ.G.exs_ret, VQ.G.exs_exc, VQ.G.bind_draw, VQ.G.exs_draw, VQ.G.noX_ret, VQ.G.exs_exs, VQ.G.exs_bind, VQ.G.bind_assoc, VQ.G.noX_bind, VQ.G.noX_draw, VQ.G.exs_bad, VQ.gtName, VQ.gdName, VQ.gtTup, VQ.gtCons, VQ.gtNil, VQ.gdTup, VQ.gdCons, VQ.gdNil, VQ.wipeD, List.foldl, List.map, List.length, List.replicate, List.cons_append, List.nil_append, List.append_nil, List.isEmpty_nil, Bool.true_or, if_true, ↓reduceIte, ite_self, List.getElem?_cons_zero, List.getElem?_cons_succ, List.set_cons_zero, List.set_cons_succ, Nat.zero_add, Nat.reduceAdd, Nat.reduceSub, Nat.reduceLT, Nat.reduceLeDiff, Nat.reduceEqDiff, VK.lb0, VK.lb1, VK.lb2, VK.lb3, VK.lb4, VK.lb5, VK.lb6, VK.lb7, VK.lb8, VK.lb9, VK.lb10, VK.lb11, VK.lb12, VK.lb13, VK.lb14, VK.lb15, VK.lb16, VK.lb17, VK.lb18, VK.lb19, VK.lb20, VK.lb21, VK.lb22, VK.lb23, VK.lb24, VK.lb25, VK.lb26, VK.lb27, VK.lb28, VK.lb29, VK.lb30, VQ.lenD, VK.add_ii, VK.add_ss, VK.add_tt, VK.add_ll, VK.sub_ii, Option.getD_some, Option.getD_none, VQ.negD, VK.frzG_e,  VK.all_map, VK.any_map, VQ.ixD, VQ.isT, VQ.isTs, VQ.truD, VQ.blD, VQ.isD, VQ.isnotD, VQ.isNon, Option.map_some, Option.map_none, Option.bind_some, Option.bind_none, Bool.not_true, Bool.not_false, VQ.slD, VK.cut_to, VK.cut_from, VK.cut_last, VK.q_ss, VK.q_ii, VK.q_bb, VK.n_ss, VK.n_ii, VK.n_bb, VQ.leD, VQ.ltD, VQ.gtD, VQ.geD, VQ.cmpI, decide_true, decide_false, beq_self_eq_true, VK.bq_tt, VK.bq_tf, VK.bq_ft, VK.bq_ff, Bool.or_true, Bool.or_false, Bool.false_or,  Bool.false_eq_true, Bool.and_true, Bool.true_and, Bool.and_false, Bool.false_and])
local macro_rules | `(tactic| walk_at "E") => `(tactic| simp -implicitDefEqProofs only [VQ.runD, VQ.startE, VQ.sSet, VQ.sRet, VQ.sRetN, VQ.sRetO, VQ.sDrop, VQ.sIf, VQ.sNil, VQ.sBreak, VQ.sCont, VQ.sPar, VQ.sTgt, VQ.sAug, VQ.sAppend, VQ.sRaise, VQ.inF, VQ.eVar, VQ.eC, VQ.eSeen, VQ.eSh, VQ.eBin, VQ.eBinD, VQ.eUn, VQ.eTest, VQ.eNot, VQ.eAnd, VQ.eOr, VQ.eIf, VQ.eAndV, VQ.eOrV, VQ.eBl, VQ.eNil, VQ.eCons, VQ.eTup, VQ.eLst, VQ.eFun, VQ.eCall, VQ.eNoPt, VQ.ePt, VQ.intOf, VQ.eSl, VQ.eChain, VQ.eCmpT, VQ.eM1, VQ.eFst, VQ.eTried, VQ.startsD, VK.catch_ret, VK.catch_exc, VQ.eYes, VQ.eI1, VQ.eI2, VQ.eI3, VQ.eItems, VQ.view, VQ.viewG, VK.v1_sh, VK.v1_no, VK.v1_ow, VK.v1_on, VQ.frz, VQ.frzG, VK.f1_sh, VK.f1_no, VK.f1_on, VQ.behind, VQ.op, VQ.R.d, VQ.R.vv, VQ.G.bind_ret, VQ.G.bind_exc, VQ.G.exs_ret, VQ.G.exs_exc, VQ.G.bind_draw, VQ.G.exs_draw, VQ.G.noX_ret, VQ.G.exs_exs, VQ.G.exs_bind, VQ.G.bind_assoc, VQ.G.noX_bind, VQ.G.noX_draw, VQ.G.exs_bad, VQ.gtName, VQ.gdName, VQ.gtTup, VQ.gtCons, VQ.gtNil, VQ.gdTup, VQ.gdCons, VQ.gdNil, VQ.wipeD, List.foldl, List.map, List.length, List.replicate, List.cons_append, List.nil_append, List.append_nil, List.isEmpty_nil, Bool.true_or, if_true, ↓reduceIte, ite_self, List.getElem?_cons_zero, List.getElem?_cons_succ, List.set_cons_zero, List.set_cons_succ, Nat.zero_add, Nat.reduceAdd, Nat.reduceSub, Nat.reduceLT, Nat.reduceLeDiff, Nat.reduceEqDiff, VK.lb0, VK.lb1, VK.lb2, VK.lb3, VK.lb4, VK.lb5, VK.lb6, VK.lb7, VK.lb8, VK.lb9, VK.lb10, VK.lb11, VK.lb12, VK.lb13, VK.lb14, VK.lb15, VK.lb16, VK.lb17, VK.lb18, VK.lb19, VK.lb20, VK.lb21, VK.lb22, VK.lb23, VK.lb24, VK.lb25, VK.lb26, VK.lb27, VK.lb28, VK.lb29, VK.lb30, VQ.lenD, VK.add_ii, VK.add_ss, VK.add_tt, VK.add_ll, VK.sub_ii, Option.getD_some, Option.getD_none, VQ.negD, VK.frzG_e,  VK.all_map, VK.any_map, VQ.ixD, VQ.isT, VQ.isTs, VQ.truD, VQ.blD, VQ.isD, VQ.isnotD, VQ.isNon, Option.map_some, Option.map_none, Option.bind_some, Option.bind_none, Bool.not_true, Bool.not_false, VQ.slD, VK.cut_to, VK.cut_from, VK.cut_last, VK.q_ss, VK.q_ii, VK.q_bb, VK.n_ss, VK.n_ii, VK.n_bb, VQ.leD, VQ.ltD, VQ.gtD, VQ.geD, VQ.cmpI, decide_true, decide_false, beq_self_eq_true, VK.bq_tt, VK.bq_tf, VK.bq_ft, VK.bq_ff, Bool.or_true, Bool.or_false, Bool.false_or,  Bool.false_eq_true, Bool.and_true, Bool.true_and, Bool.and_false, Bool.false_and])
namespace VK
open PySem PySem.Spec PyProof.Rows L2 VQ
section
variable {K : PySem.W.Frag} {M : WM K} {s : M.S} {pull : Dfs M}
/-! ### what the law draws -/
theorem of_spec (hp : PullOk pull) {ds : List D} (h0 : 0 < ds.length) (h1 : ds.length ≤ 1000000) : Al (w_law_of M pull [.obj 0, .lst ds] s) (fun r => ∃ d ∈ ds, r = (.sh d, s)) (fun _ => False) := by
  unfold w_law_of s_law_of
  have hpl := hp ds.length h0 h1
  walk_at "US"
  refine .draw h0 fun r hr => ?_
  have e2 : atI ds ((r : Nat) : Int) = some (ds[r]'hr) := atI_nat (by simp [hr])
  rw [e2]
  walk_at "U"
  exact .ret ⟨_, List.getElem_mem hr, rfl⟩
theorem figs_eq (i : Int) : w_law_figs M [.int i] s = .ret (.sh (.str (b5 i)), s) := by
  unfold w_law_figs s_law_figs
  simp [runD, startE, sRet, sFor, inF, eI1, eC, rng1, in62, lk_eq, VQ.upTo, List.range_succ, loopG, gtName, eBin, eSeen, eFun, eCons, eNil, eVar, sSeq, sThen, sSet, eSh, view, viewG, view1, frz, frzG, frz1, modD, fdivD, int2, addD, str2, op, G.exs, G.bind, R.d, R.vv, behind, b5, big]
theorem worth_spec (hp : PullOk pull) : Al (w_law_worth M pull [.obj 0] s) (fun r => ∃ n : Nat, n < 32 ∧ r = (.sh (.int n), s)) (fun _ => False) := by
  unfold w_law_worth s_law_worth
  have h32 : ∀ s, pull [.obj 0, .int 32] s = _ := hp 32 (by decide) (by decide)
  have h4 : ∀ s, pull [.obj 0, .int 4] s = _ := hp 4 (by decide) (by decide)
  walk_at "US"
  refine .draw (by decide) fun a ha => .draw (by decide) fun b hb => .draw (by decide) fun c hc => ?_
  refine Al.btox (of_spec hp (by simp) (by simp)) fun r hr => ?_
  obtain ⟨d, hd, rfl⟩ := hr
  walk_at "U"
  simp only [List.mem_cons, List.not_mem_nil, or_false] at hd
  rcases hd with rfl | rfl | rfl | rfl | rfl
  · exact .ret ⟨a, ha, rfl⟩
  · exact .ret ⟨b, hb, rfl⟩
  · exact .ret ⟨c, by omega, rfl⟩
  · exact .ret ⟨0, by decide, rfl⟩
  · exact .ret ⟨31, by decide, rfl⟩
theorem begin_spec (hp : PullOk pull) : Al (w_law_begin M pull [.obj 0] s) (fun r => ∃ l, beg l = true ∧ r = (.sh (.str l), s)) (fun _ => False) := by
  unfold w_law_begin s_law_begin
  walk_at "U"
  refine Al.btox (of_spec hp (by simp) (by simp)) fun r hr => ?_
  obtain ⟨d, hd, rfl⟩ := hr
  walk_at "U"
  refine Al.btox (worth_spec hp) fun r hr => ?_
  obtain ⟨n, hn, rfl⟩ := hr
  walk_at "U"
  simp only [figs_eq]
  walk_at "U"
  have hk : ∃ k : Nat, d = .int (k : Nat) := by
    simp only [List.mem_cons, List.not_mem_nil, or_false] at hd
    rcases hd with rfl | rfl | rfl | rfl | rfl | rfl | rfl
    all_goals first | exact ⟨0, rfl⟩ | exact ⟨1, rfl⟩ | exact ⟨2, rfl⟩ | exact ⟨3, rfl⟩ | exact ⟨4, rfl⟩ | exact ⟨5, rfl⟩
  obtain ⟨k, rfl⟩ := hk
  walk_at "U"
  simp only [slD, b5_len]
  walk_at "U"
  refine .ret ⟨_, ?_, rfl⟩
  show beg (((b5 n).drop 0).take _) = true
  exact beg_take (b5_beg _) _
theorem under_eq (l : List Nat) (hl : l.length ≤ 1000) : w_law_under M [.str l] s = .ret (.fr (.lst (((List.range 32).filter fun n => (b5 (n : Nat)).take l.length == l).map fun n => .int (n : Nat))), s) := by
  unfold w_law_under s_law_under
  have hb : l.length ≤ big := by unfold big; omega
  walk_at "U"
  rw [elc_fil (List.range 32) (fun n => .int (0 + (n : Nat))) (fun n => (b5 (n : Nat)).take l.length == l) (fun n => .int (n : Nat)) (s' := s)]
  · walk_at "U"
  · have h32 := rng1_eq (n := 32) (by decide)
    rw [show ((32 : Nat) : Int) = 32 from rfl] at h32
    walk_at "U"
    rw [h32]
  · decide
  · intro n hn
    have hb5 : (b5 n).length ≤ big := by simp [b5_len, big]
    refine ⟨_, rfl, ?_, fun _ => ?_⟩
    · walk_at "U"
      simp only [Int.zero_add, figs_eq]
      walk_at "US"
    · walk_at "U"
      rw [Int.zero_add]
/-! ### bits -/
theorem isbeg_str (l : List Nat) (hl : l.length ≤ 1000) : w_is_beginning M [.str l] s = .ret (.sh (.bl (beg l)), s) := by
  unfold w_is_beginning s_is_beginning
  have hb : l.length ≤ big := by unfold big; omega
  have hlc : eLc (M := M) [1] (eItems anyOf (eVar M 0)) (gdName 1) eYes (eBinD (blD inD) (eVar M 1) (eC M (.str [48, 49]))) [some (.str l), none] s = .ret (.fr (.lst (l.map fun c => .bl (isSign c))), s) := by
    refine elc_map l (fun c => .str [c]) _ (by walk_at "U"; rfl) hb fun c hc => ⟨_, rfl, ?_⟩
    walk_at "U"
    simp only [inD]
    walk_at "U"
    congr 3
    by_cases h1 : c = 48 <;> by_cases h2 : c = 49 <;> simp [isSign, h1, h2]
  by_cases h5 : l.length ≤ 5
  · have h5i : ((l.length : Nat) : Int) ≤ 5 := by omega
    walk_at "US"
    simp [beg, h5]
  · have h5i : ¬ ((l.length : Nat) : Int) ≤ 5 := by omega
    walk_at "US"
    simp [beg, h5]
def turnN (l : List Nat) : List Nat := l.dropLast ++ (if l.getLast? = some 49 then [48] else [49])
theorem turned_eq (l : List Nat) (hl : l.length ≤ 1000) (hn : l ≠ []) : w_turned M [.str l] s = .ret (.sh (.str (turnN l)), s) := by
  unfold w_turned s_turned
  have hb : l.length ≤ big := by unfold big; omega
  have hlast := at_last l hn
  have hg : l.getLast? = some (l.getLast hn) := List.getLast?_eq_some_getLast hn
  walk_at "US"
  by_cases h49 : l.getLast hn = 49
  · have hc : ([l.getLast hn] == [49]) = true := by simp [h49]
    have ha := fun c : Nat => add_ss (a := l.dropLast) (b := [c]) (by rw [List.length_dropLast]; show _ + 1 ≤ 1000000; omega)
    simp only [hc]
    walk_at "U"
    simp only [ha]
    walk_at "U"
    simp [turnN, hg, h49]
  · have hc : ([l.getLast hn] == [49]) = false := by simp [h49]
    have ha := fun c : Nat => add_ss (a := l.dropLast) (b := [c]) (by rw [List.length_dropLast]; show _ + 1 ≤ 1000000; omega)
    simp only [hc]
    walk_at "U"
    simp only [ha]
    walk_at "U"
    simp [turnN, hg, h49]
def xE (M : WM K) (n : Str) (fl : FSpec) (s : M.S) : Gx M R := .exc (⟨n, fl.map (fD [])⟩, s)
theorem brother_bad (l : List Nat) (hl : l.length ≤ 1000) (h : beg l = false ∨ l = []) : w_brother M [.str l] s = .exc (⟨"BadBeginning", x_BadBeginning.map (fD [])⟩, s) := by
  unfold w_brother s_brother
  rcases h with h | h
  · walk_at "U"
    simp only [isbeg_str l hl, h]
    walk_at "U"
  · subst h
    walk_at "U"
    simp only [isbeg_str [] (by simp), show beg [] = true from rfl]
    walk_at "U"
theorem brother_ok (l : List Nat) (h : beg l = true) (hn : l ≠ []) : w_brother M [.str l] s = .ret (.sh (.str (turnN l)), s) := by
  have hl : l.length ≤ 1000 := by have := beg_len h; omega
  unfold w_brother s_brother
  have hq : (l == []) = false := by simp [hn]
  walk_at "U"
  simp only [isbeg_str l hl, h]
  walk_at "US"
  simp only [turned_eq l hl hn]
  walk_at "U"
theorem span_bad (l : List Nat) (hl : l.length ≤ 1000) (h : beg l = false) : w_span M [.str l] s = .exc (⟨"BadBeginning", x_BadBeginning.map (fD [])⟩, s) := by
  unfold w_span s_span
  walk_at "U"
  simp only [isbeg_str l hl, h]
  walk_at "U"
theorem span_ok (l : List Nat) (h : beg l = true) : w_span M [.str l] s = .ret (.sh (.tup [.int (valN l * 2 ^ (5 - l.length)), .int ((valN l + 1) * 2 ^ (5 - l.length))]), s) := by
  have hl : l.length ≤ 1000 := by have := beg_len h; omega
  unfold w_span s_span
  walk_at "U"
  simp only [isbeg_str l hl, h]
  walk_at "U"
  have hsg : l.all isSign = true := by
    simp only [beg, Bool.and_eq_true] at h
    exact h.2
  have hsm : ∀ c ∈ l, c = 48 ∨ c = 49 := fun c hc => by
    have := List.all_eq_true.mp hsg c hc
    simpa [isSign] using this
  have h5 : l.length ≤ 5 := beg_len h
  rw [for_pre l (fun c => .str [c]) (fun t => [some (.sh (.str l)), some (.sh (.int t.1)), t.2, none]) (fun (t : Int × Option VV) (c : Nat) => (2 * t.1 + ((c : Int) - 48), some (.sh (.str [c])))) (0, none) (s' := s) ?e ?r ?h]
  case e => walk_at "U"; rfl
  case r => rfl
  case h =>
    intro pre c post hl
    refine ⟨_, rfl, ?_⟩
    have h1 := foldl_fst (fun (a : Int) (c : Nat) => 2 * a + ((c : Int) - 48)) (fun c => some (VV.sh (.str [c]))) pre (0, none)
    generalize hf : List.foldl _ _ pre = t at h1 ⊢
    obtain ⟨t1, t2⟩ := t
    have hpl : pre.length ≤ 5 := by
      have := congrArg List.length hl
      simp at this; omega
    obtain ⟨v0, v1⟩ := val_lt (l := pre) (List.all_eq_true.mpr fun c hc => List.all_eq_true.mp hsg c (by rw [hl]; simp [hc])) hpl
    have h1 : t1 = valN pre := h1
    have hc := hsm c (by rw [hl]; simp)
    have hm := mul_ok (i := 2) (j := t1) (small_of (by decide) (by decide)) (small_of (by omega) (by omega))
    have hi := int_c (c := c) (by omega) (by omega)
    walk_at "U"
    simp only [hm, hi]
    walk_at "U"
  have h1 := foldl_fst (fun (a : Int) (c : Nat) => 2 * a + ((c : Int) - 48)) (fun c => some (VV.sh (.str [c]))) l (0, none)
  generalize hf : List.foldl _ _ l = f at h1 ⊢
  obtain ⟨t1, t2⟩ := f
  have h1 : t1 = valN l := h1
  have hb : l.length ≤ big := by unfold big; omega
  obtain ⟨v0, v1⟩ := val_lt hsg h5
  have e5 : ((5 : Int) - (l.length : Nat)).toNat = 5 - l.length := by omega
  have hs1 := shl_ii (i := t1) (j := 5 - (l.length : Nat)) (by omega) (by omega) (small_of (by omega) (by omega))
  have hs2 := shl_ii (i := t1 + 1) (j := 5 - (l.length : Nat)) (by omega) (by omega) (small_of (by omega) (by omega))
  walk_at "U"
  simp only [hb]
  walk_at "U"
  simp only [hs1, hs2]
  walk_at "U"
  rw [e5, h1]
end
end VK

namespace VK
open PySem PySem.Spec PyProof.Rows L2 VQ
section
variable {K : PySem.W.Frag} {M : WM K} {s : M.S} {pull : Dfs M}
/-! ### _law_same of a thing and itself -/
mutual
def okS : Nat → D → Bool
  | _ + 1, .non => true
  | _ + 1, .bl _ => true
  | _ + 1, .int _ => true
  | _ + 1, .str _ => true
  | n + 1, .tup l => decide (l.length ≤ 1000) && okSs n l
  | n + 1, .lst l => decide (l.length ≤ 1000) && okSs n l
  | _, _ => false
def okSs : Nat → List D → Bool
  | _, [] => true
  | n, d :: r => okS n d && okSs n r
end
theorem okSs_mem {n : Nat} : ∀ {l : List D}, okSs n l = true → ∀ d ∈ l, okS n d = true
  | [], _, _, h => by cases h
  | d :: r, h, x, hx => by
    simp -implicitDefEqProofs only [okSs, Bool.and_eq_true] at h
    rcases List.mem_cons.mp hx with e | e
    · rw [e]; exact h.1
    · exact okSs_mem h.2 x e
theorem same_seq (n : Nat) (b : Bool) (l : List D) (hl : l.length ≤ 1000) (ih : ∀ d ∈ l, w_law_same M n [d, d] s = .ret (.sh (.bl true), s)) : w_law_same M (n + 1) [if b then .lst l else .tup l, if b then .lst l else .tup l] s = .ret (.sh (.bl true), s) := by
  have hb : l.length ≤ big := by unfold big; omega
  unfold w_law_same s_law_same
  cases b
  all_goals
    simp -implicitDefEqProofs only [Bool.false_eq_true, if_false, if_true]
    walk_at "U"
    rw [elc_map (List.range l.length) (fun k => .int (0 + (k : Nat))) (fun _ => .bl true) (s' := s) ?e ?l ?h]
    case e =>
      walk_at "U"
      simp -implicitDefEqProofs only [rng1_eq (n := l.length) (by omega)]
    case l => rw [List.length_range]; exact hb
    case h =>
      intro k hk
      rw [List.mem_range] at hk
      refine ⟨_, rfl, ?_⟩
      have ha : atI l (0 + (k : Nat)) = some l[k] := by rw [Int.zero_add]; exact atI_nat (by simp [hk])
      walk_at "U"
      simp -implicitDefEqProofs only [ha]
      walk_at "U"
      simp -implicitDefEqProofs only [ih l[k] (List.getElem_mem hk)]
      walk_at "U"
    walk_at "U"
    rw [show (List.range l.length).all (fun _ => true) = true by simp]
theorem same_nil (n : Nat) : w_law_same M (n + 1) [.non, .non] s = .ret (.sh (.bl true), s) := by
  unfold w_law_same s_law_same
  walk_at "U"
theorem same_bl (n : Nat) (b : Bool) : w_law_same M (n + 1) [.bl b, .bl b] s = .ret (.sh (.bl true), s) := by
  unfold w_law_same s_law_same
  walk_at "U"
theorem same_int (n : Nat) (b : Int) : w_law_same M (n + 1) [.int b, .int b] s = .ret (.sh (.bl true), s) := by
  unfold w_law_same s_law_same
  walk_at "U"
theorem same_str (n : Nat) (b : List Nat) : w_law_same M (n + 1) [.str b, .str b] s = .ret (.sh (.bl true), s) := by
  unfold w_law_same s_law_same
  walk_at "U"
theorem same_refl (n : Nat) : ∀ d : D, okS n d = true → w_law_same M n [d, d] s = .ret (.sh (.bl true), s) := by
  induction n with
  | zero => intro d h; cases d <;> simp [okS] at h
  | succ n ih =>
    intro d h
    cases d with
    | non => exact same_nil n
    | bl b => exact same_bl n b
    | int b => exact same_int n b
    | str b => exact same_str n b
    | tup l =>
      simp -implicitDefEqProofs only [okS, Bool.and_eq_true, decide_eq_true_eq] at h
      exact same_seq n false l h.1 fun d hd => ih d (okSs_mem h.2 d hd)
    | lst l =>
      simp -implicitDefEqProofs only [okS, Bool.and_eq_true, decide_eq_true_eq] at h
      exact same_seq n true l h.1 fun d hd => ih d (okSs_mem h.2 d hd)
    | _ => simp [okS] at h
end
end VK

namespace VK
open PySem PySem.Spec PyProof.Rows L2 VQ
def U02 (l : List Nat) : List Nat := (List.range 32).filter fun n => (b5 (n : Nat)).take l.length == l
def ok02 (l : List Nat) : Bool := decide ((U02 l)[0]? = some ((valN l * 2 ^ (5 - l.length)).toNat)) && decide ((U02 l).getLast? = some ((valN l + 1) * 2 ^ (5 - l.length) - 1).toNat) && decide (0 ≤ valN l * 2 ^ (5 - l.length)) && decide (0 < (valN l + 1) * 2 ^ (5 - l.length)) &&
  (l == [] || (beg (turnN l) && turnN l != [] && turnN (turnN l) == l && sortI ((U02 l ++ U02 (turnN l)).map fun (n : Nat) => (n : Int)) == (U02 l.dropLast).map fun (n : Nat) => (n : Int)))
theorem ok02_all : ∀ l ∈ begsN 5, ok02 l = true := by decide +kernel
def odds02 : List (List Nat) := [[48, 49, 50], [50], [32], [48, 49, 48, 49, 48, 49], [48, 48, 48, 48, 48, 48], [97], [49, 32], [48, 45]]
section
variable {K : PySem.W.Frag} {M : WM K} {s : M.S} {pull : Dfs M} {xt : Xt}
theorem odd_spec (hp : PullOk pull) : Al (w_law_odd_begin M pull [.obj 0] s) (fun r => ∃ l, beg l = false ∧ l.length ≤ 1000 ∧ r = (.sh (.str l), s)) (fun _ => False) := by
  unfold w_law_odd_begin s_law_odd_begin
  walk_at "U"
  refine Al.btox (of_spec hp (by simp) (by simp)) fun r hr => ?_
  obtain ⟨d, hd, rfl⟩ := hr
  walk_at "U"
  simp only [List.mem_cons, List.not_mem_nil, or_false] at hd
  rcases hd with rfl | rfl | rfl | rfl | rfl | rfl | rfl | rfl <;> exact .ret ⟨_, by decide, by decide, rfl⟩
theorem pure_k02 (hp : PullOk pull) (hx : xt.lookup ("BadBeginning" : PySem.Str) = some none) : Al (s_law_k02 M (w_law_begin M pull) (w_law_under M) (w_law_same M 6) (w_span M) (w_brother M) (w_law_odd_begin M pull) xt (none :: some (.sh (.obj 0)) :: List.replicate 5 none) s) (fun r => r.1 = .rt (.sh (.bl true))) (fun _ => False) := by
  have ht : triedX xt ⟨"BadBeginning", x_BadBeginning.map (fD [])⟩ = some (.tup [.str [66, 97, 100, 66, 101, 103, 105, 110, 110, 105, 110, 103], .str []]) := tried_0 hx rfl
  unfold s_law_k02
  refine al_seq (al_for (I := fun ρ s' => s' = s ∧ ∃ x y z u v, ρ = [none, some (.sh (.obj 0)), x, y, z, u, v]) (ds := (List.range 8).map fun k => .int (0 + (k : Nat))) (s' := s) ?e ⟨rfl, _, _, _, _, _, rfl⟩ ?h ?k)
  case e =>
    have h8 := rng1_eq (n := 8) (by decide)
    rw [show ((8 : Nat) : Int) = 8 from rfl] at h8
    walk_at "U"
    rw [h8]
  case h =>
    intro d hd ρ s' hI
    obtain ⟨rfl, x, y, z, u, v, rfl⟩ := hI
    refine ⟨_, rfl, ?_⟩
    refine al_seq ?_
    walk_at "E"
    refine Al.btox (begin_spec hp) fun r hr => ?_
    obtain ⟨l, hl, rfl⟩ := hr
    walk_at "E"
    refine .ret (al_nx ?_)
    have hlen : l.length ≤ 1000 := by have := beg_len hl; omega
    have hok := ok02_all l (beg_mem hl)
    simp only [ok02, Bool.and_eq_true, decide_eq_true_eq] at hok
    obtain ⟨⟨⟨⟨k1, k2⟩, k3⟩, k4⟩, k5⟩ := hok
    refine al_seqE (ρ' := [none, some (.sh (.obj 0)), some (.sh d), some (.sh (.str l)), some (.sh (.lst ((U02 l).map fun n => .int (n : Nat)))), u, v]) (s' := s') ?_ ?_
    · walk_at "E"
      simp only [under_eq l hlen]
      walk_at "E"
      rfl
    have e0 : atI ((U02 l).map fun n => D.int (n : Nat)) 0 = some (.int (valN l * 2 ^ (5 - l.length))) := by
      rw [show (0 : Int) = ((0 : Nat) : Int) from rfl]
      refine atI_nat ?_
      rw [List.getElem?_map, k1, Option.map_some, Int.toNat_of_nonneg k3]
    have hne : (U02 l).map (fun n => D.int (n : Nat)) ≠ [] := fun h => by
      rw [List.map_eq_nil_iff] at h; rw [h] at k1; cases k1
    have e1 : atI ((U02 l).map fun n => D.int (n : Nat)) (-1) = some (.int ((valN l + 1) * 2 ^ (5 - l.length) - 1)) := by
      rw [at_last _ hne]
      have := List.getLast?_eq_some_getLast hne
      rw [List.getLast?_map, k2, Option.map_some, Int.toNat_of_nonneg (by omega)] at this
      exact this.symm
    refine al_seq (al_ifF (s' := s') ?_ (al_nil (al_nx ?_)))
    · walk_at "E"
      simp only [span_ok l hl, e0, e1]
      walk_at "E"
      simp only [Int.sub_add_cancel, same_refl 6 (.tup [.int (valN l * 2 ^ (5 - l.length)), .int ((valN l + 1) * 2 ^ (5 - l.length))]) (by rfl)]
      walk_at "E"
    have hrest : ∀ u', Al (sSeq (sSet (M := M) 6 [] (eSh (eSeen (eCall 1 (w_law_odd_begin M pull) [] (eCons (eVar M 1) eNil))))) (sIf (M := M) [] (eCmpT neO (eSeen (eLst (eCons (eFst (eTried xt (eSeen (eCall 1 (w_span M) [] (eCons (eVar M 6) eNil))))) (eCons (eFst (eTried xt (eSeen (eCall 1 (w_brother M) [] (eCons (eVar M 6) eNil))))) eNil)))) (eSeen (eBin mulD (eSeen (eLst (eCons (eC M (.str [66, 97, 100, 66, 101, 103, 105, 110, 110, 105, 110, 103])) eNil))) (eC M (.int 2))))) (sRet [] (eSh (eC M (.bl false)))) sNil) [none, some (.sh (.obj 0)), some (.sh d), some (.sh (.str l)), some (.sh (.lst ((U02 l).map fun n => .int (n : Nat)))), u', v] s')
        (fun f => ∃ ρ2, f.1 = .nx ρ2 ∧ f.2 = s' ∧ ∃ x y z u v, ρ2 = [none, some (.sh (.obj 0)), x, y, z, u, v]) (fun _ => False) := fun u' => by
      refine al_seq ?_
      walk_at "E"
      refine Al.btox (odd_spec hp) fun r hr => ?_
      obtain ⟨o, ho1, ho2, rfl⟩ := hr
      walk_at "E"
      refine .ret (al_nx ?_)
      refine al_ifF (s' := s') ?_ (al_nil ⟨_, rfl, rfl, _, _, _, _, _, rfl⟩)
      have hm := mul_lk (l := [.str [66, 97, 100, 66, 101, 103, 105, 110, 110, 105, 110, 103]]) (k := 2) (by decide) (by decide) (by decide)
      walk_at "E"
      simp only [span_bad o ho2 ho1, brother_bad o ho2 (.inl ho1)]
      walk_at "E"
      simp only [ht, hm]
      walk_at "E"
      rw [show (List.replicate (Int.toNat 2) [D.str [66, 97, 100, 66, 101, 103, 105, 110, 110, 105, 110, 103]]).flatten = [D.str [66, 97, 100, 66, 101, 103, 105, 110, 110, 105, 110, 103], D.str [66, 97, 100, 66, 101, 103, 105, 110, 110, 105, 110, 103]] from rfl, neO_refl rfl]
    by_cases hl0 : l = []
    · refine al_seq (al_ifT (s' := s') ?_ (al_ifF (s' := s') ?_ (al_nil (al_nx (hrest u)))))
      · subst hl0
        walk_at "E"
      · walk_at "E"
        simp only [brother_bad l hlen (.inr hl0)]
        walk_at "E"
        simp only [ht]
        walk_at "E"
    · have hl1 : (l == []) = false := by simp [hl0]
      rw [hl1, Bool.false_or] at k5
      simp only [Bool.and_eq_true, beq_iff_eq, bne_iff_ne, ne_eq] at k5
      obtain ⟨⟨⟨t1, t2⟩, t3⟩, t4⟩ := k5
      have tl : (turnN l).length ≤ 1000 := by have := beg_len t1; omega
      refine al_seq (al_ifF (s' := s') ?_ ?_)
      · walk_at "E"
        simp only [hl1]
      refine al_seqE (ρ' := [none, some (.sh (.obj 0)), some (.sh d), some (.sh (.str l)), some (.sh (.lst ((U02 l).map fun n => .int (n : Nat)))), some (.sh (.str (turnN l))), v]) (s' := s') ?_ ?_
      · walk_at "E"
        simp only [brother_ok l hl hl0]
        walk_at "E"
      refine al_seq (al_ifF (s' := s') ?_ (al_nil (al_nx ?_)))
      · walk_at "E"
        simp only [brother_ok _ t1 t2, t3]
        walk_at "E"
      refine al_ifF (s' := s') ?_ (al_nil (al_nx (hrest _)))
      have hbl : l.length ≤ big := by unfold big; omega
      walk_at "E"
      simp only [under_eq _ tl, hbl]
      walk_at "E"
      have dl : l.dropLast.length ≤ 1000 := by rw [List.length_dropLast]; omega
      have u1 : ∀ k : List Nat, ((List.range 32).filter fun n => List.take k.length (b5 (n : Nat)) == k) = U02 k := fun k => rfl
      have ul : ∀ k : List Nat, (U02 k).length ≤ 32 := fun k => by
        have := List.length_filter_le (fun n => List.take k.length (b5 (n : Nat)) == k) (List.range 32)
        rw [List.length_range] at this; exact this
      have ha := add_ll (a := (U02 l).map fun n => D.int (n : Nat)) (b := (U02 (turnN l)).map fun n => D.int (n : Nat)) (by
        have := ul l; have := ul (turnN l)
        rw [List.length_map, List.length_map]; unfold big; omega)
      simp only [u1, ha, under_eq _ dl]
      walk_at "E"
      rw [← List.map_append]
      simp only [sorted_ints (fun n : Nat => (n : Int)), t4]
      walk_at "E"
      simp only [u1, List.map_map]
      rw [show (List.map (D.int ∘ fun n : Nat => (n : Int)) (U02 l.dropLast)) = (U02 l.dropLast).map fun n => D.int (n : Nat) from rfl, neO_refl (pl_ints _ _ _)]
  case k =>
    intro ρ s' hI
    obtain ⟨rfl, x, y, z, u, v, rfl⟩ := hI
    refine al_nx ?_
    refine al_ret ?_
    have a1 : beg [] = true := rfl
    have a2 : beg [48, 49] = true := rfl
    walk_at "E"
    simp only [span_ok _ a1, span_ok _ a2]
    walk_at "E"
    refine .ret ?_
    rfl
end
end VK

/-! printed by vg.py from the law's text: readings of its defs, shared. -/
namespace VK
open PySem PySem.Spec PyProof.Rows L2 VQ
def x_BadWorth : FSpec := [("called", .inr [66, 97, 100, 87, 111, 114, 116, 104])]
noncomputable section
variable {K : PySem.W.Frag} (M : WM K)
def s_law_odd_worth (f__law_of : Dfs M) (f__law_pull : Dfs M) : Sv M := (sRet (M := M) [] (eCall (M := M) 2 f__law_of [] (eCons (M := M) (eVar M 0) (eCons (M := M) (eSeen (M := M) (eLst (M := M) (eCons (M := M) (eC M (.int 32)) (eCons (M := M) (eUn (M := M) negD (eC M (.int 1))) (eCons (M := M) (eSeen (M := M) (eBin (M := M) powD (eC M (.int 10)) (eC M (.int 20)))) (eCons (M := M) (eSeen (M := M) (eBin (M := M) subD (eC M (.int 0)) (eSeen (M := M) (eBin (M := M) powD (eC M (.int 10)) (eC M (.int 20)))))) (eCons (M := M) (eSeen (M := M) (eBin (M := M) addD (eC M (.int 32)) (eSeen (M := M) (eCall (M := M) 2 f__law_pull [] (eCons (M := M) (eVar M 0) (eCons (M := M) (eC M (.int 1000)) (eNil (M := M)))))))) (eNil (M := M))))))))) (eNil (M := M))))))
def w_law_odd_worth (pull : Dfs M) : Dfs M := runD 1 (s_law_odd_worth M (w_law_of M pull) pull)
def s_is_whole : Sv M := (sRet (M := M) [] (eSh (M := M) (eAndV (M := M) truD (eUn (M := M) (fun d => (isT d .int).map .bl) (eVar M 0)) (eUn (M := M) (fun d => (truD d).map fun k => .bl (!k)) (eUn (M := M) (fun d => (isT d .bool).map .bl) (eVar M 0))))))
def w_is_whole : Dfs M := runD 1 (s_is_whole M)
def s_is_worth (f_is_whole : Dfs M) : Sv M := (sRet (M := M) [] (eSh (M := M) (eAndV (M := M) truD (eSeen (M := M) (eCall (M := M) 1 f_is_whole [] (eCons (M := M) (eVar M 0) (eNil (M := M))))) (eChain (M := M) leD ltD (eC M (.int 0)) (eVar M 0) (eC M (.int 32))))))
def w_is_worth : Dfs M := runD 1 (s_is_worth M (w_is_whole M))
def s_need_worths (f_is_worth : Dfs M) : Sv M := (sIf (M := M) [] (eNot (M := M) (eTest (M := M) truD (eSeen (M := M) (eFun (M := M) allD (eCons (M := M) (eSeen (M := M) (eLc (M := M) [1] (eItems (M := M) anyOf (eVar M 0)) (gdName 1) (eYes (M := M)) (eSeen (M := M) (eCall (M := M) 1 f_is_worth [] (eCons (M := M) (eVar M 1) (eNil (M := M))))))) (eNil (M := M))))))) (sRaise (M := M) "BadWorth" 0 x_BadWorth [] (eNil (M := M))) (sNil (M := M)))
def w_need_worths : Dfs M := runD 2 (s_need_worths M (w_is_worth M))
def s_figures_of : Sv M := (sRet (M := M) [] (eM1 (M := M) joinD (eC M (.str [])) (eSeen (M := M) (eLc (M := M) [2] (eI1 (M := M) rev1 (eVar M 1)) (gdName 2) (eYes (M := M)) (eSeen (M := M) (eFun (M := M) strD (eCons (M := M) (eSeen (M := M) (eBin (M := M) andD (eSeen (M := M) (eBin (M := M) shrD (eVar M 0) (eVar M 2))) (eC M (.int 1)))) (eNil (M := M)))))))))
def w_figures_of : Dfs M := runD 3 (s_figures_of M)
def s_shortest_of (f_figures_of : Dfs M) : Sv M := (sSeq (M := M) (sSet (M := M) 2 [] (eSh (M := M) (eSeen (M := M) (eCall (M := M) 2 f_figures_of [(.int 5)] (eCons (M := M) (eVar M 0) (eNil (M := M)))))))
    (sSeq (M := M) (sSet (M := M) 3 [] (eSh (M := M) (eSeen (M := M) (eLc (M := M) [5] (eItems (M := M) anyOf (eVar M 1)) (gdName 5) (eYes (M := M)) (eSeen (M := M) (eCall (M := M) 2 f_figures_of [(.int 5)] (eCons (M := M) (eVar M 5) (eNil (M := M)))))))))
    (sSeq (M := M) (sFor (M := M) [] (eI1 (M := M) rng1 (eSeen (M := M) (eBin (M := M) addD (eC M (.int 5)) (eC M (.int 1))))) (gtName 4) (sIf (M := M) [] (eNot (M := M) (eTest (M := M) truD (eSeen (M := M) (eFun (M := M) anyD (eCons (M := M) (eSeen (M := M) (eLc (M := M) [6] (eItems (M := M) anyOf (eVar M 3)) (gdName 6) (eYes (M := M)) (eSeen (M := M) (eM1 (M := M) startsD (eVar M 6) (eSeen (M := M) (eSl (M := M) (eVar M 2) (eNoPt (M := M)) (ePt (M := M) (eVar M 4)))))))) (eNil (M := M))))))) (sRet (M := M) [] (eSl (M := M) (eVar M 2) (eNoPt (M := M)) (ePt (M := M) (eVar M 4)))) (sNil (M := M))))
    (sRet (M := M) [] (eSh (M := M) (eC M .non))))))
def w_shortest_of : Dfs M := runD 7 (s_shortest_of M (w_figures_of M))
def s_shortest (f_need_worths : Dfs M) (f_shortest_of : Dfs M) : Sv M := (sSeq (M := M) (sDrop (M := M) [] (eCall (M := M) 1 f_need_worths [] (eCons (M := M) (eSeen (M := M) (eLst (M := M) (eCons (M := M) (eVar M 0) (eNil (M := M))))) (eNil (M := M)))))
    (sSeq (M := M) (sDrop (M := M) [] (eCall (M := M) 1 f_need_worths [] (eCons (M := M) (eVar M 1) (eNil (M := M)))))
    (sRet (M := M) [] (eCall (M := M) 2 f_shortest_of [] (eCons (M := M) (eVar M 0) (eCons (M := M) (eVar M 1) (eNil (M := M))))))))
def w_shortest : Dfs M := runD 2 (s_shortest M (w_need_worths M) (w_shortest_of M))
def s_law_k03 (f__law_worth : Dfs M) (f__law_pull : Dfs M) (f__law_of : Dfs M) (f__law_figs : Dfs M) (f__law_under : Dfs M) (f__law_same : Dfs M) (f_shortest : Dfs M) (f__law_odd_worth : Dfs M) (xt : Xt) : Sv M := (sSeq (M := M) (sFor (M := M) [] (eI1 (M := M) rng1 (eC M (.int 6))) (gtName 2) (sSeq (M := M) (sSet (M := M) 3 [] (eSh (M := M) (eSeen (M := M) (eCall (M := M) 1 f__law_worth [] (eCons (M := M) (eVar M 1) (eNil (M := M)))))))
    (sSeq (M := M) (sSet (M := M) 4 [] (eSh (M := M) (eSeen (M := M) (eLc (M := M) [12] (eI1 (M := M) rng1 (eSeen (M := M) (eCall (M := M) 2 f__law_pull [] (eCons (M := M) (eVar M 1) (eCons (M := M) (eSeen (M := M) (eCall (M := M) 2 f__law_of [] (eCons (M := M) (eVar M 1) (eCons (M := M) (eSeen (M := M) (eLst (M := M) (eCons (M := M) (eC M (.int 10)) (eCons (M := M) (eC M (.int 10)) (eCons (M := M) (eC M (.int 60)) (eNil (M := M))))))) (eNil (M := M)))))) (eNil (M := M))))))) (gdName 12) (eYes (M := M)) (eSeen (M := M) (eCall (M := M) 2 f__law_of [] (eCons (M := M) (eVar M 1) (eCons (M := M) (eSeen (M := M) (eLst (M := M) (eCons (M := M) (eSeen (M := M) (eCall (M := M) 1 f__law_worth [] (eCons (M := M) (eVar M 1) (eNil (M := M))))) (eCons (M := M) (eSeen (M := M) (eBin (M := M) xorD (eVar M 3) (eC M (.int 1)))) (eCons (M := M) (eSeen (M := M) (eBin (M := M) xorD (eVar M 3) (eC M (.int 16)))) (eCons (M := M) (eVar M 3) (eNil (M := M)))))))) (eNil (M := M))))))))))
    (sSeq (M := M) (sIf (M := M) [] (eCmpT (M := M) eqO (eSeen (M := M) (eCall (M := M) 2 f__law_pull [] (eCons (M := M) (eVar M 1) (eCons (M := M) (eC M (.int 2)) (eNil (M := M)))))) (eC M (.int 0))) (sSet (M := M) 4 [] (eSh (M := M) (eSeen (M := M) (eLc (M := M) [13] (eItems (M := M) anyOf (eVar M 4)) (gdName 13) (eCmpT (M := M) neO (eVar M 13) (eVar M 3)) (eVar M 13))))) (sNil (M := M)))
    (sSeq (M := M) (sSet (M := M) 5 [] (eSh (M := M) (eSeen (M := M) (eFun (M := M) listD (eCons (M := M) (eVar M 4) (eNil (M := M)))))))
    (sSeq (M := M) (sSet (M := M) 6 [] (eSh (M := M) (eC M .non)))
    (sSeq (M := M) (sFor (M := M) [] (eI3 (M := M) rngD (eC M (.int 5)) (eSeen (M := M) (eBin (M := M) subD (eC M (.int 0)) (eC M (.int 1)))) (eSeen (M := M) (eBin (M := M) subD (eC M (.int 0)) (eC M (.int 1))))) (gtName 7) (sSeq (M := M) (sSet (M := M) 8 [] (eSh (M := M) (eSeen (M := M) (eSl (M := M) (eSeen (M := M) (eCall (M := M) 1 f__law_figs [] (eCons (M := M) (eVar M 3) (eNil (M := M))))) (eNoPt (M := M)) (ePt (M := M) (eVar M 7))))))
    (sIf (M := M) [] (eNot (M := M) (eTest (M := M) truD (eSeen (M := M) (eFun (M := M) anyD (eCons (M := M) (eSeen (M := M) (eLc (M := M) [13] (eItems (M := M) anyOf (eSeen (M := M) (eCall (M := M) 1 f__law_under [] (eCons (M := M) (eVar M 8) (eNil (M := M)))))) (gdName 13) (eYes (M := M)) (eBinD (M := M) (blD inD) (eVar M 13) (eVar M 4)))) (eNil (M := M))))))) (sSet (M := M) 6 [] (eSh (M := M) (eVar M 8))) (sNil (M := M)))))
    (sSeq (M := M) (sIf (M := M) [] (eOr (M := M) (eNot (M := M) (eTest (M := M) truD (eSeen (M := M) (eCall (M := M) 2 f__law_same [] (eCons (M := M) (eSeen (M := M) (eCall (M := M) 2 f_shortest [] (eCons (M := M) (eVar M 3) (eCons (M := M) (eVar M 5) (eNil (M := M)))))) (eCons (M := M) (eVar M 6) (eNil (M := M)))))))) (eCmpT (M := M) neO (eVar M 5) (eVar M 4))) (sRet (M := M) [] (eSh (M := M) (eC M (.bl false)))) (sNil (M := M)))
    (sSeq (M := M) (sSet (M := M) 9 [] (eSh (M := M) (eSeen (M := M) (eCall (M := M) 2 f__law_pull [] (eCons (M := M) (eVar M 1) (eCons (M := M) (eSeen (M := M) (eBin (M := M) addD (eSeen (M := M) (eFun (M := M) lenD (eCons (M := M) (eVar M 4) (eNil (M := M))))) (eC M (.int 1)))) (eNil (M := M))))))))
    (sSeq (M := M) (sSet (M := M) 10 [] (eSh (M := M) (eSeen (M := M) (eCall (M := M) 1 f__law_odd_worth [] (eCons (M := M) (eVar M 1) (eNil (M := M)))))))
    (sSeq (M := M) (sSet (M := M) 11 [] (eSh (M := M) (eSeen (M := M) (eBin (M := M) addD (eSeen (M := M) (eBin (M := M) addD (eSeen (M := M) (eSl (M := M) (eVar M 4) (eNoPt (M := M)) (ePt (M := M) (eVar M 9)))) (eSeen (M := M) (eLst (M := M) (eCons (M := M) (eVar M 10) (eNil (M := M))))))) (eSeen (M := M) (eSl (M := M) (eVar M 4) (ePt (M := M) (eVar M 9)) (eNoPt (M := M))))))))
    (sIf (M := M) [] (eCmpT (M := M) neO (eSeen (M := M) (eLst (M := M) (eCons (M := M) (eFst (M := M) (eTried (M := M) xt (eSeen (M := M) (eCall (M := M) 2 f_shortest [] (eCons (M := M) (eVar M 3) (eCons (M := M) (eVar M 11) (eNil (M := M)))))))) (eCons (M := M) (eFst (M := M) (eTried (M := M) xt (eSeen (M := M) (eCall (M := M) 2 f_shortest [] (eCons (M := M) (eVar M 10) (eCons (M := M) (eVar M 4) (eNil (M := M)))))))) (eNil (M := M)))))) (eSeen (M := M) (eBin (M := M) mulD (eSeen (M := M) (eLst (M := M) (eCons (M := M) (eC M (.str [66, 97, 100, 87, 111, 114, 116, 104])) (eNil (M := M))))) (eC M (.int 2))))) (sRet (M := M) [] (eSh (M := M) (eC M (.bl false)))) (sNil (M := M))))))))))))))
    (sRet (M := M) [] (eSh (M := M) (eAndV (M := M) truD (eBinD (M := M) (blD eqO) (eSeen (M := M) (eCall (M := M) 2 f_shortest [] (eCons (M := M) (eC M (.int 5)) (eCons (M := M) (eSeen (M := M) (eLst (M := M) (eNil (M := M)))) (eNil (M := M)))))) (eC M (.str []))) (eBinD (M := M) (blD eqO) (eSeen (M := M) (eCall (M := M) 2 f_shortest [] (eCons (M := M) (eC M (.int 0)) (eCons (M := M) (eSeen (M := M) (eLst (M := M) (eCons (M := M) (eC M (.int 31)) (eNil (M := M))))) (eNil (M := M)))))) (eC M (.str [48])))))))
end
end VK

/-! printed by vg.py from the law's text: readings of its defs, shared. -/
namespace VK
open PySem PySem.Spec PyProof.Rows L2 VQ
def x_BadPoint : FSpec := [("called", .inr [66, 97, 100, 80, 111, 105, 110, 116])]
def x_BadBox : FSpec := [("called", .inr [66, 97, 100, 66, 111, 120])]
def x_Unlike : FSpec := [("called", .inr [85, 110, 108, 105, 107, 101])]
noncomputable section
variable {K : PySem.W.Frag} (M : WM K)
def s_law_odd_thing (f__law_of : Dfs M) : Sv M := (sSeq (M := M) (sSet (M := M) 2 [] (eSh (M := M) (eSeen (M := M) (eLst (M := M) (eCons (M := M) (eC M .non) (eCons (M := M) (eC M (.int 5)) (eCons (M := M) (eC M (.str [48, 49])) (eCons (M := M) (eC M (.bl true)) (eCons (M := M) (eTup (M := M) (eNil (M := M))) (eCons (M := M) (eSeen (M := M) (eBin (M := M) mulD (eTup (M := M) (eCons (M := M) (eC M (.str [])) (eNil (M := M)))) (eC M (.int 6)))) (eCons (M := M) (eSeen (M := M) (eBin (M := M) mulD (eTup (M := M) (eCons (M := M) (eC M (.int 0)) (eNil (M := M)))) (eC M (.int 6)))) (eCons (M := M) (eSeen (M := M) (eBin (M := M) mulD (eSeen (M := M) (eLst (M := M) (eCons (M := M) (eC M (.str [])) (eNil (M := M))))) (eVar M 1))) (eCons (M := M) (eSeen (M := M) (eBin (M := M) mulD (eTup (M := M) (eCons (M := M) (eC M (.str [50])) (eNil (M := M)))) (eVar M 1))) (eCons (M := M) (eSeen (M := M) (eBin (M := M) mulD (eTup (M := M) (eCons (M := M) (eC M (.str [48, 48, 48, 48, 48, 48])) (eNil (M := M)))) (eVar M 1))) (eNil (M := M))))))))))))))))
    (sSeq (M := M) (sSet (M := M) 2 [] (eSh (M := M) (eSeen (M := M) (eBin (M := M) addD (eVar M 2) (eSeen (M := M) (eLst (M := M) (eCons (M := M) (eSeen (M := M) (eBin (M := M) mulD (eTup (M := M) (eCons (M := M) (eC M (.int 32)) (eNil (M := M)))) (eVar M 1))) (eCons (M := M) (eSeen (M := M) (eBin (M := M) mulD (eTup (M := M) (eCons (M := M) (eUn (M := M) negD (eC M (.int 1))) (eNil (M := M)))) (eVar M 1))) (eCons (M := M) (eSeen (M := M) (eBin (M := M) mulD (eTup (M := M) (eCons (M := M) (eC M (.bl true)) (eNil (M := M)))) (eVar M 1))) (eCons (M := M) (eSeen (M := M) (eBin (M := M) mulD (eTup (M := M) (eCons (M := M) (eC M .non) (eNil (M := M)))) (eVar M 1))) (eCons (M := M) (eTup (M := M) (eCons (M := M) (eC M (.str [])) (eCons (M := M) (eC M (.int 7)) (eNil (M := M))))) (eNil (M := M)))))))))))))
    (sSeq (M := M) (sSet (M := M) 2 [] (eSh (M := M) (eSeen (M := M) (eBin (M := M) addD (eVar M 2) (eSeen (M := M) (eLst (M := M) (eCons (M := M) (eSeen (M := M) (eBin (M := M) mulD (eTup (M := M) (eCons (M := M) (eSeen (M := M) (eLst (M := M) (eNil (M := M)))) (eNil (M := M)))) (eVar M 1))) (eCons (M := M) (eTup (M := M) (eCons (M := M) (eC M (.str [])) (eCons (M := M) (eSeen (M := M) (eLst (M := M) (eNil (M := M)))) (eNil (M := M))))) (eCons (M := M) (eTup (M := M) (eCons (M := M) (eSeen (M := M) (eLst (M := M) (eCons (M := M) (eC M (.int 0)) (eNil (M := M))))) (eNil (M := M)))) (eCons (M := M) (eTup (M := M) (eCons (M := M) (eC M (.int 0)) (eCons (M := M) (eSeen (M := M) (eLst (M := M) (eNil (M := M)))) (eNil (M := M))))) (eNil (M := M))))))))))))
    (sRet (M := M) [] (eCall (M := M) 2 f__law_of [] (eCons (M := M) (eVar M 0) (eCons (M := M) (eVar M 2) (eNil (M := M)))))))))
def w_law_odd_thing (pull : Dfs M) : Dfs M := runD 3 (s_law_odd_thing M (w_law_of M pull))
def s_law_box (f__law_begin : Dfs M) : Sv M := (sRet (M := M) [] (eFun (M := M) tupleD (eCons (M := M) (eSeen (M := M) (eLc (M := M) [2] (eI1 (M := M) rng1 (eVar M 1)) (gdName 2) (eYes (M := M)) (eSeen (M := M) (eCall (M := M) 1 f__law_begin [] (eCons (M := M) (eVar M 0) (eNil (M := M))))))) (eNil (M := M)))))
def w_law_box (pull : Dfs M) : Dfs M := runD 3 (s_law_box M (w_law_begin M pull))
def s_law_point (f__law_worth : Dfs M) : Sv M := (sRet (M := M) [] (eFun (M := M) tupleD (eCons (M := M) (eSeen (M := M) (eLc (M := M) [2] (eI1 (M := M) rng1 (eVar M 1)) (gdName 2) (eYes (M := M)) (eSeen (M := M) (eCall (M := M) 1 f__law_worth [] (eCons (M := M) (eVar M 0) (eNil (M := M))))))) (eNil (M := M)))))
def w_law_point (pull : Dfs M) : Dfs M := runD 3 (s_law_point M (w_law_worth M pull))
def s_is_box (f_is_beginning : Dfs M) : Sv M := (sRet (M := M) [] (eSh (M := M) (eAndV (M := M) truD (eUn (M := M) (fun d => (isT d .tuple).map .bl) (eVar M 0)) (eAndV (M := M) truD (eChain (M := M) leD leD (eC M (.int 1)) (eSeen (M := M) (eFun (M := M) lenD (eCons (M := M) (eVar M 0) (eNil (M := M))))) (eC M (.int 5))) (eSeen (M := M) (eFun (M := M) allD (eCons (M := M) (eSeen (M := M) (eLc (M := M) [1] (eItems (M := M) anyOf (eVar M 0)) (gdName 1) (eYes (M := M)) (eSeen (M := M) (eCall (M := M) 1 f_is_beginning [] (eCons (M := M) (eVar M 1) (eNil (M := M))))))) (eNil (M := M)))))))))
def w_is_box : Dfs M := runD 2 (s_is_box M (w_is_beginning M))
def s_is_point (f_is_worth : Dfs M) : Sv M := (sRet (M := M) [] (eSh (M := M) (eAndV (M := M) truD (eUn (M := M) (fun d => (isT d .tuple).map .bl) (eVar M 0)) (eAndV (M := M) truD (eChain (M := M) leD leD (eC M (.int 1)) (eSeen (M := M) (eFun (M := M) lenD (eCons (M := M) (eVar M 0) (eNil (M := M))))) (eC M (.int 5))) (eSeen (M := M) (eFun (M := M) allD (eCons (M := M) (eSeen (M := M) (eLc (M := M) [1] (eItems (M := M) anyOf (eVar M 0)) (gdName 1) (eYes (M := M)) (eSeen (M := M) (eCall (M := M) 1 f_is_worth [] (eCons (M := M) (eVar M 1) (eNil (M := M))))))) (eNil (M := M)))))))))
def w_is_point : Dfs M := runD 2 (s_is_point M (w_is_worth M))
def s_point_box (f_figures_of : Dfs M) : Sv M := (sRet (M := M) [] (eFun (M := M) tupleD (eCons (M := M) (eSeen (M := M) (eLc (M := M) [1] (eItems (M := M) anyOf (eVar M 0)) (gdName 1) (eYes (M := M)) (eSeen (M := M) (eCall (M := M) 2 f_figures_of [(.int 5)] (eCons (M := M) (eVar M 1) (eNil (M := M))))))) (eNil (M := M)))))
def w_point_box : Dfs M := runD 2 (s_point_box M (w_figures_of M))
def s_box_of (f_is_point : Dfs M) (f_point_box : Dfs M) : Sv M := (sSeq (M := M) (sIf (M := M) [] (eNot (M := M) (eTest (M := M) truD (eSeen (M := M) (eCall (M := M) 1 f_is_point [] (eCons (M := M) (eVar M 0) (eNil (M := M))))))) (sRaise (M := M) "BadPoint" 0 x_BadPoint [] (eNil (M := M))) (sNil (M := M)))
    (sRet (M := M) [] (eCall (M := M) 1 f_point_box [] (eCons (M := M) (eVar M 0) (eNil (M := M))))))
def w_box_of : Dfs M := runD 1 (s_box_of M (w_is_point M) (w_point_box M))
def s_volume (f_is_box : Dfs M) : Sv M := (sSeq (M := M) (sIf (M := M) [] (eNot (M := M) (eTest (M := M) truD (eSeen (M := M) (eCall (M := M) 1 f_is_box [] (eCons (M := M) (eVar M 0) (eNil (M := M))))))) (sRaise (M := M) "BadBox" 0 x_BadBox [] (eNil (M := M))) (sNil (M := M)))
    (sRet (M := M) [] (eBin (M := M) shlD (eC M (.int 1)) (eSeen (M := M) (eFun (M := M) sumD (eCons (M := M) (eSeen (M := M) (eLc (M := M) [1] (eItems (M := M) anyOf (eVar M 0)) (gdName 1) (eYes (M := M)) (eSeen (M := M) (eBin (M := M) subD (eC M (.int 5)) (eSeen (M := M) (eFun (M := M) lenD (eCons (M := M) (eVar M 1) (eNil (M := M))))))))) (eNil (M := M))))))))
def w_volume : Dfs M := runD 2 (s_volume M (w_is_box M))
def s_under : Sv M := (sRet (M := M) [] (eFun (M := M) allD (eCons (M := M) (eSeen (M := M) (eLc (M := M) [2, 3] (eI2 (M := M) zipS (eVar M 0) (eVar M 1)) (gdTup 2 (gdCons (gdName 2) (gdCons (gdName 3) gdNil))) (eYes (M := M)) (eSeen (M := M) (eM1 (M := M) startsD (eVar M 2) (eVar M 3))))) (eNil (M := M)))))
def w_under : Dfs M := runD 4 (s_under M)
def s_holds (f_is_box : Dfs M) (f_is_point : Dfs M) (f_under : Dfs M) (f_point_box : Dfs M) : Sv M := (sSeq (M := M) (sIf (M := M) [] (eNot (M := M) (eTest (M := M) truD (eSeen (M := M) (eCall (M := M) 1 f_is_box [] (eCons (M := M) (eVar M 0) (eNil (M := M))))))) (sRaise (M := M) "BadBox" 0 x_BadBox [] (eNil (M := M))) (sNil (M := M)))
    (sSeq (M := M) (sIf (M := M) [] (eNot (M := M) (eTest (M := M) truD (eSeen (M := M) (eCall (M := M) 1 f_is_point [] (eCons (M := M) (eVar M 1) (eNil (M := M))))))) (sRaise (M := M) "BadPoint" 0 x_BadPoint [] (eNil (M := M))) (sNil (M := M)))
    (sSeq (M := M) (sIf (M := M) [] (eCmpT (M := M) neO (eSeen (M := M) (eFun (M := M) lenD (eCons (M := M) (eVar M 0) (eNil (M := M))))) (eSeen (M := M) (eFun (M := M) lenD (eCons (M := M) (eVar M 1) (eNil (M := M)))))) (sRaise (M := M) "Unlike" 0 x_Unlike [] (eNil (M := M))) (sNil (M := M)))
    (sRet (M := M) [] (eCall (M := M) 2 f_under [] (eCons (M := M) (eSeen (M := M) (eCall (M := M) 1 f_point_box [] (eCons (M := M) (eVar M 1) (eNil (M := M))))) (eCons (M := M) (eVar M 0) (eNil (M := M)))))))))
def w_holds : Dfs M := runD 2 (s_holds M (w_is_box M) (w_is_point M) (w_under M) (w_point_box M))
def s_whole : Sv M := (sRet (M := M) [] (eBin (M := M) mulD (eTup (M := M) (eCons (M := M) (eC M (.str [])) (eNil (M := M)))) (eVar M 0)))
def w_whole : Dfs M := runD 1 (s_whole M)
def s_law_box_of (f__law_figs : Dfs M) : Sv M := (sRet (M := M) [] (eFun (M := M) tupleD (eCons (M := M) (eSeen (M := M) (eLc (M := M) [1] (eItems (M := M) anyOf (eVar M 0)) (gdName 1) (eYes (M := M)) (eSeen (M := M) (eCall (M := M) 1 f__law_figs [] (eCons (M := M) (eVar M 1) (eNil (M := M))))))) (eNil (M := M)))))
def w_law_box_of : Dfs M := runD 2 (s_law_box_of M (w_law_figs M))
def s_law_volume (f__law_under : Dfs M) : Sv M := (sSeq (M := M) (sSet (M := M) 1 [] (eSh (M := M) (eC M (.int 1))))
    (sSeq (M := M) (sFor (M := M) [] (eItems (M := M) anyOf (eVar M 0)) (gtName 2) (sSet (M := M) 1 [] (eSh (M := M) (eSeen (M := M) (eBin (M := M) mulD (eVar M 1) (eSeen (M := M) (eFun (M := M) lenD (eCons (M := M) (eSeen (M := M) (eCall (M := M) 1 f__law_under [] (eCons (M := M) (eVar M 2) (eNil (M := M))))) (eNil (M := M))))))))))
    (sRet (M := M) [] (eSh (M := M) (eVar M 1)))))
def w_law_volume : Dfs M := runD 3 (s_law_volume M (w_law_under M))
def s_law_starts : Sv M := (sRet (M := M) [] (eSh (M := M) (eBinD (M := M) (blD eqO) (eSeen (M := M) (eSl (M := M) (eVar M 0) (eNoPt (M := M)) (ePt (M := M) (eSeen (M := M) (eFun (M := M) lenD (eCons (M := M) (eVar M 1) (eNil (M := M)))))))) (eVar M 1))))
def w_law_starts : Dfs M := runD 2 (s_law_starts M)
def s_law_inside (f__law_starts : Dfs M) : Sv M := (sRet (M := M) [] (eFun (M := M) allD (eCons (M := M) (eSeen (M := M) (eLc (M := M) [2, 3] (eI2 (M := M) zipOf (eVar M 0) (eVar M 1)) (gdTup 2 (gdCons (gdName 2) (gdCons (gdName 3) gdNil))) (eYes (M := M)) (eSeen (M := M) (eCall (M := M) 2 f__law_starts [] (eCons (M := M) (eVar M 2) (eCons (M := M) (eVar M 3) (eNil (M := M)))))))) (eNil (M := M)))))
def w_law_inside : Dfs M := runD 4 (s_law_inside M (w_law_starts M))
def s_law_k04 (f__law_pull : Dfs M) (f__law_box : Dfs M) (f__law_point : Dfs M) (f__law_of : Dfs M) (f__law_under : Dfs M) (f_is_box : Dfs M) (f_is_point : Dfs M) (f_box_of : Dfs M) (f_volume : Dfs M) (f_holds : Dfs M) (f_whole : Dfs M) (f__law_box_of : Dfs M) (f__law_volume : Dfs M) (f__law_inside : Dfs M) (f__law_same : Dfs M) (f__law_odd_thing : Dfs M) (xt : Xt) : Sv M := (sSeq (M := M) (sFor (M := M) [] (eI1 (M := M) rng1 (eC M (.int 6))) (gtName 2) (sSeq (M := M) (sSet (M := M) 3 [] (eSh (M := M) (eSeen (M := M) (eBin (M := M) addD (eC M (.int 1)) (eSeen (M := M) (eCall (M := M) 2 f__law_pull [] (eCons (M := M) (eVar M 1) (eCons (M := M) (eC M (.int 5)) (eNil (M := M))))))))))
    (sSeq (M := M) (sTgt (M := M) [] (eTup (M := M) (eCons (M := M) (eSeen (M := M) (eCall (M := M) 2 f__law_box [] (eCons (M := M) (eVar M 1) (eCons (M := M) (eVar M 3) (eNil (M := M)))))) (eCons (M := M) (eSeen (M := M) (eCall (M := M) 2 f__law_point [] (eCons (M := M) (eVar M 1) (eCons (M := M) (eVar M 3) (eNil (M := M)))))) (eNil (M := M))))) (gtTup 2 (gtCons (gtName 4) (gtCons (gtName 5) gtNil))))
    (sSeq (M := M) (sIf (M := M) [] (eCmpT (M := M) eqO (eSeen (M := M) (eCall (M := M) 2 f__law_pull [] (eCons (M := M) (eVar M 1) (eCons (M := M) (eC M (.int 2)) (eNil (M := M)))))) (eC M (.int 0))) (sSet (M := M) 5 [] (eSh (M := M) (eSeen (M := M) (eFun (M := M) tupleD (eCons (M := M) (eSeen (M := M) (eLc (M := M) [10] (eItems (M := M) anyOf (eVar M 4)) (gdName 10) (eYes (M := M)) (eSeen (M := M) (eCall (M := M) 2 f__law_of [] (eCons (M := M) (eVar M 1) (eCons (M := M) (eSeen (M := M) (eCall (M := M) 1 f__law_under [] (eCons (M := M) (eVar M 10) (eNil (M := M))))) (eNil (M := M)))))))) (eNil (M := M))))))) (sNil (M := M)))
    (sSeq (M := M) (sSet (M := M) 6 [] (eSh (M := M) (eSeen (M := M) (eLst (M := M) (eCons (M := M) (eSeen (M := M) (eCall (M := M) 1 f_is_box [] (eCons (M := M) (eVar M 4) (eNil (M := M))))) (eCons (M := M) (eSeen (M := M) (eCall (M := M) 1 f_is_point [] (eCons (M := M) (eVar M 5) (eNil (M := M))))) (eCons (M := M) (eSeen (M := M) (eCall (M := M) 1 f_box_of [] (eCons (M := M) (eVar M 5) (eNil (M := M))))) (eCons (M := M) (eSeen (M := M) (eCall (M := M) 1 f_volume [] (eCons (M := M) (eVar M 4) (eNil (M := M))))) (eCons (M := M) (eSeen (M := M) (eCall (M := M) 2 f_holds [] (eCons (M := M) (eVar M 4) (eCons (M := M) (eVar M 5) (eNil (M := M)))))) (eCons (M := M) (eSeen (M := M) (eCall (M := M) 1 f_whole [] (eCons (M := M) (eVar M 3) (eNil (M := M))))) (eNil (M := M))))))))))))
    (sSeq (M := M) (sSet (M := M) 7 [] (eSh (M := M) (eSeen (M := M) (eLst (M := M) (eCons (M := M) (eC M (.bl true)) (eCons (M := M) (eC M (.bl true)) (eCons (M := M) (eSeen (M := M) (eCall (M := M) 1 f__law_box_of [] (eCons (M := M) (eVar M 5) (eNil (M := M))))) (eCons (M := M) (eSeen (M := M) (eCall (M := M) 1 f__law_volume [] (eCons (M := M) (eVar M 4) (eNil (M := M))))) (eCons (M := M) (eSeen (M := M) (eCall (M := M) 2 f__law_inside [] (eCons (M := M) (eSeen (M := M) (eCall (M := M) 1 f__law_box_of [] (eCons (M := M) (eVar M 5) (eNil (M := M))))) (eCons (M := M) (eVar M 4) (eNil (M := M)))))) (eCons (M := M) (eSeen (M := M) (eBin (M := M) mulD (eTup (M := M) (eCons (M := M) (eC M (.str [])) (eNil (M := M)))) (eVar M 3))) (eNil (M := M))))))))))))
    (sSeq (M := M) (sIf (M := M) [] (eOr (M := M) (eNot (M := M) (eTest (M := M) truD (eSeen (M := M) (eCall (M := M) 2 f__law_same [] (eCons (M := M) (eVar M 6) (eCons (M := M) (eVar M 7) (eNil (M := M)))))))) (eNot (M := M) (eTest (M := M) truD (eSeen (M := M) (eCall (M := M) 2 f__law_same [] (eCons (M := M) (eSeen (M := M) (eLst (M := M) (eCons (M := M) (eSeen (M := M) (eCall (M := M) 1 f_is_box [] (eCons (M := M) (eVar M 5) (eNil (M := M))))) (eCons (M := M) (eSeen (M := M) (eCall (M := M) 1 f_is_point [] (eCons (M := M) (eVar M 4) (eNil (M := M))))) (eNil (M := M)))))) (eCons (M := M) (eSeen (M := M) (eLst (M := M) (eCons (M := M) (eC M (.bl false)) (eCons (M := M) (eC M (.bl false)) (eNil (M := M)))))) (eNil (M := M))))))))) (sRet (M := M) [] (eSh (M := M) (eC M (.bl false)))) (sNil (M := M)))
    (sSeq (M := M) (sSet (M := M) 8 [] (eSh (M := M) (eSeen (M := M) (eCall (M := M) 2 f__law_odd_thing [] (eCons (M := M) (eVar M 1) (eCons (M := M) (eVar M 3) (eNil (M := M))))))))
    (sSeq (M := M) (sIf (M := M) [] (eNot (M := M) (eTest (M := M) truD (eSeen (M := M) (eCall (M := M) 2 f__law_same [] (eCons (M := M) (eSeen (M := M) (eLst (M := M) (eCons (M := M) (eSeen (M := M) (eCall (M := M) 1 f_is_box [] (eCons (M := M) (eVar M 8) (eNil (M := M))))) (eCons (M := M) (eSeen (M := M) (eCall (M := M) 1 f_is_point [] (eCons (M := M) (eVar M 8) (eNil (M := M))))) (eNil (M := M)))))) (eCons (M := M) (eSeen (M := M) (eLst (M := M) (eCons (M := M) (eC M (.bl false)) (eCons (M := M) (eC M (.bl false)) (eNil (M := M)))))) (eNil (M := M)))))))) (sRet (M := M) [] (eSh (M := M) (eC M (.bl false)))) (sNil (M := M)))
    (sSeq (M := M) (sSet (M := M) 9 [] (eLst (M := M) (eCons (M := M) (eFst (M := M) (eTried (M := M) xt (eSeen (M := M) (eCall (M := M) 1 f_box_of [] (eCons (M := M) (eVar M 8) (eNil (M := M))))))) (eCons (M := M) (eFst (M := M) (eTried (M := M) xt (eSeen (M := M) (eCall (M := M) 1 f_volume [] (eCons (M := M) (eVar M 8) (eNil (M := M))))))) (eCons (M := M) (eFst (M := M) (eTried (M := M) xt (eSeen (M := M) (eCall (M := M) 2 f_holds [] (eCons (M := M) (eVar M 8) (eCons (M := M) (eVar M 8) (eNil (M := M)))))))) (eNil (M := M)))))))
    (sSeq (M := M) (sAppend (M := M) 9 [] (eFst (M := M) (eTried (M := M) xt (eSeen (M := M) (eCall (M := M) 2 f_holds [] (eCons (M := M) (eVar M 4) (eCons (M := M) (eVar M 8) (eNil (M := M)))))))))
    (sSeq (M := M) (sIf (M := M) [9] (eCmpT (M := M) neO (eVar M 9) (eSeen (M := M) (eLst (M := M) (eCons (M := M) (eC M (.str [66, 97, 100, 80, 111, 105, 110, 116])) (eCons (M := M) (eC M (.str [66, 97, 100, 66, 111, 120])) (eCons (M := M) (eC M (.str [66, 97, 100, 66, 111, 120])) (eCons (M := M) (eC M (.str [66, 97, 100, 80, 111, 105, 110, 116])) (eNil (M := M))))))))) (sRet (M := M) [] (eSh (M := M) (eC M (.bl false)))) (sNil (M := M)))
    (sIf (M := M) [] (eAnd (M := M) (eCmpT (M := M) gtD (eVar M 3) (eC M (.int 1))) (eCmpT (M := M) neO (eFst (M := M) (eTried (M := M) xt (eSeen (M := M) (eCall (M := M) 2 f_holds [] (eCons (M := M) (eSeen (M := M) (eSl (M := M) (eVar M 4) (ePt (M := M) (eC M (.int 1))) (eNoPt (M := M)))) (eCons (M := M) (eVar M 5) (eNil (M := M)))))))) (eC M (.str [85, 110, 108, 105, 107, 101])))) (sRet (M := M) [] (eSh (M := M) (eC M (.bl false)))) (sNil (M := M)))))))))))))))
    (sRet (M := M) [] (eSh (M := M) (eBinD (M := M) (blD eqO) (eC M (.int 5)) (eC M (.int 5))))))
end
end VK

/-! VqZ: for i, a in enumerate(x), x a list or a tuple. -/
namespace VQ
open PySem PySem.Spec PyProof.Rows L2 ZS
theorem en_new {v : Value} {o : Obj} {Hv : Heap → Prop} (B : Begins v o Hv) : Meets (Builtin.«enumerate.__new__» ⟨[.type "enumerate", v], []⟩) (fun _ R s => Hv s.heap ∧
    R (.ok (.ret (.ref (s.heap.push o).objs.size))) { s with heap := (s.heap.push o).push { cls := .type "enumerate", data := .fields #[.none, .bool false, .ref s.heap.objs.size, rawInt 0, .none, .none] } }) := .of_wp fun prog w A R s h => by
  obtain ⟨hp, g, d, tk, os⟩ := s
  obtain ⟨h1, h⟩ := h
  have hsub := sub_enumerate
  have q1 : ∀ {A' : Around} {E : Value → Shared → Prop} {Q : Value → Shared → Prop}, Q (.ref hp.objs.size) ⟨hp.push o, g, d, tk, os⟩ → wpAny (model prog w) A' (pyIter v) Q E ⟨hp, g, d, tk, os⟩ := fun q => B.iter prog w _ _ ⟨hp, g, d, tk, os⟩ _ h1 q
  wp_walk using q1
  refine wpAny_stack_any fun st => wpAny_pure ?_
  split
  · rename_i c _ _ _ _ _
    cases (c == Value.type "enumerate")
    all_goals
      wp_walk using q1
      exact ⟨_, rfl, h⟩
  · wp_walk using q1
    exact ⟨_, rfl, h⟩
theorem en_begins {prog : Program} {w : World} {A : Around} {E : Value → Shared → Prop} {s : Shared} {v : Value} {o : Obj} {Hv : Heap → Prop} {Q : Value → Shared → Prop} (B : Begins v o Hv) (h1 : Hv s.heap)
    (h : ∀ h', IsEnum h' (s.heap.objs.size + 1) s.heap.objs.size 0 .none → h'.get? s.heap.objs.size = some o → (∀ b x, s.heap.get? b = some x → h'.get? b = some x) → Q (.ref (s.heap.objs.size + 1)) { s with heap := h' }) :
    wpAny (model prog w) A (call (.type "enumerate") [v]) Q E s := by
  refine callType_new F.called_enumerate (by decide) (F.typeCall_enumerate_1 _) (F.newCall_enumerate_1 _) (fun obj => F.args_object_init_2 obj _) F.entry_enumerate_new (en_new B) ⟨h1, ?_⟩
  have z1 : (s.heap.push o).objs.size = s.heap.objs.size + 1 := by rw [Heap.size_push]
  have he : IsEnum ((s.heap.push o).push { cls := .type "enumerate", data := .fields #[.none, .bool false, .ref s.heap.objs.size, rawInt 0, .none, .none] }) (s.heap.objs.size + 1) s.heap.objs.size 0 .none := by
    have := Heap.get?_push_size (s.heap.push o) (o := { cls := .type "enumerate", data := .fields #[.none, .bool false, .ref s.heap.objs.size, rawInt 0, .none, .none] }) rfl
    rwa [z1] at this
  show _ ∧ _
  rw [z1]
  exact ⟨⟨_, he, rfl⟩, h _ he (Heap.get?_push_of_some _ (Heap.get?_push_size _ B.free)) fun b x q => Heap.get?_push_of_some _ (Heap.get?_push_of_some _ q)⟩
def IteK (K : PySem.W.Frag) (k : Bool) (a : Addr) : It :=
  ⟨fun i H => ∃ xs : List V, SqK K k H a xs ∧ i < xs.length, fun i H v H' => ∃ T x, v = .ref T ∧ H T = none ∧ H' = upd H T (.tup [.int (i : Nat), x]) ∧ ∀ xs, SqK K k H a xs → xs[i]? = some x, fun i H => ∃ xs : List V, SqK K k H a xs ∧ xs.length = i⟩
theorem turn_enK {P : Program} {w : World} {K : PySem.W.Frag} {elts : List Expr} {kk : Nat} {tpos : Pos} (k : Bool) {a e it : Addr} (hne : e ≠ it) (hea : e ≠ a) (hia : a ≠ it) :
    Turn P w K (.Tuple elts kk tpos) (IteK K k a) [e, it] e (fun i h => (∃ old, IsEnum h e it ((i : Nat) : Int) old) ∧ ItrK k h it a i) where
  mem := by simp
  obj := fun i h st b hb => by
    obtain ⟨⟨old, he⟩, h1⟩ := st
    rcases (show b = e ∨ b = it by simpa using hb) with q | q
    · rw [q]; exact ⟨_, he, fun v q => nomatch q⟩
    · rw [q]; exact itrK_obj h1
  keep := fun i h h' st kp => by
    obtain ⟨⟨old, he⟩, h1⟩ := st
    exact ⟨⟨old, kp e (by simp) _ he⟩, h1.keep fun o q => kp it (by simp) o q⟩
  item := by
    intro X hP hw hK hc i pins s σ H E I hf st hg
    subst hP hw hK
    obtain ⟨⟨old, he⟩, h1⟩ := st
    obtain ⟨xs, qx, hi⟩ := hg
    obtain ⟨its, rv, p, pl⟩ := invK k I qx
    have l1 := rv.length
    have hh : X.A.in1.handled = none := I.ok.hd hc
    have D1 := drawsK k (prog := X.prog) (w := X.w) hh it a hia its.toArray
    have hel : e < s.heap.objs.size := Heap.lt_size he
    refine wpAny_pyNext_enum_itemC D1 he ⟨h1, p⟩ (by simp; omega) hne (by simp [hne, hea]) fun u h' tk hu ho a2 hT hsz hk => ⟨_, rfl, wpAny_letOwnedTupleGo_enum (s := { s with heap := h', toks := tk + 1 }) ho fun h'' he' sb => ?_⟩
    obtain ⟨x, hx⟩ : ∃ x, xs[i]? = some x := ⟨xs[i], by simp [hi]⟩
    obtain ⟨v, hv, rx⟩ := rv.get hx
    have eu : u = v := by simpa [hv] using hu.symm
    subst eu
    have hT2 : h''.get? s.heap.objs.size = some { cls := .type "tuple", data := .seq #[.int i tk, u] } := (sb.2 _ (Nat.ne_of_gt hel)).trans hT
    have new : ObjOk X.prog X.w (upd H s.heap.objs.size (.tup [.int (i : Nat), x])) h'' s.heap.objs.size (.tup [.int (i : Nat), x]) := ⟨by show 2 ≤ sizeLine; decide, [.int i tk, u], .cons ⟨_, rfl⟩ (.cons rx .nil), ⟨_, hT2, rfl, _, rfl⟩⟩
    have I1 : L2.Inv X pins σ (upd H s.heap.objs.size (.tup [.int (i : Nat), x])) { s with heap := h'', toks := tk + 1 } :=
      I.turnedNew (t' := tk + 1) (ch := [e, it]) (fun c o hb q => (sb.2 c (fun q' => hb (by simp [q']))).trans (hk c o (fun q' => hb (by simp [q'])) (fun q' => hb (by simp [q'])) q)) hf (Nat.le_refl _) new
    refine ⟨.ref s.heap.objs.size, _, I1, rfl, ⟨_, x, rfl, I.hok.fresh (Nat.le_refl _), rfl, fun l hl => by rw [sqK_inj k I hl qx]; exact hx⟩, ⟨⟨u, ?_⟩, ?_⟩, fun c hcm => ?_⟩
    · rw [show ((i + 1 : Nat) : Int) = (i : Int) + 1 by omega]; exact he'
    · exact a2.1.keep fun o q => (sb.2 _ (Ne.symm hne)).trans q
    · have hlt : c < s.heap.objs.size := by
        obtain ⟨o1, e1, _⟩ := itrK_obj h1
        rcases (show c = e ∨ c = it by simpa using hcm) with q | q
        · rw [q]; exact hel
        · rw [q]; exact Heap.lt_size e1
      rw [upd_ne (Nat.ne_of_lt hlt)]
      exact (hf c hcm).1
  done := by
    intro X hP hw hK hc i pins s σ H E I hf st hg
    subst hP hw hK
    obtain ⟨⟨old, he⟩, h1⟩ := st
    obtain ⟨xs, qx, e1⟩ := hg
    obtain ⟨its, rv, p, _⟩ := invK k I qx
    have l1 := rv.length
    have hh : X.A.in1.handled = none := I.ok.hd hc
    have D1 := drawsK k (prog := X.prog) (w := X.w) hh it a hia its.toArray
    have z1 : its.toArray.size = i := by simp; omega
    rw [z1] at D1
    obtain ⟨f0, f1, f2, f3, f4, f5⟩ := hf it (by simp)
    exact wpAny_pyNext_enum_endD D1 he ⟨h1, p⟩ fun h' eb => ⟨rfl, I.turned (t' := s.toks) (fun b o hb q => eb b o hb q) f0 f1 f3 f4 f5⟩
  self := fun A i s Q E st h => let ⟨⟨_, he⟩, _⟩ := st; wpAny_pyIter_enum he h
def iEnK (K : PySem.W.Frag) (ta : TA) : TI := fun σ H R => ta σ H fun vs H1 => ∃ a k xs, vs = [.ref a] ∧ SqK K k H1 a xs ∧ R (IteK K k a) H1
theorem pi_enK {X : Cx} {e : Expr} {ta : TA} {p pos tpos : Pos} {elts : List Expr} {kk : Nat} (hm : X.mg "enumerate" = none) (ha : PA X [e] ta) (hg : Gl X "enumerate" := by rfl) (hs : starEach [e] X.env = [(false, eval e X.env)] := by rfl) :
    PI X (.Tuple elts kk tpos) (.Call (.Name "enumerate" p) [e] [] pos) (iEnK X.K ta) := by
  refine ⟨fun pins s σ H R I h => ?_⟩
  refine Call_ (ld_blt I hg hm boot_enumerate (PyProof.Rows.callWith_type1 (thn (ha.run pos pins s σ H _ I h) fun us s1 ⟨vs, H1, I1, r1, q1⟩ => ?_) hs rfl))
  obtain ⟨a, k, xs, ex, hq, q⟩ := q1
  subst ex
  cases r1 with
  | cons r rr =>
    cases rr
    cases r
    obtain ⟨its, rv, p1, la⟩ := invK k I1 hq
    refine en_begins (beginsK k a its.toArray) p1 fun h' he hit hk => wpAny_pyIter_enum he ?_
    have I2 : L2.Inv X pins σ H1 { s1 with heap := h' } := I1.kept (t' := s1.toks) hk
    refine ⟨s1.heap.objs.size + 1, [s1.heap.objs.size + 1, s1.heap.objs.size], _, _, H1, rfl, I2, turn_enK k (Nat.succ_ne_self _) (Nat.ne_of_gt (Nat.lt_succ_of_lt la)) (Nat.ne_of_lt la), ⟨⟨.none, he⟩, itrK_new k hit⟩, fun b hb => ?_, q⟩
    have hle : s1.heap.objs.size ≤ b := by
      rcases (show b = s1.heap.objs.size + 1 ∨ b = s1.heap.objs.size by simpa using hb) with z | z <;> rw [z] <;> first | exact Nat.le_add_right _ _ | exact Nat.le_refl _
    exact I1.fpOk hle (I1.hok.fresh hle)
section
variable {X : Cx} {M : WM X.K} {W : WX} {a : Expr} {ea : Ev M D}
def enG : Nat → List D → List D
  | _, [] => []
  | i, d :: r => .tup [.int (i : Nat), d] :: enG (i + 1) r
theorem enG_len : ∀ (i : Nat) (l : List D), (enG i l).length = l.length
  | _, [] => rfl
  | i, _ :: r => by simp [enG, enG_len (i + 1) r]
theorem enG_get : ∀ (j : Nat) (l : List D) (i : Nat) (y : D), (enG j l)[i]? = some y → ∃ d, l[i]? = some d ∧ y = .tup [.int ((j + i : Nat) : Int), d]
  | _, [], _, _, h => by simp [enG] at h
  | j, d :: r, 0, y, h => by
    simp [enG] at h
    exact ⟨d, rfl, h.symm⟩
  | j, d :: r, i + 1, y, h => by
    obtain ⟨e, h1, h2⟩ := enG_get (j + 1) r i y (by simpa [enG] using h)
    exact ⟨e, by simpa using h1, by rw [h2]; congr 4; omega⟩
def enumA (d : D) : Option (List D) := (seqL d).map (enG 0)
theorem it_enumA {p pos tpos : Pos} {elts : List Expr} {kk : Nat} (hm : X.mg "enumerate" = none) (ha : PE X a (tD M X.mg W ea)) (hg : Gl X "enumerate" := by rfl) (hs : starEach [a] X.env = (false, eval a X.env) :: starEach [] X.env := by rfl) :
    PI X (.Tuple elts kk tpos) (.Call (.Name "enumerate" p) [a] [] pos) (tIt M W (eI1 enumA ea)) := (pi_enK hm (pa_cons ha pa_nil hs) hg hs).con fun σ H R ⟨ρ, p, hH, ok, en, q⟩ => by
  subst hH
  show tD M X.mg W ea σ p.H fun x H1 => ∃ a k xs, [x] = [.ref a] ∧ SqK X.K k H1 a xs ∧ R (IteK X.K k a) H1
  refine tG.seq ok en q fun r1 x q1 ex1 ok1 es1 dx h1 => ?_
  obtain ⟨d, s1⟩ := r1
  cases z : seqL d with
  | none => simp only [op, enumA, z, Option.map_none] at h1; exact h1.elim
  | some l =>
    simp only [op, enumA, z, Option.map_some] at h1
    obtain ⟨k, a, vs, rfl, a1, a2, a3⟩ := seqL_at ok1 z dx
    refine ⟨a, k, vs, rfl, a1, h1 _ q1 ex1 ok1 es1 fun H' sm => ⟨fun i hi => ⟨vs, a3 H' sm, by rw [a2.length]; rw [enG_len] at hi; exact hi⟩, fun i y hy => ?_⟩⟩
    obtain ⟨e, g1, rfl⟩ := enG_get 0 _ _ _ hy
    obtain ⟨v, g3, g4⟩ := a2.get g1
    refine ⟨⟨vs, a3 H' sm, (List.getElem?_eq_some_iff.mp g3).1⟩, fun x H2 ⟨T, x', e1, e2, e3, e4⟩ => .inr <| .inl ⟨T, _, _, e2, e1, e3, rfl, ?_⟩⟩
    have t1 := e4 vs (a3 H' sm)
    rw [g3] at t1; cases t1
    rw [Nat.zero_add]
    exact ⟨_, _, rfl, rfl, DenL.one g4⟩
end
end VQ

/-! VrA: calls of own defs with keywords. -/
namespace VQ
open PySem PySem.Spec PyProof.Rows L2
/-- the values in their places, then the keywords' -/
abbrev catD (us ws : List D) : List D := us ++ ws
/-- a def of the text called with np values in their places and keywords named ks; g puts both in the parameters' order -/
structure KwOk (P : Program) (w : World) (K : PySem.W.Frag) (mg : Str → Option Value) (base : Heap) (M : WM K) (k : Nat) (x : Str) (np : Nat) (ks : List Str) (n : Nat) (fs : List D → M.S → Gx M R) (g : List D → List D → List D) : Prop where
  ex : ∃ (f : Addr) (fd : FuncData) (ps : List Str) (gg : List Value → List Value → List Value) (gV : List V → List V → List V), FnOk P w K mg base (L2.CX P w) k f fd ps (spV M mg n fs) ∧ mg x = some (.ref f) ∧ PySem.W.keepIn K (.ref f) = true ∧ KBn K fd ps np ks gg gV ∧
    ∀ ad Hv (ds es : List D) (vs ws : List V), DenL K ad Hv ds vs → DenL K ad Hv es ws → ds.length = np → es.length = ks.length → DenL K ad Hv (g ds es) (gV vs ws)
theorem bindsTo_kw {s : Shared} {fd : FuncData} {args : Args} {binds : List (Str × Value)} (h : bindArgs fd args = pure binds) : BindsTo s fd args binds := .of_eq h
section
variable {X : Cx} {CX : CXT} {k n : Nat} {f : Addr} {fd : FuncData} {ps ks : List Str} {sp : Sp} {E : L2.St → XK} {x : Str} {p pos : Pos} {e : Expr} {es : List Expr} {kws : List Keyword} {t tk : TA} {g : List Value → List Value → List Value} {gV : List V → List V → List V}
def tCallKW (n m : Nat) (sp : Sp) (gV : List V → List V → List V) (E : L2.St → XK) (t tk : TA) : TE := fun σ H Q => t σ H fun vs H1 => tk σ H1 fun zs H2 => vs.length = n ∧ zs.length = m ∧ sp (gV vs zs) H2 Q (E σ)
theorem run_kw {pins : List (Addr × Obj)} {σ : L2.St} {H : Hp} {s : Shared} {Q : VK} {us ws : List Value} {vs zs : List V} (F : FnOk X.prog X.w X.K X.mg X.base CX k f fd ps sp) (hr : Room k X.A) (hb : KBn X.K fd ps n ks g gV) (hx : PassesAt CX X σ (E σ))
    (I : L2.Inv X pins σ H s) (r : Vals vs us) (rz : Vals zs ws) (l1 : vs.length = n) (l2 : zs.length = ks.length) (h : sp (gV vs zs) H Q (E σ)) : wpAny (model X.prog X.w) X.A (call (.ref f) us (ks.zip ws)) (EP X pins σ Q) X.xe s := by
  have r2 := hb.rel r rz
  refine wpAny_call (codeAny_mono (F.run X.A X.stack s H ⟨us, ks.zip ws⟩ (g us ws) (gV vs zs) Q (E σ) hr I.env0 (hb.to s us ws I.kIn (r.length.symm.trans l1) (rz.length.symm.trans l2)) r2 h) fun r s' hq => ?_)
  cases r with
  | error e => exact hx pins H s e s' I hq
  | ok fl =>
    cases fl with
    | ret u => exact I.after hq
    | next => exact False.elim hq
    | brk => exact False.elim hq
    | cont => exact False.elim hq
theorem pe_kw (F : FnOk X.prog X.w X.K X.mg X.base CX k f fd ps sp) (hr : Room k X.A) (hg : Gl X x) (hm : X.mg x = some (.ref f)) (hk : PySem.W.keepIn X.K (.ref f) = true) (hb : KBn X.K fd ps n ks g gV) (hx : ∀ σ, PassesAt CX X σ (E σ))
    (ha : PA X (e :: es) t) (hkw : PK X kws tk) (hall : (backToKw pos (keywordEach kws X.env)).all (·.1.isSome) = true := by rfl) (hks : (backToKw pos (keywordEach kws X.env)).filterMap (·.1) = ks := by rfl)
    (hdb : (x == ("__debug__" : Str)) = false := by decide) (he : starEach (e :: es) X.env = (false, eval e X.env) :: starEach es X.env := by rfl)
    (hpl : ((backTo pos (starEach (e :: es) X.env)).any (·.1) || (backToKw pos (keywordEach kws X.env)).any (·.1.isNone)) = false := by rfl) :
    PE X (.Call (.Name x p) (e :: es) kws pos) (tCallKW n ks.length sp gV E t tk) := by
  refine ⟨fun pins s σ H Q I h => ?_⟩
  refine wpAny_Call_Name_kw (ld_glob I hg hm ?_ hdb)
  refine PySem.W.callWith_KW (h₀ := X.base) I.ok.mod.kin hk hall (thn (ha.run pos pins s σ H _ I h) fun us s1 ⟨vs, H1, I1, r, q⟩ => ?_) hpl he
  refine thn (hkw.run pos pins s1 σ H1 _ I1 q) fun ws s2 ⟨zs, H2, I2, rz, l1, l2, q2⟩ => ⟨I2.kIn, ?_⟩
  rw [hks]
  exact run_kw F hr hb (hx σ) I2 r rz l1 l2 q2
theorem pe_kw0 (F : FnOk X.prog X.w X.K X.mg X.base CX k f fd ps sp) (hr : Room k X.A) (hg : Gl X x) (hm : X.mg x = some (.ref f)) (hk : PySem.W.keepIn X.K (.ref f) = true) (hb : KBn X.K fd ps n ks g gV) (hx : ∀ σ, PassesAt CX X σ (E σ))
    (hkw : PK X kws tk) (hall : (backToKw pos (keywordEach kws X.env)).all (·.1.isSome) = true := by rfl) (hks : (backToKw pos (keywordEach kws X.env)).filterMap (·.1) = ks := by rfl)
    (hdb : (x == ("__debug__" : Str)) = false := by decide)
    (hpl : ((backTo pos (starEach [] X.env)).any (·.1) || (backToKw pos (keywordEach kws X.env)).any (·.1.isNone)) = false := by rfl) :
    PE X (.Call (.Name x p) [] kws pos) (tCallKW n ks.length sp gV E tNil tk) := by
  refine ⟨fun pins s σ H Q I h => ?_⟩
  refine wpAny_Call_Name_kw (ld_glob I hg hm ?_ hdb)
  refine PySem.W.callWith_KW0 (h₀ := X.base) I.ok.mod.kin hk hall ?_ hpl
  refine thn (hkw.run pos pins s σ H _ I h) fun ws s2 ⟨zs, H2, I2, rz, l1, l2, q2⟩ => ⟨I2.kIn, ?_⟩
  rw [hks]
  exact run_kw (us := []) (vs := []) F hr hb (hx σ) I2 .nil rz l1 l2 q2
end
/-- f(.., k = ..) -/
def eCallK {K : PySem.W.Frag} {M : WM K} (n np nk : Nat) (f : List D → M.S → Gx M R) (g : List D → List D → List D) (ea ek : Ev M (List D)) : Ev M R := fun ρ s => (ea ρ s).bind fun a => (ek ρ a.2).bind fun b => if a.1.length = np ∧ b.1.length = nk ∧ (g a.1 b.1).length = n then f (g a.1 b.1) b.2 else .bad
/-! ### keywords' data -/
section
variable {X : Cx} {M : WM X.K} {W : WX} {e : Expr} {es : List Expr} {pos kpos : Pos} {ea : Ev M D} {el ek : Ev M (List D)} {nm : Option Str} {kws : List Keyword}
theorem _root_.L2.PK.con {X : Cx} {e : List Keyword} {t t' : TA} (h : PK X e t) (i : ∀ σ H Q, t' σ H Q → t σ H Q) : PK X e t' := ⟨fun pos pins s σ H Q I q => h.run pos pins s σ H Q I (i _ _ _ q)⟩
theorem ek_nil : PK X [] (tA M X.mg W (eNil : Ev M (List D))) := pk_nil.con fun σ H Q ⟨ρ, p, hH, ok, en, q⟩ => by
  subst hH
  exact q [] p (Ext.refl p) ok rfl DenL.nil
theorem ek_cons (ha : PE X e (tD M X.mg W ea)) (hr : PK X kws (tA M X.mg W ek)) : PK X (⟨nm, e, kpos⟩ :: kws) (tA M X.mg W (eCons ea ek)) := (pk_cons ha hr).con fun σ H Q ⟨ρ, p, hH, ok, en, q⟩ => by
  subst hH
  show tD M X.mg W ea σ p.H fun x H1 => tA M X.mg W ek σ H1 fun xs H2 => Q (x :: xs) H2
  refine tG.seq ok en q fun r1 x q1 ex1 ok1 es1 dx h1 => ?_
  rw [← es1] at h1
  refine tA.seq ok1 (en.ext ex1) (XEnds ex1 h1 fun _ h => h) fun r2 ys q2 ex2 ok2 es2 dy h2 => ?_
  exact h2 _ q2 (ex1.trans ex2) ok2 es2 (DenL.cons (ex2.den dx) dy)
variable {k j n np : Nat} {fs : List D → M.S → Gx M R} {g : List D → List D → List D} {x : Str} {ks : List Str} {pp : Pos}
theorem kw_to {P : Program} {w : World} {f : Addr} {fd : FuncData} {ps : List Str} {gV : List V → List V → List V} {σ : Sl} {H : Hp} {Q : VK}
    (hd : ∀ ad Hv (ds es : List D) (vs ws : List V), DenL X.K ad Hv ds vs → DenL X.K ad Hv es ws → ds.length = np → es.length = ks.length → DenL X.K ad Hv (g ds es) (gV vs ws))
    (h : tR M X.mg W (eCallK n np ks.length fs g el ek) σ H Q) : tCallKW np ks.length (spV M X.mg n fs) gV (WE W) (tA M X.mg W el) (tA M X.mg W ek) σ H Q := by
  obtain ⟨ρ, p, hH, ok, en, q⟩ := h
  subst hH
  show tA M X.mg W el σ p.H fun vs H1 => tA M X.mg W ek σ H1 fun zs H2 => vs.length = np ∧ zs.length = ks.length ∧ spV M X.mg n fs (gV vs zs) H2 Q (WE W σ)
  refine tA.seq ok en q fun r1 xs q1 ex1 ok1 es1 dx h1 => ?_
  rw [← es1] at h1
  refine tA.seq ok1 (en.ext ex1) (XEnds ex1 h1 fun _ h => h) fun r2 ys q2 ex2 ok2 es2 dy h2 => ?_
  by_cases hl : r1.1.length = np ∧ r2.1.length = ks.length ∧ (g r1.1 r2.1).length = n
  · rw [if_pos hl] at h2
    rw [← es2] at h2
    have dl := hd _ _ _ _ _ _ (ex2.denL dx) dy hl.1 hl.2.1
    refine ⟨by rw [dx.length]; exact hl.1, by rw [dy.length]; exact hl.2.1, g r1.1 r2.1, q2, by rw [dl.length]; exact hl.2.2, rfl, ok2, dl, ?_⟩
    exact G.all_mono (fun r h v q3 e3 ok3 es3 rk => h v q3 ((ex1.trans ex2).trans e3) ok3 es3 (rk.tr (ex1.trans ex2) e3)) (fun x h cls dd q3 e3 ok3 es3 xk => h cls dd q3 (ex2.trans e3) ok3 es3 xk) h2
  · rw [if_neg hl] at h2; exact h2.elim
theorem ev_callK (c : KwOk X.prog X.w X.K X.mg X.base M k x np ks n fs g) (hr : Room j X.A) (tk : Takes X W) (ha : PA X (e :: es) (tA M X.mg W el)) (hkw : PK X kws (tA M X.mg W ek)) (hkj : k ≤ j := by decide) (hg : Gl X x := by rfl)
    (hall : (backToKw pos (keywordEach kws X.env)).all (·.1.isSome) = true := by rfl) (hks : (backToKw pos (keywordEach kws X.env)).filterMap (·.1) = ks := by rfl)
    (hdb : (x == ("__debug__" : Str)) = false := by decide) (he : starEach (e :: es) X.env = (false, eval e X.env) :: starEach es X.env := by rfl)
    (hpl : ((backTo pos (starEach (e :: es) X.env)).any (·.1) || (backToKw pos (keywordEach kws X.env)).any (·.1.isNone)) = false := by rfl) :
    PE X (.Call (.Name x pp) (e :: es) kws pos) (tR M X.mg W (eCallK n np ks.length fs g el ek)) := by
  obtain ⟨f, fd, ps, gg, gV, F, hm, hk, hb, hd⟩ := c.ex
  exact (pe_kw (E := WE W) F (hr.mono hkj) hg hm hk hb (passAt tk) ha hkw hall hks hdb he hpl).con fun σ H Q h => kw_to (P := X.prog) (w := X.w) (f := f) (fd := fd) (ps := ps) hd h
theorem ev_callK0 (c : KwOk X.prog X.w X.K X.mg X.base M k x 0 ks n fs g) (hr : Room j X.A) (tk : Takes X W) (hkw : PK X kws (tA M X.mg W ek)) (hkj : k ≤ j := by decide) (hg : Gl X x := by rfl)
    (hall : (backToKw pos (keywordEach kws X.env)).all (·.1.isSome) = true := by rfl) (hks : (backToKw pos (keywordEach kws X.env)).filterMap (·.1) = ks := by rfl)
    (hdb : (x == ("__debug__" : Str)) = false := by decide)
    (hpl : ((backTo pos (starEach [] X.env)).any (·.1) || (backToKw pos (keywordEach kws X.env)).any (·.1.isNone)) = false := by rfl) :
    PE X (.Call (.Name x pp) [] kws pos) (tR M X.mg W (eCallK n 0 ks.length fs g eNil ek)) := by
  obtain ⟨f, fd, ps, gg, gV, F, hm, hk, hb, hd⟩ := c.ex
  refine (pe_kw0 (E := WE W) F (hr.mono hkj) hg hm hk hb (passAt tk) hkw hall hks hdb hpl).con fun σ H Q h => ?_
  have h' : tA M X.mg W eNil σ H _ := kw_to (P := X.prog) (w := X.w) (f := f) (fd := fd) (ps := ps) hd h
  obtain ⟨ρ', p', hH', ok', en', q'⟩ := h'
  subst hH'
  exact q' [] p' (Ext.refl p') ok' rfl DenL.nil
end
section
variable {P : Program} {w : World} {K : PySem.W.Frag} {mg : Str → Option Value} {base : Heap} {M : WM K}
theorem kbn_of {x qual : Str} {st : Stmt} {f : Addr} {fd : FuncData} {ps ks : List Str} {np : Nat} (F : Fun K x qual st f fd)
    (h : ∀ (kV doc pm : Value) (an : Option Addr) (cdv ct : Value) (us ws : List Value), us.length = np → ws.length = ks.length → bindArgs (PySem.W.fnOf x qual (defArgs st) (defBody st) (defScope st) .none kV doc pm an cdv ct) ⟨us, ks.zip ws⟩ = pure (ps.zip (us ++ ws))) : KBn K fd ps np ks (fun us ws => us ++ ws) (fun us ws => us ++ ws) := by
  obtain ⟨oc, od, kV, doc, pm, an, cdv, ct, osl, rfl, lk, hcd⟩ := F.ex
  exact ⟨fun s us ws _ h1 h2 => .of_eq (h kV doc pm an cdv ct us ws h1 h2), fun r1 r2 => r1.append r2⟩
theorem KwOk.of {k np n : Nat} {f : Addr} {fd : FuncData} {ps ks : List Str} {x qual : Str} {st : Stmt} {fs : List D → M.S → Gx M R} (F : Fun K x qual st f fd) (hm : mg x = some (.ref f)) (hb : KBn K fd ps np ks (fun us ws => us ++ ws) (fun us ws => us ++ ws)) (h : FnOk P w K mg base (L2.CX P w) k f fd ps (spV M mg n fs)) :
    KwOk P w K mg base M k x np ks n fs (fun us ws => us ++ ws) := ⟨f, fd, ps, _, _, h, hm, F.kp, hb, fun _ _ _ _ _ _ h1 h2 _ _ => h1.append h2⟩
end
end VQ

/-! VrH: while; a, *b = x. -/
namespace VQ
open PySem PySem.Spec PyProof.Rows L2
/-- the turns a while may take -/
noncomputable def wTurns : Nat := (Classical.choice ⟨(⟨2 ^ 62, rfl⟩ : {y : Nat // y = 2 ^ 62})⟩).1
theorem wTurns_eq : wTurns = 2 ^ 62 := (Classical.choice ⟨(⟨2 ^ 62, rfl⟩ : {y : Nat // y = 2 ^ 62})⟩).2
section
variable {K : PySem.W.Frag} {M : WM K}
def whileG (m : List Nat) (c : Ev M Bool) (body : Sv M) : Nat → Sv M
  | 0, _, _ => .bad
  | n + 1, ρ, s => (inF m c ρ s).bind fun k => if k.1 = true then (body (behind M m true k.2 ρ) k.2).bind fun f => match f with
      | (.nx ρ2, s2) => whileG m c body n ρ2 s2
      | (.ct ρ2, s2) => whileG m c body n ρ2 s2
      | (.bk ρ2, s2) => .ret (.nx ρ2, s2)
      | (.rt r, s2) => .ret (.rt r, s2)
    else .ret (.nx (behind M m true k.2 ρ), k.2)
noncomputable def sWhile (m : List Nat) (c : Ev M Bool) (body : Sv M) : Sv M := whileG m c body wTurns
/-- names set one by one -/
def setVs : List Nat → List V → Sl → Sl
  | i :: is, v :: vs, σ => setVs is vs (σ.set i (some v))
  | _, _, σ => σ
def setRs : List Nat → List R → Nv → Nv
  | i :: is, r :: rs, ρ => setRs is rs (ρ.set i (some r.vv))
  | _, _, ρ => ρ
/-- the things a starred target takes -/
def starRs (j n : Nat) (ds : List D) : List R := (ds.take j).map .sh ++ .fr (.lst ((ds.drop j).take (ds.length + 1 - n))) :: ((ds.drop j).drop (ds.length + 1 - n)).map .sh
def sStar (is : List Nat) (j : Nat) (m : List Nat) (ee : Ev M D) : Sv M := fun ρ s => (inF m ee ρ s).bind fun r => match r.1 with
  | .lst ds => if is.length ≤ ds.length + 1 ∧ ds.length < big ∧ (is.all fun i => decide (i < ρ.length)) = true then .ret (.nx (setRs is (starRs j is.length ds) (behind M m (flat r.1) r.2 ρ)), r.2) else .bad
  | _ => .bad
end
section
variable {X : Cx} {pos : Pos}
def gNms (is : List Nat) : TGs := fun vs σ H Q => vs.length = is.length ∧ Q (setVs is vs σ) H
theorem nm_nil : PGs X [] (gNms []) := pgs_nil.con fun vs σ H Q ⟨h, q⟩ => ⟨List.length_eq_zero_iff.mp h, by
  have : vs = [] := List.length_eq_zero_iff.mp h
  subst this
  exact q⟩
theorem nm_any {s e : Expr} {es : List Expr} (i : Nat) {is : List Nat} (h1 : PG X e (gName i)) (h2 : PGs X es (gNms is)) (hs : (assignEach (s :: es) X.env).map (·.2) = assign e X.env :: (assignEach es X.env).map (·.2)) : PGs X (s :: es) (gNms (i :: is)) := by
  refine ⟨fun pins st σ H vs us Q I r ⟨hl, q⟩ => ?_⟩
  cases r with
  | nil => cases hl
  | cons r rr =>
    rename_i v vs u us
    rw [hs]
    refine assignInOrder_cons (thn (h1.run pins st σ H _ _ (fun σ' H' => gNms is vs σ' H' Q) I r ⟨Nat.succ.inj hl, q⟩) fun _ s1 ⟨σ1, H1, I1, q1⟩ => ?_)
    exact h2.run pins s1 σ1 H1 _ _ Q I1 rr q1
theorem nm_name (i : Nat) {x : Str} {es : List Expr} {is : List Nat} (hN : X.N.Nodup) (h2 : PGs X es (gNms is)) (hi : X.N[i]? = some x := by rfl) (hx : Loc X.env.scope x := by first | exact Or.inl rfl | exact Or.inr rfl)
    (hf : X.fn x = true ∨ X.env.scope.names.lookup x = some .local := by first | exact .inl rfl | exact .inr rfl) : PGs X (.Name x pos :: es) (gNms (i :: is)) := nm_any i (pg_name hN hi hx hf) h2 rfl
theorem nm_star (i : Nat) {x : Str} {es : List Expr} {is : List Nat} {pos' : Pos} (hN : X.N.Nodup) (h2 : PGs X es (gNms is)) (hi : X.N[i]? = some x := by rfl) (hx : Loc X.env.scope x := by first | exact Or.inl rfl | exact Or.inr rfl)
    (hf : X.fn x = true ∨ X.env.scope.names.lookup x = some .local := by first | exact .inl rfl | exact .inr rfl) : PGs X (.Starred (.Name x pos) pos' :: es) (gNms (i :: is)) := nm_any i (pg_name hN hi hx hf) h2 rfl
/-- .., *.., .. = a list -/
def gStar (K : PySem.W.Frag) (n j : Nat) (t : TGs) : TG := fun v σ H Q => ∃ a xs, v = .ref a ∧ SqL K H a xs ∧ j < n ∧ n ≤ xs.length + 1 ∧ xs.length < big ∧
  ∀ b, H b = none → t (xs.take j ++ .ref b :: (xs.drop j).drop (xs.length + 1 - n)) σ (upd H b (.lst ((xs.drop j).take (xs.length + 1 - n)))) Q
theorem star_list {prog : Program} {w : World} {A : Around} {E : Value → Shared → Prop} {s : Shared} {l : Addr} {its : List Value} {n j : Nat} {Q : List Value → Shared → Prop} (hl : s.heap.IsList l its.toArray) (hh : A.handled = none) (hj : j < n) (hn : n ≤ its.length + 1) (hz : its.length ≤ sizeLine)
    (h : ∀ (h' : Heap) tk, (∀ b o, s.heap.get? b = some o → h'.get? b = some o) → Q (its.take j ++ .ref h'.objs.size :: (its.drop j).drop (its.length + 1 - n)) { s with heap := h'.push { cls := .type "list", data := .seq ((its.drop j).take (its.length + 1 - n)).toArray }, toks := tk }) :
    wpAny (model prog w) A (unpackItems (.ref l) n (some j)) Q E s := by
  have hsz : its.toArray.size = its.length := by simp
  have lo : l < s.heap.objs.size := by
    obtain ⟨o, ho, _⟩ := id hl
    exact Heap.lt_size ho
  have lne : l ≠ s.heap.objs.size := Nat.ne_of_lt lo
  have e1 : (its.take j).length = j := by rw [List.length_take]; omega
  have e2 : (its.drop j).length = its.length - j := List.length_drop
  have e3 : (its.drop j).length - (n - 1 - j) = its.length + 1 - n := by omega
  unfold unpackItems notIterableAtAll
  refine wpAny_bind (wpAny_bind (wpAny_specialOf hl.typeIs slot_list_iter.lookup (wpAny_pure ?_)))
  rw [if_neg Bool.false_ne_true]
  refine wpAny_bind (wpAny_holding (wpAny_pyIter_list hl ?_))
  refine wpAny_bind (wpAny_holding (PySem.W.kun_draw lne j 0 _ _ ⟨_, Heap.get?_push_size _ rfl, rfl, rfl⟩ (hl.push _) (by omega) fun h1 it1 sb1 => ?_))
  rw [Nat.zero_add] at it1
  have l1 : h1.IsList l its.toArray := (hl.push _).extBut sb1.extBut lne
  have ⟨_, p1, _⟩ := id it1
  have ⟨_, p2, _⟩ := id l1
  show wpAny _ _ (if (its.take j).length < j then _ else _) _ _ _
  rw [if_neg (by omega)]
  refine wpAny_bind (wpAny_holding (PySem.W.kun_collect (s := { s with heap := h1 }) (T := "list_iterator") (.inr (.inr (.inl rfl))) (Walks.list (A := A.in1) hh s.heap.objs.size l lne its.toArray) (fun _ _ st => st.1.typeIs) (k := j) (by omega) ⟨it1, l1⟩ (Heap.lt_size p1) (Heap.lt_size p2) (fun h2 tk kp => ?_) (by rw [hsz]; exact hz)))
  show wpAny _ _ (if (its.drop j).length < n - 1 - j then _ else newList ((its.drop j).take ((its.drop j).length - (n - 1 - j))) >>= fun d => pure (its.take j ++ [d] ++ (its.drop j).drop ((its.drop j).length - (n - 1 - j)))) _ _ _
  rw [if_neg (by omega), e3]
  refine wpAny_bind (wpAny_newList (wpAny_pure ?_) (by rw [List.length_take, e2]; omega))
  have q := h h2 tk fun b o e => kp b o (Nat.ne_of_lt (Heap.lt_size e)) (sb1.extBut b o (Nat.ne_of_lt (Heap.lt_size e)) (Heap.get?_push_of_some _ e))
  rw [List.append_assoc]
  exact q
theorem vals_take {vs : List V} {us : List Value} (h : Vals vs us) : ∀ n, Vals (vs.take n) (us.take n) := fun n => by
  induction h generalizing n with
  | nil => simp; exact .nil
  | cons r t ih => cases n with
    | zero => exact .nil
    | succ n => exact .cons r (ih n)
theorem vals_drop {vs : List V} {us : List Value} (h : Vals vs us) : ∀ n, Vals (vs.drop n) (us.drop n) := fun n => by
  induction h generalizing n with
  | nil => simp; exact .nil
  | cons r t ih => cases n with
    | zero => exact .cons r t
    | succ n => exact ih n
theorem pg_star (j : Nat) {es : List Expr} {k n : Nat} {t : TGs} (hc : X.calm = true) (h : PGs X es t) (hn : (assignEach es X.env).length = n := by rfl) (hst : (assignEach es X.env).findIdx? (·.1) = some j := by rfl) : PG X (.Tuple es k pos) (gStar X.K n j t) := by
  refine ⟨fun pins s σ H v u Q I r hw => ?_⟩
  obtain ⟨a, xs, e1, hq, hj, hl, hb, hw⟩ := hw
  subst e1
  cases r
  obtain ⟨its, rv, pl, hz⟩ := I.list hq
  have len := rv.length
  rw [PyProof.Rows.assign_Tuple]
  refine wpAny_bind (wpAny_standAt ?_)
  unfold unpack
  rw [hn, hst]
  refine wpAny_bind (wpAny_holding (star_list pl.isList (I.ok.hd hc) hj (by omega) (by rw [← len]; exact hz) fun h' tk kp => ?_))
  have I2 : Inv X pins σ H { s with heap := h', toks := tk } := I.kept kp
  have fr : H h'.objs.size = none := I2.hok.fresh (Nat.le_refl _)
  rw [← len]
  have hlm : ((xs.drop j).take (xs.length + 1 - n)).length ≤ sizeLine := by
    rw [List.length_take, List.length_drop]
    exact Nat.le_trans (Nat.min_le_right _ _) (Nat.le_trans (Nat.sub_le _ _) (big_line (Nat.le_of_lt hb)))
  have I3 := I2.laid (t' := tk) (a := h'.objs.size) (o := .lst ((xs.drop j).take (xs.length + 1 - n))) (h' := h'.push { cls := .type "list", data := .seq ((its.drop j).take (xs.length + 1 - n)).toArray }) (fun b u e => Heap.get?_push_of_some _ e) (Nat.le_refl _) ⟨hlm, _, _, vals_take (vals_drop rv _) _, Heap.get?_push_size _ rfl⟩
  exact h.run pins _ σ _ _ _ Q I3 ((vals_take rv j).append (.cons (show RelV (V.ref h'.objs.size) (.ref h'.objs.size) from rfl) (vals_drop (vals_drop rv j) _))) (hw _ fr)
end
section
variable {X : Cx} {M : WM X.K} {W : WX} {en : Pt M} {e : Expr} {pos : Pos} {ea : Ev M D} {ec : Ev M Bool} {m : List Nat}
theorem ss_while (m : List Nat) {c : Expr} {body : List Stmt} {sb : Sv M} (hp : PassesOwn (model X.prog X.w) X.A X.env X.xe) (hc : PT X c (tB' M X.mg W ec)) (hb : PSs X body (tS M X.mg W sb)) : PS X (.While c body [] pos) (tS M X.mg W (sWhile m ec sb)) := (ps_while hp hc hb).con fun Dd σ H ⟨en, ρ, p, hH, rl, q⟩ => by
  subst hH
  refine ⟨fun n σ' H' => ∃ (ρ' : Nv) (p' : Pt M), p'.H = H' ∧ Rel en ρ' σ' p' ∧ (whileG m ec sb n ρ' p'.s).all (SEnd M en Dd) (XSEnd M X.mg en W), ⟨_, ρ, p, rfl, rl, q⟩, ?_⟩
  rintro n σ1 H1 ⟨ρ1, p1, rfl, rl1, q1⟩
  cases n with
  | zero => exact q1.elim
  | succ n =>
    simp only [whileG] at q1
    refine inF_B rl1 q1 fun r q2 e ok es hr => ?_
    obtain ⟨q3, eH, eS, rl3⟩ := behind_b rl1 e ok
    obtain ⟨c, s1⟩ := r
    have es2 : q2.s = s1 := es
    rw [← eH]
    subst es2
    cases c with
    | true =>
      rw [if_pos rfl]
      have hr' : ((sb (behind M m true q2.s ρ1) q2.s).bind _).all _ _ := hr
      refine ⟨fun σ' H' => ∃ (ρ' : Nv) (p' : Pt M), p'.H = H' ∧ Rel en ρ' σ' p' ∧ (whileG m ec sb n ρ' p'.s).all (SEnd M en Dd) (XSEnd M X.mg en W), fun σ' H' h => ⟨n, Nat.lt_succ_self _, h⟩, en, _, q3, rfl, rl3, ?_⟩
      rw [eS]
      refine G.all_mono (fun f hf => ?_) (fun _ h => h) (G.all_bind.mp hr')
      obtain ⟨f, s2⟩ := f
      cases f with
      | nx ρ2 => exact fun σ2 q4 rl4 es4 => ⟨ρ2, q4, rfl, rl4, by rw [es4]; exact hf⟩
      | ct ρ2 => exact fun σ2 q4 rl4 es4 => ⟨ρ2, q4, rfl, rl4, by rw [es4]; exact hf⟩
      | bk ρ2 => exact hf
      | rt r => exact hf
    | false =>
      rw [if_neg Bool.false_ne_true]
      exact hr σ1 q3 rl3 eS
/-! ### the star over plain data -/
theorem setRs_len : ∀ (is : List Nat) (rs : List R) (ρ : Nv), (setRs is rs ρ).length = ρ.length
  | [], _, _ => rfl
  | _ :: _, [], _ => rfl
  | i :: is, r :: rs, ρ => by
    show (setRs is rs _).length = _
    rw [setRs_len is rs]; simp
theorem set_shs {q : Pt M} : ∀ (is : List Nat) (ds : List D) (vs : List V) {ρ : Nv} {σ : Sl}, Rel en ρ σ q → DenL X.K q.ad q.Hv ds vs → (is.all fun i => decide (i < ρ.length)) = true → Rel en (setRs is (ds.map .sh) ρ) (setVs is vs σ) q
  | [], ds, vs, _, _, rl, _, _ => by
    show Rel en (setRs [] (ds.map .sh) _) (setVs [] vs _) q
    exact rl
  | i :: is, [], vs, _, _, rl, h, _ => by
    cases h
    exact rl
  | i :: is, d :: ds, _, ρ, σ, rl, ⟨v, r, e, h1, h2⟩, hi => by
    subst e
    rw [List.all_cons, Bool.and_eq_true] at hi
    refine set_shs is ds r (set_rel (r := .sh d) rl h1 (fun _ _ ⟨_, z⟩ => by cases z) i (of_decide_eq_true hi.1)) h2 ?_
    rw [List.length_set]; exact hi.2
theorem set_star {q : Pt M} : ∀ (j : Nat) (is : List Nat) (ds ls : List D) (l : List D) (vs us : List V) (b : Addr) {ρ : Nv} {σ : Sl}, ds.length = j → Rel en ρ σ q → DenL X.K q.ad q.Hv ds vs → DenL X.K q.ad q.Hv ls us → ROk en q (.fr (.lst l)) (.ref b) → (∀ (i : Nat) d, ρ[i]? = some (some (.ow d)) → σ[i]? ≠ some (some (.ref b))) →
    (is.all fun i => decide (i < ρ.length)) = true → Rel en (setRs is (ds.map .sh ++ .fr (.lst l) :: ls.map .sh) ρ) (setVs is (vs ++ .ref b :: us) σ) q
  | 0, [], ds, ls, l, vs, us, b, ρ, σ, hl, rl, h1, h2, h3, ap, hi => by
    have : ds = [] := List.length_eq_zero_iff.mp hl
    subst this
    cases h1
    exact rl
  | 0, i :: is, ds, ls, l, vs, us, b, ρ, σ, hl, rl, h1, h2, h3, ap, hi => by
    have : ds = [] := List.length_eq_zero_iff.mp hl
    subst this
    cases h1
    rw [List.all_cons, Bool.and_eq_true] at hi
    refine set_shs is ls us (set_rel (r := .fr (.lst l)) rl h3 (fun a ha _ j d hj => by cases ha; exact ap j d hj) i (of_decide_eq_true hi.1)) h2 ?_
    rw [List.length_set]; exact hi.2
  | j + 1, [], ds, ls, l, vs, us, b, ρ, σ, hl, rl, h1, h2, h3, ap, hi => by
    cases ds with
    | nil => cases hl
    | cons d ds =>
      obtain ⟨v, r, e, k1, k2⟩ := h1
      subst e
      exact rl
  | j + 1, i :: is, ds, ls, l, vs, us, b, ρ, σ, hl, rl, h1, h2, h3, ap, hi => by
    cases ds with
    | nil => cases hl
    | cons d ds =>
      obtain ⟨v, r, e, k1, k2⟩ := h1
      subst e
      rw [List.all_cons, Bool.and_eq_true] at hi
      refine set_star j is ds ls l r us b (Nat.succ.inj hl) (set_rel (r := .sh d) rl k1 (fun _ _ ⟨_, z⟩ => by cases z) i (of_decide_eq_true hi.1)) k2 h2 h3 (fun i' d' hi' => ?_) (by rw [List.length_set]; exact hi.2)
      have hi' : (ρ.set i (some (.sh d)))[i']? = some (some (.ow d')) := hi'
      have ne : i ≠ i' := fun z => by
        subst z
        rw [List.getElem?_set_self (of_decide_eq_true hi.1)] at hi'
        cases hi'
      rw [List.getElem?_set_ne ne] at hi' ⊢
      exact ap i' d' hi'
theorem ss_star (is : List Nat) (j : Nat) (m : List Nat) {es : List Expr} {k : Nat} {p1 : Pos} (hc : X.calm = true) (he : PE X e (tD M X.mg W ea)) (hn : PGs X es (gNms is)) (hj : j < is.length := by decide) (hl : (assignEach es X.env).length = is.length := by rfl) (hst : (assignEach es X.env).findIdx? (·.1) = some j := by rfl)
    (hs : swapsWithSole [.Tuple es k p1] e pos.line X.env = pure false := by rfl) (hw : swappedStores [.Tuple es k p1] e X.env = pure none := by rfl) (h1 : (assignEach [.Tuple es k p1] X.env).map (·.2) = [assign (.Tuple es k p1) X.env] := by rfl) :
    PS X (.Assign [.Tuple es k p1] e pos) (tS M X.mg W (sStar is j m ea)) := (ps_asg he (pg_star j hc hn hl hst) hs hw h1).con fun Dd σ H ⟨en, ρ, p, hH, rl, q⟩ => by
  subst hH
  show tD M X.mg W ea σ p.H fun x H1 => gStar X.K is.length j (gNms is) x σ H1 Dd.nx
  refine inF_V rl q fun r v q1 e ok es dv hr => ?_
  obtain ⟨q2, eH, eS, rl2, rk2, _⟩ := behind_ok (r := .sh r.1) rl e ok dv
  obtain ⟨d, s1⟩ := r
  obtain rfl : q1.s = s1 := es
  obtain ⟨ds, rfl⟩ : ∃ ds, d = .lst ds := by
    cases d <;> first | (exact hr.elim) | exact ⟨_, rfl⟩
  simp only at hr
  split at hr
  · rename_i hc
    obtain ⟨a, vs, rfl, k1, k2⟩ := (rk2 : Den X.K q2.ad q2.Hv (.lst ds) v)
    have len := k2.length
    rw [← eH]
    refine ⟨a, vs, rfl, SqL.of (rl2.ok.view _ _ k1), hj, by rw [len]; exact hc.1, by rw [len]; exact hc.2.1, fun b hb => ⟨?_, ?_⟩⟩
    · have := hj
      have := hc.1
      simp only [List.length_append, List.length_cons, List.length_take, List.length_drop, len]
      omega
    · rw [len]
      have dl : ∀ n, DenL X.K q2.ad q2.Hv (ds.take n) (vs.take n) := fun n => k2.take n
      have dr : ∀ n, DenL X.K q2.ad q2.Hv (ds.drop n) (vs.drop n) := fun n => k2.drop n
      have dm : DenL X.K q2.ad q2.Hv ((ds.drop j).take (ds.length + 1 - is.length)) ((vs.drop j).take (ds.length + 1 - is.length)) := (dr j).take _
      have rl3 : Rel en _ σ (q2.hid b (.lst ((vs.drop j).take (ds.length + 1 - is.length)))) := rel_hid rl2 hb
      have lt : (ds.take j).length = j := by
        have := hj
        have := hc.1
        rw [List.length_take]; omega
      have nx : en.H b = none ∨ en.F b := newOld rl2.ext hb
      have := set_star (q := q2.hid b (.lst ((vs.drop j).take (ds.length + 1 - is.length)))) j is (ds.take j) ((ds.drop j).drop (ds.length + 1 - is.length)) ((ds.drop j).take (ds.length + 1 - is.length)) (vs.take j) ((vs.drop j).drop (ds.length + 1 - is.length)) b lt rl3 (dl j) ((dr j).drop _)
        ⟨b, _, rfl, upd_same, rl2.ok.vn hb, rl2.ok.fn hb, nx, dm⟩ (fun i d hi hs => by
          obtain ⟨a', o, h1, h2, _⟩ := rl2.ow i d hi
          rw [hs] at h1; cases h1
          rw [hb] at h2; cases h2) (by rw [behind_len]; exact hc.2.2)
      exact hr _ _ this eS
  · exact hr.elim
end
end VQ

/-! VrI: x.split(c), int of figures, the signs of a text, max of ints, a dict of constants, d.get(k, e). -/
namespace VQ
open PySem PySem.Spec PyProof.Rows L2
/-! ### x.split(c) -/
/-- the parts of a text between the signs c -/
def splC (c : Nat) : List Nat → List Nat → List (List Nat)
  | acc, [] => [acc]
  | acc, d :: r => if d = c then acc :: splC c [] r else splC c (acc ++ [d]) r
theorem splC_spl (c : Nat) : ∀ (l acc : List Nat), TL.spl [c] 0 acc l = splC c acc l
  | [], acc => by unfold TL.spl splC; rfl
  | d :: r, acc => by
    have e : (TL.pre [c] (d :: r) = true) ↔ d = c := by
      unfold TL.pre
      simp
    unfold TL.spl splC
    by_cases h : d = c
    · rw [if_pos (e.mpr h), if_pos h]
      show acc :: TL.spl [c] 0 [] r = _
      rw [splC_spl c r []]
    · rw [if_neg (fun z => h (e.mp z)), if_neg h]
      exact splC_spl c r _
theorem splC_len (c : Nat) : ∀ (l acc : List Nat), (splC c acc l).length ≤ l.length + 1
  | [], _ => by unfold splC; simp
  | d :: r, acc => by
    unfold splC
    have h1 := splC_len c r []
    have h2 := splC_len c r (acc ++ [d])
    split <;> simp only [List.length_cons] <;> omega
def splitD : D → D → Option R
  | .str s, .str [c] => if s.length + 2 ≤ big ∧ c < 256 then some (.fr (.lst ((splC c [] s).map .str))) else none
  | _, _ => none
theorem den_strsL {K : PySem.W.Frag} {ad : Nat → Option Addr} {Hv : Hp} : ∀ l : List (List Nat), DenL K ad Hv (l.map .str) ((l.map fun z => (⟨z.toArray⟩ : Str)).map V.str)
  | [] => DenL.nil
  | z :: r => DenL.cons (show Den K ad Hv (.str z) (.str ⟨z.toArray⟩) from rfl) (den_strsL r)
theorem md_split {K : PySem.W.Frag} {M : WM K} : MtD M splitD (fun x xs H Q => ∃ a b, x = .str a ∧ xs = [.str b] ∧ (b.length == 0) = false ∧ a.length + 2 ≤ sizeLine ∧ rNewStrs (Txt.split a b) H Q) := fun p x y d e res Q ok hx hy hf q => by
  obtain ⟨s, c, rfl, rfl⟩ : ∃ s c, d = .str s ∧ e = .str [c] := by
    cases d <;> cases e <;> first | (cases hf; done) | skip
    rename_i s t
    match t, hf with
    | [c], _ => exact ⟨s, c, rfl, rfl⟩
    | [], hf => cases hf
    | _ :: _ :: _, hf => cases hf
  cases hx; cases hy
  simp only [splitD] at hf
  split at hf
  · rename_i h
    cases hf
    refine ⟨⟨_, rfl⟩, _, _, rfl, rfl, rfl, by rw [str_len]; exact big_line h.1, fun b hb => ?_⟩
    have e := SX.split_S (a := s) (b := [c]) (by simp) (by simp [h.2])
    rw [show (⟨s.toArray⟩ : Str) = SX.S s from rfl, show (⟨[c].toArray⟩ : Str) = SX.S [c] from rfl, e, splC_spl]
    exact fin_lst ok q (den_strsL _) hb
  · cases hf
section
variable {X : Cx} {M : WM X.K} {W : WX} {a b c : Expr} {pos : Pos} {ea eb ec : Ev M D}
theorem ev_split {apos : Pos} (ho : PE X a (tD M X.mg W ea)) (he : PE X b (tD M X.mg W eb)) (hs : starEach [b] X.env = [(false, eval b X.env)] := by rfl) (hbase : attributeBase a "split" X.env (eval a X.env) = eval a X.env := by rfl) (hline : (apos.endLine == pos.line) = true := by rfl) :
    PE X (.Call (.Attribute a "split" apos) [b] [] pos) (tR M X.mg W (eM1 splitD ea eb)) :=
  ev_m1 F.slot_str_split F.type_str_split mt_split md_split ho he (fun d e h => by cases d <;> first | exact absurd rfl h | exact ⟨_, rfl⟩) hs hbase hline
end
/-! ### int of a text of figures -/
def figs (l : List Nat) : Bool := !l.isEmpty && l.all (fun c => decide (48 ≤ c) && decide (c ≤ 57)) && decide (l.length ≤ 600)
def numT (l : List Nat) : Int := ((NumText.digitsVal l : Nat) : Int)
def intT : List D → Option R
  | [.str l] => if figs l = true then some (.sh (.int (numT l))) else none
  | _ => none
theorem cd_intT {K : PySem.W.Frag} {M : WM K} : CallD M intT rIntD := fun p xs ds res Q ok hx hf q => by
  obtain ⟨l, rfl⟩ : ∃ l, ds = [.str l] := by
    match ds, hf with
    | [d], hf => cases d <;> first | (cases hf; done) | exact ⟨_, rfl⟩
    | [], hf => cases hf
    | d :: _ :: _, hf => cases d <;> cases hf
  obtain ⟨v, r, rfl, h1, h2⟩ := hx
  cases h1; cases h2
  simp only [intT] at hf
  split at hf
  · rename_i hc
    cases hf
    unfold figs at hc
    rw [Bool.and_eq_true, Bool.and_eq_true] at hc
    have ne : l ≠ [] := fun z => by rw [z] at hc; simp at hc
    have hl : l.length ≤ 600 := of_decide_eq_true hc.2
    exact .inr ⟨_, _, rfl, SX.int_S hc.1.2 ne (by omega), by rw [str_len]; omega, fin_sh ok q rfl⟩
  · cases hf
/-! ### list(text) -/
theorem vals_at : ∀ {vs : List V} {us : List Value}, vs.length = us.length → (∀ (i : Nat) v, vs[i]? = some v → ∃ u, us[i]? = some u ∧ RelV v u) → Vals vs us
  | [], [], _, _ => .nil
  | [], _ :: _, h, _ => by cases h
  | _ :: _, [], h, _ => by cases h
  | v :: vs, u :: us, h, k => by
    refine .cons ?_ (vals_at (Nat.succ.inj h) fun i w e => k (i + 1) w (by simpa using e))
    obtain ⟨u', e, r⟩ := k 0 v rfl
    cases e
    exact r
def rListStr : List V → Hp → VK → Prop := fun xs H Q => ∃ a : Str, xs = [.str a] ∧ a.length ≤ sizeLine ∧ ∀ l, H l = none → Q (.ref l) (upd H l (.lst (a.cps.toList.map fun c => V.str ⟨#[c]⟩)))
theorem call_listS {X : Cx} (hc : X.calm = true) : CallR X (.type "list") rListStr := by
  intro pins s σ H xs us Q I r h
  obtain ⟨a, rfl, hz, q⟩ := h
  cases r with
  | cons r rr =>
    cases rr
    obtain ⟨t, rfl⟩ := r
    refine PySem.call_list_str (I.ok.hd hc) a t (hn := hz) fun h' tk acc' c' hk hS hacc => ?_
    have hn : H s.heap.objs.size = none := I.hok.fresh (Nat.le_refl _)
    have hv : Vals (a.cps.toList.map fun c => V.str ⟨#[c]⟩) acc'.toList := by
      refine vals_at (by rw [List.length_map, Array.length_toList, Array.length_toList]; exact hacc.1.symm) fun i v hi => ?_
      rw [List.getElem?_map] at hi
      obtain ⟨c, hc, rfl⟩ := Option.map_eq_some_iff.mp hi
      have hlt : i < acc'.size := by
        rw [hacc.1]
        have := (List.getElem?_eq_some_iff.mp hc).1
        simpa using this
      obtain ⟨c2, u, e1, e2⟩ := hacc.2 i acc'[i] (Array.getElem?_eq_getElem hlt)
      have : c2 = c := by
        rw [← Array.getElem?_toList, hc] at e1
        exact (Option.some.inj e1).symm
      subst this
      exact ⟨_, by rw [Array.getElem?_toList, Array.getElem?_eq_getElem hlt, e2], u, rfl⟩
    refine ⟨.ref s.heap.objs.size, _, I.laid (t' := tk) (o := .lst (a.cps.toList.map fun c => V.str ⟨#[c]⟩)) hk (Nat.le_refl _) ⟨?_, acc'.toList, c', hv, hS⟩, rfl, q _ hn⟩
    rw [List.length_map, Array.length_toList]; exact hz
def listS : List D → Option R
  | [.str l] => if l.length ≤ big then some (.fr (.lst (l.map fun c => .str [c]))) else none
  | _ => none
theorem cd_listS {K : PySem.W.Frag} {M : WM K} : CallD M listS rListStr := fun p xs ds res Q ok hx hf q => by
  obtain ⟨l, rfl⟩ : ∃ l, ds = [.str l] := by
    match ds, hf with
    | [d], hf => cases d <;> first | (cases hf; done) | exact ⟨_, rfl⟩
    | [], hf => cases hf
    | d :: _ :: _, hf => cases d <;> cases hf
  obtain ⟨v, r, rfl, h1, h2⟩ := hx
  cases h1; cases h2
  simp only [listS] at hf
  split at hf
  · rename_i hl
    cases hf
    refine ⟨_, rfl, by rw [str_len]; exact big_line hl, fun b hb => ?_⟩
    refine fin_lst ok q ?_ hb
    clear hl q
    show DenL _ _ _ _ (l.map fun c => V.str ⟨#[c]⟩)
    induction l with
    | nil => exact DenL.nil
    | cons c l ih => exact DenL.cons (show Den _ _ _ (.str [c]) (.str ⟨#[c]⟩) from rfl) ih
  · cases hf
/-! ### max of ints -/
def maxI (n : Int) (r : List Int) : Int := r.foldl (fun a b => if a ≤ b then b else a) n
theorem maxI_spec : ∀ (r : List Int) (n : Int), maxI n r ∈ n :: r ∧ ∀ y ∈ n :: r, y ≤ maxI n r
  | [], n => ⟨by simp [maxI], fun y hy => by
    have : y = n := by simpa using hy
    subst this
    exact Int.le_refl _⟩
  | a :: r, n => by
    have ih := maxI_spec r (if n ≤ a then a else n)
    have e : maxI n (a :: r) = maxI (if n ≤ a then a else n) r := rfl
    rw [e]
    refine ⟨?_, fun y hy => ?_⟩
    · have := ih.1
      rcases List.mem_cons.mp this with h | h
      · rw [h]; split <;> simp
      · exact List.mem_cons_of_mem _ (List.mem_cons_of_mem _ h)
    · have h0 := ih.2 (if n ≤ a then a else n) List.mem_cons_self
      have h1 : n ≤ (if n ≤ a then a else n) := by split <;> omega
      have h2 : a ≤ (if n ≤ a then a else n) := by split <;> omega
      rcases List.mem_cons.mp hy with h | h
      · subst h; omega
      · rcases List.mem_cons.mp h with h | h
        · subst h; omega
        · exact ih.2 y (List.mem_cons_of_mem _ h)
def maxD : List D → Option R
  | [.lst l] => match intsD l with
    | some (n :: r) => some (.sh (.int (maxI n r)))
    | _ => none
  | _ => none
theorem cd_max {K : PySem.W.Frag} {M : WM K} : CallD M maxD (rMax K) := fun p xs ds res Q ok hx hf q => by
  obtain ⟨a, l, vs, rfl, rfl, h1, h2⟩ := one_lst hx hf (fun d r h => by cases d <;> cases r <;> first | exact ⟨rfl, _, rfl⟩ | exact absurd rfl h) rfl
  cases z : intsD l with
  | none => simp only [maxD, z] at hf; cases hf
  | some bs =>
    cases bs with
    | nil => simp only [maxD, z] at hf; cases hf
    | cons n r =>
      simp only [maxD, z] at hf; cases hf
      refine ⟨a, n :: r, rfl, ?_, by simp, fun m hm hle => ?_⟩
      · rw [← intsD_den z h2]
        exact SqL.of (ok.view _ _ h1)
      · have e := maxI_spec r n
        have : m = maxI n r := Int.le_antisymm (e.2 m hm) (hle _ e.1)
        subst this
        exact fin_sh ok q rfl
/-! ### a dict of constants -/
section
variable {K : PySem.W.Frag} {M : WM K}
def putDk (l : List (Key × D)) (k : Key) (d : D) : List (Key × D) := if (l.any fun kv => decide (kv.1 = k)) = true then l.map (fun kv => if kv.1 = k then (kv.1, d) else kv) else l ++ [(k, d)]
def lookDk (l : List (Key × D)) (k : Key) : Option D := (l.find? fun kv => decide (kv.1 = k)).map (·.2)
/-- a dict of constants, no key twice -/
def eDisp (l : List (Key × D)) : Ev M R := fun _ s => .ret (.fr (.dk l), s)
/-- d.get(k, e), k an int or a text -/
def keyD : D → Option Key
  | .int i => some (.inl i)
  | .str s => some (.inr ⟨s.toArray⟩)
  | _ => none
def getD2 : D → D → D → Option D
  | .dk l, k, e => (keyD k).map fun k => (lookDk l k).getD e
  | _, _, _ => none
def eGet2 (ea eb ec : Ev M D) : Ev M D := fun ρ s => (ea ρ s).bind fun x => match x.1 with
  | .dk l => (eb ρ x.2).bind fun y => (ec ρ y.2).bind fun z => op (getD2 (.dk l) y.1 z.1) z.2
  | _ => .bad
end
section
variable {X : Cx} {M : WM X.K} {W : WX} {a b c : Expr} {pos : Pos} {ea eb ec : Ev M D}
def CPs (X : Cx) (pos : Pos) (keys : List (Option Expr)) (values : List Expr) (l : List (Key × D)) : Prop := ∃ (trs : List (TE × TE)) (kvs : List (Key × V)), PPs X pos keys values trs ∧ (∀ σ H Q, Q (kvs.map fun kv => (kV kv.1, kv.2)) H → tPairs trs σ H Q) ∧ kvs.length = l.length ∧ ∀ ad Hv, DenK X.K ad Hv l kvs
theorem cps_nil : CPs X pos [] [] [] := ⟨[], [], pps_nil, fun _ _ _ q => q, rfl, fun _ _ => rfl⟩
theorem cps_si {x : Str} {i : Int} {j1 j2 : Nat} {p1 p2 : Pos} {ks : List (Option Expr)} {vs : List Expr} {l : List (Key × D)} (h : CPs X pos ks vs l) : CPs X pos (some (.Constant (.str x) j1 p1) :: ks) (.Constant (.int i) j2 p2 :: vs) ((.inr x, .int i) :: l) := by
  obtain ⟨trs, kvs, h1, h2, h3, h4⟩ := h
  exact ⟨_, (.inr x, .int i) :: kvs, pps_cons pe_str pe_int h1, fun σ H Q q => h2 σ H _ q, by simp [h3], fun ad Hv => ⟨_, _, rfl, rfl, h4 ad Hv⟩⟩
theorem denK_keys {K : PySem.W.Frag} {ad : Nat → Option Addr} {Hv : Hp} : ∀ {l : List (Key × D)} {kvs : List (Key × V)}, DenK K ad Hv l kvs → kvs.map (·.1) = l.map (·.1)
  | [], _, h => by cases h; rfl
  | _ :: _, _, ⟨_, _, e, _, t⟩ => by subst e; simp [denK_keys t]
theorem denK_look {K : PySem.W.Frag} {ad : Nat → Option Addr} {Hv : Hp} (k : Key) : ∀ {l : List (Key × D)} {kvs : List (Key × V)}, DenK K ad Hv l kvs → (∃ d v, lookDk l k = some d ∧ valV kvs k = some v ∧ Den K ad Hv d v) ∨ (lookDk l k = none ∧ valV kvs k = none)
  | [], _, h => by cases h; exact .inr ⟨rfl, rfl⟩
  | (k', d) :: l, _, ⟨v, r, e, h1, t⟩ => by
    subst e
    by_cases hk : k' = k
    · refine .inl ⟨d, v, ?_, valV_pos hk, h1⟩
      simp [lookDk, List.find?_cons, hk]
    · have e1 : lookDk ((k', d) :: l) k = lookDk l k := by simp [lookDk, List.find?_cons, hk]
      rw [e1, valV_neg (p := (k', v)) hk]
      exact denK_look k t
theorem merge_new : ∀ (more kvs : List (Key × V)), (∀ k ∈ more.map (·.1), k ∉ kvs.map (·.1)) → (more.map (·.1)).Nodup → mergeK kvs more = kvs ++ more
  | [], kvs, _, _ => by simp [mergeK]
  | p :: r, kvs, h, nd => by
    have e : putK kvs p.1 p.2 = kvs ++ [p] := by
      unfold putK
      rw [if_neg]
      intro z
      obtain ⟨q, hq, e⟩ := List.any_eq_true.mp z
      exact h p.1 (by simp) (List.mem_map.mpr ⟨q, hq, of_decide_eq_true e⟩)
    show mergeK (putK kvs p.1 p.2) r = _
    rw [List.map_cons, List.nodup_cons] at nd
    rw [e, merge_new r _ (fun k hk hm => ?_) nd.2]
    · simp
    · rw [List.map_append, List.mem_append] at hm
      rcases hm with hm | hm
      · exact h k (by simp; exact .inr (by simpa using hk)) hm
      · have : k = p.1 := by simpa using hm
        subst this
        exact nd.1 hk
theorem ev_disp {keys : List (Option Expr)} {values : List Expr} {l : List (Key × D)} (h : CPs X pos keys values l) (nd : (l.map (·.1)).Nodup) (h15 : l.length ≤ 15) (hall : keys.all (·.isSome) = true := by rfl) (hl : keys.length = values.length := by rfl) (h0 : keys ≠ [] := by intro z; cases z) (hk : keys.length ≤ 15 := by decide) :
    PE X (.Dict keys values pos) (tR M X.mg W (eDisp l)) := by
  obtain ⟨trs, kvs, h1, h2, h3, h4⟩ := h
  refine (pe_disp h1 hall hl h0 hk).con fun σ H Q ⟨ρ, p, hH, ok, en, q⟩ => ?_
  subst hH
  intro b hb
  refine h2 _ _ _ ⟨upd_same, kvs, rfl, by omega, ?_⟩
  have hkeys := denK_keys (h4 p.ad p.Hv)
  rw [merge_new kvs [] (fun _ _ z => by simp at z) (by rw [hkeys]; exact nd), List.nil_append]
  have e : upd (upd p.H b (.dK [])) b (.dK kvs) = upd p.H b (.dK kvs) := by
    funext x
    by_cases z : x = b
    · rw [z, upd_same, upd_same]
    · rw [upd_ne z, upd_ne z, upd_ne z]
  rw [e]
  exact q (.ref b) (p.hid b (.dK kvs)) (ext_hid hb) (ok_hid ok hb) rfl ⟨b, .dK kvs, rfl, upd_same, ok.vn hb, ok.fn hb, .inl hb, h4 _ _⟩
theorem key_den {K : PySem.W.Frag} {ad : Nat → Option Addr} {Hv : Hp} {d : D} {k : Key} {v : V} (h : keyD d = some k) (hd : Den K ad Hv d v) : v = kV k := by
  cases d <;> first | (cases h; done) | skip
  · cases h; cases hd; rfl
  · cases h; cases hd; rfl
theorem ev_get2 {apos : Pos} {j : Nat} (hr : Room j X.A) (ho : PE X a (tD M X.mg W ea)) (he : PE X b (tD M X.mg W eb)) (hf : PE X c (tD M X.mg W ec)) (m : M2 X a "get" apos b c pos := by exact ⟨rfl, rfl, rfl, rfl⟩) : PE X (.Call (.Attribute a "get" apos) [b, c] [] pos) (tD M X.mg W (eGet2 ea eb ec)) := (pe_dget2 (by have := hr.un; omega) ho he hf m).con fun σ H Q ⟨ρ, p, hH, ok, en, q⟩ => by
  subst hH
  show tD M X.mg W ea σ p.H fun x H1 => ∃ a, x = .ref a ∧ IsD H1 a ∧ tD M X.mg W eb σ H1 fun y H2 => tD M X.mg W ec σ H2 fun z H3 => ∃ o, DGet H3 a y o ∧ Q (o.getD z) H3
  refine tG.seq ok en q fun r1 x q1 ex1 ok1 es1 dx h1 => ?_
  obtain ⟨d, s1⟩ := r1
  obtain ⟨l, rfl⟩ : ∃ l, d = .dk l := by
    cases d <;> first | exact ⟨_, rfl⟩ | exact h1.elim
  obtain rfl : q1.s = s1 := es1
  obtain ⟨a, kvs, rfl, k1, k2⟩ := dx
  refine ⟨a, rfl, .inl ⟨kvs, .of (ok1.view _ _ k1)⟩, ?_⟩
  refine tG.seq ok1 (en.ext ex1) (XEnds ex1 h1 fun _ h => h) fun r2 y q2 ex2 ok2 es2 dy h2 => ?_
  rw [← es2] at h2
  refine tG.seq ok2 (en.ext (ex1.trans ex2)) (XEnds ex2 h2 fun _ h => h) fun r3 z q3 ex3 ok3 es3 dz h3 => ?_
  cases zk : keyD r2.1 with
  | none => simp only [op, getD2, zk, Option.map_none] at h3; exact h3.elim
  | some k =>
    simp only [op, getD2, zk, Option.map_some] at h3
    obtain rfl := key_den zk dy
    have k1' : q3.Hv a = some (.dK kvs) := ex3.view _ _ (ex2.view _ _ k1)
    refine ⟨_, .k (ok3.view _ _ k1'), ?_⟩
    rcases denK_look k (k2.mono (ex2.trans ex3).view (ex2.trans ex3).ad) with ⟨d, v, e1, e2, e3⟩ | ⟨e1, e2⟩
    · rw [e1] at h3
      rw [e2]
      exact h3 v q3 ((ex1.trans ex2).trans ex3) ok3 es3 e3
    · rw [e1] at h3
      rw [e2]
      exact h3 z q3 ((ex1.trans ex2).trans ex3) ok3 es3 dz
end
/-! ### a chain as a test; a constant text -/
section
variable {X : Cx} {M : WM X.K} {W : WX} {a b c : Expr} {pos : Pos} {ea eb ec : Ev M D}
theorem tt_chainT {o o' : CmpOp} {r r' : R2} {f f' : D → D → Option Bool} (ho : OpR X (compareOp o) r) (ho' : OpR X (compareOp o') r') (hf : OpD M (fun d e => (f d e).map fun k => R.sh (.bl k)) r) (hf' : OpD M (fun d e => (f' d e).map fun k => R.sh (.bl k)) r')
    (ha : PE X a (tD M X.mg W ea)) (hb : PE X b (tD M X.mg W eb)) (hc : PE X c (tD M X.mg W ec)) (hm : lastMarks [o, o'] [b, c] = false := by with_unfolding_all rfl) :
    PT X (.Compare a [o, o'] [b, c] pos) (tB' M X.mg W (eTest truD (eChain f f' ea eb ec))) := (pt_chain ho ho' ha hb hc hm).con fun σ H Q ⟨ρ, p, hH, ok, en, q⟩ => by
  subst hH
  show tD M X.mg W ea σ p.H fun x H1 => tD M X.mg W eb σ H1 fun y H2 => r x y H2 fun z H3 => ∃ k, z = .bl k ∧ (if k = true then tD M X.mg W ec σ H3 fun w' H4 => r' y w' H4 (fun x H1 => ∃ k, x = .bl k ∧ Q k H1) else ∃ k, V.bl false = .bl k ∧ Q k H3)
  have q0 : ((ea ρ p.s).bind fun x => (eb ρ x.2).bind fun y => (op (f x.1 y.1) y.2).bind fun k => (if k.1 = true then (ec ρ k.2).bind fun z => (op (f' y.1 z.1) z.2).bind fun m => .ret (.bl m.1, m.2) else .ret (.bl false, k.2) : Gx M D).bind fun d => op (truD d.1) d.2).all (fun r => ∀ (q : Pt M), Ext p q → q.Ok → q.s = r.2 → Q r.1 q.H) (XEnd M X.mg p W σ) := by
    have q1 := q
    simp only [eTest, eChain, G.bind_assoc] at q1
    exact q1
  refine tG.seq ok en q0 fun r1 x q1 ex1 ok1 es1 dx h1 => ?_
  rw [← es1] at h1
  refine tG.seq ok1 (en.ext ex1) (XEnds ex1 h1 fun _ h => h) fun r2 y q2 ex2 ok2 es2 dy h2 => ?_
  cases z : f r1.1 r2.1 with
  | none => simp only [op, z] at h2; exact h2.elim
  | some k =>
    simp only [op, z, G.bind_ret] at h2
    refine hf q2 x y _ _ (.sh (.bl k)) _ ok2 (ex2.den dx) dy (by show Option.map _ (f r1.1 r2.1) = _; rw [z]; rfl) fun v q3 e3 ok3 es3 rk => ⟨k, rk, ?_⟩
    have e13 := (ex1.trans ex2).trans e3
    cases k with
    | false => exact ⟨false, rfl, (show (G.ret (false, r2.2)).all _ _ from h2) q3 e13 ok3 (es3.trans es2)⟩
    | true =>
      have h3 : (((ec ρ r2.2).bind fun z => (op (f' r2.1 z.1) z.2).bind fun m => (.ret (.bl m.1, m.2) : Gx M D)).bind fun d => op (truD d.1) d.2).all _ (XEnd M X.mg q1 W σ) := h2
      rw [← show q3.s = r2.2 from es3.trans es2] at h3
      simp only [G.bind_assoc, G.bind_ret] at h3
      show tD M X.mg W ec σ q3.H fun w' H4 => r' y w' H4 _
      refine tG.seq ok3 (en.ext e13) (XEnds (ex2.trans e3) h3 fun _ h => h) fun r4 w q4 ex4 ok4 es4 dw h4 => ?_
      cases z' : f' r2.1 r4.1 with
      | none => simp only [op, z'] at h4; exact h4.elim
      | some m =>
        simp only [op, z', G.bind_ret] at h4
        exact hf' q4 y w _ _ (.sh (.bl m)) _ ok4 ((e3.trans ex4).den dy) dw (by show Option.map _ (f' r2.1 r4.1) = _; rw [z']; rfl) fun v5 q5 e5 ok5 es5 rk5 => ⟨m, rk5, (show (G.ret (m, r4.2)).all _ _ from h4) q5 ((e13.trans ex4).trans e5) ok5 (es5.trans es4)⟩
end
theorem GC.str {mg : Str → Option Value} {x z : Str} {l : List Nat} {t : Tok} (h : mg x = some (.str z t)) (hz : z = ⟨l.toArray⟩ := by decide +kernel) : GC mg x (.str l) := ⟨.str z, _, h, ⟨t, rfl⟩, fun _ _ _ => by subst hz; rfl⟩
end VQ

/-! VrL: the law's def that hands out the things of a list in some order (_law_mixed). -/
namespace VQ
open PySem PySem.Spec PyProof.Rows L2
section
variable {K : PySem.W.Frag} {M : WM K}
noncomputable def mixG (fs : List D → M.S → Gx M R) (b : D) : Nat → List D → List D → M.S → Gs M
  | 0, _, acc, s => .ret (.rt (.fr (.lst acc)), s)
  | n + 1, left, acc, s => (fs [b, .int (left.length : Nat)] s).noX.bind fun r => match r.1 with
    | .sh (.int k) => if 0 ≤ k ∧ k < lk 1000000 then (match left[k.toNat]? with
      | some d => if acc.length < big then mixG fs b n (left.eraseIdx k.toNat) (acc ++ [d]) r.2 else .bad
      | none => .bad) else .bad
    | _ => .bad
noncomputable def sMix (fs : List D → M.S → Gx M R) (iB iS iL : Nat) : Sv M := fun ρ s => match ρ[iL]? with
  | some (some (.ow (.lst l))) => match ρ[iB]? with
    | some (some (.sh b)) => match ρ[iS]? with
      | some (some (.sh d)) => match seqL d with
        | some items => mixG fs b items.length l [] s
        | none => .bad
      | _ => .bad
    | _ => .bad
  | _ => .bad
/-- the def's reading -/
noncomputable def mixedD (fs : List D → M.S → Gx M R) : List D → M.S → Gx M R := runD 4 (sSeq (sSet 2 [] (eFun listD (eCons (eVar M 1) (eNil (M := M))))) (sMix fs 0 1 2))
theorem env_nil {en p : Pt M} {ρ : Nv} {σ : Sl} (h : Rel en ρ σ p) : EnvD M p σ (view [] ρ) := ⟨by rw [h.len]; exact (viewG_len [] ρ 0).symm, fun i d e => by
  rw [view_get] at e
  cases z : ρ[i]? with
  | none => rw [z] at e; cases e
  | some o =>
    rw [z] at e
    cases o with
    | none => simp [view1] at e
    | some vv =>
      cases vv with
      | sh d' =>
        simp only [Option.map_some, view1, Option.some.injEq] at e
        subst e
        exact h.sh i d' z
      | ow d' => simp [view1] at e⟩
end
end VQ
namespace VQ
open PySem PySem.Spec PyProof.Rows L2
section
variable {X : Cx} {M : WM X.K} {W : WX} {en : Pt M} {fs : List D → M.S → Gx M R}
/-- one item: left.pop(_law_pull(bag, len(left))) -/
def tMixE (X : Cx) (M : WM X.K) (fs : List D → M.S → Gx M R) (iB iL : Nat) : TE := fun σ H Q => ∃ v, σ[iL]? = some (some v) ∧ tyV X.K "list" v H ∧ ∃ b, σ[iB]? = some (some b) ∧ ∃ v2, σ[iL]? = some (some v2) ∧ ∃ p ys, [v2] = [.ref p] ∧ (SqL X.K H p ys ∨ SqT X.K H p ys) ∧
  spV M X.mg 2 fs [b, .int ys.length] H (fun k H2 => rPopAt v [k] H2 Q) (WE W0 σ)
theorem pe_mix (iB iL : Nat) {j : Nat} {left bag : Str} {p1 p2 p3 p4 p5 p6 p7 p8 apos : Pos} (c : DefOk X.prog X.w X.K X.mg X.base M 1 "_law_pull" 2 fs []) (hr : Room j X.A) (tk : Takes X W0) (hm : X.mg "len" = none) (hL : X.N[iL]? = some left) (hB : X.N[iB]? = some bag) (hvL : Vis X.env.scope left) (hvB : Vis X.env.scope bag)
    (hdL : (left == ("__debug__" : Str)) = false) (hcL : (left == ("__classdict__" : Str)) = false) (hdB : (bag == ("__debug__" : Str)) = false) (hcB : (bag == ("__classdict__" : Str)) = false) (hj : 1 ≤ j) (hg : Gl X "_law_pull") (hg2 : Gl X "len")
    (hbase : attributeBase (.Name left p1) "pop" X.env (eval (.Name left p1) X.env) = eval (.Name left p1) X.env) (hline : (apos.endLine == p8.line) = true)
    (hfew : ((backTo p8 (starEach [.Call (.Name "_law_pull" p2) [.Name bag p3, .Call (.Name "len" p4) [.Name left p5] [] p6] [] p7] X.env)).all (fun x => !x.1) && (backToKw p8 (keywordEach [] X.env)).all (fun x => x.1.isSome) && decide (([.Call (.Name "_law_pull" p2) [.Name bag p3, .Call (.Name "len" p4) [.Name left p5] [] p6] [] p7] : List Expr).length + ([] : List Keyword).length + (if ([] : List Keyword).isEmpty then 0 else 1) < 30)) = true)
    (he1 : starEach [.Call (.Name "_law_pull" p2) [.Name bag p3, .Call (.Name "len" p4) [.Name left p5] [] p6] [] p7] X.env = (false, eval (.Call (.Name "_law_pull" p2) [.Name bag p3, .Call (.Name "len" p4) [.Name left p5] [] p6] [] p7) X.env) :: starEach [] X.env)
    (he2 : starEach [.Name bag p3, .Call (.Name "len" p4) [.Name left p5] [] p6] X.env = (false, eval (.Name bag p3) X.env) :: starEach [.Call (.Name "len" p4) [.Name left p5] [] p6] X.env)
    (he3 : starEach [.Call (.Name "len" p4) [.Name left p5] [] p6] X.env = (false, eval (.Call (.Name "len" p4) [.Name left p5] [] p6) X.env) :: starEach [] X.env)
    (he4 : starEach [.Name left p5] X.env = (false, eval (.Name left p5) X.env) :: starEach [] X.env)
    (hpl2 : (backTo p7 (starEach [.Call (.Name "len" p4) [.Name left p5] [] p6] X.env)).any (·.1) = false) (hpl1 : (backTo p8 (starEach [] X.env)).any (·.1) = false) (hpl3 : (backTo p6 (starEach [] X.env)).any (·.1) = false) :
    PE X (.Call (.Attribute (.Name left p1) "pop" apos) [.Call (.Name "_law_pull" p2) [.Name bag p3, .Call (.Name "len" p4) [.Name left p5] [] p6] [] p7] [] p8) (tMixE X M fs iB iL) := by
  obtain ⟨f, fd, ps, ds, dvs, F, hmm, hk, hb, hd, hdd⟩ := c.ex
  have dv0 : dvs = [] := by
    have := hdd (fun _ => none) (fun _ => none)
    exact this
  refine (pe_bm PySem.F.plainAttrs_list PySem.F.slot_list_pop PySem.F.type_list_pop mt_popAt (pe_var hL hvL hdL hcL) (pa_cons (pe_callSD F (hr.mono hj) hg hmm hk hb hd (passAt tk) (pa_cons (pe_var hB hvB hdB hcB) (pa_cons (pe_callB call_len_seq hg2 hm bt_len (pa_cons (pe_var hL hvL hdL hcL) pa_nil he4) (by decide) (by decide) he4 hpl3) pa_nil he3) he2) (by decide) he2 hpl2) pa_nil he1) hbase hfew hline he1 hpl1).con fun σ H Q ⟨v, h1, h2, b, h3, v2, h4, p, ys, h5, h6, h7⟩ => ?_
  subst dv0
  exact ⟨v, h1, h2, b, h3, v2, h4, p, ys, h5, h6, h7⟩
end
end VQ
namespace VQ
open PySem PySem.Spec PyProof.Rows L2
section
variable {X : Cx} {M : WM X.K} {W : WX} {fs : List D → M.S → Gx M R}
theorem DenL.erase {K : PySem.W.Frag} {ad : Nat → Option Addr} {Hv : Hp} : ∀ {ds : List D} {vs : List V} (n : Nat), DenL K ad Hv ds vs → DenL K ad Hv (ds.eraseIdx n) (vs.eraseIdx n)
  | [], _, _, h => by cases h; exact DenL.nil
  | d :: ds, _, 0, ⟨v, r, e, h, t⟩ => by subst e; exact t
  | d :: ds, _, n + 1, ⟨v, r, e, h, t⟩ => by subst e; exact ⟨v, _, rfl, h, DenL.erase n t⟩
theorem seq_nat {k : Int} {n : Nat} (h0 : 0 ≤ k) (h1 : k.toNat < n) : seqIndex? k n = some k.toNat := by
  unfold seqIndex?
  have h2 : ¬ k < 0 := by omega
  simp only [h2, if_false]
  rw [if_pos]
  simp only [Bool.and_eq_true, decide_eq_true_eq]
  omega
theorem mix_turns (iB iS iL iO : Nat) (vs : List Nat) (hO : iO ∈ vs) (hL : iL ∉ vs) (hB : iB ∉ vs) (hLO : iL ≠ iO) (hBO : iB ≠ iO) {en p : Pt M} {ρ : Nv} {σ : Sl} {Dd : Ends} (rl : Rel en ρ σ p) (q : (sMix fs iB iS iL ρ p.s).all (SEnd M en Dd) (XSEnd M X.mg en W)) :
    tLc (tIt M W0 (eItems anyOf (eVar M iS))) (gName iO) tYes (tMixE X M fs iB iL) vs σ p.H Dd.rt := by
  unfold sMix at q
  cases zL : ρ[iL]? with
  | none => rw [zL] at q; exact q.elim
  | some oL =>
  rw [zL] at q
  cases oL with
  | none => exact q.elim
  | some vL =>
  cases vL with
  | sh _ => exact q.elim
  | ow dL =>
  cases dL <;> first | (exact q.elim) | skip
  rename_i l
  simp only at q
  cases zB : ρ[iB]? with
  | none => rw [zB] at q; exact q.elim
  | some oB =>
  rw [zB] at q
  cases oB with
  | none => exact q.elim
  | some vB =>
  cases vB with
  | ow _ => exact q.elim
  | sh b =>
  simp only at q
  cases zS : ρ[iS]? with
  | none => rw [zS] at q; exact q.elim
  | some oS =>
  rw [zS] at q
  cases oS with
  | none => exact q.elim
  | some vS =>
  cases vS with
  | ow _ => exact q.elim
  | sh d =>
  simp only at q
  cases zq : seqL d with
  | none => rw [zq] at q; exact q.elim
  | some items =>
  rw [zq] at q
  simp only at q
  obtain ⟨bv, sB, denB⟩ := rl.sh iB b zB
  obtain ⟨aL, oL, sL, hLH, hLv, hLf, hLn, hLd⟩ := rl.ow iL _ zL
  obtain ⟨lv0, rfl⟩ : ∃ lv, oL = .lst lv := by
    cases oL <;> first | exact ⟨_, rfl⟩ | exact False.elim hLd
  have hit : ((eItems anyOf (eVar M iS)) (view [] ρ) p.s : Gx M (List D)) = .ret (items, p.s) := by
    have e1 : (view [] ρ)[iS]? = some (some d) := by
      rw [view_get, zS]; rfl
    have e2 : anyOf d = some items := by
      cases d <;> first | (cases zq; done) | (cases zq; rfl)
    unfold eItems eVar
    rw [e1]
    simp only [G.bind_ret, op, e2]
  refine ⟨view [] ρ, p, rfl, rl.ok, env_nil rl, ?_⟩
  rw [hit]
  intro J q0 e0 ok0 es0 sv D hD
  have hDn : en.H D = none ∨ en.F D := newOld (rl.ext.trans e0) hD
  have hL0 : q0.H aL = some (.lst lv0) := e0.frame aL _ hLH hLf
  have hneq : aL ≠ D := fun z => by rw [z, hD] at hL0; cases hL0
  have hidden : ∀ {q1 q2 : Pt M} {a : Addr} {o : HO}, Ext q1 q2 → q1.H a = some o → q1.Hv a = none → ¬ q1.F a → q2.H a = some o ∧ q2.Hv a = none ∧ ¬ q2.F a := fun {q1 q2 a o} ex h1 h2 h3 => by
    refine ⟨ex.frame a _ h1 h3, ?_, fun z => ?_⟩
    · cases z : q2.Hv a with
      | none => rfl
      | some u =>
        rcases ex.new a u z with ⟨o', z'⟩ | z' | z'
        · rw [h2] at z'; cases z'
        · rw [h1] at z'; cases z'
        · exact absurd z' h3
    · rcases ex.foot a z with z | z
      · exact h3 z
      · rw [h1] at z; cases z
  obtain ⟨k1, k2, k3⟩ := hidden e0 hLH hLv hLf
  refine ⟨fun i n H' => n = items.length - i ∧ i ≤ items.length ∧ ∃ (left acc : List VQ.D) (lv av : List V) (q' : Pt M), q'.H = H' ∧ q'.Ok ∧ Ext en q' ∧ Same q0.Hv q'.Hv ∧ (∀ n a, q0.ad n = some a → q'.ad n = some a) ∧ (q'.H D = some (.lst av) ∧ q'.Hv D = none ∧ ¬ q'.F D) ∧ (q'.H aL = some (.lst lv) ∧ q'.Hv aL = none ∧ ¬ q'.F aL) ∧ DenL X.K q'.ad q'.Hv acc av ∧ DenL X.K q'.ad q'.Hv left lv ∧
    (mixG fs b (items.length - i) left acc q'.s).all (SEnd M en Dd) (XSEnd M X.mg en W),
    ⟨items.length, by simp, Nat.zero_le _, l, [], lv0, [], q0.hid D (.lst []), rfl, ok_hid ok0 hD, (rl.ext.trans e0).trans (ext_hid hD), Same.rfl', fun _ _ z => z, ⟨upd_same, ok0.vn hD, ok0.fn hD⟩, ⟨by show upd q0.H D _ aL = _; rw [upd_ne hneq]; exact k1, k2, k3⟩, DenL.nil, (hLd : DenL X.K p.ad p.Hv l lv0).mono e0.view e0.ad, by rw [Nat.sub_zero]; show (mixG fs b items.length l [] q0.s).all _ _; rw [show q0.s = p.s from es0]; exact q⟩, ?_⟩
  rintro i n H' ⟨rfl, hile, left, acc, lv, av, q', rfl, ok', e', sm', ad', ⟨hD1, hD2, hD3⟩, ⟨hA1, hA2, hA3⟩, da, dl, hl⟩
  obtain ⟨s1, s2⟩ := sv q'.H (sm'.tr ok'.view)
  by_cases hlt : i < items.length
  · obtain ⟨g1, g2⟩ := s2 i _ (List.getElem?_eq_getElem hlt)
    refine .inr ⟨g1, fun H2 => ∃ (left acc : List VQ.D) (lv av : List V) (q' : Pt M), q'.H = H2 ∧ q'.Ok ∧ Ext en q' ∧ Same q0.Hv q'.Hv ∧ (∀ n a, q0.ad n = some a → q'.ad n = some a) ∧ (q'.H D = some (.lst av) ∧ q'.Hv D = none ∧ ¬ q'.F D) ∧ (q'.H aL = some (.lst lv) ∧ q'.Hv aL = none ∧ ¬ q'.F aL) ∧ DenL X.K q'.ad q'.Hv acc av ∧ DenL X.K q'.ad q'.Hv left lv ∧
      (mixG fs b (items.length - (i + 1)) left acc q'.s).all (SEnd M en Dd) (XSEnd M X.mg en W), fun H2 h => ⟨items.length - (i + 1), by omega, rfl, hlt, h⟩, fun x H2 y => ?_⟩
    obtain ⟨q1, eH, eS, ok1, e1⟩ : ∃ q1 : Pt M, q1.H = H2 ∧ q1.s = q'.s ∧ q1.Ok ∧ Ext q' q1 := by
      rcases g2 x H2 y with ⟨rfl, _⟩ | ⟨a, ws, ds, ha, _, rfl, _, _⟩ | ⟨a, ws, ds, b, v0, d0, ha, hb, _, rfl, _, _, _⟩
      · exact ⟨q', rfl, rfl, ok', Ext.refl _⟩
      · exact ⟨q'.lay a (.tup ws), rfl, rfl, ok_lay ok' ha, ext_lay ok' ha⟩
      · have ok2 := ok_lay ok' ha (o := .tup ws)
        exact ⟨(q'.lay a (.tup ws)).lay b (.tup [v0, .ref a]), rfl, rfl, ok_lay ok2 hb, (ext_lay ok' ha).trans (ext_lay ok2 hb)⟩
    obtain ⟨hD4, hD5, hD6⟩ := hidden e1 hD1 hD2 hD3
    obtain ⟨hA4, hA5, hA6⟩ := hidden e1 hA1 hA2 hA3
    rw [← eH]
    refine ⟨(wipe_set hO).trans wipe_idem, ?_⟩
    show tMixE X M fs iB iL ((wipe σ vs).set iO (some x)) q1.H _
    have gL : ((wipe σ vs).set iO (some x))[iL]? = some (some (.ref aL)) := by
      rw [List.getElem?_set_ne (Ne.symm hLO), wipe_out hL, sL]
    have gB : ((wipe σ vs).set iO (some x))[iB]? = some (some bv) := by
      rw [List.getElem?_set_ne (Ne.symm hBO), wipe_out hB, sB]
    have hsub : items.length - i = (items.length - (i + 1)) + 1 := by omega
    rw [hsub] at hl
    simp only [mixG] at hl
    have llen := dl.length
    refine ⟨.ref aL, gL, .inl ⟨rfl, lv, SqL.of hA4⟩, bv, gB, .ref aL, gL, aL, lv, rfl, .inl (SqL.of hA4), ?_⟩
    have denB' : Den X.K q1.ad q1.Hv b bv := (denB.mono e0.view e0.ad).mono (sm'.tr e1.view) (fun n a z => e1.ad n a (ad' n a z))
    rw [← eS] at hl
    refine ⟨[b, .int (left.length : Nat)], q1, rfl, rfl, ok1, DenL.cons denB' (DenL.one (by rw [llen]; rfl)), G.all_mono (fun r hr => ?_) (fun x hx => hx) (G.all_noX (E' := fun z => ∀ cls dd (q : Pt M), Ext q1 q → q.Ok → q.s = z.2 → XOk X.mg q z.1 cls dd → WE W0 ((wipe σ vs).set iO (some x)) cls dd q.H) (G.all_bind.mp hl))⟩
    intro v q2 e2 ok2 es2 rk
    obtain ⟨r, s2⟩ := r
    obtain rfl : q2.s = s2 := es2
    cases r with
    | fr _ => exact hr.elim
    | sh dk =>
      cases dk <;> first | (exact hr.elim) | skip
      rename_i k
      simp only at hr
      split at hr
      · rename_i hk
        have hk2 := hk.2
        rw [lk_eq] at hk2
        cases zk : left[k.toNat]? with
        | none => rw [zk] at hr; exact hr.elim
        | some dk =>
          rw [zk] at hr
          simp only at hr
          split at hr
          · rename_i hbig
            obtain rfl : v = .int k := rk
            obtain ⟨hD7, hD8, hD9⟩ := hidden e2 hD4 hD5 hD6
            obtain ⟨hA7, hA8, hA9⟩ := hidden e2 hA4 hA5 hA6
            have dl2 : DenL X.K q2.ad q2.Hv left lv := e2.denL (e1.denL dl)
            have da2 : DenL X.K q2.ad q2.Hv acc av := e2.denL (e1.denL da)
            obtain ⟨yv, hy, dy⟩ := dl2.get zk
            have hklt : k.toNat < lv.length := (List.getElem?_eq_some_iff.mp hy).1
            have alen := da2.length
            refine ⟨aL, lv, k, k.toNat, yv, rfl, rfl, hA7, Int.le_trans (by decide) hk.1, Int.lt_trans hk2 (by decide), seq_nat hk.1 hklt, hy, av, ?_, ?_, left.eraseIdx k.toNat, acc ++ [dk], lv.eraseIdx k.toNat, av ++ [yv], ⟨q2.s, q2.F, q2.Hv, upd (upd q2.H aL (.lst (lv.eraseIdx k.toNat))) D (.lst (av ++ [yv])), q2.ad⟩, rfl, ?_, ?_, (sm'.tr e1.view).tr e2.view, fun n a z => e2.ad n a (e1.ad n a (ad' n a z)), ⟨upd_same, hD8, hD9⟩, ⟨?_, hA8, hA9⟩, da2.append (DenL.one dy), dl2.erase _, hr⟩
            · rw [upd_ne (Ne.symm hneq)]; exact hD7
            · rw [alen]
              have : big < sizeLine := by rw [sizeLine_eq]; decide
              omega
            · have old : ∀ c o, q2.H c = some o → c ≠ aL → c ≠ D → upd (upd q2.H aL (.lst (lv.eraseIdx k.toNat))) D (.lst (av ++ [yv])) c = some o := fun c o h h1 h2 => by rw [upd_ne h2, upd_ne h1]; exact h
              exact ⟨fun c o h => old c o (ok2.view c o h) (fun z => by rw [z, hA8] at h; cases h) (fun z => by rw [z, hD8] at h; cases h), ok2.off, M.stay ok2.rep Same.rfl' fun c o fc h => old c o h (fun z => hA9 (z ▸ fc)) (fun z => hD9 (z ▸ fc))⟩
            · have ex := (e'.trans e1).trans e2
              exact ⟨ex.view, fun c o h nf => by
                have n1 : c ≠ aL := fun z => by
                  rcases hLn with h' | h'
                  · rw [z, h'] at h; cases h
                  · exact nf (z ▸ h')
                have n2 : c ≠ D := fun z => by
                  rcases hDn with h' | h'
                  · rw [z, h'] at h; cases h
                  · exact nf (z ▸ h')
                show upd (upd q2.H aL _) D _ c = some o
                rw [upd_ne n2, upd_ne n1]; exact ex.frame c o h nf, ex.new, ex.foot, ex.ad⟩
            · show upd (upd q2.H aL _) D _ aL = _
              rw [upd_ne hneq, upd_same]
          · exact hr.elim
      · exact hr.elim
  · have ei : i = items.length := by omega
    subst ei
    rw [Nat.sub_self] at hl
    exact .inl ⟨s1 _ rfl, hl (.ref D) q' e' ok' rfl ⟨D, .lst av, rfl, hD1, hD2, hD3, hDn, da⟩⟩
end
end VQ
namespace VQ
open PySem PySem.Spec PyProof.Rows L2
section
variable {X : Cx} {M : WM X.K} {W : WX} {fs : List D → M.S → Gx M R}
theorem ss_mix (iB iS iL iO : Nat) (own : List (Str × Nat)) {j : Nat} {left bag one some_ : Str} {scope : Scope} {p1 p2 p3 p4 p5 p6 p7 p8 pO pS apos pos rpos : Pos} (hc : X.calm = true) (hN : X.N.Nodup) (ok : BlkOk X.N X.env.scope scope own)
    (c : DefOk X.prog X.w X.K X.mg X.base M 1 "_law_pull" 2 fs []) (hr : Room j X.A) (hm : X.mg "len" = none) (hO : iO ∈ own.map (·.2)) (hLv : iL ∉ own.map (·.2)) (hBv : iB ∉ own.map (·.2)) (hLO : iL ≠ iO) (hBO : iB ≠ iO) (hj : 1 ≤ j)
    (hi : PI X (.Name one pO) (.Name some_ pS) (tIt M W0 (eItems anyOf (eVar M iS))))
    (hg : ∀ (s : Shared) (H : Hp) (C : Addr) (cl : List (Str × Addr)) (fp : List Addr), PG (X.blk s H scope (compEnvC scope cl C X.env) fp) (.Name one pO) (gName iO))
    (he : ∀ (s : Shared) (H : Hp) (C : Addr) (cl : List (Str × Addr)) (fp : List Addr), PE (X.blk s H scope (compEnvC scope cl C X.env) fp) (.Call (.Attribute (.Name left p1) "pop" apos) [.Call (.Name "_law_pull" p2) [.Name bag p3, .Call (.Name "len" p4) [.Name left p5] [] p6] [] p7] [] p8) (tMixE X M fs iB iL))
    (hs : ∀ x, foldedSetIterable (.Name some_ pS) X.env x = pure x) :
    PS X (.Return (some (.ListComp (.Call (.Attribute (.Name left p1) "pop" apos) [.Call (.Name "_law_pull" p2) [.Name bag p3, .Call (.Name "len" p4) [.Name left p5] [] p6] [] p7] [] p8) [⟨.Name one pO, .Name some_ pS, [], 0⟩] scope pos)) rpos) (tS M X.mg W (sMix fs iB iS iL)) :=
  (ps_ret (pe_lc hc hN hi ok hg (fun _ _ _ _ _ => pts_nil) he hs)).con fun Dd σ H ⟨en, ρ, p, hH, rl, q⟩ => by
  subst hH
  exact mix_turns iB iS iL iO _ hO hLv hBv hLO hBO rl q
end
section
variable {K : PySem.W.Frag} {M : WM K} {pull : List D → M.S → Gx M R}
/-- numbers drawn: an order drawn -/
def MixOk (mixed : List D → M.S → Gx M R) : Prop := ∀ (l : List D) (s : M.S), l.length ≤ 1000 → (mixed [.obj 0, .lst l] s).all (fun r => ∃ l' : List D, l'.Perm l ∧ r = (.fr (.lst l'), s)) (fun _ => False)
theorem perm_erase : ∀ (l : List D) (r : Nat) (h : r < l.length), (l[r] :: l.eraseIdx r).Perm l
  | [], r, h => by simp at h
  | x :: l, 0, _ => .refl _
  | x :: l, r + 1, h => by
    have ih := perm_erase l r (by simpa using h)
    exact (List.Perm.swap x _ _).trans (List.Perm.cons x ih)
theorem mixG_all (hp : PullOk pull) : ∀ (n : Nat) (left acc : List D) (s : M.S), left.length = n → acc.length + n ≤ 1000 → (mixG pull (.obj 0) n left acc s).all (fun f => ∃ l' : List D, l'.Perm left ∧ f = (.rt (.fr (.lst (acc ++ l'))), s)) (fun _ => False)
  | 0, left, acc, s, hl, _ => by
    have : left = [] := List.length_eq_zero_iff.mp hl
    subst this
    exact ⟨[], .refl _, by rw [List.append_nil]⟩
  | n + 1, left, acc, s, hl, hb => by
    unfold mixG
    rw [hp left.length (by omega) (by omega) s]
    refine ⟨by omega, fun r hr => ?_⟩
    have hr' : r < left.length := hr
    show ((if 0 ≤ ((r : Nat) : Int) ∧ ((r : Nat) : Int) < lk 1000000 then (match left[((r : Nat) : Int).toNat]? with
      | some d => if acc.length < big then mixG pull (.obj 0) n (left.eraseIdx ((r : Nat) : Int).toNat) (acc ++ [d]) s else .bad
      | none => .bad) else .bad) : Gs M).all _ _
    rw [if_pos ⟨by omega, by rw [lk_eq]; omega⟩, Int.toNat_natCast, List.getElem?_eq_getElem hr']
    simp only
    rw [if_pos (by show _ < 1000000; omega)]
    refine G.all_mono (fun f hf => ?_) (fun _ h => h) (mixG_all hp n (left.eraseIdx r) (acc ++ [left[r]]) s (by rw [List.length_eraseIdx, if_pos hr']; omega) (by simp; omega))
    obtain ⟨l', h1, h2⟩ := hf
    refine ⟨left[r] :: l', ?_, by rw [h2]; simp⟩
    exact (List.Perm.cons _ h1).trans (perm_erase left r hr')
theorem mixed_ok (hp : PullOk pull) : MixOk (mixedD pull) := fun l s hl => by
  have e : ∀ t, (mixedD pull [.obj 0, .lst l] t) = ((mixG pull (.obj 0) l.length l [] t).exs (fun x => (x.1, x.2.2))).bind fun f => match f with
    | (.nx _, s') => .ret (.sh .non, s')
    | (.rt r, s') => .ret (r, s')
    | _ => .bad := fun t => rfl
  rw [e]
  refine G.all_bind.mpr (G.all_exs.mpr (G.all_mono (fun f hf => ?_) (fun _ h => h) (mixG_all hp l.length l [] s rfl (by simpa using hl))))
  obtain ⟨l', h1, h2⟩ := hf
  rw [h2]
  exact ⟨l', h1, by simp⟩
end
end VQ

/-! VrM: for i, (a, b) in enumerate(zip(x, y, strict=True)). -/
namespace ZS
open PySem PySem.Spec PyProof.Rows
/-- a strict zip's object and the marks of what it handed out last -/
abbrev ZsO (h : Heap) (z TI TO : Addr) (f0 f1 : Value) : Prop := h.get? z = some { cls := .type "zip", dict := none, data := .fields #[f0, f1, .bool true, .ref TI, .ref TO], slots := #[] }
def HeldF (f : Value) : Prop := f = .none ∨ ∃ T : Nat, f = rawInt (T : Int)
def ZsA (h : Heap) (z TI TO : Addr) : Prop := ∃ f0 f1, HeldF f0 ∧ ZsO h z TI TO f0 f1
section
variable {prog : Program} {w : World} {A : Around} {E : Value → Shared → Prop} {s : Shared}
theorem alive_any {a : Addr} {M : Model} {Q : Option Obj → Shared → Prop} (h : Q (s.heap.get? a) s) : wpAny M A (loadIfAlive a) Q E s := fun Γ p hp => by
  unfold loadIfAlive
  rw [Sem.wp_loadIfAlive]
  exact wpAny_pure (M := M) (E := E) h Γ p hp
theorem free_any {z TI TO : Addr} {f0 f1 : Value} {Q : Bool → Shared → Prop} (hf : HeldF f0) (hz : ZsO s.heap z TI TO f0 f1) (h1 : Q true s)
    (h2 : ∀ h' f1', ZsO h' z TI TO f0 f1' → Heap.SameBut z s.heap h' → Q false { s with heap := h' }) : wpAny (model prog w) A (Builtin.SmallTypes.ownedTupleIsFree (.ref z)) Q E s := by
  unfold Builtin.SmallTypes.ownedTupleIsFree
  refine wpAny_bind (wpAny_field hz rfl (x := f0) rfl ?_)
  rcases hf with rfl | ⟨T, rfl⟩
  · exact wpAny_pure h1
  · show wpAny _ _ (loadIfAlive _ >>= _) _ _ _
    refine wpAny_bind (alive_any ?_)
    cases ho : s.heap.get? (Int.toNat (T : Int)) with
    | none => exact wpAny_pure h1
    | some o =>
      show wpAny _ _ (field (.ref z) 1 >>= _) _ _ _
      refine wpAny_bind (wpAny_field hz rfl (x := f1) rfl ?_)
      by_cases hb : (f1 != .bool true) = true
      · simp only [hb, if_true]
        refine wpAny_bind (wpAny_setField_rec hz (by simp) fun g hg bg => ?_)
        exact wpAny_pure (h2 g _ hg bg)
      · simp only [hb]
        exact wpAny_pure (h2 s.heap f1 hz (Heap.SameBut.refl _ _))
theorem zsA_item {z TI TO i1 i2 : Addr} {fp1 fp2 : List Addr} {n i : Nat} {P1 P2 : Nat → Value → Prop} {St1 St2 : Nat → Heap → Prop} {a b f0 f1 : Value} {Q : Value → Shared → Prop} (S : ZipSep2 z TI TO i1 i2 fp1 fp2) (D1 : Draws prog w A i1 fp1 n P1 St1) (D2 : Draws prog w A i2 fp2 n P2 St2)
    (hi : i < n) (hf : HeldF f0) (hz : ZsO s.heap z TI TO f0 f1) (hTI : IsPair s.heap TI (.ref i1) (.ref i2)) (hTO : IsPair s.heap TO a b) (h1 : St1 i s.heap) (h2 : St2 i s.heap)
    (hQ : ∀ x y h' tk, P1 i x → P2 i y → ZsA h' z TI TO → IsPair h' TI (.ref i1) (.ref i2) → (∃ a b, IsPair h' TO a b) → St1 (i + 1) h' → St2 (i + 1) h' → IsPair h' s.heap.objs.size x y → h'.objs.size = s.heap.objs.size + 1 →
      (∀ c o, c ≠ z → c ≠ TO → c ≠ i1 → c ≠ i2 → s.heap.get? c = some o → h'.get? c = some o) → Q (.ref s.heap.objs.size) { s with heap := h', toks := tk }) :
    wpAny (model prog w) A (Builtin.«zip.__next__» ⟨[.ref z], []⟩) (fun fin s' => ∃ v, fin = .done (.ret v) ∧ Q v s') E s := by
  have n1z : i1 ≠ z := fun e => S.zf1 (e ▸ S.mem1)
  have n2z : i2 ≠ z := fun e => S.zf2 (e ▸ S.mem2)
  have n1T : i1 ≠ TO := fun e => S.Tf1 (e ▸ S.mem1)
  have n2T : i2 ≠ TO := fun e => S.Tf2 (e ▸ S.mem2)
  show wpAny _ _ (field (.ref z) 2 >>= _) _ _ _
  refine wpAny_bind (wpAny_field hz rfl (x := .bool true) rfl ?_)
  show wpAny _ _ (field (.ref z) 3 >>= _) _ _ _
  refine wpAny_bind (wpAny_field hz rfl (x := .ref TI) rfl ?_)
  refine wpAny_bind (wpAny_seqItems hTI rfl ?_)
  show wpAny _ _ (Builtin.SmallTypes.ownedTupleIsFree (.ref z) >>= _) _ _ _
  have sv : ∀ {fp : List Addr} {j : Nat} {St : Nat → Heap → Prop} {it : Addr} {P : Nat → Value → Prop} (D : Draws prog w A it fp n P St) {g g' : Heap} {d : Addr}, d ∉ fp → Heap.SameBut d g g' → St j g → St j g' := fun {fp j St it P} D {g g' d} hd hb st => D.frame _ _ _ st fun c hc o e => hb.extBut c o (fun x => hd (x ▸ hc)) e
  refine wpAny_bind (free_any hf hz ?_ fun g1 f1' hz1 b1 => ?_)
  case refine_2 =>
    simp only [Bool.false_eq_true, if_false]
    refine wpAny_bind ?_
    simp only [← Array.forIn_toList, List.forIn_cons, List.forIn_nil]
    refine wpAny_bind (wpAny_bind (wpAny_holding ?_))
    show wpAny _ _ (Builtin.SmallTypes.nextOrEnd (.ref i1)) _ _ _
    refine noe_item D1 hi (sv D1 S.zf1 b1 h1) fun x g2 tk1 hx st1 b2 => ?_
    refine wpAny_pure ?_
    refine wpAny_bind (wpAny_bind (wpAny_holding ?_))
    show wpAny _ _ (Builtin.SmallTypes.nextOrEnd (.ref i2)) _ _ _
    refine noe_item D2 hi (sv D2 S.sep1_2 b2 (sv D2 S.zf2 b1 h2)) fun y g4 tk2 hy st2 b4 => ?_
    refine wpAny_pure (wpAny_pure ?_)
    refine wpAny_bind (wpAny_newTuple (hsz := by show 2 ≤ sizeLine; decide) ?_)
    have hsz : g4.objs.size = s.heap.objs.size := by rw [b4.1, b2.1, b1.1]
    have k4 : ∀ c o, c ≠ z → c ≠ i1 → c ≠ i2 → s.heap.get? c = some o → g4.get? c = some o := fun c o c1 c3 c4 e => b4.extBut _ _ c4 (b2.extBut _ _ c3 (b1.extBut _ _ c1 e))
    have hz4 : ZsO g4 z TI TO f0 f1' := b4.extBut _ _ (Ne.symm n2z) (b2.extBut _ _ (Ne.symm n1z) hz1)
    have up : ∀ c o, g4.get? c = some o → (g4.push { cls := .type "tuple", data := .seq #[x, y] }).get? c = some o := fun c o e => Heap.get?_push_of_some _ e
    have hT : IsPair (g4.push { cls := .type "tuple", data := .seq #[x, y] }) g4.objs.size x y := Heap.get?_push_size _ rfl
    have t1 : St1 (i + 1) (g4.push { cls := .type "tuple", data := .seq #[x, y] }) := D1.frame _ _ _ (sv D1 S.sep2_1 b4 st1) fun c hc o e => up c o e
    have t2 : St2 (i + 1) (g4.push { cls := .type "tuple", data := .seq #[x, y] }) := D2.frame _ _ _ st2 fun c hc o e => up c o e
    rw [hsz] at hT
    refine wpAny_pure ⟨_, rfl, ?_⟩
    show Q (.ref g4.objs.size) _
    rw [hsz]
    exact hQ x y _ _ hx hy ⟨f0, f1', hf, up _ _ hz4⟩ (up _ _ (k4 _ _ S.TIz S.TIi1 S.TIi2 hTI)) ⟨a, b, up _ _ (k4 _ _ S.TOz (Ne.symm n1T) (Ne.symm n2T) hTO)⟩ t1 t2 hT (by rw [Heap.size_push, hsz]) fun c o c1 c2 c3 c4 e => up _ _ (k4 c o c1 c3 c4 e)
  simp only [if_true]
  refine wpAny_bind (wpAny_rule ?_)
  refine wpAny_bind (wpAny_field hz rfl (x := .ref TO) rfl ?_)
  refine wpAny_bind (wpAny_setField_rec hz (by simp) fun g1 hz1 b1 => ?_)
  replace hz1 : ZsO g1 z TI TO .ellipsis f1 := hz1
  refine wpAny_bind ?_
  simp only [List.zipIdx_cons, List.zipIdx_nil, List.forIn_cons, List.forIn_nil]
  refine wpAny_bind (wpAny_bind (wpAny_onRaise ?_))
  show wpAny _ _ (Builtin.SmallTypes.nextOrEnd (.ref i1)) _ _ _
  refine noe_item D1 hi (sv D1 S.zf1 b1 h1) fun x g2 tk1 hx st1 b2 => ?_
  have hTO2 : IsPair g2 TO a b := b2.extBut _ _ (Ne.symm n1T) (b1.extBut _ _ S.TOz hTO)
  refine wpAny_bind (wpAny_seqItems hTO2 rfl ?_)
  refine wpAny_bind (wpAny_updateSeq_pair hTO2 fun g3 hTO3 b3 => ?_)
  replace hTO3 : IsPair g3 TO x b := hTO3
  refine wpAny_bind (wpAny_letGo (wpAny_pure ?_))
  refine wpAny_bind (wpAny_bind (wpAny_onRaise ?_))
  show wpAny _ _ (Builtin.SmallTypes.nextOrEnd (.ref i2)) _ _ _
  refine noe_item D2 hi (sv D2 S.Tf2 b3 (sv D2 S.sep1_2 b2 (sv D2 S.zf2 b1 h2))) fun y g4 tk2 hy st2 b4 => ?_
  have hTO4 : IsPair g4 TO x b := b4.extBut _ _ (Ne.symm n2T) hTO3
  refine wpAny_bind (wpAny_seqItems hTO4 rfl ?_)
  refine wpAny_bind (wpAny_updateSeq_pair hTO4 fun g5 hTO5 b5 => ?_)
  replace hTO5 : IsPair g5 TO x y := hTO5
  refine wpAny_bind (wpAny_letGo (wpAny_pure (wpAny_pure ?_)))
  refine wpAny_bind (wpAny_seqItems hTO5 rfl ?_)
  refine wpAny_bind (wpAny_newTuple ?_)
  have hsz : g5.objs.size = s.heap.objs.size := by rw [b5.1, b4.1, b3.1, b2.1, b1.1]
  have hz5 : ZsO g5 z TI TO .ellipsis f1 := b5.extBut _ _ (Ne.symm S.TOz) (b4.extBut _ _ (Ne.symm n2z) (b3.extBut _ _ (Ne.symm S.TOz) (b2.extBut _ _ (Ne.symm n1z) hz1)))
  have hk5 : ∀ c o, c ≠ z → c ≠ TO → c ≠ i1 → c ≠ i2 → s.heap.get? c = some o → g5.get? c = some o := fun c o c1 c2 c3 c4 e =>
    b5.extBut _ _ c2 (b4.extBut _ _ c4 (b3.extBut _ _ c2 (b2.extBut _ _ c3 (b1.extBut _ _ c1 e))))
  have hzlt : z < g5.objs.size := Heap.lt_size hz5
  show wpAny _ _ (Builtin.SmallTypes.ownedTupleHandOut (.ref z) (.ref g5.objs.size) >>= _) _ _ _
  refine wpAny_bind ?_
  unfold Builtin.SmallTypes.ownedTupleHandOut
  have hz6 : ZsO (g5.push { cls := .type "tuple", data := .seq #[x, y] }) z TI TO .ellipsis f1 := Heap.get?_push_of_some _ hz5
  refine wpAny_bind (wpAny_setField_rec hz6 (by simp) fun g7 hz7 b7 => ?_)
  replace hz7 : ZsO g7 z TI TO (rawInt g5.objs.size) f1 := hz7
  refine wpAny_setField_rec hz7 (by simp) fun g8 hz8 b8 => ?_
  replace hz8 : ZsO g8 z TI TO (rawInt g5.objs.size) (.bool false) := hz8
  have up : ∀ c o, c ≠ z → g5.get? c = some o → g8.get? c = some o := fun c o c1 e => b8.extBut _ _ c1 (b7.extBut _ _ c1 (Heap.get?_push_of_some _ e))
  have hT8 : IsPair g8 g5.objs.size x y := b8.extBut _ _ (Nat.ne_of_gt hzlt) (b7.extBut _ _ (Nat.ne_of_gt hzlt) (Heap.get?_push_size _ rfl))
  have t1 : St1 (i + 1) g8 := D1.frame _ _ _ (sv D1 S.Tf1 b5 (sv D1 S.sep2_1 b4 (sv D1 S.Tf1 b3 st1))) fun c hc o e => up c o (fun q => S.zf1 (q ▸ hc)) e
  have t2 : St2 (i + 1) g8 := D2.frame _ _ _ (sv D2 S.Tf2 b5 st2) fun c hc o e => up c o (fun q => S.zf2 (q ▸ hc)) e
  rw [hsz] at hz8 hT8
  refine wpAny_pure ⟨_, rfl, ?_⟩
  show Q (.ref g5.objs.size) _
  rw [hsz]
  exact hQ x y g8 _ hx hy ⟨_, _, .inr ⟨_, rfl⟩, hz8⟩ (up _ _ S.TIz (hk5 _ _ S.TIz S.TITO S.TIi1 S.TIi2 hTI)) ⟨_, _, up _ _ S.TOz hTO5⟩ t1 t2 hT8 (by rw [b8.1, b7.1, Heap.size_push, hsz]) fun c o c1 c2 c3 c4 e => up c o c1 (hk5 c o c1 c2 c3 c4 e)
theorem zsA_end {z TI TO i1 i2 : Addr} {fp1 fp2 : List Addr} {n : Nat} {P1 P2 : Nat → Value → Prop} {St1 St2 : Nat → Heap → Prop} {a b f0 f1 : Value} {Q : Fin → Shared → Prop} (hh : A.handled = none) (S : ZipSep2 z TI TO i1 i2 fp1 fp2) (D1 : Draws prog w A i1 fp1 n P1 St1) (D2 : Draws prog w A i2 fp2 n P2 St2)
    (hf : HeldF f0) (hz : ZsO s.heap z TI TO f0 f1) (hTI : IsPair s.heap TI (.ref i1) (.ref i2)) (hTO : IsPair s.heap TO a b) (h1 : St1 n s.heap) (h2 : St2 n s.heap)
    (hE : ∀ h' e, (∀ c o, c ≠ z → c ≠ TO → c ≠ i1 → c ≠ i2 → s.heap.get? c = some o → h'.get? c = some o) → (∃ o, h'.get? e = some o ∧ o.cls = .type "StopIteration") → E (.ref e) { s with heap := h' }) :
    wpAny (model prog w) A (Builtin.«zip.__next__» ⟨[.ref z], []⟩) Q E s := by
  have n1z : i1 ≠ z := fun e => S.zf1 (e ▸ S.mem1)
  show wpAny _ _ (field (.ref z) 2 >>= _) _ _ _
  refine wpAny_bind (wpAny_field hz rfl (x := .bool true) rfl ?_)
  show wpAny _ _ (field (.ref z) 3 >>= _) _ _ _
  refine wpAny_bind (wpAny_field hz rfl (x := .ref TI) rfl ?_)
  refine wpAny_bind (wpAny_seqItems hTI rfl ?_)
  show wpAny _ _ (Builtin.SmallTypes.ownedTupleIsFree (.ref z) >>= _) _ _ _
  refine wpAny_bind (free_any hf hz ?_ fun g1 f1' hz1 b1 => ?_)
  case refine_2 =>
    simp only [Bool.false_eq_true, if_false]
    refine wpAny_bind ?_
    simp only [← Array.forIn_toList, List.forIn_cons, List.forIn_nil]
    refine wpAny_bind (wpAny_bind (wpAny_holding ?_))
    show wpAny _ _ (Builtin.SmallTypes.nextOrEnd (.ref i1)) _ _ _
    refine noe_end D1 (D1.frame _ _ _ h1 fun c hc o e => b1.extBut c o (fun x => S.zf1 (x ▸ hc)) e) fun g3 b2 => ?_
    have k3 : ∀ c o, c ≠ z → c ≠ i1 → s.heap.get? c = some o → g3.get? c = some o := fun c o c1 c2 e => b2 _ _ c2 (b1.extBut _ _ c1 e)
    have st2 : St2 n g3 := D2.frame _ _ _ h2 fun c hc o e => k3 c o (fun x => S.zf2 (x ▸ hc)) (fun x => S.sep1_2 (x ▸ hc)) e
    refine wpAny_bind ?_
    show wpAny _ _ (forIn [(Value.ref i2, (1 : Nat))] PUnit.unit _ >>= _) _ _ _
    refine wpAny_bind ?_
    simp only [List.forIn_cons, List.forIn_nil]
    refine wpAny_bind ?_
    show wpAny _ _ (Builtin.SmallTypes.nextOrEnd (.ref i2) >>= _) _ _ _
    refine wpAny_bind (noe_end D2 st2 fun g4 b4 => ?_)
    show wpAny _ _ (pure _) _ _ _
    refine wpAny_pure ?_
    refine wpAny_pure ?_
    refine wpAny_bind (wpAny_rule ?_)
    refine stop_raised hh fun g5 e k5 he => ?_
    exact hE g5 e (fun c o c1 c2 c3 c4 x => k5 _ _ (b4 _ _ c4 (k3 c o c1 c3 x))) he
  simp only [if_true]
  refine wpAny_bind (wpAny_rule ?_)
  refine wpAny_bind (wpAny_field hz rfl (x := .ref TO) rfl ?_)
  refine wpAny_bind (wpAny_setField_rec hz (by simp) fun g1 hz1 b1 => ?_)
  replace hz1 : ZsO g1 z TI TO .ellipsis f1 := hz1
  refine wpAny_bind ?_
  simp only [List.zipIdx_cons, List.zipIdx_nil, List.forIn_cons, List.forIn_nil]
  refine wpAny_bind (wpAny_bind (wpAny_onRaise ?_))
  show wpAny _ _ (Builtin.SmallTypes.nextOrEnd (.ref i1)) _ _ _
  refine noe_end D1 (D1.frame _ _ _ h1 fun c hc o e => b1.extBut c o (fun x => S.zf1 (x ▸ hc)) e) fun g2 b2 => ?_
  have hz2 : ZsO g2 z TI TO .ellipsis f1 := b2 _ _ (Ne.symm n1z) hz1
  refine wpAny_bind (wpAny_setField_rec hz2 (by simp) fun g3 hz3 b3 => ?_)
  have k3 : ∀ c o, c ≠ z → c ≠ i1 → s.heap.get? c = some o → g3.get? c = some o := fun c o c1 c2 e => b3.extBut _ _ c1 (b2 _ _ c2 (b1.extBut _ _ c1 e))
  have st2 : St2 n g3 := D2.frame _ _ _ h2 fun c hc o e => k3 c o (fun x => S.zf2 (x ▸ hc)) (fun x => S.sep1_2 (x ▸ hc)) e
  refine wpAny_bind ?_
  show wpAny _ _ (forIn [(Value.ref i2, (1 : Nat))] PUnit.unit _ >>= _) _ _ _
  refine wpAny_bind ?_
  simp only [List.forIn_cons, List.forIn_nil]
  refine wpAny_bind ?_
  show wpAny _ _ (Builtin.SmallTypes.nextOrEnd (.ref i2) >>= _) _ _ _
  refine wpAny_bind (noe_end D2 st2 fun g4 b4 => ?_)
  show wpAny _ _ (pure _) _ _ _
  refine wpAny_pure ?_
  refine wpAny_pure ?_
  refine wpAny_bind (wpAny_rule ?_)
  refine stop_raised hh fun g5 e k5 he => ?_
  exact hE g5 e (fun c o c1 c2 c3 c4 x => k5 _ _ (b4 _ _ c4 (k3 c o c1 c3 x))) he
/-- next of a strict zip, asked by another iterator -/
theorem zsA_next {z TI TO i1 i2 : Addr} {fp1 fp2 : List Addr} {n i : Nat} {P1 P2 : Nat → Value → Prop} {St1 St2 : Nat → Heap → Prop} {Q : Value → Shared → Prop} (S : ZipSep2 z TI TO i1 i2 fp1 fp2) (D1 : Draws prog w A.in1 i1 fp1 n P1 St1) (D2 : Draws prog w A.in1 i2 fp2 n P2 St2)
    (hi : i < n) (hz : ZsA s.heap z TI TO) (hTI : IsPair s.heap TI (.ref i1) (.ref i2)) (hTO : ∃ a b, IsPair s.heap TO a b) (h1 : St1 i s.heap) (h2 : St2 i s.heap)
    (hQ : ∀ x y h' tk, P1 i x → P2 i y → ZsA h' z TI TO → IsPair h' TI (.ref i1) (.ref i2) → (∃ a b, IsPair h' TO a b) → St1 (i + 1) h' → St2 (i + 1) h' → IsPair h' s.heap.objs.size x y → h'.objs.size = s.heap.objs.size + 1 →
      (∀ c o, c ≠ z → c ≠ TO → c ≠ i1 → c ≠ i2 → s.heap.get? c = some o → h'.get? c = some o) → Q (.ref s.heap.objs.size) { s with heap := h', toks := tk }) :
    wpAny (model prog w) A (Builtin.SmallTypes.nextOf (.ref z)) Q E s := by
  obtain ⟨f0, f1, hf, hz⟩ := hz
  obtain ⟨a, b, hTO⟩ := hTO
  have hT : s.TypeIs (.ref z) "zip" := ⟨_, hz, rfl⟩
  unfold Builtin.SmallTypes.nextOf
  exact wpAny_bind (wpAny_callSpecial?_slot (name := Str.ofString "__next__") hT F.slot_zip_next
    (wpAny_call_entry F.slot_zip_next hT F.entry_zip_next (zsA_item S D1 D2 hi hf hz hTI hTO h1 h2 fun x y h' tk a1 a2 a3 a4 a5 a6 a7 a8 a9 k => wpAny_pure (hQ x y h' tk a1 a2 a3 a4 a5 a6 a7 a8 a9 k)) (F.args_zip_next_1 _)))
theorem zsA_stop {z TI TO i1 i2 : Addr} {fp1 fp2 : List Addr} {n : Nat} {P1 P2 : Nat → Value → Prop} {St1 St2 : Nat → Heap → Prop} {Q : Value → Shared → Prop} (hh : A.handled = none) (S : ZipSep2 z TI TO i1 i2 fp1 fp2) (D1 : Draws prog w A.in1 i1 fp1 n P1 St1) (D2 : Draws prog w A.in1 i2 fp2 n P2 St2)
    (hz : ZsA s.heap z TI TO) (hTI : IsPair s.heap TI (.ref i1) (.ref i2)) (hTO : ∃ a b, IsPair s.heap TO a b) (h1 : St1 n s.heap) (h2 : St2 n s.heap)
    (hE : ∀ h' e, (∀ c o, c ≠ z → c ≠ TO → c ≠ i1 → c ≠ i2 → s.heap.get? c = some o → h'.get? c = some o) → (∃ o, h'.get? e = some o ∧ o.cls = .type "StopIteration") → E (.ref e) { s with heap := h' }) :
    wpAny (model prog w) A (Builtin.SmallTypes.nextOf (.ref z)) Q E s := by
  obtain ⟨f0, f1, hf, hz⟩ := hz
  obtain ⟨a, b, hTO⟩ := hTO
  have hT : s.TypeIs (.ref z) "zip" := ⟨_, hz, rfl⟩
  unfold Builtin.SmallTypes.nextOf
  exact wpAny_bind (wpAny_callSpecial?_slot (name := Str.ofString "__next__") hT F.slot_zip_next
    (wpAny_call_entry F.slot_zip_next hT F.entry_zip_next (zsA_end hh S D1 D2 hf hz hTI hTO h1 h2 hE) (F.args_zip_next_1 _)))
/-- next of an enumerate over whatever gives its next -/
theorem enZ_item {e z : Addr} {c : Int} {R : Value → Heap → Prop} {Q : Value → Shared → Prop} {old : Value} (he0 : IsEnum s.heap e z c old)
    (inner : ∀ Q' : Value → Shared → Prop, (∀ x h1 tk, R x h1 → (∃ o', IsEnum h1 e z c o') → Q' x { s with heap := h1, toks := tk }) → wpAny (model prog w) A (Builtin.SmallTypes.nextOf (.ref z)) Q' E s)
    (hQ : ∀ x h1 tk g, R x h1 → IsEnumOut g e z (c + 1) x h1.objs.size → g.get? h1.objs.size = some { cls := .type "tuple", data := .seq #[.int c tk, x] } → (∀ b o, b ≠ e → h1.get? b = some o → g.get? b = some o) → e < h1.objs.size →
      Q (.ref h1.objs.size) { s with heap := g, toks := tk + 1 }) :
    wpAny (model prog w) A (Builtin.«enumerate.__next__» ⟨[.ref e], []⟩) (fun fin s' => ∃ v, fin = .done (.ret v) ∧ Q v s') E s := by
  obtain ⟨hp, g0, d, tk0, os⟩ := s
  show wpAny _ _ (field (.ref e) 2 >>= _) _ _ _
  refine wpAny_bind (wpAny_field he0 rfl (x := .ref z) rfl ?_)
  refine wpAny_bind (inner _ fun x h1 tk hR he => ?_)
  obtain ⟨o', he⟩ := he
  have hlt : e < h1.objs.size := Heap.lt_size he
  show wpAny _ _ (field (.ref e) 3 >>= _) _ _ ⟨h1, g0, d, tk, os⟩
  refine wpAny_bind (wpAny_field he rfl (x := rawInt c) rfl ?_)
  show wpAny _ _ (field (.ref e) 4 >>= _) _ _ ⟨h1, g0, d, tk, os⟩
  refine wpAny_bind (wpAny_field he rfl (x := .none) rfl ?_)
  show wpAny _ _ (mkInt c >>= _) _ _ ⟨h1, g0, d, tk, os⟩
  refine wpAny_bind (wpAny_mkInt ?_)
  show wpAny _ _ (setField (.ref e) 3 (rawInt (c + 1)) >>= _) _ _ ⟨h1, g0, d, tk + 1, os⟩
  refine wpAny_bind (wpAny_setField_rec he (by simp) fun g2 he2 b2 => ?_)
  replace b2 : Heap.SameBut e h1 g2 := b2
  replace he2 : IsEnum g2 e z (c + 1) o' := he2
  show wpAny _ _ (setField (.ref e) 4 .none >>= _) _ _ ⟨g2, g0, d, tk + 1, os⟩
  refine wpAny_bind (wpAny_setField_rec he2 (by simp) fun g3 he3 b3 => ?_)
  replace b3 : Heap.SameBut e g2 g3 := b3
  replace he3 : IsEnum g3 e z (c + 1) o' := he3
  show wpAny _ _ (newTuple [.int c tk, x] >>= _) _ _ ⟨g3, g0, d, tk + 1, os⟩
  refine wpAny_bind (wpAny_newTuple ?_)
  have hsz : g3.objs.size = h1.objs.size := by rw [b3.1, b2.1]
  have he4 : IsEnum (g3.push { cls := .type "tuple", data := .seq #[.int c tk, x] }) e z (c + 1) o' := Heap.get?_push_of_some _ he3
  have t4 : (g3.push { cls := .type "tuple", data := .seq #[.int c tk, x] }).get? h1.objs.size = some { cls := .type "tuple", data := .seq #[.int c tk, x] } := by rw [← hsz]; exact Heap.get?_push_size _ rfl
  have k4 : ∀ b o, b ≠ e → h1.get? b = some o → (g3.push { cls := .type "tuple", data := .seq #[.int c tk, x] }).get? b = some o := fun b o hb q => Heap.get?_push_of_some _ (b3.extBut b o hb (b2.extBut b o hb q))
  generalize g3.push { cls := .type "tuple", data := .seq #[.int c tk, x] } = g4 at he4 t4 k4
  show wpAny _ _ (Builtin.SmallTypes.ownedTupleIsFree (.ref e) >>= _) _ _ ⟨g4, g0, d, tk + 1, os⟩
  rw [hsz]
  refine wpAny_bind ?_
  unfold Builtin.SmallTypes.ownedTupleIsFree
  refine wpAny_bind (wpAny_field he4 rfl (x := .none) rfl (wpAny_pure ?_))
  simp only [if_true]
  refine wpAny_bind (wpAny_rule ?_)
  refine wpAny_bind (wpAny_field he4 rfl (x := o') rfl ?_)
  refine wpAny_bind (wpAny_setField_rec he4 (by simp) fun g5 he5 b5 => ?_)
  replace b5 : Heap.SameBut e g4 g5 := b5
  replace he5 : IsEnum g5 e z (c + 1) x := he5
  show wpAny _ _ (Builtin.SmallTypes.ownedTupleHandOut (.ref e) (.ref h1.objs.size) >>= _) _ _ ⟨g5, g0, d, tk + 1, os⟩
  refine wpAny_bind ?_
  unfold Builtin.SmallTypes.ownedTupleHandOut
  refine wpAny_bind (wpAny_setField_rec he5 (by simp) fun g6 he6 b6 => ?_)
  replace b6 : Heap.SameBut e g5 g6 := b6
  replace he6 : IsEnumOut g6 e z (c + 1) x h1.objs.size := he6
  refine wpAny_setField_rec he6 (by simp) fun g7 he7 b7 => ?_
  replace b7 : Heap.SameBut e g6 g7 := b7
  replace he7 : IsEnumOut g7 e z (c + 1) x h1.objs.size := he7
  have k7 : ∀ b o, b ≠ e → g4.get? b = some o → g7.get? b = some o := fun b o hb q => b7.extBut b o hb (b6.extBut b o hb (b5.extBut b o hb q))
  exact wpAny_bind (wpAny_letGo (wpAny_pure ⟨_, rfl, hQ x h1 tk g7 hR he7 (k7 _ _ (Nat.ne_of_gt hlt) t4) (fun b o hb q => k7 b o hb (k4 b o hb q)) hlt⟩))
theorem enZ_next {e z : Addr} {c : Int} {R : Value → Heap → Prop} {Q : Option Value → Shared → Prop} {old : Value} (he0 : IsEnum s.heap e z c old)
    (inner : ∀ (E' : Value → Shared → Prop) (Q' : Value → Shared → Prop), (∀ x h1 tk, R x h1 → (∃ o', IsEnum h1 e z c o') → Q' x { s with heap := h1, toks := tk }) → wpAny (model prog w) A.in1 (Builtin.SmallTypes.nextOf (.ref z)) Q' E' s)
    (hQ : ∀ x h1 tk g, R x h1 → IsEnumOut g e z (c + 1) x h1.objs.size → g.get? h1.objs.size = some { cls := .type "tuple", data := .seq #[.int c tk, x] } → (∀ b o, b ≠ e → h1.get? b = some o → g.get? b = some o) → e < h1.objs.size →
      Q (some (.ref h1.objs.size)) { s with heap := g, toks := tk + 1 }) : wpAny (model prog w) A (pyNext (.ref e)) Q E s := by
  have hT : s.TypeIs (.ref e) "enumerate" := ⟨_, he0, rfl⟩
  unfold pyNext
  exact wpAny_bind (wpAny_attempt (wpAny_callSpecial?_slot (name := Str.ofString "__next__") hT F.slot_enumerate_next
    (wpAny_call_entry F.slot_enumerate_next hT F.entry_enumerate_next (enZ_item he0 (inner _) fun x h1 tk g a1 a2 a3 a4 a5 => wpAny_pure (hQ x h1 tk g a1 a2 a3 a4 a5)) (F.args_enumerate_next_1 _))))
theorem enZ_stop {e z : Addr} {c : Int} {R : Heap → Prop} {Q : Option Value → Shared → Prop} {old : Value} (he0 : IsEnum s.heap e z c old)
    (inner : ∀ (Q' : Value → Shared → Prop) (E' : Value → Shared → Prop), (∀ h1 x, R h1 → (∃ o, h1.get? x = some o ∧ o.cls = .type "StopIteration") → E' (.ref x) { s with heap := h1 }) → wpAny (model prog w) A.in1 (Builtin.SmallTypes.nextOf (.ref z)) Q' E' s)
    (hQ : ∀ h1, R h1 → Q none { s with heap := h1 }) : wpAny (model prog w) A (pyNext (.ref e)) Q E s := by
  have hT : s.TypeIs (.ref e) "enumerate" := ⟨_, he0, rfl⟩
  unfold pyNext
  refine wpAny_bind (wpAny_attempt (wpAny_callSpecial?_slot (name := Str.ofString "__next__") hT F.slot_enumerate_next
    (wpAny_call_entry F.slot_enumerate_next hT F.entry_enumerate_next ?_ (F.args_enumerate_next_1 _))))
  show wpAny _ _ (field (.ref e) 2 >>= _) _ _ _
  refine wpAny_bind (wpAny_field he0 rfl (x := .ref z) rfl ?_)
  refine wpAny_bind (inner _ _ fun h1 x hR hx => ?_)
  obtain ⟨o, ho, hc⟩ := hx
  refine wpAny_bind (wpAny_isInstance (T := "StopIteration") (b := true) ⟨o, ho, hc⟩ isSubtype_stop ?_)
  exact wpAny_pure (hQ _ hR)
/-- enumerate(v), v an iterator that gives itself -/
theorem enS_new {v : Value} {Hv : Heap → Prop} (B : ∀ (prog : Program) (w : World) (A : Around) (E : Value → Shared → Prop) (s : Shared) (Q : Value → Shared → Prop), Hv s.heap → Q v s → wpAny (model prog w) A (pyIter v) Q E s) : Meets (Builtin.«enumerate.__new__» ⟨[.type "enumerate", v], []⟩) (fun _ R s => Hv s.heap ∧
    R (.ok (.ret (.ref s.heap.objs.size))) { s with heap := s.heap.push { cls := .type "enumerate", data := .fields #[.none, .bool false, v, rawInt 0, .none, .none] } }) := .of_wp fun prog w A R s h => by
  obtain ⟨hp, g, d, tk, os⟩ := s
  obtain ⟨h1, h⟩ := h
  have hsub := sub_enumerate
  have q1 : ∀ {A' : Around} {E : Value → Shared → Prop} {Q : Value → Shared → Prop}, Q v ⟨hp, g, d, tk, os⟩ → wpAny (model prog w) A' (pyIter v) Q E ⟨hp, g, d, tk, os⟩ := fun q => B prog w _ _ ⟨hp, g, d, tk, os⟩ _ h1 q
  wp_walk using q1
  refine wpAny_stack_any fun st => wpAny_pure ?_
  split
  · rename_i c _ _ _ _ _
    cases (c == Value.type "enumerate")
    all_goals
      wp_walk using q1
      exact ⟨_, rfl, h⟩
  · wp_walk using q1
    exact ⟨_, rfl, h⟩
theorem enS_begins {z : Addr} {Hv : Heap → Prop} {Q : Value → Shared → Prop} (B : ∀ (prog : Program) (w : World) (A : Around) (E : Value → Shared → Prop) (s : Shared) (Q : Value → Shared → Prop), Hv s.heap → Q (.ref z) s → wpAny (model prog w) A (pyIter (.ref z)) Q E s) (h1 : Hv s.heap)
    (h : ∀ h', IsEnum h' s.heap.objs.size z 0 .none → (∀ b x, s.heap.get? b = some x → h'.get? b = some x) → Q (.ref s.heap.objs.size) { s with heap := h' }) :
    wpAny (model prog w) A (call (.type "enumerate") [.ref z]) Q E s := by
  refine callType_new F.called_enumerate (by decide) (F.typeCall_enumerate_1 _) (F.newCall_enumerate_1 _) (fun obj => F.args_object_init_2 obj _) F.entry_enumerate_new (enS_new B) ⟨h1, ?_⟩
  have he : IsEnum (s.heap.push { cls := .type "enumerate", data := .fields #[.none, .bool false, .ref z, rawInt 0, .none, .none] }) s.heap.objs.size z 0 .none := Heap.get?_push_size _ rfl
  exact ⟨⟨_, he, rfl⟩, h _ he fun b x q => Heap.get?_push_of_some _ q⟩
end
end ZS

/-! VrN: for i, (a, b) in enumerate(zip(x, y, strict=True)), read over plain data. -/
namespace VQ
open PySem PySem.Spec PyProof.Rows L2 ZS
def Itez (K : PySem.W.Frag) (k1 k2 : Bool) (a b : Addr) : It :=
  ⟨fun i H => ∃ (xs ys : List V), SqK K k1 H a xs ∧ SqK K k2 H b ys ∧ xs.length = ys.length ∧ i < xs.length,
    fun i H v H' => ∃ T1 T2 x y, v = .ref T2 ∧ H T1 = none ∧ upd H T1 (.tup [x, y]) T2 = none ∧ H' = upd (upd H T1 (.tup [x, y])) T2 (.tup [.int (i : Nat), .ref T1]) ∧ (∀ xs, SqK K k1 H a xs → xs[i]? = some x) ∧ ∀ ys, SqK K k2 H b ys → ys[i]? = some y,
    fun i H => ∃ xs ys : List V, SqK K k1 H a xs ∧ SqK K k2 H b ys ∧ xs.length = i ∧ ys.length = i⟩
theorem turn_ez {P : Program} {w : World} {K : PySem.W.Frag} {elts : List Expr} {kk : Nat} {tpos : Pos} {k1 k2 : Bool} {a b e z TI TO i1 i2 : Addr} (S : ZipSep2 z TI TO i1 i2 [i1, a] [i2, b]) (ne1 : a ≠ i1) (ne2 : b ≠ i2) (ez : e ≠ z) (eT : e ≠ TI) (eO : e ≠ TO) (e1 : e ≠ i1) (e2 : e ≠ i2) :
    Turn P w K (.Tuple elts kk tpos) (Itez K k1 k2 a b) [e, z, TI, TO, i1, i2] e (fun i h => (∃ old, IsEnum h e z ((i : Nat) : Int) old) ∧ ZsA h z TI TO ∧ IsPair h TI (.ref i1) (.ref i2) ∧ (∃ x y, IsPair h TO x y) ∧ ItrK k1 h i1 a i ∧ ItrK k2 h i2 b i) where
  mem := by simp
  obj := fun i h st c hc => by
    obtain ⟨⟨old, he⟩, ⟨f0, f1, _, hz⟩, hTI, ⟨x, y, hTO⟩, h1, h2⟩ := st
    simp only [List.mem_cons, List.not_mem_nil, or_false] at hc
    rcases hc with q | q | q | q | q | q
    · rw [q]; exact ⟨_, he, fun v q => nomatch q⟩
    · rw [q]; exact ⟨_, hz, fun v q => nomatch q⟩
    · rw [q]; exact ⟨_, hTI, fun v q => nomatch q⟩
    · rw [q]; exact ⟨_, hTO, fun v q => nomatch q⟩
    · rw [q]; exact itrK_obj h1
    · rw [q]; exact itrK_obj h2
  keep := fun i h h' st k => by
    obtain ⟨⟨old, he⟩, ⟨f0, f1, hf, hz⟩, hTI, ⟨x, y, hTO⟩, h1, h2⟩ := st
    exact ⟨⟨old, k e (by simp) _ he⟩, ⟨f0, f1, hf, k z (by simp) _ hz⟩, k TI (by simp) _ hTI, ⟨x, y, k TO (by simp) _ hTO⟩, h1.keep fun o q => k i1 (by simp) o q, h2.keep fun o q => k i2 (by simp) o q⟩
  item := by
    intro X hP hw hK hc i pins s σ H E I hf st hg
    subst hP hw hK
    obtain ⟨⟨old, he⟩, hz, hTI, hTO, h1, h2⟩ := st
    obtain ⟨xs, ys, qx, qy, hlen, hi⟩ := hg
    obtain ⟨its, rv, p, pl⟩ := invK k1 I qx
    obtain ⟨its2, rv2, p2, pl2⟩ := invK k2 I qy
    have l1 := rv.length
    have l2 := rv2.length
    have hh : X.A.in1.in1.handled = none := I.ok.hd hc
    have hs2 : its2.toArray.size = its.toArray.size := by simp; omega
    have D1 := drawsK k1 (prog := X.prog) (w := X.w) hh i1 a ne1 its.toArray
    have D2 := drawsK k2 (prog := X.prog) (w := X.w) hh i2 b ne2 its2.toArray
    rw [hs2] at D2
    refine enZ_next (R := fun v g => v = .ref s.heap.objs.size ∧ ∃ u u2, its.toArray[i]? = some u ∧ its2.toArray[i]? = some u2 ∧ ZsA g z TI TO ∧ IsPair g TI (.ref i1) (.ref i2) ∧ (∃ x y, IsPair g TO x y) ∧ ItrK k1 g i1 a (i + 1) ∧ ItrK k2 g i2 b (i + 1) ∧ IsPair g s.heap.objs.size u u2 ∧ g.objs.size = s.heap.objs.size + 1 ∧
      ∀ c o, c ≠ z → c ≠ TO → c ≠ i1 → c ≠ i2 → s.heap.get? c = some o → g.get? c = some o) he (fun E' Q' hQ' => ?_) fun v h1' tk g hR ho hT hk hlt => ?_
    · refine zsA_next S D1 D2 (by simp; omega) hz hTI hTO ⟨h1, p⟩ ⟨h2, p2⟩ fun u u2 h' tk hu hu2 a1 a2 a3 a4 a5 a6 a7 a8 => ?_
      exact hQ' _ h' tk ⟨rfl, u, u2, hu, hu2, a1, a2, a3, a4.1, a5.1, a6, a7, a8⟩ ⟨old, a8 e _ ez eO e1 e2 he⟩
    · obtain ⟨rfl, u, u2, hu, hu2, a1, a2, a3, a4, a5, a6, a7, a8⟩ := hR
      refine ⟨_, rfl, wpAny_letOwnedTupleGo_enum (s := { s with heap := g, toks := tk + 1 }) ho fun h'' he' sb => ?_⟩
      obtain ⟨x, hx⟩ : ∃ x, xs[i]? = some x := ⟨xs[i], by simp [hi]⟩
      obtain ⟨y, hy⟩ : ∃ y, ys[i]? = some y := ⟨ys[i]'(by omega), by simp [show i < ys.length by omega]⟩
      obtain ⟨v, hv, rx⟩ := rv.get hx
      obtain ⟨v2, hv2, ry⟩ := rv2.get hy
      have eu : u = v := by simpa [hv] using hu.symm
      have eu2 : u2 = v2 := by simpa [hv2] using hu2.symm
      subst eu eu2
      have hlow : ∀ c ∈ [e, z, TI, TO, i1, i2], c < s.heap.objs.size := fun c hcm => by
        obtain ⟨o1, q1, _⟩ := itrK_obj h1
        obtain ⟨o2, q2, _⟩ := itrK_obj h2
        obtain ⟨f0, f1, _, hz⟩ := hz
        obtain ⟨x0, y0, hTO⟩ := hTO
        simp only [List.mem_cons, List.not_mem_nil, or_false] at hcm
        rcases hcm with q | q | q | q | q | q
        · rw [q]; exact Heap.lt_size he
        · rw [q]; exact Heap.lt_size hz
        · rw [q]; exact Heap.lt_size hTI
        · rw [q]; exact Heap.lt_size hTO
        · rw [q]; exact Heap.lt_size q1
        · rw [q]; exact Heap.lt_size q2
      -- the inner pair
      have new1 : ObjOk X.prog X.w (upd H s.heap.objs.size (.tup [x, y])) h1' s.heap.objs.size (.tup [x, y]) := ⟨by show 2 ≤ sizeLine; decide, [u, u2], .cons rx (.cons ry .nil), ⟨_, a6, rfl, _, rfl⟩⟩
      have I1 : L2.Inv X pins σ (upd H s.heap.objs.size (.tup [x, y])) { s with heap := h1', toks := tk } :=
        I.turnedNew (t' := tk) (ch := [e, z, TI, TO, i1, i2]) (fun c o hb q => a8 c o (fun q' => hb (by simp [q'])) (fun q' => hb (by simp [q'])) (fun q' => hb (by simp [q'])) (fun q' => hb (by simp [q'])) q) hf (Nat.le_refl _) new1
      have hf1 : ∀ c ∈ [e, z, TI, TO, i1, i2], FpOk X pins (upd H s.heap.objs.size (.tup [x, y])) c := fun c hcm => by
        obtain ⟨n0, nr⟩ := hf c hcm
        exact ⟨by rw [upd_ne (Nat.ne_of_lt (hlow c hcm))]; exact n0, nr⟩
      -- the outer pair
      have hT2 : h''.get? h1'.objs.size = some { cls := .type "tuple", data := .seq #[.int (i : Nat) tk, .ref s.heap.objs.size] } := (sb.2 _ (Nat.ne_of_gt hlt)).trans hT
      have new2 : ObjOk X.prog X.w (upd (upd H s.heap.objs.size (.tup [x, y])) h1'.objs.size (.tup [.int (i : Nat), .ref s.heap.objs.size])) h'' h1'.objs.size (.tup [.int (i : Nat), .ref s.heap.objs.size]) :=
        ⟨by show 2 ≤ sizeLine; decide, [.int (i : Nat) tk, .ref s.heap.objs.size], .cons ⟨_, rfl⟩ (.cons rfl .nil), ⟨_, hT2, rfl, _, rfl⟩⟩
      have kg : ∀ c o, c ≠ e → h1'.get? c = some o → h''.get? c = some o := fun c o hc q => (sb.2 c hc).trans (hk c o hc q)
      have I2 : L2.Inv X pins σ (upd (upd H s.heap.objs.size (.tup [x, y])) h1'.objs.size (.tup [.int (i : Nat), .ref s.heap.objs.size])) { s with heap := h'', toks := tk + 1 } :=
        I1.turnedNew (t' := tk + 1) (ch := [e, z, TI, TO, i1, i2]) (fun c o hb q => kg c o (fun q' => hb (by simp [q'])) q) hf1 (Nat.le_refl _) new2
      have hfr1 : upd H s.heap.objs.size (.tup [x, y]) h1'.objs.size = none := I1.hok.fresh (Nat.le_refl _)
      refine ⟨.ref h1'.objs.size, _, I2, rfl, ⟨_, _, x, y, rfl, I.hok.fresh (Nat.le_refl _), hfr1, rfl, fun l hl => by rw [sqK_inj k1 I hl qx]; exact hx, fun l hl => by rw [sqK_inj k2 I hl qy]; exact hy⟩, ⟨⟨.ref s.heap.objs.size, ?_⟩, ?_, ?_, ?_, ?_, ?_⟩, fun c hcm => ?_⟩
      · rw [show ((i + 1 : Nat) : Int) = (i : Int) + 1 by omega]; exact he'
      · obtain ⟨f0, f1, hf0, q⟩ := a1
        exact ⟨f0, f1, hf0, kg _ _ (Ne.symm ez) q⟩
      · exact kg _ _ (Ne.symm eT) a2
      · obtain ⟨x0, y0, q⟩ := a3
        exact ⟨x0, y0, kg _ _ (Ne.symm eO) q⟩
      · exact a4.keep fun o q => kg _ _ (Ne.symm e1) q
      · exact a5.keep fun o q => kg _ _ (Ne.symm e2) q
      · have hlt := hlow c hcm
        rw [upd_ne (Nat.ne_of_lt (Nat.lt_of_lt_of_le hlt (by rw [a7]; exact Nat.le_succ _))), upd_ne (Nat.ne_of_lt hlt)]
        exact (hf c hcm).1
  done := by
    intro X hP hw hK hc i pins s σ H E I hf st hg
    subst hP hw hK
    obtain ⟨⟨old, he⟩, hz, hTI, hTO, h1, h2⟩ := st
    obtain ⟨xs, ys, qx, qy, e1', e2'⟩ := hg
    obtain ⟨its, rv, p, _⟩ := invK k1 I qx
    obtain ⟨its2, rv2, p2, _⟩ := invK k2 I qy
    have l1 := rv.length
    have l2 := rv2.length
    have hh : X.A.in1.in1.handled = none := I.ok.hd hc
    have D1 := drawsK k1 (prog := X.prog) (w := X.w) hh i1 a ne1 its.toArray
    have D2 := drawsK k2 (prog := X.prog) (w := X.w) hh i2 b ne2 its2.toArray
    have z1 : its.toArray.size = i := by simp; omega
    have z2 : its2.toArray.size = i := by simp; omega
    rw [z1] at D1
    rw [z2] at D2
    refine enZ_stop (R := fun g => ∀ c o, c ≠ z → c ≠ TO → c ≠ i1 → c ≠ i2 → s.heap.get? c = some o → g.get? c = some o) he (fun Q' E' hE' => ?_) fun h' hk => ⟨rfl, I.turnedL (t' := s.toks) (ch := [e, z, TI, TO, i1, i2]) (fun c o hb q => hk c o (fun q' => hb (by simp [q'])) (fun q' => hb (by simp [q'])) (fun q' => hb (by simp [q'])) (fun q' => hb (by simp [q'])) q) hf⟩
    exact zsA_stop (I.ok.hd hc) S D1 D2 hz hTI hTO ⟨h1, p⟩ ⟨h2, p2⟩ fun h' x hk hx => hE' h' x hk hx
  self := fun A i s Q E st h => let ⟨⟨_, he⟩, _⟩ := st; wpAny_pyIter_enum he h
theorem zs_eval {X : Cx} {e e2 : Expr} {ta : TA} {p pos kp : Pos} {j : Nat} {cp : Pos} (hm : X.mg "zip" = none) (ha : PA X [e, e2] ta) (hg : Gl X "zip")
    (hs : starEach [e, e2] X.env = (false, eval e X.env) :: starEach [e2] X.env) (hpl : (backTo pos (starEach [e2] X.env)).any (·.1) = false)
    {pins : List (Addr × Obj)} {s : Shared} {σ : L2.St} {H : Hp} {R : It → Hp → Prop} {Q : Value → Shared → Prop} (I : L2.Inv X pins σ H s)
    (h : ta σ H fun vs H1 => ∃ a b k1 k2 xs ys, vs = [.ref a, .ref b] ∧ SqK X.K k1 H1 a xs ∧ SqK X.K k2 H1 b ys ∧ xs.length = ys.length ∧ R (Itez X.K k1 k2 a b) H1)
    (hQ : ∀ a b k1 k2 H2 s2, L2.Inv X pins σ H2 s2 → R (Itez X.K k1 k2 a b) H2 → ∀ N, N + 5 ≤ s2.heap.objs.size → a < N → b < N → (∀ c, N ≤ c → FpOk X pins H2 c) → IsZs s2.heap (N + 4) (N + 2) (N + 3) .none → IsPair s2.heap (N + 2) (.ref N) (.ref (N + 1)) → IsPair s2.heap (N + 3) .none .none → ItrK k1 s2.heap N a 0 → ItrK k2 s2.heap (N + 1) b 0 → Q (.ref (N + 4)) s2) :
    wpAny (model X.prog X.w) X.A (eval (.Call (.Name "zip" p) [e, e2] [⟨some "strict", .Constant (.bool true) j cp, kp⟩] pos) X.env) Q X.xe s := by
  have hb : backTo pos (starEach [e, e2] X.env) = (false, eval e X.env) :: backTo pos (starEach [e2] X.env) := by rw [hs]; rfl
  refine wpAny_Call_Name_kw (ld_blt I hg hm boot_zip ?_)
  rw [hb]
  refine callWith_tkw (by show (false || (backTo pos (starEach [e2] X.env)).any (·.1)) = false; rw [hpl]; rfl) rfl rfl ?_
  rw [← hb]
  refine thn (ha.run pos pins s σ H _ I h) fun us s1 ⟨vs, H1, I1, r1, q1⟩ => ?_
  obtain ⟨a, b, k1, k2, xs, ys, ex, hqx, hqy, hlen, q⟩ := q1
  subst ex
  refine thn ((pk_cons (nm := some "strict") (kpos := kp) (pe_bl (b := true) (j := j) (pos := cp)) pk_nil).run pos pins s1 σ H1 (fun ws H2 => ws = [.bl true] ∧ H2 = H1) I1 ⟨rfl, rfl⟩) fun ks s2 ⟨ws, H2, I2, r2, e1, e2⟩ => ?_
  subst e1 e2
  cases r2 with
  | cons ra rb =>
    cases rb
    cases ra
    cases r1 with
    | cons r rr =>
      cases rr with
      | cons r' rr =>
        cases rr
        cases r
        cases r'
        obtain ⟨its, rv, p1, la⟩ := invK k1 I2 hqx
        obtain ⟨its2, rv2, p2, lb⟩ := invK k2 I2 hqy
        refine zs_begins (beginsK k1 a its.toArray) (beginsK k2 b its2.toArray) p1 p2 fun h' hz hTI hTO h1 h2 hk => ?_
        have I3 : L2.Inv X pins σ H2 { s2 with heap := h' } := I2.kept (t' := s2.toks) hk
        exact hQ a b k1 k2 H2 _ I3 q s2.heap.objs.size (Heap.lt_size hz) la lb (fun c hc => I2.fpOk hc (I2.hok.fresh hc)) hz hTI hTO (itrK_new k1 h1) (itrK_new k2 h2)
def iEz (K : PySem.W.Frag) (ta : TA) : TI := fun σ H R => ta σ H fun vs H1 => ∃ a b k1 k2 xs ys, vs = [.ref a, .ref b] ∧ SqK K k1 H1 a xs ∧ SqK K k2 H1 b ys ∧ xs.length = ys.length ∧ R (Itez K k1 k2 a b) H1
theorem pi_ez {X : Cx} {e e2 : Expr} {ta : TA} {p pe pos pos2 kp tpos : Pos} {j : Nat} {cp : Pos} {elts : List Expr} {kk : Nat} (hm : X.mg "zip" = none) (hme : X.mg "enumerate" = none) (ha : PA X [e, e2] ta) (hg : Gl X "zip" := by rfl) (hge : Gl X "enumerate" := by rfl)
    (hs : starEach [e, e2] X.env = (false, eval e X.env) :: starEach [e2] X.env := by rfl) (hpl : (backTo pos (starEach [e2] X.env)).any (·.1) = false := by rfl)
    (hse : starEach [.Call (.Name "zip" p) [e, e2] [⟨some "strict", .Constant (.bool true) j cp, kp⟩] pos] X.env = (false, eval (.Call (.Name "zip" p) [e, e2] [⟨some "strict", .Constant (.bool true) j cp, kp⟩] pos) X.env) :: starEach [] X.env := by rfl) :
    PI X (.Tuple elts kk tpos) (.Call (.Name "enumerate" pe) [.Call (.Name "zip" p) [e, e2] [⟨some "strict", .Constant (.bool true) j cp, kp⟩] pos] [] pos2) (iEz X.K ta) := by
  refine ⟨fun pins s σ H R I h => ?_⟩
  refine Call_ (ld_blt I hge hme boot_enumerate (PyProof.Rows.callWith_type1 ?_ hse rfl))
  rw [hse]
  show wpAny _ _ (spliced ((false, eval _ X.env) :: backTo pos2 (starEach [] X.env))) _ _ s
  refine Calls.spliced_cons (zs_eval (R := R) hm ha hg hs hpl I h fun a b k1 k2 H2 s2 I2 q N hN la lb hfp hz hTI hTO h1 h2 => ?_)
  refine Calls.spliced_nil ?_
  refine enS_begins (Hv := fun g => IsZs g (N + 4) (N + 2) (N + 3) .none) (fun prog w A E s Q hz hQ => zs_iter hz hQ) hz fun g he hk => wpAny_pyIter_enum he ?_
  have I3 : L2.Inv X pins σ H2 { s2 with heap := g } := I2.kept (t' := s2.toks) hk
  have hne : ∀ n : Nat, n ≤ 4 → (s2.heap.objs.size : Nat) ≠ N + n := fun n hn z => by
    have hN' : (N : Nat) + 5 ≤ s2.heap.objs.size := hN
    omega
  have hNs : (N : Nat) ≤ s2.heap.objs.size := Nat.le_trans (Nat.le_add_right _ _) hN
  refine ⟨s2.heap.objs.size, [s2.heap.objs.size, N + 4, N + 2, N + 3, N, N + 1], _, _, H2, rfl, I3, turn_ez (PySem.zip_sep2 (fun c hc => by rw [List.mem_singleton.mp hc]; exact la) (fun c hc => by rw [List.mem_singleton.mp hc]; exact lb)) (Nat.ne_of_lt la) (Nat.ne_of_lt (Nat.lt_succ_of_lt lb)) (hne 4 (by decide)) (hne 2 (by decide)) (hne 3 (by decide)) (hne 0 (by decide)) (hne 1 (by decide)),
    ⟨⟨.none, he⟩, ⟨.none, .bool false, .inl rfl, hk _ _ hz⟩, hk _ _ hTI, ⟨_, _, hk _ _ hTO⟩, h1.keep fun o e => hk _ _ e, h2.keep fun o e => hk _ _ e⟩, fun c hcm => ?_, q⟩
  simp only [List.mem_cons, List.not_mem_nil, or_false] at hcm
  rcases hcm with z | z | z | z | z | z <;> rw [z] <;> first | exact hfp _ hNs | exact hfp _ (Nat.le_add_right _ _) | exact hfp _ (Nat.le_refl _)
section
variable {X : Cx} {M : WM X.K} {W : WX} {a b : Expr} {ea eb : Ev M D}
/-- what enumerate over a strict zip hands over -/
def enumZ (x y : D) : Option (List D) := (zipS x y).map (enG 0)
theorem it_enumZ {p pe pos pos2 kp cp tpos : Pos} {j : Nat} {elts : List Expr} {kk : Nat} (hm : X.mg "zip" = none) (hme : X.mg "enumerate" = none) (ha : PE X a (tD M X.mg W ea)) (hb : PE X b (tD M X.mg W eb)) (hg : Gl X "zip" := by rfl) (hge : Gl X "enumerate" := by rfl)
    (hs : starEach [a, b] X.env = (false, eval a X.env) :: starEach [b] X.env := by rfl) (hs2 : starEach [b] X.env = (false, eval b X.env) :: starEach [] X.env := by rfl) (hpl : (backTo pos (starEach [b] X.env)).any (·.1) = false := by rfl)
    (hse : starEach [.Call (.Name "zip" p) [a, b] [⟨some "strict", .Constant (.bool true) j cp, kp⟩] pos] X.env = (false, eval (.Call (.Name "zip" p) [a, b] [⟨some "strict", .Constant (.bool true) j cp, kp⟩] pos) X.env) :: starEach [] X.env := by rfl) :
    PI X (.Tuple elts kk tpos) (.Call (.Name "enumerate" pe) [.Call (.Name "zip" p) [a, b] [⟨some "strict", .Constant (.bool true) j cp, kp⟩] pos] [] pos2) (tIt M W (eI2 enumZ ea eb)) := (pi_ez hm hme (pa_cons ha (pa_cons hb pa_nil hs2) hs) hg hge hs hpl hse).con fun σ H R ⟨ρ, p, hH, ok, en, q⟩ => by
  subst hH
  show tD M X.mg W ea σ p.H fun x H1 => tD M X.mg W eb σ H1 fun y H2 => ∃ a b k1 k2 xs ys, [x, y] = [.ref a, .ref b] ∧ SqK X.K k1 H2 a xs ∧ SqK X.K k2 H2 b ys ∧ xs.length = ys.length ∧ R (Itez X.K k1 k2 a b) H2
  refine tG.seq ok en q fun r1 x q1 ex1 ok1 es1 dx h1 => ?_
  rw [← es1] at h1
  refine tG.seq ok1 (en.ext ex1) (XEnds ex1 h1 fun _ h => h) fun r2 y q2 ex2 ok2 es2 dy h2 => ?_
  obtain ⟨d, s1⟩ := r1
  obtain ⟨e, s2⟩ := r2
  have dx2 := ex2.den dx
  cases z : zipS d e with
  | none => simp only [op, enumZ, z, Option.map_none] at h2; exact h2.elim
  | some items =>
    simp only [op, enumZ, z, Option.map_some] at h2
    unfold zipS at z
    cases zl : seqL d with
    | none => rw [zl] at z; cases z
    | some l =>
      rw [zl] at z
      cases zm : seqL e with
      | none => rw [zm] at z; cases z
      | some m =>
        rw [zm] at z
        dsimp only at z
        split at z
        · rename_i hlen
          cases z
          obtain ⟨k1, a, vs, rfl, a1, a2, a3⟩ := seqL_at ok2 zl dx2
          obtain ⟨k2, b, ws, rfl, b1, b2, b3⟩ := seqL_at ok2 zm dy
          have hl : vs.length = ws.length := by rw [a2.length, b2.length]; exact hlen
          refine ⟨a, b, k1, k2, vs, ws, rfl, a1, b1, hl, h2 _ q2 (ex1.trans ex2) ok2 es2 fun H' sm => ?_⟩
          refine ⟨fun i hi => ?_, fun i y hy => ?_⟩
          · exact ⟨vs, ws, a3 H' sm, b3 H' sm, by rw [a2.length]; rw [enG_len, zipT_len] at hi; omega, by rw [b2.length]; rw [enG_len, zipT_len] at hi; omega⟩
          · obtain ⟨y', g0, rfl⟩ := enG_get 0 _ _ _ hy
            obtain ⟨d, e, g1, g2, rfl⟩ := zipT_get _ _ _ _ g0
            obtain ⟨v, g3, g4⟩ := a2.get g1
            obtain ⟨w, g5, g6⟩ := b2.get g2
            have hi : i < vs.length := (List.getElem?_eq_some_iff.mp g3).1
            refine ⟨⟨vs, ws, a3 H' sm, b3 H' sm, hl, hi⟩, fun x H2 ⟨T1, T2, x', y', e1, e2, e3, e4, e5, e6⟩ => .inr <| .inr ⟨T1, _, _, T2, .int (i : Nat), _, e2, e3, e1, e4, rfl, ?_, by rw [Nat.zero_add]; rfl⟩⟩
            have t1 := e5 vs (a3 H' sm)
            have t2 := e6 ws (b3 H' sm)
            rw [g3] at t1; cases t1
            rw [g5] at t2; cases t2
            exact ⟨_, _, rfl, g4, DenL.one g6⟩
        · cases z
end
end VQ

/-! VrO: max(xs, default=i) of a list of ints. -/
namespace MX
open PySem PySem.Spec PyProof.Rows
section
variable {prog : Program} {w : World} {A : Around} {R : Result → Shared → Prop} {I : Addr} {fp wr : List Addr} {n : Nat} {P : Nat → Value → Prop} {St : Nat → Heap → Prop} {kws : List (Str × Value)}
theorem mx_name : (toString "max" ++ toString ".loop" : String) = "max.loop" := by decide
theorem mx_loop (W : Walks prog w A.in1 I fp wr n P St) (bt : Nat → Nat → Bool) (hc : CmpOf prog w A.in1 .Gt P bt) (S : Addr) (hSf : S ∉ fp) : ∀ (k j : Nat) (s : Shared) (v0 : Value) (c : Nat), n - (j + 1) = k → j + 1 ≤ n → St (j + 1) s.heap → P (argBest bt j) v0 →
    s.heap.get? S = some { cls := .type "list", dict := none, data := .seq #[v0, v0] c, slots := #[] } →
    (∀ v g tk, P (argBest bt (n - 1)) v → (∀ b o, b ∉ wr → b ≠ S → s.heap.get? b = some o → g.get? b = some o) → R (.ok (.ret v)) { s with heap := g, toks := tk }) →
    codeAny (model prog w) A (.builtin "max.loop" ⟨[.ref I, .none, .ref S], kws⟩) R s := by
  have hSw : S ∉ wr := fun h => hSf (W.sub _ h)
  intro k
  induction k with
  | zero =>
    intro j s v0 c hk hj st hP0 hS hR
    have hjn : j + 1 = n := by omega
    refine codeAny_builtin F.entry_max_loop ?_
    rw [Around.under_plainId F.plain_max_loop _]
    show wpAny _ A.in1 (seqItems? (.ref S) >>= _) _ _ s
    refine wpAny_bind (wpAny_seqItems hS rfl ?_)
    show wpAny _ A.in1 (tryCatch (pyNext (.ref I)) _ >>= _) _ _ s
    refine wpAny_bind (wpAny_tryCatch (W.done s _ _ (hjn ▸ st) fun g tk hg => ?_))
    have hS' := hg S _ hSw hS
    show wpAny _ A.in1 (updateSeq S (fun _ => #[]) >>= _) _ _ _
    refine wpAny_bind (wpAny_updateSeq hS' rfl (wpAny_bind (wpAny_letGo (wpAny_pure ?_))))
    exact hR v0 _ tk (by rw [← hjn]; exact hP0) fun b o hb hn e => (Heap.get?_update_other _ _ (Ne.symm hn)).trans (hg b o hb e)
  | succ k ih =>
    intro j s v0 c hk hj st hP0 hS hR
    have hlt : j + 1 < n := by omega
    refine codeAny_builtin F.entry_max_loop ?_
    rw [Around.under_plainId F.plain_max_loop _]
    show wpAny _ A.in1 (seqItems? (.ref S) >>= _) _ _ s
    refine wpAny_bind (wpAny_seqItems hS rfl ?_)
    show wpAny _ A.in1 (tryCatch (pyNext (.ref I)) _ >>= _) _ _ s
    refine wpAny_bind (wpAny_tryCatch (W.item (j + 1) s _ _ hlt st fun v g tk hPv st' hg => ?_))
    have hS' := hg S _ hSw hS
    show wpAny _ A.in1 (tryCatch (holding [v, v] (richCompare .Gt v v0 >>= _)) _ >>= _) _ _ _
    refine wpAny_bind (wpAny_tryCatch (wpAny_holding (wpAny_bind (hc (j + 1) (argBest bt j) v v0 _ _ _ hPv hP0 ?_))))
    refine wpAny_bind (wpAny_holding (wpAny_truthy_bool ?_))
    refine wpAny_bind (wpAny_letGo (wpAny_pure ?_))
    cases hb : bt (j + 1) (argBest bt j) with
    | true =>
      simp only [if_true]
      refine wpAny_bind (wpAny_updateSeq hS' rfl (wpAny_bind (wpAny_letGo ?_)))
      rw [mx_name]
      refine wpAny_pure ⟨plainId_quiet F.plain_max_loop _, ih (j + 1) _ v _ (by omega) hlt (W.frame _ _ _ st' fun b hbf o e => ?_) (by simp only [argBest, hb, if_true]; exact hPv) (Heap.get?_update_self _ hS' rfl) fun v2 g2 tk2 hP2 hg2 => ?_⟩
      · exact (Heap.get?_update_other _ _ (fun h : S = b => hSf (by rw [h]; exact hbf))).trans e
      · exact hR v2 g2 tk2 hP2 fun b o hbw hbS e => hg2 b o hbw hbS ((Heap.get?_update_other _ _ (Ne.symm hbS)).trans (hg b o hbw e))
    | false =>
      simp only [Bool.false_eq_true, if_false]
      refine wpAny_bind (wpAny_letGo ?_)
      rw [mx_name]
      exact wpAny_pure ⟨plainId_quiet F.plain_max_loop _, ih (j + 1) _ v0 c (by omega) hlt st' (by simp only [argBest, hb, Bool.false_eq_true, if_false]; exact hP0) hS' fun v2 g2 tk2 hP2 hg2 => hR v2 g2 tk2 hP2 fun b o hbw hbS e => hg2 b o hbw hbS (hg b o hbw e)⟩
/-- one item at the least -/
theorem mx_some (W : Walks prog w A.in1 I fp wr n P St) (bt : Nat → Nat → Bool) (hc : CmpOf prog w A.in1 .Gt P bt) (S : Addr) (hSf : S ∉ fp) (hn : 0 < n) {s : Shared} {c : Nat} (st : St 0 s.heap)
    (hS : s.heap.get? S = some { cls := .type "list", dict := none, data := .seq #[] c, slots := #[] })
    (hR : ∀ v g tk, P (argBest bt (n - 1)) v → (∀ b o, b ∉ wr → b ≠ S → s.heap.get? b = some o → g.get? b = some o) → R (.ok (.ret v)) { s with heap := g, toks := tk }) :
    codeAny (model prog w) A (.builtin "max.loop" ⟨[.ref I, .none, .ref S], kws⟩) R s := by
  have hSw : S ∉ wr := fun h => hSf (W.sub _ h)
  refine codeAny_builtin F.entry_max_loop ?_
  rw [Around.under_plainId F.plain_max_loop _]
  show wpAny _ A.in1 (seqItems? (.ref S) >>= _) _ _ s
  refine wpAny_bind (wpAny_seqItems hS rfl ?_)
  show wpAny _ A.in1 (tryCatch (pyNext (.ref I)) _ >>= _) _ _ s
  refine wpAny_bind (wpAny_tryCatch (W.item 0 s _ _ hn st fun v g tk hP st' hg => ?_))
  have hS' := hg S _ hSw hS
  show wpAny _ A.in1 (updateSeq S (fun _ => #[v, v]) >>= _) _ _ _
  refine wpAny_bind (wpAny_updateSeq hS' rfl ?_)
  rw [mx_name]
  refine wpAny_pure ⟨plainId_quiet F.plain_max_loop _, mx_loop W bt hc S hSf _ 0 _ v _ rfl hn (W.frame _ _ _ st' fun b hbf o e => ?_) hP (Heap.get?_update_self _ hS' rfl) fun v2 g2 tk2 hP2 hg2 => ?_⟩
  · exact (Heap.get?_update_other _ _ (fun h : S = b => hSf (by rw [h]; exact hbf))).trans e
  · exact hR v2 g2 tk2 hP2 fun b o hbw hbS e => hg2 b o hbw hbS ((Heap.get?_update_other _ _ (Ne.symm hbS)).trans (hg b o hbw e))
/-- no item: the default -/
theorem mx_none {k : Str} {d : Value} {kws : List (Str × Value)} (W : Walks prog w A.in1 I fp wr 0 P St) (S : Addr) (hSf : S ∉ fp) {s : Shared} {c : Nat} (st : St 0 s.heap)
    (hS : s.heap.get? S = some { cls := .type "list", dict := none, data := .seq #[] c, slots := #[] })
    (hR : ∀ g tk, (∀ b o, b ∉ wr → b ≠ S → s.heap.get? b = some o → g.get? b = some o) → R (.ok (.ret d)) { s with heap := g, toks := tk }) :
    codeAny (model prog w) A (.builtin "max.loop" ⟨[.ref I, .none, .ref S], (k, d) :: kws⟩) R s := by
  refine codeAny_builtin F.entry_max_loop ?_
  rw [Around.under_plainId F.plain_max_loop _]
  show wpAny _ A.in1 (seqItems? (.ref S) >>= _) _ _ s
  refine wpAny_bind (wpAny_seqItems hS rfl ?_)
  show wpAny _ A.in1 (tryCatch (pyNext (.ref I)) _ >>= _) _ _ s
  refine wpAny_bind (wpAny_tryCatch (W.done s _ _ st fun g tk hg => ?_))
  show wpAny _ A.in1 (rule _ >>= _) _ _ _
  refine wpAny_bind (wpAny_rule ?_)
  show wpAny _ A.in1 (ret d) _ _ _
  exact wpAny_pure (hR g tk fun b o hb _ e => hg b o hb e)
end
section
variable {prog : Program} {w : World} {A : Around} {E : Value → Shared → Prop} {s : Shared}
theorem tree_kw {id : String} {b : Builtin} {args : List Value} {kws : List (Str × Value)} {Q : Value → Shared → Prop} (hk : builtinKind id = none) (hp : plainId id = true) (hb : entryFor table id = some b) (ha : argsOk id ⟨args, kws⟩)
    (hc : wpAny (model prog w) A.in1 (b ⟨args, kws⟩) (fun fin s' => match fin with
      | .done f => (match (Except.ok f : Result) with | .ok (.ret v) => Q v s' | .ok _ => False | .error e => E e s')
      | .again c' => c'.quiet = true ∧ codeAny (model prog w) A c' (fun r s' => match r with | .ok (.ret v) => Q v s' | .ok _ => False | .error e => E e s') s') E s) :
    wpAny (model prog w) A (call (.builtin id) args kws) Q E s := by
  refine wpAny_call (codeAny_call_builtin hp hb ?_)
  simp only [checkBuiltinCall, hk]
  cases hsig : Manifest.signature? id with
  | none => exact wpAny_pure hc
  | some sig =>
    simp only [argsOk, hsig] at ha
    have h2 : Bind.checkArgs id sig ⟨args, kws⟩ = pure () := ha
    show wpAny _ A.in1 (Bind.checkArgs id sig ⟨args, kws⟩) _ _ s
    rw [h2]; exact wpAny_pure hc
theorem args_maxd (a d : Value) : argsOk "max" ⟨[a], [(Str.ofString "default", d)]⟩ := by unfold argsOk; kernel_rfl
theorem max_def {x d : Value} {Q : Value → Shared → Prop} (h : wpAny (model prog w) A.in1 (pyIter x) (fun it s2 => ∃ I fp wr n P St bt, it = .ref I ∧ Walks prog w A.in1 I fp wr n P St ∧ St 0 s2.heap ∧ (∀ b ∈ fp, b < s2.heap.objs.size) ∧ CmpOf prog w A.in1 .Gt P bt ∧
      (0 < n → ∀ v g tk, P (argBest bt (n - 1)) v → (∀ b o, b ∉ wr → s2.heap.get? b = some o → g.get? b = some o) → Q v { s2 with heap := g, toks := tk }) ∧
      (n = 0 → ∀ g tk, (∀ b o, b ∉ wr → s2.heap.get? b = some o → g.get? b = some o) → Q d { s2 with heap := g, toks := tk })) E s) :
    wpAny (model prog w) A (call (.builtin "max") [x] [(Str.ofString "default", d)]) Q E s := by
  refine tree_kw F.kind_max F.plain_max F.entry_max (args_maxd _ _) ?_
  show wpAny _ A.in1 (Builtin.Builtins.bindParams "max" ["key", "default"] 0 ⟨[], [(Str.ofString "default", d)]⟩ >>= _) _ _ s
  refine wpAny_bind (wpAny_of_eq (show Builtin.Builtins.bindParams "max" ["key", "default"] 0 ⟨[], [(Str.ofString "default", d)]⟩ = pure [none, some d] by kernel_rfl) ?_)
  refine wpAny_bind (wpAny_pure ?_)
  refine wpAny_bind (wpAny_mono h (fun it s2 h2 => ?_) fun _ _ e => e)
  obtain ⟨I, fp, wr, n, P, St, bt, rfl, W, st, hfp, hc, h1, h0⟩ := h2
  refine wpAny_bind (wpAny_newObj_type ?_)
  have hSf : s2.heap.objs.size ∉ fp := fun hm => Nat.lt_irrefl _ (hfp _ hm)
  rw [mx_name]
  have old : ∀ {g : Heap}, (∀ b o, b ∉ wr → b ≠ s2.heap.objs.size → (s2.heap.push { cls := .type "list", dict := none, data := .seq #[], slots := #[] }).get? b = some o → g.get? b = some o) → ∀ b o, b ∉ wr → s2.heap.get? b = some o → g.get? b = some o := fun {g} k b o hb e =>
    k b o hb (Nat.ne_of_lt (Heap.lt_size e)) (Heap.get?_push_of_some _ e)
  refine wpAny_pure ⟨plainId_quiet F.plain_max_loop _, ?_⟩
  have st' : St 0 (s2.heap.push { cls := .type "list", dict := none, data := .seq #[], slots := #[] }) := W.frame _ _ _ st fun b _ o e => Heap.get?_push_of_some _ e
  cases n with
  | zero => exact mx_none W s2.heap.objs.size hSf st' (Heap.get?_push_size _ rfl) fun g tk k => h0 rfl g tk (old k)
  | succ n => exact mx_some W bt hc s2.heap.objs.size hSf (Nat.succ_pos _) st' (Heap.get?_push_size _ rfl) fun v g tk hP k => h1 (Nat.succ_pos _) v g tk hP (old k)
theorem max_defL {l : Addr} {its : List Value} {ns : List Int} {d : Value} {Q : Value → Shared → Prop} (hh : A.handled = none) (hl : s.heap.IsList l its.toArray) (hi : IntsAre its ns)
    (h0 : ns = [] → ∀ g tk, (∀ b o, s.heap.get? b = some o → g.get? b = some o) → Q d { s with heap := g, toks := tk })
    (h : ∀ g tk M t, (∀ b o, s.heap.get? b = some o → g.get? b = some o) → M ∈ ns → (∀ a ∈ ns, a ≤ M) → Q (.int M t) { s with heap := g, toks := tk }) :
    wpAny (model prog w) A (call (.builtin "max") [.ref l] [(Str.ofString "default", d)]) Q E s := by
  obtain ⟨xs, e⟩ := hi.allInts.items
  have hn : numsOf (intItems xs).toList = ns := by rw [← e]; exact hi.numsOf
  rw [nums_intItems] at hn
  subst hn
  rw [e] at hl
  refine max_def (iter_intList hl fun s2 e2 st hfp hlI => ?_)
  subst e2
  refine ⟨_, _, _, _, _, _, _, rfl, Walks.list (A := A.in1) hh _ l hlI (intItems xs), st, hfp, CmpOf.ints_gt (numAt xs) (fun _ _ => intItems_at), fun hp v g tk hP hk => ?_, fun hz g tk hk => ?_⟩
  · have hs : 0 < xs.size := by simpa [intItems] using hp
    have hP : (intItems xs)[argBest (fun i j => decide (numAt xs i > numAt xs j)) ((intItems xs).size - 1)]? = some v := hP
    have hsz : (intItems xs).size = xs.size := by simp [intItems]
    rw [hsz] at hP
    obtain ⟨t, rfl⟩ := intItems_at hP
    obtain ⟨h1, h2⟩ := argBest_gt (numAt xs) (xs.size - 1)
    refine h g tk _ t (old_kept hk) ?_ fun a ha => ?_
    · rw [numAt_eq]; exact PySem.getD_mem (by rw [List.length_map, Array.length_toList]; omega)
    · obtain ⟨j, hj, rfl⟩ := mem_getD ha
      rw [List.length_map, Array.length_toList] at hj
      rw [← numAt_eq]; exact h2 j (by omega)
  · refine h0 ?_ g tk (old_kept hk)
    have : xs.size = 0 := by simpa [intItems] using hz
    rw [Array.size_eq_zero_iff.mp this]
    rfl
end
end MX

/-! VrP: sorted(set(xs)), xs a list of ints; max(xs, default=i). -/
namespace SL
open PySem PySem.Spec PyProof.Rows L2
section
variable {P : Program} {w : World} {A : Around} {E : Value → Shared → Prop} {s : Shared}
theorem set_of_list {l : Addr} {ents : Array Value} (ks : List Int) {Q : Value → Shared → Prop} (hA : A.handled = none) (hli : s.heap.IsList l ents) (hen : IntsAre ents.toList ks) (hb : ks.length + 1 < scanBound)
    (h : ∀ (g' : Heap) (tq c : Nat), SetR w g' s.heap.objs.size (fun j => decide (j ∈ ks)) c → c ≤ ks.length → (∀ b o, s.heap.get? b = some o → g'.get? b = some o) → Q (.ref s.heap.objs.size) { s with heap := g', toks := tq }) :
    wpAny (model P w) A (call (.type "set") [.ref l]) Q E s := by
  have hsz0 : ents.size = ks.length := by
    have q := IntsAre.length hen
    rw [Array.length_toList] at q
    exact q
  obtain ⟨c, tl, hmr⟩ := F.called_set.mro
  have hmd := F.called_set.made
  have hsb := F.called_set.sub
  refine wpAny_call (codeAny_of_tree ?_)
  show wpAny _ _ (callAny (.type "set") _) _ _ _
  refine wpAny_pure ⟨Code.quiet_builtin _ (by decide +kernel), codeAny_builtin F.entry_type_call ?_⟩
  rw [Around.under_plain (weight_type_call_type "set" [.ref l] []) rfl]
  have h1 := F.called_set.notType
  have h2 := F.called_set.canCreate
  have hct := F.typeCall_set_1 (.ref l)
  repeat (any_goals (first | assumption | wp_step))

  refine codeAny_mono (code_set_led1 (.ref l) (E := E) (Q₁ := fun obj s₁ => obj = .ref s.heap.objs.size ∧ s₁ = { s with heap := s.heap.push { cls := .type "set", dict := none, data := .set #[] 0 (.fresh 0 0 (!w.params.followText "set-order")) } }) ⟨rfl, rfl⟩) fun r s₁ hrs => ?_
  cases r with
  | error e => exact hrs
  | ok fl =>
    cases fl with
    | ret obj =>
      obtain ⟨rfl, rfl⟩ := hrs
      have hSe : (s.heap.push { cls := .type "set", dict := none, data := .set #[] 0 (.fresh 0 0 (!w.params.followText "set-order")) }).get? s.heap.objs.size = some { cls := .type "set", dict := none, data := .set #[] 0 (.fresh 0 0 (!w.params.followText "set-order")) } := Heap.get?_push_size _ rfl
      have hTy : Shared.TypeIs { s with heap := s.heap.push { cls := .type "set", dict := none, data := .set #[] 0 (.fresh 0 0 (!w.params.followText "set-order")) } } (.ref s.heap.objs.size) "set" := ⟨_, hSe, rfl⟩
      have hlk := F.called_set.init.lookup
      have hbk := F.called_set.init.bind (.ref s.heap.objs.size)
      repeat (any_goals (first | assumption | wp_step))

      refine codeAny_mono (codeAny_call_builtin (R := wants (fun r s₂ => r = .none ∧ ∃ g' tq c, s₂ = { s with heap := g', toks := tq } ∧ SetR w g' s.heap.objs.size (fun j => decide (j ∈ ks)) c ∧ c ≤ ks.length ∧
          (∀ b o, s.heap.get? b = some o → g'.get? b = some o)) E) F.called_set.init.plain F.entry_set_init (check_set_init_1 hTy ?_)) fun r₂ s₂ hrr => ?_
      · obtain ⟨o1, hob, hc1, nn, hd1⟩ := hli
        obtain ⟨oc, od, oda, osl⟩ := o1
        simp only at hc1 hd1
        subst hc1; subst hd1
        have hob' : (s.heap.push { cls := .type "set", dict := none, data := .set #[] 0 (.fresh 0 0 (!w.params.followText "set-order")) }).get? l = some { cls := .type "list", dict := od, data := .seq ents nn, slots := osl } := Heap.get?_push_of_some _ hob
        have hs1 := F.sub_list_set
        have hs2 := F.sub_list_frozenset
        have hn1 : (Value.type "list" == Value.type "dict") = false := by decide
        have hl2 : (s.heap.push { cls := .type "set", dict := none, data := .set #[] 0 (.fresh 0 0 (!w.params.followText "set-order")) }).IsList l ents := ⟨_, hob', rfl, nn, rfl⟩
        unfold Builtin.«set.__init__» noKeywords Builtin.Frozenset.updateFrom
        generalize hPI : pyIter = PI
        wp_walk
        subst hPI

        refine wpAny_pyIter_list hl2 ?_
        refine wpAny_bind (wpAny_runValue ?_)
        have hlo : l < s.heap.objs.size := Heap.lt_size hob
        have hA3 : A.in1.in1.in1.handled = none := by simp [hA]
        have hzz : (s.heap.push { cls := .type "set", dict := none, data := .set #[] 0 (.fresh 0 0 (!w.params.followText "set-order")) }).objs.size = s.heap.objs.size + 1 := Heap.size_push ..
        have hnI : l ≠ (s.heap.push { cls := .type "set", dict := none, data := .set #[] 0 (.fresh 0 0 (!w.params.followText "set-order")) }).objs.size := by
          rw [Heap.size_push]; exact Nat.ne_of_lt (Nat.lt_succ_of_lt hlo)
        have hSn : s.heap.objs.size ∉ [(s.heap.push { cls := .type "set", dict := none, data := .set #[] 0 (.fresh 0 0 (!w.params.followText "set-order")) }).objs.size, l] := by
          rw [Heap.size_push]; simp only [List.mem_cons, List.mem_singleton, List.not_mem_nil, or_false, not_or]
          exact ⟨Nat.ne_of_lt (Nat.lt_succ_self _), Nat.ne_of_gt hlo⟩
        have hvl : ∀ (i : Nat) (v : Value), ents[i]? = some v → ∃ k t, ks[i]? = some k ∧ v = .int k t := fun i v hv => by
          have hi : i < ks.length := by rw [← hsz0]; exact (Array.getElem?_eq_some_iff.mp hv).1
          obtain ⟨t, e⟩ := PyProof.Rows.IntsAre.int_at hen i v (by rw [Array.getElem?_toList]; exact hv)
          refine ⟨ks[i], t, List.getElem?_eq_getElem hi, ?_⟩
          rw [e, List.getD_eq_getElem?_getD, List.getElem?_eq_getElem hi] <;> rfl
        refine set_update_ints ((Walks.list hA3 _ l hnI ents).toS) s.heap.objs.size
          hSn ks hsz0 hb hvl (ents.size - 0) 0 _ (by omega) (Nat.zero_le _)
          ⟨⟨_, Heap.get?_push_size _ rfl, rfl, rfl⟩, (hl2.push _)⟩ ?hS0 ?hR
        case hS0 =>
          have hge : ((s.heap.push { cls := .type "set", dict := none, data := .set #[] 0 (.fresh 0 0 (!w.params.followText "set-order")) }).push { cls := .type "list_iterator", data := .fields #[.ref l, .int 0 0] }).get? s.heap.objs.size
              = some { cls := .type "set", dict := none, data := .set #[] 0 (.fresh 0 0 (!w.params.followText "set-order")) } := Heap.get?_push_of_some _ hSe
          exact ⟨0, Nat.le_refl 0, setR_new_at hge⟩
        case hR =>
          intro s' cc hmv hcc hSe'
          obtain ⟨g', g2, d', tk', os'⟩ := s'
          have eg : g2 = s.gens := hmv.gens
          have ed : d' = s.drawn := hmv.drawn
          have eo : os' = s.os := hmv.os
          subst eg; subst ed; subst eo
          show wpAny _ _ _ _ _ _
          refine wpAny_pure ?_
          show wpAny _ _ (ret Value.none) _ _ _
          rw [hsz0] at hcc
          refine wpAny_pure ⟨rfl, g', tk', cc, rfl, hSe', hcc, fun b o e => ?_⟩
          have hq0 : b < s.heap.objs.size := Heap.lt_size e
          have hq1 : b ≠ s.heap.objs.size := Nat.ne_of_lt hq0
          have hq2 : b ≠ (s.heap.push { cls := .type "set", dict := none, data := .set #[] 0 (.fresh 0 0 (!w.params.followText "set-order")) }).objs.size := by
            rw [Heap.size_push]; exact Nat.ne_of_lt (Nat.lt_succ_of_lt hq0)
          exact hmv.heap b o (by simp only [List.mem_cons, List.mem_singleton, List.not_mem_nil, or_false, not_or]; exact ⟨hq1, hq2⟩) (Heap.get?_push_of_some _ (Heap.get?_push_of_some _ e))

      · cases r₂ with
        | error e => exact hrr
        | ok fl₂ =>
          cases fl₂ with
          | ret r =>
            obtain ⟨rfl, g', tq, cc, rfl, hSe', hcc, hkk⟩ := hrr
            repeat (any_goals (first | assumption | wp_step))
            exact h _ _ _ hSe' hcc hkk
          | _ => exact hrr.elim
    | _ => exact hrs.elim

end
end SL

/-! VrQ: sorted(set(xs)) and max(xs, default=i), read over plain data. -/
namespace VQ
open PySem PySem.Spec PyProof.Rows L2
def dedI : List Int → List Int
  | [] => []
  | x :: r => if x ∈ r then dedI r else x :: dedI r
theorem dedI_mem : ∀ (l : List Int) (k : Int), k ∈ dedI l ↔ k ∈ l
  | [], _ => Iff.rfl
  | x :: r, k => by
    unfold dedI
    split
    · rename_i h
      rw [dedI_mem r k, List.mem_cons]
      exact ⟨.inr, fun h' => h'.elim (fun e => e ▸ h) id⟩
    · rw [List.mem_cons, List.mem_cons, dedI_mem r k]
theorem dedI_nodup : ∀ l : List Int, (dedI l).Nodup
  | [] => List.nodup_nil
  | x :: r => by
    unfold dedI
    split
    · exact dedI_nodup r
    · rename_i h
      exact List.nodup_cons.mpr ⟨fun h' => h ((dedI_mem r x).mp h'), dedI_nodup r⟩
theorem dedI_len : ∀ l : List Int, (dedI l).length ≤ l.length
  | [] => Nat.le_refl _
  | x :: r => by
    unfold dedI
    split
    · exact Nat.le_succ_of_le (dedI_len r)
    · exact Nat.succ_le_succ (dedI_len r)
/-- the set's number -/
theorem setR_num {w : World} {h : Heap} {a : Addr} {ns : List Int} {c : Nat} (R : SetR w h a (fun j => decide (j ∈ ns)) c) : c = (dedI ns).length := by
  obtain ⟨o, es, ep, t, _, _, _, _, nd, hm, _, _, hn, _⟩ := R
  have hp : (es.toList.map keyOf).Perm (dedI ns) := (List.perm_ext_iff_of_nodup nd (dedI_nodup ns)).mpr fun k => by rw [← hm k, dedI_mem]; simp
  have := hp.length_eq
  rw [List.length_map, Array.length_toList] at this
  omega
def tSortSet (K : PySem.W.Frag) (ta : TA) : TE := fun σ H Q => ta σ H fun vs H1 => ∃ (a : Addr) (ns : List Int), vs = [V.ref a] ∧ SqL K H1 a (ns.map V.int) ∧ ns.length + 1 < scanBound ∧ (dedI ns).length < 64 ∧
  ∀ p : Addr, H1 p = none → Q (.ref p) (upd H1 p (.lst ((sortI (dedI ns)).map V.int)))
theorem pe_sortSet {X : Cx} {e : Expr} {ta : TA} {p p2 pos pos2 : Pos} (hc : X.calm = true) (hm : X.mg "sorted" = none) (hm2 : X.mg "set" = none) (hv : bootBuiltins "sorted" = some (.builtin "sorted")) (hv2 : bootBuiltins "set" = some (.type "set")) (ha : PA X [e] ta) (hg : Gl X "sorted" := by rfl) (hg2 : Gl X "set" := by rfl)
    (hs : starEach [e] X.env = (false, eval e X.env) :: starEach [] X.env := by rfl) (hse : starEach [.Call (.Name "set" p2) [e] [] pos2] X.env = (false, eval (.Call (.Name "set" p2) [e] [] pos2) X.env) :: starEach [] X.env := by rfl) :
    PE X (.Call (.Name "sorted" p) [.Call (.Name "set" p2) [e] [] pos2] [] pos) (tSortSet X.K ta) := by
  refine ⟨fun pins s σ H Q I h => ?_⟩
  refine wpAny_Call_Name_kw (ld_blt I hg hm hv ?_)
  refine PyProof.Rows.callWith_builtin1 ?_ hse rfl
  rw [hse]
  show wpAny _ _ (spliced ((false, eval _ X.env) :: backTo pos (starEach [] X.env))) _ _ s
  refine Calls.spliced_cons ?_
  refine Call_ (ld_blt I hg2 hm2 hv2 ?_)
  refine PyProof.Rows.callWith_type1 (thn (ha.run pos2 pins s σ H _ I h) fun us s1 ⟨vs, H1, I1, r1, q1⟩ => ?_) hs rfl
  obtain ⟨a, ns, rfl, hq, hb, h64, q⟩ := q1
  rw [Vals.ref1 r1]
  obtain ⟨its, rv, hl, hz⟩ := I1.list hq
  refine SL.set_of_list ns (I1.ok.hd hc) hl.isList rv.ints hb fun h0 tq c R hcn hk => ?_
  have I2 : L2.Inv X pins σ H1 { s1 with heap := h0, toks := tq } := I1.kept hk
  refine Calls.spliced_nil ?_
  have hcn2 := setR_num R
  refine sorted_set R (I2.ok.hd hc) (by rw [hcn2]; exact h64) fun s' p out c2 ks k g o hp hgp hi hso hm hln => ?_
  have hks : ks = sortI (dedI ns) := by
    have nd : ks.Nodup := hso.imp fun hlt => Int.ne_of_lt hlt
    have hperm : ks.Perm (dedI ns) := (List.perm_ext_iff_of_nodup nd (dedI_nodup ns)).mpr fun k => by rw [hm k, dedI_mem]; simp
    exact sorted_uniq (hperm.trans (sortI_perm _).symm) (hso.imp fun hlt => Int.le_of_lt hlt) (sortI_sorted _)
  subst hks
  have hlen : ((sortI (dedI ns)).map V.int).length ≤ sizeLine := by rw [List.length_map, hln, hcn2, sizeLine_eq]; omega
  have hn : H1 p = none := I2.hok.fresh hp
  have J : L2.Inv X pins σ (upd H1 p (.lst ((sortI (dedI ns)).map V.int))) { { s1 with heap := h0, toks := tq } with heap := s'.heap, gens := s'.gens, drawn := s'.drawn, toks := s'.toks } :=
    I2.call (ch := []) (Un.laid k hp hn) (I2.hok.laid k hp ⟨hlen, out.toList, c2, vals_of_ints hi, hgp⟩) (by rw [g]; exact I2.bare) (fun _ z => nomatch z)
  have e : s' = { s1 with heap := s'.heap, gens := s'.gens, drawn := s'.drawn, toks := s'.toks } := by
    cases s'
    cases s1
    cases o
    rfl
  rw [e]
  exact ⟨.ref p, _, J, rfl, q p hn⟩
def setD : List D → Option R
  | [.lst l] => match intsD l with
    | some ns => if ns.length + 1 < 4096 ∧ (dedI ns).length < 64 then some (.fr (.lst ((sortI (dedI ns)).map .int))) else none
    | none => none
  | _ => none
def eSetS {K : PySem.W.Frag} {M : WM K} (ea : Ev M D) : Ev M R := fun ρ s => (ea ρ s).bind fun x => op (setD [x.1]) x.2
section
variable {X : Cx} {M : WM X.K} {W : WX} {e : Expr} {ea : Ev M D}
theorem ev_sortSet {p p2 pos pos2 : Pos} (hc : X.calm = true) (hm : X.mg "sorted" = none) (hm2 : X.mg "set" = none) (ha : PE X e (tD M X.mg W ea)) (hv : bootBuiltins "sorted" = some (.builtin "sorted") := by decide +kernel) (hv2 : bootBuiltins "set" = some (.type "set") := by decide +kernel) (hg : Gl X "sorted" := by rfl) (hg2 : Gl X "set" := by rfl)
    (hs : starEach [e] X.env = (false, eval e X.env) :: starEach [] X.env := by rfl) (hse : starEach [.Call (.Name "set" p2) [e] [] pos2] X.env = (false, eval (.Call (.Name "set" p2) [e] [] pos2) X.env) :: starEach [] X.env := by rfl) :
    PE X (.Call (.Name "sorted" p) [.Call (.Name "set" p2) [e] [] pos2] [] pos) (tR M X.mg W (eSetS ea)) := (pe_sortSet hc hm hm2 hv hv2 (pa_cons ha pa_nil hs) hg hg2 hs hse).con fun σ H Q ⟨ρ, p, hH, ok, en, q⟩ => by
  subst hH
  show tD M X.mg W ea σ p.H fun x H1 => ∃ (a : Addr) (ns : List Int), [x] = [V.ref a] ∧ SqL X.K H1 a (ns.map V.int) ∧ ns.length + 1 < scanBound ∧ (dedI ns).length < 64 ∧ ∀ p : Addr, H1 p = none → Q (.ref p) (upd H1 p (.lst ((sortI (dedI ns)).map V.int)))
  refine tG.seq ok en q fun r1 x q1 ex1 ok1 es1 dx h1 => ?_
  obtain ⟨d, s1⟩ := r1
  cases z : setD [d] with
  | none => simp only [op, z] at h1; exact h1.elim
  | some res =>
    simp only [op, z] at h1
    cases d <;> first | (cases z; done) | skip
    rename_i l
    obtain ⟨a, vs, rfl, a1, a2⟩ := dx
    simp only [setD] at z
    cases zi : intsD l with
    | none => rw [zi] at z; cases z
    | some ns =>
      rw [zi] at z
      dsimp only at z
      split at z
      · rename_i hb
        cases z
        rw [intsD_den zi a2] at a1
        refine ⟨a, ns, rfl, SqL.of (ok1.view _ _ a1), hb.1, hb.2, fun p2 hp => ?_⟩
        exact fin_lst ok1 (fun v q3 e3 ok3 es3 rk => h1 v q3 (ex1.trans e3) ok3 (es3.trans es1) (rk.tr ex1 e3)) (den_ints _) hp
      · cases z
/-! ### max(xs, default=i) -/
def rMaxDef (K : PySem.W.Frag) : List V → List V → Hp → VK → Prop := fun vs zs H Q => ∃ (a : Addr) (ns : List Int) (i : Int), vs = [V.ref a] ∧ zs = [V.int i] ∧ SqL K H a (ns.map V.int) ∧ (ns = [] → Q (.int i) H) ∧ ∀ m, m ∈ ns → (∀ y, y ∈ ns → y ≤ m) → Q (.int m) H
theorem cr_maxDef (hc : X.calm = true) : CallRK X (.builtin "max") [Str.ofString "default"] (rMaxDef X.K) := by
  intro pins s σ H vs zs us ws Q I r rz h
  obtain ⟨a, ns, i, rfl, rfl, hs, q0, q⟩ := h
  obtain rfl := Vals.ref1 r
  obtain ⟨w1, rfl, e1⟩ := vals1 rz
  obtain ⟨t, rfl⟩ : ∃ t, w1 = Value.int i t := e1
  obtain ⟨its, rv, hl, hz⟩ := I.list hs
  exact MX.max_defL (I.ok.hd hc) hl.isList rv.ints (fun e g tk hk => ⟨.int i, H, I.kept hk, ⟨_, rfl⟩, q0 e⟩) fun g tk M t hk h1 h2 => ⟨.int M, H, I.kept hk, ⟨_, rfl⟩, q M h1 h2⟩
def maxDD (i : Int) : D → Option R
  | .lst l => match intsD l with
    | some [] => some (.sh (.int i))
    | some (n :: r) => some (.sh (.int (maxI n r)))
    | none => none
  | _ => none
def eMaxD {K : PySem.W.Frag} {M : WM K} (i : Int) (ea : Ev M D) : Ev M R := fun ρ s => (ea ρ s).bind fun x => op (maxDD i x.1) x.2
theorem ev_maxD {i : Int} {p pos cp kp : Pos} {j : Nat} (hc : X.calm = true) (hm : X.mg "max" = none) (ha : PE X e (tD M X.mg W ea)) (hv : bootBuiltins "max" = some (.builtin "max") := by decide +kernel) (hg : Gl X "max" := by rfl)
    (hs : starEach [e] X.env = (false, eval e X.env) :: starEach [] X.env := by rfl) (he : backTo pos (starEach [e] X.env) = (false, eval e X.env) :: backTo pos (starEach [] X.env) := by rfl) (hpl : (backTo pos (starEach [e] X.env)).any (·.1) = false := by rfl)
    (hall : (backToKw pos (keywordEach [⟨some "default", .Constant (.int i) j cp, kp⟩] X.env)).all (·.1.isSome) = true := by rfl) (hnone : (backToKw pos (keywordEach [⟨some "default", .Constant (.int i) j cp, kp⟩] X.env)).any (·.1.isNone) = false := by rfl)
    (hks : (backToKw pos (keywordEach [⟨some "default", .Constant (.int i) j cp, kp⟩] X.env)).filterMap (·.1) = [Str.ofString "default"] := by rfl) :
    PE X (.Call (.Name "max" p) [e] [⟨some "default", .Constant (.int i) j cp, kp⟩] pos) (tR M X.mg W (eMaxD i ea)) :=
  (pe_callBK (cr_maxDef hc) hg hm hv (pa_cons ha pa_nil hs) (pk_cons (nm := some "default") (kpos := kp) (pe_int (i := i) (j := j) (pos := cp)) pk_nil) (by decide) (by decide) he hpl hall hnone hks).con fun σ H Q ⟨ρ, p, hH, ok, en, q⟩ => by
  subst hH
  show tD M X.mg W ea σ p.H fun x H1 => ∃ (a : Addr) (ns : List Int) (i' : Int), [x] = [V.ref a] ∧ [V.int i] = [V.int i'] ∧ SqL X.K H1 a (ns.map V.int) ∧ (ns = [] → Q (.int i') H1) ∧ ∀ m, m ∈ ns → (∀ y, y ∈ ns → y ≤ m) → Q (.int m) H1
  refine tG.seq ok en q fun r1 x q1 ex1 ok1 es1 dx h1 => ?_
  obtain ⟨d, s1⟩ := r1
  cases z : maxDD i d with
  | none => simp only [op, z] at h1; exact h1.elim
  | some res =>
    simp only [op, z] at h1
    cases d <;> first | (cases z; done) | skip
    rename_i l
    obtain ⟨a, vs, rfl, a1, a2⟩ := dx
    have fin : ∀ m : Int, res = .sh (.int m) → Q (.int m) q1.H := fun m em => by
      subst em
      exact fin_sh ok1 (fun v q3 e3 ok3 es3 rk => h1 v q3 (ex1.trans e3) ok3 (es3.trans es1) (rk.tr ex1 e3)) rfl
    simp only [maxDD] at z
    cases zi : intsD l with
    | none => rw [zi] at z; cases z
    | some ns =>
      rw [zi] at z
      rw [intsD_den zi a2] at a1
      refine ⟨a, ns, i, rfl, rfl, SqL.of (ok1.view _ _ a1), fun e => ?_, fun m hm hle => ?_⟩
      · subst e
        cases z
        exact fin i rfl
      · cases ns with
        | nil => exact absurd hm (by simp)
        | cons n r =>
          cases z
          have e := maxI_spec r n
          have : m = maxI n r := Int.le_antisymm (e.2 m hm) (hle _ e.1)
          subst this
          exact fin _ rfl
end
end VQ

/-! printed by vg.py from the law's text: readings of its defs, shared. -/
namespace VK
open PySem PySem.Spec PyProof.Rows L2 VQ
noncomputable section
variable {K : PySem.W.Frag} (M : WM K)
def s_law_rows (f__law_worth : Dfs M) (f__law_pull : Dfs M) (f__law_of : Dfs M) : Sv M := (sSeq (M := M) (sSet (M := M) 3 [] (eLst (M := M) (eNil (M := M))))
    (sSeq (M := M) (sSet (M := M) 4 [] (eSh (M := M) (eSeen (M := M) (eLc (M := M) [5] (eI1 (M := M) rng1 (eC M (.int 4))) (gdName 5) (eYes (M := M)) (eSeen (M := M) (eCall (M := M) 1 f__law_worth [] (eCons (M := M) (eVar M 0) (eNil (M := M)))))))))
    (sSeq (M := M) (sFor (M := M) [] (eI1 (M := M) rng1 (eSeen (M := M) (eCall (M := M) 2 f__law_pull [] (eCons (M := M) (eVar M 0) (eCons (M := M) (eSeen (M := M) (eBin (M := M) addD (eVar M 2) (eC M (.int 1)))) (eNil (M := M))))))) (gtName 5) (sSeq (M := M) (sSet (M := M) 6 [] (eSh (M := M) (eSeen (M := M) (eFun (M := M) tupleD (eCons (M := M) (eSeen (M := M) (eLc (M := M) [7] (eI1 (M := M) rng1 (eVar M 1)) (gdName 7) (eYes (M := M)) (eSeen (M := M) (eCall (M := M) 2 f__law_of [] (eCons (M := M) (eVar M 0) (eCons (M := M) (eSeen (M := M) (eLst (M := M) (eCons (M := M) (eSeen (M := M) (eCall (M := M) 2 f__law_of [] (eCons (M := M) (eVar M 0) (eCons (M := M) (eVar M 4) (eNil (M := M)))))) (eCons (M := M) (eSeen (M := M) (eCall (M := M) 1 f__law_worth [] (eCons (M := M) (eVar M 0) (eNil (M := M))))) (eNil (M := M)))))) (eNil (M := M)))))))) (eNil (M := M)))))))
    (sIf (M := M) [3] (eCmpT (M := M) ninD (eVar M 6) (eVar M 3)) (sAppend (M := M) 3 [] (eVar M 6)) (sNil (M := M)))))
    (sRetO (M := M) 3))))
def w_law_rows (pull : Dfs M) : Dfs M := runD 8 (s_law_rows M (w_law_worth M pull) pull (w_law_of M pull))
def s_law_point_near (f__law_pull : Dfs M) (f__law_point : Dfs M) (f__law_of : Dfs M) (f__law_worth : Dfs M) : Sv M := (sSeq (M := M) (sIf (M := M) [] (eOr (M := M) (eCmpT (M := M) eqO (eVar M 1) (eSeen (M := M) (eLst (M := M) (eNil (M := M))))) (eCmpT (M := M) eqO (eSeen (M := M) (eCall (M := M) 2 f__law_pull [] (eCons (M := M) (eVar M 0) (eCons (M := M) (eC M (.int 4)) (eNil (M := M)))))) (eC M (.int 0)))) (sRet (M := M) [] (eCall (M := M) 2 f__law_point [] (eCons (M := M) (eVar M 0) (eCons (M := M) (eVar M 2) (eNil (M := M)))))) (sNil (M := M)))
    (sSeq (M := M) (sSet (M := M) 3 [] (eSh (M := M) (eSeen (M := M) (eCall (M := M) 2 f__law_of [] (eCons (M := M) (eVar M 0) (eCons (M := M) (eVar M 1) (eNil (M := M))))))))
    (sSeq (M := M) (sSet (M := M) 4 [] (eLst (M := M) (eNil (M := M))))
    (sSeq (M := M) (sFor (M := M) [] (eI1 (M := M) rng1 (eVar M 2)) (gtName 5) (sAppend (M := M) 4 [] (eSeen (M := M) (eCall (M := M) 2 f__law_of [] (eCons (M := M) (eVar M 0) (eCons (M := M) (eSeen (M := M) (eLst (M := M) (eCons (M := M) (eBinD (M := M) ixD (eVar M 3) (eVar M 5)) (eCons (M := M) (eBinD (M := M) ixD (eVar M 3) (eVar M 5)) (eCons (M := M) (eBinD (M := M) ixD (eVar M 3) (eVar M 5)) (eCons (M := M) (eSeen (M := M) (eBin (M := M) xorD (eBinD (M := M) ixD (eVar M 3) (eVar M 5)) (eC M (.int 1)))) (eCons (M := M) (eSeen (M := M) (eCall (M := M) 1 f__law_worth [] (eCons (M := M) (eVar M 0) (eNil (M := M))))) (eNil (M := M))))))))) (eNil (M := M))))))))
    (sRet (M := M) [4] (eFun (M := M) tupleD (eCons (M := M) (eVar M 4) (eNil (M := M)))))))))
def w_law_point_near (pull : Dfs M) : Dfs M := runD 6 (s_law_point_near M pull (w_law_point M pull) (w_law_of M pull) (w_law_worth M pull))
def s_law_hanging : Sv M := (sSeq (M := M) (sSet (M := M) 2 [] (eSh (M := M) (eSeen (M := M) (eFun (M := M) lenD (eCons (M := M) (eVar M 1) (eNil (M := M)))))))
    (sRet (M := M) [] (eSetS (M := M) (eSeen (M := M) (eLc (M := M) [3] (eItems (M := M) anyOf (eVar M 0)) (gdName 3) (eAnd (M := M) (eCmpT (M := M) gtD (eSeen (M := M) (eFun (M := M) lenD (eCons (M := M) (eVar M 3) (eNil (M := M))))) (eVar M 2)) (eCmpT (M := M) eqO (eSeen (M := M) (eFun (M := M) listD (eCons (M := M) (eSeen (M := M) (eSl (M := M) (eVar M 3) (eNoPt (M := M)) (ePt (M := M) (eVar M 2)))) (eNil (M := M))))) (eVar M 1))) (eBinD (M := M) ixD (eVar M 3) (eVar M 2)))))))
def w_law_hanging : Dfs M := runD 4 (s_law_hanging M)
def s_law_gap (f__law_hanging : Dfs M) (f__law_figs : Dfs M) (f__law_box_of : Dfs M) : Sv M := (sSeq (M := M) (sSet (M := M) 2 [] (eSh (M := M) (eSeen (M := M) (eFun (M := M) lenD (eCons (M := M) (eVar M 1) (eNil (M := M)))))))
    (sSeq (M := M) (sSet (M := M) 3 [] (eSh (M := M) (eC M (.int 0))))
    (sSeq (M := M) (sFor (M := M) [] (eItems (M := M) anyOf (eVar M 0)) (gtName 4) (sFor (M := M) [] (eI1 (M := M) rng1 (eSeen (M := M) (eBin (M := M) addD (eVar M 2) (eC M (.int 1))))) (gtName 5) (sIf (M := M) [] (eAnd (M := M) (eCmpT (M := M) eqO (eSeen (M := M) (eSl (M := M) (eVar M 4) (eNoPt (M := M)) (ePt (M := M) (eVar M 5)))) (eSeen (M := M) (eSl (M := M) (eVar M 1) (eNoPt (M := M)) (ePt (M := M) (eVar M 5))))) (eCmpT (M := M) gtD (eVar M 5) (eVar M 3))) (sSet (M := M) 3 [] (eSh (M := M) (eVar M 5))) (sNil (M := M)))))
    (sSeq (M := M) (sIf (M := M) [] (eOr (M := M) (eCmpT (M := M) eqO (eVar M 3) (eVar M 2)) (eCmpT (M := M) eqO (eVar M 2) (eC M (.int 0)))) (sRet (M := M) [] (eSh (M := M) (eC M .non))) (sNil (M := M)))
    (sSeq (M := M) (sSet (M := M) 6 [] (eSh (M := M) (eSeen (M := M) (eCall (M := M) 2 f__law_hanging [] (eCons (M := M) (eVar M 0) (eCons (M := M) (eSeen (M := M) (eFun (M := M) listD (eCons (M := M) (eSeen (M := M) (eSl (M := M) (eVar M 1) (eNoPt (M := M)) (ePt (M := M) (eVar M 3)))) (eNil (M := M))))) (eNil (M := M))))))))
    (sSeq (M := M) (sSet (M := M) 7 [] (eSh (M := M) (eSeen (M := M) (eCall (M := M) 1 f__law_figs [] (eCons (M := M) (eBinD (M := M) ixD (eVar M 1) (eVar M 3)) (eNil (M := M)))))))
    (sSeq (M := M) (sSet (M := M) 8 [] (eSh (M := M) (eC M (.int 0))))
    (sSeq (M := M) (sWhile (M := M) [] (eTest (M := M) truD (eSeen (M := M) (eFun (M := M) anyD (eCons (M := M) (eSeen (M := M) (eLc (M := M) [9] (eItems (M := M) anyOf (eVar M 6)) (gdName 9) (eYes (M := M)) (eBinD (M := M) (blD eqO) (eSeen (M := M) (eSl (M := M) (eSeen (M := M) (eCall (M := M) 1 f__law_figs [] (eCons (M := M) (eVar M 9) (eNil (M := M))))) (eNoPt (M := M)) (ePt (M := M) (eVar M 8)))) (eSeen (M := M) (eSl (M := M) (eVar M 7) (eNoPt (M := M)) (ePt (M := M) (eVar M 8))))))) (eNil (M := M)))))) (sSet (M := M) 8 [] (eSh (M := M) (eSeen (M := M) (eBin (M := M) addD (eVar M 8) (eC M (.int 1)))))))
    (sRet (M := M) [] (eBin (M := M) addD (eSeen (M := M) (eBin (M := M) addD (eSeen (M := M) (eCall (M := M) 1 f__law_box_of [] (eCons (M := M) (eSeen (M := M) (eSl (M := M) (eVar M 1) (eNoPt (M := M)) (ePt (M := M) (eVar M 3)))) (eNil (M := M))))) (eTup (M := M) (eCons (M := M) (eSeen (M := M) (eSl (M := M) (eVar M 7) (eNoPt (M := M)) (ePt (M := M) (eVar M 8)))) (eNil (M := M)))))) (eSeen (M := M) (eBin (M := M) mulD (eTup (M := M) (eCons (M := M) (eC M (.str [])) (eNil (M := M)))) (eSeen (M := M) (eBin (M := M) subD (eSeen (M := M) (eBin (M := M) subD (eVar M 2) (eVar M 3))) (eC M (.int 1))))))))))))))))
def w_law_gap : Dfs M := runD 10 (s_law_gap M (w_law_hanging M) (w_law_figs M) (w_law_box_of M))
def s_common : Sv M := (sSeq (M := M) (sFor (M := M) [] (eI2 (M := M) enumZ (eVar M 0) (eVar M 1)) (gtTup 2 (gtCons (gtName 2) (gtCons (gtTup 2 (gtCons (gtName 3) (gtCons (gtName 4) gtNil))) gtNil))) (sIf (M := M) [] (eCmpT (M := M) neO (eVar M 3) (eVar M 4)) (sRet (M := M) [] (eSh (M := M) (eVar M 2))) (sNil (M := M))))
    (sRet (M := M) [] (eFun (M := M) lenD (eCons (M := M) (eVar M 0) (eNil (M := M))))))
def w_common : Dfs M := runD 5 (s_common M)
def s_gap (f_common : Dfs M) (f_figures_of : Dfs M) (f_shortest_of : Dfs M) : Sv M := (sSeq (M := M) (sSet (M := M) 2 [] (eSh (M := M) (eSeen (M := M) (eMaxD (M := M) 0 (eSeen (M := M) (eLc (M := M) [6] (eItems (M := M) anyOf (eVar M 0)) (gdName 6) (eYes (M := M)) (eSeen (M := M) (eCall (M := M) 2 f_common [] (eCons (M := M) (eVar M 6) (eCons (M := M) (eVar M 1) (eNil (M := M))))))))))))
    (sSeq (M := M) (sIf (M := M) [] (eCmpT (M := M) eqO (eVar M 2) (eSeen (M := M) (eFun (M := M) lenD (eCons (M := M) (eVar M 1) (eNil (M := M)))))) (sRet (M := M) [] (eSh (M := M) (eC M .non))) (sNil (M := M)))
    (sSeq (M := M) (sSet (M := M) 3 [] (eSh (M := M) (eSeen (M := M) (eLc (M := M) [6] (eItems (M := M) anyOf (eVar M 0)) (gdName 6) (eCmpT (M := M) eqO (eSeen (M := M) (eFun (M := M) tupleD (eCons (M := M) (eSeen (M := M) (eSl (M := M) (eVar M 6) (eNoPt (M := M)) (ePt (M := M) (eVar M 2)))) (eNil (M := M))))) (eSeen (M := M) (eFun (M := M) tupleD (eCons (M := M) (eSeen (M := M) (eSl (M := M) (eVar M 1) (eNoPt (M := M)) (ePt (M := M) (eVar M 2)))) (eNil (M := M)))))) (eBinD (M := M) ixD (eVar M 6) (eVar M 2))))))
    (sSeq (M := M) (sSet (M := M) 4 [] (eSh (M := M) (eSeen (M := M) (eLc (M := M) [7] (eItems (M := M) anyOf (eSeen (M := M) (eSl (M := M) (eVar M 1) (eNoPt (M := M)) (ePt (M := M) (eVar M 2))))) (gdName 7) (eYes (M := M)) (eSeen (M := M) (eCall (M := M) 2 f_figures_of [(.int 5)] (eCons (M := M) (eVar M 7) (eNil (M := M)))))))))
    (sSeq (M := M) (sSet (M := M) 5 [] (eSh (M := M) (eSeen (M := M) (eBin (M := M) mulD (eSeen (M := M) (eLst (M := M) (eCons (M := M) (eC M (.str [])) (eNil (M := M))))) (eSeen (M := M) (eBin (M := M) subD (eSeen (M := M) (eBin (M := M) subD (eSeen (M := M) (eFun (M := M) lenD (eCons (M := M) (eVar M 1) (eNil (M := M))))) (eVar M 2))) (eC M (.int 1))))))))
    (sRet (M := M) [] (eFun (M := M) tupleD (eCons (M := M) (eSeen (M := M) (eBin (M := M) addD (eSeen (M := M) (eBin (M := M) addD (eVar M 4) (eSeen (M := M) (eLst (M := M) (eCons (M := M) (eSeen (M := M) (eCall (M := M) 2 f_shortest_of [] (eCons (M := M) (eBinD (M := M) ixD (eVar M 1) (eVar M 2)) (eCons (M := M) (eVar M 3) (eNil (M := M)))))) (eNil (M := M))))))) (eVar M 5))) (eNil (M := M))))))))))
def w_gap : Dfs M := runD 8 (s_gap M (w_common M) (w_figures_of M) (w_shortest_of M))
def s_law_k14 (f__law_pull : Dfs M) (f__law_rows : Dfs M) (f__law_of : Dfs M) (f__law_point_near : Dfs M) (f__law_gap : Dfs M) (f__law_same : Dfs M) (f_gap : Dfs M) (f__law_mixed : Dfs M) : Sv M := (sSeq (M := M) (sFor (M := M) [] (eI1 (M := M) rng1 (eC M (.int 4))) (gtName 2) (sSeq (M := M) (sSet (M := M) 3 [] (eSh (M := M) (eSeen (M := M) (eBin (M := M) addD (eC M (.int 1)) (eSeen (M := M) (eCall (M := M) 2 f__law_pull [] (eCons (M := M) (eVar M 1) (eCons (M := M) (eC M (.int 4)) (eNil (M := M))))))))))
    (sSeq (M := M) (sSet (M := M) 4 [] (eSh (M := M) (eSeen (M := M) (eCall (M := M) 3 f__law_rows [] (eCons (M := M) (eVar M 1) (eCons (M := M) (eVar M 3) (eCons (M := M) (eSeen (M := M) (eCall (M := M) 2 f__law_of [] (eCons (M := M) (eVar M 1) (eCons (M := M) (eSeen (M := M) (eLst (M := M) (eCons (M := M) (eC M (.int 12)) (eCons (M := M) (eC M (.int 12)) (eCons (M := M) (eC M (.int 60)) (eNil (M := M))))))) (eNil (M := M)))))) (eNil (M := M)))))))))
    (sSeq (M := M) (sSet (M := M) 5 [] (eSh (M := M) (eSeen (M := M) (eCall (M := M) 3 f__law_point_near [] (eCons (M := M) (eVar M 1) (eCons (M := M) (eVar M 4) (eCons (M := M) (eVar M 3) (eNil (M := M)))))))))
    (sSeq (M := M) (sSet (M := M) 6 [] (eSh (M := M) (eSeen (M := M) (eFun (M := M) listD (eCons (M := M) (eVar M 4) (eNil (M := M)))))))
    (sSeq (M := M) (sSet (M := M) 7 [] (eSh (M := M) (eSeen (M := M) (eIf (M := M) (eCmpT (M := M) inD (eVar M 5) (eVar M 4)) (eSh (M := M) (eC M .non)) (eCall (M := M) 2 f__law_gap [] (eCons (M := M) (eVar M 4) (eCons (M := M) (eVar M 5) (eNil (M := M)))))))))
    (sSeq (M := M) (sIf (M := M) [] (eOr (M := M) (eNot (M := M) (eTest (M := M) truD (eSeen (M := M) (eCall (M := M) 2 f__law_same [] (eCons (M := M) (eSeen (M := M) (eCall (M := M) 2 f_gap [] (eCons (M := M) (eVar M 6) (eCons (M := M) (eVar M 5) (eNil (M := M)))))) (eCons (M := M) (eVar M 7) (eNil (M := M)))))))) (eCmpT (M := M) neO (eVar M 6) (eVar M 4))) (sRet (M := M) [] (eSh (M := M) (eC M (.bl false)))) (sNil (M := M)))
    (sIf (M := M) [] (eNot (M := M) (eTest (M := M) truD (eSeen (M := M) (eCall (M := M) 2 f__law_same [] (eCons (M := M) (eSeen (M := M) (eCall (M := M) 2 f_gap [] (eCons (M := M) (eSeen (M := M) (eCall (M := M) 2 f__law_mixed [] (eCons (M := M) (eVar M 1) (eCons (M := M) (eVar M 4) (eNil (M := M)))))) (eCons (M := M) (eVar M 5) (eNil (M := M)))))) (eCons (M := M) (eVar M 7) (eNil (M := M)))))))) (sRet (M := M) [] (eSh (M := M) (eC M (.bl false)))) (sNil (M := M))))))))))
    (sRet (M := M) [] (eSh (M := M) (eAndV (M := M) truD (eBinD (M := M) (blD eqO) (eSeen (M := M) (eCall (M := M) 2 f_gap [] (eCons (M := M) (eSeen (M := M) (eLst (M := M) (eNil (M := M)))) (eCons (M := M) (eTup (M := M) (eCons (M := M) (eC M (.int 3)) (eCons (M := M) (eC M (.int 4)) (eNil (M := M))))) (eNil (M := M)))))) (eTup (M := M) (eCons (M := M) (eC M (.str [])) (eCons (M := M) (eC M (.str [])) (eNil (M := M)))))) (eBinD (M := M) (blD eqO) (eSeen (M := M) (eCall (M := M) 2 f_gap [] (eCons (M := M) (eSeen (M := M) (eLst (M := M) (eCons (M := M) (eTup (M := M) (eCons (M := M) (eC M (.int 3)) (eCons (M := M) (eC M (.int 4)) (eNil (M := M))))) (eNil (M := M))))) (eCons (M := M) (eTup (M := M) (eCons (M := M) (eC M (.int 3)) (eCons (M := M) (eC M (.int 5)) (eNil (M := M))))) (eNil (M := M)))))) (eTup (M := M) (eCons (M := M) (eC M (.str [48, 48, 48, 49, 49])) (eCons (M := M) (eC M (.str [48, 48, 49, 48, 49])) (eNil (M := M))))))))))
end
end VK

/-! PA: steps over readings, in the logic of draws. -/
namespace VK
open PySem PySem.Spec PyProof.Rows L2 VQ
section
variable {K : PySem.W.Frag} {M : WM K} {s s' : M.S} {ρ : Nv} {P : Fl × M.S → Prop} {E : Xs M → Prop} {α : Type}
theorem ite_andB {ε S : Type} (p q : Bool) (s : S) : (if p = true then (G.ret (q, s) : VQ.G ε (Bool × S)) else .ret (false, s)) = .ret (p && q, s) := by cases p <;> rfl
theorem ite_orB {ε S : Type} (p q : Bool) (s : S) : (if p = true then (G.ret (true, s) : VQ.G ε (Bool × S)) else .ret (q, s)) = .ret (p || q, s) := by cases p <;> rfl
theorem al_ret_eq {ε α : Type} (a : α) (P : α → Prop) (E : ε → Prop) : Al (.ret a : VQ.G ε α) P E = P a := propext ⟨fun h => h.out, fun h => .ret h⟩
theorem al_exc_eq {ε α : Type} (e : ε) (P : α → Prop) (E : ε → Prop) : Al (.exc e : VQ.G ε α) P E = E e := propext ⟨fun h => h.out, fun h => .exc h⟩
theorem al_seq_eq (a b : Sv M) : Al (sSeq a b ρ s) P E = Al (a ρ s) (fun f => Al (sThen b f) P E) E := propext ⟨fun h => ⟨G.all_mono (fun _ h => ⟨h⟩) (fun _ h => h) (G.all_bind.mp h.out)⟩, fun h => .bind h⟩
theorem al_then_nx (b : Sv M) (ρ : Nv) (s : M.S) : sThen b (.nx ρ, s) = b ρ s := rfl
theorem al_then_bk (b : Sv M) (ρ : Nv) (s : M.S) : sThen b (.bk ρ, s) = .ret (.bk ρ, s) := rfl
theorem al_then_ct (b : Sv M) (ρ : Nv) (s : M.S) : sThen b (.ct ρ, s) = .ret (.ct ρ, s) := rfl
theorem al_then_rt (b : Sv M) (r : R) (s : M.S) : sThen b (.rt r, s) = .ret (.rt r, s) := rfl
theorem al_nil_eq : Al (sNil (M := M) ρ s) P E = P (.nx ρ, s) := al_ret_eq _ _ _
theorem al_ite {ε α : Type} {c : Prop} [Decidable c] (a b : VQ.G ε α) (P : α → Prop) (E : ε → Prop) : Al (if c then a else b) P E = if c then Al a P E else Al b P E := by split <;> rfl
def retP (P : R × M.S → Prop) : Fl × M.S → Prop
  | (.nx _, s) => P (.sh .non, s)
  | (.rt r, s) => P (r, s)
  | _ => False
theorem retP_nx (P : R × M.S → Prop) (ρ : Nv) (s : M.S) : retP P (.nx ρ, s) = P (.sh .non, s) := rfl
theorem retP_rt (P : R × M.S → Prop) (r : R) (s : M.S) : retP P (.rt r, s) = P (r, s) := rfl
theorem al_run_eq {n : Nat} {ss : Sv M} {ds : List D} {P : R × M.S → Prop} {E : Exc × M.S → Prop} : Al (runD n ss ds s) P E = Al (ss (startE n ds) s) (retP P) (fun x => E (x.1, x.2.2)) := by
  refine propext ⟨fun h => ⟨?_⟩, fun h => ?_⟩
  · have h1 := G.all_exs.mp (G.all_bind.mp h.out)
    refine G.all_mono (fun f hf => ?_) (fun _ h => h) h1
    obtain ⟨fl, s1⟩ := f
    cases fl <;> exact hf
  · refine .bind (.exs (h.mono (fun f hf => ?_) fun _ h => h))
    obtain ⟨fl, s1⟩ := f
    cases fl with
    | nx _ => exact .ret hf
    | rt r => exact .ret hf
    | bk _ => exact hf.elim
    | ct _ => exact hf.elim
theorem al_same {ε α : Type} {m m' : VQ.G ε α} {P : α → Prop} {E : ε → Prop} (h : m = m') (k : Al m' P E) : Al m P E := h ▸ k
/-- a loop over a typed list, with draws, the items gone through in the invariant -/
theorem for_alp {ei : Ev M (List D)} {g : D → Nv → Option Nv} {body : Sv M} (xs : List α) (inj : α → D) (I : List α → Nv → M.S → Prop) (he : ei (view [] ρ) s = .ret (xs.map inj, s')) (hi : I [] ρ s')
    (h : ∀ pre x post, xs = pre ++ x :: post → ∀ ρ s, I pre ρ s → ∃ ρ1, g (inj x) ρ = some ρ1 ∧ Al (body ρ1 s) (fun f => ∃ ρ2, f.1 = .nx ρ2 ∧ I (pre ++ [x]) ρ2 f.2) E) (hk : ∀ ρ2 s2, I xs ρ2 s2 → P (.nx ρ2, s2)) : Al (sFor [] ei g body ρ s) P E := by
  have aux : ∀ (ys pre : List α), xs = pre ++ ys → ∀ ρ s, I pre ρ s → Al (loopG g body (ys.map inj) ρ s) (fun f => ∃ ρ2, f.1 = .nx ρ2 ∧ I xs ρ2 f.2) E := by
    intro ys
    induction ys with
    | nil => intro pre e ρ s hi; rw [List.append_nil] at e; subst e; exact .ret ⟨ρ, rfl, hi⟩
    | cons y ys ih =>
      intro pre e ρ s hi
      obtain ⟨ρ1, e1, hb⟩ := h pre y ys e ρ s hi
      rw [List.map_cons]
      unfold loopG
      rw [e1]
      refine .bind (hb.mono (fun f hf => ?_) fun _ h => h)
      obtain ⟨fl, s2⟩ := f
      obtain ⟨ρ2, hf, hi2⟩ := hf
      have hf : fl = .nx ρ2 := hf
      subst hf
      exact ih (pre ++ [y]) (by rw [e]; simp) ρ2 s2 hi2
  rw [for_eq he]
  refine (aux xs [] rfl ρ s' hi).mono (fun f hf => ?_) fun _ h => h
  obtain ⟨fl, s2⟩ := f
  obtain ⟨ρ2, hf, hi2⟩ := hf
  have hf : fl = .nx ρ2 := hf
  subst hf
  exact hk ρ2 s2 hi2
/-- .. that may also go back: what is handed back is told by Q -/
theorem for_alr {ei : Ev M (List D)} {g : D → Nv → Option Nv} {body : Sv M} (xs : List α) (inj : α → D) (I : List α → Nv → M.S → Prop) (he : ei (view [] ρ) s = .ret (xs.map inj, s')) (hi : I [] ρ s')
    (h : ∀ pre x post, xs = pre ++ x :: post → ∀ ρ s, I pre ρ s → ∃ ρ1, g (inj x) ρ = some ρ1 ∧ Al (body ρ1 s) (fun f => (∃ ρ2, f.1 = .nx ρ2 ∧ I (pre ++ [x]) ρ2 f.2) ∨ ∃ r, f.1 = .rt r ∧ P f) E) (hk : ∀ ρ2 s2, I xs ρ2 s2 → P (.nx ρ2, s2)) : Al (sFor [] ei g body ρ s) P E := by
  have aux : ∀ (ys pre : List α), xs = pre ++ ys → ∀ ρ s, I pre ρ s → Al (loopG g body (ys.map inj) ρ s) P E := by
    intro ys
    induction ys with
    | nil => intro pre e ρ s hi; rw [List.append_nil] at e; subst e; exact .ret (hk _ _ hi)
    | cons y ys ih =>
      intro pre e ρ s hi
      obtain ⟨ρ1, e1, hb⟩ := h pre y ys e ρ s hi
      rw [List.map_cons]
      unfold loopG
      rw [e1]
      refine .bind (hb.mono (fun f hf => ?_) fun _ h => h)
      obtain ⟨fl, s2⟩ := f
      rcases hf with ⟨ρ2, hf, hi2⟩ | ⟨r, hf, hp⟩
      · have hf : fl = .nx ρ2 := hf
        subst hf
        exact ih (pre ++ [y]) (by rw [e]; simp) ρ2 s2 hi2
      · have hf : fl = .rt r := hf
        subst hf
        exact .ret hp
  rw [for_eq he]
  exact aux xs [] rfl ρ s' hi
/-- a loop without draws, its names told by the items gone through -/
theorem for_env {ei : Ev M (List D)} {g : D → Nv → Option Nv} {body : Sv M} (xs : List α) (inj : α → D) (env : List α → Nv) (he : ei (view [] ρ) s = .ret (xs.map inj, s')) (hρ : ρ = env [])
    (h : ∀ pre x post, xs = pre ++ x :: post → ∃ ρ1, g (inj x) (env pre) = some ρ1 ∧ body ρ1 s' = .ret (.nx (env (pre ++ [x])), s')) : sFor [] ei g body ρ s = .ret (.nx (env xs), s') := by
  have aux : ∀ (ys pre : List α), xs = pre ++ ys → loopG g body (ys.map inj) (env pre) s' = .ret (.nx (env xs), s') := by
    intro ys
    induction ys with
    | nil => intro pre e; rw [e, List.append_nil]; rfl
    | cons y ys ih =>
      intro pre e
      obtain ⟨ρ1, e1, e2⟩ := h pre y ys e
      rw [List.map_cons]
      unfold loopG
      rw [e1]
      show (body ρ1 s').bind _ = _
      rw [e2]
      exact ih (pre ++ [y]) (by rw [e]; simp)
  rw [for_eq he, hρ]
  exact aux xs [] rfl
/-- .. that goes back with r at the first item of a kind -/
theorem for_envs {ei : Ev M (List D)} {g : D → Nv → Option Nv} {body : Sv M} (xs : List α) (inj : α → D) (env : List α → Nv) (p : α → Bool) (r : R) (he : ei (view [] ρ) s = .ret (xs.map inj, s')) (hρ : ρ = env [])
    (h : ∀ pre x post, xs = pre ++ x :: post → pre.any p = false → ∃ ρ1, g (inj x) (env pre) = some ρ1 ∧ body ρ1 s' = if p x = true then .ret (.rt r, s') else .ret (.nx (env (pre ++ [x])), s')) :
    sFor [] ei g body ρ s = if xs.any p = true then .ret (.rt r, s') else .ret (.nx (env xs), s') := by
  have aux : ∀ (ys pre : List α), xs = pre ++ ys → pre.any p = false → loopG g body (ys.map inj) (env pre) s' = if ys.any p = true then .ret (.rt r, s') else .ret (.nx (env xs), s') := by
    intro ys
    induction ys with
    | nil => intro pre e _; rw [e, List.append_nil]; rfl
    | cons y ys ih =>
      intro pre e hp
      obtain ⟨ρ1, e1, e2⟩ := h pre y ys e hp
      rw [List.map_cons]
      unfold loopG
      rw [e1]
      show (body ρ1 s').bind _ = _
      rw [e2]
      cases hy : p y with
      | true => simp [hy]
      | false =>
        have := ih (pre ++ [y]) (by rw [e]; simp) (by rw [List.any_append, hp]; simp [hy])
        simp only [List.any_cons, hy, Bool.false_or]
        exact this
  rw [for_eq he, hρ]
  exact aux xs [] rfl rfl
/-- a loop over a typed list, with draws, that may break (J holds then) -/
theorem for_alb {ei : Ev M (List D)} {g : D → Nv → Option Nv} {body : Sv M} (xs : List α) (inj : α → D) (I : List α → Nv → M.S → Prop) (J : Nv → M.S → Prop) (he : ei (view [] ρ) s = .ret (xs.map inj, s')) (hi : I [] ρ s')
    (h : ∀ pre x post, xs = pre ++ x :: post → ∀ ρ s, I pre ρ s → ∃ ρ1, g (inj x) ρ = some ρ1 ∧ Al (body ρ1 s) (fun f => (∃ ρ2, f.1 = .nx ρ2 ∧ I (pre ++ [x]) ρ2 f.2) ∨ ∃ ρ2, f.1 = .bk ρ2 ∧ J ρ2 f.2) E) (hk : ∀ ρ2 s2, I xs ρ2 s2 → P (.nx ρ2, s2)) (hj : ∀ ρ2 s2, J ρ2 s2 → P (.nx ρ2, s2)) : Al (sFor [] ei g body ρ s) P E := by
  have aux : ∀ (ys pre : List α), xs = pre ++ ys → ∀ ρ s, I pre ρ s → Al (loopG g body (ys.map inj) ρ s) P E := by
    intro ys
    induction ys with
    | nil => intro pre e ρ s hi; rw [List.append_nil] at e; subst e; exact .ret (hk _ _ hi)
    | cons y ys ih =>
      intro pre e ρ s hi
      obtain ⟨ρ1, e1, hb⟩ := h pre y ys e ρ s hi
      rw [List.map_cons]
      unfold loopG
      rw [e1]
      refine .bind (hb.mono (fun f hf => ?_) fun _ h => h)
      obtain ⟨fl, s2⟩ := f
      rcases hf with ⟨ρ2, hf, hi2⟩ | ⟨ρ2, hf, hp⟩
      · have hf : fl = .nx ρ2 := hf
        subst hf
        exact ih (pre ++ [y]) (by rw [e]; simp) ρ2 s2 hi2
      · have hf : fl = .bk ρ2 := hf
        subst hf
        exact .ret (hj _ _ hp)
  rw [for_eq he]
  exact aux xs [] rfl ρ s' hi
end
end VK

namespace VK
open PySem PySem.Spec PyProof.Rows L2 VQ
section
variable {K : PySem.W.Frag} {M : WM K} {s : M.S} {pull : Dfs M}
/-! ### worths -/
def wB (i : Int) : Bool := decide (0 ≤ i) && decide (i < 32)
theorem worth_int (i : Int) : w_is_worth M [.int i] s = .ret (.sh (.bl (wB i)), s) := by
  unfold w_is_worth s_is_worth w_is_whole s_is_whole
  walk_at "U"
  by_cases h1 : 0 ≤ i <;> by_cases h2 : i < 32 <;> simp [wB, h1, h2, op]
theorem need_lc (l : List Int) (hl : l.length ≤ 1000) : eLc (M := M) [1] (eItems anyOf (eVar M 0)) (gdName 1) eYes (eSeen (eCall 1 (w_is_worth M) [] (eCons (eVar M 1) eNil))) [some (.lst (l.map .int)), none] s = .ret (.fr (.lst (l.map fun i => .bl (wB i))), s) := by
  refine elc_map l .int _ (by walk_at "U"; rfl) (by unfold big; omega) fun i hi => ⟨_, rfl, ?_⟩
  walk_at "U"
  simp only [worth_int]
  walk_at "U"
theorem need_ok (l : List Int) (hl : l.length ≤ 1000) (h : l.all wB = true) : w_need_worths M [.lst (l.map .int)] s = .ret (.sh .non, s) := by
  unfold w_need_worths s_need_worths
  walk_at "U"
  simp only [need_lc l hl]
  walk_at "U"
  simp only [h]
  walk_at "U"
theorem need_bad (l : List Int) (hl : l.length ≤ 1000) (h : l.all wB = false) : w_need_worths M [.lst (l.map .int)] s = .exc (⟨"BadWorth", x_BadWorth.map (fD [])⟩, s) := by
  unfold w_need_worths s_need_worths
  walk_at "U"
  simp only [need_lc l hl]
  walk_at "U"
  simp only [h]
  walk_at "U"
theorem rev5 : rev1 (.int 5) = some [.int 4, .int 3, .int 2, .int 1, .int 0] := by
  have e : rev1 (.int 5) = if in62 (5 : Int) = true then some (downFrom (0 + (((5 - 0 : Int).toNat : Nat) : Int) - 1) (5 - 0 : Int).toNat) else none := rfl
  rw [e, show (5 : Int) = ((5 : Nat) : Int) from rfl, if_pos (in62_nat (by decide))]; rfl
theorem figures_eq (i : Int) : w_figures_of M [.int i, .int 5] s = .ret (.sh (.str (b5 i)), s) := by
  unfold w_figures_of s_figures_of
  have hlc : eLc (M := M) [2] (eI1 rev1 (eVar M 1)) (gdName 2) eYes (eSeen (eFun strD (eCons (eSeen (eBin andD (eSeen (eBin shrD (eVar M 0) (eVar M 2))) (eC M (.int 1)))) eNil))) [some (.int i), some (.int 5), none] s = .ret (.fr (.lst ([4, 3, 2, 1, 0].map fun k : Nat => .str [48 + (i / 2 ^ k % 2).toNat])), s) := by
    refine elc_map [4, 3, 2, 1, 0] (fun k : Nat => .int (k : Nat)) _ ?_ (by decide) fun k hk => ⟨_, rfl, ?_⟩
    · walk_at "U"
      rw [rev5]; rfl
    · have hsh := shr_ii (i := i) (j := ((k : Nat) : Int)) (by omega)
      have hand : andD (.int (i / 2 ^ k)) (.int 1) = some (.sh (.int (i / 2 ^ k % 2))) := by
        show some (R.sh (.int (Builtin.bitAnd (i / 2 ^ k) 1))) = _
        rw [bitAnd_m1]
      walk_at "U"
      simp only [hsh]
      walk_at "U"
      simp only [Int.toNat_natCast, hand]
      walk_at "U"
      simp only [str2]
      walk_at "U"
  walk_at "U"
  simp only [hlc]
  walk_at "U"
  have hj : joinD (.str []) (.lst [.str [48 + (i / 2 ^ 4 % 2).toNat], .str [48 + (i / 2 ^ 3 % 2).toNat], .str [48 + (i / 2 ^ 2 % 2).toNat], .str [48 + (i / 2 ^ 1 % 2).toNat], .str [48 + (i / 2 ^ 0 % 2).toNat]]) = some (.sh (.str (b5 i))) := by
    rw [show b5 i = [48 + (i / 2 ^ 4 % 2).toNat, 48 + (i / 2 ^ 3 % 2).toNat, 48 + (i / 2 ^ 2 % 2).toNat, 48 + (i / 2 ^ 1 % 2).toNat, 48 + (i / 2 ^ 0 % 2).toNat] by
      unfold b5
      rw [show i / 2 ^ 4 = i / 2 / 2 / 2 / 2 by omega, show i / 2 ^ 3 = i / 2 / 2 / 2 by omega, show i / 2 ^ 2 = i / 2 / 2 by omega, show i / 2 ^ 1 = i / 2 by omega, show i / 2 ^ 0 = i by omega]]
    rfl
  simp only [hj]
  walk_at "U"
/-! ### the shortest beginning -/
def hit (w : Int) (l : List Int) (k : Nat) : Bool := l.any fun o => (b5 o).take k == (b5 w).take k
def shortN (w : Int) (l : List Int) : Option Nat := (List.range 6).find? fun k => !hit w l k
def optB (w : Int) : Option Nat → D
  | some k => .str ((b5 w).take k)
  | none => .non
theorem shortest_of_eq (w : Int) (l : List Int) (hl : l.length ≤ 1000) : w_shortest_of M [.int w, .lst (l.map .int)] s = .ret (.sh (optB w (shortN w l)), s) := by
  unfold w_shortest_of s_shortest_of
  have hbl : l.length ≤ big := by unfold big; omega
  walk_at "U"
  simp only [figures_eq]
  walk_at "U"
  rw [elc_map l .int (fun i => .str (b5 i)) (s' := s) ?e ?l ?h]
  case e => walk_at "U"; rfl
  case l => exact hbl
  case h =>
    intro i hi
    refine ⟨_, rfl, ?_⟩
    walk_at "U"
    simp only [figures_eq]
    walk_at "U"
  walk_at "U"
  rw [for_find (List.range 6) (fun k => .int (0 + (k : Nat))) (fun o => [some (.sh (.int w)), some (.sh (.lst (l.map .int))), some (.sh (.str (b5 w))), some (.sh (.lst (l.map fun i => .str (b5 i)))), o.map fun k : Nat => VV.sh (.int (0 + (k : Nat))), none, none]) (fun k => !hit w l k) (fun k => .sh (.str ((b5 w).take k))) (s' := s) ?e ?r ?h]
  case e =>
    have h6 := rng1_eq (n := 6) (by decide)
    rw [show ((6 : Nat) : Int) = 5 + 1 from rfl] at h6
    walk_at "U"
    rw [h6]
  case r => rfl
  case h =>
    intro o k hk
    refine ⟨_, rfl, ?_⟩
    have hb5 : (b5 w).length ≤ big := by simp [b5_len, big]
    have hk6 : k < 6 := by simpa using hk
    have hlc : ∀ ρ, ρ = [some (D.int w), some (.lst (l.map .int)), some (.str (b5 w)), some (.lst (l.map fun i => .str (b5 i))), some (.int (0 + (k : Nat))), none, none] → eLc (M := M) [6] (eItems anyOf (eVar M 3)) (gdName 6) eYes (eSeen (eM1 startsD (eVar M 6) (eSeen (eSl (eVar M 2) eNoPt (ePt (eVar M 4)))))) ρ s = .ret (.fr (.lst (l.map fun i => .bl ((b5 i).take k == (b5 w).take k))), s) := by
      intro ρ hρ
      subst hρ
      refine elc_map l (fun i => .str (b5 i)) _ (by walk_at "U"; rfl) hbl fun i hi => ⟨_, rfl, ?_⟩
      walk_at "U"
      simp only [Int.zero_add, hb5]
      walk_at "U"
      have e1 : ((b5 w).take k).length = k := by rw [List.length_take, b5_len]; omega
      rw [e1]
    have hh : l.any (fun i => (b5 i).take k == (b5 w).take k) = hit w l k := rfl
    walk_at "U"
    simp only [hlc _ rfl]
    walk_at "U"
    simp only [hh]
    cases hit w l k
    · walk_at "U"
      simp only [Int.zero_add, hb5]
      walk_at "U"
    · walk_at "U"
  have hd : shortN w l = (List.range 6).find? fun k => !hit w l k := rfl
  rw [← hd]
  cases shortN w l
  · walk_at "U"
    rfl
  · walk_at "U"
    rfl
theorem shortest_eq (w : Int) (l : List Int) (hl : l.length ≤ 1000) (hw : wB w = true) (h : l.all wB = true) : w_shortest M [.int w, .lst (l.map .int)] s = .ret (.sh (optB w (shortN w l)), s) := by
  unfold w_shortest s_shortest
  have h1 := fun s : M.S => need_ok (s := s) [w] (by simp) (by simp [hw])
  simp only [List.map_cons, List.map_nil] at h1
  walk_at "U"
  simp only [h1]
  walk_at "U"
  simp only [need_ok l hl h]
  walk_at "U"
  simp only [shortest_of_eq w l hl]
  walk_at "U"
theorem shortest_bad1 (w : Int) (l : List Int) (hw : wB w = false) : w_shortest M [.int w, .lst (l.map .int)] s = .exc (⟨"BadWorth", x_BadWorth.map (fD [])⟩, s) := by
  unfold w_shortest s_shortest
  have h1 := fun s : M.S => need_bad (s := s) [w] (by simp) (by simp [hw])
  simp only [List.map_cons, List.map_nil] at h1
  walk_at "U"
  simp only [h1]
  walk_at "U"
theorem shortest_bad2 (w : Int) (l : List Int) (hl : l.length ≤ 1000) (hw : wB w = true) (h : l.all wB = false) : w_shortest M [.int w, .lst (l.map .int)] s = .exc (⟨"BadWorth", x_BadWorth.map (fD [])⟩, s) := by
  unfold w_shortest s_shortest
  have h1 := fun s : M.S => need_ok (s := s) [w] (by simp) (by simp [hw])
  simp only [List.map_cons, List.map_nil] at h1
  walk_at "U"
  simp only [h1]
  walk_at "U"
  simp only [need_bad l hl h]
  walk_at "U"
/-! ### what k03's law draws -/
theorem pow1020 : powD (.int 10) (.int 20) = some (.sh (.int (10 ^ 20))) := by
  unfold powD int2
  rw [lk_eq]
  simp only [small_of (i := 10) (by decide) (by decide)]; rfl
theorem odd_worth_spec (hp : PullOk pull) : Al (w_law_odd_worth M pull [.obj 0] s) (fun r => ∃ i, wB i = false ∧ r = (.sh (.int i), s)) (fun _ => False) := by
  unfold w_law_odd_worth s_law_odd_worth
  have h1000 : ∀ s, pull [.obj 0, .int 1000] s = _ := hp 1000 (by decide) (by decide)
  walk_at "U"
  simp only [pow1020]
  walk_at "U"
  simp only [h1000]
  walk_at "U"
  refine .draw (by decide) fun a ha => ?_
  refine Al.btox (of_spec hp (by simp) (by simp)) fun r hr => ?_
  obtain ⟨d, hd, rfl⟩ := hr
  walk_at "U"
  simp only [List.mem_cons, List.not_mem_nil, or_false] at hd
  rcases hd with rfl | rfl | rfl | rfl | rfl
  · exact .ret ⟨_, by decide, rfl⟩
  · exact .ret ⟨_, by decide, rfl⟩
  · exact .ret ⟨_, by decide, rfl⟩
  · exact .ret ⟨_, by decide, rfl⟩
  · refine .ret ⟨_, ?_, rfl⟩
    have : ¬ (32 + (a : Int) < 32) := by omega
    simp [wB, this]
end
end VK

namespace VK
open PySem PySem.Spec PyProof.Rows L2 VQ
section
variable {K : PySem.W.Frag} {M : WM K} {s : M.S} {pull : Dfs M}
/-! ### boxes and points -/
def okE : D → Bool
  | .obj _ => false
  | .ty _ => false
  | .str l => decide (l.length ≤ 1000)
  | _ => true
def okB : D → Bool
  | .obj _ => false
  | .ty _ => false
  | .tup l => decide (l.length ≤ 1000) && l.all okE
  | _ => true
def begD : D → Bool
  | .str l => beg l
  | _ => false
def wD : D → Bool
  | .int i => wB i
  | _ => false
def boxD : D → Bool
  | .tup l => decide (1 ≤ l.length) && (decide (l.length ≤ 5) && l.all begD)
  | _ => false
def pointD : D → Bool
  | .tup l => decide (1 ≤ l.length) && (decide (l.length ≤ 5) && l.all wD)
  | _ => false
theorem isbeg_any (d : D) (h : okE d = true) : w_is_beginning M [d] s = .ret (.sh (.bl (begD d)), s) := by
  cases d
  case str l => exact isbeg_str l (by simpa [okE] using h)
  case obj => cases h
  case ty => cases h
  all_goals
    unfold w_is_beginning s_is_beginning
    walk_at "U"
    rfl
theorem isworth_any (d : D) (h : okE d = true) : w_is_worth M [d] s = .ret (.sh (.bl (wD d)), s) := by
  cases d
  case int i => exact worth_int i
  case obj => cases h
  case ty => cases h
  all_goals
    unfold w_is_worth s_is_worth w_is_whole s_is_whole
    walk_at "U"
    rfl
theorem isbox_any (d : D) (h : okB d = true) : w_is_box M [d] s = .ret (.sh (.bl (boxD d)), s) := by
  cases d
  case tup l =>
    simp only [okB, Bool.and_eq_true, decide_eq_true_eq] at h
    have hb : l.length ≤ big := by unfold big; omega
    have hlc : eLc (M := M) [1] (eItems anyOf (eVar M 0)) (gdName 1) eYes (eSeen (eCall 1 (w_is_beginning M) [] (eCons (eVar M 1) eNil))) [some (.tup l), none] s = .ret (.fr (.lst (l.map fun d => .bl (begD d))), s) := by
      refine elc_map l (fun d => d) _ (by walk_at "U"; simp only [anyOf, List.map_id']; try rfl) hb fun d hd => ⟨_, rfl, ?_⟩
      walk_at "U"
      simp only [isbeg_any d (List.all_eq_true.mp h.2 d hd)]
      walk_at "U"
    unfold w_is_box s_is_box
    walk_at "U"
    by_cases h1 : 1 ≤ l.length
    · have h1i : (1 : Int) ≤ ((l.length : Nat) : Int) := by omega
      by_cases h5 : l.length ≤ 5
      · have h5i : ((l.length : Nat) : Int) ≤ 5 := by omega
        simp only [h1i, h5i]
        walk_at "U"
        simp only [hlc]
        walk_at "U"
        simp [boxD, h1, h5]
      · have h5i : ¬ ((l.length : Nat) : Int) ≤ 5 := by omega
        simp only [h1i, h5i]
        walk_at "U"
        simp [boxD, h1, h5]
    · have h1i : ¬ (1 : Int) ≤ ((l.length : Nat) : Int) := by omega
      simp only [h1i]
      walk_at "U"
      simp [boxD, h1]
  case obj => cases h
  case ty => cases h
  all_goals
    unfold w_is_box s_is_box
    walk_at "U"
    rfl
theorem ispoint_any (d : D) (h : okB d = true) : w_is_point M [d] s = .ret (.sh (.bl (pointD d)), s) := by
  cases d
  case tup l =>
    simp only [okB, Bool.and_eq_true, decide_eq_true_eq] at h
    have hb : l.length ≤ big := by unfold big; omega
    have hlc : eLc (M := M) [1] (eItems anyOf (eVar M 0)) (gdName 1) eYes (eSeen (eCall 1 (w_is_worth M) [] (eCons (eVar M 1) eNil))) [some (.tup l), none] s = .ret (.fr (.lst (l.map fun d => .bl (wD d))), s) := by
      refine elc_map l (fun d => d) _ (by walk_at "U"; simp only [anyOf, List.map_id']; try rfl) hb fun d hd => ⟨_, rfl, ?_⟩
      walk_at "U"
      simp only [isworth_any d (List.all_eq_true.mp h.2 d hd)]
      walk_at "U"
    unfold w_is_point s_is_point
    walk_at "U"
    by_cases h1 : 1 ≤ l.length
    · have h1i : (1 : Int) ≤ ((l.length : Nat) : Int) := by omega
      by_cases h5 : l.length ≤ 5
      · have h5i : ((l.length : Nat) : Int) ≤ 5 := by omega
        simp only [h1i, h5i]
        walk_at "U"
        simp only [hlc]
        walk_at "U"
        simp [pointD, h1, h5]
      · have h5i : ¬ ((l.length : Nat) : Int) ≤ 5 := by omega
        simp only [h1i, h5i]
        walk_at "U"
        simp [pointD, h1, h5]
    · have h1i : ¬ (1 : Int) ≤ ((l.length : Nat) : Int) := by omega
      simp only [h1i]
      walk_at "U"
      simp [pointD, h1]
  case obj => cases h
  case ty => cases h
  all_goals
    unfold w_is_point s_is_point
    walk_at "U"
    rfl
/-! the things told -/
abbrev boxS (b : List (List Nat)) : D := .tup (b.map .str)
abbrev ptS (p : List Int) : D := .tup (p.map .int)
def goodB (b : List (List Nat)) : Bool := decide (1 ≤ b.length) && (decide (b.length ≤ 5) && b.all beg)
def goodP (p : List Int) : Bool := decide (1 ≤ p.length) && (decide (p.length ≤ 5) && p.all wB)
theorem boxD_S {b : List (List Nat)} (h : goodB b = true) : boxD (boxS b) = true := by
  simpa [boxD, goodB, begD, List.all_map, Function.comp_def] using h
theorem pointD_S {p : List Int} (h : goodP p = true) : pointD (ptS p) = true := by
  simpa [pointD, goodP, wD, List.all_map, Function.comp_def] using h
theorem okB_B {b : List (List Nat)} (h : goodB b = true) : okB (boxS b) = true := by
  simp only [goodB, Bool.and_eq_true, decide_eq_true_eq] at h
  simp only [okB, Bool.and_eq_true, decide_eq_true_eq, List.length_map, List.all_map]
  refine ⟨by omega, List.all_eq_true.mpr fun l hl => ?_⟩
  have := beg_len (List.all_eq_true.mp h.2.2 l hl)
  simp [okE]; omega
theorem okB_P (p : List Int) (h : p.length ≤ 1000) : okB (ptS p) = true := by
  simp only [okB, Bool.and_eq_true, decide_eq_true_eq, List.length_map, List.all_map]
  exact ⟨h, List.all_eq_true.mpr fun l hl => rfl⟩
theorem pointBox_eq (p : List Int) (h : p.length ≤ 1000) : w_point_box M [ptS p] s = .ret (.sh (boxS (p.map b5)), s) := by
  unfold w_point_box s_point_box
  have hb : p.length ≤ big := by unfold big; omega
  walk_at "U"
  rw [elc_map p .int (fun i => .str (b5 i)) (s' := s) ?e ?l ?h]
  case e => walk_at "U"; rfl
  case l => exact hb
  case h =>
    intro i hi
    refine ⟨_, rfl, ?_⟩
    walk_at "U"
    simp only [figures_eq]
    walk_at "U"
  walk_at "U"
  simp only [tupleD]
  walk_at "U"
  simp [boxS]
theorem boxOf_ok {p : List Int} (h : goodP p = true) : w_box_of M [ptS p] s = .ret (.sh (boxS (p.map b5)), s) := by
  have hl : p.length ≤ 1000 := by
    simp only [goodP, Bool.and_eq_true, decide_eq_true_eq] at h
    omega
  unfold w_box_of s_box_of
  walk_at "U"
  simp only [ispoint_any _ (okB_P p hl), pointD_S h]
  walk_at "U"
  simp only [pointBox_eq p hl]
  walk_at "U"
theorem boxOf_bad (d : D) (h : okB d = true) (hp : pointD d = false) : w_box_of M [d] s = .exc (⟨"BadPoint", x_BadPoint.map (fD [])⟩, s) := by
  unfold w_box_of s_box_of
  walk_at "U"
  simp only [ispoint_any _ h, hp]
  walk_at "U"
theorem volume_bad (d : D) (h : okB d = true) (hp : boxD d = false) : w_volume M [d] s = .exc (⟨"BadBox", x_BadBox.map (fD [])⟩, s) := by
  unfold w_volume s_volume
  walk_at "U"
  simp only [isbox_any _ h, hp]
  walk_at "U"
theorem holds_bad1 (d e : D) (h : okB d = true) (hp : boxD d = false) : w_holds M [d, e] s = .exc (⟨"BadBox", x_BadBox.map (fD [])⟩, s) := by
  unfold w_holds s_holds
  walk_at "U"
  simp only [isbox_any _ h, hp]
  walk_at "U"
theorem holds_bad2 (d e : D) (h : okB d = true) (hp : boxD d = true) (h2 : okB e = true) (hq : pointD e = false) : w_holds M [d, e] s = .exc (⟨"BadPoint", x_BadPoint.map (fD [])⟩, s) := by
  unfold w_holds s_holds
  walk_at "U"
  simp only [isbox_any _ h, hp]
  walk_at "U"
  simp only [ispoint_any _ h2, hq]
  walk_at "U"
theorem holds_unlike {b : List (List Nat)} {p : List Int} (hb : goodB b = true) (hp : goodP p = true) (h : b.length ≠ p.length) : w_holds M [boxS b, ptS p] s = .exc (⟨"Unlike", x_Unlike.map (fD [])⟩, s) := by
  have hl : p.length ≤ 1000 := by
    simp only [goodP, Bool.and_eq_true, decide_eq_true_eq] at hp
    omega
  unfold w_holds s_holds
  walk_at "U"
  simp only [isbox_any _ (okB_B hb), boxD_S hb]
  walk_at "U"
  simp only [ispoint_any _ (okB_P p hl), pointD_S hp]
  walk_at "U"
  have hi : (((b.length : Nat) : Int) == ((p.length : Nat) : Int)) = false := by
    rw [beq_eq_false_iff_ne]; omega
  simp only [List.length_map, bne, hi]
  walk_at "U"
theorem zipT_strs : ∀ (a b : List (List Nat)), zipT (a.map .str) (b.map .str) = (a.zip b).map fun x => .tup [.str x.1, .str x.2]
  | [], _ => rfl
  | _ :: _, [] => rfl
  | x :: a, y :: b => by
    show D.tup [.str x, .str y] :: zipT (a.map .str) (b.map .str) = _
    rw [zipT_strs a b]; rfl
theorem zipS_strs {a b : List (List Nat)} (hl : a.length = b.length) : zipS (boxS a) (boxS b) = some ((a.zip b).map fun x => .tup [.str x.1, .str x.2]) := by
  simp [zipS, seqL, hl, zipT_strs]
theorem under_zip {a b : List (List Nat)} (hl : a.length = b.length) (h : a.length ≤ 1000) : w_under M [boxS a, boxS b] s = .ret (.sh (.bl ((a.zip b).all fun x => x.1.take x.2.length == x.2)), s) := by
  unfold w_under s_under
  have hb : (a.zip b).length ≤ big := by rw [List.length_zip]; unfold big; omega
  walk_at "U"
  rw [elc_map (a.zip b) (fun x => .tup [.str x.1, .str x.2]) (fun x => .bl (x.1.take x.2.length == x.2)) (s' := s) ?e ?l ?h]
  case e => walk_at "U"; rw [zipS_strs hl]
  case l => exact hb
  case h =>
    intro x hx
    refine ⟨_, rfl, ?_⟩
    walk_at "U"
  walk_at "U"
theorem lawStarts_eq (a b : List Nat) (h : a.length ≤ 1000) (h2 : b.length ≤ 1000) : w_law_starts M [.str a, .str b] s = .ret (.sh (.bl (a.take b.length == b)), s) := by
  unfold w_law_starts s_law_starts
  have hb : a.length ≤ big := by unfold big; omega
  have hb2 : b.length ≤ big := by unfold big; omega
  walk_at "U"
  simp only [hb, hb2]
  walk_at "U"
theorem lawInside_eq {a b : List (List Nat)} (h : a.length ≤ 1000) (ha : ∀ l ∈ a, l.length ≤ 1000) (hb2 : ∀ l ∈ b, l.length ≤ 1000) : w_law_inside M [boxS a, boxS b] s = .ret (.sh (.bl ((a.zip b).all fun x => x.1.take x.2.length == x.2)), s) := by
  unfold w_law_inside s_law_inside
  have hb : (a.zip b).length ≤ big := by rw [List.length_zip]; unfold big; omega
  walk_at "U"
  rw [elc_map (a.zip b) (fun x => .tup [.str x.1, .str x.2]) (fun x => .bl (x.1.take x.2.length == x.2)) (s' := s) ?e ?l ?h]
  case e =>
    walk_at "U"
    rw [show zipOf (boxS a) (boxS b) = some (zipT (a.map .str) (b.map .str)) from rfl, zipT_strs]
  case l => exact hb
  case h =>
    intro x hx
    refine ⟨_, rfl, ?_⟩
    walk_at "U"
    simp only [lawStarts_eq x.1 x.2 (ha _ (List.of_mem_zip hx).1) (hb2 _ (List.of_mem_zip hx).2)]
    walk_at "U"
  walk_at "U"
theorem lawBoxOf_eq (p : List Int) (h : p.length ≤ 1000) : w_law_box_of M [ptS p] s = .ret (.sh (boxS (p.map b5)), s) := by
  unfold w_law_box_of s_law_box_of
  have hb : p.length ≤ big := by unfold big; omega
  walk_at "U"
  rw [elc_map p .int (fun i => .str (b5 i)) (s' := s) ?e ?l ?h]
  case e => walk_at "U"; rfl
  case l => exact hb
  case h =>
    intro i hi
    refine ⟨_, rfl, ?_⟩
    walk_at "U"
    simp only [figs_eq]
    walk_at "U"
  walk_at "U"
  simp only [tupleD]
  walk_at "U"
  simp [boxS]
theorem whole_eq (n : Nat) (h : n ≤ 1000) : w_whole M [.int n] s = .ret (.sh (.tup (List.replicate n [D.str []]).flatten), s) := by
  unfold w_whole s_whole
  have hm := mul_tk (l := [.str []]) (k := (n : Nat)) (by omega) (by omega) (by decide)
  walk_at "U"
  simp only [hm]
  walk_at "U"
  rw [Int.toNat_natCast]
/-! volumes -/
theorem U02_len {l : List Nat} (h : beg l = true) : (U02 l).length = 2 ^ (5 - l.length) := by
  have : ∀ l ∈ begsN 5, (U02 l).length = 2 ^ (5 - l.length) := by decide +kernel
  exact this l (beg_mem h)
def vol (b : List (List Nat)) : Nat := (b.map fun l => 5 - l.length).sum
theorem vol_fold (b : List (List Nat)) (h : b.all beg = true) : ∀ t : Nat, b.foldl (fun t l => t * (U02 l).length) t = t * 2 ^ vol b := by
  induction b with
  | nil => intro t; simp [vol]
  | cons l b ih =>
    intro t
    simp only [List.all_cons, Bool.and_eq_true] at h
    rw [List.foldl_cons, ih h.2, U02_len h.1, Nat.mul_assoc, ← Nat.pow_add]
    simp [vol]
theorem vol_le (b : List (List Nat)) : vol b ≤ 5 * b.length := by
  induction b with
  | nil => simp [vol]
  | cons l b ih =>
    simp only [vol, List.map_cons, List.sum_cons, List.length_cons] at ih ⊢
    omega
theorem lawVolume_eq {b : List (List Nat)} (h : goodB b = true) : w_law_volume M [boxS b] s = .ret (.sh (.int ((2 ^ vol b : Nat) : Int)), s) := by
  simp only [goodB, Bool.and_eq_true, decide_eq_true_eq] at h
  obtain ⟨h1, h5, hb⟩ := h
  unfold w_law_volume s_law_volume
  walk_at "U"
  rw [for_pre b .str (fun t : Nat × Option VV => [some (.sh (boxS b)), some (.sh (.int (t.1 : Nat))), t.2]) (fun t l => (t.1 * (U02 l).length, some (.sh (.str l)))) (1, none) (s' := s) ?e ?r ?h]
  case e => walk_at "U"; rfl
  case r => rfl
  case h =>
    intro pre l post hl
    refine ⟨_, rfl, ?_⟩
    have hpre : pre.all beg = true := List.all_eq_true.mpr fun c hc => List.all_eq_true.mp hb c (by rw [hl]; simp [hc])
    have hlb : beg l = true := List.all_eq_true.mp hb l (by rw [hl]; simp)
    have hlen : pre.length ≤ 4 := by
      have := congrArg List.length hl
      simp at this; omega
    have h1 := foldl_fst (fun (t : Nat) (l : List Nat) => t * (U02 l).length) (fun l => some (VV.sh (.str l))) pre (1, none)
    generalize hf : List.foldl _ _ pre = t at h1 ⊢
    obtain ⟨t1, t2⟩ := t
    have h1 : t1 = 2 ^ vol pre := by
      rw [show t1 = _ from h1, vol_fold pre hpre, Nat.one_mul]
    have hv := vol_le pre
    have ht : t1 ≤ 2 ^ 20 := by rw [h1]; exact Nat.pow_le_pow_right (by decide) (by omega)
    have hU : (U02 l).length ≤ 32 := by
      have := List.length_filter_le (fun n : Nat => List.take l.length (b5 (n : Nat)) == l) (List.range 32)
      rw [List.length_range] at this
      exact this
    have hu := fun s : M.S => under_eq (M := M) (s := s) l (by have := beg_len hlb; omega)
    have hm := mul_ok (i := (t1 : Nat)) (j := ((U02 l).length : Nat)) (small_of (by omega) (by omega)) (small_of (by omega) (by omega))
    walk_at "U"
    simp only [hu]
    walk_at "U"
    rw [List.length_map, show ((List.range 32).filter fun n : Nat => List.take l.length (b5 (n : Nat)) == l) = U02 l from rfl]
    simp only [hm]
    walk_at "U"
    simp
  have h1 := foldl_fst (fun (t : Nat) (l : List Nat) => t * (U02 l).length) (fun l => some (VV.sh (.str l))) b (1, none)
  generalize hf : List.foldl _ _ b = f at h1 ⊢
  obtain ⟨t1, t2⟩ := f
  walk_at "U"
  rw [show t1 = _ from h1, vol_fold b hb, Nat.one_mul]
theorem volume_ok {b : List (List Nat)} (h : goodB b = true) : w_volume M [boxS b] s = .ret (.sh (.int ((2 ^ vol b : Nat) : Int)), s) := by
  unfold w_volume s_volume
  have hB := okB_B h
  have hS := boxD_S h
  simp only [goodB, Bool.and_eq_true, decide_eq_true_eq] at h
  obtain ⟨h1, h5, hb⟩ := h
  walk_at "U"
  simp only [isbox_any _ hB, hS]
  walk_at "U"
  rw [elc_map b .str (fun l => .int (5 - (l.length : Nat))) (s' := s) ?e ?l ?h]
  case e => walk_at "U"; rfl
  case l => unfold big; omega
  case h =>
    intro i hi
    have hb5 : i.length ≤ big := by have := beg_len (List.all_eq_true.mp hb i hi); unfold big; omega
    refine ⟨_, rfl, ?_⟩
    walk_at "U"
    simp only [hb5]
    walk_at "U"
  have hsum : sumD [.lst (b.map fun l => D.int (5 - (l.length : Nat)))] = some (.sh (.int (vol b : Nat))) := by
    have aux : ∀ b : List (List Nat), (∀ l ∈ b, l.length ≤ 5) → intsD (b.map fun l => D.int (5 - (l.length : Nat))) = some (b.map fun l => (5 : Int) - (l.length : Nat)) ∧ (b.map fun l => (5 : Int) - (l.length : Nat)).sum = (vol b : Nat) := by
      intro b
      induction b with
      | nil => intro _; exact ⟨rfl, rfl⟩
      | cons l b ih =>
        intro h
        obtain ⟨a1, a2⟩ := ih fun l hl => h l (List.mem_cons_of_mem _ hl)
        have := h l (List.mem_cons_self ..)
        refine ⟨by simp [intsD, a1], ?_⟩
        simp only [List.map_cons, List.sum_cons, a2, vol]
        omega
    obtain ⟨a1, a2⟩ := aux b fun l hl => beg_len (List.all_eq_true.mp hb l hl)
    simp [sumD, a1, a2]
  walk_at "U"
  simp only [hsum]
  walk_at "U"
  have hv := vol_le b
  simp only [shl_ii (i := 1) (j := (vol b : Nat)) (by omega) (by omega) (small_of (by decide) (by decide))]
  walk_at "U"
  simp
theorem holds_ok {b : List (List Nat)} {p : List Int} (hb : goodB b = true) (hp : goodP p = true) (h : b.length = p.length) : w_holds M [boxS b, ptS p] s = .ret (.sh (.bl (((p.map b5).zip b).all fun x => x.1.take x.2.length == x.2)), s) := by
  have hl : p.length ≤ 1000 := by
    simp only [goodP, Bool.and_eq_true, decide_eq_true_eq] at hp
    omega
  unfold w_holds s_holds
  walk_at "U"
  simp only [isbox_any _ (okB_B hb), boxD_S hb]
  walk_at "U"
  simp only [ispoint_any _ (okB_P p hl), pointD_S hp]
  walk_at "U"
  have hi : (((b.length : Nat) : Int) == ((p.length : Nat) : Int)) = true := by
    rw [beq_iff_eq]; omega
  simp only [List.length_map, bne, hi]
  walk_at "U"
  simp only [pointBox_eq p hl]
  walk_at "U"
  simp only [under_zip (a := p.map b5) (b := b) (by simp [h]) (by simpa using hl)]
  walk_at "U"
/-! what the law draws -/
theorem box_spec (hp : PullOk pull) (n : Nat) (hn : n ≤ 1000) : Al (w_law_box M pull [.obj 0, .int n] s) (fun r => ∃ b : List (List Nat), b.length = n ∧ b.all beg = true ∧ r = (.sh (boxS b), s)) (fun _ => False) := by
  unfold w_law_box s_law_box
  walk_at "U"
  simp only [eLc]
  walk_at "U"
  simp only [rng1_eq (n := n) (by omega)]
  walk_at "U"
  refine Al.btox (lc_draw (D.str) (fun l => beg l = true) (by rw [List.length_map, List.length_range]; unfold big; omega) ?_) fun r hr => ?_
  · intro d2 hd2
    refine ⟨_, rfl, ?_⟩
    walk_at "U"
    refine Al.bto0 (begin_spec hp) fun r hr => ?_
    obtain ⟨l, hl, rfl⟩ := hr
    walk_at "U"
    exact .ret ⟨l, hl, rfl⟩
  obtain ⟨b, h1, h2, rfl⟩ := hr
  rw [List.length_map, List.length_range] at h1
  walk_at "U"
  simp only [tupleD]
  walk_at "U"
  exact .ret ⟨b, h1, List.all_eq_true.mpr h2, rfl⟩
theorem point_spec (hp : PullOk pull) (n : Nat) (hn : n ≤ 1000) : Al (w_law_point M pull [.obj 0, .int n] s) (fun r => ∃ p : List Int, p.length = n ∧ p.all wB = true ∧ r = (.sh (ptS p), s)) (fun _ => False) := by
  unfold w_law_point s_law_point
  walk_at "U"
  simp only [eLc]
  walk_at "U"
  simp only [rng1_eq (n := n) (by omega)]
  walk_at "U"
  refine Al.btox (lc_draw (D.int) (fun l => wB l = true) (by rw [List.length_map, List.length_range]; unfold big; omega) ?_) fun r hr => ?_
  · intro d2 hd2
    refine ⟨_, rfl, ?_⟩
    walk_at "U"
    refine Al.bto0 (worth_spec hp) fun r hr => ?_
    obtain ⟨m, hm, rfl⟩ := hr
    walk_at "U"
    exact .ret ⟨_, by simp [wB]; omega, rfl⟩
  obtain ⟨b, h1, h2, rfl⟩ := hr
  rw [List.length_map, List.length_range] at h1
  walk_at "U"
  simp only [tupleD]
  walk_at "U"
  exact .ret ⟨b, h1, List.all_eq_true.mpr h2, rfl⟩
def repD (d : D) (n : Nat) : List D := (List.replicate n [d]).flatten
def oddL (n : Nat) : List D := [.non, .int 5, .str [48, 49], .bl true, .tup [], .tup (repD (.str []) 6), .tup (repD (.int 0) 6), .lst (repD (.str []) n), .tup (repD (.str [50]) n), .tup (repD (.str [48, 48, 48, 48, 48, 48]) n),
  .tup (repD (.int 32) n), .tup (repD (.int (-1)) n), .tup (repD (.bl true) n), .tup (repD .non n), .tup [.str [], .int 7], .tup (repD (.lst []) n), .tup [.str [], .lst []], .tup [.lst [.int 0]], .tup [.int 0, .lst []]]
theorem odd_facts : ∀ n, n < 5 → ∀ d ∈ oddL (n + 1), okB d = true ∧ boxD d = false ∧ pointD d = false := by decide +kernel
theorem odd_thing_spec (hp : PullOk pull) (n : Nat) (hn : n ≤ 1000) : Al (w_law_odd_thing M pull [.obj 0, .int n] s) (fun r => ∃ d ∈ oddL n, r = (.sh d, s)) (fun _ => False) := by
  unfold w_law_odd_thing s_law_odd_thing
  have m6 : ∀ d : D, mulD (.tup [d]) (.int 6) = some (.sh (.tup (List.replicate (Int.toNat 6) [d]).flatten)) := fun d => mul_tk (by decide) (by decide) (by simp)
  have mn : ∀ d : D, mulD (.tup [d]) (.int (n : Nat)) = some (.sh (.tup (List.replicate (Int.toNat (n : Nat)) [d]).flatten)) := fun d => mul_tk (by omega) (by omega) (by simp)
  have ml : ∀ d : D, mulD (.lst [d]) (.int (n : Nat)) = some (.fr (.lst (List.replicate (Int.toNat (n : Nat)) [d]).flatten)) := fun d => mul_lk (by omega) (by omega) (by simp)
  walk_at "U"
  simp only [m6, mn, ml]
  walk_at "U"
  refine Al.btox (of_spec hp (by simp) (by simp)) fun r hr => ?_
  obtain ⟨d, hd, rfl⟩ := hr
  walk_at "U"
  exact .ret ⟨d, hd, rfl⟩
end
end VK

local macro_rules | `(tactic| walk_at "U") => `(tactic| simp -implicitDefEqProofs only [VQ.runD, VQ.startE, VQ.sSeq, VQ.sThen, VQ.sSet, VQ.sRet, VQ.sRetN, VQ.sRetO, VQ.sDrop, VQ.sIf, VQ.sNil, VQ.sBreak, VQ.sCont, VQ.sPar, VQ.sTgt, VQ.sAug, VQ.sAppend, VQ.sRaise, VQ.inF, VQ.eVar, VQ.eC, VQ.eSeen, VQ.eSh, VQ.eBin, VQ.eBinD, VQ.eUn, VQ.eTest, VQ.eNot, VQ.eAnd, VQ.eOr, VQ.eIf, VQ.eAndV, VQ.eOrV, VQ.eBl, VQ.eNil, VQ.eCons, VQ.eTup, VQ.eLst, VQ.eFun, VQ.eCall, VQ.eCallK, and_self, and_true, true_and, VQ.eNoPt, VQ.ePt, VQ.intOf, VQ.eSl, VQ.eChain, VQ.eCmpT, VQ.eM1, VQ.eSetS, VQ.eMaxD, VQ.eFst, VQ.eTried, VQ.eWipe, List.contains_cons, List.contains_nil, Nat.reduceBEq, VK.ite_andB, VK.ite_orB, VQ.startsD, VK.catch_ret, VK.catch_exc, VQ.eYes, VQ.eI1, VQ.eI2, VQ.eI3, VQ.eItems, VQ.view, VQ.viewG, VK.v1_sh, VK.v1_no, VK.v1_ow, VK.v1_on, VQ.frz, VQ.frzG, VK.f1_sh, VK.f1_no, VK.f1_on, VQ.behind, VQ.op, VQ.R.d, VQ.R.vv, VQ.G.bind_ret, VQ.G.bind_exc, VQ.G.exs_ret, VQ.G.exs_exc, VQ.G.bind_draw, VQ.G.exs_draw, VQ.G.noX_ret, VQ.G.exs_exs, VQ.G.exs_bind, VQ.G.bind_assoc, VQ.G.noX_bind, VQ.G.noX_draw, VQ.G.exs_bad, VQ.gtName, VQ.gdName, VQ.gtTup, VQ.gtCons, VQ.gtNil, VQ.gdTup, VQ.gdCons, VQ.gdNil, VQ.wipeD, List.foldl, List.map, List.length, List.replicate, List.cons_append, List.nil_append, List.append_nil, List.isEmpty_nil, Bool.true_or, if_true, ↓reduceIte, ite_self, List.getElem?_cons_zero, List.getElem?_cons_succ, List.set_cons_zero, List.set_cons_succ, Nat.zero_add, Nat.reduceAdd, Nat.reduceSub, Nat.reduceLT, Nat.reduceLeDiff, Nat.reduceEqDiff, VK.lb0, VK.lb1, VK.lb2, VK.lb3, VK.lb4, VK.lb5, VK.lb6, VK.lb7, VK.lb8, VK.lb9, VK.lb10, VK.lb11, VK.lb12, VK.lb13, VK.lb14, VK.lb15, VK.lb16, VK.lb17, VK.lb18, VK.lb19, VK.lb20, VK.lb21, VK.lb22, VK.lb23, VK.lb24, VK.lb25, VK.lb26, VK.lb27, VK.lb28, VK.lb29, VK.lb30, VQ.lenD, VK.add_ii, VK.add_ss, VK.add_tt, VK.add_ll, VK.sub_ii, Option.getD_some, Option.getD_none, VQ.negD, VK.frzG_e,  VK.all_map, VK.any_map, VQ.ixD, VQ.isT, VQ.isTs, VQ.truD, VQ.blD, VQ.isD, VQ.isnotD, VQ.isNon, Option.map_some, Option.map_none, Option.bind_some, Option.bind_none, Bool.not_true, Bool.not_false, VQ.slD, VK.cut_to, VK.cut_from, VK.cut_last, VK.q_ss, VK.q_ii, VK.q_bb, VK.n_ss, VK.n_ii, VK.n_bb, VQ.leD, VQ.ltD, VQ.gtD, VQ.geD, VQ.cmpI, decide_true, decide_false, beq_self_eq_true, VK.bq_tt, VK.bq_tf, VK.bq_ft, VK.bq_ff, Bool.or_true, Bool.or_false, Bool.false_or,  Bool.false_eq_true, Bool.and_true, Bool.true_and, Bool.and_false, Bool.false_and])
local macro_rules | `(tactic| walk_at "US") => `(tactic| simp -implicitDefEqProofs only [*, VQ.runD, VQ.startE, VQ.sSeq, VQ.sThen, VQ.sSet, VQ.sRet, VQ.sRetN, VQ.sRetO, VQ.sDrop, VQ.sIf, VQ.sNil, VQ.sBreak, VQ.sCont, VQ.sPar, VQ.sTgt, VQ.sAug, VQ.sAppend, VQ.sRaise, VQ.inF, VQ.eVar, VQ.eC, VQ.eSeen, VQ.eSh, VQ.eBin, VQ.eBinD, VQ.eUn, VQ.eTest, VQ.eNot, VQ.eAnd, VQ.eOr, VQ.eIf, VQ.eAndV, VQ.eOrV, VQ.eBl, VQ.eNil, VQ.eCons, VQ.eTup, VQ.eLst, VQ.eFun, VQ.eCall, VQ.eCallK, and_self, and_true, true_and, VQ.eNoPt, VQ.ePt, VQ.intOf, VQ.eSl, VQ.eChain, VQ.eCmpT, VQ.eM1, VQ.eSetS, VQ.eMaxD, VQ.eFst, VQ.eTried, VQ.eWipe, List.contains_cons, List.contains_nil, Nat.reduceBEq, VK.ite_andB, VK.ite_orB, VQ.startsD, VK.catch_ret, VK.catch_exc, VQ.eYes, VQ.eI1, VQ.eI2, VQ.eI3, VQ.eItems, VQ.view, VQ.viewG, VK.v1_sh, VK.v1_no, VK.v1_ow, VK.v1_on, VQ.frz, VQ.frzG, VK.f1_sh, VK.f1_no, VK.f1_on, VQ.behind, VQ.op, VQ.R.d, VQ.R.vv, VQ.G.bind_ret, VQ.G.bind_exc, VQ.G.exs_ret, VQ.G.exs_exc, VQ.G.bind_draw, VQ.G.exs_draw, VQ.G.noX_ret, VQ.G.exs_exs, VQ.G.exs_bind, VQ.G.bind_assoc, VQ.G.noX_bind, VQ.G.noX_draw, VQ.G.exs_bad, VQ.gtName, VQ.gdName, VQ.gtTup, VQ.gtCons, VQ.gtNil, VQ.gdTup, VQ.gdCons, VQ.gdNil, VQ.wipeD, List.foldl, List.map, List.length, List.replicate, List.cons_append, List.nil_append, List.append_nil, List.isEmpty_nil, Bool.true_or, if_true, ↓reduceIte, ite_self, List.getElem?_cons_zero, List.getElem?_cons_succ, List.set_cons_zero, List.set_cons_succ, Nat.zero_add, Nat.reduceAdd, Nat.reduceSub, Nat.reduceLT, Nat.reduceLeDiff, Nat.reduceEqDiff, VK.lb0, VK.lb1, VK.lb2, VK.lb3, VK.lb4, VK.lb5, VK.lb6, VK.lb7, VK.lb8, VK.lb9, VK.lb10, VK.lb11, VK.lb12, VK.lb13, VK.lb14, VK.lb15, VK.lb16, VK.lb17, VK.lb18, VK.lb19, VK.lb20, VK.lb21, VK.lb22, VK.lb23, VK.lb24, VK.lb25, VK.lb26, VK.lb27, VK.lb28, VK.lb29, VK.lb30, VQ.lenD, VK.add_ii, VK.add_ss, VK.add_tt, VK.add_ll, VK.sub_ii, Option.getD_some, Option.getD_none, VQ.negD, VK.frzG_e,  VK.all_map, VK.any_map, VQ.ixD, VQ.isT, VQ.isTs, VQ.truD, VQ.blD, VQ.isD, VQ.isnotD, VQ.isNon, Option.map_some, Option.map_none, Option.bind_some, Option.bind_none, Bool.not_true, Bool.not_false, VQ.slD, VK.cut_to, VK.cut_from, VK.cut_last, VK.q_ss, VK.q_ii, VK.q_bb, VK.n_ss, VK.n_ii, VK.n_bb, VQ.leD, VQ.ltD, VQ.gtD, VQ.geD, VQ.cmpI, decide_true, decide_false, beq_self_eq_true, VK.bq_tt, VK.bq_tf, VK.bq_ft, VK.bq_ff, Bool.or_true, Bool.or_false, Bool.false_or,  Bool.false_eq_true, Bool.and_true, Bool.true_and, Bool.and_false, Bool.false_and])
local macro_rules | `(tactic| walk_at "E") => `(tactic| simp -implicitDefEqProofs only [VQ.runD, VQ.startE, VQ.sSet, VQ.sRet, VQ.sRetN, VQ.sRetO, VQ.sDrop, VQ.sIf, VQ.sNil, VQ.sBreak, VQ.sCont, VQ.sPar, VQ.sTgt, VQ.sAug, VQ.sAppend, VQ.sRaise, VQ.inF, VQ.eVar, VQ.eC, VQ.eSeen, VQ.eSh, VQ.eBin, VQ.eBinD, VQ.eUn, VQ.eTest, VQ.eNot, VQ.eAnd, VQ.eOr, VQ.eIf, VQ.eAndV, VQ.eOrV, VQ.eBl, VQ.eNil, VQ.eCons, VQ.eTup, VQ.eLst, VQ.eFun, VQ.eCall, VQ.eCallK, and_self, and_true, true_and, VQ.eNoPt, VQ.ePt, VQ.intOf, VQ.eSl, VQ.eChain, VQ.eCmpT, VQ.eM1, VQ.eSetS, VQ.eMaxD, VQ.eFst, VQ.eTried, VQ.eWipe, List.contains_cons, List.contains_nil, Nat.reduceBEq, VK.ite_andB, VK.ite_orB, VQ.startsD, VK.catch_ret, VK.catch_exc, VQ.eYes, VQ.eI1, VQ.eI2, VQ.eI3, VQ.eItems, VQ.view, VQ.viewG, VK.v1_sh, VK.v1_no, VK.v1_ow, VK.v1_on, VQ.frz, VQ.frzG, VK.f1_sh, VK.f1_no, VK.f1_on, VQ.behind, VQ.op, VQ.R.d, VQ.R.vv, VQ.G.bind_ret, VQ.G.bind_exc, VQ.G.exs_ret, VQ.G.exs_exc, VQ.G.bind_draw, VQ.G.exs_draw, VQ.G.noX_ret, VQ.G.exs_exs, VQ.G.exs_bind, VQ.G.bind_assoc, VQ.G.noX_bind, VQ.G.noX_draw, VQ.G.exs_bad, VQ.gtName, VQ.gdName, VQ.gtTup, VQ.gtCons, VQ.gtNil, VQ.gdTup, VQ.gdCons, VQ.gdNil, VQ.wipeD, List.foldl, List.map, List.length, List.replicate, List.cons_append, List.nil_append, List.append_nil, List.isEmpty_nil, Bool.true_or, if_true, ↓reduceIte, ite_self, List.getElem?_cons_zero, List.getElem?_cons_succ, List.set_cons_zero, List.set_cons_succ, Nat.zero_add, Nat.reduceAdd, Nat.reduceSub, Nat.reduceLT, Nat.reduceLeDiff, Nat.reduceEqDiff, VK.lb0, VK.lb1, VK.lb2, VK.lb3, VK.lb4, VK.lb5, VK.lb6, VK.lb7, VK.lb8, VK.lb9, VK.lb10, VK.lb11, VK.lb12, VK.lb13, VK.lb14, VK.lb15, VK.lb16, VK.lb17, VK.lb18, VK.lb19, VK.lb20, VK.lb21, VK.lb22, VK.lb23, VK.lb24, VK.lb25, VK.lb26, VK.lb27, VK.lb28, VK.lb29, VK.lb30, VQ.lenD, VK.add_ii, VK.add_ss, VK.add_tt, VK.add_ll, VK.sub_ii, Option.getD_some, Option.getD_none, VQ.negD, VK.frzG_e,  VK.all_map, VK.any_map, VQ.ixD, VQ.isT, VQ.isTs, VQ.truD, VQ.blD, VQ.isD, VQ.isnotD, VQ.isNon, Option.map_some, Option.map_none, Option.bind_some, Option.bind_none, Bool.not_true, Bool.not_false, VQ.slD, VK.cut_to, VK.cut_from, VK.cut_last, VK.q_ss, VK.q_ii, VK.q_bb, VK.n_ss, VK.n_ii, VK.n_bb, VQ.leD, VQ.ltD, VQ.gtD, VQ.geD, VQ.cmpI, decide_true, decide_false, beq_self_eq_true, VK.bq_tt, VK.bq_tf, VK.bq_ft, VK.bq_ff, Bool.or_true, Bool.or_false, Bool.false_or,  Bool.false_eq_true, Bool.and_true, Bool.true_and, Bool.and_false, Bool.false_and])
local macro_rules | `(tactic| walk_at "A") => `(tactic| simp -implicitDefEqProofs only [Int.reduceBEq, Int.reduceLT, Int.reduceLE, Int.reduceNeg, Nat.reduceBEq, List.contains_cons, List.contains_nil, VK.al_ret_eq, VK.al_exc_eq, VK.al_seq_eq, VK.al_then_nx, VK.al_then_bk, VK.al_then_ct, VK.al_then_rt, VK.retP_nx, VK.retP_rt, VK.al_run_eq, VK.al_nil_eq, VK.al_ite, VQ.startE, VQ.sSet, VQ.sRet, VQ.sRetN, VQ.sRetO, VQ.sDrop, VQ.sIf, VQ.sNil, VQ.sBreak, VQ.sCont, VQ.sPar, VQ.sTgt, VQ.sAug, VQ.sAppend, VQ.sRaise, VQ.inF, VQ.eVar, VQ.eC, VQ.eSeen, VQ.eSh, VQ.eBin, VQ.eBinD, VQ.eUn, VQ.eTest, VQ.eNot, VQ.eAnd, VQ.eOr, VQ.eIf, VQ.eAndV, VQ.eOrV, VQ.eBl, VQ.eNil, VQ.eCons, VQ.eTup, VQ.eLst, VQ.eFun, VQ.eCall, VQ.eCallK, and_self, and_true, true_and, VQ.eNoPt, VQ.ePt, VQ.intOf, VQ.eSl, VQ.eChain, VQ.eCmpT, VQ.eM1, VQ.eSetS, VQ.eMaxD, VQ.eFst, VQ.eTried, VQ.eWipe, VK.ite_andB, VK.ite_orB, VQ.startsD, VK.catch_ret, VK.catch_exc, VQ.eYes, VQ.eI1, VQ.eI2, VQ.eI3, VQ.eItems, VQ.view, VQ.viewG, VK.v1_sh, VK.v1_no, VK.v1_ow, VK.v1_on, VQ.frz, VQ.frzG, VK.f1_sh, VK.f1_no, VK.f1_on, VQ.behind, VQ.op, VQ.R.d, VQ.R.vv, VQ.G.bind_ret, VQ.G.bind_exc, VQ.G.exs_ret, VQ.G.exs_exc, VQ.G.bind_draw, VQ.G.exs_draw, VQ.G.noX_ret, VQ.G.exs_exs, VQ.G.exs_bind, VQ.G.bind_assoc, VQ.G.noX_bind, VQ.G.noX_draw, VQ.G.exs_bad, VQ.gtName, VQ.gdName, VQ.gtTup, VQ.gtCons, VQ.gtNil, VQ.gdTup, VQ.gdCons, VQ.gdNil, VQ.wipeD, List.foldl, List.map, List.length, List.replicate, List.cons_append, List.nil_append, List.append_nil, List.isEmpty_nil, Bool.true_or, if_true, ↓reduceIte, ite_self, List.getElem?_cons_zero, List.getElem?_cons_succ, List.set_cons_zero, List.set_cons_succ, Nat.zero_add, Nat.reduceAdd, Nat.reduceSub, Nat.reduceLT, Nat.reduceLeDiff, Nat.reduceEqDiff, VK.lb0, VK.lb1, VK.lb2, VK.lb3, VK.lb4, VK.lb5, VK.lb6, VK.lb7, VK.lb8, VK.lb9, VK.lb10, VK.lb11, VK.lb12, VK.lb13, VK.lb14, VK.lb15, VK.lb16, VK.lb17, VK.lb18, VK.lb19, VK.lb20, VK.lb21, VK.lb22, VK.lb23, VK.lb24, VK.lb25, VK.lb26, VK.lb27, VK.lb28, VK.lb29, VK.lb30, VQ.lenD, VK.add_ii, VK.add_ss, VK.add_tt, VK.add_ll, VK.sub_ii, Option.getD_some, Option.getD_none, VQ.negD, VK.frzG_e,  VK.all_map, VK.any_map, VQ.ixD, VQ.isT, VQ.isTs, VQ.truD, VQ.blD, VQ.isD, VQ.isnotD, VQ.isNon, Option.map_some, Option.map_none, Option.bind_some, Option.bind_none, Bool.not_true, Bool.not_false, VQ.slD, VK.cut_to, VK.cut_from, VK.cut_last, VK.q_ss, VK.q_ii, VK.q_bb, VK.n_ss, VK.n_ii, VK.n_bb, VQ.leD, VQ.ltD, VQ.gtD, VQ.geD, VQ.cmpI, decide_true, decide_false, beq_self_eq_true, VK.bq_tt, VK.bq_tf, VK.bq_ft, VK.bq_ff, Bool.or_true, Bool.or_false, Bool.false_or,  Bool.false_eq_true, Bool.and_true, Bool.true_and, Bool.and_false, Bool.false_and])
local macro_rules | `(tactic| walk_at "B") => `(tactic| simp -implicitDefEqProofs only [Int.reduceBEq, Int.reduceLT, Int.reduceLE, Int.reduceNeg, Nat.reduceBEq, List.contains_cons, List.contains_nil, VK.al_ret_eq, VK.al_exc_eq, VK.al_seq_eq, VK.al_then_nx, VK.al_then_bk, VK.al_then_ct, VK.al_then_rt, VK.retP_nx, VK.retP_rt, VK.al_run_eq, VK.al_nil_eq, VK.al_ite, VQ.startE, VQ.sSet, VQ.sRet, VQ.sRetN, VQ.sRetO, VQ.sDrop, VQ.sNil, VQ.sBreak, VQ.sCont, VQ.sPar, VQ.sTgt, VQ.sAug, VQ.sAppend, VQ.sRaise, VQ.inF, VQ.eVar, VQ.eC, VQ.eSeen, VQ.eSh, VQ.eBin, VQ.eBinD, VQ.eUn, VQ.eTest, VQ.eNot, VQ.eAnd, VQ.eOr, VQ.eIf, VQ.eAndV, VQ.eOrV, VQ.eBl, VQ.eNil, VQ.eCons, VQ.eTup, VQ.eLst, VQ.eFun, VQ.eCall, VQ.eCallK, and_self, and_true, true_and, VQ.eNoPt, VQ.ePt, VQ.intOf, VQ.eSl, VQ.eChain, VQ.eCmpT, VQ.eM1, VQ.eSetS, VQ.eMaxD, VQ.eFst, VQ.eTried, VQ.eWipe, VK.ite_andB, VK.ite_orB, VQ.startsD, VK.catch_ret, VK.catch_exc, VQ.eYes, VQ.eI1, VQ.eI2, VQ.eI3, VQ.eItems, VQ.view, VQ.viewG, VK.v1_sh, VK.v1_no, VK.v1_ow, VK.v1_on, VQ.frz, VQ.frzG, VK.f1_sh, VK.f1_no, VK.f1_on, VQ.behind, VQ.op, VQ.R.d, VQ.R.vv, VQ.G.bind_ret, VQ.G.bind_exc, VQ.G.exs_ret, VQ.G.exs_exc, VQ.G.bind_draw, VQ.G.exs_draw, VQ.G.noX_ret, VQ.G.exs_exs, VQ.G.exs_bind, VQ.G.bind_assoc, VQ.G.noX_bind, VQ.G.noX_draw, VQ.G.exs_bad, VQ.gtName, VQ.gdName, VQ.gtTup, VQ.gtCons, VQ.gtNil, VQ.gdTup, VQ.gdCons, VQ.gdNil, VQ.wipeD, List.foldl, List.map, List.length, List.replicate, List.cons_append, List.nil_append, List.append_nil, List.isEmpty_nil, Bool.true_or, if_true, ↓reduceIte, ite_self, List.getElem?_cons_zero, List.getElem?_cons_succ, List.set_cons_zero, List.set_cons_succ, Nat.zero_add, Nat.reduceAdd, Nat.reduceSub, Nat.reduceLT, Nat.reduceLeDiff, Nat.reduceEqDiff, VK.lb0, VK.lb1, VK.lb2, VK.lb3, VK.lb4, VK.lb5, VK.lb6, VK.lb7, VK.lb8, VK.lb9, VK.lb10, VK.lb11, VK.lb12, VK.lb13, VK.lb14, VK.lb15, VK.lb16, VK.lb17, VK.lb18, VK.lb19, VK.lb20, VK.lb21, VK.lb22, VK.lb23, VK.lb24, VK.lb25, VK.lb26, VK.lb27, VK.lb28, VK.lb29, VK.lb30, VQ.lenD, VK.add_ii, VK.add_ss, VK.add_tt, VK.add_ll, VK.sub_ii, Option.getD_some, Option.getD_none, VQ.negD, VK.frzG_e,  VK.all_map, VK.any_map, VQ.ixD, VQ.isT, VQ.isTs, VQ.truD, VQ.blD, VQ.isD, VQ.isnotD, VQ.isNon, Option.map_some, Option.map_none, Option.bind_some, Option.bind_none, Bool.not_true, Bool.not_false, VQ.slD, VK.cut_to, VK.cut_from, VK.cut_last, VK.q_ss, VK.q_ii, VK.q_bb, VK.n_ss, VK.n_ii, VK.n_bb, VQ.leD, VQ.ltD, VQ.gtD, VQ.geD, VQ.cmpI, decide_true, decide_false, beq_self_eq_true, VK.bq_tt, VK.bq_tf, VK.bq_ft, VK.bq_ff, Bool.or_true, Bool.or_false, Bool.false_or,  Bool.false_eq_true, Bool.and_true, Bool.true_and, Bool.and_false, Bool.false_and])
namespace VK
open PySem PySem.Spec PyProof.Rows L2 VQ
section
/-- the length of the common beginning -/
def cp : List Int → List Int → Nat
  | x :: a, y :: b => if x = y then cp a b + 1 else 0
  | _, _ => 0
theorem cp_le : ∀ a b : List Int, cp a b ≤ a.length ∧ cp a b ≤ b.length
  | [], b => by simp [cp]
  | x :: a, [] => by simp [cp]
  | x :: a, y :: b => by
    have := cp_le a b
    unfold cp
    split <;> simp <;> omega
theorem cp_take : ∀ (a b : List Int) (k : Nat), k ≤ a.length → k ≤ b.length → (a.take k = b.take k ↔ k ≤ cp a b)
  | a, b, 0, _, _ => by simp
  | [], b, k + 1, h, _ => by simp at h
  | x :: a, [], k + 1, _, h => by simp at h
  | x :: a, y :: b, k + 1, h1, h2 => by
    have ih := cp_take a b k (by simpa using h1) (by simpa using h2)
    unfold cp
    rw [List.take_succ_cons, List.take_succ_cons, List.cons.injEq, ih]
    split
    · rename_i e; simp [e]
    · rename_i e; simp [e]
theorem cp_self : ∀ a : List Int, cp a a = a.length
  | [] => rfl
  | x :: a => by simp [cp, cp_self a]
theorem cp_full {a b : List Int} (h : a.length = b.length) (e : cp a b = b.length) : a = b := by
  have := (cp_take a b b.length (by omega) (Nat.le_refl _)).mpr (by omega)
  rw [List.take_length, List.take_of_length_le (by omega)] at this
  exact this
/-- the longest beginning that a row shares -/
def firstG (rs : List (List Int)) (p : List Int) : Nat := rs.foldl (fun m r => max m (cp r p)) 0
theorem fold_max {α : Type} (f : α → Nat) : ∀ (l : List α) (m : Nat), l.foldl (fun m r => max m (f r)) m = max m (l.foldl (fun m r => max m (f r)) 0)
  | [], m => by simp
  | x :: l, m => by
    rw [List.foldl_cons, List.foldl_cons, fold_max f l (max m (f x)), fold_max f l (max 0 (f x))]
    omega
theorem firstG_cons (r : List Int) (rs : List (List Int)) (p : List Int) : firstG (r :: rs) p = max (cp r p) (firstG rs p) := by
  unfold firstG
  rw [List.foldl_cons, fold_max]
  omega
theorem firstG_ge {rs : List (List Int)} {p r : List Int} (h : r ∈ rs) : cp r p ≤ firstG rs p := by
  induction rs with
  | nil => cases h
  | cons x rs ih =>
    rw [firstG_cons]
    rcases List.mem_cons.mp h with e | e
    · rw [e]; omega
    · have := ih e; omega
theorem firstG_at {rs : List (List Int)} {p : List Int} (h : rs ≠ []) : ∃ r ∈ rs, cp r p = firstG rs p := by
  induction rs with
  | nil => exact absurd rfl h
  | cons x rs ih =>
    rw [firstG_cons]
    by_cases hr : rs = []
    · subst hr
      exact ⟨x, by simp, by simp [firstG]⟩
    · obtain ⟨r, h1, h2⟩ := ih hr
      by_cases hx : firstG rs p ≤ cp x p
      · exact ⟨x, by simp, by omega⟩
      · exact ⟨r, by simp [h1], by omega⟩
theorem firstG_le (rs : List (List Int)) (p : List Int) : firstG rs p ≤ p.length := by
  by_cases h : rs = []
  · subst h; simp [firstG]
  · obtain ⟨r, _, e⟩ := firstG_at (p := p) h
    rw [← e]
    exact (cp_le r p).2
/-- the worths that hang there -/
def hangG (rs : List (List Int)) (p : List Int) (f : Nat) : List Int := (rs.filter fun r => r.take f == p.take f).map fun r => r.getD f 0
/-- the gap -/
def gapG (rs : List (List Int)) (p : List Int) : D :=
  if firstG rs p = p.length then .non
  else .tup ((p.take (firstG rs p)).map (fun i => .str (b5 i)) ++ [optB (p.getD (firstG rs p) 0) (shortN (p.getD (firstG rs p) 0) (hangG rs p (firstG rs p)))] ++ List.replicate (p.length - firstG rs p - 1) (.str []))
theorem hit_mem {w : Int} {l m : List Int} (h : ∀ x, x ∈ l ↔ x ∈ m) (k : Nat) : hit w l k = hit w m k := by
  unfold hit
  rw [Bool.eq_iff_iff, List.any_eq_true, List.any_eq_true]
  exact ⟨fun ⟨x, a, b⟩ => ⟨x, (h x).mp a, b⟩, fun ⟨x, a, b⟩ => ⟨x, (h x).mpr a, b⟩⟩
theorem short_mem {w : Int} {l m : List Int} (h : ∀ x, x ∈ l ↔ x ∈ m) : shortN w l = shortN w m := by
  unfold shortN
  congr 1
  funext k
  rw [hit_mem h]
theorem firstG_perm {rs qs : List (List Int)} (h : rs.Perm qs) (p : List Int) : firstG rs p = firstG qs p := by
  induction h with
  | nil => rfl
  | cons x _ ih => rw [firstG_cons, firstG_cons, ih]
  | swap x y l => rw [firstG_cons, firstG_cons, firstG_cons, firstG_cons]; omega
  | trans _ _ i1 i2 => exact i1.trans i2
theorem gapG_perm {rs qs : List (List Int)} (h : rs.Perm qs) (p : List Int) : gapG rs p = gapG qs p := by
  unfold gapG
  rw [firstG_perm h p, short_mem (l := hangG rs p (firstG qs p)) (m := hangG qs p (firstG qs p)) fun x => ((h.filter _).map _).mem_iff]
end
section
variable {K : PySem.W.Frag} {M : WM K} {s : M.S}
theorem eqDs_ints : ∀ a b : List Int, eqDs (a.map .int) (b.map .int) = (a == b)
  | [], [] => rfl
  | [], _ :: _ => rfl
  | _ :: _, [] => rfl
  | x :: a, y :: b => by
    show (x == y && eqDs (a.map .int) (b.map .int)) = (x == y && a == b)
    rw [eqDs_ints a b]
theorem plL_int (n : Nat) (l : List Int) : plL n (l.map .int) = true := plL_ints (fun i => i) n l
theorem eqO_pt (a b : List Int) : eqO (ptS a) (ptS b) = some (a == b) := by
  have h : (pl 40 (ptS a) && pl 40 (ptS b)) = true := by
    show (plL 39 _ && plL 39 _) = true
    rw [plL_int, plL_int]; rfl
  unfold eqO
  rw [h, Bool.or_true, if_pos rfl]
  exact congrArg some (eqDs_ints a b)
theorem eqO_li (a b : List Int) : eqO (.lst (a.map .int)) (.lst (b.map .int)) = some (a == b) := by
  have h : (pl 40 (.lst (a.map .int)) && pl 40 (.lst (b.map .int))) = true := by
    show (plL 39 _ && plL 39 _) = true
    rw [plL_int, plL_int]; rfl
  unfold eqO
  rw [h, Bool.or_true, if_pos rfl]
  exact congrArg some (eqDs_ints a b)
theorem enG_map {α : Type} (f : α → D) : ∀ (l : List α) (j : Nat), enG j (l.map f) = (l.zipIdx j).map fun x => .tup [.int (x.2 : Nat), f x.1]
  | [], _ => rfl
  | x :: l, j => by
    rw [List.map_cons, List.zipIdx_cons, List.map_cons]
    show _ :: enG (j + 1) (l.map f) = _
    rw [enG_map f l (j + 1)]
theorem zipT_ints : ∀ a b : List Int, zipT (a.map .int) (b.map .int) = (a.zip b).map fun x => D.tup [.int x.1, .int x.2]
  | [], _ => by cases ‹List Int› <;> rfl
  | _ :: _, [] => rfl
  | x :: a, y :: b => by
    rw [List.zip_cons_cons, List.map_cons, List.map_cons, List.map_cons]
    show _ :: zipT (a.map .int) (b.map .int) = _
    rw [zipT_ints a b]
theorem cp_loop {ρ : Nv} {h0 h1 : Option VV} (body : Sv M) (hb : ∀ (i : Nat) (x y : Int), body [h0, h1, some (.sh (.int (i : Nat))), some (.sh (.int x)), some (.sh (.int y))] s = if x = y then .ret (.nx [h0, h1, some (.sh (.int (i : Nat))), some (.sh (.int x)), some (.sh (.int y))], s) else .ret (.rt (.sh (.int (i : Nat))), s)) :
    ∀ (a b : List Int) (j : Nat) (z2 z3 z4 : Option VV), a.length = b.length → ∃ y2 y3 y4, loopG (gtTup 2 (gtCons (gtName 2) (gtCons (gtTup 2 (gtCons (gtName 3) (gtCons (gtName 4) gtNil))) gtNil))) body (((a.zip b).zipIdx j).map fun x => .tup [.int (x.2 : Nat), .tup [.int x.1.1, .int x.1.2]]) [h0, h1, z2, z3, z4] s =
      if cp a b = a.length then .ret (.nx [h0, h1, y2, y3, y4], s) else .ret (.rt (.sh (.int ((j + cp a b : Nat) : Int))), s)
  | [], b, j, z2, z3, z4, h => ⟨z2, z3, z4, rfl⟩
  | x :: a, [], j, z2, z3, z4, h => by simp at h
  | x :: a, y :: b, j, z2, z3, z4, h => by
    rw [List.zip_cons_cons, List.zipIdx_cons, List.map_cons]
    unfold loopG
    have hg : gtTup 2 (gtCons (gtName 2) (gtCons (gtTup 2 (gtCons (gtName 3) (gtCons (gtName 4) gtNil))) gtNil)) (.tup [.int (j : Nat), .tup [.int x, .int y]]) [h0, h1, z2, z3, z4] = some [h0, h1, some (.sh (.int (j : Nat))), some (.sh (.int x)), some (.sh (.int y))] := rfl
    simp only [hg, hb]
    unfold cp
    by_cases e : x = y
    · simp only [e, if_true]
      obtain ⟨y2, y3, y4, ih⟩ := cp_loop (ρ := ρ) body hb a b (j + 1) (some (.sh (.int (j : Nat)))) (some (.sh (.int y))) (some (.sh (.int y))) (by simpa using h)
      refine ⟨y2, y3, y4, ?_⟩
      show (loopG _ _ _ _ _) = _
      rw [ih]
      by_cases e2 : cp a b = a.length
      · rw [if_pos e2, if_pos (by simp [e2])]
      · rw [if_neg e2, if_neg (by simpa using e2)]
        have : j + 1 + cp a b = j + (cp a b + 1) := by omega
        rw [this]
    · simp only [e, if_false]
      refine ⟨none, none, none, ?_⟩
      rw [if_neg (by simp)]
      rfl
theorem common_eq (a b : List Int) (h : a.length = b.length) (h5 : a.length ≤ 1000) : w_common M [ptS a, ptS b] s = .ret (.sh (.int (cp a b : Nat)), s) := by
  unfold w_common s_common
  have hz : enumZ (ptS a) (ptS b) = some (((a.zip b).zipIdx 0).map fun x => .tup [.int (x.2 : Nat), .tup [.int x.1.1, .int x.1.2]]) := by
    unfold enumZ zipS
    show (if (a.map D.int).length = (b.map D.int).length then _ else _ : Option (List D)).map _ = _
    rw [if_pos (by simp [h]), Option.map_some, zipT_ints, enG_map]
  walk_at "U"
  unfold sFor
  walk_at "U"
  simp only [hz]
  walk_at "U"
  have hnn : ∀ x y : Int, neO (.int x) (.int y) = some (!(x == y)) := n_ii
  obtain ⟨y2, y3, y4, hl⟩ := cp_loop (M := M) (s := s) (ρ := []) (h0 := some (.sh (ptS a))) (h1 := some (.sh (ptS b))) (sIf (M := M) [] (eCmpT (M := M) neO (eVar M 3) (eVar M 4)) (sRet (M := M) [] (eSh (M := M) (eVar M 2))) (sNil (M := M))) (fun i x y => by
    walk_at "U"
    by_cases e : x = y
    · simp [e]
    · simp [e]) a b 0 none none none h
  rw [hl]
  by_cases e : cp a b = a.length
  · rw [if_pos e]
    walk_at "U"
    rw [List.length_map, e]
  · rw [if_neg e]
    walk_at "U"
end
end VK

namespace VK
open PySem PySem.Spec PyProof.Rows L2 VQ
section
variable {K : PySem.W.Frag} {M : WM K} {s : M.S}
theorem intsD_of {α : Type} (f : α → Int) : ∀ l : List α, intsD (l.map fun x => D.int (f x)) = some (l.map f)
  | [] => rfl
  | x :: l => by simp only [List.map_cons, intsD, intsD_of f l]; first | rfl | skip
theorem max_first (rs : List (List Int)) (p : List Int) : maxDD 0 (.lst (rs.map fun r => D.int (cp r p : Nat))) = some (.sh (.int (firstG rs p : Nat))) := by
  have hi := intsD_of (fun r : List Int => ((cp r p : Nat) : Int)) rs
  simp only [maxDD, hi]
  cases rs with
  | nil => rfl
  | cons r rs =>
    rw [List.map_cons]
    show some (R.sh (.int (maxI _ _))) = _
    have e := maxI_spec (rs.map fun r => ((cp r p : Nat) : Int)) ((cp r p : Nat) : Int)
    have h1 : maxI ((cp r p : Nat) : Int) (rs.map fun r => ((cp r p : Nat) : Int)) = ((firstG (r :: rs) p : Nat) : Int) := by
      apply Int.le_antisymm
      · have hm := e.1
        rw [← List.map_cons (f := fun r => ((cp r p : Nat) : Int))] at hm
        obtain ⟨q, hq, he⟩ := List.mem_map.mp hm
        rw [← he]
        have := firstG_ge (p := p) hq
        omega
      · obtain ⟨q, hq, he⟩ := firstG_at (rs := r :: rs) (p := p) (by simp)
        rw [← he]
        apply e.2
        rw [← List.map_cons (f := fun r => ((cp r p : Nat) : Int))]
        exact List.mem_map.mpr ⟨q, hq, rfl⟩
    rw [h1]
theorem rep_flat {α : Type} (x : α) : ∀ n : Nat, (List.replicate n [x]).flatten = List.replicate n x
  | 0 => rfl
  | n + 1 => by simp [List.replicate_succ, rep_flat x n]
theorem gap_eq (rs : List (List Int)) (p : List Int) (hr : ∀ r ∈ rs, r.length = p.length) (h5 : p.length ≤ 5) (hl : rs.length ≤ 100) : w_gap M [.lst (rs.map ptS), ptS p] s = .ret (.sh (gapG rs p), s) := by
  unfold w_gap s_gap
  have hbl : rs.length ≤ big := by unfold big; omega
  have hlc1 : ∀ ρ, ρ = [some (D.lst (rs.map ptS)), some (ptS p), none, none, none, none, none, none] → eLc (M := M) [6] (eItems anyOf (eVar M 0)) (gdName 6) eYes (eSeen (eCall 2 (w_common M) [] (eCons (eVar M 6) (eCons (eVar M 1) eNil)))) ρ s = .ret (.fr (.lst (rs.map fun r => .int (cp r p : Nat))), s) := fun ρ hρ => by
    subst hρ
    refine elc_map rs ptS _ (by walk_at "U"; rfl) hbl fun r hm => ⟨_, rfl, ?_⟩
    have hc := common_eq (M := M) (s := s) r p (hr r hm) (by have := hr r hm; omega)
    walk_at "U"
    simp only [hc]
    walk_at "U"
  have hmx := max_first rs p
  walk_at "U"
  simp only [hlc1 _ rfl]
  walk_at "U"
  simp only [hmx]
  walk_at "U"
  obtain ⟨f, hf⟩ : ∃ f, firstG rs p = f := ⟨_, rfl⟩
  have hfle := firstG_le rs p
  unfold gapG
  rw [hf] at hfle ⊢
  rw [List.length_map]
  by_cases e : f = p.length
  · have hb : (((f : Nat) : Int) == ((p.length : Nat) : Int)) = true := by rw [e]; exact beq_self_eq_true _
    rw [if_pos e, hb]
    walk_at "U"
  · have e' : ((f : Nat) : Int) ≠ (p.length : Nat) := by omega
    rw [if_neg e]
    have hb : (((f : Nat) : Int) == ((p.length : Nat) : Int)) = false := by rw [beq_eq_false_iff_ne]; exact e'
    rw [hb]
    have hlt : f < p.length := by omega
    have hsl : ∀ q : List Int, (q.map D.int).take f = (q.take f).map D.int := fun q => (List.map_take ..).symm
    have htup : ∀ l : List D, tupleD [.tup l] = some (.sh (.tup l)) := fun _ => rfl
    have htupl : ∀ l : List D, tupleD [.lst l] = some (.sh (.tup l)) := fun _ => rfl
    have hlc2 : ∀ ρ, ρ = [some (D.lst (rs.map ptS)), some (ptS p), some (.int (f : Nat)), none, none, none, none, none] → eLc (M := M) [6] (eItems anyOf (eVar M 0)) (gdName 6) (eCmpT eqO (eSeen (eFun tupleD (eCons (eSeen (eSl (eVar M 6) eNoPt (ePt (eVar M 2)))) eNil))) (eSeen (eFun tupleD (eCons (eSeen (eSl (eVar M 1) eNoPt (ePt (eVar M 2)))) eNil)))) (eBinD ixD (eVar M 6) (eVar M 2)) ρ s = .ret (.fr (.lst ((hangG rs p f).map .int)), s) := fun ρ hρ => by
      subst hρ
      rw [elc_fil rs ptS (fun r => r.take f == p.take f) (fun r => .int (r.getD f 0)) (s' := s) (by walk_at "U"; rfl) hbl fun r hm => ⟨_, rfl, ?_, fun _ => ?_⟩]
      · unfold hangG
        rw [List.map_map]; rfl
      · walk_at "U"
        repeat (simp only [hsl, htup, eqO_pt]; try walk_at "U")
      · have hat : atI (r.map D.int) ((f : Nat) : Int) = some (.int (r.getD f 0)) := by
          refine atI_nat ?_
          have := hr r hm
          rw [List.getElem?_map, List.getD_eq_getElem?_getD, List.getElem?_eq_getElem (by omega)]; rfl
        walk_at "U"
        simp only [hat]
        try walk_at "U"
    have hlc3 : ∀ ρ h3, ρ = [some (D.lst (rs.map ptS)), some (ptS p), some (.int (f : Nat)), h3, none, none, none, none] → eLc (M := M) [7] (eItems anyOf (eSeen (eSl (eVar M 1) eNoPt (ePt (eVar M 2))))) (gdName 7) eYes (eSeen (eCall 2 (w_figures_of M) [.int 5] (eCons (eVar M 7) eNil))) ρ s = .ret (.fr (.lst ((p.take f).map fun i => .str (b5 i))), s) := fun ρ h3 hρ => by
      subst hρ
      refine elc_map (p.take f) .int _ (by
        walk_at "U"
        repeat (simp only [hsl]; try walk_at "U")
        try rfl) (by rw [List.length_take]; unfold big; omega) fun i hi => ⟨_, rfl, ?_⟩
      walk_at "U"
      simp only [figures_eq]
      walk_at "U"
    have hat : atI (p.map D.int) ((f : Nat) : Int) = some (.int (p.getD f 0)) := by
      refine atI_nat ?_
      rw [List.getElem?_map, List.getD_eq_getElem?_getD, List.getElem?_eq_getElem hlt]; rfl
    have hln : ((p.length : Nat) : Int) - ((f : Nat) : Int) - 1 = ((p.length - f - 1 : Nat) : Int) := by omega
    have hmul : mulD (.lst [.str []]) (.int ((p.length - f - 1 : Nat) : Int)) = some (.fr (.lst (List.replicate (p.length - f - 1) (.str [])))) := by
      rw [mul_lk (by omega) (by omega) (by simp), Int.toNat_natCast, rep_flat]
    have hgl : (hangG rs p f).length ≤ 1000 := by
      unfold hangG
      have := List.length_filter_le (fun r : List Int => r.take f == p.take f) rs
      rw [List.length_map]; omega
    have hsh := fun t => shortest_of_eq (M := M) (s := t) (p.getD f 0) (hangG rs p f) hgl
    have hb1 : ((p.take f).map fun i => D.str (b5 i)).length + ([optB (p.getD f 0) (shortN (p.getD f 0) (hangG rs p f))] : List D).length ≤ big := by simp [big]; omega
    have hb2 : (((p.take f).map fun i => D.str (b5 i)) ++ ([optB (p.getD f 0) (shortN (p.getD f 0) (hangG rs p f))] : List D)).length + (List.replicate (p.length - f - 1) (D.str [])).length ≤ big := by simp [big]; omega
    have a1 := add_ll hb1
    have a2 := add_ll hb2
    have hlc2' := hlc2 _ rfl
    have hlc3' := fun h3 => hlc3 _ h3 rfl
    have hln2 : (D.lst (rs.map ptS)) = D.lst (rs.map ptS) := rfl
    walk_at "U"
    repeat (simp only [hlc2', hlc3', List.length_map, hln, hmul, hat, hsh, a1, a2, htupl]; try walk_at "U")
end
end VK

namespace VK
open PySem PySem.Spec PyProof.Rows L2 VQ
section
theorem b5_inj {i j : Int} (hi : wB i = true) (hj : wB j = true) (h : b5 i = b5 j) : i = j := by
  unfold wB at hi hj
  rw [Bool.and_eq_true, decide_eq_true_eq, decide_eq_true_eq] at hi hj
  have aux : ∀ a : Nat, a < 32 → ∀ b : Nat, b < 32 → b5 (a : Nat) = b5 (b : Nat) → a = b := by decide +kernel
  have := aux i.toNat (by omega) j.toNat (by omega) (by rw [Int.toNat_of_nonneg hi.1, Int.toNat_of_nonneg hj.1]; exact h)
  omega
theorem hang_not {rs : List (List Int)} {p : List Int} (hr : ∀ r ∈ rs, r.length = p.length) (hf : firstG rs p < p.length) : p.getD (firstG rs p) 0 ∉ hangG rs p (firstG rs p) := by
  intro hm
  obtain ⟨r, hm, he⟩ := List.mem_map.mp hm
  obtain ⟨hrm, ht⟩ := List.mem_filter.mp hm
  have hl := hr r hrm
  have ht : r.take (firstG rs p) = p.take (firstG rs p) := by simpa using ht
  have h2 : r.take (firstG rs p + 1) = p.take (firstG rs p + 1) := by
    rw [List.take_add_one, List.take_add_one, ht]
    have e1 : r[firstG rs p]? = some (r.getD (firstG rs p) 0) := by rw [List.getD_eq_getElem?_getD, List.getElem?_eq_getElem (by omega)]; rfl
    have e2 : p[firstG rs p]? = some (p.getD (firstG rs p) 0) := by rw [List.getD_eq_getElem?_getD, List.getElem?_eq_getElem (by omega)]; rfl
    rw [e1, e2, he]
  have := (cp_take r p (firstG rs p + 1) (by omega) (by omega)).mp h2
  have := firstG_ge (p := p) hrm
  omega
theorem short_some {rs : List (List Int)} {p : List Int} (hr : ∀ r ∈ rs, r.length = p.length ∧ r.all wB = true) (hp : p.all wB = true) (hf : firstG rs p < p.length) : ∃ k, k ≤ 5 ∧ shortN (p.getD (firstG rs p) 0) (hangG rs p (firstG rs p)) = some k ∧ hit (p.getD (firstG rs p) 0) (hangG rs p (firstG rs p)) k = false ∧ ∀ j, j < k → hit (p.getD (firstG rs p) 0) (hangG rs p (firstG rs p)) j = true := by
  have hw : wB (p.getD (firstG rs p) 0) = true := by
    rw [List.getD_eq_getElem?_getD, List.getElem?_eq_getElem hf]
    exact List.all_eq_true.mp hp _ (List.getElem_mem hf)
  have h5 : hit (p.getD (firstG rs p) 0) (hangG rs p (firstG rs p)) 5 = false := by
    unfold hit
    rw [List.any_eq_false]
    intro o ho
    have hn := hang_not (fun r h => (hr r h).1) hf
    obtain ⟨r, hm, he⟩ := List.mem_map.mp ho
    obtain ⟨hrm, _⟩ := List.mem_filter.mp hm
    have how : wB o = true := by
      rw [← he, List.getD_eq_getElem?_getD, List.getElem?_eq_getElem (by rw [(hr r hrm).1]; exact hf)]
      exact List.all_eq_true.mp (hr r hrm).2 _ (List.getElem_mem _)
    rw [List.take_of_length_le (by simp [b5_len]), List.take_of_length_le (by simp [b5_len])]
    intro e
    have e : b5 o = b5 (p.getD (firstG rs p) 0) := by simpa using e
    exact hn (b5_inj how hw e ▸ ho)
  cases hs : shortN (p.getD (firstG rs p) 0) (hangG rs p (firstG rs p)) with
  | none =>
    exfalso
    have := List.find?_eq_none.mp hs 5 (by simp)
    rw [h5] at this
    exact this rfl
  | some k =>
    have hs' : (List.range 6).find? (fun k => !hit (p.getD (firstG rs p) 0) (hangG rs p (firstG rs p)) k) = some k := hs
    rw [List.find?_range_eq_some] at hs'
    obtain ⟨h1, h2, h3⟩ := hs'
    refine ⟨k, by have := List.mem_range.mp h2; omega, rfl, by simpa using h1, fun j hj => ?_⟩
    have := h3 j hj
    simpa using this
end
section
variable {K : PySem.W.Frag} {M : WM K} {s : M.S}
theorem hanging_eq (rs : List (List Int)) (p : List Int) (f : Nat) (hf : f < p.length) (hr : ∀ r ∈ rs, r.length = p.length) (hl : rs.length ≤ 60) : w_law_hanging M [.lst (rs.map ptS), .lst ((p.take f).map .int)] s = .ret (.fr (.lst ((sortI (dedI (hangG rs p f))).map .int)), s) := by
  unfold w_law_hanging s_law_hanging
  have hpl : (p.take f).length = f := by rw [List.length_take]; omega
  have hbl : rs.length ≤ big := by unfold big; omega
  have hlst : ∀ l : List D, listD [.tup l] = some (.fr (.lst l)) := fun _ => rfl
  have hsl : ∀ q : List Int, (q.map D.int).take f = (q.take f).map D.int := fun q => (List.map_take ..).symm
  have hlc : ∀ ρ, ρ = [some (D.lst (rs.map ptS)), some (.lst ((p.take f).map .int)), some (.int (f : Nat)), none] → eLc (M := M) [3] (eItems anyOf (eVar M 0)) (gdName 3) (eAnd (eCmpT gtD (eSeen (eFun lenD (eCons (eVar M 3) eNil))) (eVar M 2)) (eCmpT eqO (eSeen (eFun listD (eCons (eSeen (eSl (eVar M 3) eNoPt (ePt (eVar M 2)))) eNil))) (eVar M 1))) (eBinD ixD (eVar M 3) (eVar M 2)) ρ s = .ret (.fr (.lst ((hangG rs p f).map .int)), s) := fun ρ hρ => by
    subst hρ
    rw [elc_fil rs ptS (fun r => r.take f == p.take f) (fun r => .int (r.getD f 0)) (s' := s) (by walk_at "U"; rfl) hbl fun r hm => ⟨_, rfl, ?_, fun _ => ?_⟩]
    · unfold hangG
      rw [List.map_map]; rfl
    · have hg : decide (((r.length : Nat) : Int) > ((f : Nat) : Int)) = true := decide_eq_true (by have := hr r hm; omega)
      walk_at "U"
      simp only [List.length_map, hg, if_true]
      repeat (simp only [hsl, hlst, eqO_li]; try walk_at "U")
    · have hat : atI (r.map D.int) ((f : Nat) : Int) = some (.int (r.getD f 0)) := by
        refine atI_nat ?_
        have := hr r hm
        rw [List.getElem?_map, List.getD_eq_getElem?_getD, List.getElem?_eq_getElem (by omega)]; rfl
      walk_at "U"
      simp only [hat]
      try walk_at "U"
  have hn : (hangG rs p f).length ≤ 60 := by
    unfold hangG
    have := List.length_filter_le (fun r : List Int => r.take f == p.take f) rs
    rw [List.length_map]; omega
  have hset : setD [.lst ((hangG rs p f).map .int)] = some (.fr (.lst ((sortI (dedI (hangG rs p f))).map .int))) := by
    have hi := intsD_of (fun i : Int => i) (hangG rs p f)
    rw [List.map_id'] at hi
    unfold setD
    have hi : intsD ((hangG rs p f).map D.int) = some (hangG rs p f) := hi
    simp only [hi]
    have := dedI_len (hangG rs p f)
    rw [if_pos ⟨by omega, by omega⟩]
  have hgt : gtD = cmpI fun i j => decide (j < i) := rfl
  rw [hgt] at hlc
  walk_at "U"
  rw [List.length_map, hpl]
  simp only [hlc _ rfl]
  walk_at "U"
  simp only [hset]
  try walk_at "U"
end
end VK

namespace VK
open PySem PySem.Spec PyProof.Rows L2 VQ
section
variable {K : PySem.W.Frag} {M : WM K} {s : M.S}
/-- a counter that goes up while c holds -/
theorem while_up {c : Ev M Bool} {body : Sv M} (env : Nat → Nv) (t : Nat → Bool) (hm : ∀ j, behind M [] true s (env j) = env j) (hc : ∀ j, c (view [] (env j)) s = .ret (t j, s)) (hv : ∀ j, frz [] (env j) = env j) (hb : ∀ j, t j = true → body (env j) s = .ret (.nx (env (j + 1)), s)) (k : Nat) (hk : t k = false) (hj : ∀ j, j < k → t j = true) :
    ∀ (n fuel j : Nat), j + n = k → n < fuel → whileG [] c body fuel (env j) s = .ret (.nx (env k), s) := by
  intro n
  induction n with
  | zero =>
    intro fuel j e hf
    obtain ⟨fuel, rfl⟩ : ∃ g, fuel = g + 1 := ⟨fuel - 1, by omega⟩
    have e : j = k := by omega
    subst e
    unfold whileG
    simp only [inF, hc, G.exs_ret, G.bind_ret, hk, hm]
    rfl
  | succ n ih =>
    intro fuel j e hf
    obtain ⟨fuel, rfl⟩ : ∃ g, fuel = g + 1 := ⟨fuel - 1, by omega⟩
    have ht := hj j (by omega)
    unfold whileG
    simp only [inF, hc, G.exs_ret, G.bind_ret, ht, hm, if_true, hb j ht]
    exact ih fuel (j + 1) (by omega) (by omega)
theorem fold_first (p r : List Int) (h : r.length = p.length) (m : Nat) : (List.range (p.length + 1)).foldl (fun m k => if (r.take k == p.take k) = true ∧ m < k then k else m) m = max m (cp r p) := by
  have aux : ∀ n, n ≤ p.length + 1 → (List.range n).foldl (fun m k => if (r.take k == p.take k) = true ∧ m < k then k else m) m = max m (min (cp r p) (n - 1)) := by
    intro n
    induction n with
    | zero => intro _; simp
    | succ n ih =>
      intro hn
      rw [List.range_succ, List.foldl_append, ih (by omega)]
      have hc := cp_take r p n (by omega) (by omega)
      simp only [List.foldl_cons, List.foldl_nil, beq_iff_eq, hc]
      split <;> omega
  rw [aux _ (Nat.le_refl _)]
  have := (cp_le r p).2
  omega
theorem firstG_snoc (pre : List (List Int)) (r p : List Int) : firstG (pre ++ [r]) p = max (firstG pre p) (cp r p) := by
  unfold firstG
  rw [List.foldl_append]
  rfl
theorem lawGap_eq (rs : List (List Int)) (p : List Int) (hr : ∀ r ∈ rs, r.length = p.length ∧ r.all wB = true) (hp : p.all wB = true) (h1 : 1 ≤ p.length) (h5 : p.length ≤ 5) (hl : rs.length ≤ 60) : w_law_gap M [.lst (rs.map ptS), ptS p] s = .ret (.sh (gapG rs p), s) := by
  unfold w_law_gap s_law_gap
  have hsl : ∀ (q : List Int) (k : Nat), (q.map D.int).take k = (q.take k).map D.int := fun q k => (List.map_take ..).symm
  have hrng : rng1 (.int (((p.length : Nat) : Int) + 1)) = some ((List.range (p.length + 1)).map fun k => .int (0 + (k : Nat))) := by
    have := rng1_eq (n := p.length + 1) (by omega)
    rwa [show ((p.length + 1 : Nat) : Int) = ((p.length : Nat) : Int) + 1 by omega] at this
  have hin : ∀ (r : List Int) (m : Nat) (kk : Option D), r.length = p.length → sFor (M := M) [] (eI1 (M := M) rng1 (eSeen (M := M) (eBin (M := M) addD (eVar M 2) (eC M (.int 1))))) (gtName 5) (sIf (M := M) [] (eAnd (M := M) (eCmpT (M := M) eqO (eSeen (M := M) (eSl (M := M) (eVar M 4) (eNoPt (M := M)) (ePt (M := M) (eVar M 5)))) (eSeen (M := M) (eSl (M := M) (eVar M 1) (eNoPt (M := M)) (ePt (M := M) (eVar M 5))))) (eCmpT (M := M) gtD (eVar M 5) (eVar M 3))) (sSet (M := M) 3 [] (eSh (M := M) (eVar M 5))) (sNil (M := M)))
      [some (.sh (.lst (rs.map ptS))), some (.sh (ptS p)), some (.sh (.int (p.length : Nat))), some (.sh (.int (m : Nat))), some (.sh (ptS r)), kk.map VV.sh, none, none, none, none] s =
      .ret (.nx [some (.sh (.lst (rs.map ptS))), some (.sh (ptS p)), some (.sh (.int (p.length : Nat))), some (.sh (.int ((max m (cp r p) : Nat) : Int))), some (.sh (ptS r)), some (.sh (.int (p.length : Nat))), none, none, none, none], s) := fun r m kk hlr => by
    have hv1 : ∀ (i : Nat) (x : Option D), view1 [] i (x.map VV.sh) = x := fun i x => by cases x <;> rfl
    rw [for_fold (List.range (p.length + 1)) (fun k => .int (0 + (k : Nat))) (fun t : Nat × Option D => [some (.sh (.lst (rs.map ptS))), some (.sh (ptS p)), some (.sh (.int (p.length : Nat))), some (.sh (.int (t.1 : Nat))), some (.sh (ptS r)), t.2.map VV.sh, none, none, none, none]) (fun t k => (if (r.take k == p.take k) = true ∧ t.1 < k then k else t.1, some (.int (k : Nat)))) (m, kk) (s' := s) ?e rfl ?h]
    case e =>
      walk_at "U"
      simp only [hrng]
      try walk_at "U"
    case h =>
      intro t k hk
      refine ⟨_, rfl, ?_⟩
      walk_at "U"
      repeat (simp only [Int.zero_add, hsl, eqO_pt, cut_to]; try walk_at "U")
      by_cases e : r.take k = p.take k
      · have eb : (r.take k == p.take k) = true := by simpa using e
        by_cases e2 : t.1 < k
        · have e3 : decide (((t.1 : Nat) : Int) < ((k : Nat) : Int)) = true := decide_eq_true (by omega)
          simp only [eb, e2, and_self, if_true]
          repeat (simp only [e3]; try walk_at "U")
        · have e3 : decide (((t.1 : Nat) : Int) < ((k : Nat) : Int)) = false := decide_eq_false (by omega)
          simp only [eb, e2, and_false, if_false]
          repeat (simp only [e3]; try walk_at "U")
      · have eb : (r.take k == p.take k) = false := by simpa using e
        simp only [eb]
        try walk_at "U"
        try simp
    have h1 := foldl_fst (fun (m : Nat) (k : Nat) => if (r.take k == p.take k) = true ∧ m < k then k else m) (fun k : Nat => some (D.int (k : Nat))) (List.range (p.length + 1)) (m, kk)
    have h2 : (List.foldl (fun (t : Nat × Option D) (k : Nat) => ((if (r.take k == p.take k) = true ∧ t.1 < k then k else t.1), some (D.int (k : Nat)))) (m, kk) (List.range (p.length + 1))).2 = some (D.int (p.length : Nat)) := by
      rw [List.range_succ, List.foldl_append]; rfl
    rw [fold_first p r hlr m] at h1
    simp only [h1, h2]
    rfl
  have hv1 : ∀ (i : Nat) (x : Option D), view1 [] i (x.map VV.sh) = x := fun i x => by cases x <;> rfl
  have hf1 : ∀ (i : Nat) (x : Option D), frz1 [] i (x.map VV.sh) = x.map VV.sh := fun i x => by cases x <;> rfl
  have hgt : gtD = cmpI fun i j => decide (j < i) := rfl
  obtain ⟨x4, x5, hout⟩ : ∃ x4 x5 : Option D, sFor (M := M) [] (eItems (M := M) anyOf (eVar M 0)) (gtName 4) (sFor (M := M) [] (eI1 (M := M) rng1 (eSeen (M := M) (eBin (M := M) addD (eVar M 2) (eC M (.int 1))))) (gtName 5) (sIf (M := M) [] (eAnd (M := M) (eCmpT (M := M) eqO (eSeen (M := M) (eSl (M := M) (eVar M 4) (eNoPt (M := M)) (ePt (M := M) (eVar M 5)))) (eSeen (M := M) (eSl (M := M) (eVar M 1) (eNoPt (M := M)) (ePt (M := M) (eVar M 5))))) (eCmpT (M := M) gtD (eVar M 5) (eVar M 3))) (sSet (M := M) 3 [] (eSh (M := M) (eVar M 5))) (sNil (M := M))))
      [some (.sh (.lst (rs.map ptS))), some (.sh (ptS p)), some (.sh (.int (p.length : Nat))), some (.sh (.int 0)), none, none, none, none, none, none] s =
      .ret (.nx [some (.sh (.lst (rs.map ptS))), some (.sh (ptS p)), some (.sh (.int (p.length : Nat))), some (.sh (.int (firstG rs p : Nat))), x4.map VV.sh, x5.map VV.sh, none, none, none, none], s) := by
    refine ⟨rs.getLast?.map ptS, if rs = [] then none else some (.int (p.length : Nat)), ?_⟩
    refine for_env rs ptS (fun pre => [some (.sh (.lst (rs.map ptS))), some (.sh (ptS p)), some (.sh (.int (p.length : Nat))), some (.sh (.int (firstG pre p : Nat))), (pre.getLast?.map ptS).map VV.sh, (if pre = [] then none else some (D.int (p.length : Nat))).map VV.sh, none, none, none, none]) ?e rfl ?h
    case e => walk_at "U"; rfl
    case h =>
      intro pre r post hpre
      have hrm : r ∈ rs := by rw [hpre]; simp
      refine ⟨_, rfl, ?_⟩
      refine (hin r (firstG pre p) (if pre = [] then none else some (D.int (p.length : Nat))) (hr r hrm).1).trans ?_
      rw [firstG_snoc, List.getLast?_append, if_neg (by simp)]
      rfl
  rw [hgt] at hout
  walk_at "U"
  rw [List.length_map]
  simp only [hout]
  walk_at "U"
  obtain ⟨f, hf⟩ : ∃ f, firstG rs p = f := ⟨_, rfl⟩
  have hfle := firstG_le rs p
  rw [hf] at hfle ⊢
  have hz : (((p.length : Nat) : Int) == 0) = false := by rw [beq_eq_false_iff_ne]; omega
  by_cases e : f = p.length
  · have hb : (((f : Nat) : Int) == ((p.length : Nat) : Int)) = true := by rw [e]; exact beq_self_eq_true _
    simp only [hb, hz]
    walk_at "U"
    unfold gapG
    rw [hf, if_pos e]
  · have hb : (((f : Nat) : Int) == ((p.length : Nat) : Int)) = false := by rw [beq_eq_false_iff_ne]; omega
    have hlt : f < p.length := by omega
    have hhan := fun t => hanging_eq (M := M) (s := t) rs p f hlt (fun r h => (hr r h).1) hl
    have hlst : ∀ l : List D, listD [.tup l] = some (.fr (.lst l)) := fun _ => rfl
    have hat : atI (p.map D.int) ((f : Nat) : Int) = some (.int (p.getD f 0)) := by
      refine atI_nat ?_
      rw [List.getElem?_map, List.getD_eq_getElem?_getD, List.getElem?_eq_getElem hlt]; rfl
    obtain ⟨k, hk5, hsh, hk, hj⟩ := short_some hr hp (by rw [hf]; exact hlt)
    rw [hf] at hsh hk hj
    obtain ⟨w, hw⟩ : ∃ w, p.getD f 0 = w := ⟨_, rfl⟩
    rw [hw] at hsh hk hj hat
    obtain ⟨ws, hws⟩ : ∃ ws, sortI (dedI (hangG rs p f)) = ws := ⟨_, rfl⟩
    have hwsm : ∀ x, x ∈ ws ↔ x ∈ hangG rs p f := fun x => by rw [← hws, (sortI_perm _).mem_iff, dedI_mem]
    have hwl : ws.length ≤ big := by
      rw [← hws, (sortI_perm _).length_eq]
      have := dedI_len (hangG rs p f)
      unfold hangG at this ⊢
      have h2 := List.length_filter_le (fun r : List Int => r.take f == p.take f) rs
      rw [List.length_map] at this
      show _ ≤ 1000000
      omega
    rw [hws] at hhan
    have hwh : sWhile (M := M) [] (eTest (M := M) truD (eSeen (M := M) (eFun (M := M) anyD (eCons (M := M) (eSeen (M := M) (eLc (M := M) [9] (eItems (M := M) anyOf (eVar M 6)) (gdName 9) (eYes (M := M)) (eBinD (M := M) (blD eqO) (eSeen (M := M) (eSl (M := M) (eSeen (M := M) (eCall (M := M) 1 (w_law_figs M) [] (eCons (M := M) (eVar M 9) (eNil (M := M))))) (eNoPt (M := M)) (ePt (M := M) (eVar M 8)))) (eSeen (M := M) (eSl (M := M) (eVar M 7) (eNoPt (M := M)) (ePt (M := M) (eVar M 8))))))) (eNil (M := M)))))) (sSet (M := M) 8 [] (eSh (M := M) (eSeen (M := M) (eBin (M := M) addD (eVar M 8) (eC M (.int 1))))))
        [some (.sh (.lst (rs.map ptS))), some (.sh (ptS p)), some (.sh (.int (p.length : Nat))), some (.sh (.int (f : Nat))), x4.map VV.sh, x5.map VV.sh, some (.sh (.lst (ws.map .int))), some (.sh (.str (b5 w))), some (.sh (.int 0)), none] s =
        .ret (.nx [some (.sh (.lst (rs.map ptS))), some (.sh (ptS p)), some (.sh (.int (p.length : Nat))), some (.sh (.int (f : Nat))), x4.map VV.sh, x5.map VV.sh, some (.sh (.lst (ws.map .int))), some (.sh (.str (b5 w))), some (.sh (.int (k : Nat))), none], s) := by
      unfold sWhile
      refine while_up (fun j => [some (.sh (.lst (rs.map ptS))), some (.sh (ptS p)), some (.sh (.int (p.length : Nat))), some (.sh (.int (f : Nat))), x4.map VV.sh, x5.map VV.sh, some (.sh (.lst (ws.map .int))), some (.sh (.str (b5 w))), some (.sh (.int (j : Nat))), none]) (fun j => hit w (hangG rs p f) j) (fun j => by simp [behind, frz, frzG_e]) ?hc (fun j => by simp [frz, frzG_e]) ?hb k hk hj k wTurns 0 (by omega) (by rw [wTurns_eq]; omega)
      case hc =>
        intro j
        have hlc : ∀ ρ : Dv, ρ = [some (.lst (rs.map ptS)), some (ptS p), some (.int (p.length : Nat)), some (.int (f : Nat)), x4, x5, some (.lst (ws.map .int)), some (.str (b5 w)), some (.int (j : Nat)), none] → eLc (M := M) [9] (eItems (M := M) anyOf (eVar M 6)) (gdName 9) (eYes (M := M)) (eBinD (M := M) (blD eqO) (eSeen (M := M) (eSl (M := M) (eSeen (M := M) (eCall (M := M) 1 (w_law_figs M) [] (eCons (M := M) (eVar M 9) (eNil (M := M))))) (eNoPt (M := M)) (ePt (M := M) (eVar M 8)))) (eSeen (M := M) (eSl (M := M) (eVar M 7) (eNoPt (M := M)) (ePt (M := M) (eVar M 8))))) ρ s = .ret (.fr (.lst (ws.map fun o => .bl ((b5 o).take j == (b5 w).take j))), s) := fun ρ hρ => by
          subst hρ
          have hb5 : ∀ o, (b5 o).length ≤ big := fun o => by simp [b5_len, big]
          refine elc_map ws .int _ (by walk_at "U"; rfl) hwl fun o ho => ⟨_, rfl, ?_⟩
          walk_at "U"
          repeat (simp only [figs_eq, hb5]; try walk_at "U")
        have hh : ws.any (fun o => (b5 o).take j == (b5 w).take j) = hit w (hangG rs p f) j := by
          rw [← hit_mem hwsm]; rfl
        walk_at "U"
        simp only [hv1, hlc _ rfl]
        walk_at "U"
        simp only [hh]
        try walk_at "U"
      case hb =>
        intro j _
        walk_at "U"
        try simp only [hv1, hf1]
        try rfl
    have hbx := fun t => lawBoxOf_eq (M := M) (s := t) (p.take f) (by rw [List.length_take]; omega)
    have hln : ((p.length : Nat) : Int) - ((f : Nat) : Int) - 1 = ((p.length - f - 1 : Nat) : Int) := by omega
    have hmul : mulD (.tup [.str []]) (.int ((p.length - f - 1 : Nat) : Int)) = some (.sh (.tup (List.replicate (p.length - f - 1) (.str [])))) := by
      rw [mul_tk (by omega) (by omega) (by simp), Int.toNat_natCast, rep_flat]
    have hb1 : (((p.take f).map b5).map D.str).length + ([D.str ((b5 w).take k)] : List D).length ≤ big := by simp [big]; omega
    have hb2 : ((((p.take f).map b5).map D.str) ++ ([D.str ((b5 w).take k)] : List D)).length + (List.replicate (p.length - f - 1) (D.str [])).length ≤ big := by simp [big]; omega
    have a1 := add_tt hb1
    have a2 := add_tt hb2
    have hb5 : (b5 w).length ≤ big := by simp [b5_len, big]
    have a3 : boxS ((p.take f).map b5) = .tup (((p.take f).map b5).map D.str) := rfl
    simp only [hb, hz]
    walk_at "U"
    repeat (simp only [hv1, hf1, hsl, hlst, hhan, hat, figs_eq, hwh, hbx, hln, hmul, hb5, a3, a1, a2]; try walk_at "U")
    unfold gapG
    rw [hf, if_neg e, hw, hsh]
    simp only [List.map_map]
    rfl
end
end VK

namespace VK
open PySem PySem.Spec PyProof.Rows L2 VQ
section
theorem any_pts (b : List Int) : ∀ l : List (List Int), ((l.map ptS).any fun y => eqD y (ptS b)) = l.contains b
  | [] => rfl
  | x :: l => by
    show (eqDs (x.map D.int) (b.map D.int) || (l.map ptS).any fun y => eqD y (ptS b)) = (x :: l).contains b
    rw [any_pts b l, eqDs_ints, List.contains_cons, Bool.beq_comm]
theorem plL_pts (n : Nat) : ∀ l : List (List Int), plL (n + 1) (l.map ptS) = true
  | [] => rfl
  | b :: l => by
    show (plL n (b.map D.int) && plL (n + 1) (l.map ptS)) = true
    rw [plL_int, plL_pts n l]; rfl
theorem in_pts (l : List (List Int)) (b : List Int) : inD (ptS b) (.lst (l.map ptS)) = some (l.contains b) := by
  have h : (pl 40 (ptS b) && plL 39 (l.map ptS)) = true := by
    have h1 : pl 40 (ptS b) = true := plL_int 39 b
    rw [h1, plL_pts 38 l]; rfl
  unfold inD
  simp only [h, any_pts, if_true]
  split <;> rfl
theorem nin_pts (l : List (List Int)) (b : List Int) : ninD (ptS b) (.lst (l.map ptS)) = some (!l.contains b) := by
  unfold ninD; rw [in_pts]; rfl
theorem eqDs_pts : ∀ l m : List (List Int), eqDs (l.map ptS) (m.map ptS) = (l == m)
  | [], [] => rfl
  | [], _ :: _ => rfl
  | _ :: _, [] => rfl
  | x :: a, y :: b => by
    show (eqDs (x.map D.int) (y.map D.int) && eqDs (a.map ptS) (b.map ptS)) = (x == y && a == b)
    rw [eqDs_pts a b, eqDs_ints]
theorem eqO_pts (l m : List (List Int)) : eqO (.lst (l.map ptS)) (.lst (m.map ptS)) = some (l == m) := by
  have h : (pl 40 (.lst (l.map ptS)) && pl 40 (.lst (m.map ptS))) = true := by
    show (plL 39 _ && plL 39 _) = true
    rw [plL_pts 38 l, plL_pts 38 m]; rfl
  unfold eqO
  rw [h, Bool.or_true, if_pos rfl]
  exact congrArg some (eqDs_pts l m)
end
section
variable {K : PySem.W.Frag} {M : WM K} {s : M.S} {pull : Dfs M}

section
variable {s' : M.S} {α : Type}
theorem loop_alw {P : Fl × M.S → Prop} {E : Xs M → Prop} {g : D → Nv → Option Nv} {body : Sv M} {ρ : Nv} (xs : List α) (inj : α → D) (I : List α → Nv → M.S → Prop) (hi : I [] ρ s)
    (h : ∀ pre x post, xs = pre ++ x :: post → ∀ ρ s, I pre ρ s → ∃ ρ1, g (inj x) ρ = some ρ1 ∧ Al (body ρ1 s) (fun f => ∃ ρ2, f.1 = .nx ρ2 ∧ I (pre ++ [x]) ρ2 f.2) E) (hk : ∀ ρ2 s2, I xs ρ2 s2 → P (.nx ρ2, s2)) : Al (loopG g body (xs.map inj) ρ s) P E := by
  have aux : ∀ (ys pre : List α), xs = pre ++ ys → ∀ ρ s, I pre ρ s → Al (loopG g body (ys.map inj) ρ s) P E := by
    intro ys
    induction ys with
    | nil => intro pre e ρ s hi; rw [List.append_nil] at e; subst e; exact .ret (hk _ _ hi)
    | cons y ys ih =>
      intro pre e ρ s hi
      obtain ⟨ρ1, e1, hb⟩ := h pre y ys e ρ s hi
      rw [List.map_cons]
      unfold loopG
      rw [e1]
      refine .bind (hb.mono (fun f hf => ?_) fun _ h => h)
      obtain ⟨fl, s2⟩ := f
      obtain ⟨ρ2, hf, hi2⟩ := hf
      have hf : fl = .nx ρ2 := hf
      subst hf
      exact ih (pre ++ [y]) (by rw [e]; simp) ρ2 s2 hi2
  exact aux xs [] rfl ρ s hi
end
theorem elc_draw {β : Type} {vs : List Nat} {ei : Ev M (List D)} {g : D → Dv → Option Dv} {ee : Ev M D} {ρ : Dv} {s0 : M.S} {ds : List D} {Ex : Exc × M.S → Prop} (inj : β → D) (Q : β → Prop) (he : ei ρ s0 = .ret (ds, s)) (hl : ds.length ≤ big) (h : ∀ d ∈ ds, ∃ ρ1, g d (wipeD vs ρ) = some ρ1 ∧ Al (ee ρ1 s) (fun r => ∃ z, Q z ∧ r = (inj z, s)) (fun _ => False)) : Al (eLc vs ei g eYes ee ρ s0) (fun r => ∃ zs : List β, zs.length = ds.length ∧ (∀ z ∈ zs, Q z) ∧ r = (.fr (.lst (zs.map inj)), s)) Ex := by
  unfold eLc
  rw [he]
  exact lc_draw inj Q hl h
theorem ofW_spec (hp : PullOk pull) {ns : List Int} (h0 : 0 < ns.length) (h1 : ns.length ≤ 1000) : Al (w_law_of M pull [.obj 0, .lst (ns.map .int)] s) (fun r => ∃ i ∈ ns, r = (.sh (.int i), s)) (fun _ => False) :=
  (of_spec hp (ds := ns.map .int) (by rw [List.length_map]; exact h0) (by rw [List.length_map]; omega)).to fun r hr => by
    obtain ⟨d, hd, e⟩ := hr
    obtain ⟨i, hi, e2⟩ := List.mem_map.mp hd
    exact ⟨i, hi, by rw [e, ← e2]⟩
theorem worthW_spec (hp : PullOk pull) : Al (w_law_worth M pull [.obj 0] s) (fun r => ∃ i : Int, wB i = true ∧ r = (.sh (.int i), s)) (fun _ => False) :=
  (worth_spec hp).to fun r hr => by
    obtain ⟨n, hn, e⟩ := hr
    exact ⟨(n : Nat), by unfold wB; rw [decide_eq_true (show (0 : Int) ≤ (n : Nat) by omega), decide_eq_true (show ((n : Nat) : Int) < 32 by omega)]; rfl, e⟩
theorem rows_spec (hp : PullOk pull) (hfl : ∀ s, M.flat s = true) (width most : Nat) (hw : width ≤ 5) (hm : most ≤ 200) : Al (w_law_rows M pull [.obj 0, .int (width : Nat), .int (most : Nat)] s) (fun r => ∃ rs : List (List Int), rs.length ≤ most ∧ (∀ r ∈ rs, r.length = width ∧ r.all wB = true) ∧ r = (.fr (.lst (rs.map ptS)), s)) (fun _ => False) := by
  unfold w_law_rows s_law_rows
  walk_at "A"
  refine Al.btox (elc_draw (s := s) (D.int) (fun i => wB i = true) (ds := (List.range 4).map fun k => .int (0 + (k : Nat))) ?e1 (by decide) ?h1) fun r hr => ?_
  case e1 =>
    have := rng1_eq (n := 4) (by decide)
    have this : rng1 (.int 4) = some ((List.range 4).map fun k => .int (0 + (k : Nat))) := this
    walk_at "U"
    rw [this]
  case h1 =>
    intro d hd
    refine ⟨_, rfl, ?_⟩
    walk_at "U"
    refine Al.bto0 (worthW_spec hp) fun r hr => ?_
    obtain ⟨i, hi, e⟩ := hr
    subst e
    exact .ret ⟨i, hi, rfl⟩
  obtain ⟨few, hfl4, hfw, e⟩ := hr
  subst e
  rw [List.length_map, List.length_range] at hfl4
  have hpm : ∀ s, pull [.obj 0, .int (((most : Nat) : Int) + 1)] s = .draw (most + 1) fun r => .ret (.sh (.int (r : Nat)), s) := fun s => by
    have := hp (most + 1) (by omega) (by omega) s
    rwa [show ((most + 1 : Nat) : Int) = ((most : Nat) : Int) + 1 by omega] at this
  walk_at "A"
  unfold sFor
  walk_at "A"
  repeat (simp only [hpm]; try walk_at "A")
  refine .draw (by omega) fun n hn => ?_
  repeat (simp only [rng1_eq (n := n) (by omega)]; try walk_at "A")
  refine loop_alw (List.range n) (fun j => .int (0 + (j : Nat))) (fun pr ρ t => t = s ∧ ∃ (rs : List (List Int)) (x5 x6 : Option D), rs.length ≤ pr.length ∧ (∀ r ∈ rs, r.length = width ∧ r.all wB = true) ∧ ρ = [some (.sh (.obj 0)), some (.sh (.int (width : Nat))), some (.sh (.int (most : Nat))), some (.ow (.lst (rs.map ptS))), some (.sh (.lst (few.map .int))), x5.map VV.sh, x6.map VV.sh, none]) ⟨rfl, [], none, none, by simp, by simp, rfl⟩ ?h ?k
  case h =>
    intro pr j post hpr ρ t ⟨ht, rs, x5, x6, hrl, hrg, hρ⟩
    subst ht hρ
    have hpl : pr.length < n := by have := congrArg List.length hpr; simp at this; omega
    refine ⟨_, rfl, ?_⟩
    have hv1 : ∀ (i : Nat) (x : Option D), view1 [] i (x.map VV.sh) = x := fun i x => by cases x <;> rfl
    have hf1 : ∀ (i : Nat) (x : Option D), frz1 [] i (x.map VV.sh) = x.map VV.sh := fun i x => by cases x <;> rfl
    walk_at "A"
    simp only [hv1, hf1]
    refine Al.btox (elc_draw (s := t) (D.int) (fun i => wB i = true) (ds := (List.range width).map fun k => .int (0 + (k : Nat))) ?e2 (by rw [List.length_map, List.length_range]; show _ ≤ 1000000; omega) ?h2) fun r hr => ?_
    case e2 =>
      have := rng1_eq (n := width) (by omega)
      walk_at "U"
      rw [this]
    case h2 =>
      intro d hd
      refine ⟨_, rfl, ?_⟩
      walk_at "U"
      refine Al.bto0 (ofW_spec hp (by omega) (by omega)) fun r hr => ?_
      obtain ⟨i, hi, e⟩ := hr
      subst e
      walk_at "U"
      refine Al.bto0 (worthW_spec hp) fun r hr => ?_
      obtain ⟨i2, hi2, e⟩ := hr
      subst e
      walk_at "U"
      refine Al.bto0 (ofW_spec hp (ns := [i, i2]) (by simp) (by simp)) fun r hr => ?_
      obtain ⟨i3, hi3, e⟩ := hr
      subst e
      refine .ret ⟨i3, ?_, rfl⟩
      simp only [List.mem_cons, List.not_mem_nil, or_false] at hi3
      rcases hi3 with e | e
      · rw [e]; exact hfw i hi
      · rw [e]; exact hi2
    obtain ⟨row, hrow, hrw, e⟩ := hr
    subst e
    rw [List.length_map, List.length_range] at hrow
    have htup : ∀ l : List D, tupleD [.lst l] = some (.sh (.tup l)) := fun _ => rfl
    have hnin := nin_pts rs row
    have hlt : (rs.map ptS).length < big := by rw [List.length_map]; show _ < 1000000; omega
    walk_at "A"
    repeat (simp only [hv1, hf1, htup, hnin, hfl, hlt]; try walk_at "A")
    cases hc : rs.contains row with
    | true =>
      repeat (simp only [hv1, hf1, hlt, hfl]; try walk_at "A")
      exact ⟨_, rfl, rs, some (.int (0 + (j : Nat))), some (ptS row), by simp; omega, hrg, rfl⟩
    | false =>
      repeat (simp only [hv1, hf1, hlt, hfl]; try walk_at "A")
      refine ⟨_, rfl, rs ++ [row], some (.int (0 + (j : Nat))), some (ptS row), by simp; omega, fun r hr => ?_, ?_⟩
      · rcases List.mem_append.mp hr with hr | hr
        · exact hrg r hr
        · rw [List.mem_singleton.mp hr]
          exact ⟨hrow, List.all_eq_true.mpr hrw⟩
      · rw [List.map_append]; rfl
  case k =>
    intro ρ t ⟨ht, rs, x5, x6, hrl, hrg, hρ⟩
    subst ht hρ
    rw [List.length_range] at hrl
    walk_at "A"
    exact ⟨rs, by omega, hrg, rfl⟩
end
end VK

namespace VK
open PySem PySem.Spec PyProof.Rows L2 VQ
theorem xor1_w : ∀ n : Nat, n < 32 → wB (Builtin.bitXor ((n : Nat) : Int) 1) = true := by decide +kernel
theorem xor1_i {i : Int} (h : wB i = true) : wB (Builtin.bitXor i 1) = true := by
  unfold wB at h
  rw [Bool.and_eq_true, decide_eq_true_eq, decide_eq_true_eq] at h
  have := xor1_w i.toNat (by omega)
  rwa [Int.toNat_of_nonneg h.1] at this
section
variable {K : PySem.W.Frag} {M : WM K} {s : M.S} {pull : Dfs M}
theorem near_spec (hp : PullOk pull) (rs : List (List Int)) (width : Nat) (hw : width ≤ 5) (hl : rs.length ≤ 200) (hr : ∀ r ∈ rs, r.length = width ∧ r.all wB = true) : Al (w_law_point_near M pull [.obj 0, .lst (rs.map ptS), .int (width : Nat)] s) (fun r => ∃ p : List Int, p.length = width ∧ p.all wB = true ∧ r = (.sh (ptS p), s)) (fun _ => False) := by
  unfold w_law_point_near s_law_point_near
  have h4 : ∀ s, pull [.obj 0, .int 4] s = _ := hp 4 (by decide) (by decide)
  have he : eqO (.lst (rs.map ptS)) (.lst []) = some (rs == []) := eqO_pts rs []
  have hrn := rng1_eq (n := width) (by omega)
  have fin : ∀ t : M.S, t = s → Al (w_law_point M pull [.obj 0, .int (width : Nat)] t) (fun r => ∃ p : List Int, p.length = width ∧ p.all wB = true ∧ r = (.sh (ptS p), s)) (fun _ => False) := fun t ht => by
    subst ht
    exact point_spec hp width (by omega)
  walk_at "A"
  repeat (simp only [he]; try walk_at "A")
  cases rs with
  | nil =>
    have e0 : (([] : List (List Int)) == []) = true := rfl
    repeat (simp only [e0]; try walk_at "A")
    refine Al.btox (fin s rfl) fun r hr => ?_
    obtain ⟨p, h1, h2, e⟩ := hr
    subst e
    walk_at "A"
    exact ⟨p, h1, h2, rfl⟩
  | cons r0 rs =>
    have e0 : ((r0 :: rs) == ([] : List (List Int))) = false := rfl
    repeat (simp only [e0, h4]; try walk_at "A")
    refine .draw (by decide) fun a ha => ?_
    walk_at "A"
    have hrest : ∀ P : Prop, P → P := fun _ h => h
    by_cases hz : ((a : Nat) : Int) = 0
    · have eb : (((a : Nat) : Int) == 0) = true := by rw [hz]; rfl
      repeat (simp only [eb]; try walk_at "A")
      refine Al.btox (fin s rfl) fun r hr => ?_
      obtain ⟨p, h1, h2, e⟩ := hr
      subst e
      walk_at "A"
      exact ⟨p, h1, h2, rfl⟩
    · have eb : (((a : Nat) : Int) == 0) = false := by rw [beq_eq_false_iff_ne]; exact hz
      repeat (simp only [eb]; try walk_at "A")
      refine Al.btox (of_spec hp (ds := ((r0 :: rs).map ptS)) (by simp) (by rw [List.length_map]; omega)) fun r hr2 => ?_
      obtain ⟨d, hd, e⟩ := hr2
      subst e
      obtain ⟨row, hrow, e⟩ := List.mem_map.mp hd
      subst e
      obtain ⟨hrl, hrw⟩ := hr row hrow
      walk_at "A"
      unfold sFor
      walk_at "A"
      repeat (simp only [hrn]; try walk_at "A")
      refine loop_alw (List.range width) (fun j => .int (0 + (j : Nat))) (fun pr ρ t => t = s ∧ pr.length ≤ width ∧ ∃ (q : List Int) (x5 : Option D), q.length = pr.length ∧ q.all wB = true ∧ ρ = [some (.sh (.obj 0)), some (.sh (.lst ((r0 :: rs).map ptS))), some (.sh (.int (width : Nat))), some (.sh (ptS row)), some (.ow (.lst (q.map .int))), x5.map VV.sh]) ⟨rfl, by simp, [], none, rfl, rfl, rfl⟩ ?h ?k
      case h =>
        intro pr j post hpr ρ t ⟨ht, hpl, q, x5, hq, hqw, hρ⟩
        subst ht hρ
        have hj : j = pr.length ∧ pr.length < width := by
          have h1 := congrArg List.length hpr
          simp at h1
          have h2 : (List.range width)[pr.length]? = some j := by rw [hpr]; simp
          rw [List.getElem?_range (by omega)] at h2
          exact ⟨(Option.some.inj h2).symm, by omega⟩
        have hat : atI (row.map D.int) ((j : Nat) : Int) = some (.int (row.getD j 0)) := by
          refine atI_nat ?_
          rw [List.getElem?_map, List.getD_eq_getElem?_getD, List.getElem?_eq_getElem (by omega)]; rfl
        have hwj : wB (row.getD j 0) = true := by
          rw [List.getD_eq_getElem?_getD, List.getElem?_eq_getElem (by omega)]
          exact List.all_eq_true.mp hrw _ (List.getElem_mem _)
        have hxor : ∀ i : Int, xorD (.int i) (.int 1) = some (.sh (.int (Builtin.bitXor i 1))) := fun _ => rfl
        have hlt : (q.map D.int).length < big := by rw [List.length_map]; show _ < 1000000; omega
        refine ⟨_, rfl, ?_⟩
        walk_at "A"
        repeat (simp only [Int.zero_add, hat, hxor]; try walk_at "A")
        refine Al.btox (worthW_spec hp) fun r hr => ?_
        obtain ⟨i, hi, e⟩ := hr
        subst e
        walk_at "A"
        repeat (simp only [Int.zero_add, hat, hxor]; try walk_at "A")
        refine Al.btox (ofW_spec hp (ns := [row.getD j 0, row.getD j 0, row.getD j 0, Builtin.bitXor (row.getD j 0) 1, i]) (by simp) (by simp)) fun r hr => ?_
        obtain ⟨i3, hi3, e⟩ := hr
        subst e
        have hw3 : wB i3 = true := by
          simp only [List.mem_cons, List.not_mem_nil, or_false] at hi3
          rcases hi3 with e | e | e | e | e
          · rw [e]; exact hwj
          · rw [e]; exact hwj
          · rw [e]; exact hwj
          · rw [e]; exact xor1_i hwj
          · rw [e]; exact hi
        walk_at "A"
        repeat (simp only [hlt]; try walk_at "A")
        refine ⟨_, rfl, by simp; omega, q ++ [i3], some (.int (j : Nat)), by simp [hq], by rw [List.all_append, hqw]; simp [hw3], ?_⟩
        rw [List.map_append]
        simp
      case k =>
        intro ρ t ⟨ht, hpl, q, x5, hq, hqw, hρ⟩
        subst ht hρ
        rw [List.length_range] at hq
        have htup : ∀ l : List D, tupleD [.lst l] = some (.sh (.tup l)) := fun _ => rfl
        have hv4 : ∀ (i : Nat) (x : Option D), view1 [4] i (x.map VV.sh) = x := fun i x => by cases x <;> rfl
        have hf4 : ∀ (i : Nat) (x : Option D), frz1 [4] i (x.map VV.sh) = x.map VV.sh := fun i x => by cases x <;> rfl
        walk_at "A"
        repeat (simp only [hv4, hf4, htup]; try walk_at "A")
        exact ⟨q, hq, hqw, rfl⟩
end
end VK

namespace VK
open PySem PySem.Spec PyProof.Rows L2 VQ
theorem perm_mapG {α β : Type} {f : α → β} {m l : List β} (h : List.Perm m l) : ∀ xs : List α, m = xs.map f → ∃ ys : List α, ys.Perm xs ∧ l = ys.map f := by
  induction h with
  | nil => intro xs e; cases xs with
    | nil => exact ⟨[], .refl _, rfl⟩
    | cons => cases e
  | cons x _ ih => intro xs e; cases xs with
    | nil => cases e
    | cons y xs =>
      injection e with e1 e2
      obtain ⟨ys, h1, h2⟩ := ih xs e2
      exact ⟨y :: ys, h1.cons y, by rw [e1, h2]; rfl⟩
  | swap x y l => intro xs e; cases xs with
    | nil => cases e
    | cons a xs => cases xs with
      | nil => cases e
      | cons b xs =>
        injection e with e1 e2
        injection e2 with e2 e3
        exact ⟨b :: a :: xs, .swap .., by rw [e1, e2, e3]; rfl⟩
  | trans _ _ ih1 ih2 =>
    intro xs e
    obtain ⟨ys, h1, h2⟩ := ih1 xs e
    obtain ⟨zs, h3, h4⟩ := ih2 ys h2
    exact ⟨zs, h3.trans h1, h4⟩
section
variable {K : PySem.W.Frag} {M : WM K} {pull mixed : Dfs M} {s : M.S}
theorem okSs_of {n : Nat} : ∀ {l : List D}, (∀ d ∈ l, okS n d = true) → okSs n l = true
  | [], _ => rfl
  | d :: l, h => by
    show (okS n d && okSs n l) = true
    rw [h d (List.mem_cons_self ..), okSs_of fun e he => h e (List.mem_cons_of_mem _ he)]; rfl
theorem gap_ok (rs : List (List Int)) (p : List Int) (h5 : p.length ≤ 5) : okS 6 (gapG rs p) = true := by
  unfold gapG
  split
  · rfl
  · have hf := firstG_le rs p
    show (decide (_ ≤ 1000) && okSs 5 _) = true
    rw [Bool.and_eq_true]
    refine ⟨decide_eq_true (by simp; omega), okSs_of fun d hd => ?_⟩
    rcases List.mem_append.mp hd with hd | hd
    · rcases List.mem_append.mp hd with hd | hd
      · obtain ⟨i, _, e⟩ := List.mem_map.mp hd
        rw [← e]; rfl
      · rw [List.mem_singleton.mp hd]
        cases shortN (p.getD (firstG rs p) 0) (hangG rs p (firstG rs p)) <;> rfl
    · rw [(List.mem_replicate.mp hd).2]; rfl
theorem gap_mem {rs : List (List Int)} {p : List Int} (h : p ∈ rs) : gapG rs p = .non := by
  have h1 := firstG_ge (p := p) h
  rw [cp_self] at h1
  have h2 := firstG_le rs p
  unfold gapG
  rw [if_pos (by omega)]
theorem pure_k14 (hp : PullOk pull) (hfl : ∀ s, M.flat s = true) (hm : MixOk mixed) : Al (s_law_k14 M pull (w_law_rows M pull) (w_law_of M pull) (w_law_point_near M pull) (w_law_gap M) (w_law_same M 6) (w_gap M) mixed (none :: some (.sh (.obj 0)) :: List.replicate 6 none) s) (fun r => r.1 = .rt (.sh (.bl true))) (fun _ => False) := by
  have h4 : ∀ s, pull [.obj 0, .int 4] s = _ := hp 4 (by decide) (by decide)
  have hr4 : rng1 (.int 4) = some ((List.range 4).map fun k => .int (0 + (k : Nat))) := rng1_eq (n := 4) (by decide)
  unfold s_law_k14
  walk_at "A"
  unfold sFor
  walk_at "A"
  repeat (simp only [hr4]; try walk_at "A")
  refine loop_alw (List.range 4) (fun j => .int (0 + (j : Nat))) (fun pr ρ t => t = s ∧ ∃ (x2 x3 x4 x5 x6 x7 : Option D), ρ = [none, some (.sh (.obj 0)), x2.map VV.sh, x3.map VV.sh, x4.map VV.sh, x5.map VV.sh, x6.map VV.sh, x7.map VV.sh]) ⟨rfl, none, none, none, none, none, none, rfl⟩ ?h ?k
  case h =>
    intro pr j post hpr ρ t ⟨ht, x2, x3, x4, x5, x6, x7, hρ⟩
    subst ht hρ
    have hv1 : ∀ (i : Nat) (x : Option D), view1 [] i (x.map VV.sh) = x := fun i x => by cases x <;> rfl
    have hf1 : ∀ (i : Nat) (x : Option D), frz1 [] i (x.map VV.sh) = x.map VV.sh := fun i x => by cases x <;> rfl
    refine ⟨_, rfl, ?_⟩
    walk_at "A"
    repeat (simp only [hv1, hf1, h4]; try walk_at "A")
    refine .draw (by decide) fun c hc => ?_
    have hc1 : (1 : Int) + ((c : Nat) : Int) = ((c + 1 : Nat) : Int) := by omega
    repeat (simp only [add_ii, hc1, hv1, hf1]; try walk_at "A")
    refine Al.btox (ofW_spec hp (ns := [12, 12, 60]) (by simp) (by simp)) fun r hr => ?_
    obtain ⟨mi, hmi, e⟩ := hr
    subst e
    obtain ⟨most, hmost, e⟩ : ∃ most : Nat, most ≤ 60 ∧ mi = (most : Nat) := by
      simp only [List.mem_cons, List.not_mem_nil, or_false] at hmi
      rcases hmi with e | e | e
      · exact ⟨12, by omega, e⟩
      · exact ⟨12, by omega, e⟩
      · exact ⟨60, by omega, e⟩
    subst e
    walk_at "A"
    repeat (simp only [hv1, hf1]; try walk_at "A")
    refine Al.btox (rows_spec hp hfl (c + 1) most (by omega) (by omega)) fun r hr => ?_
    obtain ⟨rs, hrl, hrg, e⟩ := hr
    subst e
    walk_at "A"
    repeat (simp only [hv1, hf1]; try walk_at "A")
    refine Al.btox (near_spec hp rs (c + 1) (by omega) (by omega) hrg) fun r hr => ?_
    obtain ⟨p, hpl, hpw, e⟩ := hr
    subst e
    have hlist : ∀ l : List D, listD [.lst l] = some (.fr (.lst l)) := fun _ => rfl
    have hin := in_pts rs p
    have hrg2 : ∀ r ∈ rs, r.length = p.length ∧ r.all wB = true := fun r h => by rw [hpl]; exact hrg r h
    have hlg := fun t => lawGap_eq (M := M) (s := t) rs p hrg2 hpw (by omega) (by omega) (by omega)
    have hg := fun t => gap_eq (M := M) (s := t) rs p (fun r h => (hrg2 r h).1) (by omega) (by omega)
    have hsame := fun t => same_refl (M := M) (s := t) 6 (gapG rs p) (gap_ok rs p (by omega))
    have hne : neO (.lst (rs.map ptS)) (.lst (rs.map ptS)) = some false := by
      unfold neO
      rw [eqO_pts, beq_self_eq_true]; rfl
    have hdue : ∀ t, (if rs.contains p = true then G.ret (R.sh D.non, t) else w_law_gap M [.lst (rs.map ptS), ptS p] t) = G.ret (R.sh (gapG rs p), t) := fun t => by
      split
      · rename_i h
        rw [gap_mem (List.contains_iff_mem.mp h)]
      · exact hlg t
    walk_at "A"
    repeat (simp only [hv1, hf1, hlist, hin]; try walk_at "A")
    simp only [hdue]
    walk_at "A"
    repeat (simp only [hv1, hf1, hg, hsame, hne]; try walk_at "A")
    refine Al.btox (P := fun r => ∃ l' : List D, l'.Perm (rs.map ptS) ∧ r = (.fr (.lst l'), t)) ⟨hm _ t (by rw [List.length_map]; omega)⟩ fun r hr => ?_
    obtain ⟨l', hl', e⟩ := hr
    subst e
    obtain ⟨qs, hqs, e⟩ := perm_mapG hl'.symm rs rfl
    subst e
    have hg2 := fun t => gap_eq (M := M) (s := t) qs p (fun r h => (hrg2 r (hqs.mem_iff.mp h)).1) (by omega) (by rw [hqs.length_eq]; omega)
    rw [gapG_perm hqs p] at hg2
    walk_at "A"
    repeat (simp only [hv1, hf1, hg2, hsame]; try walk_at "A")
    exact ⟨_, rfl, some (.int (0 + (j : Nat))), some (.int ((c + 1 : Nat) : Int)), some (.lst (rs.map ptS)), some (ptS p), some (.lst (rs.map ptS)), some (gapG rs p), rfl⟩
  case k =>
    intro ρ t ⟨ht, x2, x3, x4, x5, x6, x7, hρ⟩
    subst ht hρ
    have hv1 : ∀ (i : Nat) (x : Option D), view1 [] i (x.map VV.sh) = x := fun i x => by cases x <;> rfl
    have hf1 : ∀ (i : Nat) (x : Option D), frz1 [] i (x.map VV.sh) = x.map VV.sh := fun i x => by cases x <;> rfl
    have g1 : ∀ t, w_gap M [.lst [], .tup [.int 3, .int 4]] t = .ret (.sh (.tup [.str [], .str []]), t) := fun t => (gap_eq (M := M) (s := t) [] [3, 4] (by simp) (by simp) (by simp)).trans (by rfl)
    have g2 : ∀ t, w_gap M [.lst [.tup [.int 3, .int 4]], .tup [.int 3, .int 5]] t = .ret (.sh (.tup [.str [48, 48, 48, 49, 49], .str [48, 48, 49, 48, 49]]), t) := fun t => (gap_eq (M := M) (s := t) [[3, 4]] [3, 5] (by simp) (by simp) (by simp)).trans (by rfl)
    have e1 : eqO (.tup [.str [], .str []]) (.tup [.str [], .str []]) = some true := eqO_refl (by decide)
    have e2 : eqO (.tup [.str [48, 48, 48, 49, 49], .str [48, 48, 49, 48, 49]]) (.tup [.str [48, 48, 48, 49, 49], .str [48, 48, 49, 48, 49]]) = some true := eqO_refl (by decide)
    walk_at "A"
    repeat (simp only [hv1, hf1, g1, g2, e1, e2]; try walk_at "A")
end
end VK

/-! printed by vg.py: the defs of k14, derived. -/
namespace VL
open PySem PySem.Spec PyProof.Rows L2 VQ VK
def top (i : Nat) : Stmt := PySem.Challenge.pw_voidquilt_k14_gaps_about_points.main.body.getD i (.Pass ⟨0, 0, 0, 0⟩)
abbrev st__law_bag : Stmt := top 8
abbrev st__law_pull : Stmt := top 9
abbrev st__law_of : Stmt := top 10
abbrev st__law_worth : Stmt := top 13
abbrev st__law_rows : Stmt := top 17
abbrev st__law_point : Stmt := top 15
abbrev st__law_point_near : Stmt := top 20
abbrev st__law_hanging : Stmt := top 18
abbrev st__law_figs : Stmt := top 14
abbrev st__law_box_of : Stmt := top 16
abbrev st__law_gap : Stmt := top 19
abbrev st__law_same : Stmt := top 12
abbrev st_figures_of : Stmt := top 2
abbrev st_common : Stmt := top 5
abbrev st_shortest_of : Stmt := top 3
abbrev st_gap : Stmt := top 6
abbrev st__law_mixed : Stmt := top 11
abbrev st_law : Stmt := top 21
section
variable {P : Program} {w : World} {K : PySem.W.Frag} {mg : Str → Option Value} {base : Heap} {M : WM K}
theorem sc__law_bag : FnScope ["_law_script"] ["_law_script"] (defScope st__law_bag) := ⟨rfl, rfl, rfl, by decide +kernel, rfl, by decide +kernel, by decide +kernel⟩
theorem sc__law_pull : FnScope ["_law_bag_here", "_law_size", "_law_cell", "_law_digit"] ["_law_bag_here", "_law_size"] (defScope st__law_pull) := ⟨rfl, rfl, rfl, by decide +kernel, rfl, by decide +kernel, by decide +kernel⟩
theorem sc__law_of : FnScope ["_law_bag_here", "_law_some"] ["_law_bag_here", "_law_some"] (defScope st__law_of) := ⟨rfl, rfl, rfl, by decide +kernel, rfl, by decide +kernel, by decide +kernel⟩
theorem sc__law_worth : FnScope ["_law_bag_here"] ["_law_bag_here"] (defScope st__law_worth) := ⟨rfl, rfl, rfl, by decide +kernel, rfl, by decide +kernel, by decide +kernel⟩
theorem sc__law_rows : FnScope ["_law_bag_here", "_law_width", "_law_most", "_law_found", "_law_few", "_law_k", "_law_row", "_law_at"] ["_law_bag_here", "_law_width", "_law_most"] (defScope st__law_rows) := ⟨rfl, rfl, rfl, by decide +kernel, rfl, by decide +kernel, by decide +kernel⟩
theorem sc__law_point : FnScope ["_law_bag_here", "_law_many", "_law_k"] ["_law_bag_here", "_law_many"] (defScope st__law_point) := ⟨rfl, rfl, rfl, by decide +kernel, rfl, by decide +kernel, by decide +kernel⟩
theorem sc__law_point_near : FnScope ["_law_bag_here", "_law_rows_here", "_law_width", "_law_row", "_law_found", "_law_k"] ["_law_bag_here", "_law_rows_here", "_law_width"] (defScope st__law_point_near) := ⟨rfl, rfl, rfl, by decide +kernel, rfl, by decide +kernel, by decide +kernel⟩
theorem sc__law_hanging : FnScope ["_law_rows_here", "_law_path", "_law_size", "_law_row"] ["_law_rows_here", "_law_path"] (defScope st__law_hanging) := ⟨rfl, rfl, rfl, by decide +kernel, rfl, by decide +kernel, by decide +kernel⟩
theorem sc__law_figs : FnScope ["_law_worth_here", "_law_found", "_law_at"] ["_law_worth_here"] (defScope st__law_figs) := ⟨rfl, rfl, rfl, by decide +kernel, rfl, by decide +kernel, by decide +kernel⟩
theorem sc__law_box_of : FnScope ["_law_point_here", "_law_worth_here"] ["_law_point_here"] (defScope st__law_box_of) := ⟨rfl, rfl, rfl, by decide +kernel, rfl, by decide +kernel, by decide +kernel⟩
theorem sc__law_gap : FnScope ["_law_rows_here", "_law_point_here", "_law_size", "_law_first", "_law_row", "_law_k", "_law_worths", "_law_own", "_law_cut", "_law_worth_here"] ["_law_rows_here", "_law_point_here"] (defScope st__law_gap) := ⟨rfl, rfl, rfl, by decide +kernel, rfl, by decide +kernel, by decide +kernel⟩
theorem sc__law_same : FnScope ["_law_found", "_law_due", "_law_at"] ["_law_found", "_law_due"] (defScope st__law_same) := ⟨rfl, rfl, rfl, by decide +kernel, rfl, by decide +kernel, by decide +kernel⟩
theorem sc_figures_of : FnScope ["worth", "many", "at"] ["worth", "many"] (defScope st_figures_of) := ⟨rfl, rfl, rfl, by decide +kernel, rfl, by decide +kernel, by decide +kernel⟩
theorem sc_common : FnScope ["one", "other", "at", "a", "b"] ["one", "other"] (defScope st_common) := ⟨rfl, rfl, rfl, by decide +kernel, rfl, by decide +kernel, by decide +kernel⟩
theorem sc_shortest_of : FnScope ["worth", "worths", "own", "others", "size", "one", "other"] ["worth", "worths"] (defScope st_shortest_of) := ⟨rfl, rfl, rfl, by decide +kernel, rfl, by decide +kernel, by decide +kernel⟩
theorem sc_gap : FnScope ["rows", "point", "first", "hanging", "known", "behind", "row", "worth"] ["rows", "point"] (defScope st_gap) := ⟨rfl, rfl, rfl, by decide +kernel, rfl, by decide +kernel, by decide +kernel⟩
theorem sc__law_mixed : FnScope ["_law_bag_here", "_law_some", "_law_left", "_law_one"] ["_law_bag_here", "_law_some"] (defScope st__law_mixed) := ⟨rfl, rfl, rfl, by decide +kernel, rfl, by decide +kernel, by decide +kernel⟩
theorem sc_law : FnScope ["_law_script", "_law_bag_here", "_law_turn", "_law_width", "_law_rows_here", "_law_point_here", "_law_handed", "_law_due"] ["_law_script"] (defScope st_law) := ⟨rfl, rfl, rfl, by decide +kernel, rfl, by decide +kernel, by decide +kernel⟩
theorem ok__law_of {f : Addr} {fd : FuncData} (F : Fun K "_law_of" "_law_of" st__law_of f fd) {f__law_pull : Dfs M} (c__law_pull : DefOk P w K mg base M 1 "_law_pull" 2 f__law_pull []) (b_len : mg "len" = none) : FnOk P w K mg base (L2.CX P w) (1 + 1) f fd ["_law_bag_here", "_law_some"] (spV M mg 2 (runD 2 (s_law_of M f__law_pull))) :=
  def_ok (N := ["_law_bag_here", "_law_some"]) (ss := s_law_of M f__law_pull) F sc__law_of rfl (by decide) fun cdv A outer s H E hr tk => (sss_one (ss_ret [] (ev_sh (ev_ix (ev_var 1) (ev_seen (ev_call c__law_pull hr tk (ea_cons (ev_var 0) (ea_cons (ev_seen (ev_fun call_len cd_len b_len bt_len (ea_cons (ev_var 1) ea_nil))) ea_nil))))))))
theorem ok__law_worth {f : Addr} {fd : FuncData} (F : Fun K "_law_worth" "_law_worth" st__law_worth f fd) {f__law_of : Dfs M} (c__law_of : DefOk P w K mg base M 2 "_law_of" 2 f__law_of []) {f__law_pull : Dfs M} (c__law_pull : DefOk P w K mg base M 1 "_law_pull" 2 f__law_pull []) : FnOk P w K mg base (L2.CX P w) (2 + 1) f fd ["_law_bag_here"] (spV M mg 1 (runD 1 (s_law_worth M f__law_of f__law_pull))) :=
  def_ok (N := ["_law_bag_here"]) (ss := s_law_worth M f__law_of f__law_pull) F sc__law_worth rfl (by decide) fun cdv A outer s H E hr tk => (sss_one (ss_ret [] (ev_call c__law_of hr tk (ea_cons (ev_var 0) (ea_cons (ev_seen (ev_lst (ea_cons (ev_seen (ev_call c__law_pull hr tk (ea_cons (ev_var 0) (ea_cons ev_int ea_nil)))) (ea_cons (ev_seen (ev_call c__law_pull hr tk (ea_cons (ev_var 0) (ea_cons ev_int ea_nil)))) (ea_cons (ev_seen (ev_call c__law_pull hr tk (ea_cons (ev_var 0) (ea_cons ev_int ea_nil)))) (ea_cons ev_int (ea_cons ev_int ea_nil))))))) ea_nil)))))
theorem ok__law_rows {f : Addr} {fd : FuncData} (F : Fun K "_law_rows" "_law_rows" st__law_rows f fd) {f__law_worth : Dfs M} (c__law_worth : DefOk P w K mg base M 3 "_law_worth" 1 f__law_worth []) {f__law_pull : Dfs M} (c__law_pull : DefOk P w K mg base M 1 "_law_pull" 2 f__law_pull []) {f__law_of : Dfs M} (c__law_of : DefOk P w K mg base M 2 "_law_of" 2 f__law_of []) (b_range : mg "range" = none) (b_tuple : mg "tuple" = none) : FnOk P w K mg base (L2.CX P w) (3 + 1) f fd ["_law_bag_here", "_law_width", "_law_most"] (spV M mg 3 (runD 8 (s_law_rows M f__law_worth f__law_pull f__law_of))) :=
  def_ok (N := ["_law_bag_here", "_law_width", "_law_most", "_law_found", "_law_few", "_law_k", "_law_row", "_law_at"]) (ss := s_law_rows M f__law_worth f__law_pull f__law_of) F sc__law_rows rfl (by decide) fun cdv A outer s H E hr tk => (sss_cons (ss_set 3 [] sc__law_rows.nd (ev_lst ea_nil))
    (sss_cons (ss_set 4 [] sc__law_rows.nd (ev_sh (ev_seen (ev_lc [("_law_k", 5)] rfl sc__law_rows.nd (it_range1 b_range ev_int) (blkOk_by (by show blkC ["_law_bag_here", "_law_width", "_law_most", "_law_found", "_law_few", "_law_k", "_law_row", "_law_at"] (defScope st__law_rows) _ _ = true; decide +kernel)) (fun _ _ _ _ _ => (cg_name 5 (by decide) sc__law_rows.nd)) (fun _ _ _ _ _ => tts_nil) (fun _ _ _ _ _ => (ev_seen (ev_call c__law_worth hr L2.takes0 (ea_cons (ev_var 0) ea_nil))))))))
    (sss_cons (ss_for [] (passes_of rfl) rfl (it_range1 b_range (ev_seen (ev_call c__law_pull hr tk (ea_cons (ev_var 0) (ea_cons (ev_seen (ev_bin or_add od_add (ev_var 2) ev_int)) ea_nil))))) (tg_name 5 sc__law_rows.nd) (sss_cons (ss_set 6 [] sc__law_rows.nd (ev_sh (ev_seen (ev_typ call_tuple_of cd_tuple b_tuple bt_tuple (ea_cons (ev_seen (ev_lc [("_law_at", 7)] rfl sc__law_rows.nd (it_range1 b_range (ev_var 1)) (blkOk_by (by show blkC ["_law_bag_here", "_law_width", "_law_most", "_law_found", "_law_few", "_law_k", "_law_row", "_law_at"] (defScope st__law_rows) _ _ = true; decide +kernel)) (fun _ _ _ _ _ => (cg_name 7 (by decide) sc__law_rows.nd)) (fun _ _ _ _ _ => tts_nil) (fun _ _ _ _ _ => (ev_seen (ev_call c__law_of hr L2.takes0 (ea_cons (ev_var 0) (ea_cons (ev_seen (ev_lst (ea_cons (ev_seen (ev_call c__law_of hr L2.takes0 (ea_cons (ev_var 0) (ea_cons (ev_var 4) ea_nil)))) (ea_cons (ev_seen (ev_call c__law_worth hr L2.takes0 (ea_cons (ev_var 0) ea_nil))) ea_nil)))) ea_nil))))))) ea_nil)))))
    (sss_one (ss_if [3] (tt_cmp2 (or_notin (un65 hr)) od_notin (ev_var 6) (ev_var 3)) (sss_one (ss_app 3 [] (ev_var 6))) sss_nil))))
    (sss_one (ss_retO 3)))))
theorem ok__law_point {f : Addr} {fd : FuncData} (F : Fun K "_law_point" "_law_point" st__law_point f fd) {f__law_worth : Dfs M} (c__law_worth : DefOk P w K mg base M 3 "_law_worth" 1 f__law_worth []) (b_tuple : mg "tuple" = none) (b_range : mg "range" = none) : FnOk P w K mg base (L2.CX P w) (3 + 1) f fd ["_law_bag_here", "_law_many"] (spV M mg 2 (runD 3 (s_law_point M f__law_worth))) :=
  def_ok (N := ["_law_bag_here", "_law_many", "_law_k"]) (ss := s_law_point M f__law_worth) F sc__law_point rfl (by decide) fun cdv A outer s H E hr tk => (sss_one (ss_ret [] (ev_typ call_tuple_of cd_tuple b_tuple bt_tuple (ea_cons (ev_seen (ev_lc [("_law_k", 2)] rfl sc__law_point.nd (it_range1 b_range (ev_var 1)) (blkOk_by (by show blkC ["_law_bag_here", "_law_many", "_law_k"] (defScope st__law_point) _ _ = true; decide +kernel)) (fun _ _ _ _ _ => (cg_name 2 (by decide) sc__law_point.nd)) (fun _ _ _ _ _ => tts_nil) (fun _ _ _ _ _ => (ev_seen (ev_call c__law_worth hr L2.takes0 (ea_cons (ev_var 0) ea_nil)))))) ea_nil))))
theorem ok__law_point_near {f : Addr} {fd : FuncData} (F : Fun K "_law_point_near" "_law_point_near" st__law_point_near f fd) {f__law_pull : Dfs M} (c__law_pull : DefOk P w K mg base M 1 "_law_pull" 2 f__law_pull []) {f__law_point : Dfs M} (c__law_point : DefOk P w K mg base M 4 "_law_point" 2 f__law_point []) {f__law_of : Dfs M} (c__law_of : DefOk P w K mg base M 2 "_law_of" 2 f__law_of []) {f__law_worth : Dfs M} (c__law_worth : DefOk P w K mg base M 3 "_law_worth" 1 f__law_worth []) (b_range : mg "range" = none) (b_tuple : mg "tuple" = none) : FnOk P w K mg base (L2.CX P w) (4 + 1) f fd ["_law_bag_here", "_law_rows_here", "_law_width"] (spV M mg 3 (runD 6 (s_law_point_near M f__law_pull f__law_point f__law_of f__law_worth))) :=
  def_ok (N := ["_law_bag_here", "_law_rows_here", "_law_width", "_law_row", "_law_found", "_law_k"]) (ss := s_law_point_near M f__law_pull f__law_point f__law_of f__law_worth) F sc__law_point_near rfl (by decide) fun cdv A outer s H E hr tk => (sss_cons (ss_if [] (L2.PW.pt (tw_or (tt_cmp2 (or_eq hr.units) od_eq (ev_var 1) (ev_seen (ev_lst ea_nil))) (tw_or1 (tt_cmp2 (or_eq hr.units) od_eq (ev_seen (ev_call c__law_pull hr tk (ea_cons (ev_var 0) (ea_cons ev_int ea_nil)))) ev_int)))) (sss_one (ss_ret [] (ev_call c__law_point hr tk (ea_cons (ev_var 0) (ea_cons (ev_var 2) ea_nil))))) sss_nil)
    (sss_cons (ss_set 3 [] sc__law_point_near.nd (ev_sh (ev_seen (ev_call c__law_of hr tk (ea_cons (ev_var 0) (ea_cons (ev_var 1) ea_nil))))))
    (sss_cons (ss_set 4 [] sc__law_point_near.nd (ev_lst ea_nil))
    (sss_cons (ss_for [] (passes_of rfl) rfl (it_range1 b_range (ev_var 2)) (tg_name 5 sc__law_point_near.nd) (sss_one (ss_app 4 [] (ev_seen (ev_call c__law_of hr tk (ea_cons (ev_var 0) (ea_cons (ev_seen (ev_lst (ea_cons (ev_ix (ev_var 3) (ev_var 5)) (ea_cons (ev_ix (ev_var 3) (ev_var 5)) (ea_cons (ev_ix (ev_var 3) (ev_var 5)) (ea_cons (ev_seen (ev_bin op_xor od_xor (ev_ix (ev_var 3) (ev_var 5)) ev_int)) (ea_cons (ev_seen (ev_call c__law_worth hr tk (ea_cons (ev_var 0) ea_nil))) ea_nil))))))) ea_nil)))))))
    (sss_one (ss_ret [4] (ev_typ call_tuple_of cd_tuple b_tuple bt_tuple (ea_cons (ev_var 4) ea_nil))))))))
theorem ok__law_hanging {f : Addr} {fd : FuncData} (F : Fun K "_law_hanging" "_law_hanging" st__law_hanging f fd) (b_len : mg "len" = none) (b_sorted : mg "sorted" = none) (b_set : mg "set" = none) (b_list : mg "list" = none) : FnOk P w K mg base (L2.CX P w) (0 + 1) f fd ["_law_rows_here", "_law_path"] (spV M mg 2 (runD 4 (s_law_hanging M))) :=
  def_ok (N := ["_law_rows_here", "_law_path", "_law_size", "_law_row"]) (ss := s_law_hanging M) F sc__law_hanging rfl (by decide) fun cdv A outer s H E hr tk => (sss_cons (ss_set 2 [] sc__law_hanging.nd (ev_sh (ev_seen (ev_fun call_len cd_len b_len bt_len (ea_cons (ev_var 1) ea_nil)))))
    (sss_one (ss_ret [] (ev_sortSet rfl b_sorted b_set (ev_seen (ev_lc [("_law_row", 3)] rfl sc__law_hanging.nd (it_any (ev_var 0)) (blkOk_by (by show blkC ["_law_rows_here", "_law_path", "_law_size", "_law_row"] (defScope st__law_hanging) _ _ = true; decide +kernel)) (fun _ _ _ _ _ => (cg_name 3 (by decide) sc__law_hanging.nd)) (fun _ _ _ _ _ => (tts_one (L2.PW.pt (tw_and (tt_cmp2 op_gt od_cmpI (ev_seen (ev_fun call_len cd_len b_len bt_len (ea_cons (ev_var 3) ea_nil))) (ev_var 2)) (tw_and1 (tt_cmp2 (or_eq hr.units) od_eq (ev_seen (ev_typ call_list_of cd_list b_list bt_list (ea_cons (ev_seen (ev_sl (ev_var 3) ep_none (ep_some (ev_var 2)))) ea_nil))) (ev_var 1))))))) (fun _ _ _ _ _ => (ev_ix (ev_var 3) (ev_var 2)))))))))
theorem ok__law_figs {f : Addr} {fd : FuncData} (F : Fun K "_law_figs" "_law_figs" st__law_figs f fd) (b_range : mg "range" = none) (b_str : mg "str" = none) : FnOk P w K mg base (L2.CX P w) (0 + 1) f fd ["_law_worth_here"] (spV M mg 1 (runD 3 (s_law_figs M))) :=
  def_ok (N := ["_law_worth_here", "_law_found", "_law_at"]) (ss := s_law_figs M) F sc__law_figs rfl (by decide) fun cdv A outer s H E hr tk => (sss_cons (ss_set 1 [] sc__law_figs.nd (ev_sh (ev_str [])))
    (sss_cons (ss_for [] (passes_of rfl) rfl (it_range1 b_range ev_int) (tg_name 2 sc__law_figs.nd) (sss_cons (ss_set 1 [] sc__law_figs.nd (ev_sh (ev_seen (ev_bin or_add od_add (ev_seen (ev_typ (call_str_int.or SkE.call_str_str) cd_str b_str bt_str (ea_cons (ev_seen (ev_bin op_mod od_mod (ev_var 0) ev_int)) ea_nil))) (ev_var 1)))))
    (sss_one (ss_set 0 [] sc__law_figs.nd (ev_sh (ev_seen (ev_bin op_fdiv od_fdiv (ev_var 0) ev_int)))))))
    (sss_one (ss_ret [] (ev_sh (ev_var 1))))))
theorem ok__law_box_of {f : Addr} {fd : FuncData} (F : Fun K "_law_box_of" "_law_box_of" st__law_box_of f fd) {f__law_figs : Dfs M} (c__law_figs : DefOk P w K mg base M 1 "_law_figs" 1 f__law_figs []) (b_tuple : mg "tuple" = none) : FnOk P w K mg base (L2.CX P w) (1 + 1) f fd ["_law_point_here"] (spV M mg 1 (runD 2 (s_law_box_of M f__law_figs))) :=
  def_ok (N := ["_law_point_here", "_law_worth_here"]) (ss := s_law_box_of M f__law_figs) F sc__law_box_of rfl (by decide) fun cdv A outer s H E hr tk => (sss_one (ss_ret [] (ev_typ call_tuple_of cd_tuple b_tuple bt_tuple (ea_cons (ev_seen (ev_lc [("_law_worth_here", 1)] rfl sc__law_box_of.nd (it_any (ev_var 0)) (blkOk_by (by show blkC ["_law_point_here", "_law_worth_here"] (defScope st__law_box_of) _ _ = true; decide +kernel)) (fun _ _ _ _ _ => (cg_name 1 (by decide) sc__law_box_of.nd)) (fun _ _ _ _ _ => tts_nil) (fun _ _ _ _ _ => (ev_seen (ev_call c__law_figs hr L2.takes0 (ea_cons (ev_var 1) ea_nil)))))) ea_nil))))
theorem ok__law_gap {f : Addr} {fd : FuncData} (F : Fun K "_law_gap" "_law_gap" st__law_gap f fd) {f__law_hanging : Dfs M} (c__law_hanging : DefOk P w K mg base M 1 "_law_hanging" 2 f__law_hanging []) {f__law_figs : Dfs M} (c__law_figs : DefOk P w K mg base M 1 "_law_figs" 1 f__law_figs []) {f__law_box_of : Dfs M} (c__law_box_of : DefOk P w K mg base M 2 "_law_box_of" 1 f__law_box_of []) (b_len : mg "len" = none) (b_range : mg "range" = none) (b_list : mg "list" = none) (b_any : mg "any" = none) : FnOk P w K mg base (L2.CX P w) (2 + 1) f fd ["_law_rows_here", "_law_point_here"] (spV M mg 2 (runD 10 (s_law_gap M f__law_hanging f__law_figs f__law_box_of))) :=
  def_ok (N := ["_law_rows_here", "_law_point_here", "_law_size", "_law_first", "_law_row", "_law_k", "_law_worths", "_law_own", "_law_cut", "_law_worth_here"]) (ss := s_law_gap M f__law_hanging f__law_figs f__law_box_of) F sc__law_gap rfl (by decide) fun cdv A outer s H E hr tk => (sss_cons (ss_set 2 [] sc__law_gap.nd (ev_sh (ev_seen (ev_fun call_len cd_len b_len bt_len (ea_cons (ev_var 1) ea_nil)))))
    (sss_cons (ss_set 3 [] sc__law_gap.nd (ev_sh ev_int))
    (sss_cons (ss_for [] (passes_of rfl) rfl (it_any (ev_var 0)) (tg_name 4 sc__law_gap.nd) (sss_one (ss_for [] (passes_of rfl) rfl (it_range1 b_range (ev_seen (ev_bin or_add od_add (ev_var 2) ev_int))) (tg_name 5 sc__law_gap.nd) (sss_one (ss_if [] (L2.PW.pt (tw_and (tt_cmp2 (or_eq hr.units) od_eq (ev_seen (ev_sl (ev_var 4) ep_none (ep_some (ev_var 5)))) (ev_seen (ev_sl (ev_var 1) ep_none (ep_some (ev_var 5))))) (tw_and1 (tt_cmp2 op_gt od_cmpI (ev_var 5) (ev_var 3))))) (sss_one (ss_set 3 [] sc__law_gap.nd (ev_sh (ev_var 5)))) sss_nil)))))
    (sss_cons (ss_if [] (L2.PW.pt (tw_or (tt_cmp2 (or_eq hr.units) od_eq (ev_var 3) (ev_var 2)) (tw_or1 (tt_cmp2 (or_eq hr.units) od_eq (ev_var 2) ev_int)))) (sss_one (ss_ret [] (ev_sh ev_non))) sss_nil)
    (sss_cons (ss_set 6 [] sc__law_gap.nd (ev_sh (ev_seen (ev_call c__law_hanging hr tk (ea_cons (ev_var 0) (ea_cons (ev_seen (ev_typ call_list_of cd_list b_list bt_list (ea_cons (ev_seen (ev_sl (ev_var 1) ep_none (ep_some (ev_var 3)))) ea_nil))) ea_nil))))))
    (sss_cons (ss_set 7 [] sc__law_gap.nd (ev_sh (ev_seen (ev_call c__law_figs hr tk (ea_cons (ev_ix (ev_var 1) (ev_var 3)) ea_nil)))))
    (sss_cons (ss_set 8 [] sc__law_gap.nd (ev_sh ev_int))
    (sss_cons (ss_while [] (passes_of rfl) (tt_val td_tru (ev_seen (ev_fun (cr_any rfl) cd_any b_any bt_any (ea_cons (ev_seen (ev_lc [("_law_worth_here", 9)] rfl sc__law_gap.nd (it_any (ev_var 6)) (blkOk_by (by show blkC ["_law_rows_here", "_law_point_here", "_law_size", "_law_first", "_law_row", "_law_k", "_law_worths", "_law_own", "_law_cut", "_law_worth_here"] (defScope st__law_gap) _ _ = true; decide +kernel)) (fun _ _ _ _ _ => (cg_name 9 (by decide) sc__law_gap.nd)) (fun _ _ _ _ _ => tts_nil) (fun _ _ _ _ _ => (ev_cmp (or_eq hr.units) (od_bl od_eq) (ev_seen (ev_sl (ev_seen (ev_call c__law_figs hr L2.takes0 (ea_cons (ev_var 9) ea_nil))) ep_none (ep_some (ev_var 8)))) (ev_seen (ev_sl (ev_var 7) ep_none (ep_some (ev_var 8)))))))) ea_nil)))) (sss_one (ss_set 8 [] sc__law_gap.nd (ev_sh (ev_seen (ev_bin or_add od_add (ev_var 8) ev_int))))))
    (sss_one (ss_ret [] (ev_bin or_add od_add (ev_seen (ev_bin or_add od_add (ev_seen (ev_call c__law_box_of hr tk (ea_cons (ev_seen (ev_sl (ev_var 1) ep_none (ep_some (ev_var 3)))) ea_nil))) (ev_tup (ea_cons (ev_seen (ev_sl (ev_var 7) ep_none (ep_some (ev_var 8)))) ea_nil)))) (ev_seen (ev_bin or_mul od_mul (ev_tup (ea_cons (ev_str []) ea_nil)) (ev_seen (ev_bin op_sub od_sub (ev_seen (ev_bin op_sub od_sub (ev_var 2) (ev_var 3))) ev_int)))))))))))))))
theorem ok__law_same {f : Addr} {fd : FuncData} {k : Nat} (hk : 0 ≤ k) (F : Fun K "_law_same" "_law_same" st__law_same f fd) {f__law_same : Dfs M} (c__law_same : DefOk P w K mg base M k "_law_same" 2 f__law_same []) (b_isinstance : mg "isinstance" = none) (b_bool : mg "bool" = none) (b_str : mg "str" = none) (b_int : mg "int" = none) (b_list : mg "list" = none) (b_tuple : mg "tuple" = none) (b_len : mg "len" = none) (b_all : mg "all" = none) (b_range : mg "range" = none) : FnOk P w K mg base (L2.CX P w) (k + 1) f fd ["_law_found", "_law_due"] (spV M mg 2 (runD 3 (s_law_same M f__law_same))) :=
  def_ok (N := ["_law_found", "_law_due", "_law_at"]) (ss := s_law_same M f__law_same) F sc__law_same rfl (by decide) fun cdv A outer s H E hr tk => (sss_cons (ss_if [] (tt_cmp2 op_isN od_is (ev_var 1) ev_non) (sss_one (ss_ret [] (ev_sh (ev_cmp op_isN (od_bl od_is) (ev_var 0) ev_non)))) sss_nil)
    (sss_cons (ss_if [] (L2.PW.pt (tw_or (tt_val td_tru (ev_isi .bool (ev_var 1) rfl rfl b_isinstance b_bool)) (tw_or1 (tt_val td_tru (ev_isi .bool (ev_var 0) rfl rfl b_isinstance b_bool))))) (sss_one (ss_ret [] (ev_sh (ev_and td_tru (ev_isi .bool (ev_var 1) rfl rfl b_isinstance b_bool) (ev_and td_tru (ev_isi .bool (ev_var 0) rfl rfl b_isinstance b_bool) (ev_one (ev_cmp (or_eq hr.units) (od_bl od_eq) (ev_var 0) (ev_var 1)))))))) sss_nil)
    (sss_cons (ss_if [] (tt_val td_tru (ev_isiT .int [.str] (ev_var 1) rfl (ea_ty .int (ea_ty .str ea_ty0 rfl b_str) rfl b_int) b_isinstance)) (sss_one (ss_ret [] (ev_sh (ev_and td_tru (ev_cmp (or_eq hr.units) (od_bl od_eq) (ev_isi .int (ev_var 0) rfl rfl b_isinstance b_int) (ev_isi .int (ev_var 1) rfl rfl b_isinstance b_int)) (ev_and td_tru (ev_isiT .int [.str] (ev_var 0) rfl (ea_ty .int (ea_ty .str ea_ty0 rfl b_str) rfl b_int) b_isinstance) (ev_one (ev_cmp (or_eq hr.units) (od_bl od_eq) (ev_var 0) (ev_var 1)))))))) sss_nil)
    (sss_cons (ss_if [] (L2.PW.pt (tw_or (tt_cmp2 (or_ne hr.units) od_ne (ev_isi .list (ev_var 0) rfl rfl b_isinstance b_list) (ev_isi .list (ev_var 1) rfl rfl b_isinstance b_list)) (tw_or1 (tt_cmp2 (or_ne hr.units) od_ne (ev_isi .tuple (ev_var 0) rfl rfl b_isinstance b_tuple) (ev_isi .tuple (ev_var 1) rfl rfl b_isinstance b_tuple))))) (sss_one (ss_ret [] (ev_sh ev_bl))) sss_nil)
    (sss_one (ss_ret [] (ev_sh (ev_and td_tru (ev_cmp (or_eq hr.units) (od_bl od_eq) (ev_seen (ev_fun call_len cd_len b_len bt_len (ea_cons (ev_var 0) ea_nil))) (ev_seen (ev_fun call_len cd_len b_len bt_len (ea_cons (ev_var 1) ea_nil)))) (ev_one (ev_seen (ev_fun (cr_all rfl) cd_all b_all bt_all (ea_cons (ev_seen (ev_lc [("_law_at", 2)] rfl sc__law_same.nd (it_range1 b_range (ev_seen (ev_fun call_len cd_len b_len bt_len (ea_cons (ev_var 1) ea_nil)))) (blkOk_by (by show blkC ["_law_found", "_law_due", "_law_at"] (defScope st__law_same) _ _ = true; decide +kernel)) (fun _ _ _ _ _ => (cg_name 2 (by decide) sc__law_same.nd)) (fun _ _ _ _ _ => tts_nil) (fun _ _ _ _ _ => (ev_seen (ev_call (hkj := Nat.le_refl _) c__law_same hr L2.takes0 (ea_cons (ev_ix (ev_var 0) (ev_var 2)) (ea_cons (ev_ix (ev_var 1) (ev_var 2)) ea_nil))))))) ea_nil))))))))))))
theorem ok_figures_of {f : Addr} {fd : FuncData} (F : Fun K "figures_of" "figures_of" st_figures_of f fd) (b_range : mg "range" = none) (b_reversed : mg "reversed" = none) (b_str : mg "str" = none) : FnOk P w K mg base (L2.CX P w) (0 + 1) f fd ["worth", "many"] (spV M mg 2 (runD 3 (s_figures_of M))) :=
  def_ok (N := ["worth", "many", "at"]) (ss := s_figures_of M) F sc_figures_of rfl (by decide) fun cdv A outer s H E hr tk => (sss_one (ss_ret [] (ev_join2 (ev_str []) (ev_seen (ev_lc [("at", 2)] rfl sc_figures_of.nd (it_rev1 b_range b_reversed (ev_var 1)) (blkOk_by (by show blkC ["worth", "many", "at"] (defScope st_figures_of) _ _ = true; decide +kernel)) (fun _ _ _ _ _ => (cg_name 2 (by decide) sc_figures_of.nd)) (fun _ _ _ _ _ => tts_nil) (fun _ _ _ _ _ => (ev_seen (ev_typ (call_str_int.or SkE.call_str_str) cd_str b_str bt_str (ea_cons (ev_seen (ev_bin op_and od_and (ev_seen (ev_bin op_shr od_shr (ev_var 0) (ev_var 2))) ev_int)) ea_nil)))))))))
theorem ok_common {f : Addr} {fd : FuncData} (F : Fun K "common" "common" st_common f fd) (b_enumerate : mg "enumerate" = none) (b_zip : mg "zip" = none) (b_len : mg "len" = none) : FnOk P w K mg base (L2.CX P w) (0 + 1) f fd ["one", "other"] (spV M mg 2 (runD 5 (s_common M))) :=
  def_ok (N := ["one", "other", "at", "a", "b"]) (ss := s_common M) F sc_common rfl (by decide) fun cdv A outer s H E hr tk => (sss_cons (ss_for [] (passes_of rfl) rfl (it_enumZ b_zip b_enumerate (ev_var 0) (ev_var 1)) (tg_tup 2 rfl (tgs_cons (tg_name 2 sc_common.nd) (tgs_cons (tg_tup 2 rfl (tgs_cons (tg_name 3 sc_common.nd) (tgs_cons (tg_name 4 sc_common.nd) tgs_nil))) tgs_nil))) (sss_one (ss_if [] (tt_cmp2 (or_ne hr.units) od_ne (ev_var 3) (ev_var 4)) (sss_one (ss_ret [] (ev_sh (ev_var 2)))) sss_nil)))
    (sss_one (ss_ret [] (ev_fun call_len cd_len b_len bt_len (ea_cons (ev_var 0) ea_nil)))))
theorem ok_shortest_of {f : Addr} {fd : FuncData} (F : Fun K "shortest_of" "shortest_of" st_shortest_of f fd) {f_figures_of : Dfs M} (c_figures_of : DefOk P w K mg base M 1 "figures_of" 2 f_figures_of [(.int 5)]) (b_range : mg "range" = none) (b_any : mg "any" = none) (g_FIGURES : GC mg "FIGURES" (.int 5)) : FnOk P w K mg base (L2.CX P w) (1 + 1) f fd ["worth", "worths"] (spV M mg 2 (runD 7 (s_shortest_of M f_figures_of))) :=
  def_ok (N := ["worth", "worths", "own", "others", "size", "one", "other"]) (ss := s_shortest_of M f_figures_of) F sc_shortest_of rfl (by decide) fun cdv A outer s H E hr tk => (sss_cons (ss_set 2 [] sc_shortest_of.nd (ev_sh (ev_seen (ev_call c_figures_of hr tk (ea_cons (ev_var 0) ea_nil)))))
    (sss_cons (ss_setLc 3 [] (lcp_lcS [("one", 5)] rfl sc_shortest_of.nd (it_any (ev_var 1)) (blkOk_by (by show blkC ["worth", "worths", "own", "others", "size", "one", "other"] (defScope st_shortest_of) _ _ = true; decide +kernel)) (fun _ _ _ _ _ => (cg_name 5 (by decide) sc_shortest_of.nd)) (fun _ _ _ _ _ => tts_nil) (fun _ _ _ _ _ => (ev_seen (ev_call c_figures_of hr L2.takes0 (ea_cons (ev_var 5) ea_nil))))))
    (sss_cons (ss_for [] (passes_of rfl) rfl (it_range1 b_range (ev_seen (ev_bin or_add od_add (ev_gc g_FIGURES) ev_int))) (tg_name 4 sc_shortest_of.nd) (sss_one (ss_if [] (tt_not (tt_val td_tru (ev_seen (ev_fun (cr_any rfl) cd_any b_any bt_any (ea_cons (ev_seen (ev_lc [("other", 6)] rfl sc_shortest_of.nd (it_any (ev_var 3)) (blkOk_by (by show blkC ["worth", "worths", "own", "others", "size", "one", "other"] (defScope st_shortest_of) _ _ = true; decide +kernel)) (fun _ _ _ _ _ => (cg_name 6 (by decide) sc_shortest_of.nd)) (fun _ _ _ _ _ => tts_nil) (fun _ _ _ _ _ => (ev_seen (ev_starts2 (ev_var 6) (ev_seen (ev_sl (ev_var 2) ep_none (ep_some (ev_var 4))))))))) ea_nil))))) (sss_one (ss_ret [] (ev_sl (ev_var 2) ep_none (ep_some (ev_var 4))))) sss_nil)))
    (sss_one (ss_ret [] (ev_sh ev_non))))))
theorem ok_gap {f : Addr} {fd : FuncData} (F : Fun K "gap" "gap" st_gap f fd) {f_common : Dfs M} (c_common : DefOk P w K mg base M 1 "common" 2 f_common []) {f_figures_of : Dfs M} (c_figures_of : DefOk P w K mg base M 1 "figures_of" 2 f_figures_of [(.int 5)]) {f_shortest_of : Dfs M} (c_shortest_of : DefOk P w K mg base M 2 "shortest_of" 2 f_shortest_of []) (b_max : mg "max" = none) (b_len : mg "len" = none) (b_tuple : mg "tuple" = none) : FnOk P w K mg base (L2.CX P w) (2 + 1) f fd ["rows", "point"] (spV M mg 2 (runD 8 (s_gap M f_common f_figures_of f_shortest_of))) :=
  def_ok (N := ["rows", "point", "first", "hanging", "known", "behind", "row", "worth"]) (ss := s_gap M f_common f_figures_of f_shortest_of) F sc_gap rfl (by decide) fun cdv A outer s H E hr tk => (sss_cons (ss_set 2 [] sc_gap.nd (ev_sh (ev_seen (ev_maxD rfl b_max (ev_seen (ev_lc [("row", 6)] rfl sc_gap.nd (it_any (ev_var 0)) (blkOk_by (by show blkC ["rows", "point", "first", "hanging", "known", "behind", "row", "worth"] (defScope st_gap) _ _ = true; decide +kernel)) (fun _ _ _ _ _ => (cg_name 6 (by decide) sc_gap.nd)) (fun _ _ _ _ _ => tts_nil) (fun _ _ _ _ _ => (ev_seen (ev_call c_common hr L2.takes0 (ea_cons (ev_var 6) (ea_cons (ev_var 1) ea_nil)))))))))))
    (sss_cons (ss_if [] (tt_cmp2 (or_eq hr.units) od_eq (ev_var 2) (ev_seen (ev_fun call_len cd_len b_len bt_len (ea_cons (ev_var 1) ea_nil)))) (sss_one (ss_ret [] (ev_sh ev_non))) sss_nil)
    (sss_cons (ss_setLc 3 [] (lcp_lcS [("row", 6)] rfl sc_gap.nd (it_any (ev_var 0)) (blkOk_by (by show blkC ["rows", "point", "first", "hanging", "known", "behind", "row", "worth"] (defScope st_gap) _ _ = true; decide +kernel)) (fun _ _ _ _ _ => (cg_name 6 (by decide) sc_gap.nd)) (fun _ _ _ _ _ => (tts_one (tt_cmp2 (or_eq hr.units) od_eq (ev_seen (ev_typ call_tuple_of cd_tuple b_tuple bt_tuple (ea_cons (ev_seen (ev_sl (ev_var 6) ep_none (ep_some (ev_var 2)))) ea_nil))) (ev_seen (ev_typ call_tuple_of cd_tuple b_tuple bt_tuple (ea_cons (ev_seen (ev_sl (ev_var 1) ep_none (ep_some (ev_var 2)))) ea_nil)))))) (fun _ _ _ _ _ => (ev_ix (ev_var 6) (ev_var 2)))))
    (sss_cons (ss_setLc 4 [] (lcp_lcS [("worth", 7)] rfl sc_gap.nd (it_any (ev_seen (ev_sl (ev_var 1) ep_none (ep_some (ev_var 2))))) (blkOk_by (by show blkC ["rows", "point", "first", "hanging", "known", "behind", "row", "worth"] (defScope st_gap) _ _ = true; decide +kernel)) (fun _ _ _ _ _ => (cg_name 7 (by decide) sc_gap.nd)) (fun _ _ _ _ _ => tts_nil) (fun _ _ _ _ _ => (ev_seen (ev_call c_figures_of hr L2.takes0 (ea_cons (ev_var 7) ea_nil))))))
    (sss_cons (ss_set 5 [] sc_gap.nd (ev_sh (ev_seen (ev_bin or_mul od_mul (ev_seen (ev_lst (ea_cons (ev_str []) ea_nil))) (ev_seen (ev_bin op_sub od_sub (ev_seen (ev_bin op_sub od_sub (ev_seen (ev_fun call_len cd_len b_len bt_len (ea_cons (ev_var 1) ea_nil))) (ev_var 2))) ev_int))))))
    (sss_one (ss_ret [] (ev_typ call_tuple_of cd_tuple b_tuple bt_tuple (ea_cons (ev_seen (ev_bin or_add od_add (ev_seen (ev_bin or_add od_add (ev_var 4) (ev_seen (ev_lst (ea_cons (ev_seen (ev_call c_shortest_of hr tk (ea_cons (ev_ix (ev_var 1) (ev_var 2)) (ea_cons (ev_var 3) ea_nil)))) ea_nil))))) (ev_var 5))) ea_nil)))))))))
end
section
variable {P : Program} {w : World} {K : PySem.W.Frag} {mg : Str → Option Value} {base : Heap} {b l : Addr} {T : List (Addr × Str)} {I : IW K}
theorem pit {X : Cx} {x : Str} {i : Int} {j : Nat} {p1 p2 p3 : Pos} (hN : X.N[0]? = some x := by rfl) (hv : Vis X.env.scope x := by exact Or.inl rfl) (hd : (x == ("__debug__" : Str)) = false := by decide)
    (hcd : (x == ("__classdict__" : Str)) = false := by decide) : PE X (.Subscript (.Name x p1) (.Constant (.int i) j p2) p3) (pIt X.K i) := pe_ix ix_list (pe_var hN hv hd hcd) pe_int (by intro _ _; rfl)
theorem ok__law_pull {f : Addr} {fd : FuncData} (F : Fun K "_law_pull" "_law_pull" st__law_pull f fd) (b_len : mg "len" = none) : FnOk P w K mg base (L2.CX P w) 1 f fd ["_law_bag_here", "_law_size"] (spV (bagW K b l T I) mg 2 pullS) :=
  pull_ok F sc__law_pull fun cdv A outer s H E =>
    pss_cons (ps_if (L2.PW.pt (pw_and (pt_cmpR op_lt pit (pv 1) rfl) (pw_and1 (pt_cmpR op_lt pit (pe_callB call_len rfl b_len bt_len (pa_cons pit pa_nil)) rfl))))
      (pss_cons (ps_asg (pe_ix ix_list pit pit (by intro _ _; rfl)) (pg_name sc__law_pull.nd rfl (.inl rfl)))
        (pss_cons (ps_asg (pe_op op_add pit pe_int) (pg_sub (pv 0) pe_int set_list))
          (pss_cons (ps_asg (pe_ifExp (pt_cmpR op_ge (pv 2) (pe_op op_pow pe_int pe_int) rfl) (pe_op op_sub (pv 2) (pe_op op_pow pe_int pe_int)) pe_int) (pg_sub (pv 0) pe_int set_list))
            (pss_one (ps_asg (pe_op op_mod (pe_op op_add (pe_op op_add (pe_op op_mul pit pe_int) (pe_op op_mul (pv 2) pe_int)) pit) pe_int) (pg_sub (pv 0) pe_int set_list)))))) pss_nil)
    (pss_cons (ps_if (pt_cmpR op_ge pit (pv 1) rfl)
      (pss_cons (ps_asg (pe_op op_mod pit (pv 1)) (pg_name sc__law_pull.nd rfl (.inl rfl)))
        (pss_cons (ps_asg (pe_op op_fdiv pit (pv 1)) (pg_sub (pv 0) pe_int set_list))
          (pss_one (ps_ret (pv 3))))) pss_nil)
    (pss_cons (ps_asg (pe_op op_add pit pe_int) (pg_sub (pv 0) pe_int set_list))
    (pss_cons (ps_asg (pe_op op_mod (pe_op op_add (pe_op op_add (pe_op op_add (pe_op op_pow pit pe_int) (pe_op op_mul pe_int pit)) (pe_op op_fdiv pit pe_int)) pe_int) pe_int) (pg_sub (pv 0) pe_int set_list))
    (pss_one (ps_ret (pe_op op_mod (pe_op op_fdiv pit pe_int) (pv 1)))))))
theorem ok__law_bag {f : Addr} {fd : FuncData} (F : Fun K "_law_bag" "_law_bag" st__law_bag f fd) (b_list : mg "list" = none) : FnOk P w K mg base (L2.CX P w) 1 f fd ["_law_script"] (spBag K) :=
  bag_ok F sc__law_bag fun cdv A outer s H E =>
    pss_one (ps_ret (pe_lst (pa_cons (pe_callTy call_list_of rfl b_list bt_list (pa_cons (pe_slice sl_list (pv 0) po_none (po_some pe_int)) pa_nil)) (pa_cons pe_int (pa_cons pe_int (pa_cons pe_int (pa_cons pe_int pa_nil)))))))
end
section
variable {P : Program} {w : World} {K : PySem.W.Frag} {mg : Str → Option Value} {base : Heap} {M : WM K}
theorem ok__law_mixed {f : Addr} {fd : FuncData} (F : Fun K "_law_mixed" "_law_mixed" st__law_mixed f fd) {fs : Dfs M} (c : DefOk P w K mg base M 1 "_law_pull" 2 fs []) (b_len : mg "len" = none) (b_list : mg "list" = none) : FnOk P w K mg base (L2.CX P w) 2 f fd ["_law_bag_here", "_law_some"] (spV M mg 2 (mixedD fs)) :=
  def_ok (N := ["_law_bag_here", "_law_some", "_law_left", "_law_one"]) (ss := sSeq (sSet 2 [] (eFun listD (eCons (eVar M 1) (eNil (M := M))))) (sMix fs 0 1 2)) F sc__law_mixed rfl (by decide) fun cdv A outer s H E hr tk =>
  sss_cons (ss_set 2 [] sc__law_mixed.nd (ev_typ call_list_of cd_list b_list bt_list (ea_cons (ev_var 1) ea_nil))) (sss_one (ss_mix 0 1 2 3 [("_law_one", 3)] rfl sc__law_mixed.nd (blkOk_by (by show blkC ["_law_bag_here", "_law_some", "_law_left", "_law_one"] (defScope st__law_mixed) _ _ = true; decide +kernel)) c hr b_len (by decide) (by decide) (by decide) (by decide) (by decide) (by decide) (it_any (ev_var 1)) (fun _ _ _ _ _ => pg_name sc__law_mixed.nd rfl (.inl rfl)) (fun _ _ _ _ _ => pe_mix 0 2 c hr L2.takes0 b_len rfl rfl (by first | exact Or.inl rfl | exact Or.inr (Or.inl rfl) | exact Or.inr (Or.inr rfl)) (by first | exact Or.inl rfl | exact Or.inr (Or.inl rfl) | exact Or.inr (Or.inr rfl)) (by decide) (by decide) (by decide) (by decide) (by decide) rfl rfl rfl rfl rfl rfl rfl rfl rfl rfl rfl rfl) (by intro _; rfl)))
end
end VL

namespace VL
open PySem PySem.Spec PyProof.Rows L2 VQ VK LamX
section
variable {P : Program} {w : World} {K : PySem.W.Frag} {mg : Str → Option Value} {base : Heap}
end
section
variable {P : Program} {w : World} {K : PySem.W.Frag} {mg : Str → Option Value} {base : Heap}
theorem d_law {M : WM K} {f__law_pull : Dfs M} (c__law_pull : DefOk P w K mg base M 1 "_law_pull" 2 f__law_pull []) {f__law_rows : Dfs M} (c__law_rows : DefOk P w K mg base M 4 "_law_rows" 3 f__law_rows []) {f__law_of : Dfs M} (c__law_of : DefOk P w K mg base M 2 "_law_of" 2 f__law_of []) {f__law_point_near : Dfs M} (c__law_point_near : DefOk P w K mg base M 5 "_law_point_near" 3 f__law_point_near []) {f__law_gap : Dfs M} (c__law_gap : DefOk P w K mg base M 3 "_law_gap" 2 f__law_gap []) {f__law_same : Dfs M} (c__law_same : DefOk P w K mg base M 6 "_law_same" 2 f__law_same []) {f_gap : Dfs M} (c_gap : DefOk P w K mg base M 3 "gap" 2 f_gap []) {f__law_mixed : Dfs M} (c__law_mixed : DefOk P w K mg base M 2 "_law_mixed" 2 f__law_mixed []) (b_range : mg "range" = none) (b_list : mg "list" = none) {cdv : Value} {f : Addr} {A : Around} {outer : List Env} {s : Shared} {H : Hp} {E : XK} (hr : Room 9 (A.deeper (envOfC "law" (defScope st_law) s.heap.objs.size f cdv))) (tk : Takes (cxOf (L2.CX P w) P w K mg base ["_law_script", "_law_bag_here", "_law_turn", "_law_width", "_law_rows_here", "_law_point_here", "_law_handed", "_law_due"] "law" (defScope st_law) f cdv A outer s H E) (fun cls d _ H => E cls d H)) :
    PSs (cxOf (L2.CX P w) P w K mg base ["_law_script", "_law_bag_here", "_law_turn", "_law_width", "_law_rows_here", "_law_point_here", "_law_handed", "_law_due"] "law" (defScope st_law) f cdv A outer s H E) (defBody st_law).tail (tS M mg (fun cls d _ H => E cls d H) (s_law_k14 M f__law_pull f__law_rows f__law_of f__law_point_near f__law_gap f__law_same f_gap f__law_mixed)) :=
  (sss_cons (ss_for [] (passes_of rfl) rfl (it_range1 b_range ev_int) (tg_name 2 sc_law.nd) (sss_cons (ss_set 3 [] sc_law.nd (ev_sh (ev_seen (ev_bin or_add od_add ev_int (ev_seen (ev_call c__law_pull hr tk (ea_cons (ev_var 1) (ea_cons ev_int ea_nil))))))))
    (sss_cons (ss_set 4 [] sc_law.nd (ev_sh (ev_seen (ev_call c__law_rows hr tk (ea_cons (ev_var 1) (ea_cons (ev_var 3) (ea_cons (ev_seen (ev_call c__law_of hr tk (ea_cons (ev_var 1) (ea_cons (ev_seen (ev_lst (ea_cons ev_int (ea_cons ev_int (ea_cons ev_int ea_nil))))) ea_nil)))) ea_nil)))))))
    (sss_cons (ss_set 5 [] sc_law.nd (ev_sh (ev_seen (ev_call c__law_point_near hr tk (ea_cons (ev_var 1) (ea_cons (ev_var 4) (ea_cons (ev_var 3) ea_nil)))))))
    (sss_cons (ss_set 6 [] sc_law.nd (ev_sh (ev_seen (ev_typ call_list_of cd_list b_list bt_list (ea_cons (ev_var 4) ea_nil)))))
    (sss_cons (ss_set 7 [] sc_law.nd (ev_sh (ev_seen (ev_ifR (tt_cmp2 (or_in (un65 hr)) od_in (ev_var 5) (ev_var 4)) (ev_sh ev_non) (ev_call c__law_gap hr tk (ea_cons (ev_var 4) (ea_cons (ev_var 5) ea_nil)))))))
    (sss_cons (ss_if [] (L2.PW.pt (tw_or (tt_not (tt_val td_tru (ev_seen (ev_call c__law_same hr tk (ea_cons (ev_seen (ev_call c_gap hr tk (ea_cons (ev_var 6) (ea_cons (ev_var 5) ea_nil)))) (ea_cons (ev_var 7) ea_nil)))))) (tw_or1 (tt_cmp2 (or_ne hr.units) od_ne (ev_var 6) (ev_var 4))))) (sss_one (ss_ret [] (ev_sh ev_bl))) sss_nil)
    (sss_one (ss_if [] (tt_not (tt_val td_tru (ev_seen (ev_call c__law_same hr tk (ea_cons (ev_seen (ev_call c_gap hr tk (ea_cons (ev_seen (ev_call c__law_mixed hr tk (ea_cons (ev_var 1) (ea_cons (ev_var 4) ea_nil)))) (ea_cons (ev_var 5) ea_nil)))) (ea_cons (ev_var 7) ea_nil)))))) (sss_one (ss_ret [] (ev_sh ev_bl))) sss_nil)))))))))
    (sss_one (ss_ret [] (ev_sh (ev_and td_tru (ev_cmp (or_eq hr.units) (od_bl od_eq) (ev_seen (ev_call c_gap hr tk (ea_cons (ev_seen (ev_lst ea_nil)) (ea_cons (ev_tup (ea_cons ev_int (ea_cons ev_int ea_nil))) ea_nil)))) (ev_tup (ea_cons (ev_str []) (ea_cons (ev_str []) ea_nil)))) (ev_one (ev_cmp (or_eq hr.units) (od_bl od_eq) (ev_seen (ev_call c_gap hr tk (ea_cons (ev_seen (ev_lst (ea_cons (ev_tup (ea_cons ev_int (ea_cons ev_int ea_nil))) ea_nil))) (ea_cons (ev_tup (ea_cons ev_int (ea_cons ev_int ea_nil))) ea_nil)))) (ev_tup (ea_cons (ev_str [48, 48, 48, 49, 49]) (ea_cons (ev_str [48, 48, 49, 48, 49]) ea_nil))))))))))
end
end VL

namespace VL
open PySem PySem.Spec PyProof.Rows L2 VQ VK LamX
variable {K : PySem.W.Frag}
theorem exm_of {cls : Value} {S : Addr} {v : Bool} (h1 : PySem.W.subIn K (.ref S) (.type "BaseException") = some true) (h2 : PySem.W.isClsIn K S = true) (h3 : PySem.W.typeIn K (.ref S) = some (.type "type")) (h4 : PySem.W.subIn K cls (.ref S) = some v) : PySem.W.exmOne K cls (.ref S) = some v := by
  have e1 : (PySem.W.subIn K (.ref S) (.type "BaseException") == some true) = true := by rw [h1] <;> rfl
  have e2 : ((PySem.W.clsIn K S).isSome && PySem.W.typeIn K (.ref S) == some (.type "type")) = true := by
    have h2' : (PySem.W.clsIn K S).isSome = true := h2
    rw [h2', h3] <;> rfl
  show (if (PySem.W.subIn K (.ref S) (.type "BaseException") == some true) = true then (if ((PySem.W.clsIn K S).isSome && PySem.W.typeIn K (.ref S) == some (.type "type")) = true then PySem.W.subIn K cls (.ref S) else none) else none) = some v
  rw [if_pos e1, if_pos e2]
  exact h4
theorem any_nil {cls : Value} : PySem.W.exmAny K cls [] = some false := rfl
theorem any_cons {cls c : Value} {r : List Value} {b d : Bool} (h1 : PySem.W.exmOne K cls c = some b) (h2 : PySem.W.exmAny K cls r = some d) : PySem.W.exmAny K cls (c :: r) = some (b || d) := by
  unfold PySem.W.exmAny
  rw [h1, h2]
theorem all_mk {l : PySem.W.OpenLaw} {w : World} {h : Heap} {mg : Str → Option Value} {fa : Addr} {g__law_bag : Addr} {od__law_bag an__law_bag : Option Addr} {sl__law_bag : Array (Option Value)} {oc__law_bag kV__law_bag dc__law_bag pm__law_bag cd__law_bag ct__law_bag : Value} {g__law_pull : Addr} {od__law_pull an__law_pull : Option Addr} {sl__law_pull : Array (Option Value)} {oc__law_pull kV__law_pull dc__law_pull pm__law_pull cd__law_pull ct__law_pull : Value} {g__law_of : Addr} {od__law_of an__law_of : Option Addr} {sl__law_of : Array (Option Value)} {oc__law_of kV__law_of dc__law_of pm__law_of cd__law_of ct__law_of : Value} {g__law_worth : Addr} {od__law_worth an__law_worth : Option Addr} {sl__law_worth : Array (Option Value)} {oc__law_worth kV__law_worth dc__law_worth pm__law_worth cd__law_worth ct__law_worth : Value} {g__law_rows : Addr} {od__law_rows an__law_rows : Option Addr} {sl__law_rows : Array (Option Value)} {oc__law_rows kV__law_rows dc__law_rows pm__law_rows cd__law_rows ct__law_rows : Value} {g__law_point : Addr} {od__law_point an__law_point : Option Addr} {sl__law_point : Array (Option Value)} {oc__law_point kV__law_point dc__law_point pm__law_point cd__law_point ct__law_point : Value} {g__law_point_near : Addr} {od__law_point_near an__law_point_near : Option Addr} {sl__law_point_near : Array (Option Value)} {oc__law_point_near kV__law_point_near dc__law_point_near pm__law_point_near cd__law_point_near ct__law_point_near : Value} {g__law_hanging : Addr} {od__law_hanging an__law_hanging : Option Addr} {sl__law_hanging : Array (Option Value)} {oc__law_hanging kV__law_hanging dc__law_hanging pm__law_hanging cd__law_hanging ct__law_hanging : Value} {g__law_figs : Addr} {od__law_figs an__law_figs : Option Addr} {sl__law_figs : Array (Option Value)} {oc__law_figs kV__law_figs dc__law_figs pm__law_figs cd__law_figs ct__law_figs : Value} {g__law_box_of : Addr} {od__law_box_of an__law_box_of : Option Addr} {sl__law_box_of : Array (Option Value)} {oc__law_box_of kV__law_box_of dc__law_box_of pm__law_box_of cd__law_box_of ct__law_box_of : Value} {g__law_gap : Addr} {od__law_gap an__law_gap : Option Addr} {sl__law_gap : Array (Option Value)} {oc__law_gap kV__law_gap dc__law_gap pm__law_gap cd__law_gap ct__law_gap : Value} {g__law_same : Addr} {od__law_same an__law_same : Option Addr} {sl__law_same : Array (Option Value)} {oc__law_same kV__law_same dc__law_same pm__law_same cd__law_same ct__law_same : Value} {g_figures_of : Addr} {od_figures_of an_figures_of : Option Addr} {sl_figures_of : Array (Option Value)} {oc_figures_of kV_figures_of dc_figures_of pm_figures_of cd_figures_of ct_figures_of : Value} {g_common : Addr} {od_common an_common : Option Addr} {sl_common : Array (Option Value)} {oc_common kV_common dc_common pm_common cd_common ct_common : Value} {g_shortest_of : Addr} {od_shortest_of an_shortest_of : Option Addr} {sl_shortest_of : Array (Option Value)} {oc_shortest_of kV_shortest_of dc_shortest_of pm_shortest_of cd_shortest_of ct_shortest_of : Value} {g_gap : Addr} {od_gap an_gap : Option Addr} {sl_gap : Array (Option Value)} {oc_gap kV_gap dc_gap pm_gap cd_gap ct_gap : Value} {g__law_mixed : Addr} {od__law_mixed an__law_mixed : Option Addr} {sl__law_mixed : Array (Option Value)} {oc__law_mixed kV__law_mixed dc__law_mixed pm__law_mixed cd__law_mixed ct__law_mixed : Value} {g_law : Addr} {od_law an_law : Option Addr} {sl_law : Array (Option Value)} {oc_law kV_law dc_law pm_law cd_law ct_law : Value} {t_FIGURES : Tok} {D_figures_of_many : Addr} {tk_figures_of_many : Tok} (X : K.In h) (G : h.Ns mainGlobals mg) (hfa : mg "law" = some (.ref fa)) (hTab : ∀ c P, PySem.W.tabIn K "law" = some (c, P) → PySem.W.CodeHd h c P ∧ h.get? P = some { cls := .none, data := .fields #[] })
    (a__law_bag : PySem.W.nsIn K mainGlobals "_law_bag" = some (some (.ref g__law_bag)))
    (l__law_bag : K.lookup g__law_bag = some ⟨oc__law_bag, od__law_bag, .func (PySem.W.fnOf "_law_bag" "_law_bag" (defArgs st__law_bag) (defBody st__law_bag) (defScope st__law_bag) .none kV__law_bag dc__law_bag pm__law_bag an__law_bag cd__law_bag ct__law_bag), sl__law_bag⟩)
    (c__law_bag : PySem.W.codeIn K cd__law_bag "_law_bag" = true)
    (k__law_bag : PySem.W.keepIn K (.ref g__law_bag) = true)
    (a__law_pull : PySem.W.nsIn K mainGlobals "_law_pull" = some (some (.ref g__law_pull)))
    (l__law_pull : K.lookup g__law_pull = some ⟨oc__law_pull, od__law_pull, .func (PySem.W.fnOf "_law_pull" "_law_pull" (defArgs st__law_pull) (defBody st__law_pull) (defScope st__law_pull) .none kV__law_pull dc__law_pull pm__law_pull an__law_pull cd__law_pull ct__law_pull), sl__law_pull⟩)
    (c__law_pull : PySem.W.codeIn K cd__law_pull "_law_pull" = true)
    (k__law_pull : PySem.W.keepIn K (.ref g__law_pull) = true)
    (a__law_of : PySem.W.nsIn K mainGlobals "_law_of" = some (some (.ref g__law_of)))
    (l__law_of : K.lookup g__law_of = some ⟨oc__law_of, od__law_of, .func (PySem.W.fnOf "_law_of" "_law_of" (defArgs st__law_of) (defBody st__law_of) (defScope st__law_of) .none kV__law_of dc__law_of pm__law_of an__law_of cd__law_of ct__law_of), sl__law_of⟩)
    (c__law_of : PySem.W.codeIn K cd__law_of "_law_of" = true)
    (k__law_of : PySem.W.keepIn K (.ref g__law_of) = true)
    (a__law_worth : PySem.W.nsIn K mainGlobals "_law_worth" = some (some (.ref g__law_worth)))
    (l__law_worth : K.lookup g__law_worth = some ⟨oc__law_worth, od__law_worth, .func (PySem.W.fnOf "_law_worth" "_law_worth" (defArgs st__law_worth) (defBody st__law_worth) (defScope st__law_worth) .none kV__law_worth dc__law_worth pm__law_worth an__law_worth cd__law_worth ct__law_worth), sl__law_worth⟩)
    (c__law_worth : PySem.W.codeIn K cd__law_worth "_law_worth" = true)
    (k__law_worth : PySem.W.keepIn K (.ref g__law_worth) = true)
    (a__law_rows : PySem.W.nsIn K mainGlobals "_law_rows" = some (some (.ref g__law_rows)))
    (l__law_rows : K.lookup g__law_rows = some ⟨oc__law_rows, od__law_rows, .func (PySem.W.fnOf "_law_rows" "_law_rows" (defArgs st__law_rows) (defBody st__law_rows) (defScope st__law_rows) .none kV__law_rows dc__law_rows pm__law_rows an__law_rows cd__law_rows ct__law_rows), sl__law_rows⟩)
    (c__law_rows : PySem.W.codeIn K cd__law_rows "_law_rows" = true)
    (k__law_rows : PySem.W.keepIn K (.ref g__law_rows) = true)
    (a__law_point : PySem.W.nsIn K mainGlobals "_law_point" = some (some (.ref g__law_point)))
    (l__law_point : K.lookup g__law_point = some ⟨oc__law_point, od__law_point, .func (PySem.W.fnOf "_law_point" "_law_point" (defArgs st__law_point) (defBody st__law_point) (defScope st__law_point) .none kV__law_point dc__law_point pm__law_point an__law_point cd__law_point ct__law_point), sl__law_point⟩)
    (c__law_point : PySem.W.codeIn K cd__law_point "_law_point" = true)
    (k__law_point : PySem.W.keepIn K (.ref g__law_point) = true)
    (a__law_point_near : PySem.W.nsIn K mainGlobals "_law_point_near" = some (some (.ref g__law_point_near)))
    (l__law_point_near : K.lookup g__law_point_near = some ⟨oc__law_point_near, od__law_point_near, .func (PySem.W.fnOf "_law_point_near" "_law_point_near" (defArgs st__law_point_near) (defBody st__law_point_near) (defScope st__law_point_near) .none kV__law_point_near dc__law_point_near pm__law_point_near an__law_point_near cd__law_point_near ct__law_point_near), sl__law_point_near⟩)
    (c__law_point_near : PySem.W.codeIn K cd__law_point_near "_law_point_near" = true)
    (k__law_point_near : PySem.W.keepIn K (.ref g__law_point_near) = true)
    (a__law_hanging : PySem.W.nsIn K mainGlobals "_law_hanging" = some (some (.ref g__law_hanging)))
    (l__law_hanging : K.lookup g__law_hanging = some ⟨oc__law_hanging, od__law_hanging, .func (PySem.W.fnOf "_law_hanging" "_law_hanging" (defArgs st__law_hanging) (defBody st__law_hanging) (defScope st__law_hanging) .none kV__law_hanging dc__law_hanging pm__law_hanging an__law_hanging cd__law_hanging ct__law_hanging), sl__law_hanging⟩)
    (c__law_hanging : PySem.W.codeIn K cd__law_hanging "_law_hanging" = true)
    (k__law_hanging : PySem.W.keepIn K (.ref g__law_hanging) = true)
    (a__law_figs : PySem.W.nsIn K mainGlobals "_law_figs" = some (some (.ref g__law_figs)))
    (l__law_figs : K.lookup g__law_figs = some ⟨oc__law_figs, od__law_figs, .func (PySem.W.fnOf "_law_figs" "_law_figs" (defArgs st__law_figs) (defBody st__law_figs) (defScope st__law_figs) .none kV__law_figs dc__law_figs pm__law_figs an__law_figs cd__law_figs ct__law_figs), sl__law_figs⟩)
    (c__law_figs : PySem.W.codeIn K cd__law_figs "_law_figs" = true)
    (k__law_figs : PySem.W.keepIn K (.ref g__law_figs) = true)
    (a__law_box_of : PySem.W.nsIn K mainGlobals "_law_box_of" = some (some (.ref g__law_box_of)))
    (l__law_box_of : K.lookup g__law_box_of = some ⟨oc__law_box_of, od__law_box_of, .func (PySem.W.fnOf "_law_box_of" "_law_box_of" (defArgs st__law_box_of) (defBody st__law_box_of) (defScope st__law_box_of) .none kV__law_box_of dc__law_box_of pm__law_box_of an__law_box_of cd__law_box_of ct__law_box_of), sl__law_box_of⟩)
    (c__law_box_of : PySem.W.codeIn K cd__law_box_of "_law_box_of" = true)
    (k__law_box_of : PySem.W.keepIn K (.ref g__law_box_of) = true)
    (a__law_gap : PySem.W.nsIn K mainGlobals "_law_gap" = some (some (.ref g__law_gap)))
    (l__law_gap : K.lookup g__law_gap = some ⟨oc__law_gap, od__law_gap, .func (PySem.W.fnOf "_law_gap" "_law_gap" (defArgs st__law_gap) (defBody st__law_gap) (defScope st__law_gap) .none kV__law_gap dc__law_gap pm__law_gap an__law_gap cd__law_gap ct__law_gap), sl__law_gap⟩)
    (c__law_gap : PySem.W.codeIn K cd__law_gap "_law_gap" = true)
    (k__law_gap : PySem.W.keepIn K (.ref g__law_gap) = true)
    (a__law_same : PySem.W.nsIn K mainGlobals "_law_same" = some (some (.ref g__law_same)))
    (l__law_same : K.lookup g__law_same = some ⟨oc__law_same, od__law_same, .func (PySem.W.fnOf "_law_same" "_law_same" (defArgs st__law_same) (defBody st__law_same) (defScope st__law_same) .none kV__law_same dc__law_same pm__law_same an__law_same cd__law_same ct__law_same), sl__law_same⟩)
    (c__law_same : PySem.W.codeIn K cd__law_same "_law_same" = true)
    (k__law_same : PySem.W.keepIn K (.ref g__law_same) = true)
    (a_figures_of : PySem.W.nsIn K mainGlobals "figures_of" = some (some (.ref g_figures_of)))
    (l_figures_of : K.lookup g_figures_of = some ⟨oc_figures_of, od_figures_of, .func (PySem.W.fnOf "figures_of" "figures_of" (defArgs st_figures_of) (defBody st_figures_of) (defScope st_figures_of) .none kV_figures_of dc_figures_of pm_figures_of an_figures_of cd_figures_of ct_figures_of), sl_figures_of⟩)
    (c_figures_of : PySem.W.codeIn K cd_figures_of "figures_of" = true)
    (k_figures_of : PySem.W.keepIn K (.ref g_figures_of) = true)
    (a_common : PySem.W.nsIn K mainGlobals "common" = some (some (.ref g_common)))
    (l_common : K.lookup g_common = some ⟨oc_common, od_common, .func (PySem.W.fnOf "common" "common" (defArgs st_common) (defBody st_common) (defScope st_common) .none kV_common dc_common pm_common an_common cd_common ct_common), sl_common⟩)
    (c_common : PySem.W.codeIn K cd_common "common" = true)
    (k_common : PySem.W.keepIn K (.ref g_common) = true)
    (a_shortest_of : PySem.W.nsIn K mainGlobals "shortest_of" = some (some (.ref g_shortest_of)))
    (l_shortest_of : K.lookup g_shortest_of = some ⟨oc_shortest_of, od_shortest_of, .func (PySem.W.fnOf "shortest_of" "shortest_of" (defArgs st_shortest_of) (defBody st_shortest_of) (defScope st_shortest_of) .none kV_shortest_of dc_shortest_of pm_shortest_of an_shortest_of cd_shortest_of ct_shortest_of), sl_shortest_of⟩)
    (c_shortest_of : PySem.W.codeIn K cd_shortest_of "shortest_of" = true)
    (k_shortest_of : PySem.W.keepIn K (.ref g_shortest_of) = true)
    (a_gap : PySem.W.nsIn K mainGlobals "gap" = some (some (.ref g_gap)))
    (l_gap : K.lookup g_gap = some ⟨oc_gap, od_gap, .func (PySem.W.fnOf "gap" "gap" (defArgs st_gap) (defBody st_gap) (defScope st_gap) .none kV_gap dc_gap pm_gap an_gap cd_gap ct_gap), sl_gap⟩)
    (c_gap : PySem.W.codeIn K cd_gap "gap" = true)
    (k_gap : PySem.W.keepIn K (.ref g_gap) = true)
    (a__law_mixed : PySem.W.nsIn K mainGlobals "_law_mixed" = some (some (.ref g__law_mixed)))
    (l__law_mixed : K.lookup g__law_mixed = some ⟨oc__law_mixed, od__law_mixed, .func (PySem.W.fnOf "_law_mixed" "_law_mixed" (defArgs st__law_mixed) (defBody st__law_mixed) (defScope st__law_mixed) .none kV__law_mixed dc__law_mixed pm__law_mixed an__law_mixed cd__law_mixed ct__law_mixed), sl__law_mixed⟩)
    (c__law_mixed : PySem.W.codeIn K cd__law_mixed "_law_mixed" = true)
    (k__law_mixed : PySem.W.keepIn K (.ref g__law_mixed) = true)
    (a_law : PySem.W.nsIn K mainGlobals "law" = some (some (.ref g_law)))
    (l_law : K.lookup g_law = some ⟨oc_law, od_law, .func (PySem.W.fnOf "law" "law" (defArgs st_law) (defBody st_law) (defScope st_law) .none kV_law dc_law pm_law an_law cd_law ct_law), sl_law⟩)
    (c_law : PySem.W.codeIn K cd_law "law" = true)
    (k_law : PySem.W.keepIn K (.ref g_law) = true)
    (b_len : PySem.W.nsIn K mainGlobals "len" = some none)
    (b_range : PySem.W.nsIn K mainGlobals "range" = some none)
    (b_tuple : PySem.W.nsIn K mainGlobals "tuple" = some none)
    (b_sorted : PySem.W.nsIn K mainGlobals "sorted" = some none)
    (b_set : PySem.W.nsIn K mainGlobals "set" = some none)
    (b_list : PySem.W.nsIn K mainGlobals "list" = some none)
    (b_str : PySem.W.nsIn K mainGlobals "str" = some none)
    (b_any : PySem.W.nsIn K mainGlobals "any" = some none)
    (b_isinstance : PySem.W.nsIn K mainGlobals "isinstance" = some none)
    (b_bool : PySem.W.nsIn K mainGlobals "bool" = some none)
    (b_int : PySem.W.nsIn K mainGlobals "int" = some none)
    (b_all : PySem.W.nsIn K mainGlobals "all" = some none)
    (b_reversed : PySem.W.nsIn K mainGlobals "reversed" = some none)
    (b_enumerate : PySem.W.nsIn K mainGlobals "enumerate" = some none)
    (b_zip : PySem.W.nsIn K mainGlobals "zip" = some none)
    (b_max : PySem.W.nsIn K mainGlobals "max" = some none)
    (g_FIGURES : PySem.W.nsIn K mainGlobals "FIGURES" = some (some (.int 5 t_FIGURES)))
    (kv_figures_of_many : kV_figures_of = .ref D_figures_of_many)
    (kd_figures_of_many : PySem.W.nsIn K D_figures_of_many "many" = some (some (.int 5 tk_figures_of_many)))
    : LawAtS l w K (L2.CX l.prog w) 10 63 "_law_script" mg fa h := by
  have e := hfa.symm.trans (PySem.W.mg_of X G a_law)
  cases e
  subst kv_figures_of_many
  refine ⟨PySem.W.fnOf "law" "law" (defArgs st_law) (defBody st_law) (defScope st_law) .none kV_law dc_law pm_law an_law cd_law ct_law, [], spLaw K [], fun r hr => (by cases hr), fun r hr => (by cases hr), fun r hr => (by cases hr), fun s u => .of_eq rfl, fun H a ns hl _ hT hS => ⟨a, ns, rfl, hS, hl, fun r hr => (by cases hr), fun _ => rfl⟩, fun base KB GB TB => ?_⟩
  have F__law_bag := fun_mk (st := st__law_bag) l__law_bag c__law_bag k__law_bag
  have m__law_bag := PySem.W.mg_of X G a__law_bag
  have B__law_bag := F__law_bag.binds (ps := ["_law_script"]) fun _ _ _ _ _ _ us hl => match us, hl with | [_], _ => rfl
  have F__law_pull := fun_mk (st := st__law_pull) l__law_pull c__law_pull k__law_pull
  have m__law_pull := PySem.W.mg_of X G a__law_pull
  have B__law_pull := F__law_pull.binds (ps := ["_law_bag_here", "_law_size"]) fun _ _ _ _ _ _ us hl => match us, hl with | [_, _], _ => rfl
  have F__law_of := fun_mk (st := st__law_of) l__law_of c__law_of k__law_of
  have m__law_of := PySem.W.mg_of X G a__law_of
  have B__law_of := F__law_of.binds (ps := ["_law_bag_here", "_law_some"]) fun _ _ _ _ _ _ us hl => match us, hl with | [_, _], _ => rfl
  have F__law_worth := fun_mk (st := st__law_worth) l__law_worth c__law_worth k__law_worth
  have m__law_worth := PySem.W.mg_of X G a__law_worth
  have B__law_worth := F__law_worth.binds (ps := ["_law_bag_here"]) fun _ _ _ _ _ _ us hl => match us, hl with | [_], _ => rfl
  have F__law_rows := fun_mk (st := st__law_rows) l__law_rows c__law_rows k__law_rows
  have m__law_rows := PySem.W.mg_of X G a__law_rows
  have B__law_rows := F__law_rows.binds (ps := ["_law_bag_here", "_law_width", "_law_most"]) fun _ _ _ _ _ _ us hl => match us, hl with | [_, _, _], _ => rfl
  have F__law_point := fun_mk (st := st__law_point) l__law_point c__law_point k__law_point
  have m__law_point := PySem.W.mg_of X G a__law_point
  have B__law_point := F__law_point.binds (ps := ["_law_bag_here", "_law_many"]) fun _ _ _ _ _ _ us hl => match us, hl with | [_, _], _ => rfl
  have F__law_point_near := fun_mk (st := st__law_point_near) l__law_point_near c__law_point_near k__law_point_near
  have m__law_point_near := PySem.W.mg_of X G a__law_point_near
  have B__law_point_near := F__law_point_near.binds (ps := ["_law_bag_here", "_law_rows_here", "_law_width"]) fun _ _ _ _ _ _ us hl => match us, hl with | [_, _, _], _ => rfl
  have F__law_hanging := fun_mk (st := st__law_hanging) l__law_hanging c__law_hanging k__law_hanging
  have m__law_hanging := PySem.W.mg_of X G a__law_hanging
  have B__law_hanging := F__law_hanging.binds (ps := ["_law_rows_here", "_law_path"]) fun _ _ _ _ _ _ us hl => match us, hl with | [_, _], _ => rfl
  have F__law_figs := fun_mk (st := st__law_figs) l__law_figs c__law_figs k__law_figs
  have m__law_figs := PySem.W.mg_of X G a__law_figs
  have B__law_figs := F__law_figs.binds (ps := ["_law_worth_here"]) fun _ _ _ _ _ _ us hl => match us, hl with | [_], _ => rfl
  have F__law_box_of := fun_mk (st := st__law_box_of) l__law_box_of c__law_box_of k__law_box_of
  have m__law_box_of := PySem.W.mg_of X G a__law_box_of
  have B__law_box_of := F__law_box_of.binds (ps := ["_law_point_here"]) fun _ _ _ _ _ _ us hl => match us, hl with | [_], _ => rfl
  have F__law_gap := fun_mk (st := st__law_gap) l__law_gap c__law_gap k__law_gap
  have m__law_gap := PySem.W.mg_of X G a__law_gap
  have B__law_gap := F__law_gap.binds (ps := ["_law_rows_here", "_law_point_here"]) fun _ _ _ _ _ _ us hl => match us, hl with | [_, _], _ => rfl
  have F__law_same := fun_mk (st := st__law_same) l__law_same c__law_same k__law_same
  have m__law_same := PySem.W.mg_of X G a__law_same
  have B__law_same := F__law_same.binds (ps := ["_law_found", "_law_due"]) fun _ _ _ _ _ _ us hl => match us, hl with | [_, _], _ => rfl
  have F_figures_of := fun_mk (st := st_figures_of) l_figures_of c_figures_of k_figures_of
  have m_figures_of := PySem.W.mg_of X G a_figures_of
  have FD_figures_of : FunD K "figures_of" "figures_of" (defArgs st_figures_of) (defBody st_figures_of) (defScope st_figures_of) [] [("many", V.int 5)] g_figures_of _ := ⟨⟨_, _, _, _, _, _, _, _, _, _, rfl, l_figures_of, c_figures_of, .inl ⟨rfl, rfl⟩, .inr ⟨D_figures_of_many, rfl, fun q hq => by rw [List.mem_singleton.mp hq]; exact ⟨_, kd_figures_of_many, ⟨_, rfl⟩⟩⟩⟩, k_figures_of⟩
  obtain ⟨ds_figures_of, vs_figures_of, B_figures_of⟩ := FD_figures_of.binds0 (ps := ["worth", "many"]) 1 (by simp) rfl fun D doc pm an cdv ct us ks h1 h2 => match us, h1, ks, h2 with | [_], _, [_], _ => ⟨_, _, _, _, _, _, rfl, rfl, rfl⟩
  have F_common := fun_mk (st := st_common) l_common c_common k_common
  have m_common := PySem.W.mg_of X G a_common
  have B_common := F_common.binds (ps := ["one", "other"]) fun _ _ _ _ _ _ us hl => match us, hl with | [_, _], _ => rfl
  have F_shortest_of := fun_mk (st := st_shortest_of) l_shortest_of c_shortest_of k_shortest_of
  have m_shortest_of := PySem.W.mg_of X G a_shortest_of
  have B_shortest_of := F_shortest_of.binds (ps := ["worth", "worths"]) fun _ _ _ _ _ _ us hl => match us, hl with | [_, _], _ => rfl
  have F_gap := fun_mk (st := st_gap) l_gap c_gap k_gap
  have m_gap := PySem.W.mg_of X G a_gap
  have B_gap := F_gap.binds (ps := ["rows", "point"]) fun _ _ _ _ _ _ us hl => match us, hl with | [_, _], _ => rfl
  have F__law_mixed := fun_mk (st := st__law_mixed) l__law_mixed c__law_mixed k__law_mixed
  have m__law_mixed := PySem.W.mg_of X G a__law_mixed
  have B__law_mixed := F__law_mixed.binds (ps := ["_law_bag_here", "_law_some"]) fun _ _ _ _ _ _ us hl => match us, hl with | [_, _], _ => rfl
  have mb_len := PySem.W.mg_none_of X G b_len
  have mb_range := PySem.W.mg_none_of X G b_range
  have mb_tuple := PySem.W.mg_none_of X G b_tuple
  have mb_sorted := PySem.W.mg_none_of X G b_sorted
  have mb_set := PySem.W.mg_none_of X G b_set
  have mb_list := PySem.W.mg_none_of X G b_list
  have mb_str := PySem.W.mg_none_of X G b_str
  have mb_any := PySem.W.mg_none_of X G b_any
  have mb_isinstance := PySem.W.mg_none_of X G b_isinstance
  have mb_bool := PySem.W.mg_none_of X G b_bool
  have mb_int := PySem.W.mg_none_of X G b_int
  have mb_all := PySem.W.mg_none_of X G b_all
  have mb_reversed := PySem.W.mg_none_of X G b_reversed
  have mb_enumerate := PySem.W.mg_none_of X G b_enumerate
  have mb_zip := PySem.W.mg_none_of X G b_zip
  have mb_max := PySem.W.mg_none_of X G b_max
  have gc_FIGURES : GC mg "FIGURES" (.int 5) := .int (PySem.W.mg_of X G g_FIGURES)
  have c__law_pull : ∀ b l0 : Addr, DefOk l.prog w K mg base (bagM K b l0 []) 1 "_law_pull" 2 (pullS : Dfs (bagM K b l0 [])) [] := fun b l0 => DefOk.of F__law_pull m__law_pull B__law_pull (ok__law_pull F__law_pull mb_len)
  have c__law_of : ∀ b l0 : Addr, DefOk l.prog w K mg base (bagM K b l0 []) 2 "_law_of" 2 (w_law_of (bagM K b l0 []) pullS) [] := fun b l0 => DefOk.of F__law_of m__law_of B__law_of (ok__law_of F__law_of (c__law_pull b l0) mb_len)
  have c__law_worth : ∀ b l0 : Addr, DefOk l.prog w K mg base (bagM K b l0 []) 3 "_law_worth" 1 (w_law_worth (bagM K b l0 []) pullS) [] := fun b l0 => DefOk.of F__law_worth m__law_worth B__law_worth (ok__law_worth F__law_worth (c__law_of b l0) (c__law_pull b l0))
  have c__law_rows : ∀ b l0 : Addr, DefOk l.prog w K mg base (bagM K b l0 []) 4 "_law_rows" 3 (w_law_rows (bagM K b l0 []) pullS) [] := fun b l0 => DefOk.of F__law_rows m__law_rows B__law_rows (ok__law_rows F__law_rows (c__law_worth b l0) (c__law_pull b l0) (c__law_of b l0) mb_range mb_tuple)
  have c__law_point : ∀ b l0 : Addr, DefOk l.prog w K mg base (bagM K b l0 []) 4 "_law_point" 2 (w_law_point (bagM K b l0 []) pullS) [] := fun b l0 => DefOk.of F__law_point m__law_point B__law_point (ok__law_point F__law_point (c__law_worth b l0) mb_tuple mb_range)
  have c__law_point_near : ∀ b l0 : Addr, DefOk l.prog w K mg base (bagM K b l0 []) 5 "_law_point_near" 3 (w_law_point_near (bagM K b l0 []) pullS) [] := fun b l0 => DefOk.of F__law_point_near m__law_point_near B__law_point_near (ok__law_point_near F__law_point_near (c__law_pull b l0) (c__law_point b l0) (c__law_of b l0) (c__law_worth b l0) mb_range mb_tuple)
  have c__law_hanging : ∀ b l0 : Addr, DefOk l.prog w K mg base (bagM K b l0 []) 1 "_law_hanging" 2 (w_law_hanging (bagM K b l0 [])) [] := fun b l0 => DefOk.of F__law_hanging m__law_hanging B__law_hanging (ok__law_hanging F__law_hanging mb_len mb_sorted mb_set mb_list)
  have c__law_figs : ∀ b l0 : Addr, DefOk l.prog w K mg base (bagM K b l0 []) 1 "_law_figs" 1 (w_law_figs (bagM K b l0 [])) [] := fun b l0 => DefOk.of F__law_figs m__law_figs B__law_figs (ok__law_figs F__law_figs mb_range mb_str)
  have c__law_box_of : ∀ b l0 : Addr, DefOk l.prog w K mg base (bagM K b l0 []) 2 "_law_box_of" 1 (w_law_box_of (bagM K b l0 [])) [] := fun b l0 => DefOk.of F__law_box_of m__law_box_of B__law_box_of (ok__law_box_of F__law_box_of (c__law_figs b l0) mb_tuple)
  have c__law_gap : ∀ b l0 : Addr, DefOk l.prog w K mg base (bagM K b l0 []) 3 "_law_gap" 2 (w_law_gap (bagM K b l0 [])) [] := fun b l0 => DefOk.of F__law_gap m__law_gap B__law_gap (ok__law_gap F__law_gap (c__law_hanging b l0) (c__law_figs b l0) (c__law_box_of b l0) mb_len mb_range mb_list mb_any)
  have c__law_same0 : ∀ (b l0 : Addr) (n : Nat), DefOk l.prog w K mg base (bagM K b l0 []) (n) "_law_same" 2 (w_law_same (bagM K b l0 []) n) [] := fun b l0 n => by
    induction n with
    | zero => exact DefOk.of F__law_same m__law_same B__law_same (fn_bad rfl)
    | succ n ih => exact DefOk.of F__law_same m__law_same B__law_same (ok__law_same (k := n + 0) (by omega) F__law_same ih mb_isinstance mb_bool mb_str mb_int mb_list mb_tuple mb_len mb_all mb_range)
  have c__law_same := fun b l0 => c__law_same0 b l0 6
  have c_figures_of : ∀ b l0 : Addr, DefOk l.prog w K mg base (bagM K b l0 []) 1 "figures_of" 2 (w_figures_of (bagM K b l0 [])) [(.int 5)] := fun b l0 => DefOk.ofD F_figures_of m_figures_of B_figures_of vs_figures_of (fun _ _ => .cons rfl .nil) (ok_figures_of F_figures_of mb_range mb_reversed mb_str)
  have c_common : ∀ b l0 : Addr, DefOk l.prog w K mg base (bagM K b l0 []) 1 "common" 2 (w_common (bagM K b l0 [])) [] := fun b l0 => DefOk.of F_common m_common B_common (ok_common F_common mb_enumerate mb_zip mb_len)
  have c_shortest_of : ∀ b l0 : Addr, DefOk l.prog w K mg base (bagM K b l0 []) 2 "shortest_of" 2 (w_shortest_of (bagM K b l0 [])) [] := fun b l0 => DefOk.of F_shortest_of m_shortest_of B_shortest_of (ok_shortest_of F_shortest_of (c_figures_of b l0) mb_range mb_any gc_FIGURES)
  have c_gap : ∀ b l0 : Addr, DefOk l.prog w K mg base (bagM K b l0 []) 3 "gap" 2 (w_gap (bagM K b l0 [])) [] := fun b l0 => DefOk.of F_gap m_gap B_gap (ok_gap F_gap (c_common b l0) (c_figures_of b l0) (c_shortest_of b l0) mb_max mb_len mb_tuple)
  have c__law_mixed : ∀ b l0 : Addr, DefOk l.prog w K mg base (bagM K b l0 []) 2 "_law_mixed" 2 (mixedD (M := (bagM K b l0 [])) pullS) [] := fun b l0 => DefOk.of F__law_mixed m__law_mixed B__law_mixed (ok__law_mixed F__law_mixed (c__law_pull b l0) mb_len mb_list)
  exact law_okW (I := noI K) (T := []) l_law c_law sc_law rfl rfl rfl (.inl rfl) (by first | exact .inl rfl | exact .inr rfl) (by decide) (by decide) rfl m__law_bag F__law_bag.kp B__law_bag (ok__law_bag F__law_bag mb_list) (by decide) rfl (fun b l0 A outer s H E hr tk => d_law (M := bagM K b l0 []) (c__law_pull b l0) (c__law_rows b l0) (c__law_of b l0) (c__law_point_near b l0) (c__law_gap b l0) (c__law_same b l0) (c_gap b l0) (c__law_mixed b l0) mb_range mb_list hr tk) begin_no (fun b l0 => ⟨(pure_k14 pull_bag (fun _ => rfl) (mixed_ok pull_bag)).out⟩)
end VL

open PySem PySem.W PyProof.Rows L2
set_option maxRecDepth 100000 in
set_option maxHeartbeats 0 in
theorem PySem.Challenge.cw_voidquilt_k14_gaps_about_points_holds : PySem.Challenge.rw_voidquilt_k14_gaps_about_points.Holds := by
  w_on; o_law; k_head; (case hw => w_witness2)
  k_fill
  refine VQ.walk_tab (l := PySem.Challenge.rw_voidquilt_k14_gaps_about_points) (n := 63) (k := 10) (x := "_law_script") (CX := fun w => L2.CX PySem.Challenge.rw_voidquilt_k14_gaps_about_points.prog w) rfl (by decide) rfl ⟨rfl, by decide, by decide⟩ (fun w h Y => by first | exact PySem.W.km_in_of Y | exact PySem.W.kIn_of Y) ?hd ?F (fun w => VQ.cx_none _ w)
  case hd => rfl
  case F =>
    intro w mg fa h KX G hmg hTab
    refine' VL.all_mk KX G hmg hTab ?z_a__law_bag ?z_l__law_bag ?z_c__law_bag ?z_k__law_bag ?z_a__law_pull ?z_l__law_pull ?z_c__law_pull ?z_k__law_pull ?z_a__law_of ?z_l__law_of ?z_c__law_of ?z_k__law_of ?z_a__law_worth ?z_l__law_worth ?z_c__law_worth ?z_k__law_worth ?z_a__law_rows ?z_l__law_rows ?z_c__law_rows ?z_k__law_rows ?z_a__law_point ?z_l__law_point ?z_c__law_point ?z_k__law_point ?z_a__law_point_near ?z_l__law_point_near ?z_c__law_point_near ?z_k__law_point_near ?z_a__law_hanging ?z_l__law_hanging ?z_c__law_hanging ?z_k__law_hanging ?z_a__law_figs ?z_l__law_figs ?z_c__law_figs ?z_k__law_figs ?z_a__law_box_of ?z_l__law_box_of ?z_c__law_box_of ?z_k__law_box_of ?z_a__law_gap ?z_l__law_gap ?z_c__law_gap ?z_k__law_gap ?z_a__law_same ?z_l__law_same ?z_c__law_same ?z_k__law_same ?z_a_figures_of ?z_l_figures_of ?z_c_figures_of ?z_k_figures_of ?z_a_common ?z_l_common ?z_c_common ?z_k_common ?z_a_shortest_of ?z_l_shortest_of ?z_c_shortest_of ?z_k_shortest_of ?z_a_gap ?z_l_gap ?z_c_gap ?z_k_gap ?z_a__law_mixed ?z_l__law_mixed ?z_c__law_mixed ?z_k__law_mixed ?z_a_law ?z_l_law ?z_c_law ?z_k_law ?z_b_len ?z_b_range ?z_b_tuple ?z_b_sorted ?z_b_set ?z_b_list ?z_b_str ?z_b_any ?z_b_isinstance ?z_b_bool ?z_b_int ?z_b_all ?z_b_reversed ?z_b_enumerate ?z_b_zip ?z_b_max ?z_g_FIGURES ?z_kv_figures_of_many ?z_kd_figures_of_many
    (case z_a__law_bag => first | k_is | rfl)
    (case z_l__law_bag => first | k_is | rfl)
    (case z_c__law_bag => first | k_is | rfl)
    (case z_k__law_bag => first | k_is | rfl)
    (case z_a__law_pull => first | k_is | rfl)
    (case z_l__law_pull => first | k_is | rfl)
    (case z_c__law_pull => first | k_is | rfl)
    (case z_k__law_pull => first | k_is | rfl)
    (case z_a__law_of => first | k_is | rfl)
    (case z_l__law_of => first | k_is | rfl)
    (case z_c__law_of => first | k_is | rfl)
    (case z_k__law_of => first | k_is | rfl)
    (case z_a__law_worth => first | k_is | rfl)
    (case z_l__law_worth => first | k_is | rfl)
    (case z_c__law_worth => first | k_is | rfl)
    (case z_k__law_worth => first | k_is | rfl)
    (case z_a__law_rows => first | k_is | rfl)
    (case z_l__law_rows => first | k_is | rfl)
    (case z_c__law_rows => first | k_is | rfl)
    (case z_k__law_rows => first | k_is | rfl)
    (case z_a__law_point => first | k_is | rfl)
    (case z_l__law_point => first | k_is | rfl)
    (case z_c__law_point => first | k_is | rfl)
    (case z_k__law_point => first | k_is | rfl)
    (case z_a__law_point_near => first | k_is | rfl)
    (case z_l__law_point_near => first | k_is | rfl)
    (case z_c__law_point_near => first | k_is | rfl)
    (case z_k__law_point_near => first | k_is | rfl)
    (case z_a__law_hanging => first | k_is | rfl)
    (case z_l__law_hanging => first | k_is | rfl)
    (case z_c__law_hanging => first | k_is | rfl)
    (case z_k__law_hanging => first | k_is | rfl)
    (case z_a__law_figs => first | k_is | rfl)
    (case z_l__law_figs => first | k_is | rfl)
    (case z_c__law_figs => first | k_is | rfl)
    (case z_k__law_figs => first | k_is | rfl)
    (case z_a__law_box_of => first | k_is | rfl)
    (case z_l__law_box_of => first | k_is | rfl)
    (case z_c__law_box_of => first | k_is | rfl)
    (case z_k__law_box_of => first | k_is | rfl)
    (case z_a__law_gap => first | k_is | rfl)
    (case z_l__law_gap => first | k_is | rfl)
    (case z_c__law_gap => first | k_is | rfl)
    (case z_k__law_gap => first | k_is | rfl)
    (case z_a__law_same => first | k_is | rfl)
    (case z_l__law_same => first | k_is | rfl)
    (case z_c__law_same => first | k_is | rfl)
    (case z_k__law_same => first | k_is | rfl)
    (case z_a_figures_of => first | k_is | rfl)
    (case z_l_figures_of => first | k_is | rfl)
    (case z_c_figures_of => first | k_is | rfl)
    (case z_k_figures_of => first | k_is | rfl)
    (case z_a_common => first | k_is | rfl)
    (case z_l_common => first | k_is | rfl)
    (case z_c_common => first | k_is | rfl)
    (case z_k_common => first | k_is | rfl)
    (case z_a_shortest_of => first | k_is | rfl)
    (case z_l_shortest_of => first | k_is | rfl)
    (case z_c_shortest_of => first | k_is | rfl)
    (case z_k_shortest_of => first | k_is | rfl)
    (case z_a_gap => first | k_is | rfl)
    (case z_l_gap => first | k_is | rfl)
    (case z_c_gap => first | k_is | rfl)
    (case z_k_gap => first | k_is | rfl)
    (case z_a__law_mixed => first | k_is | rfl)
    (case z_l__law_mixed => first | k_is | rfl)
    (case z_c__law_mixed => first | k_is | rfl)
    (case z_k__law_mixed => first | k_is | rfl)
    (case z_a_law => first | k_is | rfl)
    (case z_l_law => first | k_is | rfl)
    (case z_c_law => first | k_is | rfl)
    (case z_k_law => first | k_is | rfl)
    (case z_b_len => first | k_is | rfl)
    (case z_b_range => first | k_is | rfl)
    (case z_b_tuple => first | k_is | rfl)
    (case z_b_sorted => first | k_is | rfl)
    (case z_b_set => first | k_is | rfl)
    (case z_b_list => first | k_is | rfl)
    (case z_b_str => first | k_is | rfl)
    (case z_b_any => first | k_is | rfl)
    (case z_b_isinstance => first | k_is | rfl)
    (case z_b_bool => first | k_is | rfl)
    (case z_b_int => first | k_is | rfl)
    (case z_b_all => first | k_is | rfl)
    (case z_b_reversed => first | k_is | rfl)
    (case z_b_enumerate => first | k_is | rfl)
    (case z_b_zip => first | k_is | rfl)
    (case z_b_max => first | k_is | rfl)
    (case z_g_FIGURES => first | k_is | rfl)
    (case z_kv_figures_of_many => first | rfl | k_is)
    (case z_kd_figures_of_many => first | k_is | rfl)

