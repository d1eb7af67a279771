import PyProof.Rows.All
import Wide.All
import OpenK.AllK
import Wide.FinOn
import HandS.ForMost
import HandS.Lambda
import HandS.ExcInit
import HandS.TryMany
import HandS.ExcOwn
import HandS.CallSlots
import HandS.WordsExc
import HandS.TupAny
import HandS.TupMul
import HandS.Flow
import HandS.Wide
import HandS.IsInst
import HandS.WordsList
import HandS.Deep
import HandS.SortInts
import HandS.Conv
import HandS.Zip
import HandS.RevRange
import HandS.ClsMeth
import HandS.ExcField
import HandS.EndTab
import HandS.Defaults
import HandS.Words
import HandS.RaiseMore
import KE.KDflt
import KE.IntText
import KE.GoesZip
import KE.GoesMore
import KE.GoesEnum
import KE.GoesEnumKw
import KE.KUnpackStar
import HandS.Codes
import HandS.Dict
import HandS.SetFor
import HandS.Style
import PyProof.Rows.RuleC_bool
import HandS.FStr
import OpenK.KOps
import PyProof.InstEq
import KE.BitLaws
import PySem.Challenge.RW_voidquilt_k09_stores_of_boxes
set_option Elab.async false
set_option linter.all false
set_option maxRecDepth 100000
set_option maxHeartbeats 4000000
namespace VQ
open PySem PySem.Spec PyProof.Rows L2

inductive D where
  | non | bl (b : Bool) | int (i : Int) | str (s : List Nat) | tup (xs : List D) | lst (xs : List D)
  | dk (kvs : List (Key × D)) | dt (kvs : List (List Key × D)) | obj (n : Nat) | ty (n : String)
  deriving Inhabited

inductive G (ε α : Type) where
  | ret (a : α) | exc (e : ε) | draw (n : Nat) (k : Nat → G ε α) | bad
namespace G
variable {ε ε' α β γ : Type}
def bind (m : G ε α) (f : α → G ε β) : G ε β :=
  match m with
  | ret a => f a
  | exc e => exc e
  | draw n k => draw n fun r => (k r).bind f
  | bad => bad
def map (f : α → β) (m : G ε α) : G ε β := m.bind fun a => ret (f a)
/-- another kind of exception -/
def exs (g : ε → ε') : G ε α → G ε' α
  | ret a => ret a
  | exc e => exc (g e)
  | draw n k => draw n fun r => (k r).exs g
  | bad => bad
/-- an exception is taken up -/
def catch_ (m : G ε α) (f : ε → G ε' α) : G ε' α :=
  match m with
  | ret a => ret a
  | exc e => f e
  | draw n k => draw n fun r => (k r).catch_ f
  | bad => bad
/-- whatever is drawn: an answer of which Q holds or an exception of which E holds -/
def all (m : G ε α) (Q : α → Prop) (E : ε → Prop) : Prop :=
  match m with
  | ret a => Q a
  | exc e => E e
  | draw n k => 0 < n ∧ ∀ r, r < n → (k r).all Q E
  | bad => False
@[simp] theorem bind_ret (a : α) (f : α → G ε β) : (ret a : G ε α).bind f = f a := rfl
@[simp] theorem bind_exc (e : ε) (f : α → G ε β) : (exc e : G ε α).bind f = exc e := rfl
theorem all_mono {Q Q' : α → Prop} {E E' : ε → Prop} (hQ : ∀ a, Q a → Q' a) (hE : ∀ e, E e → E' e) : ∀ {m : G ε α}, m.all Q E → m.all Q' E'
  | ret a, h => hQ a h
  | exc e, h => hE e h
  | draw n k, h => ⟨h.1, fun r hr => all_mono hQ hE (h.2 r hr)⟩
theorem all_bind {Q : β → Prop} {E : ε → Prop} {f : α → G ε β} : ∀ {m : G ε α}, (m.bind f).all Q E ↔ m.all (fun a => (f a).all Q E) E
  | ret _ => Iff.rfl
  | exc _ => Iff.rfl
  | bad => Iff.rfl
  | draw n k => by
    show (0 < n ∧ ∀ r, r < n → ((k r).bind f).all Q E) ↔ (0 < n ∧ ∀ r, r < n → (k r).all _ E)
    exact ⟨fun h => ⟨h.1, fun r hr => all_bind.mp (h.2 r hr)⟩, fun h => ⟨h.1, fun r hr => all_bind.mpr (h.2 r hr)⟩⟩
theorem bind_assoc (f : α → G ε β) (g : β → G ε γ) : ∀ m : G ε α, (m.bind f).bind g = m.bind fun a => (f a).bind g
  | ret _ => rfl
  | exc _ => rfl
  | bad => rfl
  | draw n k => congrArg (draw n) (funext fun r => bind_assoc f g (k r))
theorem all_catch {Q : α → Prop} {E : ε' → Prop} {f : ε → G ε' α} : ∀ {m : G ε α}, (m.catch_ f).all Q E ↔ m.all Q (fun e => (f e).all Q E)
  | ret _ => Iff.rfl
  | exc _ => Iff.rfl
  | bad => Iff.rfl
  | draw n k => by
    show (0 < n ∧ ∀ r, r < n → ((k r).catch_ f).all Q E) ↔ (0 < n ∧ ∀ r, r < n → (k r).all Q _)
    exact ⟨fun h => ⟨h.1, fun r hr => all_catch.mp (h.2 r hr)⟩, fun h => ⟨h.1, fun r hr => all_catch.mpr (h.2 r hr)⟩⟩
theorem all_exs {Q : α → Prop} {E : ε' → Prop} {g : ε → ε'} : ∀ {m : G ε α}, (m.exs g).all Q E ↔ m.all Q (fun e => E (g e))
  | ret _ => Iff.rfl
  | exc _ => Iff.rfl
  | bad => Iff.rfl
  | draw n k => by
    show (0 < n ∧ ∀ r, r < n → ((k r).exs g).all Q E) ↔ (0 < n ∧ ∀ r, r < n → (k r).all Q _)
    exact ⟨fun h => ⟨h.1, fun r hr => all_exs.mp (h.2 r hr)⟩, fun h => ⟨h.1, fun r hr => all_exs.mpr (h.2 r hr)⟩⟩
theorem all_map {Q : β → Prop} {E : ε → Prop} {f : α → β} {m : G ε α} : (m.map f).all Q E ↔ m.all (fun a => Q (f a)) E := all_bind
end G

abbrev Same (H H' : Hp) : Prop := ∀ b o, H b = some o → H' b = some o
theorem Same.rfl' {H : Hp} : Same H H := fun _ _ h => h
theorem Same.tr {H H1 H2 : Hp} (a : Same H H1) (b : Same H1 H2) : Same H H2 := fun c o h => b c o (a c o h)
theorem rd_same {H H' : Hp} {a : Addr} {u : HO} (s : Same H H') (h : Rd H a u) : Rd H' a u := by
  rcases h with h | ⟨o, h⟩
  · exact .inl (s _ _ h)
  · exact .inr ⟨o, s _ _ h⟩
theorem sqL_same {K : PySem.W.Frag} {H H' : Hp} {a : Addr} {xs : List V} (s : Same H H') (h : SqL K H a xs) : SqL K H' a xs := by
  rcases h with (h | ⟨o, h⟩) | h
  · exact .inl (.inl (s _ _ h))
  · exact .inl (.inr ⟨o, s _ _ h⟩)
  · exact .inr h
theorem sqT_same {K : PySem.W.Frag} {H H' : Hp} {a : Addr} {xs : List V} (s : Same H H') (h : SqT K H a xs) : SqT K H' a xs := by
  rcases h with (h | ⟨o, h⟩) | h
  · exact .inl (.inl (s _ _ h))
  · exact .inl (.inr ⟨o, s _ _ h⟩)
  · exact .inr h

section
variable (K : PySem.W.Frag) (ad : Nat → Option Addr) (Hv : Hp)
mutual
def Den : D → V → Prop
  | .non, v => v = .non
  | .bl b, v => v = .bl b
  | .int i, v => v = .int i
  | .str s, v => v = .str ⟨s.toArray⟩
  | .tup ds, v => ∃ a vs, v = .ref a ∧ SqT K Hv a vs ∧ DenL ds vs
  | .lst ds, v => ∃ a vs, v = .ref a ∧ Hv a = some (.lst vs) ∧ DenL ds vs
  | .dk kds, v => ∃ a kvs, v = .ref a ∧ Rd Hv a (.dK kvs) ∧ DenK kds kvs
  | .dt kds, v => ∃ a kvs, v = .ref a ∧ Rd Hv a (.dT kvs) ∧ DenT kds kvs
  | .obj n, v => ∃ a, ad n = some a ∧ v = .ref a
  | .ty n, v => v = .ty n
def DenL : List D → List V → Prop
  | [], vs => vs = []
  | d :: ds, vs => ∃ v r, vs = v :: r ∧ Den d v ∧ DenL ds r
def DenK : List (Key × D) → List (Key × V) → Prop
  | [], kvs => kvs = []
  | (k, d) :: kds, kvs => ∃ v r, kvs = (k, v) :: r ∧ Den d v ∧ DenK kds r
def DenT : List (List Key × D) → List (List Key × V) → Prop
  | [], kvs => kvs = []
  | (k, d) :: kds, kvs => ∃ v r, kvs = (k, v) :: r ∧ Den d v ∧ DenT kds r
end
end

section
variable {K : PySem.W.Frag} {ad ad' : Nat → Option Addr} {Hv Hv' : Hp}
mutual
theorem Den.mono (hs : Same Hv Hv') (ha : ∀ n a, ad n = some a → ad' n = some a) : ∀ {d : D} {v : V}, Den K ad Hv d v → Den K ad' Hv' d v
  | .non, _, h => h
  | .bl _, _, h => h
  | .int _, _, h => h
  | .str _, _, h => h
  | .tup _, _, ⟨a, vs, e, s, r⟩ => ⟨a, vs, e, sqT_same hs s, DenL.mono hs ha r⟩
  | .lst _, _, ⟨a, vs, e, s, r⟩ => ⟨a, vs, e, hs _ _ s, DenL.mono hs ha r⟩
  | .dk _, _, ⟨a, kvs, e, s, r⟩ => ⟨a, kvs, e, rd_same hs s, DenK.mono hs ha r⟩
  | .dt _, _, ⟨a, kvs, e, s, r⟩ => ⟨a, kvs, e, rd_same hs s, DenT.mono hs ha r⟩
  | .obj _, _, ⟨a, e, q⟩ => ⟨a, ha _ _ e, q⟩
  | .ty _, _, h => h
theorem DenL.mono (hs : Same Hv Hv') (ha : ∀ n a, ad n = some a → ad' n = some a) : ∀ {ds : List D} {vs : List V}, DenL K ad Hv ds vs → DenL K ad' Hv' ds vs
  | [], _, h => h
  | _ :: _, _, ⟨v, r, e, h, t⟩ => ⟨v, r, e, Den.mono hs ha h, DenL.mono hs ha t⟩
theorem DenK.mono (hs : Same Hv Hv') (ha : ∀ n a, ad n = some a → ad' n = some a) : ∀ {ds : List (Key × D)} {vs : List (Key × V)}, DenK K ad Hv ds vs → DenK K ad' Hv' ds vs
  | [], _, h => h
  | (_, _) :: _, _, ⟨v, r, e, h, t⟩ => ⟨v, r, e, Den.mono hs ha h, DenK.mono hs ha t⟩
theorem DenT.mono (hs : Same Hv Hv') (ha : ∀ n a, ad n = some a → ad' n = some a) : ∀ {ds : List (List Key × D)} {vs : List (List Key × V)}, DenT K ad Hv ds vs → DenT K ad' Hv' ds vs
  | [], _, h => h
  | (_, _) :: _, _, ⟨v, r, e, h, t⟩ => ⟨v, r, e, Den.mono hs ha h, DenT.mono hs ha t⟩
end
theorem DenL.length : ∀ {ds : List D} {vs : List V}, DenL K ad Hv ds vs → vs.length = ds.length
  | [], _, h => by cases h; rfl
  | _ :: _, _, ⟨_, _, e, _, t⟩ => by cases e; simp [DenL.length t]
theorem DenL.get : ∀ {ds : List D} {vs : List V} {i : Nat} {d : D}, DenL K ad Hv ds vs → ds[i]? = some d → ∃ v, vs[i]? = some v ∧ Den K ad Hv d v
  | [], _, _, _, _, e => by simp at e
  | _ :: _, _, 0, _, ⟨v, _, e, h, _⟩, q => by cases e; simp at q; subst q; exact ⟨v, rfl, h⟩
  | _ :: _, _, i + 1, _, ⟨_, _, e, _, t⟩, q => by
    cases e
    obtain ⟨v, h1, h2⟩ := DenL.get t (by simpa using q)
    exact ⟨v, by simpa using h1, h2⟩
theorem DenL.append : ∀ {ds es : List D} {vs ws : List V}, DenL K ad Hv ds vs → DenL K ad Hv es ws → DenL K ad Hv (ds ++ es) (vs ++ ws)
  | [], _, _, _, h, q => by cases h; exact q
  | _ :: _, _, _, _, ⟨v, r, e, h, t⟩, q => by cases e; exact ⟨v, _, rfl, h, DenL.append t q⟩
theorem DenL.take : ∀ {ds : List D} {vs : List V} (n : Nat), DenL K ad Hv ds vs → DenL K ad Hv (ds.take n) (vs.take n)
  | _, _, 0, _ => by simp [DenL]
  | [], _, _ + 1, h => by cases h; simp [DenL]
  | _ :: _, _, n + 1, ⟨v, r, e, h, t⟩ => by cases e; exact ⟨v, _, rfl, h, DenL.take n t⟩
theorem DenL.drop : ∀ {ds : List D} {vs : List V} (n : Nat), DenL K ad Hv ds vs → DenL K ad Hv (ds.drop n) (vs.drop n)
  | _, _, 0, h => h
  | [], _, _ + 1, h => by cases h; simp [DenL]
  | _ :: _, _, n + 1, ⟨v, r, e, h, t⟩ => by cases e; exact DenL.drop n t
theorem DenL.set : ∀ {ds : List D} {vs : List V} (i : Nat) {d : D} {v : V}, DenL K ad Hv ds vs → Den K ad Hv d v → DenL K ad Hv (ds.set i d) (vs.set i v)
  | [], _, _, _, _, h, _ => by cases h; simp [DenL]
  | _ :: _, _, 0, _, _, ⟨v, r, e, h, t⟩, q => by cases e; exact ⟨_, _, rfl, q, t⟩
  | _ :: _, _, i + 1, _, _, ⟨v, r, e, h, t⟩, q => by cases e; exact ⟨v, _, rfl, h, DenL.set i t q⟩
theorem DenL.nil_of {ds : List D} (h : DenL K ad Hv ds []) : ds = [] := by
  have := h.length
  cases ds with
  | nil => rfl
  | cons _ _ => simp at this
theorem DenL.one {d : D} {v : V} (h : Den K ad Hv d v) : DenL K ad Hv [d] [v] := ⟨v, [], rfl, h, rfl⟩
theorem DenL.nil : DenL K ad Hv [] [] := rfl
theorem DenL.cons {d : D} {v : V} {ds : List D} {vs : List V} (h : Den K ad Hv d v) (t : DenL K ad Hv ds vs) : DenL K ad Hv (d :: ds) (v :: vs) := ⟨v, vs, rfl, h, t⟩
theorem DenL.replicate {ds : List D} {vs : List V} (h : DenL K ad Hv ds vs) : ∀ n : Nat, DenL K ad Hv (List.replicate n ds).flatten (List.replicate n vs).flatten
  | 0 => rfl
  | n + 1 => by rw [List.replicate_succ, List.replicate_succ]; exact h.append (DenL.replicate h n)
end

mutual
def flat : D → Bool
  | .lst _ => false
  | .dk _ => false
  | .dt _ => false
  | .tup ds => flatL ds
  | _ => true
def flatL : List D → Bool
  | [] => true
  | d :: ds => flat d && flatL ds
end
/-- Hv2 lacks nothing of Hv1 but lists and dicts -/
def IsDc : HO → Prop
  | .dK _ => True
  | .dT _ => True
  | _ => False
/-- a list or a dict, the latter locked or not -/
def IsLd : HO → Prop
  | .lst _ => True
  | .dK _ => True
  | .dT _ => True
  | .frz _ u => IsDc u
  | _ => False
def Less (Hv1 Hv2 : Hp) : Prop := ∀ b o, Hv1 b = some o → Hv2 b = some o ∨ IsLd o
theorem less_tup {K : PySem.W.Frag} {H1 H2 : Hp} {a : Addr} {xs : List V} (l : Less H1 H2) (h : SqT K H1 a xs) : SqT K H2 a xs := by
  rcases h with (h | ⟨o, h⟩) | h
  · rcases l _ _ h with q | q
    · exact .inl (.inl q)
    · exact q.elim
  · rcases l _ _ h with q | q
    · exact .inl (.inr ⟨o, q⟩)
    · exact q.elim
  · exact .inr h
section
variable {K : PySem.W.Frag} {ad : Nat → Option Addr} {Hv Hv' : Hp}
mutual
theorem Den.less (l : Less Hv Hv') : ∀ {d : D} {v : V}, flat d = true → Den K ad Hv d v → Den K ad Hv' d v
  | .non, _, _, h => h
  | .bl _, _, _, h => h
  | .int _, _, _, h => h
  | .str _, _, _, h => h
  | .tup _, _, f, ⟨a, vs, e, s, r⟩ => ⟨a, vs, e, less_tup l s, DenL.less l f r⟩
  | .lst _, _, f, _ => by cases f
  | .dk _, _, f, _ => by cases f
  | .dt _, _, f, _ => by cases f
  | .obj _, _, _, h => h
  | .ty _, _, _, h => h
theorem DenL.less (l : Less Hv Hv') : ∀ {ds : List D} {vs : List V}, flatL ds = true → DenL K ad Hv ds vs → DenL K ad Hv' ds vs
  | [], _, _, h => h
  | d :: ds, _, f, ⟨v, r, e, h, t⟩ => by
    have f' : (flat d && flatL ds) = true := f
    rw [Bool.and_eq_true] at f'
    exact ⟨v, r, e, Den.less l f'.1 h, DenL.less l f'.2 t⟩
end
end
def DLk (o o' : HO) : Prop := o' = o ∨ (IsDc o ∧ ∃ x, o' = .frz x o) ∨ (IsDc o' ∧ ∃ x, o = .frz x o')
def Lck (H H' : Hp) : Prop := ∀ b o, H b = some o → ∃ o', H' b = some o' ∧ DLk o o'
theorem Same.lck {H H' : Hp} (h : Same H H') : Lck H H' := fun b o e => ⟨o, h b o e, .inl rfl⟩
/-- what is no dict stays -/
theorem DLk.eq {o o' : HO} (h : DLk o o') (n : ¬ IsDc o) (n2 : ∀ x u, o = .frz x u → ¬ IsDc u) : o' = o := by
  rcases h with h | ⟨h, _⟩ | ⟨h, x, e⟩
  · exact h
  · exact (n h).elim
  · exact (n2 x o' e h).elim
theorem Lck.at {H H' : Hp} (l : Lck H H') {b : Addr} {o : HO} (e : H b = some o) (n : ¬ IsDc o) (n2 : ∀ x u, o = .frz x u → ¬ IsDc u) : H' b = some o := by
  obtain ⟨o', h1, h2⟩ := l b o e
  rw [← h2.eq n n2]; exact h1
theorem Lck.rd {H H' : Hp} (l : Lck H H') {a : Addr} {u : HO} (d : IsDc u) (h : Rd H a u) : Rd H' a u := by
  rcases h with h | ⟨x, h⟩
  · obtain ⟨o', h1, h2⟩ := l a u h
    rcases h2 with rfl | ⟨_, x, rfl⟩ | ⟨d2, x, rfl⟩
    · exact .inl h1
    · exact .inr ⟨x, h1⟩
    · exact d.elim
  · obtain ⟨o', h1, h2⟩ := l a _ h
    rcases h2 with rfl | ⟨d2, _⟩ | ⟨d2, x', e⟩
    · exact .inr ⟨x, h1⟩
    · exact d2.elim
    · cases e; exact .inl h1
theorem Lck.sqT {K : PySem.W.Frag} {H H' : Hp} (l : Lck H H') {a : Addr} {xs : List V} (h : SqT K H a xs) : SqT K H' a xs := by
  rcases h with (h | ⟨o, h⟩) | h
  · exact .inl (.inl (l.at h (fun z => z) (fun x u z => by cases z)))
  · exact .inl (.inr ⟨o, l.at h (fun z => z) (fun x u z => by cases z; exact fun z => z)⟩)
  · exact .inr h
section
variable {K : PySem.W.Frag} {ad : Nat → Option Addr} {Hv Hv' : Hp}
mutual
theorem Den.lck (l : Lck Hv Hv') : ∀ {d : D} {v : V}, Den K ad Hv d v → Den K ad Hv' d v
  | .non, _, h => h
  | .bl _, _, h => h
  | .int _, _, h => h
  | .str _, _, h => h
  | .tup _, _, ⟨a, vs, e, s, r⟩ => ⟨a, vs, e, l.sqT s, DenL.lck l r⟩
  | .lst _, _, ⟨a, vs, e, s, r⟩ => ⟨a, vs, e, l.at s (fun z => z) (fun x u z => by cases z), DenL.lck l r⟩
  | .dk _, _, ⟨a, kvs, e, s, r⟩ => ⟨a, kvs, e, l.rd trivial s, DenK.lck l r⟩
  | .dt _, _, ⟨a, kvs, e, s, r⟩ => ⟨a, kvs, e, l.rd trivial s, DenT.lck l r⟩
  | .obj _, _, h => h
  | .ty _, _, h => h
theorem DenL.lck (l : Lck Hv Hv') : ∀ {ds : List D} {vs : List V}, DenL K ad Hv ds vs → DenL K ad Hv' ds vs
  | [], _, h => h
  | _ :: _, _, ⟨v, r, e, h, t⟩ => ⟨v, r, e, Den.lck l h, DenL.lck l t⟩
theorem DenK.lck (l : Lck Hv Hv') : ∀ {ds : List (Key × D)} {vs : List (Key × V)}, DenK K ad Hv ds vs → DenK K ad Hv' ds vs
  | [], _, h => h
  | (_, _) :: _, _, ⟨v, r, e, h, t⟩ => ⟨v, r, e, Den.lck l h, DenK.lck l t⟩
theorem DenT.lck (l : Lck Hv Hv') : ∀ {ds : List (List Key × D)} {vs : List (List Key × V)}, DenT K ad Hv ds vs → DenT K ad Hv' ds vs
  | [], _, h => h
  | (_, _) :: _, _, ⟨v, r, e, h, t⟩ => ⟨v, r, e, Den.lck l h, DenT.lck l t⟩
end
end
end VQ

namespace VQ
open PySem PySem.Spec PyProof.Rows L2

/-- the tables of code objects, all within F -/
structure TabF (F : Addr → Prop) (H : Hp) (P : Addr) (q : Str) : Prop where
  own : F P
  at_ : ∃ ps : Array Value, H P = some (.tbl ps) ∧ PySem.TriplesOk ps.toList ∧ ∀ (pos : Pos) (cv : Value), PySem.codeAmong pos ps.toList = some cv → ∃ c, cv = .ref c ∧ H c = some (LamX.CodeO c q) ∧ F c
/-- the mutable world: its state, where its objects stand, how it lies in a heap (its own addresses F; the view Hv; the heap) -/
structure WM (K : PySem.W.Frag) where
  S : Type
  rep : S → (Nat → Option Addr) → (Addr → Prop) → Hp → Hp → Prop
  flat : S → Bool
  stay : ∀ {s ad F Hv Hv' H H'}, rep s ad F Hv H → Same Hv Hv' → (∀ b o, F b → H b = some o → H' b = some o) → rep s ad F Hv' H'
  less : ∀ {s ad F Hv Hv' H}, flat s = true → rep s ad F Hv H → Less Hv Hv' → rep s ad F Hv' H
  dom : ∀ {s ad F Hv H b}, rep s ad F Hv H → F b → ∃ o, H b = some o
  lck : ∀ {s ad F Hv Hv' H H'}, rep s ad F Hv H → Lck Hv Hv' → (∀ b o, F b → H b = some o → ∃ o', H' b = some o' ∧ DLk o o') → rep s ad F Hv' H'
  T : List (Addr × Str)
  tabs : ∀ {s ad F Hv H}, rep s ad F Hv H → ∀ p ∈ T, TabF F H p.1 p.2
  grow : ∀ {s ad F F' Hv H H'}, rep s ad F Hv H → (∀ x, F x → F' x) → (∀ b o, F b → H b = some o → (∀ ps, o ≠ .tbl ps) → H' b = some o) → (∀ p ∈ T, TabF F' H' p.1 p.2) → (∀ x, F' x → ∃ o, H' x = some o) → rep s ad F' Hv H'

/-- a point of the walk -/
structure Pt {K : PySem.W.Frag} (M : WM K) where
  s : M.S
  F : Addr → Prop
  Hv : Hp
  H : Hp
  ad : Nat → Option Addr
section
variable {K : PySem.W.Frag} {M : WM K}
structure Pt.Ok (p : Pt M) : Prop where
  view : Same p.Hv p.H
  off : ∀ b, p.F b → p.Hv b = none
  rep : M.rep p.s p.ad p.F p.Hv p.H
structure Ext (p q : Pt M) : Prop where
  view : Same p.Hv q.Hv
  frame : ∀ b o, p.H b = some o → ¬ p.F b → q.H b = some o
  new : ∀ b o, q.Hv b = some o → (∃ o', p.Hv b = some o') ∨ p.H b = none ∨ p.F b
  foot : ∀ b, q.F b → p.F b ∨ p.H b = none
  ad : ∀ n a, p.ad n = some a → q.ad n = some a
theorem Ext.refl (p : Pt M) : Ext p p := ⟨Same.rfl', fun _ _ h _ => h, fun b o h => .inl ⟨o, h⟩, fun _ h => .inl h, fun _ _ h => h⟩
theorem Ext.trans {p q r : Pt M} (a : Ext p q) (b : Ext q r) : Ext p r where
  view := a.view.tr b.view
  frame := fun c o h n => b.frame c o (a.frame c o h n) fun z => (a.foot c z).elim n fun z' => by rw [h] at z'; cases z'
  new := fun c o h => by
    rcases b.new c o h with ⟨o', h1⟩ | h1 | h1
    · exact a.new c o' h1
    · cases e : p.H c with
      | none => exact .inr (.inl rfl)
      | some u =>
        refine .inr (.inr (Classical.byContradiction fun n => ?_))
        rw [a.frame c u e n] at h1; cases h1
    · rcases a.foot c h1 with z | z
      · exact .inr (.inr z)
      · exact .inr (.inl z)
  foot := fun c h => by
    rcases b.foot c h with z | z
    · exact a.foot c z
    · cases e : p.H c with
      | none => exact .inr rfl
      | some u =>
        refine .inl (Classical.byContradiction fun n => ?_)
        rw [a.frame c u e n] at z; cases z
  ad := fun n a' h => b.ad n a' (a.ad n a' h)
theorem Ext.den {p q : Pt M} (e : Ext p q) {d : D} {v : V} (h : Den K p.ad p.Hv d v) : Den K q.ad q.Hv d v := h.mono e.view e.ad
theorem Ext.denL {p q : Pt M} (e : Ext p q) {d : List D} {v : List V} (h : DenL K p.ad p.Hv d v) : DenL K q.ad q.Hv d v := h.mono e.view e.ad

/-- a new object laid, seen by all: a is new -/
def Pt.lay (p : Pt M) (a : Addr) (o : HO) : Pt M := ⟨p.s, p.F, upd p.Hv a o, upd p.H a o, p.ad⟩
/-- a new object laid, not seen -/
def Pt.hid (p : Pt M) (a : Addr) (o : HO) : Pt M := ⟨p.s, p.F, p.Hv, upd p.H a o, p.ad⟩
theorem same_upd {H : Hp} {a : Addr} {o : HO} (h : H a = none) : Same H (upd H a o) := fun b u e => by rw [upd_ne (ne_of_none e h)]; exact e
theorem Pt.Ok.vn {p : Pt M} (ok : p.Ok) {a : Addr} (h : p.H a = none) : p.Hv a = none := by
  cases e : p.Hv a with
  | none => rfl
  | some o => rw [ok.view _ _ e] at h; cases h
theorem Pt.Ok.fn {p : Pt M} (ok : p.Ok) {a : Addr} (h : p.H a = none) : ¬ p.F a := fun z => by
  obtain ⟨o, e⟩ := M.dom ok.rep z
  rw [h] at e; cases e
theorem ext_lay {p : Pt M} (ok : p.Ok) {a : Addr} {o : HO} (h : p.H a = none) : Ext p (p.lay a o) :=
  ⟨same_upd (ok.vn h), fun b u e _ => same_upd h b u e, fun b u e => by
    by_cases z : b = a
    · subst z; exact .inr (.inl h)
    · exact .inl ⟨u, by rw [← upd_ne (H := p.Hv) (o := o) z]; exact e⟩, fun _ h => .inl h, fun _ _ h => h⟩
theorem ok_lay {p : Pt M} (ok : p.Ok) {a : Addr} {o : HO} (h : p.H a = none) : (p.lay a o).Ok :=
  ⟨fun b u e => by
    by_cases z : b = a
    · subst z
      have e' : upd p.Hv b o b = some u := e
      rw [upd_same] at e'
      show upd p.H b o b = some u
      rw [upd_same]; exact e'
    · have e' : upd p.Hv a o b = some u := e
      rw [upd_ne z] at e'
      show upd p.H a o b = some u
      rw [upd_ne z]; exact ok.view _ _ e', fun b f => by
    have z : b ≠ a := fun z => ok.fn h (z ▸ f)
    show upd p.Hv a o b = none
    rw [upd_ne z]; exact ok.off b f, M.stay ok.rep (same_upd (ok.vn h)) fun b u _ e => same_upd h b u e⟩
theorem ext_hid {p : Pt M} {a : Addr} {o : HO} (h : p.H a = none) : Ext p (p.hid a o) :=
  ⟨Same.rfl', fun b u e _ => same_upd h b u e, fun b u e => .inl ⟨u, e⟩, fun _ h => .inl h, fun _ _ h => h⟩
theorem ok_hid {p : Pt M} (ok : p.Ok) {a : Addr} {o : HO} (h : p.H a = none) : (p.hid a o).Ok :=
  ⟨ok.view.tr (same_upd h), ok.off, M.stay ok.rep Same.rfl' fun b u _ e => same_upd h b u e⟩
/-- a hidden object is shown -/
def Pt.show' (p : Pt M) (a : Addr) (o : HO) : Pt M := ⟨p.s, p.F, upd p.Hv a o, p.H, p.ad⟩
theorem ok_show {p : Pt M} (ok : p.Ok) {a : Addr} {o : HO} (h : p.H a = some o) (hv : p.Hv a = none) (hf : ¬ p.F a) : (p.show' a o).Ok :=
  ⟨fun b u e => by
    by_cases z : b = a
    · subst z
      have e' : upd p.Hv b o b = some u := e
      rw [upd_same] at e'
      cases e'; exact h
    · have e' : upd p.Hv a o b = some u := e
      rw [upd_ne z] at e'
      exact ok.view _ _ e', fun b f => by
    have z : b ≠ a := fun z => hf (z ▸ f)
    show upd p.Hv a o b = none
    rw [upd_ne z]; exact ok.off b f, M.stay ok.rep (same_upd hv) fun b u _ e => e⟩
theorem ext_show {p q : Pt M} (e : Ext p q) {a : Addr} {o : HO} (hv : q.Hv a = none) (hn : p.H a = none ∨ p.F a) : Ext p (q.show' a o) :=
  ⟨e.view.tr (same_upd hv), e.frame, fun b u r => by
    by_cases z : b = a
    · subst z; exact .inr hn
    · have r' : upd q.Hv a o b = some u := r
      rw [upd_ne z] at r'
      exact e.new _ _ r', e.foot, e.ad⟩

/-- seen data, or a list (a dict) just made that nothing else holds -/
inductive R where
  | sh (d : D) | fr (d : D)
def R.d : R → D
  | .sh d => d
  | .fr d => d
/-- what a list or a dict holds -/
def HoDen (K : PySem.W.Frag) (ad : Nat → Option Addr) (Hv : Hp) : HO → D → Prop
  | .lst vs, .lst ds => DenL K ad Hv ds vs
  | .dK vs, .dk ds => DenK K ad Hv ds vs
  | .dT vs, .dt ds => DenT K ad Hv ds vs
  | _, _ => False
theorem HoDen.mono {ad ad' : Nat → Option Addr} {Hv Hv' : Hp} (hs : Same Hv Hv') (ha : ∀ n a, ad n = some a → ad' n = some a) {o : HO} {d : D} (h : HoDen K ad Hv o d) : HoDen K ad' Hv' o d := by
  cases o <;> cases d <;> first | exact False.elim h | exact DenL.mono hs ha h | exact DenK.mono hs ha h | exact DenT.mono hs ha h
theorem HoDen.den {ad : Nat → Option Addr} {Hv : Hp} {a : Addr} {o : HO} {d : D} (h : HoDen K ad Hv o d) (e : Hv a = some o) : Den K ad Hv d (.ref a) := by
  cases o <;> cases d <;> first | exact False.elim h | exact ⟨a, _, rfl, e, h⟩ | exact ⟨a, _, rfl, .inl e, h⟩
/-- r stands at v in q, made since p -/
def ROk (p q : Pt M) : R → V → Prop
  | .sh d, v => Den K q.ad q.Hv d v
  | .fr d, v => ∃ a o, v = .ref a ∧ q.H a = some o ∧ q.Hv a = none ∧ ¬ q.F a ∧ (p.H a = none ∨ p.F a) ∧ HoDen K q.ad q.Hv o d
/-- .. shown to all -/
theorem ROk.seen {p q : Pt M} (e : Ext p q) (ok : q.Ok) {r : R} {v : V} (h : ROk p q r v) : ∃ q', Ext p q' ∧ q'.Ok ∧ q'.H = q.H ∧ q'.s = q.s ∧ Den K q'.ad q'.Hv r.d v := by
  cases r with
  | sh d => exact ⟨q, e, ok, rfl, rfl, h⟩
  | fr d =>
    obtain ⟨a, o, rfl, h1, h2, h3, h4, h5⟩ := h
    exact ⟨q.show' a o, ext_show e h2 h4, ok_show ok h1 h2 h3, rfl, rfl, (h5.mono (same_upd h2) fun _ _ h => h).den upd_same⟩

structure Exc where
  cls : Str
  fs : List (Str × D)
/-- x is the exception of the class cls, its fields in the dict dd -/
def XOk (mg : Str → Option Value) (q : Pt M) (x : Exc) (cls : Value) (dd : Option Addr) : Prop :=
  mg x.cls = some cls ∧ ∃ d fv, dd = some d ∧ q.H d = some (.xd fv) ∧ ¬ q.F d ∧ ∀ f y, x.fs.lookup f = some y → ∃ v, fv.lookup f = some v ∧ Den K q.ad q.Hv y v
theorem XOk.ext {mg : Str → Option Value} {q r : Pt M} (e : Ext q r) {x : Exc} {cls : Value} {dd : Option Addr} (h : XOk mg q x cls dd) : XOk mg r x cls dd := by
  obtain ⟨h1, d, fv, h2, h3, h4, h5⟩ := h
  refine ⟨h1, d, fv, h2, e.frame _ _ h3 h4, fun z => ?_, fun f y l => ?_⟩
  · rcases e.foot d z with z | z
    · exact h4 z
    · rw [h3] at z; cases z
  · obtain ⟨v, l1, l2⟩ := h5 f y l
    exact ⟨v, l1, e.den l2⟩

variable (mg : Str → Option Value) (M)
abbrev Sl := List (Option V)
abbrev Dv := List (Option D)
abbrev Gx (α : Type) := G (Exc × M.S) (α × M.S)
abbrev Ev (α : Type) := Dv → M.S → Gx M α
/-- the names' data -/
structure EnvD (p : Pt M) (σ : Sl) (ρ : Dv) : Prop where
  len : σ.length = ρ.length
  get : ∀ (i : Nat) (d : D), ρ[i]? = some (some d) → ∃ v, σ[i]? = some (some v) ∧ Den K p.ad p.Hv d v
/-- an exception's end -/
def XEnd (p : Pt M) (W : WX) (σ : Sl) : Exc × M.S → Prop := fun x => ∀ cls dd (q : Pt M), Ext p q → q.Ok → q.s = x.2 → XOk mg q x.1 cls dd → W cls dd σ q.H
def tG {α : Type} (W : WX) (T : Pt M → α → V → Pt M → Prop) (ee : Ev M α) : TE := fun σ H Q => ∃ (ρ : Dv) (p : Pt M), p.H = H ∧ p.Ok ∧ EnvD M p σ ρ ∧
  (ee ρ p.s).all (fun r => ∀ v (q : Pt M), Ext p q → q.Ok → q.s = r.2 → T p r.1 v q → Q v q.H) (XEnd M mg p W σ)
/-- a value -/
abbrev tD (W : WX) (ee : Ev M D) : TE := tG M mg W (fun _ d v q => Den K q.ad q.Hv d v) ee
/-- a result -/
abbrev tR (W : WX) (ee : Ev M R) : TE := tG M mg W (fun p r v q => ROk p q r v) ee
/-- a test -/
def tB' (W : WX) (ee : Ev M Bool) : TT := fun σ H Q => ∃ (ρ : Dv) (p : Pt M), p.H = H ∧ p.Ok ∧ EnvD M p σ ρ ∧
  (ee ρ p.s).all (fun r => ∀ (q : Pt M), Ext p q → q.Ok → q.s = r.2 → Q r.1 q.H) (XEnd M mg p W σ)
/-- arguments -/
def tA (W : WX) (ee : Ev M (List D)) : TA := fun σ H Q => ∃ (ρ : Dv) (p : Pt M), p.H = H ∧ p.Ok ∧ EnvD M p σ ρ ∧
  (ee ρ p.s).all (fun r => ∀ vs (q : Pt M), Ext p q → q.Ok → q.s = r.2 → DenL K q.ad q.Hv r.1 vs → Q vs q.H) (XEnd M mg p W σ)
/-- a def's promise: what it tells of its arguments' data -/
def spV (n : Nat) (f : List D → M.S → Gx M R) : Sp := fun vs H Q E => ∃ (ds : List D) (p : Pt M), vs.length = n ∧ p.H = H ∧ p.Ok ∧ DenL K p.ad p.Hv ds vs ∧
  (f ds p.s).all (fun r => ∀ v (q : Pt M), Ext p q → q.Ok → q.s = r.2 → ROk p q r.1 v → Q v q.H) (fun x => ∀ cls dd (q : Pt M), Ext p q → q.Ok → q.s = x.2 → XOk mg q x.1 cls dd → E cls dd q.H)
end
section
variable {X : Cx}
theorem _root_.L2.PE.con {e : Expr} {t t' : TE} (h : PE X e t) (i : ∀ σ H Q, t' σ H Q → t σ H Q) : PE X e t' := ⟨fun pins s σ H Q I q => h.run pins s σ H Q I (i _ _ _ q)⟩
theorem _root_.L2.PT.con {e : Expr} {t t' : TT} (h : PT X e t) (i : ∀ σ H Q, t' σ H Q → t σ H Q) : PT X e t' := ⟨fun pins s σ H Q I q => h.run pins s σ H Q I (i _ _ _ q)⟩
theorem _root_.L2.PA.con {e : List Expr} {t t' : TA} (h : PA X e t) (i : ∀ σ H Q, t' σ H Q → t σ H Q) : PA X e t' := ⟨fun pos pins s σ H Q I q => h.run pos pins s σ H Q I (i _ _ _ q)⟩
theorem _root_.L2.PS.con {e : Stmt} {t t' : TS} (h : PS X e t) (i : ∀ D σ H, t' D σ H → t D σ H) : PS X e t' := ⟨fun pins s σ H D I q => h.run pins s σ H D I (i _ _ _ q)⟩
theorem _root_.L2.PSs.con {e : List Stmt} {t t' : TS} (h : PSs X e t) (i : ∀ D σ H, t' D σ H → t D σ H) : PSs X e t' := ⟨fun pins s σ H D I q => h.run pins s σ H D I (i _ _ _ q)⟩
end
end VQ

namespace VQ
open PySem PySem.Spec PyProof.Rows L2

def big : Nat := 1000000
theorem big_line {n : Nat} (h : n ≤ big) : n ≤ sizeLine := by
  rw [sizeLine_eq]; exact Nat.le_trans h (by decide)

section
variable {K : PySem.W.Frag} {M : WM K} {mg : Str → Option Value}
theorem EnvD.ext {p q : Pt M} {σ : Sl} {ρ : Dv} (e : Ext p q) (h : EnvD M p σ ρ) : EnvD M q σ ρ := ⟨h.len, fun i d hd => by
  obtain ⟨v, h1, h2⟩ := h.get i d hd
  exact ⟨v, h1, e.den h2⟩⟩
theorem XEnd.ext {p q : Pt M} {W : WX} {σ : Sl} {x : Exc × M.S} (e : Ext p q) (h : XEnd M mg p W σ x) : XEnd M mg q W σ x :=
  fun cls dd r e2 ok es xk => h cls dd r (e.trans e2) ok es xk
/-- the first part of a reading, what follows it told apart -/
theorem tG.seq {α β : Type} {W : WX} {T : Pt M → α → V → Pt M → Prop} {ea : Ev M α} {k : α × M.S → Gx M β} {σ : Sl} {ρ : Dv} {p : Pt M} {Q : VK} {Q' : β × M.S → Prop} (ok : p.Ok) (en : EnvD M p σ ρ)
    (h : ((ea ρ p.s).bind k).all Q' (XEnd M mg p W σ))
    (hk : ∀ r v (q : Pt M), Ext p q → q.Ok → q.s = r.2 → T p r.1 v q → (k r).all Q' (XEnd M mg p W σ) → Q v q.H) : tG M mg W T ea σ p.H Q :=
  ⟨ρ, p, rfl, ok, en, G.all_mono (fun r hr v q e ok' es t => hk r v q e ok' es t hr) (fun _ hx => hx) (G.all_bind.mp h)⟩
theorem tA.seq {β : Type} {W : WX} {ea : Ev M (List D)} {k : List D × M.S → Gx M β} {σ : Sl} {ρ : Dv} {p : Pt M} {Q : List V → Hp → Prop} {Q' : β × M.S → Prop} (ok : p.Ok) (en : EnvD M p σ ρ)
    (h : ((ea ρ p.s).bind k).all Q' (XEnd M mg p W σ))
    (hk : ∀ r vs (q : Pt M), Ext p q → q.Ok → q.s = r.2 → DenL K q.ad q.Hv r.1 vs → (k r).all Q' (XEnd M mg p W σ) → Q vs q.H) : tA M mg W ea σ p.H Q :=
  ⟨ρ, p, rfl, ok, en, G.all_mono (fun r hr v q e ok' es t => hk r v q e ok' es t hr) (fun _ hx => hx) (G.all_bind.mp h)⟩
theorem tB'.seq {β : Type} {W : WX} {ea : Ev M Bool} {k : Bool × M.S → Gx M β} {σ : Sl} {ρ : Dv} {p : Pt M} {Q : Bool → Hp → Prop} {Q' : β × M.S → Prop} (ok : p.Ok) (en : EnvD M p σ ρ)
    (h : ((ea ρ p.s).bind k).all Q' (XEnd M mg p W σ))
    (hk : ∀ r (q : Pt M), Ext p q → q.Ok → q.s = r.2 → (k r).all Q' (XEnd M mg p W σ) → Q r.1 q.H) : tB' M mg W ea σ p.H Q :=
  ⟨ρ, p, rfl, ok, en, G.all_mono (fun r hr q e ok' es => hk r q e ok' es hr) (fun _ hx => hx) (G.all_bind.mp h)⟩
theorem XEnds {p q : Pt M} {W : WX} {σ : Sl} {α : Type} {g : Gx M α} {Q Q' : α × M.S → Prop} (e : Ext p q) (h : g.all Q (XEnd M mg p W σ)) (hq : ∀ r, Q r → Q' r) : g.all Q' (XEnd M mg q W σ) :=
  G.all_mono hq (fun _ hx => hx.ext e) h
end

def op {ε α σ : Type} (o : Option α) (s : σ) : G ε (α × σ) := match o with
  | some a => .ret (a, s)
  | none => .bad
section
variable {K : PySem.W.Frag} (M : WM K)
def eVar (i : Nat) : Ev M D := fun ρ s => match ρ[i]? with
  | some (some d) => .ret (d, s)
  | _ => .bad
def eC (d : D) : Ev M D := fun _ s => .ret (d, s)
variable {M}
def eSeen (ee : Ev M R) : Ev M D := fun ρ s => (ee ρ s).bind fun r => .ret (r.1.d, r.2)
def eSh (ee : Ev M D) : Ev M R := fun ρ s => (ee ρ s).bind fun r => .ret (.sh r.1, r.2)
def eBin (f : D → D → Option R) (ea eb : Ev M D) : Ev M R := fun ρ s => (ea ρ s).bind fun a => (eb ρ a.2).bind fun b => op (f a.1 b.1) b.2
def eBinD (f : D → D → Option D) (ea eb : Ev M D) : Ev M D := fun ρ s => (ea ρ s).bind fun a => (eb ρ a.2).bind fun b => op (f a.1 b.1) b.2
def eUn (f : D → Option D) (ea : Ev M D) : Ev M D := fun ρ s => (ea ρ s).bind fun a => op (f a.1) a.2
def eTest (f : D → Option Bool) (ea : Ev M D) : Ev M Bool := fun ρ s => (ea ρ s).bind fun a => op (f a.1) a.2
def eNot (ea : Ev M Bool) : Ev M Bool := fun ρ s => (ea ρ s).bind fun a => .ret (!a.1, a.2)
def eAnd (ea eb : Ev M Bool) : Ev M Bool := fun ρ s => (ea ρ s).bind fun a => if a.1 = true then eb ρ a.2 else .ret (false, a.2)
def eOr (ea eb : Ev M Bool) : Ev M Bool := fun ρ s => (ea ρ s).bind fun a => if a.1 = true then .ret (true, a.2) else eb ρ a.2
def eIf {α : Type} (c : Ev M Bool) (ea eb : Ev M α) : Ev M α := fun ρ s => (c ρ s).bind fun b => if b.1 = true then ea ρ b.2 else eb ρ b.2
def eAndV (t : D → Option Bool) (ea eb : Ev M D) : Ev M D := fun ρ s => (ea ρ s).bind fun a => match t a.1 with
  | some true => eb ρ a.2
  | some false => .ret a
  | none => .bad
def eOrV (t : D → Option Bool) (ea eb : Ev M D) : Ev M D := fun ρ s => (ea ρ s).bind fun a => match t a.1 with
  | some true => .ret a
  | some false => eb ρ a.2
  | none => .bad
def eBl (ea : Ev M Bool) : Ev M D := fun ρ s => (ea ρ s).bind fun a => .ret (.bl a.1, a.2)
def eNil : Ev M (List D) := fun _ s => .ret ([], s)
def eCons (ea : Ev M D) (er : Ev M (List D)) : Ev M (List D) := fun ρ s => (ea ρ s).bind fun a => (er ρ a.2).bind fun r => .ret (a.1 :: r.1, r.2)
def eTup (ea : Ev M (List D)) : Ev M D := fun ρ s => (ea ρ s).bind fun a => if a.1.length ≤ big then .ret (.tup a.1, a.2) else .bad
def eLst (ea : Ev M (List D)) : Ev M R := fun ρ s => (ea ρ s).bind fun a => if a.1.length ≤ big then .ret (.fr (.lst a.1), a.2) else .bad
/-- a built-in function of its arguments' data -/
def eFun (f : List D → Option R) (ea : Ev M (List D)) : Ev M R := fun ρ s => (ea ρ s).bind fun a => op (f a.1) a.2
/-- a def -/
def eCall (n : Nat) (f : List D → M.S → Gx M R) (dfl : List D) (ea : Ev M (List D)) : Ev M R := fun ρ s => (ea ρ s).bind fun a => if (a.1 ++ dfl).length = n then f (a.1 ++ dfl) a.2 else .bad
end

/-- an operator's reading serves a function of data -/
def OpD {K : PySem.W.Frag} (M : WM K) (f : D → D → Option R) (r : R2) : Prop := ∀ (p : Pt M) (x y : V) (d e : D) (res : R) (Q : VK), p.Ok → Den K p.ad p.Hv d x → Den K p.ad p.Hv e y → f d e = some res →
  (∀ v (q : Pt M), Ext p q → q.Ok → q.s = p.s → ROk p q res v → Q v q.H) → r x y p.H Q
def UnD {K : PySem.W.Frag} (M : WM K) (f : D → Option D) (r : V → Hp → VK → Prop) : Prop := ∀ (p : Pt M) (x : V) (d res : D) (Q : VK), p.Ok → Den K p.ad p.Hv d x → f d = some res →
  (∀ v (q : Pt M), Ext p q → q.Ok → q.s = p.s → Den K q.ad q.Hv res v → Q v q.H) → r x p.H Q
def CallD {K : PySem.W.Frag} (M : WM K) (f : List D → Option R) (r : List V → Hp → VK → Prop) : Prop := ∀ (p : Pt M) (xs : List V) (ds : List D) (res : R) (Q : VK), p.Ok → DenL K p.ad p.Hv ds xs → f ds = some res →
  (∀ v (q : Pt M), Ext p q → q.Ok → q.s = p.s → ROk p q res v → Q v q.H) → r xs p.H Q
section
variable {X : Cx} {M : WM X.K} {W : WX} {e a b : Expr} {es rest : List Expr} {pos : Pos} {ea eb : Ev M D} {er : Ev M R} {el : Ev M (List D)}
theorem ROk.tr {K : PySem.W.Frag} {M : WM K} {p q r : Pt M} (e : Ext p q) (e2 : Ext q r) {x : R} {v : V} (h : ROk q r x v) : ROk p r x v := by
  cases x with
  | sh d => exact h
  | fr d =>
    obtain ⟨a, o, h1, h2, h3, h4, h5, h6⟩ := h
    refine ⟨a, o, h1, h2, h3, h4, ?_, h6⟩
    rcases h5 with h5 | h5
    · cases z : p.H a with
      | none => exact .inl rfl
      | some u =>
        refine .inr (Classical.byContradiction fun n => ?_)
        rw [e.frame a u z n] at h5; cases h5
    · exact (e.foot a h5).symm
theorem ev_seen (h : PE X e (tR M X.mg W er)) : PE X e (tD M X.mg W (eSeen er)) := h.con fun σ H Q ⟨ρ, p, hH, ok, en, q⟩ => by
  subst hH
  refine tG.seq ok en q fun r v q' ex ok' es rk hq => ?_
  obtain ⟨q2, e2, ok2, hH, hs, dn⟩ := rk.seen ex ok'
  rw [← hH]
  exact hq v q2 e2 ok2 (hs.trans es) dn
theorem ev_sh (h : PE X e (tD M X.mg W ea)) : PE X e (tR M X.mg W (eSh ea)) := h.con fun σ H Q ⟨ρ, p, hH, ok, en, q⟩ => by
  subst hH
  exact tG.seq ok en q fun r v q' ex ok' es rk hq => hq v q' ex ok' es rk
theorem ev_var (i : Nat) {x : Str} {pos : Pos} (hN : X.N[i]? = some x := by rfl) (hv : Vis X.env.scope x := by first | exact Or.inl rfl | exact Or.inr (Or.inl rfl) | exact Or.inr (Or.inr rfl)) (hd : (x == ("__debug__" : Str)) = false := by decide)
    (hcd : (x == ("__classdict__" : Str)) = false := by decide) : PE X (.Name x pos) (tD M X.mg W (eVar M i)) := (pe_var hN hv hd hcd).con fun σ H Q ⟨ρ, p, hH, ok, en, q⟩ => by
  subst hH
  cases z : ρ[i]? with
  | none => simp only [eVar, z] at q; exact q.elim
  | some o =>
    cases o with
    | none => simp only [eVar, z] at q; exact q.elim
    | some d =>
      obtain ⟨v, h1, h2⟩ := en.get i d z
      simp only [eVar, z] at q
      exact ⟨v, h1, q v p (Ext.refl p) ok rfl h2⟩
theorem ev_const {v : V} {d : D} (h : PE X e (tC v)) (hd : ∀ ad Hv, Den X.K ad Hv d v) : PE X e (tD M X.mg W (eC M d)) := h.con fun σ H Q ⟨ρ, p, hH, ok, en, q⟩ => by
  subst hH
  exact q v p (Ext.refl p) ok rfl (hd _ _)
theorem ev_int {i : Int} {j : Nat} {pos : Pos} : PE X (.Constant (.int i) j pos) (tD M X.mg W (eC M (.int i))) := ev_const pe_int fun _ _ => rfl
theorem ev_bl {i : Bool} {j : Nat} {pos : Pos} : PE X (.Constant (.bool i) j pos) (tD M X.mg W (eC M (.bl i))) := ev_const pe_bl fun _ _ => rfl
theorem ev_non {j : Nat} {pos : Pos} : PE X (.Constant .none j pos) (tD M X.mg W (eC M .non)) := ev_const pe_non fun _ _ => rfl
theorem ev_str {x : Str} {j : Nat} {pos : Pos} (l : List Nat) (h : x = ⟨l.toArray⟩ := by decide +kernel) : PE X (.Constant (.str x) j pos) (tD M X.mg W (eC M (.str l))) := ev_const pe_str fun _ _ => by subst h; rfl
/-- a constant of the module -/
theorem ev_glob {x : Str} {v : V} {u : Value} {d : D} {pos : Pos} (hg : Gl X x) (hm : X.mg x = some u) (r : RelV v u) (hd : ∀ ad Hv, Den X.K ad Hv d v) (hdb : (x == ("__debug__" : Str)) = false := by decide) :
    PE X (.Name x pos) (tD M X.mg W (eC M d)) := ev_const (pe_glob hg hm r hdb) hd
theorem ev_bin {o : Operator} {r : R2} {f : D → D → Option R} (ho : OpR X (binaryOp o) r) (hf : OpD M f r) (ha : PE X a (tD M X.mg W ea)) (hb : PE X b (tD M X.mg W eb)) :
    PE X (.BinOp a o b pos) (tR M X.mg W (eBin f ea eb)) := (pe_op ho ha hb).con fun σ H Q ⟨ρ, p, hH, ok, en, q⟩ => by
  subst hH
  show tD M X.mg W ea σ p.H fun x H1 => tD M X.mg W eb σ H1 fun y H2 => r x y H2 Q
  refine tG.seq ok en q fun r1 x q1 ex1 ok1 es1 dx h1 => ?_
  rw [← es1] at h1
  refine tG.seq ok1 (en.ext ex1) (XEnds ex1 h1 fun _ h => h) fun r2 y q2 ex2 ok2 es2 dy h2 => ?_
  cases z : f r1.1 r2.1 with
  | none => simp only [op, z] at h2; exact h2.elim
  | some res =>
    simp only [op, z] at h2
    exact hf q2 x y _ _ res Q ok2 (ex2.den dx) dy z fun v q3 e3 ok3 es3 rk => h2 v q3 ((ex1.trans ex2).trans e3) ok3 (es3.trans es2) (rk.tr (ex1.trans ex2) e3)
theorem ev_un {o : UnaryOp} {r : V → Hp → VK → Prop} {f : D → Option D} (ho : UnR X (unaryOp o) r) (hf : UnD M f r) (ha : PE X a (tD M X.mg W ea)) : PE X (.UnaryOp o a pos) (tD M X.mg W (eUn f ea)) := (pe_un ho ha).con fun σ H Q ⟨ρ, p, hH, ok, en, q⟩ => by
  subst hH
  show tD M X.mg W ea σ p.H fun x H1 => r x H1 Q
  refine tG.seq ok en q fun r1 x q1 ex1 ok1 es1 dx h1 => ?_
  cases z : f r1.1 with
  | none => simp only [op, z] at h1; exact h1.elim
  | some res =>
    simp only [op, z] at h1
    exact hf q1 x _ res Q ok1 dx z fun v q3 e3 ok3 es3 rk => h1 v q3 (ex1.trans e3) ok3 (es3.trans es1) rk
/-- a comparison -/
theorem ev_cmp {o : CmpOp} {r : R2} {f : D → D → Option D} (ho : OpR X (compareOp o) r) (hf : OpD M (fun d e => (f d e).map R.sh) r) (ha : PE X a (tD M X.mg W ea)) (hb : PE X b (tD M X.mg W eb)) (hm : behindInMarks o b = false := by rfl) :
    PE X (.Compare a [o] [b] pos) (tD M X.mg W (eBinD f ea eb)) := (pe_cmpR ho ha hb hm).con fun σ H Q ⟨ρ, p, hH, ok, en, q⟩ => by
  subst hH
  show tD M X.mg W ea σ p.H fun x H1 => tD M X.mg W eb σ H1 fun y H2 => r x y H2 Q
  refine tG.seq ok en q fun r1 x q1 ex1 ok1 es1 dx h1 => ?_
  rw [← es1] at h1
  refine tG.seq ok1 (en.ext ex1) (XEnds ex1 h1 fun _ h => h) fun r2 y q2 ex2 ok2 es2 dy h2 => ?_
  cases z : f r1.1 r2.1 with
  | none => simp only [op, z] at h2; exact h2.elim
  | some res =>
    simp only [op, z] at h2
    exact hf q2 x y _ _ (.sh res) Q ok2 (ex2.den dx) dy (by show Option.map R.sh (f r1.1 r2.1) = _; rw [z]; rfl) fun v q3 e3 ok3 es3 rk => h2 v q3 ((ex1.trans ex2).trans e3) ok3 (es3.trans es2) rk

/-- the truth of a value -/
def TrD {K : PySem.W.Frag} (M : WM K) (f : D → Option Bool) : Prop := ∀ (p : Pt M) (x : V) (d : D) (k : Bool), p.Ok → Den K p.ad p.Hv d x → f d = some k → TruV K x p.H k
theorem tt_val {f : D → Option Bool} (hf : TrD M f) (ha : PE X a (tD M X.mg W ea)) (he : ∀ whole, isTrue a X.env whole = (do let v ← whole; standAt a.pos; holding [v] (truthy v)) := by intro _; rfl) :
    PT X a (tB' M X.mg W (eTest f ea)) := (pt_truth ha he).con fun σ H Q ⟨ρ, p, hH, ok, en, q⟩ => by
  subst hH
  show tD M X.mg W ea σ p.H fun x H' => ∃ k, TruV X.K x H' k ∧ Q k H'
  refine tG.seq ok en q fun r1 x q1 ex1 ok1 es1 dx h1 => ?_
  cases z : f r1.1 with
  | none => simp only [op, z] at h1; exact h1.elim
  | some k =>
    simp only [op, z] at h1
    exact ⟨k, hf q1 x _ k ok1 dx z, h1 q1 ex1 ok1 es1⟩
/-- a comparison as a test -/
theorem tt_cmp {o : CmpOp} {r : R2} {f : D → D → Option Bool} (ho : OpR X (compareOp o) r) (hf : OpD M (fun d e => (f d e).map fun k => R.sh (.bl k)) r) (ha : PE X a (tD M X.mg W ea)) (hb : PE X b (tD M X.mg W eb)) (hm : behindInMarks o b = false := by rfl) :
    PT X (.Compare a [o] [b] pos) (tB' M X.mg W (fun ρ s => (ea ρ s).bind fun x => (eb ρ x.2).bind fun y => op (f x.1 y.1) y.2)) := (pt_cmpR ho ha hb hm).con fun σ H Q ⟨ρ, p, hH, ok, en, q⟩ => by
  subst hH
  show tD M X.mg W ea σ p.H fun x H1 => tD M X.mg W eb σ H1 fun y H2 => r x y H2 fun x H' => ∃ k, x = .bl k ∧ Q k H'
  refine tG.seq ok en q fun r1 x q1 ex1 ok1 es1 dx h1 => ?_
  rw [← es1] at h1
  refine tG.seq ok1 (en.ext ex1) (XEnds ex1 h1 fun _ h => h) fun r2 y q2 ex2 ok2 es2 dy h2 => ?_
  cases z : f r1.1 r2.1 with
  | none => simp only [op, z] at h2; exact h2.elim
  | some res =>
    simp only [op, z] at h2
    exact hf q2 x y _ _ (.sh (.bl res)) _ ok2 (ex2.den dx) dy (by show Option.map _ (f r1.1 r2.1) = _; rw [z]; rfl) fun v q3 e3 ok3 es3 rk => ⟨res, rk, h2 q3 ((ex1.trans ex2).trans e3) ok3 (es3.trans es2)⟩
variable {ta tb tc : Ev M Bool}
theorem tt_not (ha : PT X a (tB' M X.mg W ta)) : PT X (.UnaryOp .Not a pos) (tB' M X.mg W (eNot ta)) := (pt_not ha).con fun σ H Q ⟨ρ, p, hH, ok, en, q⟩ => by
  subst hH
  show tB' M X.mg W ta σ p.H fun c H1 => Q (!c) H1
  exact tB'.seq ok en q fun r1 q1 ex1 ok1 es1 h1 => h1 q1 ex1 ok1 es1
theorem _root_.L2.PW.con {X : Cx} {e : Expr} {t t' : TT} (h : PW X e t) (i : ∀ σ H Q, t' σ H Q → t σ H Q) : PW X e t' := ⟨fun wh pins s σ H Q I q => h.run wh pins s σ H Q I (i _ _ _ q)⟩
theorem tw_and1 (ha : PT X a (tB' M X.mg W ta)) : PW X (.BoolOp .And [a] pos) (tB' M X.mg W ta) := pw_and1 ha
theorem tw_or1 (ha : PT X a (tB' M X.mg W ta)) : PW X (.BoolOp .Or [a] pos) (tB' M X.mg W ta) := pw_or1 ha
theorem tw_and (ha : PT X a (tB' M X.mg W ta)) (hb : PW X (.BoolOp .And (b :: rest) pos) (tB' M X.mg W tb)) : PW X (.BoolOp .And (a :: b :: rest) pos) (tB' M X.mg W (eAnd ta tb)) := (pw_and ha hb).con fun σ H Q ⟨ρ, p, hH, ok, en, q⟩ => by
  subst hH
  show tB' M X.mg W ta σ p.H fun c H1 => if c = true then tB' M X.mg W tb σ H1 Q else Q false H1
  refine tB'.seq ok en q fun r1 q1 ex1 ok1 es1 h1 => ?_
  obtain ⟨c, s1⟩ := r1
  cases c with
  | true =>
    have h1' : (tb ρ s1).all _ (XEnd M X.mg p W σ) := h1
    rw [← show q1.s = s1 from es1] at h1'
    exact ⟨ρ, q1, rfl, ok1, en.ext ex1, XEnds ex1 h1' fun r h q2 e2 ok2 es2 => h q2 (ex1.trans e2) ok2 es2⟩
  | false => exact (show (G.ret (false, s1)).all _ _ from h1) q1 ex1 ok1 es1
theorem tw_or (ha : PT X a (tB' M X.mg W ta)) (hb : PW X (.BoolOp .Or (b :: rest) pos) (tB' M X.mg W tb)) : PW X (.BoolOp .Or (a :: b :: rest) pos) (tB' M X.mg W (eOr ta tb)) := (pw_or ha hb).con fun σ H Q ⟨ρ, p, hH, ok, en, q⟩ => by
  subst hH
  show tB' M X.mg W ta σ p.H fun c H1 => if c = true then Q true H1 else tB' M X.mg W tb σ H1 Q
  refine tB'.seq ok en q fun r1 q1 ex1 ok1 es1 h1 => ?_
  obtain ⟨c, s1⟩ := r1
  cases c with
  | true => exact (show (G.ret (true, s1)).all _ _ from h1) q1 ex1 ok1 es1
  | false =>
    have h1' : (tb ρ s1).all _ (XEnd M X.mg p W σ) := h1
    rw [← show q1.s = s1 from es1] at h1'
    exact ⟨ρ, q1, rfl, ok1, en.ext ex1, XEnds ex1 h1' fun r h q2 e2 ok2 es2 => h q2 (ex1.trans e2) ok2 es2⟩
/-- a chain of two comparisons, as a test -/
theorem tt_chain {c : Expr} {o o' : CmpOp} {r r' : R2} {f f' : D → D → Option Bool} {ec : Ev M D} (ho : OpR X (compareOp o) r) (ho' : OpR X (compareOp o') r') (hf : OpD M (fun d e => (f d e).map fun k => R.sh (.bl k)) r) (hf' : OpD M (fun d e => (f' d e).map fun k => R.sh (.bl k)) r')
    (ha : PE X a (tD M X.mg W ea)) (hb : PE X b (tD M X.mg W eb)) (hc : PE X c (tD M X.mg W ec)) (hp : PE X (.Compare a [o, o'] [b, c] pos) (tChain r r' (tD M X.mg W ea) (tD M X.mg W eb) (tD M X.mg W ec))) :
    PE X (.Compare a [o, o'] [b, c] pos) (tD M X.mg W (fun ρ s => (ea ρ s).bind fun x => (eb ρ x.2).bind fun y => (op (f x.1 y.1) y.2).bind fun k => if k.1 = true then (ec ρ k.2).bind fun z => (op (f' y.1 z.1) z.2).bind fun m => .ret (.bl m.1, m.2) else .ret (.bl false, k.2))) := hp.con fun σ H Q ⟨ρ, p, hH, ok, en, q⟩ => by
  subst hH
  show tD M X.mg W ea σ p.H fun x H1 => tD M X.mg W eb σ H1 fun y H2 => r x y H2 fun z H3 => ∃ k, z = .bl k ∧ (if k = true then tD M X.mg W ec σ H3 fun w' H4 => r' y w' H4 Q else Q (.bl false) H3)
  refine tG.seq ok en q fun r1 x q1 ex1 ok1 es1 dx h1 => ?_
  rw [← es1] at h1
  refine tG.seq ok1 (en.ext ex1) (XEnds ex1 h1 fun _ h => h) fun r2 y q2 ex2 ok2 es2 dy h2 => ?_
  cases z : f r1.1 r2.1 with
  | none => simp only [op, z] at h2; exact h2.elim
  | some k =>
    simp only [op, z, G.bind_ret] at h2
    refine hf q2 x y _ _ (.sh (.bl k)) _ ok2 (ex2.den dx) dy (by show Option.map _ (f r1.1 r2.1) = _; rw [z]; rfl) fun v q3 e3 ok3 es3 rk => ⟨k, rk, ?_⟩
    have e13 := (ex1.trans ex2).trans e3
    cases k with
    | false => exact (show (G.ret (D.bl false, r2.2)).all _ _ from h2) (.bl false) q3 e13 ok3 (es3.trans es2) rfl
    | true =>
      have h3 : ((ec ρ r2.2).bind _).all _ (XEnd M X.mg q1 W σ) := h2
      rw [← show q3.s = r2.2 from es3.trans es2] at h3
      show tD M X.mg W ec σ q3.H fun w' H4 => r' y w' H4 Q
      refine tG.seq ok3 (en.ext e13) (XEnds (ex2.trans e3) h3 fun _ h => h) fun r4 w q4 ex4 ok4 es4 dw h4 => ?_
      cases z' : f' r2.1 r4.1 with
      | none => simp only [op, z'] at h4; exact h4.elim
      | some m =>
        simp only [op, z', G.bind_ret] at h4
        exact hf' q4 y w _ _ (.sh (.bl m)) _ ok4 ((e3.trans ex4).den dy) dw (by show Option.map _ (f' r2.1 r4.1) = _; rw [z']; rfl) fun v5 q5 e5 ok5 es5 rk5 => h4 v5 q5 ((e13.trans ex4).trans e5) ok5 (es5.trans es4) rk5
theorem ev_if {c : Expr} (hc : PT X c (tB' M X.mg W tc)) (ha : PE X a (tD M X.mg W ea)) (hb : PE X b (tD M X.mg W eb)) : PE X (.IfExp c a b pos) (tD M X.mg W (eIf tc ea eb)) := (pe_ifExp hc ha hb).con fun σ H Q ⟨ρ, p, hH, ok, en, q⟩ => by
  subst hH
  show tB' M X.mg W tc σ p.H fun c H1 => if c = true then tD M X.mg W ea σ H1 Q else tD M X.mg W eb σ H1 Q
  refine tB'.seq ok en q fun r1 q1 ex1 ok1 es1 h1 => ?_
  obtain ⟨c, s1⟩ := r1
  cases c with
  | true =>
    have h1' : (ea ρ s1).all _ (XEnd M X.mg p W σ) := h1
    rw [← show q1.s = s1 from es1] at h1'
    exact ⟨ρ, q1, rfl, ok1, en.ext ex1, XEnds ex1 h1' fun r h v q2 e2 ok2 es2 => h v q2 (ex1.trans e2) ok2 es2⟩
  | false =>
    have h1' : (eb ρ s1).all _ (XEnd M X.mg p W σ) := h1
    rw [← show q1.s = s1 from es1] at h1'
    exact ⟨ρ, q1, rfl, ok1, en.ext ex1, XEnds ex1 h1' fun r h v q2 e2 ok2 es2 => h v q2 (ex1.trans e2) ok2 es2⟩
theorem ev_ifR {c : Expr} {er' : Ev M R} (hc : PT X c (tB' M X.mg W tc)) (ha : PE X a (tR M X.mg W er)) (hb : PE X b (tR M X.mg W er')) : PE X (.IfExp c a b pos) (tR M X.mg W (eIf tc er er')) := (pe_ifExp hc ha hb).con fun σ H Q ⟨ρ, p, hH, ok, en, q⟩ => by
  subst hH
  show tB' M X.mg W tc σ p.H fun c H1 => if c = true then tR M X.mg W er σ H1 Q else tR M X.mg W er' σ H1 Q
  refine tB'.seq ok en q fun r1 q1 ex1 ok1 es1 h1 => ?_
  obtain ⟨c, s1⟩ := r1
  cases c with
  | true =>
    have h1' : (er ρ s1).all _ (XEnd M X.mg p W σ) := h1
    rw [← show q1.s = s1 from es1] at h1'
    exact ⟨ρ, q1, rfl, ok1, en.ext ex1, XEnds ex1 h1' fun r h v q2 e2 ok2 es2 rk => h v q2 (ex1.trans e2) ok2 es2 (rk.tr ex1 e2)⟩
  | false =>
    have h1' : (er' ρ s1).all _ (XEnd M X.mg p W σ) := h1
    rw [← show q1.s = s1 from es1] at h1'
    exact ⟨ρ, q1, rfl, ok1, en.ext ex1, XEnds ex1 h1' fun r h v q2 e2 ok2 es2 rk => h v q2 (ex1.trans e2) ok2 es2 (rk.tr ex1 e2)⟩
theorem ev_one {o} (h : PE X a (tD M X.mg W ea)) : PE X (.BoolOp o [a] pos) (tD M X.mg W ea) := pe_one h
theorem ev_and {f : D → Option Bool} (hf : TrD M f) (ha : PE X a (tD M X.mg W ea)) (hb : PE X (.BoolOp .And (b :: rest) pos) (tD M X.mg W eb)) : PE X (.BoolOp .And (a :: b :: rest) pos) (tD M X.mg W (eAndV f ea eb)) := (pe_andT ha hb).con fun σ H Q ⟨ρ, p, hH, ok, en, q⟩ => by
  subst hH
  show tD M X.mg W ea σ p.H fun x H1 => ∃ k, TruV X.K x H1 k ∧ if k = true then tD M X.mg W eb σ H1 Q else Q x H1
  refine tG.seq ok en q fun r1 x q1 ex1 ok1 es1 dx h1 => ?_
  cases z : f r1.1 with
  | none => simp only [z] at h1; exact h1.elim
  | some k =>
    refine ⟨k, hf q1 x _ k ok1 dx z, ?_⟩
    cases k with
    | true =>
      simp only [z] at h1
      rw [← es1] at h1
      exact ⟨ρ, q1, rfl, ok1, en.ext ex1, XEnds ex1 h1 fun r h v q2 e2 ok2 es2 => h v q2 (ex1.trans e2) ok2 es2⟩
    | false =>
      simp only [z] at h1
      exact h1 x q1 ex1 ok1 es1 dx
theorem ev_not {f : D → Option Bool} (hf : TrD M f) (ha : PE X a (tD M X.mg W ea)) : PE X (.UnaryOp .Not a pos) (tD M X.mg W (eUn (fun d => (f d).map fun k => .bl (!k)) ea)) := (pe_notT ha).con fun σ H Q ⟨ρ, p, hH, ok, en, q⟩ => by
  subst hH
  show tD M X.mg W ea σ p.H fun x H1 => ∃ k, TruV X.K x H1 k ∧ Q (.bl (!k)) H1
  refine tG.seq ok en q fun r1 x q1 ex1 ok1 es1 dx h1 => ?_
  cases z : f r1.1 with
  | none => simp only [op, z, Option.map_none] at h1; exact h1.elim
  | some k =>
    simp only [op, z, Option.map_some] at h1
    exact ⟨k, hf q1 x _ k ok1 dx z, h1 _ q1 ex1 ok1 es1 rfl⟩
theorem ea_nil : PA X [] (tA M X.mg W (eNil : Ev M (List D))) := pa_nil.con fun σ H Q ⟨ρ, p, hH, ok, en, q⟩ => by
  subst hH
  exact q [] p (Ext.refl p) ok rfl DenL.nil
theorem ea_cons (ha : PE X e (tD M X.mg W ea)) (hr : PA X es (tA M X.mg W el)) (hs : starEach (e :: es) X.env = (false, eval e X.env) :: starEach es X.env := by rfl) : PA X (e :: es) (tA M X.mg W (eCons ea el)) := (pa_cons ha hr hs).con fun σ H Q ⟨ρ, p, hH, ok, en, q⟩ => by
  subst hH
  show tD M X.mg W ea σ p.H fun x H1 => tA M X.mg W el σ H1 fun xs H2 => Q (x :: xs) H2
  refine tG.seq ok en q fun r1 x q1 ex1 ok1 es1 dx h1 => ?_
  rw [← es1] at h1
  refine tA.seq ok1 (en.ext ex1) (XEnds ex1 h1 fun _ h => h) fun r2 ys q2 ex2 ok2 es2 dy h2 => ?_
  exact h2 _ q2 (ex1.trans ex2) ok2 es2 (DenL.cons (ex2.den dx) dy)
theorem ev_tup {x1} (h : PA X es (tA M X.mg W el)) : PE X (.Tuple es x1 pos) (tD M X.mg W (eTup el)) := (pe_tup h).con fun σ H Q ⟨ρ, p, hH, ok, en, q⟩ => by
  subst hH
  show tA M X.mg W el σ p.H fun xs H1 => xs.length ≤ sizeLine ∧ ∀ p, H1 p = none → Q (.ref p) (upd H1 p (.tup xs))
  refine tA.seq ok en q fun r1 xs q1 ex1 ok1 es1 dx h1 => ?_
  by_cases hl : r1.1.length ≤ big
  · rw [if_pos hl] at h1
    refine ⟨by rw [dx.length]; exact big_line hl, fun a ha => ?_⟩
    exact h1 (.ref a) (q1.lay a (.tup xs)) (ex1.trans (ext_lay ok1 ha)) (ok_lay ok1 ha) es1 ⟨a, xs, rfl, SqT.of upd_same, (ext_lay ok1 ha).denL dx⟩
  · rw [if_neg hl] at h1; exact h1.elim
theorem ev_lst (h : PA X es (tA M X.mg W el)) : PE X (.List es pos) (tR M X.mg W (eLst el)) := (pe_lst h).con fun σ H Q ⟨ρ, p, hH, ok, en, q⟩ => by
  subst hH
  show tA M X.mg W el σ p.H fun xs H1 => xs.length ≤ sizeLine ∧ ∀ p, H1 p = none → Q (.ref p) (upd H1 p (.lst xs))
  refine tA.seq ok en q fun r1 xs q1 ex1 ok1 es1 dx h1 => ?_
  by_cases hl : r1.1.length ≤ big
  · rw [if_pos hl] at h1
    refine ⟨by rw [dx.length]; exact big_line hl, fun a ha => ?_⟩
    refine h1 (.ref a) (q1.hid a (.lst xs)) (ex1.trans (ext_hid ha)) (ok_hid ok1 ha) es1 ⟨a, .lst xs, rfl, upd_same, ok1.vn ha, ok1.fn ha, ?_, dx⟩
    cases z : p.H a with
    | none => exact .inl rfl
    | some u =>
      refine .inr (Classical.byContradiction fun n => ?_)
      rw [ex1.frame a u z n] at ha; cases ha
  · rw [if_neg hl] at h1; exact h1.elim
/-- a def of the text, called by the name x with n values in all; dfl: the defaults that fill up what is not given -/
structure DefOk (P : Program) (w : World) (K : PySem.W.Frag) (mg : Str → Option Value) (base : Heap) (M : WM K) (k : Nat) (x : Str) (n : Nat) (fs : List D → M.S → Gx M R) (dfl : List D) : Prop where
  ex : ∃ (f : Addr) (fd : FuncData) (ps : List Str) (ds : List Value) (dvs : List V), FnOk P w K mg base (L2.CX P w) k f fd ps (spV M mg n fs) ∧ mg x = some (.ref f) ∧ PySem.W.keepIn K (.ref f) = true ∧ Binds K fd ps ds ∧ Vals dvs ds ∧ ∀ ad Hv, DenL K ad Hv dfl dvs
variable {k j : Nat} {n : Nat} {fs : List D → M.S → Gx M R} {dfl : List D} {x : Str} {pp : Pos}
/-- f(..), a def of the text -/
theorem ev_call (c : DefOk X.prog X.w X.K X.mg X.base M k x n fs dfl) (hr : Room j X.A) (tk : Takes X W) (ha : PA X (e :: es) (tA M X.mg W el)) (hkj : k ≤ j := by decide) (hg : Gl X x := by rfl)
    (hdb : (x == ("__debug__" : Str)) = false := by decide) (he : starEach (e :: es) X.env = (false, eval e X.env) :: starEach es X.env := by rfl)
    (hpl : (backTo pos (starEach es X.env)).any (·.1) = false := by rfl) :
    PE X (.Call (.Name x pp) (e :: es) [] pos) (tR M X.mg W (eCall n fs dfl el)) := by
  obtain ⟨f, fd, ps, ds, dvs, F, hm, hk, hb, hd, hdd⟩ := c.ex
  refine (pe_callSD F (hr.mono hkj) hg hm hk hb hd (passAt tk) ha hdb he hpl).con fun σ H Q ⟨ρ, p, hH, ok, en, q⟩ => ?_
  subst hH
  show tA M X.mg W el σ p.H fun vs H1 => spV M X.mg n fs (vs ++ dvs) H1 Q (WE W σ)
  refine tA.seq ok en q fun r1 xs q1 ex1 ok1 es1 dx h1 => ?_
  have dl : DenL X.K q1.ad q1.Hv (r1.1 ++ dfl) (xs ++ dvs) := dx.append (hdd _ _)
  by_cases hl : (r1.1 ++ dfl).length = n
  · rw [if_pos hl] at h1
    rw [← es1] at h1
    exact ⟨r1.1 ++ dfl, q1, by rw [dl.length]; exact hl, rfl, ok1, dl, G.all_mono (fun r h v q2 e2 ok2 es2 rk => h v q2 (ex1.trans e2) ok2 es2 (rk.tr ex1 e2)) (fun x h cls dd q2 e2 ok2 es2 xk => h cls dd q2 (ex1.trans e2) ok2 es2 xk) h1⟩
  · rw [if_neg hl] at h1; exact h1.elim
/-- a built-in function, a built-in type called -/
theorem ev_fun {id : String} {r : List V → Hp → VK → Prop} {f : List D → Option R} (hc : CallR X (.builtin id) r) (hf : CallD M f r) (hm : X.mg x = none) (hv : bootBuiltins x = some (.builtin id)) (ha : PA X (e :: es) (tA M X.mg W el)) (hg : Gl X x := by rfl) (hn : x ≠ "__name__" := by decide)
    (hdb : (x == ("__debug__" : Str)) = false := by decide) (he : starEach (e :: es) X.env = (false, eval e X.env) :: starEach es X.env := by rfl)
    (hpl : (backTo pos (starEach es X.env)).any (·.1) = false := by rfl) : PE X (.Call (.Name x pp) (e :: es) [] pos) (tR M X.mg W (eFun f el)) := (pe_callB hc hg hm hv ha hn hdb he hpl).con fun σ H Q ⟨ρ, p, hH, ok, en, q⟩ => by
  subst hH
  show tA M X.mg W el σ p.H fun vs H1 => r vs H1 Q
  refine tA.seq ok en q fun r1 xs q1 ex1 ok1 es1 dx h1 => ?_
  cases z : f r1.1 with
  | none => simp only [op, z] at h1; exact h1.elim
  | some res =>
    simp only [op, z] at h1
    exact hf q1 xs _ res Q ok1 dx z fun v q3 e3 ok3 es3 rk => h1 v q3 (ex1.trans e3) ok3 (es3.trans es1) (rk.tr ex1 e3)
theorem ev_typ {id : String} {r : List V → Hp → VK → Prop} {f : List D → Option R} (hc : CallR X (.type id) r) (hf : CallD M f r) (hm : X.mg x = none) (hv : bootBuiltins x = some (.type id)) (ha : PA X (e :: es) (tA M X.mg W el)) (hg : Gl X x := by rfl) (hn : x ≠ "__name__" := by decide)
    (hdb : (x == ("__debug__" : Str)) = false := by decide) (he : starEach (e :: es) X.env = (false, eval e X.env) :: starEach es X.env := by rfl)
    (hpl : (backTo pos (starEach es X.env)).any (·.1) = false := by rfl) : PE X (.Call (.Name x pp) (e :: es) [] pos) (tR M X.mg W (eFun f el)) := (pe_callTy hc hg hm hv ha hn hdb he hpl).con fun σ H Q ⟨ρ, p, hH, ok, en, q⟩ => by
  subst hH
  show tA M X.mg W el σ p.H fun vs H1 => r vs H1 Q
  refine tA.seq ok en q fun r1 xs q1 ex1 ok1 es1 dx h1 => ?_
  cases z : f r1.1 with
  | none => simp only [op, z] at h1; exact h1.elim
  | some res =>
    simp only [op, z] at h1
    exact hf q1 xs _ res Q ok1 dx z fun v q3 e3 ok3 es3 rk => h1 v q3 (ex1.trans e3) ok3 (es3.trans es1) (rk.tr ex1 e3)
end
end VQ

namespace VQ
open PySem PySem.Spec PyProof.Rows L2

theorem str_app (a b : List Nat) : (⟨a.toArray⟩ : Str) ++ (⟨b.toArray⟩ : Str) = ⟨(a ++ b).toArray⟩ := by
  show (⟨a.toArray ++ b.toArray⟩ : Str) = _
  simp
theorem str_len (a : List Nat) : (⟨a.toArray⟩ : Str).length = a.length := by simp [Str.length]
theorem str_tl (a : List Nat) : (⟨a.toArray⟩ : Str).cps.toList = a := rfl
theorem str_inj {a b : List Nat} : ((⟨a.toArray⟩ : Str) = ⟨b.toArray⟩) ↔ a = b := by
  constructor
  · intro h
    have := congrArg (fun s : Str => s.cps.toList) h
    simpa using this
  · intro h; rw [h]

section
variable {K : PySem.W.Frag} {M : WM K}
/-- an end with seen data, the heap as it stands -/
theorem fin_sh {p : Pt M} {d : D} {v : V} {Q : VK} (ok : p.Ok) (q : ∀ v (q : Pt M), Ext p q → q.Ok → q.s = p.s → ROk p q (.sh d) v → Q v q.H) (h : Den K p.ad p.Hv d v) : Q v p.H := q v p (Ext.refl p) ok rfl h
/-- a new tuple -/
theorem fin_tup {p : Pt M} {ds : List D} {vs : List V} {a : Addr} {Q : VK} (ok : p.Ok) (q : ∀ v (q : Pt M), Ext p q → q.Ok → q.s = p.s → ROk p q (.sh (.tup ds)) v → Q v q.H) (h : DenL K p.ad p.Hv ds vs) (ha : p.H a = none) : Q (.ref a) (upd p.H a (.tup vs)) :=
  q (.ref a) (p.lay a (.tup vs)) (ext_lay ok ha) (ok_lay ok ha) rfl ⟨a, vs, rfl, SqT.of upd_same, (ext_lay ok ha).denL h⟩
/-- a new list -/
theorem fin_lst {p : Pt M} {ds : List D} {vs : List V} {a : Addr} {Q : VK} (ok : p.Ok) (q : ∀ v (q : Pt M), Ext p q → q.Ok → q.s = p.s → ROk p q (.fr (.lst ds)) v → Q v q.H) (h : DenL K p.ad p.Hv ds vs) (ha : p.H a = none) : Q (.ref a) (upd p.H a (.lst vs)) :=
  q (.ref a) (p.hid a (.lst vs)) (ext_hid ha) (ok_hid ok ha) rfl ⟨a, .lst vs, rfl, upd_same, ok.vn ha, ok.fn ha, .inl ha, h⟩
theorem sqT_H {p : Pt M} (ok : p.Ok) {a : Addr} {vs : List V} (h : SqT K p.Hv a vs) : SqT K p.H a vs := sqT_same ok.view h

def addD : D → D → Option R
  | .int i, .int j => some (.sh (.int (i + j)))
  | .str a, .str b => if a.length + b.length ≤ big then some (.sh (.str (a ++ b))) else none
  | .tup a, .tup b => if a.length + b.length ≤ big then some (.sh (.tup (a ++ b))) else none
  | .lst a, .lst b => if a.length + b.length ≤ big then some (.fr (.lst (a ++ b))) else none
  | _, _ => none
def rAddD (K : PySem.W.Frag) : R2 := fun x y H Q => (rI0 (fun i j => .int (i + j)) x y H Q) ∨ (∃ i j, x = .str i ∧ y = .str j ∧ i.length + j.length ≤ sizeLine ∧ Q (.str (i ++ j)) H) ∨ rCatA K x y H Q ∨ rCat x y H Q
theorem or_add {X : Cx} : OpR X (binaryOp .Add) (rAddD X.K) := op_add.or (op_add_str.or (op_catA.or op_cat))
theorem od_add : OpD M addD (rAddD K) := fun p x y d e res Q ok hx hy hf q => by
  cases d <;> cases e <;> first | (simp only [addD] at hf; done) | skip
  all_goals try (simp only [addD] at hf; cases hf; done)
  · cases hx; cases hy; cases hf
    exact .inl ⟨_, _, rfl, rfl, fin_sh ok q rfl⟩
  · cases hx; cases hy
    simp only [addD] at hf
    split at hf
    · rename_i hl
      cases hf
      refine .inr (.inl ⟨_, _, rfl, rfl, ?_, ?_⟩)
      · rw [str_len, str_len]; exact big_line hl
      · rw [str_app]; exact fin_sh ok q rfl
    · cases hf
  · simp only [addD] at hf
    split at hf
    · rename_i hl
      cases hf
      obtain ⟨a, vs, rfl, h1, h2⟩ := hx
      obtain ⟨b, ws, rfl, h3, h4⟩ := hy
      refine .inr (.inr (.inl ⟨a, b, vs, ws, rfl, rfl, sqT_H ok h1, sqT_H ok h3, ?_, fun e => ?_, fun _ e => ?_, fun _ _ p hp => ?_⟩))
      · rw [h2.length, h4.length]; exact big_line hl
      · subst e
        have e := h2.nil_of
        subst e
        exact fin_sh ok q ⟨b, ws, rfl, h3, h4⟩
      · subst e
        have e := h4.nil_of
        subst e
        exact fin_sh ok q ⟨a, vs, rfl, h1, by simpa using h2⟩
      · exact fin_tup ok q (h2.append h4) hp
    · cases hf
  · simp only [addD] at hf
    split at hf
    · rename_i hl
      cases hf
      obtain ⟨a, vs, rfl, h1, h2⟩ := hx
      obtain ⟨b, ws, rfl, h3, h4⟩ := hy
      refine .inr (.inr (.inr ⟨a, b, vs, ws, rfl, rfl, ok.view _ _ h1, ok.view _ _ h3, ?_, fun p hp => ?_⟩))
      · rw [h2.length, h4.length]; exact big_line hl
      · exact fin_lst ok q (h2.append h4) hp
    · cases hf
def int2 (C : Int → Int → Bool) (g : Int → Int → Int) : D → D → Option R
  | .int i, .int j => if C i j = true then some (.sh (.int (g i j))) else none
  | _, _ => none
theorem od_int {C : Int → Int → Bool} {C' : Int → Int → Prop} {g : Int → Int → Int} (h : ∀ i j, C i j = true → C' i j) : OpD M (int2 C g) (rI C' fun i j => .int (g i j)) := fun p x y d e res Q ok hx hy hf q => by
  cases d <;> cases e <;> first | (simp only [int2] at hf; done) | skip
  all_goals try (simp only [int2] at hf; cases hf; done)
  cases hx; cases hy
  simp only [int2] at hf
  split at hf
  · rename_i hc
    cases hf
    exact ⟨_, _, rfl, rfl, h _ _ hc, fin_sh ok q rfl⟩
  · cases hf
def int20 (g : Int → Int → Int) : D → D → Option R
  | .int i, .int j => some (.sh (.int (g i j)))
  | _, _ => none
def subD : D → D → Option R := int20 fun i j => i - j
/-- bounds that nothing reckons with -/
noncomputable def lk (x : Int) : Int := (Classical.choice ⟨(⟨x, rfl⟩ : {y : Int // y = x})⟩).1
theorem lk_eq (x : Int) : lk x = x := (Classical.choice ⟨(⟨x, rfl⟩ : {y : Int // y = x})⟩).2
noncomputable def fdivD : D → D → Option R := int2 (fun _ j => decide (0 < j) && decide (j < lk 1073741824)) fun i j => i / j
def modD : D → D → Option R := int2 (fun _ j => decide (0 < j)) fun i j => i % j
theorem od_fdiv : OpD M fdivD (rI CDiv fun i j => .int (i / j)) := od_int fun i j h => by
  rw [lk_eq] at h
  simpa [CDiv] using h
theorem od_mod : OpD M modD (rI (fun _ j => 0 < j) fun i j => .int (i % j)) := od_int fun i j h => by simpa using h
def negD : D → Option D
  | .int i => some (.int (-i))
  | _ => none
theorem ud_neg : UnD M negD (rU fun i => .int (-i)) := fun p x d res Q ok hx hf q => by
  cases d <;> first | (cases hf; done) | skip
  cases hx; cases hf
  exact ⟨_, rfl, q _ p (Ext.refl p) ok rfl rfl⟩
def truD : D → Option Bool
  | .non => some false
  | .bl b => some b
  | .int i => some (i != 0)
  | .str s => if s.length ≤ big then some (!s.isEmpty) else none
  | .tup l => some (!l.isEmpty)
  | .lst l => some (!l.isEmpty)
  | _ => none
theorem td_tru : TrD M truD := fun p x d k ok hx hf => by
  cases d with
  | non => cases hx; cases hf; rfl
  | bl b => cases hx; cases hf; rfl
  | int i => cases hx; cases hf; rfl
  | str s =>
    cases hx
    simp only [truD] at hf
    split at hf
    · rename_i hl
      cases hf
      refine ⟨by rw [str_len]; exact big_line hl, ?_⟩
      rw [str_len]
      cases s <;> simp
      omega
    · cases hf
  | tup l =>
    cases hf
    obtain ⟨a, vs, rfl, h1, h2⟩ := hx
    refine .inr (.inl ⟨vs, sqT_H ok h1, ?_⟩)
    have := h2.length
    cases l <;> cases vs <;> simp_all
  | lst l =>
    cases hf
    obtain ⟨a, vs, rfl, h1, h2⟩ := hx
    refine .inl ⟨vs, SqL.of (ok.view _ _ h1), ?_⟩
    have := h2.length
    cases l <;> cases vs <;> simp_all
  | _ => cases hf
def cmpI (g : Int → Int → Bool) : D → D → Option Bool
  | .int i, .int j => some (g i j)
  | _, _ => none
theorem od_cmpI {g : Int → Int → Bool} : OpD M (fun d e => (cmpI g d e).map fun k => R.sh (.bl k)) (rI0 fun i j => .bl (g i j)) := fun p x y d e res Q ok hx hy hf q => by
  cases d <;> cases e <;> first | (simp [cmpI] at hf; done) | skip
  cases hx; cases hy; cases hf
  exact ⟨_, _, rfl, rfl, fin_sh ok q rfl⟩
def ltD := cmpI fun i j => decide (i < j)
def leD := cmpI fun i j => decide (i ≤ j)
def gtD := cmpI fun i j => decide (j < i)
def geD := cmpI fun i j => decide (j ≤ i)
/-- a comparison of data given as a Bool, as a value -/
def blD (f : D → D → Option Bool) : D → D → Option D := fun d e => (f d e).map .bl
theorem od_bl {f : D → D → Option Bool} {r : R2} (h : OpD M (fun d e => (f d e).map fun k => R.sh (.bl k)) r) : OpD M (fun d e => (blD f d e).map R.sh) r := fun p x y d e res Q ok hx hy hf q => h p x y d e res Q ok hx hy (by
  show Option.map _ _ = _
  have hf : Option.map R.sh (Option.map D.bl (f d e)) = some res := hf
  rw [Option.map_map] at hf
  exact hf) q
/-- is None -/
def isNon : D → Bool
  | .non => true
  | _ => false
theorem den_non {p : Pt M} {d : D} {x : V} (h : Den K p.ad p.Hv d x) : decide (x = .non) = isNon d := by
  cases d with
  | non => cases h; rfl
  | bl _ => cases h; rfl
  | int _ => cases h; rfl
  | str _ => cases h; rfl
  | ty _ => cases h; rfl
  | tup _ => obtain ⟨_, _, rfl, _⟩ := h; rfl
  | lst _ => obtain ⟨_, _, rfl, _⟩ := h; rfl
  | dk _ => obtain ⟨_, _, rfl, _⟩ := h; rfl
  | dt _ => obtain ⟨_, _, rfl, _⟩ := h; rfl
  | obj _ => obtain ⟨_, _, rfl⟩ := h; rfl
def isD : D → D → Option Bool
  | d, .non => some (isNon d)
  | _, _ => none
def isnotD : D → D → Option Bool
  | d, .non => some (!isNon d)
  | _, _ => none
theorem od_is : OpD M (fun d e => (isD d e).map fun k => R.sh (.bl k)) (fun x y H Q => y = .non ∧ Q (.bl (decide (x = .non))) H) := fun p x y d e res Q ok hx hy hf q => by
  cases e <;> first | (simp [isD] at hf; done) | skip
  cases hy; cases hf
  refine ⟨rfl, ?_⟩
  rw [den_non hx]
  exact fin_sh ok q rfl
theorem od_isnot : OpD M (fun d e => (isnotD d e).map fun k => R.sh (.bl k)) (fun x y H Q => y = .non ∧ Q (.bl (!decide (x = .non))) H) := fun p x y d e res Q ok hx hy hf q => by
  cases e <;> first | (simp [isnotD] at hf; done) | skip
  cases hy; cases hf
  refine ⟨rfl, ?_⟩
  rw [den_non hx]
  exact fin_sh ok q rfl
mutual
/-- == of data (bools are ints) -/
def eqD : D → D → Bool
  | .non, .non => true
  | .bl a, .bl b => a == b
  | .bl a, .int j => (if a then 1 else 0) == j
  | .int i, .bl b => i == (if b then 1 else 0)
  | .int i, .int j => i == j
  | .str a, .str b => a == b
  | .tup a, .tup b => eqDs a b
  | .lst a, .lst b => eqDs a b
  | _, _ => false
def eqDs : List D → List D → Bool
  | [], [] => true
  | x :: xs, y :: ys => eqD x y && eqDs xs ys
  | _, _ => false
end
mutual
/-- what == is told of: plain, at most n deep -/
def pl : Nat → D → Bool
  | _, .non => true
  | _, .bl _ => true
  | _, .int _ => true
  | _, .str s => s.all fun c => decide (c < 1114112)
  | n + 1, .tup l => plL n l
  | n + 1, .lst l => plL n l
  | _, _ => false
def plL : Nat → List D → Bool
  | _, [] => true
  | n, d :: ds => pl n d && plL n ds
end
mutual
def py : D → PyData
  | .non => .none
  | .bl b => .bool b
  | .int i => .int i
  | .str s => .str ⟨s.toArray⟩
  | .tup l => .tuple (pyL l)
  | .lst l => .list (pyL l)
  | _ => .none
def pyL : List D → List PyData
  | [] => []
  | d :: ds => py d :: pyL ds
end

end
section
variable {K : PySem.W.Frag} {M : WM K}
mutual
theorem eqv_py : ∀ (m n : Nat) (d e : D), pl m d = true → pl n e = true → PyData.eqv (py d) (py e) = eqD d e
  | m, n, d, e, h1, h2 => by
    cases d with
    | non => cases e <;> first | rfl | (cases n <;> cases h2; done) | (cases n <;> simp [py, PyData.eqv, eqD])
    | bl b => cases e <;> first | rfl | (cases n <;> cases h2; done) | (cases n <;> simp [py, PyData.eqv, eqD])
    | int i => cases e <;> first | rfl | (cases n <;> cases h2; done) | (cases n <;> simp [py, PyData.eqv, eqD])
    | str s =>
      cases e with
      | str t =>
        show ((⟨s.toArray⟩ : Str) == ⟨t.toArray⟩) = (s == t)
        by_cases h : s = t
        · subst h; simp
        · have h' : ¬ (⟨s.toArray⟩ : Str) = ⟨t.toArray⟩ := fun q => h (str_inj.mp q)
          rw [beq_eq_false_iff_ne.mpr h, beq_eq_false_iff_ne.mpr h']
      | _ => first | rfl | (cases n <;> cases h2; done) | (cases n <;> simp [py, PyData.eqv, eqD])
    | tup l =>
      cases m with
      | zero => cases h1
      | succ m =>
        cases e with
        | tup l' =>
          cases n with
          | zero => cases h2
          | succ n => exact eqv_pyL m n l l' h1 h2
        | _ => first | rfl | (cases n <;> cases h2; done) | (cases n <;> simp [py, PyData.eqv, eqD])
    | lst l =>
      cases m with
      | zero => cases h1
      | succ m =>
        cases e with
        | lst l' =>
          cases n with
          | zero => cases h2
          | succ n => exact eqv_pyL m n l l' h1 h2
        | _ => first | rfl | (cases n <;> cases h2; done) | (cases n <;> simp [py, PyData.eqv, eqD])
    | _ => cases m <;> cases h1
theorem eqv_pyL : ∀ (m n : Nat) (ds es : List D), plL m ds = true → plL n es = true → PyData.eqvAll (pyL ds) (pyL es) = eqDs ds es
  | m, n, [], [], _, _ => rfl
  | m, n, [], _ :: _, _, _ => rfl
  | m, n, _ :: _, [], _, _ => rfl
  | m, n, d :: ds, e :: es, h1, h2 => by
    have h1' : (pl m d && plL m ds) = true := by cases m <;> exact h1
    have h2' : (pl n e && plL n es) = true := by cases n <;> exact h2
    rw [Bool.and_eq_true] at h1' h2'
    show (PyData.eqv (py d) (py e) && PyData.eqvAll (pyL ds) (pyL es)) = (eqD d e && eqDs ds es)
    rw [eqv_py m n d e h1'.1 h2'.1, eqv_pyL m n ds es h1'.2 h2'.2]
end

mutual
theorem lay_py : ∀ (n : Nat) (d : D), pl n d = true → (py d).canLay0 = true ∧ (py d).depth ≤ n
  | n, d, h => by
    cases d with
    | non => cases n <;> exact ⟨rfl, Nat.zero_le _⟩
    | bl b => cases n <;> exact ⟨rfl, Nat.zero_le _⟩
    | int i => cases n <;> exact ⟨rfl, Nat.zero_le _⟩
    | str s =>
      have h' : (s.all fun c => decide (c < 1114112)) = true := by cases n <;> exact h
      refine ⟨?_, by cases n <;> exact Nat.zero_le _⟩
      show PyData.strOk ⟨s.toArray⟩ = true
      unfold PyData.strOk
      simpa using h'
    | tup l =>
      cases n with
      | zero => cases h
      | succ n =>
        obtain ⟨h1, h2⟩ := lay_pyL n l h
        refine ⟨h1, ?_⟩
        show PyData.depth (.tuple (pyL l)) ≤ n + 1
        first | exact Nat.succ_le_succ h2 | (simp only [PyData.depth]; omega)
    | lst l =>
      cases n with
      | zero => cases h
      | succ n =>
        obtain ⟨h1, h2⟩ := lay_pyL n l h
        refine ⟨h1, ?_⟩
        show PyData.depth (.list (pyL l)) ≤ n + 1
        first | exact Nat.succ_le_succ h2 | (simp only [PyData.depth]; omega)
    | _ => cases n <;> cases h
theorem lay_pyL : ∀ (n : Nat) (ds : List D), plL n ds = true → PyData.canLayAll0 (pyL ds) = true ∧ PyData.depthAll (pyL ds) ≤ n
  | n, [], _ => ⟨rfl, Nat.zero_le _⟩
  | n, d :: ds, h => by
    have h' : (pl n d && plL n ds) = true := by cases n <;> exact h
    rw [Bool.and_eq_true] at h'
    obtain ⟨a1, a2⟩ := lay_py n d h'.1
    obtain ⟨b1, b2⟩ := lay_pyL n ds h'.2
    refine ⟨?_, ?_⟩
    · show ((py d).canLay0 && PyData.canLayAll0 (pyL ds)) = true
      rw [a1, b1]; rfl
    · show PyData.depthAll (py d :: pyL ds) ≤ n
      simp only [PyData.depthAll]
      omega
end
mutual
theorem dp_py {ad : Nat → Option Addr} {Hv : Hp} : ∀ (n : Nat) (d : D) (v : V), pl n d = true → Den K ad Hv d v → Dp K Hv v (py d)
  | n, d, v, h, hd => by
    cases d with
    | non => cases hd; exact .non
    | bl b => cases hd; exact .bl b
    | int i => cases hd; exact .int i
    | str s => cases hd; exact .str _
    | tup l =>
      cases n with
      | zero => cases h
      | succ n =>
        obtain ⟨a, vs, rfl, h1, h2⟩ := hd
        exact .tup h1 (dp_pyL n l vs h h2)
    | lst l =>
      cases n with
      | zero => cases h
      | succ n =>
        obtain ⟨a, vs, rfl, h1, h2⟩ := hd
        exact .lst (SqL.of h1) (dp_pyL n l vs h h2)
    | _ => cases n <;> cases h
theorem dp_pyL {ad : Nat → Option Addr} {Hv : Hp} : ∀ (n : Nat) (ds : List D) (vs : List V), plL n ds = true → DenL K ad Hv ds vs → DpAll K Hv vs (pyL ds)
  | n, [], vs, _, h => by cases h; exact .nil
  | n, d :: ds, vs, h, hd => by
    have h' : (pl n d && plL n ds) = true := by cases n <;> exact h
    rw [Bool.and_eq_true] at h'
    obtain ⟨v, r, rfl, h1, h2⟩ := hd
    exact .cons (dp_py n d v h'.1 h1) (dp_pyL n ds r h'.2 h2)
end
def strs2 : D → D → Bool
  | .str _, .str _ => true
  | _, _ => false
/-- == where it is told -/
def eqO (d e : D) : Option Bool := if (strs2 d e || (pl 40 d && pl 40 e)) = true then some (eqD d e) else none
def neO (d e : D) : Option Bool := (eqO d e).map (!·)
theorem shaped_py {d : D} (h : pl 40 d = true) : SeqAt.shaped (py d) = true := by
  obtain ⟨h1, h2⟩ := lay_py 40 d h
  unfold SeqAt.shaped
  rw [h1, decide_eq_true (Nat.le_trans h2 (by decide))]
  rfl
theorem eqO_cases {d e : D} {k : Bool} (h : eqO d e = some k) : (∃ a b, d = .str a ∧ e = .str b ∧ k = (a == b)) ∨ (pl 40 d = true ∧ pl 40 e = true ∧ k = PyData.eqv (py d) (py e)) := by
  unfold eqO at h
  split at h
  · rename_i hc
    cases h
    rw [Bool.or_eq_true] at hc
    rcases hc with hc | hc
    · cases d <;> cases e <;> first | (cases hc; done) | exact .inl ⟨_, _, rfl, rfl, rfl⟩
    · rw [Bool.and_eq_true] at hc
      exact .inr ⟨hc.1, hc.2, (eqv_py 40 40 d e hc.1 hc.2).symm⟩
  · cases h
theorem same_dp {H H' : Hp} (s : Same H H') : (∀ {v : V} {d : PyData}, Dp K H v d → Dp K H' v d) := by
  intro v d h
  refine Dp.rec (motive_1 := fun v d _ => Dp K H' v d) (motive_2 := fun vs ds _ => DpAll K H' vs ds) .non (fun b => .bl b) (fun i => .int i) (fun x => .str x) (fun h1 _ ih => .lst ?_ ih) (fun h1 _ ih => .tup (sqT_same s h1) ih) .nil (fun _ _ i1 i2 => .cons i1 i2) h
  exact sqL_same s h1
theorem od_eq {K : PySem.W.Frag} {M : WM K} : OpD M (fun d e => (eqO d e).map fun k => R.sh (.bl k)) (fun x y H Q => rEq x y H Q ∨ rEqD K x y H Q) := fun p x y d e res Q ok hx hy hf q => by
  cases z : eqO d e with
  | none => simp only [z] at hf; cases hf
  | some k =>
    simp only [z] at hf; cases hf
    rcases eqO_cases z with ⟨a, b, rfl, rfl, rfl⟩ | ⟨h1, h2, rfl⟩
    · cases hx; cases hy
      refine .inl ⟨rfl, ?_⟩
      have e : decide (V.str ⟨a.toArray⟩ = V.str ⟨b.toArray⟩) = (a == b) := by
        by_cases h : a = b
        · subst h; simp
        · rw [beq_eq_false_iff_ne.mpr h]
          exact decide_eq_false fun q => h (str_inj.mp (V.str.inj q))
      rw [e]
      exact fin_sh ok q rfl
    · exact .inr ⟨_, _, same_dp ok.view (dp_py 40 d x h1 hx), same_dp ok.view (dp_py 40 e y h2 hy), shaped_py h1, shaped_py h2, fin_sh ok q rfl⟩
theorem od_ne {K : PySem.W.Frag} {M : WM K} : OpD M (fun d e => (neO d e).map fun k => R.sh (.bl k)) (fun x y H Q => rNe x y H Q ∨ rNeD K x y H Q) := fun p x y d e res Q ok hx hy hf q => by
  cases z : eqO d e with
  | none => simp only [neO, z] at hf; cases hf
  | some k =>
    simp only [neO, z] at hf; cases hf
    rcases eqO_cases z with ⟨a, b, rfl, rfl, rfl⟩ | ⟨h1, h2, rfl⟩
    · cases hx; cases hy
      refine .inl ⟨rfl, ?_⟩
      have e : decide (V.str ⟨a.toArray⟩ = V.str ⟨b.toArray⟩) = (a == b) := by
        by_cases h : a = b
        · subst h; simp
        · rw [beq_eq_false_iff_ne.mpr h]
          exact decide_eq_false fun q => h (str_inj.mp (V.str.inj q))
      rw [e]
      exact fin_sh ok q rfl
    · exact .inr ⟨_, _, same_dp ok.view (dp_py 40 d x h1 hx), same_dp ok.view (dp_py 40 e y h2 hy), shaped_py h1, shaped_py h2, fin_sh ok q rfl⟩
theorem or_eq {X : Cx} (hu : X.A.units + 64 < cLine) : OpR X (compareOp .Eq) (fun x y H Q => rEq x y H Q ∨ rEqD X.K x y H Q) := op_eq.or (op_eqD hu)
theorem or_ne {X : Cx} (hu : X.A.units + 64 < cLine) : OpR X (compareOp .NotEq) (fun x y H Q => rNe x y H Q ∨ rNeD X.K x y H Q) := op_ne.or (op_neD hu)
end
end VQ

namespace VQ
open PySem PySem.Spec PyProof.Rows L2
section
variable {K : PySem.W.Frag} {ad : Nat → Option Addr} {Hv : Hp}
theorem DenL.at_ {ds : List D} {vs : List V} {i : Int} {d : D} (h : DenL K ad Hv ds vs) (e : atI ds i = some d) : ∃ v, atI vs i = some v ∧ Den K ad Hv d v := by
  unfold atI at e ⊢
  rw [h.length]
  cases z : ixN ds.length i with
  | none => rw [z] at e; cases e
  | some j =>
    rw [z] at e
    obtain ⟨v, h1, h2⟩ := h.get (i := j) (d := d) e
    exact ⟨v, h1, h2⟩
/-- l[lo:hi] -/
def cutL {α : Type} (l : List α) (lo hi : Option Int) : List α := (l.drop (HT.sIx l.length 0 lo)).take (HT.sIx l.length l.length hi - HT.sIx l.length 0 lo)
theorem DenL.cut {ds : List D} {vs : List V} (h : DenL K ad Hv ds vs) (lo hi : Option Int) : DenL K ad Hv (cutL ds lo hi) (cutV vs lo hi) := by
  unfold cutL cutV
  rw [h.length]
  exact (h.drop _).take _
/-- data of bools, of ints, of texts -/
def blsD : List D → Option (List Bool)
  | [] => some []
  | .bl b :: r => (blsD r).map (b :: ·)
  | _ => none
theorem blsD_den : ∀ {ds : List D} {vs : List V} {bs : List Bool}, blsD ds = some bs → DenL K ad Hv ds vs → vs = bs.map V.bl
  | [], _, _, e, h => by cases e; cases h; rfl
  | .bl b :: r, _, _, e, ⟨v, vs, e2, h, t⟩ => by
    cases z : blsD r with
    | none => simp [blsD, z] at e
    | some l =>
      simp [blsD, z] at e
      subst e
      cases h; cases e2
      rw [blsD_den z t]; rfl
theorem blsD_map : ∀ l : List Bool, blsD (l.map D.bl) = some l
  | [] => rfl
  | i :: l => by simp [blsD, blsD_map l]
end
section
variable {X : Cx} {M : WM X.K} {W : WX} {e a b : Expr} {es rest : List Expr} {pos : Pos} {ea eb : Ev M D} {er : Ev M R} {el : Ev M (List D)}
def ixD : D → D → Option D
  | .tup l, .int i => atI l i
  | .lst l, .int i => atI l i
  | .str s, .int i => if s.length ≤ big then (atI s i).map fun c => .str [c] else none
  | _, _ => none
theorem od_ix {K : PySem.W.Frag} {M : WM K} : OpD M (fun d e => (ixD d e).map R.sh) (rIx K) := fun p x y d e res Q ok hx hy hf q => by
  cases d <;> cases e <;> first | (simp [ixD] at hf; done) | skip
  · cases hx; cases hy
    simp only [ixD] at hf
    split at hf
    · rename_i s i hl
      cases z : atI s i with
      | none => rw [z] at hf; cases hf
      | some c =>
        rw [z] at hf; cases hf
        exact .inr (.inr ⟨_, _, c, rfl, rfl, by rw [str_len]; exact big_line hl, by rw [str_tl]; exact z, fin_sh ok q rfl⟩)
    · cases hf
  · rename_i l i
    cases hy
    cases z : atI l i with
    | none => simp [ixD, z] at hf
    | some c =>
      simp [ixD, z] at hf; cases hf
      obtain ⟨a, vs, rfl, h1, h2⟩ := hx
      obtain ⟨v, h3, h4⟩ := h2.at_ z
      exact .inr (.inl ⟨a, vs, _, v, rfl, rfl, sqT_H ok h1, h3, fin_sh ok q h4⟩)
  · rename_i l i
    cases hy
    cases z : atI l i with
    | none => simp [ixD, z] at hf
    | some c =>
      simp [ixD, z] at hf; cases hf
      obtain ⟨a, vs, rfl, h1, h2⟩ := hx
      obtain ⟨v, h3, h4⟩ := h2.at_ z
      exact .inl ⟨a, vs, _, v, rfl, rfl, SqL.of (ok.view _ _ h1), h3, fin_sh ok q h4⟩
theorem ev_ix (ha : PE X a (tD M X.mg W ea)) (hb : PE X b (tD M X.mg W eb)) (hs : PlainIx b := by intro _ _; rfl) : PE X (.Subscript a b pos) (tD M X.mg W (eBinD ixD ea eb)) := (pe_ix ix_seq ha hb hs).con fun σ H Q ⟨ρ, p, hH, ok, en, q⟩ => by
  subst hH
  show tD M X.mg W ea σ p.H fun x H1 => tD M X.mg W eb σ H1 fun y H2 => rIx X.K x y H2 Q
  refine tG.seq ok en q fun r1 x q1 ex1 ok1 es1 dx h1 => ?_
  rw [← es1] at h1
  refine tG.seq ok1 (en.ext ex1) (XEnds ex1 h1 fun _ h => h) fun r2 y q2 ex2 ok2 es2 dy h2 => ?_
  cases z : ixD r1.1 r2.1 with
  | none => simp only [op, z] at h2; exact h2.elim
  | some res =>
    simp only [op, z] at h2
    exact od_ix q2 x y _ _ (.sh res) Q ok2 (ex2.den dx) dy (by show Option.map R.sh (ixD r1.1 r2.1) = _; rw [z]; rfl) fun v q3 e3 ok3 es3 rk => h2 v q3 ((ex1.trans ex2).trans e3) ok3 (es3.trans es2) rk
def slD (d : D) (lo hi : Option Int) : Option R := match d with
  | .tup l => some (.sh (.tup (cutL l lo hi)))
  | .lst l => some (.fr (.lst (cutL l lo hi)))
  | .str s => if s.length ≤ big then some (.sh (.str (cutL s lo hi))) else none
  | _ => none
/-- an end of a slice -/
def tPt (W : WX) (eo : Ev M (Option Int)) : TO := fun σ H Q => ∃ (ρ : Dv) (p : Pt M), p.H = H ∧ p.Ok ∧ EnvD M p σ ρ ∧ (eo ρ p.s).all (fun r => ∀ (q : Pt M), Ext p q → q.Ok → q.s = r.2 → Q r.1 q.H) (XEnd M X.mg p W σ)
def eNoPt {K : PySem.W.Frag} {M : WM K} : Ev M (Option Int) := fun _ s => .ret (none, s)
def intOf : D → Option Int
  | .int i => some i
  | _ => none
def ePt {K : PySem.W.Frag} {M : WM K} (ea : Ev M D) : Ev M (Option Int) := fun ρ s => (ea ρ s).bind fun a => match intOf a.1 with
  | some i => .ret (some i, a.2)
  | none => .bad
def eSl {K : PySem.W.Frag} {M : WM K} (ea : Ev M D) (el eh : Ev M (Option Int)) : Ev M R := fun ρ s => (ea ρ s).bind fun a => (el ρ a.2).bind fun l => (eh ρ l.2).bind fun h => op (slD a.1 l.1 h.1) h.2
theorem _root_.L2.PO.con {X : Cx} {e : Option Expr} {t t' : TO} (h : PO X e t) (i : ∀ σ H Q, t' σ H Q → t σ H Q) : PO X e t' := ⟨fun pins s σ H Q I q => h.run pins s σ H Q I (i _ _ _ q)⟩
theorem ep_none : PO X none (tPt W (eNoPt : Ev M _)) := po_none.con fun σ H Q ⟨ρ, p, hH, ok, en, q⟩ => by
  subst hH
  exact q p (Ext.refl p) ok rfl
theorem ep_some (ha : PE X a (tD M X.mg W ea)) : PO X (some a) (tPt W (ePt ea)) := (po_some ha).con fun σ H Q ⟨ρ, p, hH, ok, en, q⟩ => by
  subst hH
  show tD M X.mg W ea σ p.H fun x H1 => ∃ i, x = .int i ∧ Q (some i) H1
  refine tG.seq ok en q fun r1 x q1 ex1 ok1 es1 dx h1 => ?_
  obtain ⟨d, s1⟩ := r1
  cases d <;> simp only [intOf] at h1 <;> first | exact h1.elim | skip
  cases dx
  exact ⟨_, rfl, h1 q1 ex1 ok1 es1⟩
theorem ev_sl {lo hi : Option Expr} {p2 : Pos} {eo eh : Ev M (Option Int)} (ha : PE X a (tD M X.mg W ea)) (hl : PO X lo (tPt W eo)) (hh : PO X hi (tPt W eh)) :
    PE X (.Subscript a (.Slice lo hi none p2) pos) (tR M X.mg W (eSl ea eo eh)) := (pe_slice (sl_list.or (sl_tupA.or sl_str)) ha hl hh).con fun σ H Q ⟨ρ, p, hH, ok, en, q⟩ => by
  subst hH
  unfold tSl
  refine tG.seq ok en q fun r1 x q1 ex1 ok1 es1 dx h1 => ?_
  rw [← es1] at h1
  refine ⟨ρ, q1, rfl, ok1, en.ext ex1, G.all_mono (fun r2 h2 q2 ex2 ok2 es2 => ?_) (fun _ h => h.ext ex1) (G.all_bind.mp h1)⟩
  rw [← es2] at h2
  refine ⟨ρ, q2, rfl, ok2, en.ext (ex1.trans ex2), G.all_mono (fun r3 h3 q3 ex3 ok3 es3 => ?_) (fun _ h => h.ext (ex1.trans ex2)) (G.all_bind.mp h2)⟩
  have e13 := (ex1.trans ex2).trans ex3
  have dx3 := (ex2.trans ex3).den dx
  cases z : slD r1.1 r2.1 r3.1 with
  | none => simp only [op, z] at h3; exact h3.elim
  | some res =>
    simp only [op, z] at h3
    have fin : ∀ v (q4 : Pt M), Ext q3 q4 → q4.Ok → q4.s = q3.s → ROk q3 q4 res v → Q v q4.H := fun v q4 e4 ok4 es4 rk => h3 v q4 (e13.trans e4) ok4 (es4.trans es3) (rk.tr e13 e4)
    cases hd : r1.1 with
    | tup l =>
      rw [hd] at dx3 z
      cases z
      obtain ⟨a, vs, rfl, h1', h2'⟩ := dx3
      refine .inr (.inl ⟨a, vs, rfl, sqT_H ok3 h1', fun hw => ?_, fun _ p hp => fin_tup ok3 fin (h2'.cut _ _) hp⟩)
      have e : cutL l r2.1 r3.1 = l := by
        unfold cutL
        rw [← h2'.length, hw.1, hw.2, List.drop_zero, Nat.sub_zero, h2'.length, List.take_length]
      rw [e] at fin
      exact fin_sh ok3 fin ⟨a, vs, rfl, h1', h2'⟩
    | lst l =>
      rw [hd] at dx3 z
      cases z
      obtain ⟨a, vs, rfl, h1', h2'⟩ := dx3
      exact .inl ⟨a, vs, rfl, SqL.of (ok3.view _ _ h1'), fun p hp => fin_lst ok3 fin (h2'.cut _ _) hp⟩
    | str l =>
      rw [hd] at dx3 z
      simp only [slD] at z
      split at z
      · rename_i hl
        cases z
        cases dx3
        refine .inr (.inr ⟨_, rfl, by rw [str_len]; exact big_line hl, ?_⟩)
        have e : cutS ⟨l.toArray⟩ r2.1 r3.1 = ⟨(cutL l r2.1 r3.1).toArray⟩ := by
          unfold cutS cutL
          rw [str_len, str_tl]
        rw [e]
        exact fin_sh ok3 fin rfl
      · cases z
    | _ => rw [hd] at z; cases z
def scD : D → Bool
  | .non => true
  | .bl _ => true
  | .int _ => true
  | .str _ => true
  | _ => false
def inD (d : D) : D → Option Bool
  | .str z => match d with
    | .str [c] => some (decide (c ∈ z))
    | _ => none
  | .tup l => if (scD d && l.all scD) = true then some (l.any fun y => eqD y d) else if (pl 40 d && plL 39 l) = true then some (l.any fun y => eqD y d) else none
  | .lst l => if (scD d && l.all scD) = true then some (l.any fun y => eqD y d) else if (pl 40 d && plL 39 l) = true then some (l.any fun y => eqD y d) else none
  | _ => none
theorem den_sc {K : PySem.W.Frag} {ad : Nat → Option Addr} {Hv : Hp} {d : D} {v : V} (h : Den K ad Hv d v) (s : scD d = true) : flatV v = true := by
  cases d <;> first | (cases s; done) | (cases h; rfl)
theorem den_eqV {K : PySem.W.Frag} {ad : Nat → Option Addr} {Hv : Hp} {d e : D} {v w : V} (h : Den K ad Hv d v) (h' : Den K ad Hv e w) (s : scD d = true) (s' : scD e = true) : eqV v w = eqD d e := by
  cases d <;> first | (cases s; done) | skip
  all_goals (cases e <;> first | (cases s'; done) | skip)
  all_goals (cases h; cases h'; first | rfl | skip)
  rename_i a b
  show ((⟨a.toArray⟩ : Str) == ⟨b.toArray⟩) = (a == b)
  by_cases h : a = b
  · subst h; simp
  · rw [beq_eq_false_iff_ne.mpr h, beq_eq_false_iff_ne.mpr fun q => h (str_inj.mp q)]
theorem den_all {K : PySem.W.Frag} {ad : Nat → Option Addr} {Hv : Hp} : ∀ {ds : List D} {vs : List V}, DenL K ad Hv ds vs → ds.all scD = true → vs.all flatV = true
  | [], _, h, _ => by cases h; rfl
  | d :: ds, _, ⟨v, r, e, h, t⟩, s => by
    cases e
    simp only [List.all_cons, Bool.and_eq_true] at s ⊢
    exact ⟨den_sc h s.1, den_all t s.2⟩
theorem den_any {K : PySem.W.Frag} {ad : Nat → Option Addr} {Hv : Hp} {x : D} {xv : V} (hx : Den K ad Hv x xv) (sx : scD x = true) : ∀ {ds : List D} {vs : List V}, DenL K ad Hv ds vs → ds.all scD = true → inV xv vs = ds.any fun y => eqD y x
  | [], _, h, _ => by cases h; rfl
  | d :: ds, _, ⟨v, r, e, h, t⟩, s => by
    cases e
    simp only [List.all_cons, Bool.and_eq_true] at s
    have ih := den_any hx sx t s.2
    unfold inV at ih ⊢
    rw [List.any_cons, List.any_cons, den_eqV h hx s.1 sx, ih]
def rInT (K : PySem.W.Frag) (neg : Bool) : R2 := fun x y H Q => ∃ d ds, Dp K H x d ∧ Dp K H y (.tuple ds) ∧ SeqAt.shaped d = true ∧ SeqAt.shaped (.tuple ds) = true ∧ Q (.bl (if neg then !(ds.any fun z => PyData.eqv z d) else ds.any fun z => PyData.eqv z d)) H
theorem op_inDT {X : Cx} (hu : X.A.units + 65 < cLine) : OpR X (compareOp .In) (rInT X.K false) := by
  intro pins s σ H x y v u Q I rx ry h
  obtain ⟨d, ds, hd, he, sd, se, q⟩ := h
  obtain ⟨as, r1⟩ := Dp.reads I d x v hd rx
  obtain ⟨bs, r2⟩ := Dp.reads I (.tuple ds) y u he ry
  exact SeqAt.in_tuple_reads r2 r1 (SeqAt.canLay_of_shaped se) (SeqAt.canLay_of_shaped sd) (room_in_shaped sd hu) ⟨.bl _, H, I, rfl, q⟩
def rInD (K : PySem.W.Frag) (neg : Bool) : R2 := fun x y H Q => (∃ (c : Nat) (z : Str), x = .str ⟨#[c]⟩ ∧ y = .str z ∧ Q (.bl (if neg then !decide (c ∈ z.cps.toList) else decide (c ∈ z.cps.toList))) H) ∨ rIn K neg x y H Q ∨
  (∃ d ds, Dp K H x d ∧ Dp K H y (.list ds) ∧ SeqAt.shaped d = true ∧ SeqAt.shaped (.list ds) = true ∧ Q (.bl (if neg then !(ds.any fun z => PyData.eqv z d) else ds.any fun z => PyData.eqv z d)) H) ∨ rInT K neg x y H Q
theorem any_py {d : D} (hd : pl 40 d = true) : ∀ {l : List D}, plL 39 l = true → (pyL l).any (fun z => PyData.eqv z (py d)) = l.any fun y => eqD y d
  | [], _ => rfl
  | y :: l, h => by
    have h' : (pl 39 y && plL 39 l) = true := h
    rw [Bool.and_eq_true] at h'
    show (PyData.eqv (py y) (py d) || (pyL l).any _) = (eqD y d || l.any _)
    rw [eqv_py 39 40 y d h'.1 hd, any_py hd h'.2]
theorem or_in (hu : X.A.units + 65 < cLine) : OpR X (compareOp .In) (rInD X.K false) := op_in_sign.or (op_in_seq.or ((op_inD hu).or (op_inDT hu)))
theorem od_inN (neg : Bool) {K : PySem.W.Frag} {M : WM K} : OpD M (fun d e => ((inD d e).map fun k => if neg then !k else k).map fun k => R.sh (.bl k)) (rInD K neg) := fun p x y d e res Q ok hx hy hf q => by
  cases e <;> first | (simp [inD] at hf; done) | skip
  · rename_i z
    cases hy
    cases d <;> first | (simp [inD] at hf; done) | skip
    rename_i s
    cases s with
    | nil => simp [inD] at hf
    | cons c s =>
      cases s with
      | cons _ _ => simp [inD] at hf
      | nil =>
        simp only [inD, Option.map_some, Option.some.injEq] at hf
        subst hf
        cases hx
        exact .inl ⟨c, _, rfl, rfl, fin_sh ok q rfl⟩
  · rename_i l
    by_cases hc : (scD d && l.all scD) = true
    · simp only [inD, if_pos hc, Option.map_some, Option.some.injEq] at hf
      subst hf
      rw [Bool.and_eq_true] at hc
      obtain ⟨a, vs, rfl, h1, h2⟩ := hy
      refine .inr (.inl ⟨a, vs, rfl, .inr (sqT_H ok h1), den_sc hx hc.1, den_all h2 hc.2, ?_⟩)
      rw [den_any hx hc.1 h2 hc.2]
      exact fin_sh ok q rfl
    · by_cases hc2 : (pl 40 d && plL 39 l) = true
      · simp only [inD, if_neg hc, if_pos hc2, Option.map_some, Option.some.injEq] at hf
        subst hf
        rw [Bool.and_eq_true] at hc2
        have hl : pl 40 (.tup l) = true := hc2.2
        refine .inr (.inr (.inr ⟨py d, pyL l, same_dp ok.view (dp_py 40 d x hc2.1 hx), same_dp ok.view (dp_py 40 (.tup l) y hl hy), shaped_py hc2.1, shaped_py hl, ?_⟩))
        rw [any_py hc2.1 hc2.2]
        exact fin_sh ok q rfl
      · simp only [inD, if_neg hc, if_neg hc2, Option.map_none] at hf
        cases hf
  · rename_i l
    by_cases hc : (scD d && l.all scD) = true
    · simp only [inD, if_pos hc, Option.map_some, Option.some.injEq] at hf
      subst hf
      rw [Bool.and_eq_true] at hc
      obtain ⟨a, vs, rfl, h1, h2⟩ := hy
      refine .inr (.inl ⟨a, vs, rfl, .inl (SqL.of (ok.view _ _ h1)), den_sc hx hc.1, den_all h2 hc.2, ?_⟩)
      rw [den_any hx hc.1 h2 hc.2]
      exact fin_sh ok q rfl
    · by_cases hc2 : (pl 40 d && plL 39 l) = true
      · simp only [inD, if_neg hc, if_pos hc2, Option.map_some, Option.some.injEq] at hf
        subst hf
        rw [Bool.and_eq_true] at hc2
        have hl : pl 40 (.lst l) = true := hc2.2
        refine .inr (.inr (.inl ⟨py d, pyL l, same_dp ok.view (dp_py 40 d x hc2.1 hx), same_dp ok.view (dp_py 40 (.lst l) y hl hy), shaped_py hc2.1, shaped_py hl, ?_⟩))
        rw [any_py hc2.1 hc2.2]
        exact fin_sh ok q rfl
      · simp only [inD, if_neg hc, if_neg hc2, Option.map_none] at hf
        cases hf
theorem od_in {K : PySem.W.Frag} {M : WM K} : OpD M (fun d e => (inD d e).map fun k => R.sh (.bl k)) (rInD K false) := fun p x y d e res Q ok hx hy hf q => od_inN false p x y d e res Q ok hx hy (by
  simpa using hf) q
def lenD : List D → Option R
  | [.str s] => if s.length ≤ big then some (.sh (.int s.length)) else none
  | [.tup l] => some (.sh (.int l.length))
  | [.lst l] => some (.sh (.int l.length))
  | _ => none
theorem cd_len {K : PySem.W.Frag} {M : WM K} : CallD M lenD (fun xs H Q => ∃ x n, xs = [x] ∧ LenV K x H n ∧ Q (.int n) H) := fun p xs ds res Q ok hx hf q => by
  cases ds with
  | nil => cases hf
  | cons d r =>
    cases r with
    | cons _ _ => cases d <;> cases hf
    | nil =>
      obtain ⟨v, r, rfl, hd, hr⟩ := hx
      cases hr
      cases d <;> first | (cases hf; done) | skip
      · cases hd
        simp only [lenD] at hf
        split at hf
        · rename_i s hl
          cases hf
          exact ⟨_, s.length, rfl, ⟨by rw [str_len]; exact big_line hl, (str_len s).symm⟩, fin_sh ok q rfl⟩
        · cases hf
      · rename_i l
        cases hf
        obtain ⟨a, vs, rfl, h1, h2⟩ := hd
        exact ⟨_, l.length, rfl, .inr ⟨vs, sqT_H ok h1, h2.length.symm⟩, fin_sh ok q rfl⟩
      · rename_i l
        cases hf
        obtain ⟨a, vs, rfl, h1, h2⟩ := hd
        exact ⟨_, l.length, rfl, .inl ⟨vs, SqL.of (ok.view _ _ h1), h2.length.symm⟩, fin_sh ok q rfl⟩
def allD : List D → Option R
  | [.lst l] => (blsD l).map fun bs => .sh (.bl (bs.all id))
  | _ => none
def anyD : List D → Option R
  | [.lst l] => (blsD l).map fun bs => .sh (.bl (bs.any id))
  | _ => none
theorem one_lst {K : PySem.W.Frag} {M : WM K} {p : Pt M} {xs : List V} {ds : List D} {f : List D → Option R} {res : R} (h : DenL K p.ad p.Hv ds xs) (hf : f ds = some res) (hs : ∀ d r, f (d :: r) ≠ none → r = [] ∧ ∃ l, d = .lst l) (h0 : f [] = none) :
    ∃ a l vs, ds = [.lst l] ∧ xs = [.ref a] ∧ p.Hv a = some (.lst vs) ∧ DenL K p.ad p.Hv l vs := by
  cases ds with
  | nil => rw [h0] at hf; cases hf
  | cons d r =>
    obtain ⟨rfl, l, rfl⟩ := hs d r (by rw [hf]; simp)
    obtain ⟨v, r, rfl, ⟨a, vs, rfl, h1, h2⟩, hr⟩ := h
    cases hr
    exact ⟨a, l, vs, rfl, rfl, h1, h2⟩
theorem cd_all {K : PySem.W.Frag} {M : WM K} : CallD M allD (rAll K) := fun p xs ds res Q ok hx hf q => by
  obtain ⟨a, l, vs, rfl, rfl, h1, h2⟩ := one_lst hx hf (fun d r h => by cases d <;> cases r <;> first | exact ⟨rfl, _, rfl⟩ | exact absurd rfl h) rfl
  cases z : blsD l with
  | none => simp only [allD, z] at hf; cases hf
  | some bs =>
    simp only [allD, z] at hf; cases hf
    refine ⟨a, bs, rfl, ?_, fin_sh ok q rfl⟩
    rw [← blsD_den z h2]
    exact SqL.of (ok.view _ _ h1)
theorem cd_any {K : PySem.W.Frag} {M : WM K} : CallD M anyD (rAny K) := fun p xs ds res Q ok hx hf q => by
  obtain ⟨a, l, vs, rfl, rfl, h1, h2⟩ := one_lst hx hf (fun d r h => by cases d <;> cases r <;> first | exact ⟨rfl, _, rfl⟩ | exact absurd rfl h) rfl
  cases z : blsD l with
  | none => simp only [anyD, z] at hf; cases hf
  | some bs =>
    simp only [anyD, z] at hf; cases hf
    refine ⟨a, bs, rfl, ?_, fin_sh ok q rfl⟩
    rw [← blsD_den z h2]
    exact SqL.of (ok.view _ _ h1)
def listD : List D → Option R
  | [.lst l] => some (.fr (.lst l))
  | [.tup l] => some (.fr (.lst l))
  | _ => none
def tupleD : List D → Option R
  | [.lst l] => some (.sh (.tup l))
  | [.tup l] => some (.sh (.tup l))
  | _ => none
theorem one_seq {K : PySem.W.Frag} {M : WM K} {p : Pt M} {xs : List V} {ds : List D} {f : List D → Option R} {res : R} (h : DenL K p.ad p.Hv ds xs) (hf : f ds = some res) (hs : ∀ d r, f (d :: r) ≠ none → r = [] ∧ ∃ l, d = .lst l ∨ d = .tup l) (h0 : f [] = none) :
    ∃ a l vs, xs = [.ref a] ∧ ((ds = [.lst l] ∧ p.Hv a = some (.lst vs)) ∨ (ds = [.tup l] ∧ SqT K p.Hv a vs)) ∧ DenL K p.ad p.Hv l vs := by
  cases ds with
  | nil => rw [h0] at hf; cases hf
  | cons d r =>
    obtain ⟨rfl, l, rfl | rfl⟩ := hs d r (by rw [hf]; simp)
    · obtain ⟨v, r, rfl, ⟨a, vs, rfl, h1, h2⟩, hr⟩ := h
      cases hr
      exact ⟨a, l, vs, rfl, .inl ⟨rfl, h1⟩, h2⟩
    · obtain ⟨v, r, rfl, ⟨a, vs, rfl, h1, h2⟩, hr⟩ := h
      cases hr
      exact ⟨a, l, vs, rfl, .inr ⟨rfl, h1⟩, h2⟩
theorem cd_list {K : PySem.W.Frag} {M : WM K} : CallD M listD (fun xs H Q => ∃ p ys, xs = [.ref p] ∧ (SqL K H p ys ∨ SqT K H p ys) ∧ ∀ l, H l = none → Q (.ref l) (upd H l (.lst ys))) := fun p xs ds res Q ok hx hf q => by
  obtain ⟨a, l, vs, rfl, ⟨rfl, h1⟩ | ⟨rfl, h1⟩, h2⟩ := one_seq hx hf (fun d r h => by cases d <;> cases r <;> first | exact ⟨rfl, _, .inl rfl⟩ | exact ⟨rfl, _, .inr rfl⟩ | exact absurd rfl h) rfl
  · cases hf
    exact ⟨a, vs, rfl, .inl (SqL.of (ok.view _ _ h1)), fun l hl => fin_lst ok q h2 hl⟩
  · cases hf
    exact ⟨a, vs, rfl, .inr (sqT_H ok h1), fun l hl => fin_lst ok q h2 hl⟩
theorem cd_tuple {K : PySem.W.Frag} {M : WM K} : CallD M tupleD (fun xs H Q => ∃ p ys, xs = [.ref p] ∧ ((SqL K H p ys ∧ ∀ l, H l = none → Q (.ref l) (upd H l (.tup ys))) ∨ (SqT K H p ys ∧ Q (.ref p) H))) := fun p xs ds res Q ok hx hf q => by
  obtain ⟨a, l, vs, rfl, ⟨rfl, h1⟩ | ⟨rfl, h1⟩, h2⟩ := one_seq hx hf (fun d r h => by cases d <;> cases r <;> first | exact ⟨rfl, _, .inl rfl⟩ | exact ⟨rfl, _, .inr rfl⟩ | exact absurd rfl h) rfl
  · cases hf
    exact ⟨a, vs, rfl, .inl ⟨SqL.of (ok.view _ _ h1), fun l hl => fin_tup ok q h2 hl⟩⟩
  · cases hf
    exact ⟨a, vs, rfl, .inr ⟨sqT_H ok h1, fin_sh ok q ⟨a, vs, rfl, h1, h2⟩⟩⟩
/-- the figures of a number -/
def figD (i : Int) : List Nat := (Str.ofString (toString i)).cps.toList
def strD : List D → Option R
  | [.int i] => if i.natAbs.log2 < 1920 then some (.sh (.str (figD i))) else none
  | [.str s] => some (.sh (.str s))
  | _ => none
end
end VQ

namespace VQ
open PySem PySem.Spec PyProof.Rows L2
inductive Ty where
  | int | str | bool | list | tuple | dict
  deriving DecidableEq
def Ty.nm : Ty → String
  | .int => "int"
  | .str => "str"
  | .bool => "bool"
  | .list => "list"
  | .tuple => "tuple"
  | .dict => "dict"
/-- isinstance by data -/
def isT : D → Ty → Option Bool
  | .obj _, _ => none
  | .ty _, _ => none
  | .int _, .int => some true
  | .bl _, .int => some true
  | .bl _, .bool => some true
  | .str _, .str => some true
  | .lst _, .list => some true
  | .tup _, .tuple => some true
  | .dt _, _ => none
  | .dk _, .dict => some true
  | _, _ => some false
def isTs (d : D) : List Ty → Option Bool
  | [] => some false
  | t :: ts => match isT d t with
    | some true => some true
    | some false => isTs d ts
    | none => none
def tyS : D → String
  | .non => "NoneType"
  | .bl _ => "bool"
  | .int _ => "int"
  | .str _ => "str"
  | .tup _ => "tuple"
  | .lst _ => "list"
  | _ => "dict"
theorem kit_non (t : Ty) : kitB "NoneType" t.nm = some false := by cases t <;> decide +kernel
theorem kit_bl (t : Ty) : kitB "bool" t.nm = some (t == .int || t == .bool) := by cases t <;> decide +kernel
theorem kit_int (t : Ty) : kitB "int" t.nm = some (t == .int) := by cases t <;> decide +kernel
theorem kit_str (t : Ty) : kitB "str" t.nm = some (t == .str) := by cases t <;> decide +kernel
theorem kit_tup (t : Ty) : kitB "tuple" t.nm = some (t == .tuple) := by cases t <;> decide +kernel
theorem kit_lst (t : Ty) : kitB "list" t.nm = some (t == .list) := by cases t <;> decide +kernel
theorem kit_dct (t : Ty) : kitB "dict" t.nm = some (t == .dict) := by cases t <;> decide +kernel
theorem isT_kit {K : PySem.W.Frag} {d : D} {t : Ty} {b : Bool} (h : isT d t = some b) : PySem.W.kitOne K (.type (tyS d)) (.type t.nm) = some b := by
  refine kit_ty ?_
  cases d with
  | non => refine (kit_non t).trans ?_; rw [← h]; cases t <;> rfl
  | bl _ => refine (kit_bl t).trans ?_; rw [← h]; cases t <;> rfl
  | int _ => refine (kit_int t).trans ?_; rw [← h]; cases t <;> rfl
  | str _ => refine (kit_str t).trans ?_; rw [← h]; cases t <;> rfl
  | tup _ => refine (kit_tup t).trans ?_; rw [← h]; cases t <;> rfl
  | lst _ => refine (kit_lst t).trans ?_; rw [← h]; cases t <;> rfl
  | dk _ => refine (kit_dct t).trans ?_; rw [← h]; cases t <;> rfl
  | dt _ => cases t <;> cases h
  | obj n => cases t <;> cases h
  | ty n => cases t <;> cases h
theorem isTs_kit {K : PySem.W.Frag} {d : D} : ∀ {ts : List Ty} {b : Bool}, isTs d ts = some b → PySem.W.kitAny K (.type (tyS d)) (ts.map fun t => .type t.nm) = some b
  | [], b, h => by cases h; exact kitAny_nil
  | t :: ts, b, h => by
    cases z : isT d t with
    | none => simp only [isTs, z] at h; cases h
    | some c =>
      cases c with
      | true =>
        simp only [isTs, z] at h; cases h
        exact kitAny_cons (r := true) (isT_kit z) (fun q => by cases q) fun _ => rfl
      | false =>
        simp only [isTs, z] at h
        exact kitAny_cons (isT_kit z) (fun _ => isTs_kit h) fun q => by cases q
theorem tyx_den {K : PySem.W.Frag} {M : WM K} {p : Pt M} (ok : p.Ok) {d : D} {x : V} {t : Ty} {b : Bool} (h : Den K p.ad p.Hv d x) (hb : isT d t = some b) : TyX K p.H x (.type (tyS d)) := by
  cases d with
  | non => cases h; exact .base .non
  | bl b => cases h; exact .base (.bl b)
  | int b => cases h; exact .base (.int b)
  | str b => cases h; exact .base (.str _)
  | tup l =>
    obtain ⟨a, vs, rfl, h1, _⟩ := h
    rcases sqT_H ok h1 with (h | ⟨o, h⟩) | ⟨o, its, n, h, hc, _⟩
    · exact .base (.tup h)
    · exact .fTuple h
    · exact .kTuple h hc
  | lst l =>
    obtain ⟨a, vs, rfl, h1, _⟩ := h
    exact .base (.lst (ok.view _ _ h1))
  | dk l =>
    obtain ⟨a, vs, rfl, h1, _⟩ := h
    rcases h1 with h1 | ⟨x, h1⟩
    · exact .base (.dK (ok.view _ _ h1))
    · exact .fDict (ok.view _ _ h1)
  | dt l => cases t <;> cases hb
  | obj n => cases t <;> cases hb
  | ty n => cases t <;> cases hb
section
variable {X : Cx} {M : WM X.K} {W : WX} {e a b : Expr} {es rest : List Expr} {pos : Pos} {ea eb : Ev M D} {er : Ev M R} {el : Ev M (List D)}
/-- isinstance(a, T) -/
theorem ev_isi (t : Ty) {x y : Str} {pp p2 : Pos} (ha : PE X a (tD M X.mg W ea)) (hx : x = "isinstance") (hy : y = (t.nm : Str)) (hm : X.mg x = none) (hm2 : X.mg y = none) (hg : Gl X x := by rfl) (hg2 : Gl X y := by rfl)
    (he : starEach [a, .Name y p2] X.env = (false, eval a X.env) :: starEach [.Name y p2] X.env := by rfl) :
    PE X (.Call (.Name x pp) [a, .Name y p2] [] pos) (tD M X.mg W (eUn (fun d => (isT d t).map .bl) ea)) := by
  subst hx
  have bT : bootBuiltins y = some (.type t.nm) := by subst hy; cases t <;> first | rfl | decide +kernel
  have d1 : y ≠ "__name__" := by subst hy; cases t <;> decide +kernel
  have d2 : (y == ("__debug__" : Str)) = false := by subst hy; cases t <;> decide +kernel
  refine (pe_callB call_isi hg hm (by first | rfl | decide +kernel) (pa_cons ha (pa_cons (pe_bltn hg2 hm2 bT (show RelV (.ty t.nm) (.type t.nm) from rfl) d1 d2) pa_nil (by rfl)) he) (by decide) (by decide) he (by rfl)).con fun σ H Q ⟨ρ, p, hH, ok, en, q⟩ => ?_
  subst hH
  show tD M X.mg W ea σ p.H fun x H1 => rIsi X.K [x, .ty t.nm] H1 Q
  refine tG.seq ok en q fun r1 x q1 ex1 ok1 es1 dx h1 => ?_
  cases z : isT r1.1 t with
  | none => simp only [op, z, Option.map_none] at h1; exact h1.elim
  | some k =>
    simp only [op, z, Option.map_some] at h1
    exact ⟨x, .ty t.nm, .type (tyS r1.1), .type t.nm, k, rfl, .ty _, tyx_den ok1 dx z, isT_kit z, h1 _ q1 ex1 ok1 es1 rfl⟩
/-- the names of types -/
theorem ea_ty (t : Ty) {ts : List Ty} {y : Str} {p2 : Pos} (hr : PA X es (fun σ H Q => Q (ts.map fun t => V.ty t.nm) H)) (hy : y = (t.nm : Str)) (hm2 : X.mg y = none) (hg2 : Gl X y := by rfl) (he : starEach (.Name y p2 :: es) X.env = (false, eval (.Name y p2) X.env) :: starEach es X.env := by rfl) :
    PA X (.Name y p2 :: es) (fun σ H Q => Q ((t :: ts).map fun t => V.ty t.nm) H) := by
  have bT : bootBuiltins y = some (.type t.nm) := by subst hy; cases t <;> first | rfl | decide +kernel
  have d1 : y ≠ "__name__" := by subst hy; cases t <;> decide +kernel
  have d2 : (y == ("__debug__" : Str)) = false := by subst hy; cases t <;> decide +kernel
  exact pa_cons (pe_bltn hg2 hm2 bT (show RelV (.ty t.nm) (.type t.nm) from rfl) d1 d2) hr he
theorem ea_ty0 : PA X [] (fun σ H Q => Q (([] : List Ty).map fun t => V.ty t.nm) H) := pa_nil
theorem isTs_some {d : D} {t : Ty} {ts : List Ty} {b : Bool} (h : isTs d (t :: ts) = some b) : ∃ c, isT d t = some c := by
  cases z : isT d t with
  | none => simp only [isTs, z] at h; cases h
  | some c => exact ⟨c, rfl⟩
/-- isinstance(a, (T1, T2, ..)) -/
theorem ev_isiT (t : Ty) (ts : List Ty) {x : Str} {pp p2 : Pos} {k2 : Nat} {ys : List Expr} (ha : PE X a (tD M X.mg W ea)) (hx : x = "isinstance") (hy : PA X ys (fun σ H Q => Q ((t :: ts).map fun t => V.ty t.nm) H)) (hm : X.mg x = none) (hg : Gl X x := by rfl)
    (hl : (t :: ts).length ≤ big := by decide) (he : starEach [a, .Tuple ys k2 p2] X.env = (false, eval a X.env) :: starEach [.Tuple ys k2 p2] X.env := by rfl) :
    PE X (.Call (.Name x pp) [a, .Tuple ys k2 p2] [] pos) (tD M X.mg W (eUn (fun d => (isTs d (t :: ts)).map .bl) ea)) := by
  subst hx
  refine (pe_callB call_isiT hg hm (by first | rfl | decide +kernel) (pa_cons ha (pa_cons (pe_tup hy) pa_nil (by rfl)) he) (by decide) (by decide) he (by rfl)).con fun σ H Q ⟨ρ, p, hH, ok, en, q⟩ => ?_
  subst hH
  show tD M X.mg W ea σ p.H fun x H1 => ((t :: ts).map fun t => V.ty t.nm).length ≤ sizeLine ∧ ∀ p, H1 p = none → rIsiT X.K [x, .ref p] (upd H1 p (.tup ((t :: ts).map fun t => V.ty t.nm))) Q
  refine tG.seq ok en q fun r1 x q1 ex1 ok1 es1 dx h1 => ⟨by rw [List.length_map]; exact big_line hl, fun a ha => ?_⟩
  cases z : isTs r1.1 (t :: ts) with
  | none => simp only [op, z, Option.map_none] at h1; exact h1.elim
  | some k =>
    simp only [op, z, Option.map_some] at h1
    obtain ⟨c, zc⟩ := isTs_some z
    refine ⟨x, a, _, .type (tyS r1.1), (t :: ts).map fun t => .type t.nm, k, rfl, upd_same, ?_, tyx_den (ok_lay ok1 ha) ((ext_lay ok1 ha).den dx) zc, isTs_kit z, h1 _ (q1.lay a _) (ex1.trans (ext_lay ok1 ha)) (ok_lay ok1 ha) es1 rfl⟩
    have all : ∀ l : List Ty, Paired ClsV (l.map fun t => V.ty t.nm) (l.map fun t => Value.type t.nm) := fun l => by
      induction l with
      | nil => exact .nil
      | cons t l ih => exact .cons (.ty _) ih
    exact all _
/-- a method of a text with one argument -/
def MtD {K : PySem.W.Frag} (M : WM K) (f : D → D → Option R) (r : V → List V → Hp → VK → Prop) : Prop := ∀ (p : Pt M) (x y : V) (d e : D) (res : R) (Q : VK), p.Ok → Den K p.ad p.Hv d x → Den K p.ad p.Hv e y → f d e = some res →
  (∀ v (q : Pt M), Ext p q → q.Ok → q.s = p.s → ROk p q res v → Q v q.H) → (∃ a, x = .str a) ∧ r x [y] p.H Q
theorem ev_m1 {id : String} {name : Str} {apos : Pos} {r : V → List V → Hp → VK → Prop} {f : D → D → Option R} (slot : Slot "str" name id) (ty : typeOf (.builtin id) = pure (.type "method_descriptor")) (rule : MtR X id r) (hf : MtD M f r) (ho : PE X a (tD M X.mg W ea)) (he : PE X b (tD M X.mg W eb))
    (hstr : ∀ d e, f d e ≠ none → ∃ s, d = .str s) (hs : starEach [b] X.env = [(false, eval b X.env)] := by rfl) (hbase : attributeBase a name X.env (eval a X.env) = eval a X.env := by rfl) (hline : (apos.endLine == pos.line) = true := by rfl) :
    PE X (.Call (.Attribute a name apos) [b] [] pos) (tR M X.mg W (fun ρ s => (ea ρ s).bind fun x => match x.1 with
      | .str z => (eb ρ x.2).bind fun y => op (f (.str z) y.1) y.2
      | _ => .bad)) := (pe_m1 slot ty rule ho he hs hbase hline).con fun σ H Q ⟨ρ, p, hH, ok, en, q⟩ => by
  subst hH
  show tD M X.mg W ea σ p.H fun x H1 => (∃ a, x = .str a) ∧ tD M X.mg W eb σ H1 fun y H2 => r x [y] H2 Q
  refine tG.seq ok en q fun r1 x q1 ex1 ok1 es1 dx h1 => ?_
  obtain ⟨d, s1⟩ := r1
  cases d <;> first | exact h1.elim | skip
  rename_i z
  have ex : x = .str ⟨z.toArray⟩ := dx
  refine ⟨⟨_, ex⟩, ?_⟩
  have h1' : ((eb ρ s1).bind _).all _ (XEnd M X.mg p W σ) := h1
  rw [← show q1.s = s1 from es1] at h1'
  refine tG.seq ok1 (en.ext ex1) (XEnds ex1 h1' fun _ h => h) fun r2 y q2 ex2 ok2 es2 dy h2 => ?_
  cases z2 : f (.str z) r2.1 with
  | none => simp only [op, z2] at h2; exact h2.elim
  | some res =>
    simp only [op, z2] at h2
    exact (hf q2 x y _ _ res Q ok2 (ex2.den dx) dy z2 fun v q3 e3 ok3 es3 rk => h2 v q3 ((ex1.trans ex2).trans e3) ok3 (es3.trans es2) (rk.tr (ex1.trans ex2) e3)).2
/-- s.startswith(t) -/
def startsD : D → D → Option R
  | .str s, .str t => some (.sh (.bl (s.take t.length == t)))
  | _, _ => none
theorem starts_str (s t : List Nat) : Txt.startswith ⟨s.toArray⟩ ⟨t.toArray⟩ = (s.take t.length == t) := by
  unfold Txt.startswith
  rw [PySem.StrLaws.subAt_eq, str_len, str_len, str_tl, List.drop_zero]
  cases h : (s.take t.length == t) with
  | false => simp [h]
  | true =>
    have e : s.take t.length = t := by simpa using h
    have : t.length ≤ s.length := by
      have := congrArg List.length e
      rw [List.length_take] at this
      omega
    simp [this, e]
theorem md_starts {K : PySem.W.Frag} {M : WM K} : MtD M startsD (fun x xs H Q => ∃ a b, x = .str a ∧ xs = [.str b] ∧ Q (.bl (Txt.startswith a b)) H) := fun p x y d e res Q ok hx hy hf q => by
  cases d <;> cases e <;> first | (cases hf; done) | skip
  cases hf; cases hx; cases hy
  refine ⟨⟨_, rfl⟩, _, _, rfl, rfl, ?_⟩
  rw [starts_str]
  exact fin_sh ok q rfl
theorem ev_starts {apos : Pos} (ho : PE X a (tD M X.mg W ea)) (he : PE X b (tD M X.mg W eb))
    (hs : starEach [b] X.env = [(false, eval b X.env)] := by rfl) (hbase : attributeBase a "startswith" X.env (eval a X.env) = eval a X.env := by rfl) (hline : (apos.endLine == pos.line) = true := by rfl) :
    PE X (.Call (.Attribute a "startswith" apos) [b] [] pos) (tR M X.mg W (fun ρ s => (ea ρ s).bind fun x => match x.1 with
      | .str z => (eb ρ x.2).bind fun y => op (startsD (.str z) y.1) y.2
      | _ => .bad)) := ev_m1 F.slot_str_startswith F.type_str_startswith mt_startswith md_starts ho he (fun d e h => by cases d <;> first | exact absurd rfl h | exact ⟨_, rfl⟩) hs hbase hline
theorem cd_str {K : PySem.W.Frag} {M : WM K} : CallD M strD (fun xs H Q => (∃ i, xs = [.int i] ∧ i.natAbs.log2 < 1920 ∧ Q (.str (toString i)) H) ∨ ∃ a, xs = [.str a] ∧ Q (.str a) H) := fun p xs ds res Q ok hx hf q => by
  cases ds with
  | nil => cases hf
  | cons d r =>
    cases r with
    | cons _ _ => cases d <;> cases hf
    | nil =>
      obtain ⟨v, r, rfl, hd, hr⟩ := hx
      cases hr
      cases d <;> first | (cases hf; done) | skip
      · cases hd
        simp only [strD] at hf
        split at hf
        · rename_i i hl
          cases hf
          refine .inl ⟨i, rfl, hl, fin_sh ok q ?_⟩
          show V.str _ = V.str _
          unfold figD
          rfl
        · cases hf
      · cases hd
        cases hf
        exact .inr ⟨_, rfl, fin_sh ok q rfl⟩
end
end VQ

namespace VQ
open PySem PySem.Spec PyProof.Rows L2

/-- what a name holds: seen data; or a list (a dict) that this frame alone holds -/
inductive VV where
  | sh (d : D) | ow (d : D)
def VV.d : VV → D
  | .sh d => d
  | .ow d => d
abbrev Nv := List (Option VV)
/-- the data of the names; of the frame's own lists those at m alone -/
def view1 (m : List Nat) (i : Nat) : Option VV → Option D
  | some (.sh d) => some d
  | some (.ow d) => if m.contains i then some d else none
  | none => none
def viewG (m : List Nat) : Nat → Nv → Dv
  | _, [] => []
  | i, o :: r => view1 m i o :: viewG m (i + 1) r
def view (m : List Nat) (ρ : Nv) : Dv := viewG m 0 ρ
theorem viewG_get (m : List Nat) : ∀ (ρ : Nv) (j i : Nat), (viewG m j ρ)[i]? = (ρ[i]?).map (view1 m (j + i))
  | [], j, i => by simp [viewG]
  | o :: r, j, 0 => by simp [viewG]
  | o :: r, j, i + 1 => by
    simp only [viewG, List.getElem?_cons_succ]
    rw [viewG_get m r (j + 1) i]
    congr 2
    omega
theorem view_get (m : List Nat) (ρ : Nv) (i : Nat) : (view m ρ)[i]? = (ρ[i]?).map (view1 m i) := by
  unfold view; rw [viewG_get, Nat.zero_add]
/-- the own lists at m are seen from now on -/
def frz1 (m : List Nat) (i : Nat) : Option VV → Option VV
  | some (.ow d) => if m.contains i then some (.sh d) else some (.ow d)
  | o => o
def frzG (m : List Nat) : Nat → Nv → Nv
  | _, [] => []
  | i, o :: r => frz1 m i o :: frzG m (i + 1) r
def frz (m : List Nat) (ρ : Nv) : Nv := frzG m 0 ρ
theorem frzG_get (m : List Nat) : ∀ (ρ : Nv) (j i : Nat), (frzG m j ρ)[i]? = (ρ[i]?).map (frz1 m (j + i))
  | [], j, i => by simp [frzG]
  | o :: r, j, 0 => by simp [frzG]
  | o :: r, j, i + 1 => by
    simp only [frzG, List.getElem?_cons_succ]
    rw [frzG_get m r (j + 1) i]
    congr 2
    omega
theorem frz_get (m : List Nat) (ρ : Nv) (i : Nat) : (frz m ρ)[i]? = (ρ[i]?).map (frz1 m i) := by
  unfold frz; rw [frzG_get, Nat.zero_add]
theorem frzG_len (m : List Nat) : ∀ (ρ : Nv) (j : Nat), (frzG m j ρ).length = ρ.length
  | [], _ => rfl
  | _ :: r, j => by simp [frzG, frzG_len m r (j + 1)]
theorem frz_len (m : List Nat) (ρ : Nv) : (frz m ρ).length = ρ.length := frzG_len m ρ 0
def flatR : R → Bool
  | .sh d => flat d
  | .fr (.lst l) => flatL l
  | .fr _ => false

section
variable {K : PySem.W.Frag} {M : WM K} {mg : Str → Option Value}
open Classical
theorem newOld {p q : Pt M} (e : Ext p q) {a : Addr} (ha : q.H a = none) : p.H a = none ∨ p.F a := by
  cases z : p.H a with
  | none => exact .inl rfl
  | some u =>
    refine .inr (Classical.byContradiction fun n => ?_)
    rw [e.frame a u z n] at ha; cases ha
/-- where the frame stands: entered at en -/
structure Rel (en : Pt M) (ρ : Nv) (σ : Sl) (p : Pt M) : Prop where
  ok : p.Ok
  ext : Ext en p
  len : σ.length = ρ.length
  sh : ∀ (i : Nat) d, ρ[i]? = some (some (.sh d)) → ∃ v, σ[i]? = some (some v) ∧ Den K p.ad p.Hv d v
  ow : ∀ (i : Nat) d, ρ[i]? = some (some (.ow d)) → ∃ a o, σ[i]? = some (some (.ref a)) ∧ p.H a = some o ∧ p.Hv a = none ∧ ¬ p.F a ∧ (en.H a = none ∨ en.F a) ∧ HoDen K p.ad p.Hv o d
  dis : ∀ (i j : Nat) d d' a, i ≠ j → ρ[i]? = some (some (.ow d)) → ρ[j]? = some (some (.ow d')) → σ[i]? = some (some (.ref a)) → σ[j]? ≠ some (some (.ref a))
/-- a is the own list of a name at m -/
def OwnAt (ρ : Nv) (σ : Sl) (m : List Nat) (a : Addr) : Prop := ∃ (i : Nat) (d : D), i ∈ m ∧ ρ[i]? = some (some (.ow d)) ∧ σ[i]? = some (some (.ref a))
/-- the point from which an expression that speaks of the names at m is told -/
noncomputable def Pt.opn (p : Pt M) (ρ : Nv) (σ : Sl) (m : List Nat) : Pt M := ⟨p.s, p.F, fun b => if OwnAt ρ σ m b then p.H b else p.Hv b, p.H, p.ad⟩
noncomputable def Pt.cls (q : Pt M) (ρ : Nv) (σ : Sl) (m : List Nat) : Pt M := ⟨q.s, q.F, fun b => if OwnAt ρ σ m b then none else q.Hv b, q.H, q.ad⟩
section
variable {en p q : Pt M} {ρ : Nv} {σ : Sl} {m : List Nat} {r : R} {v : V}
theorem Rel.at_ (h : Rel en ρ σ p) {a : Addr} (o : OwnAt ρ σ m a) : ∃ d u, p.H a = some u ∧ p.Hv a = none ∧ ¬ p.F a ∧ (en.H a = none ∨ en.F a) ∧ HoDen K p.ad p.Hv u d := by
  obtain ⟨i, d, _, h1, h2⟩ := o
  obtain ⟨a', u, e, h3⟩ := h.ow i d h1
  rw [h2] at e; cases e
  exact ⟨d, u, h3⟩
theorem opn_same (h : Rel en ρ σ p) : Same p.Hv (p.opn ρ σ m).Hv := fun b o e => by
  show (if OwnAt ρ σ m b then p.H b else p.Hv b) = some o
  split
  · exact h.ok.view _ _ e
  · exact e
theorem opn_ok (h : Rel en ρ σ p) : (p.opn ρ σ m).Ok where
  view := fun b o e => by
    have e' : (if OwnAt ρ σ m b then p.H b else p.Hv b) = some o := e
    split at e'
    · exact e'
    · exact h.ok.view _ _ e'
  off := fun b f => by
    show (if OwnAt ρ σ m b then p.H b else p.Hv b) = none
    split
    · rename_i o
      obtain ⟨_, _, _, _, nf, _⟩ := h.at_ o
      exact absurd f nf
    · exact h.ok.off b f
  rep := M.stay h.ok.rep (opn_same h) fun _ _ _ e => e
theorem viewG_len (m : List Nat) : ∀ (ρ : Nv) (j : Nat), (viewG m j ρ).length = ρ.length
  | [], _ => rfl
  | _ :: r, j => by simp [viewG, viewG_len m r (j + 1)]
theorem opn_env (h : Rel en ρ σ p) : EnvD M (p.opn ρ σ m) σ (view m ρ) := ⟨by rw [h.len]; exact (viewG_len m ρ 0).symm, fun i d e => by
  rw [view_get] at e
  cases z : ρ[i]? with
  | none => rw [z] at e; cases e
  | some o =>
    rw [z] at e
    cases o with
    | none => simp [view1] at e
    | some vv =>
      cases vv with
      | sh d' =>
        simp only [Option.map_some, view1, Option.some.injEq] at e
        subst e
        obtain ⟨v, h1, h2⟩ := h.sh i d' z
        exact ⟨v, h1, h2.mono (opn_same h) fun _ _ q => q⟩
      | ow d' =>
        simp only [Option.map_some, view1] at e
        split at e
        · rename_i hm
          simp only [Option.some.injEq] at e
          subst e
          obtain ⟨a, u, h1, h2, h3, h4, h5, h6⟩ := h.ow i d' z
          refine ⟨.ref a, h1, (h6.mono (opn_same h) fun _ _ q => q).den ?_⟩
          show (if OwnAt ρ σ m a then p.H a else p.Hv a) = some u
          rw [if_pos ⟨i, d', by simpa using hm, z, h1⟩]; exact h2
        · simp at e⟩
theorem opn_new (h : Rel en ρ σ p) (e : Ext (p.opn ρ σ m) q) {b : Addr} {o : HO} (hb : q.Hv b = some o) (no : ¬ OwnAt ρ σ m b) : (∃ o', p.Hv b = some o') ∨ p.H b = none ∨ p.F b := by
  rcases e.new b o hb with ⟨o', z⟩ | z | z
  · have z' : (if OwnAt ρ σ m b then p.H b else p.Hv b) = some o' := z
    rw [if_neg no] at z'
    exact .inl ⟨o', z'⟩
  · exact .inr (.inl z)
  · exact .inr (.inr z)
/-- an own list behind an expression -/
theorem own_behind (h : Rel en ρ σ p) (e : Ext (p.opn ρ σ m) q) {i : Nat} {d : D} (hi : ρ[i]? = some (some (.ow d))) : ∃ a u, σ[i]? = some (some (.ref a)) ∧ q.H a = some u ∧ ¬ q.F a ∧ (en.H a = none ∨ en.F a) ∧ HoDen K q.ad p.Hv u d ∧ p.H a = some u ∧ ¬ p.F a ∧ p.Hv a = none := by
  obtain ⟨a, u, h1, h2, h3, h4, h5, h6⟩ := h.ow i d hi
  refine ⟨a, u, h1, e.frame a u h2 h4, fun z => ?_, h5, h6.mono Same.rfl' e.ad, h2, h4, h3⟩
  rcases e.foot a z with z | z
  · exact h4 z
  · have z : p.H a = none := z
    rw [h2] at z; cases z
theorem cls_same (h : Rel en ρ σ p) (e : Ext (p.opn ρ σ m) q) : Same p.Hv (q.cls ρ σ m).Hv := fun b o hb => by
  show (if OwnAt ρ σ m b then none else q.Hv b) = some o
  have no : ¬ OwnAt ρ σ m b := fun z => by
    obtain ⟨_, _, _, hn, _⟩ := h.at_ z
    rw [hb] at hn; cases hn
  rw [if_neg no]
  exact e.view _ _ (opn_same h _ _ hb)
theorem cls_less (h : Rel en ρ σ p) (e : Ext (p.opn ρ σ m) q) : Less q.Hv (q.cls ρ σ m).Hv := fun b o hb => by
  by_cases no : OwnAt ρ σ m b
  · obtain ⟨d, u, h1, _, _, _, h6⟩ := h.at_ no
    have : (p.opn ρ σ m).Hv b = some u := by
      show (if OwnAt ρ σ m b then p.H b else p.Hv b) = some u
      rw [if_pos no]; exact h1
    have := e.view _ _ this
    rw [hb] at this; cases this
    refine .inr ?_
    cases o <;> cases d <;> first | exact False.elim h6 | exact trivial
  · refine .inl ?_
    show (if OwnAt ρ σ m b then none else q.Hv b) = some o
    rw [if_neg no]; exact hb
theorem cls_rel (h : Rel en ρ σ p) (e : Ext (p.opn ρ σ m) q) (ok : q.Ok) (fl : M.flat q.s = true) : Rel en ρ σ (q.cls ρ σ m) := by
  have ex : Ext p (q.cls ρ σ m) := ⟨cls_same h e, e.frame, fun b o hb => by
    have hb' : (if OwnAt ρ σ m b then none else q.Hv b) = some o := hb
    split at hb'
    · cases hb'
    · rename_i no
      exact opn_new h e hb' no, e.foot, e.ad⟩
  refine ⟨⟨fun b o hb => ?_, fun b f => ?_, M.less fl ok.rep (cls_less h e)⟩, h.ext.trans ex, h.len, fun i d hi => ?_, fun i d hi => ?_, h.dis⟩
  · have hb' : (if OwnAt ρ σ m b then none else q.Hv b) = some o := hb
    split at hb'
    · cases hb'
    · exact ok.view _ _ hb'
  · show (if OwnAt ρ σ m b then none else q.Hv b) = none
    split
    · rfl
    · exact ok.off b f
  · obtain ⟨v, h1, h2⟩ := h.sh i d hi
    exact ⟨v, h1, ex.den h2⟩
  · obtain ⟨a, u, h1, h2, h3, h4, h5, h6, h7, h8⟩ := own_behind h e hi
    refine ⟨a, u, h1, h2, ?_, h3, h4, h5.mono (cls_same h e) fun _ _ q => q⟩
    show (if OwnAt ρ σ m a then none else q.Hv a) = none
    split
    · rfl
    · rename_i no
      cases z : q.Hv a with
      | none => rfl
      | some o =>
        rcases opn_new h e z no with ⟨o', z'⟩ | z' | z'
        · rw [h8] at z'; cases z'
        · rw [h6] at z'; cases z'
        · exact absurd z' h7
theorem frz_rel (h : Rel en ρ σ p) (e : Ext (p.opn ρ σ m) q) (ok : q.Ok) : Rel en (frz m ρ) σ q := by
  have vs : Same p.Hv q.Hv := (opn_same h).tr e.view
  have own : ∀ (i : Nat) d, (frz m ρ)[i]? = some (some (.ow d)) → ρ[i]? = some (some (.ow d)) ∧ i ∉ m := fun i d hi => by
    rw [frz_get] at hi
    cases z : ρ[i]? with
    | none => rw [z] at hi; cases hi
    | some o =>
      rw [z] at hi
      cases o with
      | none => simp [frz1] at hi
      | some vv =>
        cases vv with
        | sh d' => simp [frz1] at hi
        | ow d' =>
          simp only [Option.map_some, frz1] at hi
          split at hi
          · simp at hi
          · rename_i hm
            simp only [Option.some.injEq, VV.ow.injEq] at hi
            subst hi
            exact ⟨rfl, by simpa using hm⟩
  refine ⟨ok, ⟨h.ext.view.tr vs, fun b o hb nf => ?_, fun b o hb => ?_, fun b hb => ?_, fun n a ha => e.ad n a (h.ext.ad n a ha)⟩, by rw [frz_len]; exact h.len, fun i d hi => ?_, fun i d hi => ?_, fun i j d d' a hij hi hj => h.dis i j d d' a hij (own i d hi).1 (own j d' hj).1⟩
  · refine e.frame b o (h.ext.frame b o hb nf) fun z => ?_
    rcases h.ext.foot b z with z | z
    · exact nf z
    · rw [hb] at z; cases z
  · by_cases no : OwnAt ρ σ m b
    · obtain ⟨_, _, _, _, _, hn, _⟩ := h.at_ no
      exact .inr hn
    · rcases opn_new h e hb no with ⟨o', z⟩ | z | z
      · exact h.ext.new b o' z
      · rcases newOld h.ext z with z | z
        · exact .inr (.inl z)
        · exact .inr (.inr z)
      · rcases h.ext.foot b z with z | z
        · exact .inr (.inr z)
        · exact .inr (.inl z)
  · rcases e.foot b hb with z | z
    · exact h.ext.foot b z
    · rcases newOld h.ext (show p.H b = none from z) with z | z
      · exact .inr z
      · exact .inl z
  · rw [frz_get] at hi
    cases z : ρ[i]? with
    | none => rw [z] at hi; cases hi
    | some o =>
      rw [z] at hi
      cases o with
      | none => simp [frz1] at hi
      | some vv =>
        cases vv with
        | sh d' =>
          simp only [Option.map_some, frz1, Option.some.injEq, VV.sh.injEq] at hi
          subst hi
          obtain ⟨v, h1, h2⟩ := h.sh i d' z
          exact ⟨v, h1, h2.mono vs e.ad⟩
        | ow d' =>
          simp only [Option.map_some, frz1] at hi
          split at hi
          · rename_i hm
            simp only [Option.some.injEq, VV.sh.injEq] at hi
            subst hi
            obtain ⟨a, u, h1, h2, h3, h4, h5, h6⟩ := h.ow i d' z
            refine ⟨.ref a, h1, (h6.mono vs e.ad).den (e.view _ _ ?_)⟩
            show (if OwnAt ρ σ m a then p.H a else p.Hv a) = some u
            rw [if_pos ⟨i, d', by simpa using hm, z, h1⟩]; exact h2
          · simp at hi
  · obtain ⟨hi', nm⟩ := own i d hi
    obtain ⟨a, u, h1, h2, h3, h4, h5, h6, h7, h8⟩ := own_behind h e hi'
    refine ⟨a, u, h1, h2, ?_, h3, h4, h5.mono vs fun _ _ q => q⟩
    have no : ¬ OwnAt ρ σ m a := fun ⟨j, d', hj, hj2, hj3⟩ => by
      by_cases hij : i = j
      · subst hij; exact nm hj
      · exact h.dis i j d d' a hij hi' hj2 h1 hj3
    cases z : q.Hv a with
    | none => rfl
    | some o =>
      rcases opn_new h e z no with ⟨o', z'⟩ | z' | z'
      · rw [h8] at z'; cases z'
      · rw [h6] at z'; cases z'
      · exact absurd z' h7
/-- the names behind an expression that speaks of the own lists at m -/
def behind (M : WM K) (m : List Nat) (fl : Bool) (s : M.S) (ρ : Nv) : Nv := if (m.isEmpty || (fl && M.flat s)) = true then ρ else frz m ρ
theorem frz_nil (ρ : Nv) : frz [] ρ = ρ := by
  refine List.ext_getElem? fun i => ?_
  rw [frz_get]
  cases ρ[i]? with
  | none => rfl
  | some o =>
    cases o with
    | none => rfl
    | some vv => cases vv <;> rfl
/-- behind an expression: the frame again, the result seen or new -/
theorem behind_ok (h : Rel en ρ σ p) (e : Ext (p.opn ρ σ m) q) (ok : q.Ok) (rk : ROk (p.opn ρ σ m) q r v) : ∃ q', q'.H = q.H ∧ q'.s = q.s ∧ Rel en (behind M m (flatR r) q.s ρ) σ q' ∧ ROk en q' r v ∧ (∀ a, v = .ref a → (∃ d, r = .fr d) → ∀ (i : Nat) d, ρ[i]? = some (some (.ow d)) → σ[i]? ≠ some (some (.ref a))) := by
  have apart : ∀ a, v = .ref a → (∃ d, r = .fr d) → ∀ (i : Nat) d, ρ[i]? = some (some (.ow d)) → σ[i]? ≠ some (some (.ref a)) := fun a hv ⟨d, hr⟩ i d' hi hs => by
    subst hr
    obtain ⟨a', o, e1, e2, e3, e4, e5, e6⟩ := rk
    rw [hv] at e1; cases e1
    obtain ⟨a2, u, h1, h2, h3, h4, _⟩ := h.ow i d' hi
    rw [hs] at h1; cases h1
    rcases e5 with z | z
    · have z : p.H a = none := z
      rw [h2] at z; cases z
    · exact h4 z
  have isnew : ∀ a, (p.opn ρ σ m).H a = none ∨ (p.opn ρ σ m).F a → en.H a = none ∨ en.F a := fun a z => by
    rcases z with z | z
    · exact newOld h.ext z
    · exact (h.ext.foot a z).symm
  by_cases hf : (flatR r && M.flat q.s) = true
  · have hf' := hf
    rw [Bool.and_eq_true] at hf
    refine ⟨q.cls ρ σ m, rfl, rfl, ?_, ?_, apart⟩
    · unfold behind; rw [hf', Bool.or_true, if_pos rfl]; exact cls_rel h e ok hf.2
    · cases r with
      | sh d => exact Den.less (cls_less h e) hf.1 rk
      | fr d =>
        obtain ⟨a, o, e1, e2, e3, e4, e5, e6⟩ := rk
        refine ⟨a, o, e1, e2, ?_, e4, isnew a e5, ?_⟩
        · show (if OwnAt ρ σ m a then none else q.Hv a) = none
          split
          · rfl
          · exact e3
        · cases d <;> first | (cases hf.1; done) | skip
          cases o <;> first | exact False.elim e6 | skip
          exact DenL.less (cls_less h e) hf.1 e6
  · have rel : Rel en (frz m ρ) σ q := frz_rel h e ok
    have e1 : behind M m (flatR r) q.s ρ = frz m ρ := by
      unfold behind
      cases m with
      | nil => rw [frz_nil]; split <;> rfl
      | cons _ _ => rw [if_neg (by simpa using hf)]
    refine ⟨q, rfl, rfl, by rw [e1]; exact rel, ?_, apart⟩
    cases r with
    | sh d => exact rk
    | fr d =>
      obtain ⟨a, o, e1, e2, e3, e4, e5, e6⟩ := rk
      exact ⟨a, o, e1, e2, e3, e4, isnew a e5, e6⟩
/-- the name i takes the result -/
def R.vv : R → VV
  | .sh d => .sh d
  | .fr d => .ow d
theorem behind_own {fl : Bool} {s : M.S} {i : Nat} {d : D} (h : (behind M m fl s ρ)[i]? = some (some (.ow d))) : ρ[i]? = some (some (.ow d)) := by
  unfold behind at h
  split at h
  · exact h
  · rw [frz_get] at h
    cases z : ρ[i]? with
    | none => rw [z] at h; cases h
    | some o =>
      rw [z] at h
      cases o with
      | none => simp [frz1] at h
      | some vv =>
        cases vv with
        | sh d' => simp [frz1] at h
        | ow d' =>
          simp only [Option.map_some, frz1] at h
          split at h
          · simp at h
          · exact h
theorem set_rel {ρ' : Nv} (h : Rel en ρ' σ p) (rk : ROk en p r v) (ap : ∀ a, v = .ref a → (∃ d, r = .fr d) → ∀ (j : Nat) d, ρ'[j]? = some (some (.ow d)) → σ[j]? ≠ some (some (.ref a))) (i : Nat) (hi : i < ρ'.length) : Rel en (ρ'.set i (some r.vv)) (σ.set i (some v)) p := by
  have hl := h.len
  have hσ : i < σ.length := by omega
  refine ⟨h.ok, h.ext, by simp [hl], fun j d hj => ?_, fun j d hj => ?_, fun j k d d' a hjk hj hk => ?_⟩
  · by_cases e : i = j
    · subst e
      rw [List.getElem?_set_self hi] at hj
      cases r with
      | sh d' => cases hj; exact ⟨v, by rw [List.getElem?_set_self hσ], rk⟩
      | fr d' => cases hj
    · rw [List.getElem?_set_ne e] at hj ⊢
      exact h.sh j d hj
  · by_cases e : i = j
    · subst e
      rw [List.getElem?_set_self hi] at hj
      cases r with
      | sh d' => cases hj
      | fr d' =>
        cases hj
        obtain ⟨a, o, e1, e2, e3, e4, e5, e6⟩ := rk
        exact ⟨a, o, by rw [List.getElem?_set_self hσ, e1], e2, e3, e4, e5, e6⟩
    · rw [List.getElem?_set_ne e] at hj ⊢
      exact h.ow j d hj
  · by_cases e : i = j
    · subst e
      rw [List.getElem?_set_self hi] at hj
      rw [List.getElem?_set_ne hjk] at hk ⊢
      rw [List.getElem?_set_self hσ]
      intro ha
      cases r with
      | sh d' => cases hj
      | fr d' =>
        cases hj
        cases ha
        exact ap a rfl ⟨d, rfl⟩ k d' hk
    · by_cases e2 : i = k
      · subst e2
        rw [List.getElem?_set_self hi] at hk
        rw [List.getElem?_set_ne e] at hj ⊢
        rw [List.getElem?_set_self hσ]
        intro ha hb
        cases r with
        | sh d' => cases hk
        | fr d'' =>
          cases hk
          cases hb
          exact ap a rfl ⟨d', rfl⟩ j d hj ha
      · rw [List.getElem?_set_ne e] at hj ⊢
        rw [List.getElem?_set_ne e2] at hk ⊢
        exact h.dis j k d d' a hjk hj hk
end
end
end VQ

namespace VQ
open PySem PySem.Spec PyProof.Rows L2

/-- how a block goes on -/
inductive Fl where
  | nx (ρ : Nv) | rt (r : R) | bk (ρ : Nv) | ct (ρ : Nv)
section
variable {K : PySem.W.Frag} (M : WM K) (mg : Str → Option Value)
/-- an exception in a frame: its names, the world -/
abbrev Xs := Exc × Nv × M.S
abbrev Gs := G (Xs M) (Fl × M.S)
abbrev Sv := Nv → M.S → Gs M
def SEnd (en : Pt M) (Dd : Ends) : Fl × M.S → Prop
  | (.nx ρ, s) => ∀ σ (q : Pt M), Rel en ρ σ q → q.s = s → Dd.nx σ q.H
  | (.bk ρ, s) => ∀ σ (q : Pt M), Rel en ρ σ q → q.s = s → Dd.bk σ q.H
  | (.ct ρ, s) => ∀ σ (q : Pt M), Rel en ρ σ q → q.s = s → Dd.ct σ q.H
  | (.rt r, s) => ∀ v (q : Pt M), Ext en q → q.Ok → q.s = s → ROk en q r v → Dd.rt v q.H
def XSEnd (en : Pt M) (W : WX) : Xs M → Prop := fun x => ∀ cls dd σ (q : Pt M), Rel en x.2.1 σ q → q.s = x.2.2 → XOk mg q x.1 cls dd → W cls dd σ q.H
def tS (W : WX) (ss : Sv M) : TS := fun Dd σ H => ∃ (en : Pt M) (ρ : Nv) (p : Pt M), p.H = H ∧ Rel en ρ σ p ∧ (ss ρ p.s).all (SEnd M en Dd) (XSEnd M mg en W)
variable {M}
/-- an expression in a frame: what it tells of the names at m -/
def inF {α : Type} (m : List Nat) (ee : Ev M α) : Nv → M.S → G (Xs M) (α × M.S) := fun ρ s => (ee (view m ρ) s).exs fun x => (x.1, frz m ρ, x.2)
def sSet (i : Nat) (m : List Nat) (ee : Ev M R) : Sv M := fun ρ s => (inF m ee ρ s).bind fun r => if i < ρ.length then .ret (.nx ((behind M m (flatR r.1) r.2 ρ).set i (some r.1.vv)), r.2) else .bad
def sRet (m : List Nat) (ee : Ev M R) : Sv M := fun ρ s => (inF m ee ρ s).bind fun r => .ret (.rt r.1, r.2)
def sRetN : Sv M := fun _ s => .ret (.rt (.sh .non), s)
/-- return x, x an own list -/
def sRetO (i : Nat) : Sv M := fun ρ s => match ρ[i]? with
  | some (some (.ow d)) => .ret (.rt (.fr d), s)
  | some (some (.sh d)) => .ret (.rt (.sh d), s)
  | _ => .bad
def sDrop (m : List Nat) (ee : Ev M R) : Sv M := fun ρ s => (inF m ee ρ s).bind fun r => .ret (.nx (behind M m (flatR r.1) r.2 ρ), r.2)
def sIf (m : List Nat) (c : Ev M Bool) (a b : Sv M) : Sv M := fun ρ s => (inF m c ρ s).bind fun k => if k.1 = true then a (behind M m true k.2 ρ) k.2 else b (behind M m true k.2 ρ) k.2
def sNil : Sv M := fun ρ s => .ret (.nx ρ, s)
def sThen (b : Sv M) : Fl × M.S → Gs M
  | (.nx ρ', s') => b ρ' s'
  | (.rt r, s') => .ret (.rt r, s')
  | (.bk ρ', s') => .ret (.bk ρ', s')
  | (.ct ρ', s') => .ret (.ct ρ', s')
def sSeq (a b : Sv M) : Sv M := fun ρ s => (a ρ s).bind (sThen b)
def sBreak : Sv M := fun ρ s => .ret (.bk ρ, s)
def sCont : Sv M := fun ρ s => .ret (.ct ρ, s)
/-- a def of its arguments' data -/
def startE (n : Nat) (ds : List D) : Nv := (ds.map fun d => some (.sh d)) ++ List.replicate (n - ds.length) none
def runD (n : Nat) (ss : Sv M) : List D → M.S → Gx M R := fun ds s => (((ss (startE n ds) s).exs fun x => (x.1, x.2.2)).bind fun f => match f with
  | (.nx _, s') => .ret (.sh .non, s')
  | (.rt r, s') => .ret (r, s')
  | _ => .bad)
end
section
variable {X : Cx} {M : WM X.K} {W : WX} {en : Pt M} {e a b : Expr} {es rest : List Expr} {pos : Pos} {ea eb : Ev M D} {er : Ev M R} {ec : Ev M Bool} {el : Ev M (List D)} {m : List Nat}
/-- an expression told in a frame -/
theorem inF_D {ρ : Nv} {σ : Sl} {p : Pt M} {Q : VK} {k : R × M.S → Gs M} {Q' : Fl × M.S → Prop} (h : Rel en ρ σ p) (hq : ((inF m er ρ p.s).bind k).all Q' (XSEnd M X.mg en W))
    (hk : ∀ r v (q : Pt M), Ext (p.opn ρ σ m) q → q.Ok → q.s = r.2 → ROk (p.opn ρ σ m) q r.1 v → (k r).all Q' (XSEnd M X.mg en W) → Q v q.H) : tR M X.mg W er σ p.H Q := by
  refine ⟨view m ρ, p.opn ρ σ m, rfl, opn_ok h, opn_env h, G.all_mono (fun r hr v q e ok es rk => hk r v q e ok es rk hr) (fun x hx cls dd q e ok es xk => ?_) (G.all_exs.mp (G.all_bind.mp hq))⟩
  exact hx cls dd σ q (frz_rel h e ok) es xk
theorem inF_V {ρ : Nv} {σ : Sl} {p : Pt M} {Q : VK} {k : D × M.S → Gs M} {Q' : Fl × M.S → Prop} (h : Rel en ρ σ p) (hq : ((inF m ea ρ p.s).bind k).all Q' (XSEnd M X.mg en W))
    (hk : ∀ r v (q : Pt M), Ext (p.opn ρ σ m) q → q.Ok → q.s = r.2 → Den X.K q.ad q.Hv r.1 v → (k r).all Q' (XSEnd M X.mg en W) → Q v q.H) : tD M X.mg W ea σ p.H Q := by
  refine ⟨view m ρ, p.opn ρ σ m, rfl, opn_ok h, opn_env h, G.all_mono (fun r hr v q e ok es rk => hk r v q e ok es rk hr) (fun x hx cls dd q e ok es xk => ?_) (G.all_exs.mp (G.all_bind.mp hq))⟩
  exact hx cls dd σ q (frz_rel h e ok) es xk
theorem inF_B {ρ : Nv} {σ : Sl} {p : Pt M} {Q : Bool → Hp → Prop} {k : Bool × M.S → Gs M} {Q' : Fl × M.S → Prop} (h : Rel en ρ σ p) (hq : ((inF m ec ρ p.s).bind k).all Q' (XSEnd M X.mg en W))
    (hk : ∀ r (q : Pt M), Ext (p.opn ρ σ m) q → q.Ok → q.s = r.2 → (k r).all Q' (XSEnd M X.mg en W) → Q r.1 q.H) : tB' M X.mg W ec σ p.H Q := by
  refine ⟨view m ρ, p.opn ρ σ m, rfl, opn_ok h, opn_env h, G.all_mono (fun r hr q e ok es => hk r q e ok es hr) (fun x hx cls dd q e ok es xk => ?_) (G.all_exs.mp (G.all_bind.mp hq))⟩
  exact hx cls dd σ q (frz_rel h e ok) es xk
theorem behind_len {fl : Bool} {s : M.S} {ρ : Nv} : (behind M m fl s ρ).length = ρ.length := by
  unfold behind; split
  · rfl
  · exact frz_len m ρ
/-- x = e -/
theorem ss_set (i : Nat) (m : List Nat) {x : Str} {pos' : Pos} (hN : X.N.Nodup) (he : PE X e (tR M X.mg W er)) (hi : X.N[i]? = some x := by rfl) (hx : Loc X.env.scope x := by first | exact Or.inl rfl | exact Or.inr rfl) (hs : swapsWith e (some (.Name x pos')) pos.line X.env = pure false := by rfl)
    (hf : X.fn x = true ∨ X.env.scope.names.lookup x = some .local := by first | exact .inl rfl | exact .inr rfl) : PS X (.Assign [.Name x pos'] e pos) (tS M X.mg W (sSet i m er)) := (ps_set hN hi hx he hs hf).con fun Dd σ H ⟨en, ρ, p, hH, rl, q⟩ => by
  subst hH
  show tR M X.mg W er σ p.H fun x H1 => Dd.nx (σ.set i (some x)) H1
  refine inF_D rl q fun r v q1 e ok es rk hr => ?_
  obtain ⟨q2, eH, eS, rl2, rk2, ap⟩ := behind_ok rl e ok rk
  split at hr
  · rename_i hi
    rw [← eH]
    rw [← es] at hr
    refine hr (σ.set i (some v)) q2 (set_rel rl2 rk2 (fun a ha hd j d hj => ap a ha hd j d (behind_own hj)) i (by rw [behind_len]; exact hi)) eS
  · exact hr.elim
theorem ss_ret (m : List Nat) (he : PE X e (tR M X.mg W er)) : PS X (.Return (some e) pos) (tS M X.mg W (sRet m er)) := (ps_ret he).con fun Dd σ H ⟨en, ρ, p, hH, rl, q⟩ => by
  subst hH
  show tR M X.mg W er σ p.H Dd.rt
  refine inF_D rl q fun r v q1 e ok es rk hr => ?_
  obtain ⟨q2, eH, eS, rl2, rk2, ap⟩ := behind_ok rl e ok rk
  rw [← eH]
  exact hr v q2 rl2.ext rl2.ok (eS.trans es) rk2
theorem ss_drop (m : List Nat) (he : PE X e (tR M X.mg W er)) (hs : swapsWith e none pos.line X.env = pure false := by rfl) : PS X (.Expr e pos) (tS M X.mg W (sDrop m er)) := (ps_expr he hs).con fun Dd σ H ⟨en, ρ, p, hH, rl, q⟩ => by
  subst hH
  show tR M X.mg W er σ p.H fun _ H1 => Dd.nx σ H1
  refine inF_D rl q fun r v q1 e ok es rk hr => ?_
  obtain ⟨q2, eH, eS, rl2, rk2, ap⟩ := behind_ok rl e ok rk
  rw [← eH]
  rw [← es] at hr
  exact hr σ q2 rl2 eS
variable {st : Stmt} {sts : List Stmt} {sa sb : Sv M}
theorem sss_nil : PSs X [] (tS M X.mg W sNil) := pss_nil.con fun Dd σ H ⟨en, ρ, p, hH, rl, q⟩ => by
  subst hH
  exact q σ p rl rfl
theorem SEnd_seq {Dd : Ends} {b : Sv M} {f : Fl × M.S} (h : (sThen b f).all (SEnd M en Dd) (XSEnd M X.mg en W)) : SEnd M en { Dd with nx := tS M X.mg W b Dd } f := by
  obtain ⟨fl, s⟩ := f
  cases fl with
  | nx ρ => exact fun σ q rl es => ⟨en, ρ, q, rfl, rl, by rw [es]; exact h⟩
  | rt r => exact h
  | bk ρ => exact h
  | ct ρ => exact h
theorem sss_cons (h1 : PS X st (tS M X.mg W sa)) (h2 : PSs X sts (tS M X.mg W sb)) : PSs X (st :: sts) (tS M X.mg W (sSeq sa sb)) := (pss_cons h1 h2).con fun Dd σ H ⟨en, ρ, p, hH, rl, q⟩ => by
  subst hH
  exact ⟨en, ρ, p, rfl, rl, G.all_mono (fun f hf => SEnd_seq hf) (fun _ h => h) (G.all_bind.mp q)⟩
theorem sss_one (h1 : PS X st (tS M X.mg W sa)) : PSs X [st] (tS M X.mg W sa) := pss_one h1
/-- behind a test -/
theorem behind_b {ρ : Nv} {σ : Sl} {p q : Pt M} (h : Rel en ρ σ p) (e : Ext (p.opn ρ σ m) q) (ok : q.Ok) : ∃ q', q'.H = q.H ∧ q'.s = q.s ∧ Rel en (behind M m true q.s ρ) σ q' := by
  obtain ⟨q', h1, h2, h3, _⟩ := behind_ok (r := .sh .non) (v := .non) h e ok rfl
  exact ⟨q', h1, h2, h3⟩
theorem ss_if (m : List Nat) {c : Expr} {ba bb : List Stmt} (hc : PT X c (tB' M X.mg W ec)) (ha : PSs X ba (tS M X.mg W sa)) (hb : PSs X bb (tS M X.mg W sb)) : PS X (.If c ba bb pos) (tS M X.mg W (sIf m ec sa sb)) := (ps_if hc ha hb).con fun Dd σ H ⟨en, ρ, p, hH, rl, q⟩ => by
  subst hH
  show tB' M X.mg W ec σ p.H fun b H1 => if b = true then tS M X.mg W sa Dd σ H1 else tS M X.mg W sb Dd σ H1
  refine inF_B rl q fun r q1 e ok es hr => ?_
  obtain ⟨q2, eH, eS, rl2⟩ := behind_b rl e ok
  obtain ⟨c, s1⟩ := r
  have es2 : q1.s = s1 := es
  rw [← eH]
  cases c with
  | true =>
    have hr' : (sa (behind M m true s1 ρ) s1).all _ _ := hr
    rw [← es2] at hr'
    exact ⟨en, _, q2, rfl, rl2, by rw [eS]; exact hr'⟩
  | false =>
    have hr' : (sb (behind M m true s1 ρ) s1).all _ _ := hr
    rw [← es2] at hr'
    exact ⟨en, _, q2, rfl, rl2, by rw [eS]; exact hr'⟩
theorem start_rel {N : List Str} {p : Pt M} {ds : List D} {vs : List V} (ok : p.Ok) (h : DenL X.K p.ad p.Hv ds vs) (hl : vs.length ≤ N.length) : Rel p (startE N.length ds) (L2.start N vs) p := by
  have hlen := h.length
  have get : ∀ (i : Nat) vv, (startE N.length ds)[i]? = some (some vv) → ∃ d, ds[i]? = some d ∧ vv = .sh d := fun i vv e => by
    unfold startE at e
    by_cases hi : i < ds.length
    · rw [List.getElem?_append_left (by simpa using hi), List.getElem?_map] at e
      cases z : ds[i]? with
      | none => rw [z] at e; cases e
      | some d => rw [z] at e; cases e; exact ⟨d, rfl, rfl⟩
    · rw [List.getElem?_append_right (by simpa using hi), List.getElem?_replicate] at e
      split at e <;> cases e
  refine ⟨ok, Ext.refl p, ?_, fun i d e => ?_, fun i d e => ?_, fun i j d d' a _ e => ?_⟩
  · unfold L2.start startE; simp [hlen]
  · obtain ⟨d', h1, h2⟩ := get i _ e
    cases h2
    obtain ⟨v, h3, h4⟩ := h.get h1
    refine ⟨v, ?_, h4⟩
    have hi : i < vs.length := (List.getElem?_eq_some_iff.mp h3).1
    unfold L2.start
    rw [List.getElem?_append_left (by simpa using hi), List.getElem?_map, h3]; rfl
  · obtain ⟨_, _, h2⟩ := get i _ e; cases h2
  · obtain ⟨_, _, h2⟩ := get i _ e; cases h2
end
section
variable {P : Program} {w : World} {K : PySem.W.Frag} {mg : Str → Option Value} {base : Heap} {M : WM K}
/-- THE RULE for a def: its body's reading -/
theorem def_ok {x qual : Str} {st : Stmt} {f : Addr} {fd : FuncData} {N ps : List Str} {k n : Nat} {ss : Sv M} (F : Fun K x qual st f fd) (S : FnScope N ps (defScope st)) (hn : ps.length = n) (hle : n ≤ N.length)
    (hbody : ∀ (cdv : Value) (A : Around) (outer : List Env) (s : Shared) (H : Hp) (E : XK), Room k (A.deeper (envOfC qual (defScope st) s.heap.objs.size f cdv)) →
      Takes (cxOf (L2.CX P w) P w K mg base N qual (defScope st) f cdv A outer s H E) (fun cls d _ H => E cls d H) →
      PSs (cxOf (L2.CX P w) P w K mg base N qual (defScope st) f cdv A outer s H E) (defBody st) (tS M mg (fun cls d _ H => E cls d H) ss)) : FnOk P w K mg base (L2.CX P w) (k + 1) f fd ps (spV M mg n (runD N.length ss)) := by
  refine F.okX S (fun vs H Q E h => ?_) (fun cdv A outer s H vs Q E hr h => ?_)
  · obtain ⟨ds, p, h1, _⟩ := h
    rw [h1, hn]
  · obtain ⟨ds, p, h1, hH, ok, hd, hq⟩ := h
    subst hH
    refine ⟨_, hbody cdv A outer s p.H E hr (takes_of rfl rfl rfl rfl), p, startE N.length ds, p, rfl, ?_, ?_⟩
    · exact start_rel (X := cxOf (L2.CX P w) P w K mg base N qual (defScope st) f cdv A outer s p.H E) (M := M) ok hd (by omega)
    · refine G.all_mono (fun fl hf => ?_) (fun x hx => ?_) (G.all_exs.mp (G.all_bind.mp hq))
      · obtain ⟨fl, s1⟩ := fl
        cases fl with
        | nx ρ => exact fun σ q rl es => hf .non q rl.ext rl.ok es rfl
        | rt r => exact fun v q e ok es rk => hf v q e ok es rk
        | bk ρ => exact hf.elim
        | ct ρ => exact hf.elim
      · exact fun cls dd σ q rl es xk => hx cls dd q rl.ext rl.ok es xk
end
end VQ

namespace VQ
open PySem PySem.Spec PyProof.Rows L2
section
variable {K : PySem.W.Frag} {M : WM K}
/-- the iterator J gives the items one by one, as long as what q sees stands -/
def Serves (J : It) (items : List D) (q : Pt M) : Prop := ∀ H', Same q.Hv H' → (∀ (i : Nat), items.length = i → J.stop i H') ∧ ∀ (i : Nat) d, items[i]? = some d → J.go i H' ∧ ∀ x H2, J.yld i H' x H2 →
  (H2 = H' ∧ Den K q.ad q.Hv d x) ∨ (∃ a vs ds, H' a = none ∧ x = .ref a ∧ H2 = upd H' a (.tup vs) ∧ d = .tup ds ∧ DenL K q.ad q.Hv ds vs) ∨
  ∃ a vs ds b v0 d0, H' a = none ∧ upd H' a (.tup vs) b = none ∧ x = .ref b ∧ H2 = upd (upd H' a (.tup vs)) b (.tup [v0, .ref a]) ∧ d = .tup [d0, .tup ds] ∧ DenL K q.ad q.Hv ds vs ∧ Den K q.ad q.Hv d0 v0
/-- one more tuple in the heap -/
theorem rel_lay {en q' : Pt M} {ρ' : Nv} {σ' : Sl} (rl' : Rel en ρ' σ' q') {a : Addr} {vs : List V} (ha : q'.H a = none) : Rel en ρ' σ' (q'.lay a (.tup vs)) := by
  have el := ext_lay rl'.ok ha (o := .tup vs)
  refine ⟨ok_lay rl'.ok ha, rl'.ext.trans el, rl'.len, fun j d hj => ?_, fun j d hj => ?_, rl'.dis⟩
  · obtain ⟨v, h1, h2⟩ := rl'.sh j d hj
    exact ⟨v, h1, el.den h2⟩
  · obtain ⟨a', o, h1, h2, h3, h4, h5, h6⟩ := rl'.ow j d hj
    have ne : a' ≠ a := ne_of_none h2 ha
    refine ⟨a', o, h1, el.frame _ _ h2 h4, ?_, h4, h5, h6.mono el.view el.ad⟩
    show upd q'.Hv a (.tup vs) a' = none
    rw [upd_ne ne]; exact h3
/-- a target: how it takes a value into the names -/
def tGt (M : WM K) (g : D → Nv → Option Nv) : TG := fun v σ H Q => ∃ (en : Pt M) (ρ : Nv) (p : Pt M) (d : D) (ρ' : Nv), p.H = H ∧ Rel en ρ σ p ∧ Den K p.ad p.Hv d v ∧ g d ρ = some ρ' ∧ ∀ σ', Rel en ρ' σ' p → Q σ' p.H
def tGts (M : WM K) (g : List D → Nv → Option Nv) : TGs := fun vs σ H Q => ∃ (en : Pt M) (ρ : Nv) (p : Pt M) (ds : List D) (ρ' : Nv), p.H = H ∧ Rel en ρ σ p ∧ DenL K p.ad p.Hv ds vs ∧ g ds ρ = some ρ' ∧ ∀ σ', Rel en ρ' σ' p → Q σ' p.H
def gtName (i : Nat) : D → Nv → Option Nv := fun d ρ => if i < ρ.length then some (ρ.set i (some (.sh d))) else none
def gtNil : List D → Nv → Option Nv := fun ds ρ => match ds with
  | [] => some ρ
  | _ => none
def gtCons (g : D → Nv → Option Nv) (gs : List D → Nv → Option Nv) : List D → Nv → Option Nv := fun ds ρ => match ds with
  | d :: r => (g d ρ).bind (gs r)
  | [] => none
def gtTup (n : Nat) (gs : List D → Nv → Option Nv) : D → Nv → Option Nv := fun d ρ => match d with
  | .tup ds => if ds.length = n then gs ds ρ else none
  | _ => none
/-- the loop -/
def loopG (g : D → Nv → Option Nv) (body : Sv M) : List D → Sv M
  | [], ρ, s => .ret (.nx ρ, s)
  | d :: ds, ρ, s => match g d ρ with
    | none => .bad
    | some ρ1 => (body ρ1 s).bind fun f => match f with
      | (.nx ρ2, s2) => loopG g body ds ρ2 s2
      | (.ct ρ2, s2) => loopG g body ds ρ2 s2
      | (.bk ρ2, s2) => .ret (.nx ρ2, s2)
      | (.rt r, s2) => .ret (.rt r, s2)
def sFor (m : List Nat) (ei : Ev M (List D)) (g : D → Nv → Option Nv) (body : Sv M) : Sv M := fun ρ s => (inF m ei ρ s).bind fun r => loopG g body r.1 (frz m ρ) r.2
end
section
variable {X : Cx} {M : WM X.K} {W : WX} {e a b iter tg : Expr} {es rest : List Expr} {pos : Pos} {ea eb ec : Ev M D} {er : Ev M R} {el ei : Ev M (List D)} {m : List Nat}
/-- an iterator's reading -/
def tIt (M : WM X.K) (W : WX) (ei : Ev M (List D)) : TI := fun σ H R => ∃ (ρ : Dv) (p : Pt M), p.H = H ∧ p.Ok ∧ EnvD M p σ ρ ∧ (ei ρ p.s).all (fun r => ∀ (J : It) (q : Pt M), Ext p q → q.Ok → q.s = r.2 → Serves J r.1 q → R J q.H) (XEnd M X.mg p W σ)
theorem _root_.L2.PI.con {X : Cx} {tg e : Expr} {t t' : TI} (h : PI X tg e t) (i : ∀ σ H Q, t' σ H Q → t σ H Q) : PI X tg e t' := ⟨fun pins s σ H Q I q => h.run pins s σ H Q I (i _ _ _ q)⟩
theorem _root_.L2.PG.con {X : Cx} {tg : Expr} {t t' : TG} (h : PG X tg t) (i : ∀ v σ H Q, t' v σ H Q → t v σ H Q) : PG X tg t' := ⟨fun pins s σ H v u Q I r q => h.run pins s σ H v u Q I r (i _ _ _ _ q)⟩
theorem _root_.L2.PGs.con {X : Cx} {tg : List Expr} {t t' : TGs} (h : PGs X tg t) (i : ∀ v σ H Q, t' v σ H Q → t v σ H Q) : PGs X tg t' := ⟨fun pins s σ H v u Q I r q => h.run pins s σ H v u Q I r (i _ _ _ _ q)⟩
theorem tg_name (i : Nat) {x : Str} (hN : X.N.Nodup) (hi : X.N[i]? = some x := by rfl) (hx : Loc X.env.scope x := by first | exact Or.inl rfl | exact Or.inr rfl)
    (hf : X.fn x = true ∨ X.env.scope.names.lookup x = some .local := by first | exact .inl rfl | exact .inr rfl) : PG X (.Name x pos) (tGt M (gtName i)) := (pg_name hN hi hx hf).con fun v σ H Q ⟨en, ρ, p, d, ρ', hH, rl, hd, hg, q⟩ => by
  subst hH
  unfold gtName at hg
  split at hg
  · rename_i hl
    cases hg
    exact q (σ.set i (some v)) (set_rel (r := .sh d) rl hd (fun _ _ ⟨_, h⟩ => by cases h) i hl)
  · cases hg
theorem tgs_nil : PGs X [] (tGts M gtNil) := pgs_nil.con fun v σ H Q ⟨en, ρ, p, ds, ρ', hH, rl, hd, hg, q⟩ => by
  subst hH
  cases ds with
  | nil => cases hg; cases hd; exact ⟨rfl, q σ rl⟩
  | cons _ _ => cases hg
theorem tgs_cons {g : D → Nv → Option Nv} {gs : List D → Nv → Option Nv} (h : PG X e (tGt M g)) (hr : PGs X es (tGts M gs)) (hs : (assignEach (e :: es) X.env).map (·.2) = assign e X.env :: (assignEach es X.env).map (·.2) := by rfl) :
    PGs X (e :: es) (tGts M (gtCons g gs)) := (pgs_cons h hr hs).con fun v σ H Q ⟨en, ρ, p, ds, ρ', hH, rl, hd, hg, q⟩ => by
  subst hH
  cases ds with
  | nil => cases hg
  | cons d r =>
    obtain ⟨x, vs, rfl, h1, h2⟩ := hd
    simp only [gtCons] at hg
    cases z : g d ρ with
    | none => rw [z] at hg; cases hg
    | some ρ1 =>
      rw [z] at hg
      exact ⟨x, vs, rfl, en, ρ, p, d, ρ1, rfl, rl, h1, z, fun σ' rl' => ⟨en, ρ1, p, r, ρ', rfl, rl', h2, hg, q⟩⟩
theorem tg_tup (n : Nat) {gs : List D → Nv → Option Nv} {k : Nat} (hc : X.calm = true) (h : PGs X es (tGts M gs)) (hn : (assignEach es X.env).length = n := by rfl) (hst : (assignEach es X.env).findIdx? (·.1) = none := by rfl) :
    PG X (.Tuple es k pos) (tGt M (gtTup n gs)) := (pg_tup hc h hn hst).con fun v σ H Q ⟨en, ρ, p, d, ρ', hH, rl, hd, hg, q⟩ => by
  subst hH
  cases d <;> first | (cases hg; done) | skip
  obtain ⟨a, vs, rfl, h1, h2⟩ := hd
  simp only [gtTup] at hg
  split at hg
  · rename_i hl
    exact ⟨a, vs, rfl, sqT_H rl.ok h1, h2.length.trans hl, en, ρ, p, _, ρ', rfl, rl, h2, hg, q⟩
  · cases hg
open Classical in
noncomputable def reb (q : Pt M) (ρ : Nv) (σ : Sl) : Pt M := ⟨q.s, q.F, q.Hv, fun b => if ∃ (i : Nat) (d : D), ρ[i]? = some (some (.ow d)) ∧ σ[i]? = some (some (.ref b)) then none else q.H b, q.ad⟩
theorem reb_rel {en q : Pt M} {ρ : Nv} {σ : Sl} (h : Rel en ρ σ q) : Rel (reb q ρ σ) ρ σ q where
  ok := h.ok
  ext := ⟨Same.rfl', fun b o e _ => by
    unfold reb at e; dsimp only at e
    split at e
    · cases e
    · exact e, fun b o e => .inl ⟨o, e⟩, fun _ f => .inl f, fun _ _ e => e⟩
  len := h.len
  sh := h.sh
  ow := fun i d hi => by
    obtain ⟨a, o, h1, h2, h3, h4, h5, h6⟩ := h.ow i d hi
    refine ⟨a, o, h1, h2, h3, h4, .inl ?_, h6⟩
    unfold reb; dsimp only
    rw [if_pos ⟨i, d, hi, h1⟩]
  dis := h.dis
section
variable {en q : Pt M} {ρ : Nv} {σ : Sl} (h : Rel en ρ σ q)
include h
theorem reb_own {b : Addr} (o : ∃ (i : Nat) (d : D), ρ[i]? = some (some (.ow d)) ∧ σ[i]? = some (some (.ref b))) : en.H b = none ∨ en.F b := by
  obtain ⟨i, d, h1, h2⟩ := o
  obtain ⟨a, u, e, _, _, _, h5, _⟩ := h.ow i d h1
  rw [h2] at e; cases e
  exact h5
theorem reb_new {b : Addr} (hb : (reb q ρ σ).H b = none ∨ (reb q ρ σ).F b) : en.H b = none ∨ en.F b := by
  rcases hb with hb | hb
  · unfold reb at hb; dsimp only at hb
    split at hb
    · rename_i o; exact reb_own h o
    · exact newOld h.ext hb
  · exact (h.ext.foot b hb).symm
theorem reb_ext {q' : Pt M} (e : Ext (reb q ρ σ) q') : Ext en q' where
  view := h.ext.view.tr e.view
  frame := fun b o hb nf => by
    have h1 := h.ext.frame b o hb nf
    refine e.frame b o ?_ fun z => ?_
    · unfold reb; dsimp only
      rw [if_neg]
      · exact h1
      · intro o'
        rcases reb_own h o' with z | z
        · rw [hb] at z; cases z
        · exact nf z
    · rcases h.ext.foot b z with z | z
      · exact nf z
      · rw [hb] at z; cases z
  new := fun b o hb => by
    rcases e.new b o hb with ⟨o', z⟩ | z | z
    · exact h.ext.new b o' z
    · exact .inr (reb_new h (.inl z))
    · exact .inr (reb_new h (.inr z))
  foot := fun b hb => by
    rcases e.foot b hb with z | z
    · exact (reb_new h (.inr z)).symm
    · exact (reb_new h (.inl z)).symm
  ad := fun n a ha => e.ad n a (h.ext.ad n a ha)
theorem reb_back {ρ' : Nv} {σ' : Sl} {q' : Pt M} (r : Rel (reb q ρ σ) ρ' σ' q') : Rel en ρ' σ' q' :=
  ⟨r.ok, reb_ext h r.ext, r.len, r.sh, fun i d hi => by
    obtain ⟨a, o, h1, h2, h3, h4, h5, h6⟩ := r.ow i d hi
    exact ⟨a, o, h1, h2, h3, h4, reb_new h h5, h6⟩, r.dis⟩
theorem reb_rok {q' : Pt M} {r : R} {v : V} (rk : ROk (reb q ρ σ) q' r v) : ROk en q' r v := by
  cases r with
  | sh d => exact rk
  | fr d =>
    obtain ⟨a, o, e1, e2, e3, e4, e5, e6⟩ := rk
    exact ⟨a, o, e1, e2, e3, e4, reb_new h e5, e6⟩
theorem reb_xend {W : WX} {x : Xs M} (hx : XSEnd M X.mg en W x) : XSEnd M X.mg (reb q ρ σ) W x := fun cls dd σ' q' rl es xk => hx cls dd σ' q' (reb_back h rl) es xk
end
theorem ss_for (m : List Nat) {g : D → Nv → Option Nv} {body : List Stmt} {sb : Sv M} (hp : PassesOwn (model X.prog X.w) X.A X.env X.xe) (hc : X.calm = true) (hi : PI X tg iter (tIt M W ei)) (hg : PG X tg (tGt M g)) (hb : PSs X body (tS M X.mg W sb))
    (hs : ∀ x, foldedSetIterable iter X.env x = pure x := by intro _; rfl) : PS X (.For tg iter body [] pos) (tS M X.mg W (sFor m ei g sb)) := (ps_for hp hc hi hg hb hs).con fun Dd σ H ⟨en, ρ, p, hH, rl, q⟩ => by
  subst hH
  refine ⟨view m ρ, p.opn ρ σ m, rfl, opn_ok rl, opn_env rl, G.all_mono (fun r hr J q0 e ok es sv => ?_) (fun x hx cls dd q e ok es xk => hx cls dd σ q (frz_rel rl e ok) es xk) (G.all_exs.mp (G.all_bind.mp q))⟩
  have rl0 := frz_rel rl e ok
  have rb := reb_rel rl0
  rw [← es] at hr
  refine ⟨fun i n σ' H' => n = r.1.length - i ∧ i ≤ r.1.length ∧ ∃ (ρ' : Nv) (q' : Pt M), q'.H = H' ∧ Rel (reb q0 (frz m ρ) σ) ρ' σ' q' ∧ (loopG g sb (r.1.drop i) ρ' q'.s).all (SEnd M en Dd) (XSEnd M X.mg en W), ⟨r.1.length, by simp, Nat.zero_le _, frz m ρ, q0, rfl, rb, hr⟩, ?_⟩
  rintro i n σ' H' ⟨rfl, hi, ρ', q', rfl, rl', hl⟩
  have vw : Same q0.Hv q'.H := rl'.ext.view.tr rl'.ok.view
  obtain ⟨s1, s2⟩ := sv q'.H vw
  by_cases hlt : i < r.1.length
  · have hd : r.1[i]? = some r.1[i] := by simp [hlt]
    obtain ⟨g1, g2⟩ := s2 i _ hd
    refine .inr ⟨g1, fun σ2 H2 => ∃ (ρ2 : Nv) (q2 : Pt M), q2.H = H2 ∧ Rel (reb q0 (frz m ρ) σ) ρ2 σ2 q2 ∧ (loopG g sb (r.1.drop (i + 1)) ρ2 q2.s).all (SEnd M en Dd) (XSEnd M X.mg en W), fun σ2 H2 ⟨ρ2, q2, a, b, c⟩ => ⟨r.1.length - (i + 1), by omega, rfl, hlt, ρ2, q2, a, b, c⟩, fun x H2 y => ?_⟩
    have hdrop : r.1.drop i = r.1[i] :: r.1.drop (i + 1) := List.drop_eq_getElem_cons hlt
    rw [hdrop] at hl
    simp only [loopG] at hl
    cases zg : g r.1[i] ρ' with
    | none => rw [zg] at hl; exact hl.elim
    | some ρ1 =>
      rw [zg] at hl
      -- the value, at the point where it is taken
      obtain ⟨q1, eH, eS, rl1, dn⟩ : ∃ q1 : Pt M, q1.H = H2 ∧ q1.s = q'.s ∧ Rel (reb q0 (frz m ρ) σ) ρ' σ' q1 ∧ Den X.K q1.ad q1.Hv r.1[i] x := by
        rcases g2 x H2 y with ⟨rfl, dx⟩ | ⟨a, vs, ds, ha, rfl, rfl, ed, dl⟩ | ⟨a, vs, ds, b, v0, d0, ha, hb, rfl, rfl, ed, dl, d1⟩
        · exact ⟨q', rfl, rfl, rl', dx.mono rl'.ext.view rl'.ext.ad⟩
        · have el := ext_lay rl'.ok ha (o := .tup vs)
          refine ⟨q'.lay a (.tup vs), rfl, rfl, rel_lay rl' ha, ?_⟩
          rw [ed]
          exact ⟨a, vs, rfl, SqT.of upd_same, dl.mono (rl'.ext.view.tr el.view) rl'.ext.ad⟩
        · have el := ext_lay rl'.ok ha (o := .tup vs)
          have rl1 := rel_lay rl' (vs := vs) ha
          have el2 := ext_lay rl1.ok (a := b) hb (o := .tup [v0, .ref a])
          refine ⟨(q'.lay a (.tup vs)).lay b (.tup [v0, .ref a]), rfl, rfl, rel_lay rl1 hb, ?_⟩
          rw [ed]
          have da : Den X.K q'.ad (q'.lay a (.tup vs)).Hv (.tup ds) (.ref a) := ⟨a, vs, rfl, SqT.of upd_same, dl.mono (rl'.ext.view.tr el.view) rl'.ext.ad⟩
          have d2 : Den X.K q'.ad (q'.lay a (.tup vs)).Hv d0 v0 := d1.mono (rl'.ext.view.tr el.view) rl'.ext.ad
          exact ⟨b, _, rfl, SqT.of upd_same, DenL.cons (d2.mono el2.view fun _ _ e => e) (DenL.one (da.mono el2.view fun _ _ e => e))⟩
      rw [← eH]
      refine ⟨_, ρ', q1, _, ρ1, rfl, rl1, dn, zg, fun σ2 rl2 => ?_⟩
      rw [← eS] at hl
      refine ⟨_, ρ1, q1, rfl, rl2, G.all_mono (fun f hf => ?_) (fun x hx => reb_xend rl0 hx) (G.all_bind.mp hl)⟩
      obtain ⟨f, s3⟩ := f
      cases f with
      | nx ρ3 => exact fun σ3 q3 rl3 es3 => ⟨ρ3, q3, rfl, rl3, by rw [es3]; exact hf⟩
      | ct ρ3 => exact fun σ3 q3 rl3 es3 => ⟨ρ3, q3, rfl, rl3, by rw [es3]; exact hf⟩
      | bk ρ3 => exact fun σ3 q3 rl3 es3 => hf σ3 q3 (reb_back rl0 rl3) es3
      | rt r3 => exact fun v q3 e3 ok3 es3 rk3 => hf v q3 (reb_ext rl0 e3) ok3 es3 (reb_rok rl0 rk3)
  · have ei : i = r.1.length := by omega
    subst ei
    rw [List.drop_length] at hl
    exact .inl ⟨s1 _ rfl, hl σ' q' (reb_back rl0 rl') rfl⟩
end
end VQ

namespace VQ
open PySem PySem.Spec PyProof.Rows L2
namespace G
variable {ε ε' α : Type}
/-- no exception is let out -/
def noX : G ε α → G ε' α
  | ret a => ret a
  | exc _ => bad
  | draw n k => draw n fun r => (k r).noX
  | bad => bad
theorem all_noX {Q : α → Prop} {E : ε' → Prop} {E' : ε → Prop} : ∀ {m : G ε α}, (m.noX : G ε' α).all Q E → m.all Q E'
  | ret _, h => h
  | exc _, h => h.elim
  | bad, h => h.elim
  | draw _ k, h => ⟨h.1, fun r hr => all_noX (h.2 r hr)⟩
@[simp] theorem noX_ret (a : α) : (ret a : G ε α).noX = (ret a : G ε' α) := rfl
end G
section
variable {K : PySem.W.Frag} {M : WM K}
def wipeD (vs : List Nat) (ρ : Dv) : Dv := vs.foldl (fun ρ i => ρ.set i none) ρ
theorem wipeD_get : ∀ (vs : List Nat) (ρ : Dv) (i : Nat) (d : D), (wipeD vs ρ)[i]? = some (some d) → ρ[i]? = some (some d) ∧ i ∉ vs
  | [], ρ, i, d, h => ⟨h, by simp⟩
  | v :: vs, ρ, i, d, h => by
    obtain ⟨h1, h2⟩ := wipeD_get vs (ρ.set v none) i d h
    by_cases e : v = i
    · subst e
      by_cases hl : v < ρ.length
      · rw [List.getElem?_set_self hl] at h1; cases h1
      · rw [List.getElem?_eq_none_iff.mpr (by simp; omega)] at h1; cases h1
    · rw [List.getElem?_set_ne e] at h1
      exact ⟨h1, by simp [h2]; exact fun q => e q.symm⟩
theorem wipeD_len : ∀ (vs : List Nat) (ρ : Dv), (wipeD vs ρ).length = ρ.length
  | [], _ => rfl
  | v :: vs, ρ => by
    show (wipeD vs (ρ.set v none)).length = _
    rw [wipeD_len vs]; simp
theorem wipe_env {p : Pt M} {σ : Sl} {ρ : Dv} {vs : List Nat} (h : EnvD M p σ ρ) : EnvD M p (wipe σ vs) (wipeD vs ρ) := ⟨by rw [wipe_length, wipeD_len]; exact h.len, fun i d e => by
  obtain ⟨h1, h2⟩ := wipeD_get vs ρ i d e
  obtain ⟨v, h3, h4⟩ := h.get i d h1
  exact ⟨v, by rw [wipe_out h2]; exact h3, h4⟩⟩
/-- a target of a comprehension: into its own names at vs -/
def tGd (M : WM K) (vs : List Nat) (g : D → Dv → Option Dv) : TG := fun v σ H Q => ∃ (ρ : Dv) (p : Pt M) (d : D) (ρ' : Dv), p.H = H ∧ EnvD M p σ ρ ∧ p.Ok ∧ Den K p.ad p.Hv d v ∧ g d ρ = some ρ' ∧ ∀ σ', EnvD M p σ' ρ' → wipe σ' vs = wipe σ vs → Q σ' p.H
def tGds (M : WM K) (vs : List Nat) (g : List D → Dv → Option Dv) : TGs := fun v σ H Q => ∃ (ρ : Dv) (p : Pt M) (ds : List D) (ρ' : Dv), p.H = H ∧ EnvD M p σ ρ ∧ p.Ok ∧ DenL K p.ad p.Hv ds v ∧ g ds ρ = some ρ' ∧ ∀ σ', EnvD M p σ' ρ' → wipe σ' vs = wipe σ vs → Q σ' p.H
def gdName (i : Nat) : D → Dv → Option Dv := fun d ρ => if i < ρ.length then some (ρ.set i (some d)) else none
def gdNil : List D → Dv → Option Dv := fun ds ρ => match ds with
  | [] => some ρ
  | _ => none
def gdCons (g : D → Dv → Option Dv) (gs : List D → Dv → Option Dv) : List D → Dv → Option Dv := fun ds ρ => match ds with
  | d :: r => (g d ρ).bind (gs r)
  | [] => none
def gdTup (n : Nat) (gs : List D → Dv → Option Dv) : D → Dv → Option Dv := fun d ρ => match d with
  | .tup ds => if ds.length = n then gs ds ρ else none
  | _ => none
/-- the loop of a comprehension -/
def lcG (g : D → Dv → Option Dv) (et : Ev M Bool) (ee : Ev M D) (ρ : Dv) : List D → List D → M.S → Gx M R
  | [], acc, s => .ret (.fr (.lst acc), s)
  | d :: ds, acc, s => match g d ρ with
    | none => .bad
    | some ρ1 => (et ρ1 s).noX.bind fun b => if b.1 = true then (ee ρ1 b.2).noX.bind fun y => if acc.length < big then lcG g et ee ρ ds (acc ++ [y.1]) y.2 else .bad else lcG g et ee ρ ds acc b.2
def eLc (vs : List Nat) (ei : Ev M (List D)) (g : D → Dv → Option Dv) (et : Ev M Bool) (ee : Ev M D) : Ev M R := fun ρ s => (ei ρ s).bind fun r => lcG g et ee (wipeD vs ρ) r.1 [] r.2
def eYes : Ev M Bool := fun _ s => .ret (true, s)
end
theorem wipe_set {σ : Sl} {i : Nat} {o : Option V} : ∀ {vs : List Nat}, i ∈ vs → wipe (σ.set i o) vs = wipe σ vs := by
  intro vs hi
  refine List.ext_getElem? fun j => ?_
  by_cases hj : j ∈ vs
  · have none_at : ∀ (τ : Sl) (vs : List Nat), j ∈ vs → (wipe τ vs)[j]? = if j < τ.length then some none else none := by
      intro τ vs
      induction vs generalizing τ with
      | nil => intro h; cases h
      | cons v vs ih =>
        intro h
        show ((wipe τ vs).set v none)[j]? = _
        by_cases e : v = j
        · subst e
          by_cases hl : v < τ.length
          · rw [List.getElem?_set_self (by rw [wipe_length]; exact hl), if_pos hl]
          · rw [if_neg hl, List.getElem?_eq_none_iff.mpr (by simp [wipe_length]; omega)]
        · rw [List.getElem?_set_ne e]
          rcases List.mem_cons.mp h with e' | e'
          · exact absurd e'.symm e
          · exact ih τ e' 
    rw [none_at _ _ hj, none_at _ _ hj]; simp
  · have : i ≠ j := fun e => hj (e ▸ hi)
    rw [wipe_out hj, wipe_out hj, List.getElem?_set_ne this]
theorem wipe_at {j : Nat} : ∀ (vs : List Nat) (τ : Sl), j ∈ vs → (wipe τ vs)[j]? = if j < τ.length then some none else none
  | [], _, h => by cases h
  | v :: vs, τ, h => by
    show ((wipe τ vs).set v none)[j]? = _
    by_cases e : v = j
    · subst e
      by_cases hl : v < τ.length
      · rw [List.getElem?_set_self (by rw [wipe_length]; exact hl), if_pos hl]
      · rw [if_neg hl, List.getElem?_eq_none_iff.mpr (by simp [wipe_length]; omega)]
    · rw [List.getElem?_set_ne e]
      rcases List.mem_cons.mp h with e' | e'
      · exact absurd e'.symm e
      · exact wipe_at vs τ e'
theorem wipe_idem {σ : Sl} {vs : List Nat} : wipe (wipe σ vs) vs = wipe σ vs := by
  refine List.ext_getElem? fun j => ?_
  by_cases hj : j ∈ vs
  · rw [wipe_at vs _ hj, wipe_at vs _ hj, wipe_length]
  · rw [wipe_out hj]
section
variable {X : Cx} {M : WM X.K} {W : WX} {e a b iter tg elt : Expr} {es rest : List Expr} {pos : Pos} {ea eb ec : Ev M D} {er : Ev M R} {el ei : Ev M (List D)} {vs : List Nat}
theorem cg_name (i : Nat) {x : Str} (hv : i ∈ vs := by decide) (hN : X.N.Nodup) (hi : X.N[i]? = some x := by rfl) (hx : Loc X.env.scope x := by first | exact Or.inl rfl | exact Or.inr rfl)
    (hf : X.fn x = true ∨ X.env.scope.names.lookup x = some .local := by first | exact .inl rfl | exact .inr rfl) : PG X (.Name x pos) (tGd M vs (gdName i)) := (pg_name hN hi hx hf).con fun v σ H Q ⟨ρ, p, d, ρ', hH, en, ok, hd, hg, q⟩ => by
  subst hH
  unfold gdName at hg
  split at hg
  · rename_i hil
    cases hg
    refine q (σ.set i (some v)) ⟨by simp [en.len], fun j d' e => ?_⟩ (wipe_set hv)
    by_cases hj : i = j
    · subst hj
      rw [List.getElem?_set_self hil] at e
      cases e
      exact ⟨v, by rw [List.getElem?_set_self (by rw [en.len]; exact hil)], hd⟩
    · rw [List.getElem?_set_ne hj] at e ⊢
      exact en.get j d' e
  · cases hg
theorem cgs_nil : PGs X [] (tGds M vs gdNil) := pgs_nil.con fun v σ H Q ⟨ρ, p, ds, ρ', hH, en, ok, hd, hg, q⟩ => by
  subst hH
  cases ds with
  | nil => cases hg; cases hd; exact ⟨rfl, q σ en rfl⟩
  | cons _ _ => cases hg
theorem cgs_cons {g : D → Dv → Option Dv} {gs : List D → Dv → Option Dv} (h : PG X e (tGd M vs g)) (hr : PGs X es (tGds M vs gs)) (hs : (assignEach (e :: es) X.env).map (·.2) = assign e X.env :: (assignEach es X.env).map (·.2) := by rfl) :
    PGs X (e :: es) (tGds M vs (gdCons g gs)) := (pgs_cons h hr hs).con fun v σ H Q ⟨ρ, p, ds, ρ', hH, en, ok, hd, hg, q⟩ => by
  subst hH
  cases ds with
  | nil => cases hg
  | cons d r =>
    obtain ⟨x, ws, rfl, h1, h2⟩ := hd
    simp only [gdCons] at hg
    cases z : g d ρ with
    | none => rw [z] at hg; cases hg
    | some ρ1 =>
      rw [z] at hg
      exact ⟨x, ws, rfl, ρ, p, d, ρ1, rfl, en, ok, h1, z, fun σ' en' hw => ⟨ρ1, p, r, ρ', rfl, en', ok, h2, hg, fun σ2 en2 hw2 => q σ2 en2 (hw2.trans hw)⟩⟩
theorem cg_tup (n : Nat) {gs : List D → Dv → Option Dv} {k : Nat} (hc : X.calm = true) (h : PGs X es (tGds M vs gs)) (hn : (assignEach es X.env).length = n := by rfl) (hst : (assignEach es X.env).findIdx? (·.1) = none := by rfl) :
    PG X (.Tuple es k pos) (tGd M vs (gdTup n gs)) := (pg_tup hc h hn hst).con fun v σ H Q ⟨ρ, p, d, ρ', hH, en, ok, hd, hg, q⟩ => by
  subst hH
  cases d <;> first | (cases hg; done) | skip
  obtain ⟨a, ws, rfl, h1, h2⟩ := hd
  simp only [gdTup] at hg
  split at hg
  · rename_i hl
    exact ⟨a, ws, rfl, sqT_H ok h1, h2.length.trans hl, ρ, p, _, ρ', rfl, en, ok, h2, hg, q⟩
  · cases hg
theorem _root_.L2.PTs.con {X : Cx} {e : List Expr} {t t' : TT} (h : PTs X e t) (i : ∀ σ H Q, t' σ H Q → t σ H Q) : PTs X e t' := ⟨fun pins s σ H Q I q => h.run pins s σ H Q I (i _ _ _ q)⟩
theorem tts_nil : PTs X [] (tB' M X.mg W eYes) := pts_nil.con fun σ H Q ⟨ρ, p, hH, ok, en, q⟩ => by
  subst hH
  exact q p (Ext.refl p) ok rfl
theorem tts_one {c : Expr} {et : Ev M Bool} (h : PT X c (tB' M X.mg W et)) : PTs X [c] (tB' M X.mg W et) := pts_one h
abbrev W0 : WX := fun _ _ _ _ => False
/-- what the drawing law of a one-line list asks, from its reading -/
theorem tLc_of {g : D → Dv → Option Dv} {et : Ev M Bool} {σ : Sl} {H : Hp} {Q : V → Hp → Prop} (h : tR M X.mg W (eLc vs ei g et ea) σ H Q) :
    tLc (tIt M W ei) (tGd M vs g) (tB' M X.mg W0 et) (tD M X.mg W0 ea) vs σ H Q := by
  obtain ⟨ρ, p, hH, okp, en, q⟩ := h
  subst hH
  unfold tLc
  refine ⟨ρ, p, rfl, okp, en, G.all_mono (fun r hr J q0 e0 ok0 es sv D hD => ?_) (fun _ h => h) (G.all_bind.mp q)⟩
  rw [← es] at hr
  have hnew : p.H D = none ∨ p.F D := newOld e0 hD
  have okd := ok_hid ok0 hD (o := .lst [])
  refine ⟨fun i n H' => n = r.1.length - i ∧ i ≤ r.1.length ∧ ∃ (acc : List VQ.D) (av : List V) (q' : Pt M), q'.H = H' ∧ q'.Ok ∧ Ext q0 q' ∧ q'.H D = some (.lst av) ∧ q'.Hv D = none ∧ ¬ q'.F D ∧ DenL X.K q'.ad q'.Hv acc av ∧
    (lcG g et ea (wipeD vs ρ) (r.1.drop i) acc q'.s).all (fun r => ∀ v (q : Pt M), Ext p q → q.Ok → q.s = r.2 → ROk p q r.1 v → Q v q.H) (XEnd M X.mg p W σ),
    ⟨r.1.length, by simp, Nat.zero_le _, [], [], q0.hid D (.lst []), rfl, okd, ext_hid hD, upd_same, ok0.vn hD, ok0.fn hD, DenL.nil, hr⟩, ?_⟩
  rintro i n H' ⟨rfl, hile, acc, av, q', rfl, ok', e', hDl, hDv, hDf, da, hl⟩
  have vw : Same q0.Hv q'.H := e'.view.tr ok'.view
  obtain ⟨s1, s2⟩ := sv q'.H vw
  by_cases hlt : i < r.1.length
  · have hd : r.1[i]? = some r.1[i] := by simp [hlt]
    obtain ⟨g1, g2⟩ := s2 i _ hd
    refine .inr ⟨g1, fun H2 => ∃ (acc : List VQ.D) (av : List V) (q' : Pt M), q'.H = H2 ∧ q'.Ok ∧ Ext q0 q' ∧ q'.H D = some (.lst av) ∧ q'.Hv D = none ∧ ¬ q'.F D ∧ DenL X.K q'.ad q'.Hv acc av ∧
      (lcG g et ea (wipeD vs ρ) (r.1.drop (i + 1)) acc q'.s).all (fun r => ∀ v (q : Pt M), Ext p q → q.Ok → q.s = r.2 → ROk p q r.1 v → Q v q.H) (XEnd M X.mg p W σ), fun H2 ⟨acc, av, q2, a1, a2⟩ => ⟨r.1.length - (i + 1), by omega, rfl, hlt, acc, av, q2, a1, a2⟩, fun x H2 y => ?_⟩
    have hdrop : r.1.drop i = r.1[i] :: r.1.drop (i + 1) := List.drop_eq_getElem_cons hlt
    rw [hdrop] at hl
    simp only [lcG] at hl
    cases zg : g r.1[i] (wipeD vs ρ) with
    | none => rw [zg] at hl; exact hl.elim
    | some ρ1 =>
      rw [zg] at hl
      obtain ⟨q1, eH, eS, e1, ok1, e1', dn⟩ : ∃ q1 : Pt M, q1.H = H2 ∧ q1.s = q'.s ∧ Ext q0 q1 ∧ q1.Ok ∧ Ext q' q1 ∧ Den X.K q1.ad q1.Hv r.1[i] x := by
        rcases g2 x H2 y with ⟨rfl, dx⟩ | ⟨a, vs, ds, ha, rfl, rfl, ed, dl⟩ | ⟨a, vs, ds, b, v0, d0, ha, hb, rfl, rfl, ed, dl, d1⟩
        · exact ⟨q', rfl, rfl, e', ok', Ext.refl _, e'.den dx⟩
        · have el := ext_lay ok' ha (o := .tup vs)
          exact ⟨q'.lay a (.tup vs), rfl, rfl, e'.trans el, ok_lay ok' ha, el, by rw [ed]; exact ⟨a, vs, rfl, SqT.of upd_same, (e'.trans el).denL dl⟩⟩
        · have el := ext_lay ok' ha (o := .tup vs)
          have ok2 := ok_lay ok' ha (o := .tup vs)
          have el2 := ext_lay ok2 (a := b) hb (o := .tup [v0, .ref a])
          have da : Den X.K q'.ad (q'.lay a (.tup vs)).Hv (.tup ds) (.ref a) := ⟨a, vs, rfl, SqT.of upd_same, (e'.trans el).denL dl⟩
          have d2 : Den X.K q'.ad (q'.lay a (.tup vs)).Hv d0 v0 := (e'.trans el).den d1
          exact ⟨(q'.lay a (.tup vs)).lay b (.tup [v0, .ref a]), rfl, rfl, (e'.trans el).trans el2, ok_lay ok2 hb, el.trans el2, by rw [ed]; exact ⟨b, _, rfl, SqT.of upd_same, DenL.cons (el2.den d2) (DenL.one (el2.den da))⟩⟩
      -- the list stays hidden behind each part
      have keepD : ∀ {q2 : Pt M}, Ext q' q2 → q2.H D = some (.lst av) ∧ q2.Hv D = none ∧ ¬ q2.F D := fun {q2} ex => by
        refine ⟨ex.frame D _ hDl hDf, ?_, fun z => ?_⟩
        · cases z : q2.Hv D with
          | none => rfl
          | some o =>
            rcases ex.new D o z with ⟨o', z'⟩ | z' | z'
            · rw [hDv] at z'; cases z'
            · rw [hDl] at z'; cases z'
            · exact absurd z' hDf
        · rcases ex.foot D z with z | z
          · exact hDf z
          · rw [hDl] at z; cases z
      rw [← eH]
      refine ⟨wipeD vs ρ, q1, r.1[i], ρ1, rfl, wipe_env (en.ext (e0.trans e1)), ok1, dn, zg, fun σ2 en2 hw => ⟨hw.trans wipe_idem, ?_⟩⟩
      rw [← eS] at hl
      refine ⟨ρ1, q1, rfl, ok1, en2, G.all_mono (fun b hb q2 e2 ok2 es2 => ?_) (fun _ h => h) (G.all_noX (E' := XEnd M X.mg q1 W0 σ2) (G.all_bind.mp hl))⟩
      obtain ⟨b, sb⟩ := b
      have es4 : q2.s = sb := es2
      cases b with
      | true =>
        have hb' : ((ea ρ1 sb).noX.bind _).all _ _ := hb
        rw [← es4] at hb'
        refine ⟨ρ1, q2, rfl, ok2, en2.ext e2, G.all_mono (fun y hy v q3 e3 ok3 es3 dy => ?_) (fun _ h => h) (G.all_noX (E' := XEnd M X.mg q2 W0 σ2) (G.all_bind.mp hb'))⟩
        obtain ⟨k1, k2, k3⟩ := keepD ((e1'.trans e2).trans e3)
        split at hy
        · rename_i hbig
          refine ⟨av, k1, ?_, acc ++ [y.1], av ++ [v], ⟨q3.s, q3.F, q3.Hv, upd q3.H D (.lst (av ++ [v])), q3.ad⟩, rfl, ?_, ?_, upd_same, k2, k3, ?_, by rw [← es3] at hy; exact hy⟩
          · rw [da.length]
            have : big < sizeLine := by rw [sizeLine_eq]; decide
            omega
          · have sm : Same q3.Hv (upd q3.H D (.lst (av ++ [v]))) := fun b o hb => by
              have : b ≠ D := fun z => by rw [z, k2] at hb; cases hb
              rw [upd_ne this]; exact ok3.view _ _ hb
            exact ⟨sm, ok3.off, M.stay ok3.rep Same.rfl' fun b o fb hb => by
              have : b ≠ D := fun z => k3 (z ▸ fb)
              show upd q3.H D (.lst (av ++ [v])) b = some o
              rw [upd_ne this]; exact hb⟩
          · have e13 := ((e1.trans e2).trans e3)
            exact ⟨e13.view, fun b o hb nf => by
              have : b ≠ D := ne_of_none hb hD
              show upd q3.H D _ b = some o
              rw [upd_ne this]; exact e13.frame b o hb nf, e13.new, e13.foot, e13.ad⟩
          · exact (((e1'.trans e2).trans e3).denL da).append (DenL.one dy)
        · exact hy.elim
      | false =>
        have hb' : (lcG g et ea (wipeD vs ρ) (r.1.drop (i + 1)) acc sb).all _ _ := hb
        rw [← es4] at hb'
        obtain ⟨k1, k2, k3⟩ := keepD (e1'.trans e2)
        exact ⟨acc, av, q2, rfl, ok2, e1.trans e2, k1, k2, k3, (e1'.trans e2).denL da, hb'⟩
  · have ei : i = r.1.length := by omega
    subst ei
    rw [List.drop_length] at hl
    exact .inl ⟨s1 _ rfl, hl (.ref D) q' (e0.trans e') ok' rfl ⟨D, .lst av, rfl, hDl, hDv, hDf, hnew, da⟩⟩
/-- [elt for tg in iter if ..] -/
theorem ev_lc (own : List (Str × Nat)) {ifs : List Expr} {scope : Scope} {g : D → Dv → Option Dv} {et : Ev M Bool} (hc : X.calm = true) (hN : X.N.Nodup) (hi : PI X tg iter (tIt M W ei)) (ok : BlkOk X.N X.env.scope scope own)
    (hg : ∀ (s : Shared) (H : Hp) (C : Addr) (cl : List (Str × Addr)) (fp : List Addr), PG (X.blk s H scope (compEnvC scope cl C X.env) fp) tg (tGd M (own.map (·.2)) g))
    (ht : ∀ (s : Shared) (H : Hp) (C : Addr) (cl : List (Str × Addr)) (fp : List Addr), PTs (X.blk s H scope (compEnvC scope cl C X.env) fp) ifs (tB' M X.mg W0 et))
    (he : ∀ (s : Shared) (H : Hp) (C : Addr) (cl : List (Str × Addr)) (fp : List Addr), PE (X.blk s H scope (compEnvC scope cl C X.env) fp) elt (tD M X.mg W0 ea)) (hs : ∀ x, foldedSetIterable iter X.env x = pure x := by intro _; rfl)
    : PE X (.ListComp elt [⟨tg, iter, ifs, 0⟩] scope pos) (tR M X.mg W (eLc (own.map (·.2)) ei g et ea)) := (pe_lc hc hN hi ok hg ht he hs).con fun _ _ _ h => tLc_of h
end
end VQ

namespace VQ
open PySem PySem.Spec PyProof.Rows L2
section
variable {X : Cx} {M : WM X.K} {W : WX} {e a b c iter tg elt : Expr} {es rest : List Expr} {pos : Pos} {ea eb ec : Ev M D} {er : Ev M R} {el ei : Ev M (List D)} {m vs : List Nat}
def eItems {K : PySem.W.Frag} {M : WM K} (f : D → Option (List D)) (ea : Ev M D) : Ev M (List D) := fun ρ s => (ea ρ s).bind fun a => op (f a.1) a.2
theorem it_of {f : D → Option (List D)} {wi : TE → TI} (hp : PI X tg e (wi (tD M X.mg W ea))) (h : ∀ {σ : Sl} {H : Hp} {R : It → Hp → Prop}, (tD M X.mg W ea σ H fun x H1 => ∃ (q : Pt M) (d : D) (l : List D), q.H = H1 ∧ q.Ok ∧ Den X.K q.ad q.Hv d x ∧ f d = some l ∧ ∀ J, Serves J l q → R J H1) → wi (tD M X.mg W ea) σ H R) :
    PI X tg e (tIt M W (eItems f ea)) := hp.con fun σ H R ⟨ρ, p, hH, ok, en, q⟩ => by
  subst hH
  refine h (tG.seq ok en q fun r1 x q1 ex1 ok1 es1 dx h1 => ?_)
  cases z : f r1.1 with
  | none => simp only [op, z] at h1; exact h1.elim
  | some l =>
    simp only [op, z] at h1
    exact ⟨q1, r1.1, l, rfl, ok1, dx, z, fun J sv => h1 J q1 ex1 ok1 es1 sv⟩
theorem sv_list {q : Pt M} {a : Addr} {l : List D} {vs : List V} (h : q.Hv a = some (.lst vs)) (d : DenL X.K q.ad q.Hv l vs) : Serves (Itl X.K a) l q := fun H' sm => by
  have hs : SqL X.K H' a vs := SqL.of (sm _ _ h)
  refine ⟨fun i hi => ⟨vs, hs, by rw [d.length]; exact Nat.le_of_eq hi⟩, fun i y hy => ?_⟩
  obtain ⟨v, h1, h2⟩ := d.get hy
  refine ⟨⟨vs, v, hs, h1⟩, fun x H2 ⟨e, z⟩ => .inl ⟨e, ?_⟩⟩
  have := z vs hs
  rw [h1] at this; cases this
  exact h2
theorem sv_tup {q : Pt M} {a : Addr} {l : List D} {vs : List V} (h : SqT X.K q.Hv a vs) (d : DenL X.K q.ad q.Hv l vs) : Serves (Itt X.K a) l q := fun H' sm => by
  have hs : SqT X.K H' a vs := sqT_same sm h
  refine ⟨fun i hi => ⟨vs, hs, by rw [d.length]; exact Nat.le_of_eq hi⟩, fun i y hy => ?_⟩
  obtain ⟨v, h1, h2⟩ := d.get hy
  refine ⟨⟨vs, v, hs, h1⟩, fun x H2 ⟨e, z⟩ => .inl ⟨e, ?_⟩⟩
  have := z vs hs
  rw [h1] at this; cases this
  exact h2
/-- for i in range(..) -/
def upTo (lo : Int) (n : Nat) : List D := (List.range n).map fun k => .int (lo + (k : Nat))
noncomputable def in62 (i : Int) : Bool := decide (-lk (2 ^ 62) ≤ i) && decide (i < lk (2 ^ 62))
theorem in62_ok {i : Int} (h : in62 i = true) : -(2 ^ 62) ≤ i ∧ i < 2 ^ 62 := by
  unfold in62 at h
  rw [lk_eq, Bool.and_eq_true] at h
  exact ⟨of_decide_eq_true h.1, of_decide_eq_true h.2⟩
noncomputable def rng1 : D → Option (List D)
  | .int j => if in62 j = true then some (upTo 0 j.toNat) else none
  | _ => none
def eI1 {K : PySem.W.Frag} {M : WM K} (f : D → Option (List D)) (ea : Ev M D) : Ev M (List D) := fun ρ s => (ea ρ s).bind fun a => op (f a.1) a.2
def eI2 {K : PySem.W.Frag} {M : WM K} (f : D → D → Option (List D)) (ea eb : Ev M D) : Ev M (List D) := fun ρ s => (ea ρ s).bind fun a => (eb ρ a.2).bind fun b => op (f a.1 b.1) b.2
def eI3 {K : PySem.W.Frag} {M : WM K} (f : D → D → D → Option (List D)) (ea eb ec : Ev M D) : Ev M (List D) := fun ρ s => (ea ρ s).bind fun a => (eb ρ a.2).bind fun b => (ec ρ b.2).bind fun c => op (f a.1 b.1 c.1) c.2
theorem map_get {n : Nat} {f : Nat → D} {i : Nat} {y : D} (h : ((List.range n).map f)[i]? = some y) : i < n ∧ y = f i := by
  rw [List.getElem?_map] at h
  cases z : (List.range n)[i]? with
  | none => rw [z] at h; cases h
  | some c =>
    rw [z] at h; cases h
    obtain ⟨h1, h2⟩ := List.getElem?_eq_some_iff.mp z
    exact ⟨by simpa using h1, by simp at h2; rw [h2]⟩
theorem sv_rng {q : Pt M} {lo : Int} {n : Nat} : Serves (Itr lo n) (upTo lo n) q := fun H' sm => by
  refine ⟨fun i hi => ?_, fun i y hy => ?_⟩
  · show n ≤ i
    simpa [upTo] using Nat.le_of_eq hi
  · obtain ⟨h1, rfl⟩ := map_get hy
    exact ⟨h1, fun x H2 ⟨e, h⟩ => .inl ⟨e, h⟩⟩
theorem it_range1 {p pos : Pos} (hm : X.mg "range" = none) (ha : PE X a (tD M X.mg W ea)) (hg : Gl X "range" := by rfl) (hs : starEach [a] X.env = [(false, eval a X.env)] := by rfl) :
    PI X tg (.Call (.Name "range" p) [a] [] pos) (tIt M W (eI1 rng1 ea)) := (pi_range1 hg hm (pa_cons ha pa_nil hs) hs).con fun σ H R ⟨ρ, p, hH, ok, en, q⟩ => by
  subst hH
  show tD M X.mg W ea σ p.H fun x H1 => ∃ j : Int, [x] = [.int j] ∧ -(2 ^ 62) ≤ j ∧ j < 2 ^ 62 ∧ R (Itr 0 j.toNat) H1
  refine tG.seq ok en q fun r1 x q1 ex1 ok1 es1 dx h1 => ?_
  obtain ⟨d, s1⟩ := r1
  cases z : rng1 d with
  | none => simp only [op, z] at h1; exact h1.elim
  | some items =>
    simp only [op, z] at h1
    cases d <;> first | (cases z; done) | skip
    cases dx
    simp only [rng1] at z
    split at z
    · rename_i hb
      cases z
      exact ⟨_, rfl, (in62_ok hb).1, (in62_ok hb).2, h1 _ q1 ex1 ok1 es1 sv_rng⟩
    · cases z
def zipT : List D → List D → List D
  | a :: r, b :: t => .tup [a, b] :: zipT r t
  | _, _ => []
theorem zipT_get : ∀ (l m : List D) (i : Nat) (y : D), (zipT l m)[i]? = some y → ∃ a b, l[i]? = some a ∧ m[i]? = some b ∧ y = .tup [a, b]
  | [], _, _, _, h => by simp [zipT] at h
  | _ :: _, [], _, _, h => by simp [zipT] at h
  | a :: r, b :: t, 0, y, h => by
    simp only [zipT, List.getElem?_cons_zero, Option.some.injEq] at h
    exact ⟨a, b, rfl, rfl, h.symm⟩
  | a :: r, b :: t, i + 1, y, h => by
    simp only [zipT, List.getElem?_cons_succ] at h
    obtain ⟨a', b', h1, h2, h3⟩ := zipT_get r t i y h
    exact ⟨a', b', by simpa using h1, by simpa using h2, h3⟩
theorem zipT_len : ∀ (l m : List D), (zipT l m).length = min l.length m.length
  | [], _ => by simp [zipT]
  | _ :: _, [] => by simp [zipT]
  | a :: r, b :: t => by simp [zipT, zipT_len r t]
/-- zip of two lists, of two tuples -/
def zipOf : D → D → Option (List D)
  | .lst l, .lst m => some (zipT l m)
  | .tup l, .tup m => some (zipT l m)
  | _, _ => none
theorem it_zip {p pos tpos : Pos} {elts : List Expr} {kk : Nat} (hm : X.mg "zip" = none) (ha : PE X a (tD M X.mg W ea)) (hb : PE X b (tD M X.mg W eb)) (hg : Gl X "zip" := by rfl)
    (hs : starEach [a, b] X.env = (false, eval a X.env) :: starEach [b] X.env := by rfl) (hs2 : starEach [b] X.env = (false, eval b X.env) :: starEach [] X.env := by rfl) (hpl : (backTo pos (starEach [b] X.env)).any (·.1) = false := by rfl) :
    PI X (.Tuple elts kk tpos) (.Call (.Name "zip" p) [a, b] [] pos) (tIt M W (eI2 zipOf ea eb)) := (RZ.pi_zipA hg hm (pa_cons ha (pa_cons hb pa_nil hs2) hs) hs hpl).con fun σ H R ⟨ρ, p, hH, ok, en, q⟩ => by
  subst hH
  show tD M X.mg W ea σ p.H fun x H1 => tD M X.mg W eb σ H1 fun y H2 => ∃ a b xs ys, [x, y] = [.ref a, .ref b] ∧ ((SqL X.K H2 a xs ∧ SqL X.K H2 b ys ∧ R (Itz X.K a b) H2) ∨ (SqT X.K H2 a xs ∧ SqT X.K H2 b ys ∧ R (RZ.ItzT X.K a b) H2))
  refine tG.seq ok en q fun r1 x q1 ex1 ok1 es1 dx h1 => ?_
  rw [← es1] at h1
  refine tG.seq ok1 (en.ext ex1) (XEnds ex1 h1 fun _ h => h) fun r2 y q2 ex2 ok2 es2 dy h2 => ?_
  obtain ⟨d, s1⟩ := r1
  obtain ⟨e, s2⟩ := r2
  have dx2 := ex2.den dx
  cases z : zipOf d e with
  | none => simp only [op, z] at h2; exact h2.elim
  | some items =>
    simp only [op, z] at h2
    cases d <;> first | (cases z; done) | skip
    · cases e <;> first | (cases z; done) | skip
      cases z
      obtain ⟨a, vs, rfl, a1, a2⟩ := dx2
      obtain ⟨b, ws, rfl, b1, b2⟩ := dy
      refine ⟨a, b, vs, ws, rfl, .inr ⟨sqT_H ok2 a1, sqT_H ok2 b1, h2 _ q2 (ex1.trans ex2) ok2 es2 fun H' sm => ?_⟩⟩
      have ha' : SqT X.K H' a vs := sqT_same sm a1
      have hb' : SqT X.K H' b ws := sqT_same sm b1
      refine ⟨fun i hi => ⟨vs, ws, ha', hb', ?_⟩, fun i y hy => ?_⟩
      · rw [zipT_len] at hi; rw [a2.length, b2.length]; omega
      · obtain ⟨d, e, g1, g2, rfl⟩ := zipT_get _ _ _ _ hy
        obtain ⟨v, g3, g4⟩ := a2.get g1
        obtain ⟨w, g5, g6⟩ := b2.get g2
        refine ⟨⟨vs, ws, v, w, ha', hb', g3, g5⟩, fun x H2 ⟨T, x', y', e1, e2, e3, e4, e5⟩ => .inr <| .inl ⟨T, _, _, e2, e1, e3, rfl, ?_⟩⟩
        have t1 := e4 vs ha'
        have t2 := e5 ws hb'
        rw [g3] at t1; cases t1
        rw [g5] at t2; cases t2
        exact ⟨_, _, rfl, g4, DenL.one g6⟩
    · cases e <;> first | (cases z; done) | skip
      cases z
      obtain ⟨a, vs, rfl, a1, a2⟩ := dx2
      obtain ⟨b, ws, rfl, b1, b2⟩ := dy
      refine ⟨a, b, vs, ws, rfl, .inl ⟨SqL.of (ok2.view _ _ a1), SqL.of (ok2.view _ _ b1), h2 _ q2 (ex1.trans ex2) ok2 es2 fun H' sm => ?_⟩⟩
      have ha' : SqL X.K H' a vs := SqL.of (sm _ _ a1)
      have hb' : SqL X.K H' b ws := SqL.of (sm _ _ b1)
      refine ⟨fun i hi => ⟨vs, ws, ha', hb', ?_⟩, fun i y hy => ?_⟩
      · rw [zipT_len] at hi; rw [a2.length, b2.length]; omega
      · obtain ⟨d, e, g1, g2, rfl⟩ := zipT_get _ _ _ _ hy
        obtain ⟨v, g3, g4⟩ := a2.get g1
        obtain ⟨w, g5, g6⟩ := b2.get g2
        refine ⟨⟨vs, ws, v, w, ha', hb', g3, g5⟩, fun x H2 ⟨T, x', y', e1, e2, e3, e4, e5⟩ => .inr <| .inl ⟨T, _, _, e2, e1, e3, rfl, ?_⟩⟩
        have t1 := e4 vs ha'
        have t2 := e5 ws hb'
        rw [g3] at t1; cases t1
        rw [g5] at t2; cases t2
        exact ⟨_, _, rfl, g4, DenL.one g6⟩
end
end VQ

namespace VQ
open PySem PySem.Spec PyProof.Rows L2
/-- the bag at b: its numbers at l, how many are taken, what is left of the last, two numbers more -/
structure BagAt (H : Hp) (b l : Addr) : Prop where
  ne : b ≠ l
  at_ : ∃ (ns : List Int) (c g st k : Int), H b = some (.lst [.ref l, .int c, .int g, .int st, .int k]) ∧ H l = some (.lst (ns.map V.int)) ∧ ns.length ≤ 63 ∧ 0 ≤ c ∧ c ≤ ns.length ∧ 0 ≤ g ∧ 0 ≤ st ∧ st < 2147483629
/-- an inner world: objects beside the bag -/
structure IW (K : PySem.W.Frag) where
  S : Type
  rep : S → (Nat → Option Addr) → (Addr → Prop) → Hp → Hp → Prop
  flat : S → Bool
  stay : ∀ {s ad F Hv Hv' H H'}, rep s ad F Hv H → Same Hv Hv' → (∀ b o, F b → H b = some o → H' b = some o) → rep s ad F Hv' H'
  less : ∀ {s ad F Hv Hv' H}, flat s = true → rep s ad F Hv H → Less Hv Hv' → rep s ad F Hv' H
  nt : ∀ {s ad F Hv H b}, rep s ad F Hv H → F b → ∀ ps, H b ≠ some (.tbl ps)
  lck : ∀ {s ad F Hv Hv' H H'}, rep s ad F Hv H → Lck Hv Hv' → (∀ b o, F b → H b = some o → ∃ o', H' b = some o' ∧ DLk o o') → rep s ad F Hv' H'
/-- the inner world's footprint lies beside the bag -/
structure InnerOk {K : PySem.W.Frag} (I : IW K) (s : I.S) (ad : Nat → Option Addr) (b l : Addr) (F FI : Addr → Prop) (Hv H : Hp) : Prop where
  sub : ∀ x, FI x → F x ∧ x ≠ b ∧ x ≠ l
  rep : I.rep s ad FI Hv H
def bagW (K : PySem.W.Frag) (b l : Addr) (T : List (Addr × Str)) (I : IW K) : WM K where
  S := I.S
  rep := fun s ad F Hv H => ad 0 = some b ∧ F b ∧ F l ∧ (∀ p ∈ T, TabF F H p.1 p.2) ∧ BagAt H b l ∧ (∀ x, F x → ∃ o, H x = some o) ∧ ∃ FI, InnerOk I s ad b l F FI Hv H
  flat := I.flat
  stay := fun {s ad F Hv Hv' H H'} ⟨hb, fb, fl, ht, ⟨ne, ns, c, g, st, k, h2, h3, h4⟩, hd, FI, hi⟩ hs hk => ⟨hb, fb, fl, fun p hp => by
    obtain ⟨o, ps, e1, e2, e3⟩ := ht p hp
    refine ⟨o, ps, hk _ _ o e1, e2, fun pos cv e => ?_⟩
    obtain ⟨c, c1, c2, c3⟩ := e3 pos cv e
    exact ⟨c, c1, hk _ _ c3 c2, c3⟩, ⟨ne, ns, c, g, st, k, hk _ _ fb h2, hk _ _ fl h3, h4⟩, fun x hx => by
    obtain ⟨o, e⟩ := hd x hx
    exact ⟨o, hk _ _ hx e⟩, FI, hi.sub, I.stay hi.rep hs fun x o hx e => hk x o (hi.sub x hx).1 e⟩
  less := fun hf ⟨hb, fb, fl, ht, hB, hd, FI, hi⟩ hl => ⟨hb, fb, fl, ht, hB, hd, FI, hi.sub, I.less hf hi.rep hl⟩
  dom := fun ⟨_, _, _, _, _, hd, _⟩ hx => hd _ hx
  lck := fun {s ad F Hv Hv' H H'} ⟨hb, fb, fl, ht, ⟨ne, ns, c, g, st, k, h2, h3, h4⟩, hd, FI, hi⟩ hs hk => by
    have keep : ∀ b o, F b → H b = some o → ¬ IsDc o → (∀ x u, o = .frz x u → ¬ IsDc u) → H' b = some o := fun b o fb e n n2 => by
      obtain ⟨o', h1, h2⟩ := hk b o fb e
      rw [← h2.eq n n2]; exact h1
    refine ⟨hb, fb, fl, fun p hp => ?_, ⟨ne, ns, c, g, st, k, keep _ _ fb h2 (fun z => z) (fun x u z => by cases z), keep _ _ fl h3 (fun z => z) (fun x u z => by cases z), h4⟩, fun x hx => ?_, FI, hi.sub, I.lck hi.rep hs fun x o hx e => hk x o (hi.sub x hx).1 e⟩
    · obtain ⟨o, ps, e1, e2, e3⟩ := ht p hp
      refine ⟨o, ps, keep _ _ o e1 (fun z => z) (fun x u z => by cases z), e2, fun pos cv e => ?_⟩
      obtain ⟨c, c1, c2, c3⟩ := e3 pos cv e
      exact ⟨c, c1, keep _ _ c3 c2 (fun z => by unfold LamX.CodeO at z; exact z) (fun x u z => by unfold LamX.CodeO at z; cases z), c3⟩
    · obtain ⟨o, e⟩ := hd x hx
      obtain ⟨o', e', _⟩ := hk x o hx e
      exact ⟨o', e'⟩
  T := T
  tabs := fun ⟨_, _, _, ht, _⟩ => ht
  grow := fun {s ad F F' Hv H H'} ⟨hb, fb, fl, ht, ⟨ne, ns, c, g, st, k, h2, h3, h4⟩, hd, FI, hi⟩ hF hk hT hD => ⟨hb, hF _ fb, hF _ fl, hT, ⟨ne, ns, c, g, st, k, hk _ _ fb h2 (fun _ z => by cases z), hk _ _ fl h3 (fun _ z => by cases z), h4⟩, hD, FI, fun x hx => ⟨hF _ (hi.sub x hx).1, (hi.sub x hx).2⟩,
    I.stay hi.rep Same.rfl' fun x o hx e => hk x o (hi.sub x hx).1 e fun ps z => I.nt hi.rep hx ps (by rw [e, z])⟩
/-- a number below n is drawn -/
def pullS {S : Type} : List D → S → G (Exc × S) (R × S)
  | [.obj 0, .int n], s => if 0 < n ∧ n < 1073741824 then .draw n.toNat fun r => .ret (.sh (.int (r : Nat)), s) else .bad
  | _, _ => .bad
section
variable {K : PySem.W.Frag} {b l : Addr} {T : List (Addr × Str)} {I : IW K}
/-- the bag is written -/
theorem bag_write {p : Pt (bagW K b l T I)} (ok : p.Ok) {c g st k : Int} {ns : List Int} (hl : p.H l = some (.lst (ns.map V.int))) (h63 : ns.length ≤ 63) (h1 : 0 ≤ c) (h2 : c ≤ ns.length) (h3 : 0 ≤ g) (h4 : 0 ≤ st) (h5 : st < 2147483629) :
    Ext p ⟨p.s, p.F, p.Hv, upd p.H b (.lst [.ref l, .int c, .int g, .int st, .int k]), p.ad⟩ ∧ (⟨p.s, p.F, p.Hv, upd p.H b (.lst [.ref l, .int c, .int g, .int st, .int k]), p.ad⟩ : Pt (bagW K b l T I)).Ok := by
  obtain ⟨hb, fb, fl, ht, ⟨ne, ns0, c0, g0, st0, k0, e2, e3, e4⟩, hd, FI, hi⟩ := ok.rep
  have nb : p.Hv b = none := ok.off b fb
  refine ⟨⟨Same.rfl', fun x o hx nf => ?_, fun x o hx => .inl ⟨o, hx⟩, fun _ h => .inl h, fun _ _ h => h⟩, ⟨fun x o hx => ?_, ok.off, ⟨hb, fb, fl, fun q hq => ?_, ⟨ne, ns, c, g, st, k, upd_same, ?_, h63, h1, h2, h3, h4, h5⟩, fun x hx => ?_, FI, hi.sub, I.stay hi.rep Same.rfl' fun x o hx e => by
    show upd p.H b _ x = some o
    rw [upd_ne (hi.sub x hx).2.1]; exact e⟩⟩⟩
  · have : x ≠ b := fun z => nf (z ▸ fb)
    show upd p.H b _ x = some o
    rw [upd_ne this]; exact hx
  · have : x ≠ b := fun z => by rw [z, nb] at hx; cases hx
    show upd p.H b _ x = some o
    rw [upd_ne this]; exact ok.view _ _ hx
  · obtain ⟨o, ps, a1, a2, a3⟩ := ht q hq
    have n1 : q.1 ≠ b := ne_of a1 e2 (by intro z; cases z)
    refine ⟨o, ps, by show upd p.H b _ _ = _; rw [upd_ne n1]; exact a1, a2, fun pos cv e => ?_⟩
    obtain ⟨c, c1, c2, c3⟩ := a3 pos cv e
    have n2 : c ≠ b := ne_of c2 e2 (by intro z; unfold LamX.CodeO at z; cases z)
    exact ⟨c, c1, by show upd p.H b _ _ = _; rw [upd_ne n2]; exact c2, c3⟩
  · show upd p.H b _ l = _
    rw [upd_ne (Ne.symm ne)]; exact hl
  · by_cases z : x = b
    · exact ⟨_, by rw [z]; exact upd_same⟩
    · obtain ⟨o, e⟩ := hd x hx
      exact ⟨o, by show upd p.H b _ x = _; rw [upd_ne z]; exact e⟩
theorem ix5_0 (l c g st k : V) : atI [l, c, g, st, k] 0 = some l := rfl
theorem ix5_1 (l c g st k : V) : atI [l, c, g, st, k] 1 = some c := rfl
theorem ix5_2 (l c g st k : V) : atI [l, c, g, st, k] 2 = some g := rfl
theorem ix5_3 (l c g st k : V) : atI [l, c, g, st, k] 3 = some st := rfl
theorem ix5_4 (l c g st k : V) : atI [l, c, g, st, k] 4 = some k := rfl
end
end VQ
namespace VQ
open PySem PySem.Spec PyProof.Rows L2
section
variable (K : PySem.W.Frag)
def pIt (i : Int) : TE := tOp (rIxL K) (tVar 0) (tC (.int i))
def pLt (a b : TE) : TT := tTest (tOp (rI0 fun i j => .bl (decide (i < j))) a b)
def pGe (a b : TE) : TT := tTest (tOp (rI0 fun i j => .bl (decide (j ≤ i))) a b)
def pAdd (a b : TE) : TE := tOp (rI0 fun i j => .int (i + j)) a b
def pSub (a b : TE) : TE := tOp (rI0 fun i j => .int (i - j)) a b
def pMul (a b : TE) : TE := tOp (rI CMul fun i j => .int (i * j)) a b
def pMod (a b : TE) : TE := tOp (rI (fun _ j => 0 < j) fun i j => .int (i % j)) a b
def pDiv (a b : TE) : TE := tOp (rI CDiv fun i j => .int (i / j)) a b
def pPow (a b : TE) : TE := tOp (rI CPow fun i j => .int (i ^ j.toNat)) a b
def pSet (e : TE) (i : Int) : TS := tAsg e (gSub (tVar 0) (tC (.int i)) rSetL)
def pI (i : Int) : TE := tC (.int i)
def pBig : TE := pPow (pI 10) (pI 18)
def tPull3 : TS := tRet (pMod (pDiv (pIt K 3) (pI 19)) (tVar 1))
def tPull2 : TS := tSeq (tIfS (pGe (pIt K 2) (tVar 1))
        (tSeq (tAsg (pMod (pIt K 2) (tVar 1)) (gName 3))
          (tSeq (pSet (pDiv (pIt K 2) (tVar 1)) 2)
            (tRet (tVar 3)))) tNext)
      (tSeq (pSet (pAdd (pIt K 4) (pI 1)) 4)
        (tSeq (pSet (pMod (pAdd (pAdd (pAdd (pPow (pIt K 3) (pI 3)) (pMul (pI 40507) (pIt K 4))) (pDiv (pIt K 3) (pI 101))) (pI 7)) (pI 2147483629)) 3)
          (tPull3 K)))
def tPull1 : TS := pSet (pMod (pAdd (pAdd (pMul (pIt K 3) (pI 69069)) (pMul (tVar 2) (pI 5))) (pIt K 1)) (pI 2147483629)) 3
def tPull0 : TS := tSeq (pSet (tIf (pGe (tVar 2) pBig) (pSub (tVar 2) pBig) (pI 0)) 2) (tPull1 K)
def tPull : TS :=
  tSeq (tIfS (tAnd (pLt (pIt K 2) (tVar 1)) (pLt (pIt K 1) (tCB (fun xs H Q => ∃ x n, xs = [x] ∧ LenV K x H n ∧ Q (.int n) H) (tCons (pIt K 0) tNil))))
      (tSeq (tAsg (tOp (rIxL K) (pIt K 0) (pIt K 1)) (gName 2))
        (tSeq (pSet (pAdd (pIt K 1) (pI 1)) 1) (tPull0 K))) tNext)
    (tPull2 K)
end
section
variable {K : PySem.W.Frag} {b l : Addr} {T : List (Addr × Str)} {I : IW K}
theorem r_it {σ : Sl} {H : Hp} {Q : VK} {i : Int} {xs : List V} {v : V} (h0 : σ[0]? = some (some (.ref b))) (hb : H b = some (.lst xs)) (hi : atI xs i = some v) (h : Q v H) : pIt K i σ H Q :=
  ⟨.ref b, h0, b, xs, i, v, rfl, rfl, SqL.of hb, hi, h⟩
def bagL (l : Addr) (c g st k : Int) : List V := [.ref l, .int c, .int g, .int st, .int k]
/-- what a state of the bag asks -/
structure BagIn (q : Pt (bagW K b l T I)) (ns : List Int) (c g st k : Int) : Prop where
  ok : q.Ok
  hb : q.H b = some (.lst (bagL l c g st k))
  hl : q.H l = some (.lst (ns.map V.int))
  h63 : ns.length ≤ 63
  c0 : 0 ≤ c
  c1 : c ≤ ns.length
  g0 : 0 ≤ g
  s0 : 0 ≤ st
  s1 : st < 2147483629
theorem BagIn.put {q : Pt (bagW K b l T I)} {ns : List Int} {c g st k c' g' st' k' : Int} (h : BagIn q ns c g st k) (h1 : 0 ≤ c') (h2 : c' ≤ ns.length) (h3 : 0 ≤ g') (h4 : 0 ≤ st') (h5 : st' < 2147483629) :
    ∃ q' : Pt (bagW K b l T I), q'.H = upd q.H b (.lst (bagL l c' g' st' k')) ∧ Ext q q' ∧ BagIn q' ns c' g' st' k' ∧ q'.s = q.s := by
  obtain ⟨e, o⟩ := bag_write h.ok (k := k') h.hl h.h63 h1 h2 h3 h4 h5
  refine ⟨_, rfl, e, ⟨o, upd_same, ?_, h.h63, h1, h2, h3, h4, h5⟩, rfl⟩
  show upd q.H b _ l = _
  obtain ⟨_, _, _, _, ⟨ne, _⟩, _⟩ := h.ok.rep
  rw [upd_ne (Ne.symm ne)]; exact h.hl
theorem pull_tail {p q : Pt (bagW K b l T I)} (e : Ext p q) (hs : q.s = p.s) {ns : List Int} {c g st k n : Int} (B : BagIn q ns c g st k) (hn : 0 < n) (hn2 : n < 1073741824) {Q : VK} {nx : Sl → Hp → Prop} {x y : Option V}
    (h : ∀ (r : Nat) (q : Pt (bagW K b l T I)), r < n.toNat → Ext p q → q.Ok → q.s = p.s → Q (.int (r : Nat)) q.H) : tPull2 K { nx := nx, rt := Q } [some (.ref b), some (.int n), x, y] q.H := by
  refine r_it rfl B.hb (ix5_2 _ _ _ _ _) ⟨_, rfl, g, n, rfl, rfl, _, rfl, ?_⟩
  by_cases hc : n ≤ g
  · rw [decide_eq_true hc]
    refine iteT ?_
    refine r_it rfl B.hb (ix5_2 _ _ _ _ _) ⟨_, rfl, g, n, rfl, rfl, hn, ?_⟩
    refine r_it rfl B.hb (ix5_2 _ _ _ _ _) ⟨_, rfl, g, n, rfl, rfl, ⟨hn, hn2⟩, .ref b, rfl, b, bagL l c g st k, 2, 2, rfl, rfl, B.hb, rfl, ?_⟩
    have hd : 0 ≤ g / n := Int.ediv_nonneg B.g0 (by omega)
    obtain ⟨q', eH, e', B', s'⟩ := B.put (k' := k) B.c0 B.c1 hd B.s0 B.s1
    have m0 := Int.emod_nonneg g (show n ≠ 0 by omega)
    have m1 := Int.emod_lt_of_pos g hn
    refine ⟨_, rfl, ?_⟩
    have hq := h (g % n).toNat q' (by omega) (e.trans e') B'.ok (s'.trans hs)
    rw [eH] at hq
    have e1 : (((g % n).toNat : Nat) : Int) = g % n := by omega
    rw [e1] at hq
    exact hq
  · rw [decide_eq_false hc]
    refine iteF ?_
    refine r_it rfl B.hb (ix5_4 _ _ _ _ _) ⟨k, 1, rfl, rfl, .ref b, rfl, b, bagL l c g st k, 4, 4, rfl, rfl, B.hb, rfl, ?_⟩
    obtain ⟨q1, eH1, e1, B1, s1'⟩ := B.put (k' := k + 1) B.c0 B.c1 B.g0 B.s0 B.s1
    refine Eq.subst (motive := fun Hx => (tSeq (pSet (pMod (pAdd (pAdd (pAdd (pPow (pIt K 3) (pI 3)) (pMul (pI 40507) (pIt K 4))) (pDiv (pIt K 3) (pI 101))) (pI 7)) (pI 2147483629)) 3) (tPull3 K)) { nx := nx, rt := Q } [some (.ref b), some (.int n), x, y] Hx) eH1 ?_
    refine r_it rfl B1.hb (ix5_3 _ _ _ _ _) ⟨st, 3, rfl, rfl, ⟨by decide, by decide, by have := B.s0; have := B.s1; omega⟩, ?_⟩
    refine r_it rfl B1.hb (ix5_4 _ _ _ _ _) ⟨40507, k + 1, rfl, rfl, .inl ⟨by decide, by decide⟩, _, _, rfl, rfl, ?_⟩
    obtain ⟨z, hz⟩ : ∃ z : Int, z = (st ^ (3 : Int).toNat + 40507 * (k + 1) + st / 101 + 7) % 2147483629 := ⟨_, rfl⟩
    have z0 : 0 ≤ z := by rw [hz]; exact Int.emod_nonneg _ (by decide)
    have z1 : z < 2147483629 := by rw [hz]; exact Int.emod_lt_of_pos _ (by decide)
    obtain ⟨q2, eH2, e2, B2, s2'⟩ := B1.put (st' := z) (k' := k + 1) B1.c0 B1.c1 B1.g0 z0 z1
    rw [hz] at eH2
    refine r_it rfl B1.hb (ix5_3 _ _ _ _ _) ⟨st, 101, rfl, rfl, ⟨by decide, by decide⟩, _, _, rfl, rfl, _, _, rfl, rfl, _, _, rfl, rfl, (by show (0 : Int) < 2147483629; decide), .ref b, rfl, b, bagL l c g st (k + 1), 3, 3, rfl, rfl, B1.hb, rfl, ?_⟩
    refine Eq.subst (motive := fun Hx => (tPull3 K) { nx := nx, rt := Q } [some (.ref b), some (.int n), x, y] Hx) eH2 ?_
    refine r_it rfl B2.hb (ix5_3 _ _ _ _ _) ⟨z, 19, rfl, rfl, ⟨by decide, by decide⟩, _, rfl, _, n, rfl, rfl, hn, ?_⟩
    have m0 := Int.emod_nonneg (z / 19) (show n ≠ 0 by omega)
    have m1 := Int.emod_lt_of_pos (z / 19) hn
    have hq := h (z / 19 % n).toNat q2 (by omega) ((e.trans e1).trans e2) B2.ok (s2'.trans (s1'.trans hs))
    have e3 : (((z / 19 % n).toNat : Nat) : Int) = z / 19 % n := by omega
    rw [e3] at hq
    exact hq
theorem pull_read {p : Pt (bagW K b l T I)} (ok : p.Ok) {n : Int} (hn : 0 < n) (hn2 : n < 1073741824) {Q : VK} {nx : Sl → Hp → Prop}
    (h : ∀ (r : Nat) (q : Pt (bagW K b l T I)), r < n.toNat → Ext p q → q.Ok → q.s = p.s → Q (.int (r : Nat)) q.H) : tPull K { nx := nx, rt := Q } [some (.ref b), some (.int n), none, none] p.H := by
  obtain ⟨_, fb, fl, ht, ⟨ne, ns, c, g, st, k, e2, e3, h63, c0, c1, g0, s0, s1⟩, hd, _⟩ := ok.rep
  have B : BagIn p ns c g st k := ⟨ok, e2, e3, h63, c0, c1, g0, s0, s1⟩
  refine r_it rfl B.hb (ix5_2 _ _ _ _ _) ⟨_, rfl, g, n, rfl, rfl, _, rfl, ?_⟩
  by_cases hc : g < n
  · rw [decide_eq_true hc]
    refine iteT ?_
    refine r_it rfl B.hb (ix5_1 _ _ _ _ _) ?_
    refine r_it rfl B.hb (ix5_0 _ _ _ _ _) ⟨.ref l, ns.length, rfl, .inl ⟨ns.map V.int, SqL.of B.hl, by simp⟩, c, ns.length, rfl, rfl, _, rfl, ?_⟩
    by_cases hc2 : c < ns.length
    · rw [decide_eq_true hc2]
      refine iteT ?_
      obtain ⟨cell, hcell⟩ : ∃ cell, ns[c.toNat]? = some cell := ⟨ns[c.toNat]'(by omega), by simp⟩
      have hat : atI (ns.map V.int) c = some (V.int cell) := by
        have : atI (ns.map V.int) ((c.toNat : Nat) : Int) = some (V.int cell) := atI_nat (by rw [List.getElem?_map, hcell]; rfl)
        rwa [show ((c.toNat : Nat) : Int) = c by omega] at this
      refine r_it rfl B.hb (ix5_0 _ _ _ _ _) ?_
      refine r_it rfl B.hb (ix5_1 _ _ _ _ _) ⟨l, _, c, _, rfl, rfl, SqL.of B.hl, hat, ?_⟩
      refine r_it rfl B.hb (ix5_1 _ _ _ _ _) ⟨c, 1, rfl, rfl, .ref b, rfl, b, bagL l c g st k, 1, 1, rfl, rfl, B.hb, rfl, ?_⟩
      obtain ⟨q1, eH1, e1, B1, s1'⟩ := B.put (c' := c + 1) (k' := k) (by omega) (by omega) B.g0 B.s0 B.s1
      refine Eq.subst (motive := fun Hx => (tPull0 K) { nx := (tPull2 K) { nx := nx, rt := Q }, rt := Q } [some (.ref b), some (.int n), some (.int cell), none] Hx) eH1 ?_
      -- the item's rest
      have rest : ∀ g' : Int, 0 ≤ g' → ∀ q2 : Pt (bagW K b l T I), Ext p q2 → q2.s = p.s → BagIn q2 ns (c + 1) g' st k → (tPull1 K) { nx := (tPull2 K) { nx := nx, rt := Q }, rt := Q } [some (.ref b), some (.int n), some (.int cell), none] q2.H := fun g' hg' q2 e2 hs2 B2 => by
        refine r_it rfl B2.hb (ix5_3 _ _ _ _ _) ⟨st, 69069, rfl, rfl, .inr ⟨by decide, by decide⟩, _, rfl, cell, 5, rfl, rfl, .inr ⟨by decide, by decide⟩, _, _, rfl, rfl, ?_⟩
        obtain ⟨z, hz⟩ : ∃ z : Int, z = (st * 69069 + cell * 5 + (c + 1)) % 2147483629 := ⟨_, rfl⟩
        have z0 : 0 ≤ z := by rw [hz]; exact Int.emod_nonneg _ (by decide)
        have z1 : z < 2147483629 := by rw [hz]; exact Int.emod_lt_of_pos _ (by decide)
        obtain ⟨q3, eH3, e3, B3, s3'⟩ := B2.put (st' := z) (k' := k) B2.c0 B2.c1 B2.g0 z0 z1
        rw [hz] at eH3
        refine r_it rfl B2.hb (ix5_1 _ _ _ _ _) ⟨_, _, rfl, rfl, _, _, rfl, rfl, (by show (0 : Int) < 2147483629; decide), .ref b, rfl, b, bagL l (c + 1) g' st k, 3, 3, rfl, rfl, B2.hb, rfl, ?_⟩
        refine Eq.subst (motive := fun Hx => (tPull2 K) { nx := nx, rt := Q } [some (.ref b), some (.int n), some (.int cell), none] Hx) eH3 ?_
        exact pull_tail (e2.trans e3) (s3'.trans hs2) B3 hn hn2 h
      refine ⟨_, rfl, 10, 18, rfl, rfl, ⟨by decide, by decide, by decide⟩, cell, _, rfl, rfl, _, rfl, ?_⟩
      by_cases hbig : (10 : Int) ^ (18 : Int).toNat ≤ cell
      · rw [decide_eq_true hbig]
        refine iteT ?_
        obtain ⟨q2, eH2, e2, B2, s2'⟩ := B1.put (g' := cell - 10 ^ (18 : Int).toNat) (k' := k) B1.c0 B1.c1 (by omega) B1.s0 B1.s1
        refine ⟨_, rfl, 10, 18, rfl, rfl, ⟨by decide, by decide, by decide⟩, cell, _, rfl, rfl, .ref b, rfl, b, bagL l (c + 1) g st k, 2, 2, rfl, rfl, B1.hb, rfl, ?_⟩
        refine Eq.subst (motive := fun Hx => (tPull1 K) { nx := (tPull2 K) { nx := nx, rt := Q }, rt := Q } [some (.ref b), some (.int n), some (.int cell), none] Hx) eH2 ?_
        exact rest _ (by omega) q2 (e1.trans e2) (s2'.trans s1') B2
      · rw [decide_eq_false hbig]
        refine iteF ?_
        obtain ⟨q2, eH2, e2, B2, s2'⟩ := B1.put (g' := 0) (k' := k) B1.c0 B1.c1 (by omega) B1.s0 B1.s1
        refine ⟨.ref b, rfl, b, bagL l (c + 1) g st k, 2, 2, rfl, rfl, B1.hb, rfl, ?_⟩
        refine Eq.subst (motive := fun Hx => (tPull1 K) { nx := (tPull2 K) { nx := nx, rt := Q }, rt := Q } [some (.ref b), some (.int n), some (.int cell), none] Hx) eH2 ?_
        exact rest _ (by omega) q2 (e1.trans e2) (s2'.trans s1') B2
    · rw [decide_eq_false hc2]
      refine iteF ?_
      exact pull_tail (Ext.refl p) rfl B hn hn2 h
  · rw [decide_eq_false hc]
    refine iteF ?_
    exact pull_tail (Ext.refl p) rfl B hn hn2 h
end
end VQ

namespace VQ
open PySem PySem.Spec PyProof.Rows L2
/-- the def f of the class at C, read off C -/
structure CFn (K : PySem.W.Frag) (C : Addr) (mc : Value) (m : Str) (f : Addr) : Prop where
  rd : ClX.CRead K C mc
  at_ : PySem.W.findCls K (.ref C) mc m = some (.val (.ref f))
  kp : PySem.W.keepIn K (.ref f) = true
theorem pe_clscall {X : Cx} {CX : CXT} {k : Nat} {C f : Addr} {mc : Value} {fd : FuncData} {ps : List Str} {sp : Sp} {E : XK} {x m : Str} {p apos pos : Pos} {e : Expr} {es : List Expr} {t : TA} {pl : Sem Bool} (r : CFn X.K C mc m f) (hg : Gl X x) (hm : X.mg x = some (.ref C))
    (F : FnOk X.prog X.w X.K X.mg X.base CX k f fd ps sp) (hr : Room k X.A) (hb : L2.Binds X.K fd ps []) (hx : Passes CX X E) (ha : PA X (e :: es) t) (hdb : (x == ("__debug__" : Str)) = false := by decide)
    (hst : starEach (e :: es) X.env = (false, eval e X.env) :: starEach es X.env := by rfl) (hpl : (backTo pos (starEach es X.env)).any (·.1) = false := by rfl)
    (ht : eval (.Call (.Attribute (.Name x p) m apos) (e :: es) [] pos) X.env = (do
      let ov ← eval (.Name x p) X.env
      standAt apos.atName
      let (f, first) ← holding [ov] (getMethod ov m pl)
      callWith pos f first (backTo pos (starEach (e :: es) X.env)) (backToKw pos (keywordEach [] X.env))) := by rfl) :
    PE X (.Call (.Attribute (.Name x p) m apos) (e :: es) [] pos) (tCall sp [] E t) := by
  refine ⟨fun pins s σ H Q I h => ?_⟩
  refine PySem.W.methodCall_KW (pl := pl) (ld_glob I hg hm ?_ hdb) ht
  refine PySem.W.method_cls I.kIn r.rd.ga (PySem.W.cls_value I.kIn r.rd.rd r.at_ (handed_of (v := .ref f) rfl) ?_)
  exact PySem.W.callWith_K (first := []) (h₀ := X.base) I.ok.mod.kin r.kp (thn (ha.run pos pins _ σ H _ (I.tok _) h) fun us s2 ⟨vs, H2, I2, r2, q2⟩ => ⟨I2.kIn, run_fn (us := us) (vs := vs) F hr hb .nil hx I2 r2 q2⟩) hst hpl
/-- the fields: an argument, or a text -/
abbrev FSpec := List (Str × (Nat ⊕ List Nat))
def fV (ys : List V) (p : Str × (Nat ⊕ List Nat)) : Str × V := (p.1, match p.2 with
  | .inl i => (ys[i]?).getD .non
  | .inr s => .str ⟨s.toArray⟩)
def fD (ys : List D) (p : Str × (Nat ⊕ List Nat)) : Str × D := (p.1, match p.2 with
  | .inl i => (ys[i]?).getD .non
  | .inr s => .str s)
theorem fD_den {K : PySem.W.Frag} {ad : Nat → Option Addr} {Hv : Hp} {ds : List D} {vs : List V} (h : DenL K ad Hv ds vs) : ∀ (fl : FSpec) (f : Str) (y : D), (fl.map (fD ds)).lookup f = some y → ∃ v, (fl.map (fV vs)).lookup f = some v ∧ Den K ad Hv y v
  | [], _, _, e => by cases e
  | (g, k) :: fl, f, y, e => by
    rw [List.map_cons] at e ⊢
    have e' : (match f == g with | true => some (fD ds (g, k)).2 | false => (fl.map (fD ds)).lookup f) = some y := e
    show ∃ v, (match f == g with | true => some (fV vs (g, k)).2 | false => (fl.map (fV vs)).lookup f) = some v ∧ _
    cases z : f == g with
    | false => rw [z] at e'; exact fD_den h fl f y e'
    | true =>
      rw [z] at e'
      refine ⟨_, rfl, ?_⟩
      obtain rfl : (fD ds (g, k)).2 = y := Option.some.inj e'
      cases k with
      | inr s => exact rfl
      | inl i =>
        show Den K ad Hv ((ds[i]?).getD .non) ((vs[i]?).getD .non)
        cases q : ds[i]? with
        | some d =>
          obtain ⟨v, h1, h2⟩ := h.get q
          rw [h1]; exact h2
        | none =>
          have : vs[i]? = none := by
            have := h.length
            simp only [List.getElem?_eq_none_iff] at q ⊢
            omega
          rw [this]; exact rfl
/-- an __init__ keeps: the fields of a new exception of the class at C -/
def spI (C : Addr) (n : Nat) (fl : FSpec) : Sp := fun vs H Q _ => ∃ a ys, vs = .ref a :: ys ∧ ys.length = n ∧ H a = some (exo a C none) ∧ ∀ dx, H dx = none → dx ≠ a → Q .non (upd (upd H dx (exd dx (fl.map (fV ys)))) a (exo a C (some dx)))
/-- the __init__ of a class above: of any class C -/
def spA (K : PySem.W.Frag) (ns : List Str) (n : Nat) (fl : FSpec) : Sp := fun vs H Q _ => ∃ a C ys, vs = .ref a :: ys ∧ ys.length = n ∧ OexC K C ∧ (∀ f ∈ ns, PySem.W.findIn K (.ref C) f = some none) ∧ H a = some (exo a C none) ∧
  ∀ dx, H dx = none → dx ≠ a → Q .non (upd (upd H dx (exd dx (fl.map (fV ys)))) a (exo a C (some dx)))
theorem mk_heap {H : Hp} {a d : Addr} {o1 o2 o3 o4 : HO} (ha : H a = none) (hd : d ≠ a) : upd (del (upd (upd (upd H a o1) d o2) a o3) a) d o4 = upd H d o4 := by
  funext b
  by_cases h1 : b = d
  · rw [h1, upd_same, upd_same]
  · rw [upd_ne h1, upd_ne h1]
    by_cases h2 : b = a
    · rw [h2, del_same, ha]
    · rw [del_ne h2, upd_ne h2, upd_ne h1, upd_ne h2]
section
variable {X : Cx}
/-- the class at C called: its own __init__ keeps sp -/
theorem mk_core {CX : CXT} {pins : List (Addr × Obj)} {σ : L2.St} {H1 : Hp} {s1 : Shared} {C fI : Addr} {k : Nat} {fd : FuncData} {ps : List Str} {n : Nat} {fl : FSpec} {vs : List V} {us : List Value} {Q : XK} (T : OexC X.K C)
    (iC : PySem.W.findIn X.K (.ref C) "__init__" = some (some (.ref fI))) (tI : PySem.W.typeIn X.K (.ref fI) = some (.type "function"))
    (F1 : FnOk X.prog X.w X.K X.mg X.base CX k fI fd ps (spI C n fl)) (hr : Room (k + 1) X.A) (hb : L2.Binds X.K fd ps []) (hx : Passes CX X (fun _ _ _ => False)) (I1 : L2.Inv X pins σ H1 s1) (r1 : Vals vs us) (hn : vs.length = n) (hz : n ≤ 1000)
    (q : ∀ d, H1 d = none → Q (.ref C) (some d) (upd H1 d (.xd (fl.map (fV vs))))) : wpAny (model X.prog X.w) X.A (call (.ref C) us) (MkP X pins σ Q) X.xe s1 := by
  obtain ⟨nm, q0, N, bs, bm, sn, sub, ab, col, dd, k0, k1, k2, k3, k5, hC, hbm⟩ := T.cls
  obtain ⟨hp, g, dr, tk, os⟩ := s1
  have hsz : hp.objs.size ≤ hp.objs.size + 1 := Nat.le_succ _
  have hno : H1 (hp.objs.size + 1) = none := I1.hok.fresh hsz
  have kk : ∀ b o, hp.get? b = some o → ((hp.push (PySem.W.kdv_tup us)).push (PySem.HandSPX.excO C hp.objs.size)).get? b = some o := fun b o e => Heap.get?_push_of_some _ (Heap.get?_push_of_some _ e)
  have hget : ((hp.push (PySem.W.kdv_tup us)).push (PySem.HandSPX.excO C hp.objs.size)).get? (hp.objs.size + 1) = some (PySem.HandSPX.excO C hp.objs.size) := by heap_get
  have I2 : L2.Inv X pins σ (upd H1 (hp.objs.size + 1) (exo (hp.objs.size + 1) C none)) ⟨(hp.push (PySem.W.kdv_tup us)).push (PySem.HandSPX.excO C hp.objs.size), g, dr, tk, os⟩ :=
    I1.laid (t' := tk) (a := hp.objs.size + 1) (o := exo (hp.objs.size + 1) C none) (h' := (hp.push (PySem.W.kdv_tup us)).push (PySem.HandSPX.excO C hp.objs.size)) kk hsz (exo_ok hget)
  have r2 : Vals (V.ref (hp.objs.size + 1) :: vs) (Value.ref (hp.objs.size + 1) :: us) := .cons rfl r1
  have hq : spI C n fl (V.ref (hp.objs.size + 1) :: vs) (upd H1 (hp.objs.size + 1) (exo (hp.objs.size + 1) C none))
      (fun v H2 => v = .non ∧ ∃ (d : Addr) (fs : List (Str × V)), H2 (hp.objs.size + 1) = some (exo (hp.objs.size + 1) C (some d)) ∧ H2 d = some (exd d fs) ∧ H1 d = none ∧ Q (.ref C) (some d) (upd (del H2 (hp.objs.size + 1)) d (.xd fs))) (fun _ _ _ => False) := by
    refine ⟨_, vs, rfl, hn, upd_same, fun dx hdx ne => ⟨rfl, dx, fl.map (fV vs), upd_same, ?_, ?_, ?_⟩⟩
    · rw [upd_ne ne, upd_same]
    · rw [upd_ne ne] at hdx; exact hdx
    · rw [mk_heap hno ne]
      rw [upd_ne ne] at hdx
      exact q dx hdx
  have hl : (Value.ref (hp.objs.size + 1) :: us ++ []).length = ps.length := by
    have e := r2.length
    rw [F1.len _ _ _ _ hq] at e
    rw [List.append_nil]
    exact e.symm
  have hus : us.length ≤ sizeLine := by
    have := Paired.length r1
    rw [sizeLine_eq]
    omega
  have b2 := hb _ (Value.ref (hp.objs.size + 1) :: us) I2.kIn hl
  rw [List.append_nil] at b2
  refine wpAny_call (PySem.HandSPX.call_own F.excBase_ValueError (fun Y => PySem.HandSPX.refsVE_contains Y bm hbm) (I1.kIn _ _ hC) (PySem.W.looks_findIn I1.kIn iC) (fun self => PySem.W.bind_fn I1.kIn self tI) hus
    (codeAny_mono (F1.run _ X.stack _ _ ⟨Value.ref (hp.objs.size + 1) :: us, []⟩ (Value.ref (hp.objs.size + 1) :: us) _ _ (fun _ _ _ => False) (hr.make C us []) (I2.env0.make C us []) b2 r2 hq) fun r s' hq' => ?_))
  cases r with
  | error er => exact hx pins σ _ _ er s' I2 hq'
  | ok fl =>
    cases fl with
    | ret u =>
      obtain ⟨v, H2, os2, bare2, un2, hok2, rv, ev, d, fs, ea, ed, hd1, q2⟩ := hq'
      subst ev
      obtain ⟨h2, g2, d2, t2, os'⟩ := s'
      exact ⟨rv, mk_end (raises_own T.exC T.tyC) I1 hsz kk un2 hok2 os2 bare2 ea ed hd1 q2⟩
    | next => exact False.elim hq'
    | brk => exact False.elim hq'
    | cont => exact False.elim hq'
/-- what a class of exceptions keeps: x is its name, n the count of its arguments -/
structure XcOk (P : Program) (w : World) (K : PySem.W.Frag) (mg : Str → Option Value) (base : Heap) (k : Nat) (x : Str) (n : Nat) (fl : FSpec) : Prop where
  ex : ∃ C fI fd ps, OexC K C ∧ PySem.W.findIn K (.ref C) "__init__" = some (some (.ref fI)) ∧ PySem.W.typeIn K (.ref fI) = some (.type "function") ∧ FnOk P w K mg base (CX P w) k fI fd ps (spI C n fl) ∧ L2.Binds K fd ps [] ∧ mg x = some (.ref C)
theorem pmk_0 {k n : Nat} {fl : FSpec} {x : Str} {p pos : Pos} {W : WX} (h : XcOk X.prog X.w X.K X.mg X.base k x n fl) (hn : n = 0) {j : Nat} (hr : Room j X.A) (tk : Takes X W) (hj : k + 1 ≤ j) (hg : Gl X x) (hdb : (x == ("__debug__" : Str)) = false := by decide) :
    PMk X (.Call (.Name x p) [] [] pos) (fun _ H1 Q => ∃ C, X.mg x = some (.ref C) ∧ ∀ d, H1 d = none → Q (.ref C) (some d) (upd H1 d (.xd (fl.map (fV []))))) := by
  intro pins s σ H Q I hq
  obtain ⟨C, fI, fd, ps, T, iC, tI, F1, hb, hm⟩ := h.ex
  obtain ⟨C', hm', hq⟩ := hq
  rw [hm] at hm'; cases hm'
  refine wpAny_Call_Name_kw (ld_glob I hg hm ?_ hdb)
  refine PySem.W.callWith_K0 I.kIn T.kC ?_
  show wpAny _ _ (call (.ref C) []) _ _ _
  exact mk_core T iC tI F1 (hr.mono hj) hb (passes_call tk fun _ _ _ _ h => h.elim) I .nil hn.symm (by omega) hq
end
section
variable {K : PySem.W.Frag} {M : WM K}
theorem rel_hid {en p : Pt M} {ρ : Nv} {σ : Sl} (h : Rel en ρ σ p) {a : Addr} {o : HO} (e : p.H a = none) : Rel en ρ σ (p.hid a o) where
  ok := ok_hid h.ok e
  ext := h.ext.trans (ext_hid e)
  len := h.len
  sh := fun i d q => h.sh i d q
  ow := fun i d q => by
    obtain ⟨b, u, h1, h2, h3, h4, h5, h6⟩ := h.ow i d q
    exact ⟨b, u, h1, by show upd p.H a o b = _; rw [upd_ne (ne_of_none h2 e)]; exact h2, h3, h4, h5, h6⟩
  dis := h.dis
/-- raise x(e, ..) -/
def sRaise (x : Str) (n : Nat) (fl : FSpec) (m : List Nat) (el : Ev M (List D)) : Sv M := fun ρ s => (inF m el ρ s).bind fun r => if r.1.length = n then .exc (⟨x, fl.map (fD r.1)⟩, frz m ρ, r.2) else .bad
end
section
variable {X : Cx} {M : WM X.K} {W : WX} {el : Ev M (List D)}
theorem ss_raise0 {k n : Nat} {fl : FSpec} {x : Str} {p p1 pos : Pos} (h : XcOk X.prog X.w X.K X.mg X.base k x n fl) {j : Nat} (hr : Room j X.A) (tk : Takes X W) (hn : n = 0 := by rfl) (hj : k + 1 ≤ j := by decide) (hg : Gl X x := by rfl) (hc : X.calm = true := by rfl) (hdb : (x == ("__debug__" : Str)) = false := by decide) :
    PS X (.Raise (some (.Call (.Name x p) [] [] p1)) none pos) (tS M X.mg W (sRaise x n fl [] eNil)) := (ps_raise hc tk (pmk_0 h hn hr tk hj hg hdb)).con fun Dd σ H ⟨en, ρ, q, hH, rl, hq⟩ => by
  subst hH
  obtain ⟨C, fI, fd, ps, T, iC, tI, F1, hb, hm⟩ := h.ex
  refine ⟨C, hm, fun d hd => ?_⟩
  subst hn
  have hq' : XSEnd M X.mg en W (⟨x, fl.map (fD [])⟩, frz [] ρ, q.s) := hq
  refine hq' (.ref C) (some d) σ (q.hid d (.xd (fl.map (fV [])))) ?_ rfl ⟨hm, d, _, rfl, upd_same, rl.ok.fn hd, fun f y hl => ?_⟩
  · rw [frz_nil]; exact rel_hid rl hd
  · exact fD_den (ds := []) (vs := []) DenL.nil fl f y hl
end
end VQ

namespace VQ
open PySem PySem.Spec PyProof.Rows L2
theorem fly_keep {B h h' : Heap} {l : List Env} {a : Addr} {Z : Obj → Prop} (k : ∀ b o, h.get? b = some o → h'.get? b = some o) (x : HandSPX.FlyingZ B l a Z h) : HandSPX.FlyingZ B l a Z h' := by
  obtain ⟨h1, h2, h3, oe, vs, T, oT, ts, e1, e2, e3, e4, e5, e6, e7, e8, e9⟩ := x
  exact ⟨fun b o e => k b o (h1 b o e), h2, Heap.FunFrames.of_keeps (fun b o e _ => ⟨o, k b o e, rfl⟩) h3, oe, vs, T, oT, ts, k _ _ e1, e2, e3, e4, e5, e6, k _ _ e7, e8, e9⟩
/-- the clause's expression t stands for the classes cs -/
def TestOk (X : Cx) (t : Expr) (cs : List Value) : Prop := ∀ (a : Addr) (oe : Obj) (cls : Value) (pn : List (Addr × Obj)) (s : Shared) (σ : L2.St) (H : Hp) (b : Bool) (Q : Bool → Shared → Prop) (E : Value → Shared → Prop), L2.Inv (X.suite a ((a, oe) :: pn)) [] σ H s → s.heap.get? a = some oe → oe.cls = cls → PySem.W.exmAny X.K cls cs = some b →
  (∀ h', (∀ c o, s.heap.get? c = some o → h'.get? c = some o) → L2.Inv (X.suite a ((a, oe) :: pn)) [] σ H { s with heap := h' } → Q b { s with heap := h' }) →
  wpAny (model X.prog X.w) (X.A.mark (some (.ref a))) (eval t X.env) (fun c s1 => wpAny (model X.prog X.w) (X.A.mark (some (.ref a))) (excMatches (.ref a) c) Q E s1) E s
section
variable {X : Cx}
theorem looks_cls {P : Program} {w : World} {h : Heap} {a : Addr} {oe : Obj} {cls : Value} (ha : h.get? a = some oe) (hc : oe.cls = cls) : PySem.W.Looks (model P w) h (typeOf (.ref a)) cls := fun A Q E s k q => wpAny_typeOf_ref (k _ _ ha) (by rw [hc]; exact q)
theorem name_test {x : Str} {c : Value} {p : Pos} {a : Addr} {pn : List (Addr × Obj)} {σ : L2.St} {H : Hp} {s : Shared} {Q : Value → Shared → Prop} {E : Value → Shared → Prop} (hc : Names X x c) (I : L2.Inv (X.suite a pn) [] σ H s) (q : Q c s) : wpAny (model X.prog X.w) (X.A.mark (some (.ref a))) (eval (.Name x p) X.env) Q E s := by
  obtain ⟨hg, hdbg, hm | ⟨hm, hv, hnn⟩⟩ := hc
  · exact ld_glob (X := X.suite a pn) I hg hm q hdbg
  · exact ld_blt (X := X.suite a pn) I hg hm hv q hnn hdbg
theorem test1 {x : Str} {c : Value} {p : Pos} (hc : Names X x c) : TestOk X (.Name x p) [c] := fun a oe cls pn s σ H b Q E I ha ho hx q => by
  refine name_test hc I ?_
  obtain ⟨b1, d1, x1, y1, z1⟩ := PySem.W.exmAny_cons hx
  have w1 : some false = some d1 := y1
  cases w1
  have e : b = b1 := by simpa using z1
  subst e
  exact (PySem.W.exm_one (M := model X.prog X.w) I.kIn (looks_cls ha ho) x1).here (q s.heap (fun _ _ z => z) I)
theorem test2 {x y : Str} {c d : Value} {p p1 pos : Pos} {kk : Nat} (hc : Names X x c) (hd : Names X y d) : TestOk X (.Tuple [.Name x p, .Name y p1] kk pos) [c, d] := fun a oe cls pn s σ H b Q E I ha ho hx q => by
  refine wpAny_Tuple (wpAny_items_cons (name_test hc I (wpAny_items_cons (name_test hd I (wpAny_items_nil ⟨by rw [sizeLine_eq]; show 2 ≤ _; omega, ?_⟩)))))
  have kp : ∀ q o, s.heap.get? q = some o → (s.heap.push { cls := .type "tuple", data := .seq [c, d].toArray }).get? q = some o := fun _ _ z => Heap.get?_push_of_some _ z
  exact (PySem.W.exm_tup2 (M := model X.prog X.w) (I.kIn.keeps kp) ((looks_cls ha ho).keeps kp) (Heap.get?_push_size s.heap rfl) hx).here (q _ kp (I.kept (t' := s.toks) kp))
theorem test3 {x y z : Str} {c d f : Value} {p p1 p2 pos : Pos} {kk : Nat} (hc : Names X x c) (hd : Names X y d) (hf : Names X z f) : TestOk X (.Tuple [.Name x p, .Name y p1, .Name z p2] kk pos) [c, d, f] := fun a oe cls pn s σ H b Q E I ha ho hx q => by
  refine wpAny_Tuple (wpAny_items_cons (name_test hc I (wpAny_items_cons (name_test hd I (wpAny_items_cons (name_test hf I (wpAny_items_nil ⟨by rw [sizeLine_eq]; show 3 ≤ _; omega, ?_⟩)))))))
  have kp : ∀ q o, s.heap.get? q = some o → (s.heap.push { cls := .type "tuple", data := .seq [c, d, f].toArray }).get? q = some o := fun _ _ z => Heap.get?_push_of_some _ z
  exact (PySem.W.exm_tup3 (M := model X.prog X.w) (I.kIn.keeps kp) ((looks_cls ha ho).keeps kp) (Heap.get?_push_size s.heap rfl) hx).here (q _ kp (I.kept (t' := s.toks) kp))
end
abbrev CTS := Addr → Value → Option Addr → TS
/-- what the clauses wish of an exception of the body; i: the slot of the name e -/
def wGen (K : PySem.W.Frag) (i : Nat) (Wout : WX) (D : Ends) : List (List Value × CTS) → WX
  | [] => Wout
  | (cs, ts) :: r => fun cls d σ H => ∃ b, PySem.W.exmAny K cls cs = some b ∧
    (b = true → ∀ a, H a = none → ts a cls d { nx := fun σ' H' => D.nx (σ'.set i none) H', rt := D.rt, bk := fun σ' H' => D.bk (σ'.set i none) H', ct := fun σ' H' => D.ct (σ'.set i none) H' } (σ.set i (some (.ref a))) H) ∧
    (b = false → wGen K i Wout D r cls d σ H)
inductive HdsG (X : Cx) (n : Str) : List ExceptHandler → List (List Value × CTS) → Prop
  | nil : HdsG X n [] []
  | cons {t : Expr} {cs : List Value} {ts : CTS} {b₀ : Stmt} {suite : List Stmt} {pos' : Pos} {hds : List ExceptHandler} {l : List (List Value × CTS)} (hc : TestOk X t cs)
      (hsu : ∀ (a : Addr) (oe : Obj) (cls : Value) (d : Option Addr) (pn : List (Addr × Obj)), Zc cls d oe → (∃ vs, oe.data = .fields vs) → PSs (X.suite a ((a, oe) :: pn)) (b₀ :: suite) (ts a cls d)) (r : HdsG X n hds l) :
      HdsG X n (.ExceptHandler (some t) (some n) (b₀ :: suite) pos' :: hds) ((cs, ts) :: l)
section
variable {X : Cx} {n : Str} {i : Nat} {body : List Stmt} {h₀ : ExceptHandler} {hds : List ExceptHandler} {l : List (List Value × CTS)} {pos : Pos} {tb : WX → TS} {Wout : WX}
theorem ps_try_gen (hs : X.stack = X.env :: X.outer) (hf : X.env.frame = some X.env.locals) (hN : X.N.Nodup) (hi : X.N[i]? = some n) (hln : X.env.kindOf n = some .local) (tk : Takes X Wout)
    (hb : ∀ (W : WX) (pn : List (Addr × Obj)) (xe : Value → Shared → Prop), Takes (X.tr pn xe) W → PassesOwn (model X.prog X.w) X.A X.env xe → PSs (X.tr pn xe) body (tb W))
    (hh : HdsG X n (h₀ :: hds) l) : PS X (.Try body (h₀ :: hds) [] [] pos) (fun D σ H => tb (wGen X.K i Wout D l) D σ H) := by
  refine ⟨fun pins s σ H D I h => ?_⟩
  have ok := I.ok
  have hfr : X.A.frames = some (X.env :: X.outer) := by rw [ok.frames, hs]
  have hloc : Loc X.env.scope n := .inl hln
  refine wpAny_Try_except ?_
  refine wpAny_mono ((hb (wGen X.K i Wout D l) (X.pn ++ pins) (fun e s₁ => wpAny (model X.prog X.w) X.A (noteFrame e X.env) (fun _ s₂ => wpAny (model X.prog X.w) X.A (setFlight e none) (fun _ s₃ =>
    wpAny (model X.prog X.w) X.A (handleBy e X.env (h₀ :: hds)) (SP X pins D) X.xe s₃) X.xe s₂) X.xe s₁) (fun u s' xx => ?_) PassesOwn.looking).run [] s σ H D (I.toTry _) h) (fun f s1 hsp => ?_) (fun e s1 he => he)
  · obtain ⟨a, B, sI, pins', σ', H', cls, d, rfl, J', nb, up, sky, na, os, ag, w⟩ := xx
    have J : L2.Inv X pins σ' H' sI := J'.ofTry ok
    have sky' : Sky B (X.env :: X.outer) a (Zc cls d) X.env.locals s'.heap := by rw [← hs]; exact sky
    show wpAny (model X.prog X.w) X.A (noteFrame (.ref a) X.env) _ _ _
    refine Sky.land Zc.steady hfr hf sky' fun h3 fl3 up3 => ?_
    have notFr : ∀ {h : Heap} {o : Obj} {vs : Array Value}, h.FunFrames B (X.env :: X.outer) → h.get? a = some o → o.data = .fields vs → a ∉ frs (X.env :: X.outer) := fun {h o vs} ff e dd hm => by
      obtain ⟨_, o', e', hnf⟩ := ff.mem hm
      rw [e] at e'; cases e'
      exact hnf _ dd
    have nfr : a ∉ frs (X.env :: X.outer) := by
      obtain ⟨oe3, vs3, he3, hz3, hd3⟩ := fl3.there
      exact notFr fl3.2.2.1 he3 hd3
    have nL : a ≠ X.env.locals := fun z => nfr (List.mem_filterMap.mpr ⟨X.env, List.mem_cons_self, by rw [hf, z]⟩)
    have nF : a ∉ X.fs := fun hm => by
      obtain ⟨e, he, q⟩ := List.mem_filterMap.mp hm
      exact nfr (List.mem_filterMap.mpr ⟨e, List.mem_cons_of_mem _ he, q⟩)
    have go : ∀ {hds' : List ExceptHandler} {l' : List (List Value × CTS)}, HdsG X n hds' l' → wGen X.K i Wout D l' cls d σ' H' → ∀ h3 : Heap, HandSPX.FlyingZ B (X.env :: X.outer) a (Zc cls d) h3 → s'.heap.UpToSlots h3 →
        wpAny (model X.prog X.w) X.A (handleBy (.ref a) X.env hds') (SP X pins D) X.xe { s' with heap := h3 } := by
      intro hds' l' hk
      induction hk with
      | nil =>
        intro w h3 fl3 up3
        refine wpAny_handleBy_nil ?_
        obtain ⟨k1, k2, k3, oe, vs, T, oT, ts', he, hz, hd, h1, hr⟩ := id fl3
        unfold PySem.passOn
        refine wpAny_bind (wpAny_field he hd h1 ?_)
        rw [if_neg (show ¬ ((Value.ref T == Value.none) = true) from by simp)]
        have fin : wpAny (model X.prog X.w) X.A (setFlight (.ref a) X.env.frame) (fun _ s4 => wpAny (model X.prog X.w) X.A (throw (.ref a) : Sem Flow) (SP X pins D) X.xe s4) X.xe { s' with heap := h3 } := by
          rw [hf]
          refine HandSPX.setFlight_upZ fl3 fun h4 hh4 up4 => wpAny_throw (tk _ _ ?_)
          exact ⟨a, B, sI, pins, σ', H', cls, d, rfl, J, nb, (up.trans up3).trans up4, .inr (.inr (by rw [hs]; exact hh4)), na, os, ag, w⟩
        first
          | exact wpAny_bind (wpAny_pure (wpAny_bind fin))
          | exact wpAny_bind fin
      | @cons t cs ts b₀ suite pos' hds2 l2 hc hsu r ih =>
        intro w h3 fl3 up3
        obtain ⟨b, hb1, hyes, hno⟩ := w
        have J3 : L2.Inv X pins σ' H' { s' with heap := h3 } := J.landed nb fl3.1 (up.trans up3) os ag
        obtain ⟨oe3, vs3, he3, hz3, hd3⟩ := fl3.there
        have S3 := J3.suite he3 hd3 na nL nF
        refine wpAny_handleBy_cons (codeAny_handlers_test ?_) (by intro q; cases q)
        refine hc a oe3 cls _ _ _ _ b _ _ S3 he3 hz3.1 hb1 fun h5 k5 S5 => ?_
        have fl5 := fly_keep k5 fl3
        have up5 : s'.heap.UpToSlots h5 := up3.trans (Heap.UpToSlots.of_keeps k5)
        cases b with
        | true =>
          refine codeAny_handlers_suite_as ?_
          refine HandSPX.lands_againZ fl5 fun h4 fl4 up4 => ?_
          have J4 : L2.Inv X pins σ' H' { s' with heap := h4 } := J.landed nb fl4.1 ((up.trans up5).trans up4) os ag
          obtain ⟨oe4, vs4, he4, hz4, hd4⟩ := fl4.there
          have S4 := J4.suite he4 hd4 na nL nF
          refine store_ok (X := X.suite a ((a, oe4) :: (X.pn ++ pins))) (v := .ref a) S4 hN hi hloc rfl (fun s5 S5 => ?_) (.inr hln)
          refine wpAny_mono ((hsu a oe4 cls d (X.pn ++ pins) hz4 ⟨_, hd4⟩).run [] s5 _ H' _ S5 (hyes rfl a na)) (fun f s6 hsp => ?_) (fun _ _ z => False.elim z)
          have end_ : ∀ {σ6 : L2.St} {H6 : Hp} {Q : Shared → Prop}, L2.Inv (X.suite a ((a, oe4) :: (X.pn ++ pins))) [] σ6 H6 s6 → (∀ s7, L2.Inv X pins (σ6.set i none) H6 s7 → Q s7) →
              wpAny (model X.prog X.w) X.A (do bindName X.env n .none; unbindBehindTheSuite X.env n pos') (fun _ s7 => Q s7) X.xe s6 := fun {σ6 H6 Q} S6 hq => gone_ok (S6.unsuite ok) hN hi hln hq
          cases f with
          | next =>
            obtain ⟨σ6, H6, S6, q6⟩ := hsp
            exact end_ S6 fun s7 J7 => ⟨_, _, J7, q6⟩
          | brk =>
            obtain ⟨σ6, H6, S6, q6⟩ := hsp
            exact end_ S6 fun s7 J7 => ⟨_, _, J7, q6⟩
          | cont =>
            obtain ⟨σ6, H6, S6, q6⟩ := hsp
            exact end_ S6 fun s7 J7 => ⟨_, _, J7, q6⟩
          | ret u =>
            obtain ⟨v6, σ6, H6, S6, r6, q6⟩ := hsp
            exact end_ S6 fun s7 J7 => ⟨_, _, _, J7, r6, q6⟩
        | false =>
          show wpAny _ X.A (handleBy (.ref a) X.env hds2) _ _ _
          exact ih (hno rfl) h5 fl5 up5
    exact go hh w h3 fl3 up3
  · cases f with
    | next =>
      obtain ⟨σ', H', J', q⟩ := hsp
      exact wpAny_execs_nil ⟨σ', H', J'.ofTry ok, q⟩
    | brk =>
      obtain ⟨σ', H', J', q⟩ := hsp
      exact ⟨σ', H', J'.ofTry ok, q⟩
    | cont =>
      obtain ⟨σ', H', J', q⟩ := hsp
      exact ⟨σ', H', J'.ofTry ok, q⟩
    | ret u =>
      obtain ⟨v, σ', H', J', r, q⟩ := hsp
      exact ⟨v, σ', H', J'.ofTry ok, r, q⟩
end
/-- the class of the exception: known by its own facts -/
def tXg (K : PySem.W.Frag) (a : Addr) (cls : Value) (d : Option Addr) (f : Str) (te : TE) : TE := fun σ H Q => te σ H fun x H1 => x = .ref a ∧ ∃ (C dd : Addr) (fs : List (Str × V)) (v : V), cls = .ref C ∧ XfC K C ∧ PySem.W.findIn K (.ref C) f = some none ∧ d = some dd ∧ H1 dd = some (.xd fs) ∧ fs.lookup f = some v ∧ Q v H1
theorem pe_xg {X : Cx} {a : Addr} {oe : Obj} {cls : Value} {d : Option Addr} {pn : List (Addr × Obj)} {e : Expr} {te : TE} {pos : Pos} {n : Str}
    (hz : Zc cls d oe) (hf : ∃ vs, oe.data = .fields vs) (he : PE (X.suite a ((a, oe) :: pn)) e te) (hb : attributeBase e n X.env (eval e X.env) = eval e X.env := by rfl) :
    PE (X.suite a ((a, oe) :: pn)) (.Attribute e n pos) (tXg X.K a cls d n te) := by
  refine ⟨fun pins s σ H Q I h => ?_⟩
  refine attr_of hb (thn (he.run pins s σ H _ I h) fun u s1 hh => ?_)
  obtain ⟨x, H1, I1, rx, ex, C, dd, fs, v, ec, T, hno, ed, ea, l, q⟩ := hh
  subst ex
  obtain rfl : u = Value.ref a := rx
  subst ec
  subst ed
  obtain ⟨ha, _⟩ := I1.pin (a, oe) (List.mem_append_left _ List.mem_cons_self)
  obtain ⟨vs, hd⟩ := hf
  have hx : ObjOk X.prog X.w H1 s1.heap dd (.xd fs) := I1.hok dd _ ea
  obtain ⟨mA, hns, hr⟩ := hx
  obtain ⟨od, ho, hl⟩ := lookIn_ns hns
  obtain ⟨u, hu, ru⟩ := RelO.some_of (v := v) (o := mA n) (by rw [← l]; exact hr n)
  have J : PySem.W.InstAt s1.heap a oe C (some od) := ⟨ha, hz.1, by unfold PySem.W.notCls; rw [hd] <;> rfl, by rw [hz.2]; exact ho⟩
  exact HandSPX.exc_get I1.kIn J T.ga T.gg T.exC (PySem.W.findObj_own T.hdC hno rfl (by rw [hl, hu])) (handed_of ru) ⟨v, H1, I1.tok _, ru, q⟩
end VQ

namespace VQ
open PySem PySem.Spec PyProof.Rows L2 LamX
/-- what the making does: its code object is in the table already, or is laid there -/
def Laid (H H1 : Hp) (P c' : Addr) (q : Str) (ps : Array Value) : Prop := (H1 = H ∧ ∃ pos, codeAmong pos ps.toList = some (.ref c')) ∨
  ∃ ps', H1 = upd (upd H P (.tbl ps')) c' (CodeO c' q) ∧ H c' = none ∧ TriplesOk ps'.toList ∧ ∀ pos cv, codeAmong pos ps'.toList = some cv → codeAmong pos ps.toList = some cv ∨ cv = .ref c'
section
variable {X : Cx} {pins : List (Addr × Obj)} {σ : L2.St} {H : Hp} {s : Shared}
theorem lam_mk {c P : Addr} {params : Arguments} {body : Expr} {scope : Scope} {pos : Pos} {E : Value → Shared → Prop} {Q : Value → Shared → Prop} {ps : Array Value} (I : L2.Inv X pins σ H s) (TB : TabB X.base X.mg c P) (hcode : X.env.code = .ref c)
    (hP : H P = some (.tbl ps)) (ht : TriplesOk ps.toList) (ha : ∀ pos cv, codeAmong pos ps.toList = some cv → ∃ c, cv = .ref c ∧ H c = some (CodeO c (X.env.qual ++ "<lambda>"))) (hdef : defaultsOf params X.env = ([], [])) (hfree : ∀ y ∈ scope.names, y.2 = .free → ∃ c, X.env.cells.lookup y.1 = some c)
    (h : ∀ (f c' : Addr) (pm ctv : Value) (H1 : Hp) (s' : Shared), L2.Inv X pins σ H1 s' → Laid H H1 P c' (X.env.qual ++ "<lambda>") ps →
      s'.heap.get? f = some (PySem.W.kla_obj "<lambda>" (X.env.qual ++ "<lambda>") params body scope (cloFrom X.env.cells scope.names []) pm c' ctv) → H1 f = none → f ∉ frs X.stack → H1 c' = some (CodeO c' (X.env.qual ++ "<lambda>")) → Q (.ref f) s') :
    wpAny (model X.prog X.w) X.A (eval (.Lambda params body scope pos) X.env) Q E s := by
  refine PySem.W.kla_eval hdef ?_
  have bP : s.heap.BuiltinsAt X.mg P := TB.bm.keeps I.bk
  have hP' : s.heap.get? P = some { cls := .none, data := .fields ps } := I.hok P _ hP
  have nofr : ∀ f, s.heap.objs.size ≤ f → f ∉ frs X.stack := fun f hf z => by
    rcases List.mem_cons.mp (I.stkSub _ z) with e | e
    · have h1 := I.lt
      rw [← e] at h1
      exact Nat.lt_irrefl _ (Nat.lt_of_lt_of_le h1 hf)
    · exact I.nofs hf e
  cases hc : codeAmong pos ps.toList with
  | none =>
    refine PySem.W.kla_makeFunction (mg := X.mg) (c := c) (P := P) (ps := ps) (closure_ok hfree) I.ok.glob (I.mod.glob.keeps I.bk) hcode (TB.code.keeps I.bk) hP' ht hc TB.gP bP fun c' ctv h' tk hx hge hlt hrec htb => ?_
    obtain ⟨c2, oc, vs, t, e2, hoc, hd, hv⟩ := hrec
    cases e2
    have hsz : s.heap.objs.size ≤ h'.objs.size := Nat.le_trans hge (Nat.le_of_lt hlt)
    have nC : H c' = none := I.hok.fresh hge
    have I1 := inv_table (t' := tk) (more := #[rawInt pos.line, rawInt pos.col, .ref c']) (h' := h'.push (PySem.W.kla_obj "<lambda>" (X.env.qual ++ "<lambda>") params body scope (cloFrom X.env.cells scope.names []) ((X.mg "__name__").getD .none) c' ctv)) I hP
      (fun b o hb e => Heap.get?_push_of_some _ (hx b o hb e)) (Heap.get?_push_of_some _ htb) hge ⟨oc, vs, t, Heap.get?_push_of_some _ hoc, hd, hv⟩
    have eL : (ps ++ #[rawInt pos.line, rawInt pos.col, .ref c']).toList = ps.toList ++ [rawInt pos.line, rawInt pos.col, .ref c'] := by simp
    refine h h'.objs.size c' ((X.mg "__name__").getD .none) ctv _ _ I1 (.inr ⟨_, rfl, nC, by rw [eL]; exact PySem.TriplesOk_snoc _ _ _ _ ht, fun p' cv hcv => ?_⟩) (Heap.get?_push_size _ rfl) ?_ (nofr _ hsz) upd_same
    · rw [eL] at hcv
      exact among_app _ ht hcv
    · have n1 : h'.objs.size ≠ c' := Nat.ne_of_gt hlt
      have n2 : h'.objs.size ≠ P := Nat.ne_of_gt (Nat.lt_of_lt_of_le (Heap.lt_size hP') hsz)
      rw [upd_ne n1, upd_ne n2]
      exact I.hok.fresh hsz
  | some cv =>
    obtain ⟨c', e, hco⟩ := ha pos cv hc
    subst e
    refine PySem.W.kla_makeFunctionHit (mg := X.mg) (c := c) (P := P) (ps := ps) (closure_ok hfree) I.ok.glob (I.mod.glob.keeps I.bk) hcode (TB.code.keeps I.bk) hP' ht hc bP fun ctv h' tk hx hsz => ?_
    have I1 : L2.Inv X pins σ H { s with heap := h'.push (PySem.W.kla_obj "<lambda>" (X.env.qual ++ "<lambda>") params body scope (cloFrom X.env.cells scope.names []) ((X.mg "__name__").getD .none) c' ctv), toks := tk } := I.kept fun b o e => Heap.get?_push_of_some _ (hx b o e)
    exact h h'.objs.size c' ((X.mg "__name__").getD .none) ctv H _ I1 (.inl ⟨rfl, pos, hc⟩) (Heap.get?_push_size _ rfl) (I.hok.fresh hsz) (nofr _ hsz) hco
end
/-- the lambda at f, seen from the state (H, h) below the frames fs -/
structure LamRun (P : Program) (w : World) (K : PySem.W.Frag) (mg : Str → Option Value) (base : Heap) (fs : List Addr) (H : Hp) (h : Heap) (f c' : Addr) (q : Str) (k : Nat) (tl : XK → Hp → VK → Prop) : Prop where
  at_ : PySem.W.FnAt f h
  fn : H f = none
  ff : f ∉ fs
  run : ∀ (A : Around) (outer : List Env) (s1 : Shared) (HZ : Hp) (Q : VK) (E : XK), Room (k + 1) A → Env0 P w K mg base A outer s1 HZ → Un fs [] H HZ h s1.heap → HZ c' = some (CodeO c' q) → tl E HZ Q → codeAny (model P w) A (.call (.ref f) ⟨[], []⟩) (CR (L2.CX P w) outer P w HZ s1 Q E) s1
theorem un_chain {fs : List Addr} {L : Addr} {H H1 H2 : Hp} {h h1 h2 : Heap} (a : Un fs [] H H1 h h1) (b : Un (L :: fs) [] H1 H2 h1 h2) (hL : h.objs.size ≤ L) : Un fs [] H H2 h h2 where
  keep := fun c ob q n hc hx => b.keep c ob (a.keep c ob q n hc hx) (a.free c ob q n hx) (fun z => (List.mem_cons.mp z).elim (fun e => Nat.lt_irrefl _ (Nat.lt_of_lt_of_le (Heap.lt_size q) (e ▸ hL))) hc) hx
  slot := fun c ob q n hc hx => by
    obtain ⟨sl, e1⟩ := a.slot c ob q n hc hx
    obtain ⟨sl2, e2⟩ := b.slot c _ e1 (a.free c ob q n hx) (List.mem_cons_of_mem _ hc) hx
    exact ⟨sl2, e2⟩
  free := fun c ob q n hx => by
    obtain ⟨o', e1⟩ := a.there c ob q hx
    exact b.free c o' e1 (a.free c ob q n hx) hx
  there := fun c ob q hx => by
    obtain ⟨o', e1⟩ := a.there c ob q hx
    exact b.there c o' e1 hx
  tups := fun c xs q => b.tups c xs (a.tups c xs q)
  frzs := fun c o u q => b.frzs c o u (a.frzs c o u q)
  tbls := fun c ps q => by
    obtain ⟨m1, e1⟩ := a.tbls c ps q
    obtain ⟨m2, e2⟩ := b.tbls c _ e1
    exact ⟨m1 ++ m2, by rw [e2, Array.append_assoc]⟩
section
variable {P : Program} {w : World} {K : PySem.W.Frag} {mg : Str → Option Value} {base : Heap} {fs : List Addr} {H H1 : Hp} {h h1 : Heap} {f c' L : Addr} {q : Str} {k : Nat} {tl : XK → Hp → VK → Prop}
/-- seen from further on, below one frame more -/
theorem LamRun.step (l : LamRun P w K mg base fs H h f c' q k tl) (u : Un fs [] H H1 h h1) (hL : h.objs.size ≤ L) : LamRun P w K mg base (L :: fs) H1 h1 f c' q k tl := by
  obtain ⟨oc, od, fd, sl, hf⟩ := l.at_
  exact ⟨⟨oc, od, fd, sl, u.keep f _ hf l.fn l.ff (by simp)⟩, u.free f _ hf l.fn (by simp), fun z => (List.mem_cons.mp z).elim (fun e => Nat.lt_irrefl _ (Nat.lt_of_lt_of_le (Heap.lt_size hf) (e ▸ hL))) l.ff,
    fun A outer s1 HZ Q E hr e0 u2 hc ht => l.run A outer s1 HZ Q E hr e0 (un_chain u u2 hL) hc ht⟩
end
section
variable {X : Cx} {pins : List (Addr × Obj)} {σ : L2.St} {H : Hp} {s : Shared}
theorem lam_run {f c' : Addr} {pm ctv : Value} {params : Arguments} {body : Expr} {scope : Scope} {k : Nat} {t : XK → TE} (I : L2.Inv X pins σ H s) (L : LamS X.env.scope scope)
    (hf : s.heap.get? f = some (PySem.W.kla_obj "<lambda>" (X.env.qual ++ "<lambda>") params body scope (cloFrom X.env.cells scope.names []) pm c' ctv)) (hfn : H f = none) (hfr : f ∉ frs X.stack)
    (hbind : bindArgs (PySem.W.kla_fn "<lambda>" (X.env.qual ++ "<lambda>") params body scope (cloFrom X.env.cells scope.names []) pm (.ref c') ctv) ⟨[], []⟩ = pure [])
    (hbody : ∀ (A : Around) (outer : List Env) (s : Shared) (H : Hp) (E : XK), Room k (A.deeper (lamEnv X scope s.heap.objs.size f c')) → PE (lamCx X A outer s H E scope f c') body (t E)) :
    LamRun X.prog X.w X.K X.mg X.base (frs X.stack) H s.heap f c' (X.env.qual ++ "<lambda>") k (fun E HZ Q => t E σ HZ Q) := by
  refine ⟨⟨_, _, _, _, hf⟩, hfn, hfr, fun A outer s1 HZ Q E hr e0 un hc ht => ?_⟩
  have of1 : s1.heap.get? f = some (PySem.W.kla_obj "<lambda>" (X.env.qual ++ "<lambda>") params body scope (cloFrom X.env.cells scope.names []) pm c' ctv) := un.keep f _ hf hfn hfr (by simp)
  obtain ⟨⟨oc, vs, t', hoc, hdc, hvc⟩, _, _⟩ := e0.hok c' _ hc
  have lim : s1.heap.NoLimit := e0.mod.nolimit.keeps fun b o e => (e0.bs b o e).1
  refine PySem.W.kla_callFunE hr.depth of1 rfl L.co L.gen rfl ⟨c', oc, vs, t', rfl, hoc, hdc, hvc⟩ ?_
  rw [hbind]
  refine wpAny_pure (wpAny_newFunctionEnv (fun y hy => (L.own y hy).2) (fun y hy => absurd hy (by simp)) (fun h₁ hns hsb => ⟨lim.fresh _ hsb, ?_⟩) L.kind)
  show codeAny _ _ (.expr body (lamEnv X scope s1.heap.objs.size f c')) _ _
  have kp : ∀ b o, s1.heap.get? b = some o → h₁.get? b = some o := fun b o e => hsb.extBut b o (Nat.ne_of_lt (Heap.lt_size e)) (Heap.get?_push_of_some _ e)
  have J : L2.Inv (lamCx X A outer s1 HZ E scope f c') [] σ HZ { s1 with heap := h₁, toks := s1.toks + ([] : List (Str × Value)).length } :=
    lam_start2 I L e0 hr.hd un hns kp
  refine PySem.W.kla_codeExpr (wpAny_mono ((hbody _ _ s1 HZ E (hr.deeper _)).run [] _ _ HZ Q J ht) (fun v s' hq => ?_) fun e s' hq => hq)
  obtain ⟨w', H', J', rv, q⟩ := hq
  exact ⟨w', H', J'.os, J'.bare, J'.base, J'.hok, rv, q⟩
end
/-- x(), x the lambda, in a def that got it -/
theorem pe_actG {Z : Cx} {f c' : Addr} {q : Str} {k i : Nat} {tl : XK → Hp → VK → Prop} {W : WX} {a : Str} {p1 p2 : Pos} (l : LamRun Z.prog Z.w Z.K Z.mg Z.base (frs Z.outer) Z.H_0 Z.s_0.heap f c' q k tl) (hfs : Z.fs = frs Z.outer) (hex : Z.ex = []) (tk : Takes Z W) (hr : Room (k + 1) Z.A) (hst : Z.stack = Z.env :: Z.outer)
    (hN : Z.N[i]? = some a) (hv : Vis Z.env.scope a) (hd : (a == ("__debug__" : Str)) = false := by decide) (hcd : (a == ("__classdict__" : Str)) = false := by decide) :
    PE Z (.Call (.Name a p1) [] [] p2) (fun σZ HZ Q => σZ[i]? = some (some (.ref f)) ∧ HZ c' = some (CodeO c' q) ∧ tl (WE W σZ) HZ Q) := by
  refine ⟨fun pinsZ sZ σZ HZ Q IZ h => ?_⟩
  obtain ⟨hs, hc, ht⟩ := h
  refine wpAny_Call_Name_kw (thn ((pe_var (pos := p1) (i := i) hN hv hd hcd).run pinsZ sZ σZ HZ (fun v H1 => v = .ref f ∧ H1 = HZ) IZ ⟨.ref f, hs, rfl, rfl⟩) fun u s1 ⟨v, H1, I1, r1, q1⟩ => ?_)
  obtain ⟨ev, eH⟩ := q1
  subst ev
  rw [eH] at I1
  obtain rfl : u = Value.ref f := r1
  have un : Un (frs Z.outer) [] Z.H_0 HZ Z.s_0.heap s1.heap := by
    have b := I1.base
    rw [hfs, hex] at b
    exact b
  obtain ⟨oc, od, fd, sl, hf⟩ := l.at_
  refine PySem.W.callWith_F0 ⟨oc, od, fd, sl, un.keep f _ hf l.fn l.ff (by simp)⟩ ?_
  refine wpAny_call (codeAny_mono (l.run Z.A Z.stack s1 HZ Q (WE W σZ) hr I1.env0 un hc ht) fun r s' hq => ?_)
  cases r with
  | error e => exact passAt tk σZ pinsZ HZ s1 e s' I1 hq
  | ok fl =>
    cases fl with
    | ret u => exact I1.after hq
    | next => exact False.elim hq
    | brk => exact False.elim hq
    | cont => exact False.elim hq
/-- a clause: its classes; the second field that it tells -/
abbrev Cl := List (List Value × Option Str)
def tsOf (K : PySem.W.Frag) (g : Option Str) : CTS := fun a cls d => tRet (tTup (tCons (tXg K a cls d "called" (tVar 1)) (tCons (match g with
  | some f => tXg K a cls d f (tVar 1)
  | none => tC (.str "")) tNil)))
def clTs (K : PySem.W.Frag) (cl : Cl) : List (List Value × CTS) := cl.map fun p => (p.1, tsOf K p.2)
def MatchAt (K : PySem.W.Frag) (cls : Value) : Cl → Option Str → Prop
  | [], _ => False
  | (cs, g) :: r, f => (PySem.W.exmAny K cls cs = some true ∧ g = f) ∨ (PySem.W.exmAny K cls cs = some false ∧ MatchAt K cls r f)
/-- the classes of exceptions: the second field that is told of each -/
abbrev Xt := List (Str × Option Str)
structure XtOk (K : PySem.W.Frag) (mg : Str → Option Value) (cl : Cl) (xt : Xt) : Prop where
  at_ : ∀ x f, xt.lookup x = some f → ∃ C, mg x = some (.ref C) ∧ XfC K C ∧ PySem.W.findIn K (.ref C) "called" = some none ∧ (∀ g, f = some g → PySem.W.findIn K (.ref C) g = some none) ∧ MatchAt K (.ref C) cl f
def triedX (xt : Xt) (x : Exc) : Option D := match xt.lookup x.cls with
  | some (some f) => match x.fs.lookup ("called" : Str), x.fs.lookup f with
    | some a, some b => some (.tup [a, b])
    | _, _ => none
  | some none => match x.fs.lookup ("called" : Str) with
    | some a => some (.tup [a, .str []])
    | none => none
  | none => none
def sTold : List Nat := [116, 111, 108, 100]
section
variable {K : PySem.W.Frag} {M : WM K}
def eTried (xt : Xt) (ee : Ev M D) : Ev M D := fun ρ s => ((ee ρ s).bind fun r => .ret (.tup [.str sTold, r.1], r.2)).catch_ fun x => match triedX xt x.1 with
  | some d => .ret (d, x.2)
  | none => .bad
/-- the wish of _law_tried at its call -/
def TTried (K : PySem.W.Frag) (cl : Cl) (f : Addr) (tl : XK → Hp → VK → Prop) : Hp → VK → Prop := fun H Q =>
  tl (WE (wGen K 1 (fun _ _ _ _ => False) { nx := fun _ H' => Q .non H', rt := Q } (clTs K cl)) [some (.ref f), none]) H
    fun v H1 => ([V.str "told", v] : List V).length ≤ sizeLine ∧ ∀ p, H1 p = none → Q (.ref p) (upd H1 p (.tup [.str "told", v]))
theorem wgen_of {cls : Value} {cl : Cl} {fo : Option Str} {D' : Ends} {σ : L2.St} {H : Hp} {d : Option Addr} {W : WX} (hm : MatchAt K cls cl fo)
    (h : ∀ a, H a = none → tsOf K fo a cls d { nx := fun σ' H' => D'.nx (σ'.set 1 none) H', rt := D'.rt, bk := fun σ' H' => D'.bk (σ'.set 1 none) H', ct := fun σ' H' => D'.ct (σ'.set 1 none) H' } (σ.set 1 (some (.ref a))) H) : wGen K 1 W D' (clTs K cl) cls d σ H := by
  induction cl with
  | nil => exact hm.elim
  | cons p r ih =>
    obtain ⟨cs, g⟩ := p
    rcases hm with ⟨h1, h2⟩ | ⟨h1, h2⟩
    · subst h2
      exact ⟨true, h1, fun _ => h, (fun z => by cases z)⟩
    · exact ⟨false, h1, (fun z => by cases z), fun _ => ih h2⟩
end
section
variable {K : PySem.W.Frag} {M : WM K} {mg : Str → Option Value} {cl : Cl} {xt : Xt} {ee : Ev M D} {σ : Sl} {W : WX}
/-- a pair of the exception's fields is told -/
theorem tsOf_ok {p q : Pt M} (ok : q.Ok) {x : Exc} {cls : Value} {dd : Option Addr} (h : XtOk K mg cl xt) (xk : XOk mg q x cls dd) {d : D} (hx : triedX xt x = some d) {f : Addr} {Q : VK}
    (hq : ∀ v (q' : Pt M), Ext q q' → q'.Ok → q'.s = q.s → Den K q'.ad q'.Hv d v → Q v q'.H) : wGen K 1 (fun _ _ _ _ => False) { nx := fun _ H' => Q .non H', rt := Q } (clTs K cl) cls dd [some (.ref f), none] q.H := by
  obtain ⟨hm, da, fv, hd, hda, nF, hfs⟩ := xk
  subst hd
  unfold triedX at hx
  cases z : xt.lookup x.cls with
  | none => rw [z] at hx; cases hx
  | some fo =>
    obtain ⟨C, hC, T, nc, ng, hmat⟩ := h.at_ _ _ z
    rw [hm] at hC; cases hC
    rw [z] at hx
    cases z1 : x.fs.lookup ("called" : Str) with
    | none => rw [z1] at hx; cases fo <;> cases hx
    | some y1 =>
      rw [z1] at hx
      obtain ⟨v1, l1, d1⟩ := hfs _ _ z1
      have lay : ∀ (vs : List V) (ds : List D), DenL K q.ad q.Hv ds vs → ∀ p, q.H p = none → (∀ v (q' : Pt M), Ext q q' → q'.Ok → q'.s = q.s → Den K q'.ad q'.Hv (.tup ds) v → Q v q'.H) → Q (.ref p) (upd q.H p (.tup vs)) := fun vs ds dn p hp k => by
        have e := ext_lay ok (o := .tup vs) hp
        exact k (.ref p) (q.lay p (.tup vs)) e (ok_lay ok hp) rfl ⟨p, vs, rfl, .inl (.inl upd_same), e.denL dn⟩
      cases fo with
      | none =>
        cases hx
        refine wgen_of hmat fun a ha => ?_
        exact ⟨.ref a, rfl, rfl, C, da, fv, v1, rfl, T, nc, rfl, hda, l1, (by rw [sizeLine_eq]; show 2 ≤ _; omega), fun p hp => lay _ [y1, .str []] (.cons d1 (.cons rfl .nil)) p hp hq⟩
      | some g =>
        have hx' : (match x.fs.lookup g with | some b => some (D.tup [y1, b]) | none => none) = some d := by
          cases z2 : x.fs.lookup g with
          | none => simp only [z2] at hx; cases hx
          | some y2 => simp only [z2] at hx; exact hx
        cases z2 : x.fs.lookup g with
        | none => rw [z2] at hx'; cases hx'
        | some y2 =>
          rw [z2] at hx'
          cases hx'
          obtain ⟨v2, l2, d2⟩ := hfs _ _ z2
          refine wgen_of hmat fun a ha => ?_
          exact ⟨.ref a, rfl, rfl, C, da, fv, v1, rfl, T, nc, rfl, hda, l1, .ref a, rfl, rfl, C, da, fv, v2, rfl, T, ng g rfl, rfl, hda, l2, (by rw [sizeLine_eq]; show 2 ≤ _; omega), fun p hp => lay _ [y1, y2] (.cons d1 (.cons d2 .nil)) p hp hq⟩
/-- from plain data to the wish of _law_tried -/
theorem tried_ok {p : Pt M} (ok : p.Ok) {ρ : Dv} (en : EnvD M p σ ρ) (h : XtOk K mg cl xt) {f : Addr} {Q : VK} {X' : Exc × M.S → Prop}
    (hq : (eTried xt ee ρ p.s).all (fun r => ∀ v (q : Pt M), Ext p q → q.Ok → q.s = r.2 → Den K q.ad q.Hv r.1 v → Q v q.H) X') : TTried K cl f (fun E HZ Q => tD M mg (fun cls d _ H => E cls d H) ee σ HZ Q) p.H Q := by
  refine ⟨ρ, p, rfl, ok, en, ?_⟩
  refine G.all_mono (fun r hr v q e okq es dv => ?_) (fun x hx cls dd q e okq es xk => ?_) (G.all_bind.mp (G.all_catch.mp hq))
  · refine ⟨by rw [sizeLine_eq]; show 2 ≤ _; omega, fun a ha => ?_⟩
    have el := ext_lay okq (o := .tup [.str "told", v]) ha
    exact hr (.ref a) (q.lay a (.tup [.str "told", v])) (e.trans el) (ok_lay okq ha) es ⟨a, _, rfl, .inl (.inl upd_same), .cons rfl (.cons (el.den dv) .nil)⟩
  · cases z : triedX xt x.1 with
    | none => rw [z] at hx; exact hx.elim
    | some d =>
      rw [z] at hx
      exact tsOf_ok (p := p) okq h xk z fun v q' e' ok' es' dv => hx v q' (e.trans e') ok' (es'.trans es) dv
end
end VQ

namespace VQ
open PySem PySem.Spec PyProof.Rows L2 LamX
abbrev E00 : XK := fun _ _ _ => False
/-- the def at g: try: return ('told', ask()), the clauses cl -/
structure TriedDef (P : Program) (w : World) (K : PySem.W.Frag) (mg : Str → Option Value) (base : Heap) (g : Addr) (cl : Cl) : Prop where
  ex : ∃ (st : Stmt) (fd : FuncData) (h₀ : ExceptHandler) (hds : List ExceptHandler) (j0 j1 : Nat) (p0 p1 p2 p3 p4 p5 : Pos), Fun K "_law_tried" "_law_tried" st g fd ∧ FnScope ["_law_ask", "e"] ["_law_ask"] (defScope st) ∧ L2.Binds K fd ["_law_ask"] [] ∧ (defScope st).names.lookup ("_law_ask" : Str) = some .local ∧ (defScope st).names.lookup ("e" : Str) = some .local ∧
    defBody st = [.Try [.Return (some (.Tuple [.Constant (.str "told") j0 p0, .Call (.Name "_law_ask" p1) [] [] p2] j1 p3)) p4] (h₀ :: hds) [] [] p5] ∧
    ∀ (cdv : Value) (A : Around) (outer : List Env) (s : Shared) (H : Hp), HdsG (cxOf (L2.CX P w) P w K mg base ["_law_ask", "e"] "_law_tried" (defScope st) g cdv A outer s H E00) "e" (h₀ :: hds) (clTs K cl)
  glob : mg "_law_tried" = some (.ref g)
section
variable {P : Program} {w : World} {K : PySem.W.Frag} {mg : Str → Option Value} {base : Heap} {g f c' : Addr} {cl : Cl} {q : Str} {k : Nat} {tl : XK → Hp → VK → Prop}
theorem tried_run (D : TriedDef P w K mg base g cl) {A : Around} {outer : List Env} {s : Shared} {H : Hp} {Q : VK} (hr : Room (k + 2) A) (e0 : Env0 P w K mg base A outer s H) (l : LamRun P w K mg base (frs outer) H s.heap f c' q k tl)
    (hc : H c' = some (CodeO c' q)) (h : TTried K cl f tl H Q) : codeAny (model P w) A (.call (.ref g) ⟨[.ref f], []⟩) (CR (L2.CX P w) outer P w H s Q E00) s := by
  obtain ⟨st, fd, h₀, hds, j0, j1, p0, p1, p2, p3, p4, p5, F, S, hb, k1, k2, eb, hh⟩ := D.ex
  obtain ⟨oc, od, kV, doc, pm, an, cdv, ct, osl, e, lk, hcd⟩ := F.ex
  subst e
  have KI : K.In s.heap := e0.mod.kin.keeps fun b o e => (e0.bs b o e).1
  refine run_ofS (N := ["_law_ask", "e"]) (ps := ["_law_ask"]) (us := [.ref f]) (vs := [.ref f]) lk hcd S hr e0 (hb s [.ref f] KI rfl) (.cons rfl .nil) rfl fun hr' => ?_
  rw [eb]
  refine ⟨_, pss_one (ps_try_gen (X := cxOf (L2.CX P w) P w K mg base ["_law_ask", "e"] "_law_tried" (defScope st) g cdv A outer s H E00) (i := 1) (Wout := fun _ _ _ _ => False) rfl rfl S.nd rfl ?_ L2.takes0 (fun W pn xe tk _ => pss_one (ps_ret (pe_tup (pa_cons pe_str (pa_cons (pe_actG (i := 0) l rfl rfl tk hr' rfl rfl ?_) pa_nil))))) (hh cdv A outer s H)), ?_⟩
  · exact k2
  · exact .inl k1
  · exact ⟨rfl, hc, h⟩
/-- .. called from a def that got the lambda -/
theorem pe_tried {Z : Cx} {p1 p2 p3 : Pos} (D : TriedDef Z.prog Z.w Z.K Z.mg Z.base g cl) (l : LamRun Z.prog Z.w Z.K Z.mg Z.base (frs Z.outer) Z.H_0 Z.s_0.heap f c' q k tl) (hfs : Z.fs = frs Z.outer) (hex : Z.ex = []) (hr : Room (k + 2) Z.A) (hst : frs Z.stack = Z.env.locals :: frs Z.outer)
    (hN : Z.N[0]? = some ("_law_ask" : Str)) (hv : Vis Z.env.scope "_law_ask") (hg : Gl Z "_law_tried") :
    PE Z (.Call (.Name "_law_tried" p1) [.Name "_law_ask" p2] [] p3) (fun σ H Q => σ[0]? = some (some (.ref f)) ∧ H c' = some (CodeO c' q) ∧ TTried Z.K cl f tl H Q) := by
  refine ⟨fun pins s σ H Q I h => ?_⟩
  obtain ⟨hs, hc, ht⟩ := h
  obtain ⟨st, fd, h₀, hds, j0, j1, q0, q1, q2, q3, q4, q5, F, S, hb, _⟩ := id D.ex
  refine wpAny_Call_Name_kw (ld_glob I hg D.glob ?_ (by decide))
  refine PySem.W.callWith_K (h₀ := Z.base) I.ok.mod.kin F.kp (thn ((pa_cons (pe_var (i := 0) hN hv (by decide) (by decide)) pa_nil).run p3 pins s σ H (fun vs H1 => vs = [V.ref f] ∧ H1 = H) I ⟨.ref f, hs, rfl, rfl⟩) fun us s1 ⟨vs, H1, I1, r1, q1⟩ => ?_) (by rfl) (by rfl)
  obtain ⟨ev, eH⟩ := q1
  subst ev
  rw [eH] at I1
  refine ⟨I1.kIn, ?_⟩
  cases r1 with
  | @cons _ u0 _ us' ru rn =>
    cases rn
    obtain rfl : u0 = Value.ref f := ru
    show wpAny _ _ (call (.ref g) [.ref f]) _ _ _
    have un : Un (frs Z.outer) [] Z.H_0 H Z.s_0.heap s1.heap := by
      have b := I1.base
      rw [hfs, hex] at b
      exact b
    have l' : LamRun Z.prog Z.w Z.K Z.mg Z.base (frs Z.stack) H s1.heap f c' q k tl := by
      rw [hst]
      exact l.step un I1.ok.above
    refine wpAny_call (codeAny_mono (tried_run D hr I1.env0 l' hc ht) fun r s' hq => ?_)
    cases r with
    | error e => exact passes_call (X := Z) (W := fun _ _ _ _ => False) L2.takes0 (fun _ _ _ _ h => h) pins σ H s1 e s' I1 hq
    | ok fl =>
      cases fl with
      | ret u => exact I1.after hq
      | next => exact False.elim hq
      | brk => exact False.elim hq
      | cont => exact False.elim hq
structure WordDef (P : Program) (w : World) (K : PySem.W.Frag) (mg : Str → Option Value) (base : Heap) (g : Addr) : Prop where
  ex : ∃ (st : Stmt) (fd : FuncData) (j : Nat) (p1 p2 p3 p4 p5 p6 : Pos), Fun K "_law_word" "_law_word" st g fd ∧ FnScope ["_law_ask"] ["_law_ask"] (defScope st) ∧ L2.Binds K fd ["_law_ask"] [] ∧ (defScope st).names.lookup ("_law_ask" : Str) = some .local ∧ (defScope st).names.lookup ("_law_tried" : Str) = some .globalImplicit ∧
    defBody st = [.Return (some (.Subscript (.Call (.Name "_law_tried" p1) [.Name "_law_ask" p2] [] p3) (.Constant (.int 0) j p4) p5)) p6]
  glob : mg "_law_word" = some (.ref g)
/-- its wish: the first of the two things told -/
def TWord (K : PySem.W.Frag) (cl : Cl) (f : Addr) (tl : XK → Hp → VK → Prop) : Hp → VK → Prop := fun H Q => TTried K cl f tl H fun x H1 => rIx K x (.int 0) H1 Q
theorem word_run {g' : Addr} (D : TriedDef P w K mg base g cl) (D' : WordDef P w K mg base g') {A : Around} {outer : List Env} {s : Shared} {H : Hp} {Q : VK} (hr : Room (k + 3) A) (e0 : Env0 P w K mg base A outer s H) (l : LamRun P w K mg base (frs outer) H s.heap f c' q k tl)
    (hc : H c' = some (CodeO c' q)) (h : TWord K cl f tl H Q) : codeAny (model P w) A (.call (.ref g') ⟨[.ref f], []⟩) (CR (L2.CX P w) outer P w H s Q E00) s := by
  obtain ⟨st, fd, j, p1, p2, p3, p4, p5, p6, F, S, hb, k1, k2, eb⟩ := D'.ex
  obtain ⟨oc, od, kV, doc, pm, an, cdv, ct, osl, e, lk, hcd⟩ := F.ex
  subst e
  have KI : K.In s.heap := e0.mod.kin.keeps fun b o e => (e0.bs b o e).1
  refine run_ofS (N := ["_law_ask"]) (ps := ["_law_ask"]) (us := [.ref f]) (vs := [.ref f]) lk hcd S hr e0 (hb s [.ref f] KI rfl) (.cons rfl .nil) rfl fun hr' => ?_
  rw [eb]
  refine ⟨_, pss_one (ps_ret (pe_ix ix_seq (pe_tried (cl := cl) D l rfl rfl hr' rfl rfl (.inl k1) k2) pe_int (by intro _ _; rfl))), ?_⟩
  exact ⟨rfl, hc, h⟩
end
section
variable {X : Cx} {M : WM X.K} {W : WX} {ee eT : Ev M D}
/-- the point behind the making of a lambda -/
theorem laid_pt {p : Pt M} (ok : p.Ok) {H1 : Hp} {P c' : Addr} {q : Str} {ps : Array Value} (hm : (P, q) ∈ M.T) (hu : ∀ r ∈ M.T, r.1 = P → r.2 = q) (hP : p.H P = some (.tbl ps)) (fP : p.F P) (ht : TriplesOk ps.toList)
    (ha : ∀ pos cv, codeAmong pos ps.toList = some cv → ∃ c, cv = .ref c ∧ p.H c = some (CodeO c q) ∧ p.F c) (l : Laid p.H H1 P c' q ps) : ∃ p1 : Pt M, p1.H = H1 ∧ p1.s = p.s ∧ Ext p p1 ∧ p1.Ok := by
  rcases l with ⟨e, pos, hc⟩ | ⟨ps', e, nc, ht', ha'⟩
  · exact ⟨p, e.symm, rfl, Ext.refl p, ok⟩
  · have nPc : P ≠ c' := ne_of_none hP nc
    have old : ∀ b, b ≠ P → b ≠ c' → H1 b = p.H b := fun b h1 h2 => by rw [e, upd_ne h2, upd_ne h1]
    have keep : ∀ b o, p.H b = some o → (∀ ps, o ≠ .tbl ps) → H1 b = some o := fun b o hb n => by
      rw [old b (fun z => n ps (Option.some.inj (hb.symm.trans (by rw [z]; exact hP)))) (ne_of_none hb nc)]; exact hb
    refine ⟨⟨p.s, fun x => p.F x ∨ x = c', p.Hv, H1, p.ad⟩, rfl, rfl, ⟨Same.rfl', fun b o hb nf => ?_, fun b o hb => .inl ⟨o, hb⟩, fun b h => ?_, fun _ _ h => h⟩, ⟨fun b o hb => ?_, fun b f => ?_, M.grow ok.rep (fun x h => .inl h) (fun b o _ hb n => keep b o hb n) (fun r hr => ?_) fun x hx => ?_⟩⟩
    · show H1 b = some o
      rw [old b (fun z => nf (z ▸ fP)) (ne_of_none hb nc)]; exact hb
    · rcases h with h | h
      · exact .inl h
      · exact .inr (h ▸ nc)
    · show H1 b = some o
      have hH := ok.view _ _ hb
      rw [old b (fun z => by rw [z, ok.off P fP] at hb; cases hb) (ne_of_none hH nc)]; exact hH
    · rcases f with f | f
      · exact ok.off b f
      · rw [f]; exact ok.vn nc
    · by_cases hb : r.1 = P
      · rw [hu r hr hb, hb]
        refine ⟨.inl fP, ps', by show H1 P = _; rw [e, upd_ne nPc, upd_same], ht', fun pos cv hcv => ?_⟩
        rcases ha' pos cv hcv with z | z
        · obtain ⟨c0, e1, e2, e3⟩ := ha pos cv z
          exact ⟨c0, e1, keep _ _ e2 codeO_ne, .inl e3⟩
        · exact ⟨c', z, by show H1 c' = _; rw [e, upd_same], .inr rfl⟩
      · obtain ⟨o, ps2, a1, a2, a3⟩ := M.tabs ok.rep r hr
        refine ⟨.inl o, ps2, by show H1 r.1 = _; rw [old _ hb (ne_of_none a1 nc)]; exact a1, a2, fun pos cv hcv => ?_⟩
        obtain ⟨c0, e1, e2, e3⟩ := a3 pos cv hcv
        exact ⟨c0, e1, keep _ _ e2 codeO_ne, .inl e3⟩
    · rcases hx with hx | hx
      · obtain ⟨o, h⟩ := M.dom ok.rep hx
        by_cases hb : x = P
        · exact ⟨.tbl ps', by rw [hb]; show H1 P = _; rw [e, upd_ne nPc, upd_same]⟩
        · exact ⟨o, by show H1 x = _; rw [old x hb (ne_of_none h nc)]; exact h⟩
      · exact ⟨_, by rw [hx]; show H1 c' = _; rw [e, upd_same]⟩
/-- x(lambda: body), the def x keeping what hrun says -/
theorem pe_lamG {x : Str} {g c P : Addr} {k : Nat} {params : Arguments} {body : Expr} {scope : Scope} {p lpos pos : Pos} (hg : Gl X x) (hm : X.mg x = some (.ref g)) (hk : PySem.W.keepIn X.K (.ref g) = true)
    (hrun : ∀ (σ : Sl) (s : Shared) (H : Hp) (Q : VK) (f c' : Addr) (ρ : Dv) (q : Pt M) (X' : Exc × M.S → Prop), Env0 X.prog X.w X.K X.mg X.base X.A X.stack s H → LamRun X.prog X.w X.K X.mg X.base (frs X.stack) H s.heap f c' (X.env.qual ++ "<lambda>") k (fun E HZ Q => tD M X.mg (fun cls d _ H => E cls d H) ee σ HZ Q) →
      H c' = some (CodeO c' (X.env.qual ++ "<lambda>")) → q.H = H → q.Ok → EnvD M q σ ρ → (eT ρ q.s).all (fun r => ∀ v (q1 : Pt M), Ext q q1 → q1.Ok → q1.s = r.2 → Den X.K q1.ad q1.Hv r.1 v → Q v q1.H) X' → codeAny (model X.prog X.w) X.A (.call (.ref g) ⟨[.ref f], []⟩) (CR (L2.CX X.prog X.w) X.stack X.prog X.w H s Q E00) s)
    (TB : TabB X.base X.mg c P) (hcode : X.env.code = .ref c) (hmT : (P, X.env.qual ++ "<lambda>") ∈ M.T) (hu : ∀ r ∈ M.T, r.1 = P → r.2 = X.env.qual ++ "<lambda>") (L : LamS X.env.scope scope) (hdef : defaultsOf params X.env = ([], []))
    (hbind : ∀ (q : Str) (cl : List (Str × Addr)) (pm cv ctv : Value), bindArgs (PySem.W.kla_fn "<lambda>" q params body scope cl pm cv ctv) ⟨[], []⟩ = pure [])
    (hbody : ∀ (A : Around) (outer : List Env) (s : Shared) (H : Hp) (E : XK) (f c' : Addr), Room k (A.deeper (lamEnv X scope s.heap.objs.size f c')) → PE (lamCx X A outer s H E scope f c') body (tD M X.mg (fun cls d _ H => E cls d H) ee))
    (hdb : (x == ("__debug__" : Str)) = false := by decide) : PE X (.Call (.Name x p) [.Lambda params body scope lpos] [] pos) (tD M X.mg W eT) := by
  refine ⟨fun pins s σ H Q I h => ?_⟩
  obtain ⟨ρ, q, hH, ok, en, hq⟩ := h
  subst hH
  obtain ⟨fP, ps, hP, ht, ha⟩ := M.tabs ok.rep _ hmT
  refine wpAny_Call_Name_kw (ld_glob I hg hm ?_ hdb)
  refine PySem.W.callWith_K (h₀ := X.base) I.ok.mod.kin hk ?_ (by rfl) (by rfl)
  show wpAny _ _ (spliced ((false, eval (.Lambda params body scope lpos) X.env) :: backTo pos (starEach [] X.env))) _ _ s
  refine Calls.spliced_cons (lam_mk I TB hcode hP ht (fun pos cv e => (ha pos cv e).imp fun c h => ⟨h.1, h.2.1⟩) hdef (L.has I.ok) fun f c' pm' ctv H1 s' I1 ld hf hfn hfr hco => ?_)
  refine Calls.spliced_nil ⟨I1.kIn, ?_⟩
  obtain ⟨p1, e1, e2, ex, ok1⟩ := laid_pt ok hmT hu hP fP ht ha ld
  have l := lam_run (k := k) (t := fun E => tD M X.mg (fun cls d _ H => E cls d H) ee) I1 L hf hfn hfr (hbind _ _ _ _ _) fun A outer s H E hr => hbody A outer s H E f c' hr
  refine wpAny_call (codeAny_mono (hrun σ s' H1 Q f c' ρ p1 (fun _ => True) I1.env0 l hco e1 ok1 (en.ext ex) ?_) fun r s2 hq => ?_)
  · rw [e2]
    exact G.all_mono (fun r hr v q1 e o es dv => hr v q1 (ex.trans e) o es dv) (fun _ _ => trivial) hq
  · cases r with
    | error e => exact passes_call (X := X) (W := fun _ _ _ _ => False) L2.takes0 (fun _ _ _ _ h => h) pins σ H1 s' e s2 I1 hq
    | ok fl =>
      cases fl with
      | ret u => exact I1.after hq
      | next => exact False.elim hq
      | brk => exact False.elim hq
      | cont => exact False.elim hq
/-- what a lambda's making asks of the def's context -/
structure LamIn (X : Cx) (M : WM X.K) : Prop where
  ex : ∃ c P, TabB X.base X.mg c P ∧ X.env.code = .ref c ∧ (P, X.env.qual ++ "<lambda>") ∈ M.T ∧ ∀ r ∈ M.T, r.1 = P → r.2 = X.env.qual ++ "<lambda>"
variable {g g' : Addr} {cl : Cl} {xt : Xt} {k j : Nat} {params : Arguments} {body : Expr} {scope : Scope} {p lpos pos : Pos}
/-- the first of two things -/
def eFst {K : PySem.W.Frag} {M : WM K} (ea : Ev M D) : Ev M D := fun ρ s => (ea ρ s).bind fun r => match r.1 with
  | .tup (a :: _) => .ret (a, r.2)
  | _ => .bad
/-- _law_word(lambda: e) -/
theorem ev_word (D : TriedDef X.prog X.w X.K X.mg X.base g cl) (D' : WordDef X.prog X.w X.K X.mg X.base g') (hx : XtOk X.K X.mg cl xt) (hl : LamIn X M) (hr : Room j X.A) (k : Nat)
    (hbody : ∀ (A : Around) (outer : List Env) (s : Shared) (H : Hp) (E : XK) (f c' : Addr), Room k (A.deeper (lamEnv X scope s.heap.objs.size f c')) → Takes (lamCx X A outer s H E scope f c') (fun cls d _ H => E cls d H) → PE (lamCx X A outer s H E scope f c') body (tD M X.mg (fun cls d _ H => E cls d H) ee))
    (hj : k + 3 ≤ j := by decide) (hg : Gl X "_law_word" := by rfl) (hL : lamSB X.env.scope scope = true := by rfl) (hdef : defaultsOf params X.env = ([], []) := by rfl)
    (hbind : ∀ (q : Str) (cl : List (Str × Addr)) (pm cv ctv : Value), bindArgs (PySem.W.kla_fn "<lambda>" q params body scope cl pm cv ctv) ⟨[], []⟩ = pure [] := by intros; rfl) : PE X (.Call (.Name "_law_word" p) [.Lambda params body scope lpos] [] pos) (tD M X.mg W (eFst (eTried xt ee))) := by
  obtain ⟨c, P, TB, hcode, hmT, hu⟩ := hl.ex
  obtain ⟨st, fd, _, _, _, _, _, _, _, F, _⟩ := id D'.ex
  refine pe_lamG hg D'.glob F.kp (fun σ s H Q f c' ρ q X' e0 l hc e1 ok en hq => ?_) TB hcode hmT hu (lamS_by hL) hdef hbind (fun A outer s H E f c' hr => hbody A outer s H E f c' hr (takes_of rfl rfl rfl rfl))
  subst e1
  refine word_run D D' (hr.mono hj) e0 l hc (tried_ok ok en hx (X' := X') (G.all_mono (fun r hr v q1 e ok1 es dv => ?_) (fun _ h => h) (G.all_bind.mp hq)))
  obtain ⟨d, s1⟩ := r
  cases d with
  | tup ds =>
    cases ds with
    | nil => exact hr.elim
    | cons d0 ds =>
      obtain ⟨a, vs, rfl, h1, h2⟩ := dv
      obtain ⟨v, r, rfl, h3, h4⟩ := h2
      exact .inr (.inl ⟨a, v :: r, 0, v, rfl, rfl, sqT_same ok1.view h1, (atI_nat rfl : atI (v :: r) ((0 : Nat) : Int) = some v), hr v q1 e ok1 es h3⟩)
  | _ => exact hr.elim
end
end VQ

namespace VQ
open PySem PySem.Spec PyProof.Rows L2
section
variable {K : PySem.W.Frag} {M : WM K}
def eCmpT (f : D → D → Option Bool) (ea eb : Ev M D) : Ev M Bool := fun ρ s => (ea ρ s).bind fun x => (eb ρ x.2).bind fun y => op (f x.1 y.1) y.2
def eChain (f f' : D → D → Option Bool) (ea eb ec : Ev M D) : Ev M D := fun ρ s => (ea ρ s).bind fun x => (eb ρ x.2).bind fun y => (op (f x.1 y.1) y.2).bind fun k => if k.1 = true then (ec ρ k.2).bind fun z => (op (f' y.1 z.1) z.2).bind fun m => .ret (.bl m.1, m.2) else .ret (.bl false, k.2)
end
section
variable {X : Cx} {M : WM X.K} {W : WX} {e a b c : Expr} {es rest : List Expr} {pos : Pos} {ea eb ec : Ev M D} {er : Ev M R} {el : Ev M (List D)}
theorem tt_cmp2 {o : CmpOp} {r : R2} {f : D → D → Option Bool} (ho : OpR X (compareOp o) r) (hf : OpD M (fun d e => (f d e).map fun k => R.sh (.bl k)) r) (ha : PE X a (tD M X.mg W ea)) (hb : PE X b (tD M X.mg W eb)) (hm : behindInMarks o b = false := by rfl) :
    PT X (.Compare a [o] [b] pos) (tB' M X.mg W (eCmpT f ea eb)) := tt_cmp ho hf ha hb hm
theorem ev_chain {o o' : CmpOp} {r r' : R2} {f f' : D → D → Option Bool} (ho : OpR X (compareOp o) r) (ho' : OpR X (compareOp o') r') (hf : OpD M (fun d e => (f d e).map fun k => R.sh (.bl k)) r) (hf' : OpD M (fun d e => (f' d e).map fun k => R.sh (.bl k)) r')
    (ha : PE X a (tD M X.mg W ea)) (hb : PE X b (tD M X.mg W eb)) (hc : PE X c (tD M X.mg W ec)) (hm : lastMarks [o, o'] [b, c] = false := by with_unfolding_all rfl) :
    PE X (.Compare a [o, o'] [b, c] pos) (tD M X.mg W (eChain f f' ea eb ec)) := tt_chain ho ho' hf hf' ha hb hc (pe_chain ho ho' ha hb hc hm)
end
/-- a constant of the module -/
structure GC (mg : Str → Option Value) (x : Str) (d : D) : Prop where
  ex : ∃ (v : V) (u : Value), mg x = some u ∧ RelV v u ∧ ∀ (K : PySem.W.Frag) (ad : Nat → Option Addr) (Hv : Hp), Den K ad Hv d v
theorem GC.int {mg : Str → Option Value} {x : Str} {i : Int} {t : Tok} (h : mg x = some (.int i t)) : GC mg x (.int i) := ⟨.int i, _, h, ⟨t, rfl⟩, fun _ _ _ => rfl⟩
theorem ev_gc {X : Cx} {M : WM X.K} {W : WX} {x : Str} {d : D} {pos : Pos} (h : GC X.mg x d) (hg : Gl X x := by rfl) (hdb : (x == ("__debug__" : Str)) = false := by decide) : PE X (.Name x pos) (tD M X.mg W (eC M d)) := by
  obtain ⟨v, u, h1, h2, h3⟩ := h.ex
  exact ev_glob hg h1 h2 (h3 X.K) hdb
section
variable {P : Program} {w : World} {K : PySem.W.Frag} {mg : Str → Option Value} {base : Heap} {M : WM K}
theorem DefOk.of {k : Nat} {f : Addr} {fd : FuncData} {ps : List Str} {x qual : Str} {st : Stmt} {n : Nat} {fs : List D → M.S → Gx M R} (F : Fun K x qual st f fd) (hm : mg x = some (.ref f)) (hb : L2.Binds K fd ps []) (h : FnOk P w K mg base (L2.CX P w) k f fd ps (spV M mg n fs)) : DefOk P w K mg base M k x n fs [] :=
  ⟨f, fd, ps, [], [], h, hm, F.kp, hb, .nil, fun _ _ => DenL.nil⟩
/-- a def that nothing is asked of -/
def fBad : List D → M.S → Gx M R := fun _ _ => .bad
theorem fn_bad {k n : Nat} {f : Addr} {fd : FuncData} {ps : List Str} (hn : ps.length = n) : FnOk P w K mg base (L2.CX P w) k f fd ps (spV M mg n fBad) :=
  ⟨fun vs H Q E ⟨ds, p, h, _⟩ => h.trans hn.symm, fun A outer s H args us vs Q E _ _ _ _ ⟨ds, p, _, _, _, _, q⟩ => q.elim⟩
end
section
variable {P : Program} {w : World} {K : PySem.W.Frag} {mg : Str → Option Value} {base : Heap} {b l : Addr} {T : List (Addr × Str)} {I : IW K}
def nPull : List Str := ["_law_bag_here", "_law_size", "_law_cell", "_law_digit"]
theorem pull_inv {S : Type} {ds : List D} {s : S} {Q : R × S → Prop} {E : Exc × S → Prop} (h : (pullS ds s).all Q E) : ∃ n : Int, ds = [.obj 0, .int n] ∧ 0 < n ∧ n < 1073741824 ∧ ∀ r, r < n.toNat → Q (.sh (.int (r : Nat)), s) := by
  match ds, h with
  | [.obj 0, .int n], h =>
    by_cases hn : 0 < n ∧ n < 1073741824
    · have h' : (if 0 < n ∧ n < 1073741824 then (.draw n.toNat fun r => .ret (.sh (.int (r : Nat)), s) : G (Exc × S) (R × S)) else .bad).all Q E := h
      rw [if_pos hn] at h'
      exact ⟨n, rfl, hn.1, hn.2, h'.2⟩
    · have h' : (if 0 < n ∧ n < 1073741824 then (.draw n.toNat fun r => .ret (.sh (.int (r : Nat)), s) : G (Exc × S) (R × S)) else .bad).all Q E := h
      rw [if_neg hn] at h'
      exact h'.elim
theorem pull_ok {x qual : Str} {st : Stmt} {f : Addr} {fd : FuncData} {k : Nat} (F : Fun K x qual st f fd) (S : FnScope nPull ["_law_bag_here", "_law_size"] (defScope st))
    (hbody : ∀ (cdv : Value) (A : Around) (outer : List Env) (s : Shared) (H : Hp) (E : XK), PSs (cxOf (L2.CX P w) P w K mg base nPull qual (defScope st) f cdv A outer s H E) (defBody st) (tPull K)) : FnOk P w K mg base (L2.CX P w) (k + 1) f fd ["_law_bag_here", "_law_size"] (spV (bagW K b l T I) mg 2 pullS) := by
  refine F.okX S (fun vs H Q E ⟨ds, p, h, _⟩ => h) (fun cdv A outer s H vs Q E hr h => ⟨_, hbody cdv A outer s H E, ?_⟩)
  obtain ⟨ds, p, hl, hH, ok, hd, hq⟩ := h
  subst hH
  obtain ⟨n, rfl, h1, h2, hk⟩ := pull_inv hq
  obtain ⟨v1, r1, rfl, d1, v2, r2, rfl, d2, rfl⟩ := hd
  obtain ⟨a, ha, rfl⟩ := d1
  have ha : p.ad 0 = some a := ha
  obtain ⟨hb, _⟩ := ok.rep
  obtain rfl : b = a := Option.some.inj (hb.symm.trans ha)
  cases d2
  exact pull_read (p := p) ok h1 h2 fun r q hr e okq es => hk r hr (.int (r : Nat)) q e okq es rfl
/-- the bag's making: of the script's numbers -/
def spBag (K : PySem.W.Frag) : Sp := fun vs H Q _ => ∃ (a : Addr) (ns : List Int), vs = [.ref a] ∧ SqL K H a (ns.map V.int) ∧ ns.length ≤ 63 ∧ ∀ (b l : Addr) (H' : Hp), BagAt H' b l → (∀ x o, H x = some o → H' x = some o) → H b = none → H l = none → Q (.ref b) H'
/-- its body's reading -/
def tBag (K : PySem.W.Frag) : TS := tRet (tLst (tCons (tCB (fun xs H Q => ∃ p ys, xs = [.ref p] ∧ (SqL K H p ys ∨ SqT K H p ys) ∧ ∀ l, H l = none → Q (.ref l) (upd H l (.lst ys)))
  (tCons (tSl (rSlL K) (tVar 0) tNoPart (tPart (pI 63))) tNil)) (tCons (pI 0) (tCons (pI 0) (tCons (pI 1) (tCons (pI 0) tNil))))))
theorem cut63 {ns : List Int} (h : ns.length ≤ 63) : cutV (ns.map V.int) none (some 63) = ns.map V.int := by
  unfold cutV
  have e1 : HT.sIx (ns.map V.int).length 0 none = 0 := rfl
  have e2 : HT.sIx (ns.map V.int).length (ns.map V.int).length (some 63) = min 63 (ns.map V.int).length := HT.sIx_nat _ _ 63
  rw [e1, e2, List.drop_zero, Nat.sub_zero, List.take_of_length_le (by rw [List.length_map]; omega)]
theorem bag_ok {x qual : Str} {st : Stmt} {f : Addr} {fd : FuncData} {k : Nat} (F : Fun K x qual st f fd) (S : FnScope ["_law_script"] ["_law_script"] (defScope st))
    (hbody : ∀ (cdv : Value) (A : Around) (outer : List Env) (s : Shared) (H : Hp) (E : XK), PSs (cxOf (L2.CX P w) P w K mg base ["_law_script"] qual (defScope st) f cdv A outer s H E) (defBody st) (tBag K)) : FnOk P w K mg base (L2.CX P w) (k + 1) f fd ["_law_script"] (spBag K) := by
  refine F.okX S (fun vs H Q E ⟨a, ns, h, _⟩ => by rw [h]; rfl) (fun cdv A outer s H vs Q E hr h => ⟨_, hbody cdv A outer s H E, ?_⟩)
  obtain ⟨a, ns, rfl, hS, hl, hk⟩ := h
  refine ⟨.ref a, rfl, 63, rfl, a, ns.map V.int, rfl, hS, fun p hp => ⟨p, _, rfl, .inl (SqL.of upd_same), fun l hl2 => ⟨by rw [sizeLine_eq]; show 5 ≤ _; omega, fun b hb => ?_⟩⟩⟩
  have n1 : b ≠ l := fun z => by rw [z, upd_same] at hb; cases hb
  rw [upd_ne n1] at hb
  have n2 : b ≠ p := fun z => by rw [z, upd_same] at hb; cases hb
  rw [upd_ne n2] at hb
  have n3 : l ≠ p := fun z => by rw [z, upd_same] at hl2; cases hl2
  rw [upd_ne n3] at hl2
  refine hk b l _ ⟨n1, ns, 0, 0, 1, 0, upd_same, ?_, hl, by decide, by omega, by decide, by decide, by decide⟩ (fun x o e => ?_) hb hl2
  · rw [upd_ne (Ne.symm n1), upd_same, cut63 hl]
  · rw [upd_ne (ne_of_none e hb), upd_ne (ne_of_none e hl2), upd_ne (ne_of_none e hp)]; exact e
theorem pss_ex {X : Cx} {ι : Type} {sts : List Stmt} {t : ι → TS} (h : ∀ i, PSs X sts (t i)) : PSs X sts (fun D σ H => ∃ i, t i D σ H) := ⟨fun pins s σ H D I ⟨i, q⟩ => (h i).run pins s σ H D I q⟩
/-- what the law's def is handed: the script; empty tables -/
def spLaw (K : PySem.W.Frag) (T : List (Addr × Str)) : Sp := fun vs H Q _ => ∃ (a : Addr) (ns : List Int), vs = [.ref a] ∧ SqL K H a (ns.map V.int) ∧ ns.length ≤ 63 ∧ (∀ r ∈ T, H r.1 = some (.tbl #[])) ∧ ∀ H', Q (.bl true) H'
/-- the point behind the bag's making -/
def lawPt (K : PySem.W.Frag) (b l : Addr) (T : List (Addr × Str)) (I : IW K) (s0 : I.S) (H : Hp) : Pt (bagW K b l T I) := ⟨s0, fun x => x = b ∨ x = l ∨ ∃ r ∈ T, x = r.1, fun _ => none, H, fun n => if n = 0 then some b else none⟩
/-- the inner world at its beginning: nothing yet -/
def Begin {K : PySem.W.Frag} (I : IW K) (s0 : I.S) : Prop := ∀ ad H, (∀ n, ad (n + 1) = none) → I.rep s0 ad (fun _ => False) (fun _ => none) H
theorem lawPt_ok {H : Hp} {s0 : I.S} (h0 : Begin I s0) (B : BagAt H b l) (hT : ∀ r ∈ T, H r.1 = some (.tbl #[])) : (lawPt K b l T I s0 H).Ok := by
  refine ⟨(fun _ _ e => by cases e), fun _ _ => rfl, rfl, .inl rfl, .inr (.inl rfl), fun r hr => ⟨.inr (.inr ⟨r, hr, rfl⟩), #[], hT r hr, trivial, fun pos cv e => ?_⟩, B, fun x hx => ?_, fun _ => False, fun _ h => h.elim, h0 _ _ fun n => by show (if n + 1 = 0 then some b else none) = none; simp⟩
  · have z : PySem.codeAmong pos [] = some cv := e
    simp [PySem.codeAmong] at z
  · obtain ⟨ne, ns, c, g, st, k, h2, h3, h4⟩ := B
    rcases hx with h | h | ⟨r, hr, h⟩
    · exact ⟨_, by rw [h]; exact h2⟩
    · exact ⟨_, by rw [h]; exact h3⟩
    · exact ⟨_, by rw [h]; exact hT r hr⟩
theorem law_ok {st : Stmt} {f fb : Addr} {fdb : FuncData} {k kb n : Nat} {oc kV doc pm cdv ct : Value} {od an : Option Addr} {osl : Array (Option Value)} {N : List Str} {x0 x1 : Str} {rest : List Stmt} {p1 p2 p3 p4 p5 : Pos} {ss : (b l : Addr) → Sv (bagW K b l T I)} (lk : K.lookup f = some ⟨oc, od, .func (PySem.W.fnOf "law" "law" (defArgs st) (defBody st) (defScope st) .none kV doc pm an cdv ct), osl⟩) (hcd : PySem.W.codeIn K cdv "law" = true) (S : FnScope N [x0] (defScope st)) (hn : N.length = n + 2) (h0 : N[0]? = some x0) (h1 : N[1]? = some x1)
    (hv0 : Vis (defScope st) x0) (hv1 : Loc (defScope st) x1) (hd0 : (x0 == ("__debug__" : Str)) = false) (hc0 : (x0 == ("__classdict__" : Str)) = false)
    (hg : (defScope st).names.lookup ("_law_bag" : Str) = some .globalImplicit) (hm : mg "_law_bag" = some (.ref fb)) (hk : PySem.W.keepIn K (.ref fb) = true) (hbb : L2.Binds K fdb ["_law_script"] []) (B : FnOk P w K mg base (L2.CX P w) kb fb fdb ["_law_script"] (spBag K)) (hkb : kb ≤ k)
    (hb : defBody st = .Assign [.Name x1 p1] (.Call (.Name "_law_bag" p2) [.Name x0 p3] [] p4) p5 :: rest)
    (hrest : ∀ (b l : Addr) (A : Around) (outer : List Env) (s : Shared) (H : Hp) (E : XK), Room k (A.deeper (envOfC "law" (defScope st) s.heap.objs.size f cdv)) → Takes (cxOf (L2.CX P w) P w K mg base N "law" (defScope st) f cdv A outer s H E) (fun cls d _ H => E cls d H) →
      PSs (cxOf (L2.CX P w) P w K mg base N "law" (defScope st) f cdv A outer s H E) rest (tS (bagW K b l T I) mg (fun cls d _ H => E cls d H) (ss b l)))
    {s0 : I.S} (hI : Begin I s0) (hpure : ∀ b l : Addr, (ss b l (none :: some (.sh (.obj 0)) :: List.replicate n none) s0).all (fun r => r.1 = .rt (.sh (.bl true))) (fun _ => False)) : FnOk P w K mg base (L2.CX P w) (k + 1) f (PySem.W.fnOf "law" "law" (defArgs st) (defBody st) (defScope st) .none kV doc pm an cdv ct) [x0] (spLaw K T) := by
  refine fn_of lk hcd S (fun vs H Q E ⟨a, ns, h, _⟩ => by rw [h]; rfl) (fun A outer s H vs Q E hr h => ?_)
  have tk : Takes (cxOf (L2.CX P w) P w K mg base N "law" (defScope st) f cdv A outer s H E) (fun cls d _ H => E cls d H) := takes_of rfl rfl rfl rfl
  rw [hb]
  refine ⟨_, pss_cons (ps_set (i := 1) S.nd h1 hv1 (pe_callSD (E := WE fun cls d _ H => E cls d H) B (hr.mono hkb) hg hm hk hbb .nil (passAt tk) (pa_cons (pe_var (i := 0) h0 hv0 hd0 hc0) pa_nil)) (by rfl)) (pss_ex (ι := Addr × Addr) fun i => hrest i.1 i.2 A outer s H E hr tk), ?_⟩
  obtain ⟨a, ns, rfl, hS, hl, hT, hq⟩ := h
  have eN : N.length = n + 2 := hn
  refine ⟨.ref a, ?_, a, ns, rfl, hS, hl, fun b l H' hB hs hbn hln => ⟨(b, l), lawPt K b l T I s0 H', none :: some (.sh (.obj 0)) :: List.replicate n none, lawPt K b l T I s0 H', rfl, ?_, G.all_mono (fun r hr => ?_) (fun x hx => hx.elim) (hpure b l)⟩⟩
  · show (L2.start N [V.ref a])[0]? = _
    unfold L2.start; simp
  · have ok := lawPt_ok (K := K) (T := T) hI hB fun r hr => hs _ _ (hT r hr)
    have es : (L2.start N [V.ref a]).set 1 (some (V.ref b)) = some (.ref a) :: some (.ref b) :: List.replicate n none := by
      unfold L2.start
      rw [eN]
      simp [List.replicate_succ]
    show Rel (lawPt K b l T I s0 H') (none :: some (.sh (.obj 0)) :: List.replicate n none) ((L2.start N [V.ref a]).set 1 (some (V.ref b))) (lawPt K b l T I s0 H')
    rw [es]
    have get : ∀ (i : Nat) vv, (none :: some (VV.sh (.obj 0)) :: List.replicate n none : Nv)[i]? = some (some vv) → i = 1 ∧ vv = .sh (.obj 0) := fun i vv e => by
      match i with
      | 0 => simp at e
      | 1 => simp at e; exact ⟨rfl, e.symm⟩
      | i + 2 =>
        simp only [List.getElem?_cons_succ, List.getElem?_replicate] at e
        split at e <;> cases e
    refine ⟨ok, Ext.refl _, by simp, fun i d e => ?_, fun i d e => ?_, fun i j d d' a _ e => ?_⟩
    · obtain ⟨rfl, h2⟩ := get i _ e
      cases h2
      exact ⟨.ref b, rfl, b, rfl, rfl⟩
    · obtain ⟨_, h2⟩ := get i _ e; cases h2
    · obtain ⟨_, h2⟩ := get i _ e; cases h2
  · obtain ⟨fl, s1⟩ := r
    have hr : fl = .rt (.sh (.bl true)) := hr
    subst hr
    intro v q ex okq es rk
    have : v = .bl true := rk
    subst this
    exact hq _
end
section
variable {P : Program} {w : World} {K : PySem.W.Frag} {mg : Str → Option Value} {base : Heap}
/-- class B: def __init__(self, called): self.called = called -/
theorem base_init {st : Stmt} {q : Str} {f : Addr} {fd : FuncData} {k : Nat} {p1 p2 p3 p4 : Pos} (F : Fun K "__init__" q st f fd) (S : FnScope ["self", "called"] ["self", "called"] (defScope st)) (h1 : (defScope st).names.lookup ("self" : Str) = some .local) (h2 : (defScope st).names.lookup ("called" : Str) = some .local)
    (hb : defBody st = [.Assign [.Attribute (.Name "self" p1) "called" p2] (.Name "called" p3) p4]) : FnOk P w K mg base (L2.CX P w) (k + 1) f fd ["self", "called"] (spA K ["called"] 1 [("called", .inl 0)]) := by
  refine F.okX S (fun vs H Q E ⟨a, C, ys, h, hn, _⟩ => by rw [h, List.length_cons, hn]; rfl) (fun cdv A outer s H vs Q E hr h => ?_)
  obtain ⟨a, C, ys, rfl, hn, T, hno, ha, hq⟩ := h
  match ys, hn with
  | [y], _ =>
    rw [hb]
    refine ⟨_, pss_one (ps_ost (pe_var (i := 0) rfl (.inl h1) (by decide) (by decide)) (pe_var (i := 1) rfl (.inl h2) (by decide) (by decide)) (by rfl)), ?_⟩
    exact ⟨y, rfl, .ref a, rfl, a, C, rfl, T, hno _ (List.mem_cons_self ..), .inl ⟨ha, fun dx hd ne => hq dx hd ne⟩⟩
/-- what a class keeps of the __init__ of the class above it -/
structure AboveOk (P : Program) (w : World) (K : PySem.W.Frag) (mg : Str → Option Value) (base : Heap) (k : Nat) (x : Str) : Prop where
  ex : ∃ C mc f fd, CFn K C mc "__init__" f ∧ mg x = some (.ref C) ∧ FnOk P w K mg base (L2.CX P w) k f fd ["self", "called"] (spA K ["called"] 1 [("called", .inl 0)]) ∧ L2.Binds K fd ["self", "called"] []
abbrev tAbove (K : PySem.W.Frag) (nm : Str) : TE := tCall (spA K ["called"] 1 [("called", .inl 0)]) [] (fun _ _ _ => False) (tCons (tVar 0) (tCons (tC (.str nm)) tNil))
/-- B.__init__(self, 'C') -/
theorem pe_above {X : Cx} {k j : Nat} {x nm : Str} {p1 p2 p3 p4 p5 : Pos} {pl : Sem Bool} (A : AboveOk X.prog X.w X.K X.mg X.base k x) (hr : Room k X.A) (hg : Gl X x := by rfl) (hN : X.N[0]? = some ("self" : Str) := by rfl) (hv : Vis X.env.scope "self" := by exact Or.inl rfl) (hdb : (x == ("__debug__" : Str)) = false := by decide)
    (ht : eval (.Call (.Attribute (.Name x p1) "__init__" p2) [.Name "self" p3, .Constant (.str nm) j p4] [] p5) X.env = (do
      let ov ← eval (.Name x p1) X.env
      standAt p2.atName
      let (f, first) ← holding [ov] (getMethod ov "__init__" pl)
      callWith p5 f first (backTo p5 (starEach [.Name "self" p3, .Constant (.str nm) j p4] X.env)) (backToKw p5 (keywordEach [] X.env))) := by rfl) :
    PE X (.Call (.Attribute (.Name x p1) "__init__" p2) [.Name "self" p3, .Constant (.str nm) j p4] [] p5) (tAbove X.K nm) := by
  obtain ⟨B, mc, fB, fdB, hF, hm, hB, hbb⟩ := A.ex
  exact pe_clscall (E := fun _ _ _ => False) hF hg hm hB hr hbb (passes_call (W := fun _ _ _ _ => False) L2.takes0 fun _ _ _ _ h => h) (pa_cons (pe_var (i := 0) hN hv (by decide) (by decide)) (pa_cons pe_str pa_nil)) hdb (by rfl) (by rfl) ht
/-- class C(B): def __init__(self): B.__init__(self, 'C') -/
theorem own_init0 {st : Stmt} {q nm : Str} {l : List Nat} {f C : Addr} {fd : FuncData} {k : Nat} (F : Fun K "__init__" q st f fd) (S : FnScope ["self"] ["self"] (defScope st))
    (hbody : ∀ (cdv : Value) (A : Around) (outer : List Env) (s : Shared) (H : Hp) (E : XK), Room k (A.deeper (envOfC q (defScope st) s.heap.objs.size f cdv)) → PSs (cxOf (L2.CX P w) P w K mg base ["self"] q (defScope st) f cdv A outer s H E) (defBody st) (tDrop (tAbove K nm)))
    (hnm : nm = ⟨l.toArray⟩) (T : OexC K C) (hno : PySem.W.findIn K (.ref C) "called" = some none) : FnOk P w K mg base (L2.CX P w) (k + 1) f fd ["self"] (spI C 0 [("called", .inr l)]) := by
  refine F.okX S (fun vs H Q E ⟨a, ys, h, hn, _⟩ => by rw [h, List.length_cons, hn]; rfl) (fun cdv A outer s H vs Q E hr h => ⟨_, hbody cdv A outer s H E hr, ?_⟩)
  obtain ⟨a, ys, rfl, hn, ha, hq⟩ := h
  match ys, hn with
  | [], _ =>
    refine ⟨.ref a, rfl, a, C, [.str nm], rfl, rfl, T, fun g hg => ?_, ha, fun dx hd ne => ?_⟩
    · rw [List.mem_singleton.mp hg]; exact hno
    · have := hq dx hd ne
      rw [hnm]
      exact this
end
end VQ
namespace VQ
open PySem PySem.Spec PyProof.Rows L2
theorem bt_len : bootBuiltins "len" = some (.builtin "len") := by decide +kernel
theorem bt_all : bootBuiltins "all" = some (.builtin "all") := by decide +kernel
theorem bt_any : bootBuiltins "any" = some (.builtin "any") := by decide +kernel
theorem bt_list : bootBuiltins "list" = some (.type "list") := by decide +kernel
theorem bt_tuple : bootBuiltins "tuple" = some (.type "tuple") := by decide +kernel
theorem bt_str : bootBuiltins "str" = some (.type "str") := by decide +kernel
section
variable {K : PySem.W.Frag} {M : WM K}
/-- a method of a text with one argument -/
def eM1 (f : D → D → Option R) (ea eb : Ev M D) : Ev M R := fun ρ s => (ea ρ s).bind fun x => match x.1 with
  | .str z => (eb ρ x.2).bind fun y => op (f (.str z) y.1) y.2
  | _ => .bad
end
section
variable {X : Cx} {M : WM X.K} {W : WX} {a b : Expr} {pos : Pos} {ea eb : Ev M D}
theorem ev_starts2 {apos : Pos} (ho : PE X a (tD M X.mg W ea)) (he : PE X b (tD M X.mg W eb)) (hs : starEach [b] X.env = [(false, eval b X.env)] := by rfl) (hbase : attributeBase a "startswith" X.env (eval a X.env) = eval a X.env := by rfl) (hline : (apos.endLine == pos.line) = true := by rfl) :
    PE X (.Call (.Attribute a "startswith" apos) [b] [] pos) (tR M X.mg W (eM1 startsD ea eb)) := ev_starts ho he hs hbase hline
end
end VQ
namespace VQ
open PySem PySem.Spec PyProof.Rows L2 LamX
section
variable {K : PySem.W.Frag} {mg : Str → Option Value} {cl : Cl} {xt : Xt}
theorem XtOk.nil : XtOk K mg cl [] := ⟨fun x f h => by cases h⟩
theorem XtOk.cons {x : Str} {f : Option Str} {C : Addr} (h1 : mg x = some (.ref C)) (h2 : XfC K C) (h3 : PySem.W.findIn K (.ref C) "called" = some none) (h4 : ∀ g, f = some g → PySem.W.findIn K (.ref C) g = some none) (h5 : MatchAt K (.ref C) cl f) (r : XtOk K mg cl xt) : XtOk K mg cl ((x, f) :: xt) := ⟨fun y g h => by
  have h' : (match y == x with | true => some f | false => xt.lookup y) = some g := h
  cases z : y == x with
  | true =>
    rw [z] at h'
    cases h'
    have e : y = x := by simpa using z
    rw [e]
    exact ⟨C, h1, h2, h3, h4, h5⟩
  | false => rw [z] at h'; exact r.at_ y g h'⟩
end
/-- the name of a def's lambdas -/
abbrev lamQ (x : Str) : Str := (x ++ ".<locals>.") ++ "<lambda>"
theorem lamIn {P : Program} {w : World} {K : PySem.W.Frag} {mg : Str → Option Value} {base : Heap} {M : WM K} {N : List Str} {sc : Scope} {f c Pt : Addr} {A : Around} {outer : List Env} {s : Shared} {H : Hp} {E : XK} {q : Str} (TB : TabB base mg c Pt) (hm : (Pt, lamQ q) ∈ M.T) (hu : ∀ r ∈ M.T, r.1 = Pt → r.2 = lamQ q) :
    LamIn (cxOf (L2.CX P w) P w K mg base N q sc f (.ref c) A outer s H E) M := ⟨⟨c, Pt, TB, rfl, hm, hu⟩⟩
end VQ

namespace VQ
open PySem PySem.Spec PyProof.Rows L2 LamX
theorem walk_tab {l : PySem.W.OpenLaw} {n k : Nat} {q : Program} {loose : List Str} {XP : (Str → Option Value) → Heap → Prop} {YP : World → Heap → Prop} {d : DefRec} {K : Params → PySem.W.Frag} {CX : World → CXT} {x : Str}
    (hn : l.most = some n) (hn2 : n ≤ sizeLine) (hdf : d.params.defaults = []) (hr : Room k callerA) (hY : ∀ (w : World) (h : Heap), YP w h → (K w.params).In h) (hd0 : (PyProof.Rows.recsOf q).find? (fun e => e.name == d.name) = some d)
    (F : ∀ (w : World) (mg : Str → Option Value) (fa : Addr) (h : Heap), (K w.params).In h → h.Ns mainGlobals mg → mg d.name = some (.ref fa) → (∀ c P, PySem.W.tabIn (K w.params) d.name = some (c, P) → PySem.W.CodeHd h c P ∧ h.get? P = some { cls := .none, data := .fields #[] }) → LawAtS l w (K w.params) (CX w) k n x mg fa h)
    (hCX : ∀ (w : World) (H : Hp) (s : Shared) (e : Value) (s' : Shared), CX w [] H s (fun _ _ _ => False) e s' → False) :
    PySem.W.WalkO q loose XP YP l.row.toRowW d [] (fun f vs => PySem.call f vs) := by
  refine Att.attach_callB hn hdf fun w s₀ s₁ mg mb fa o pm cd doc a vs ns G Y ho hd hcd hmg hobj hints hlen hbits hg => ?_
  have KX := hY w _ Y
  obtain ⟨fd, cs, sp, hT, nT, C, hb, hsp, hF⟩ := F w mg fa _ KX G.T.g hmg fun c P ht => PySem.W.tab_of G.T KX hd0 ht
  exact law_callTs KX G.T.g G.T.b G.T.builtins G.T.nolimit hg hT nT C G.T.bmain hobj hints (Nat.le_trans hlen hn2) hr hF hb (fun H hH hS => hsp H a ns hlen hbits hH hS) fun H e s' => hCX w H s₁ e s'
theorem cx_none (P : Program) (w : World) (H : Hp) (s : Shared) (e : Value) (s' : Shared) : L2.CX P w [] H s (fun _ _ _ => False) e s' → False := fun ⟨_, _, _, _, _, _, _, _, _, _, _, _, h⟩ => h
/-- a proposition shut up -/
structure Box (p : Prop) : Prop where
  out : p
section
variable {P : Program} {w : World} {K : PySem.W.Frag} {mg : Str → Option Value} {base : Heap} {T : List (Addr × Str)} {I : IW K}
theorem law_okW {st : Stmt} {f fb : Addr} {fdb : FuncData} {k kb n : Nat} {oc kV doc pm cdv ct : Value} {od an : Option Addr} {osl : Array (Option Value)} {N : List Str} {x0 x1 : Str} {rest : List Stmt} {p1 p2 p3 p4 p5 : Pos} {ss : (b l : Addr) → Sv (bagW K b l T I)} (lk : K.lookup f = some ⟨oc, od, .func (PySem.W.fnOf "law" "law" (defArgs st) (defBody st) (defScope st) .none kV doc pm an cdv ct), osl⟩) (hcd : PySem.W.codeIn K cdv "law" = true) (S : FnScope N [x0] (defScope st)) (hn : N.length = n + 2) (h0 : N[0]? = some x0) (h1 : N[1]? = some x1)
    (hv0 : Vis (defScope st) x0) (hv1 : Loc (defScope st) x1) (hd0 : (x0 == ("__debug__" : Str)) = false) (hc0 : (x0 == ("__classdict__" : Str)) = false)
    (hg : (defScope st).names.lookup ("_law_bag" : Str) = some .globalImplicit) (hm : mg "_law_bag" = some (.ref fb)) (hk : PySem.W.keepIn K (.ref fb) = true) (hbb : L2.Binds K fdb ["_law_script"] []) (B : FnOk P w K mg base (L2.CX P w) kb fb fdb ["_law_script"] (spBag K)) (hkb : kb ≤ k)
    (hb : defBody st = .Assign [.Name x1 p1] (.Call (.Name "_law_bag" p2) [.Name x0 p3] [] p4) p5 :: rest)
    (hrest : ∀ (b l : Addr) (A : Around) (outer : List Env) (s : Shared) (H : Hp) (E : XK), Room k (A.deeper (envOfC "law" (defScope st) s.heap.objs.size f cdv)) → Takes (cxOf (L2.CX P w) P w K mg base N "law" (defScope st) f cdv A outer s H E) (fun cls d _ H => E cls d H) →
      PSs (cxOf (L2.CX P w) P w K mg base N "law" (defScope st) f cdv A outer s H E) rest (tS (bagW K b l T I) mg (fun cls d _ H => E cls d H) (ss b l)))
    {s0 : I.S} (hI : Begin I s0) (hpure : ∀ b l : Addr, Box ((ss b l (none :: some (.sh (.obj 0)) :: List.replicate n none) s0).all (fun r => r.1 = .rt (.sh (.bl true))) (fun _ => False))) : FnOk P w K mg base (L2.CX P w) (k + 1) f (PySem.W.fnOf "law" "law" (defArgs st) (defBody st) (defScope st) .none kV doc pm an cdv ct) [x0] (spLaw K T) :=
  law_ok lk hcd S hn h0 h1 hv0 hv1 hd0 hc0 hg hm hk hbb B hkb hb hrest hI fun b l => (hpure b l).out
end
end VQ

namespace VQ
open PySem PySem.Spec PyProof.Rows L2 LamX
structure LamS1 (a : Str) (sc scope : Scope) : Prop where
  kind : scope.kind = .function
  co : scope.isCoroutine = false
  gen : scope.isGenerator = false
  own : ∀ y ∈ scope.names, y.2 ≠ .cell ∧ (y.2 = .local → y.1 = a)
  free : ∀ y ∈ scope.names, y.2 = .free → sc.names.lookup y.1 = some .cell ∨ sc.names.lookup y.1 = some .free
  loc : scope.names.lookup a = some .local
def lamSB1 (a : Str) (sc scope : Scope) : Bool :=
  decide (scope.kind = .function) && !scope.isCoroutine && !scope.isGenerator && (scope.names.all fun y => !decide (y.2 = .cell) && (!decide (y.2 = .local) || decide (y.1 = a)) && (!decide (y.2 = .free) || decide (sc.names.lookup y.1 = some .cell) || decide (sc.names.lookup y.1 = some .free))) && decide (scope.names.lookup a = some .local)
theorem lamS1_by {a : Str} {sc scope : Scope} (h : lamSB1 a sc scope = true) : LamS1 a sc scope := by
  unfold lamSB1 at h
  simp only [Bool.and_eq_true, Bool.or_eq_true, Bool.not_eq_true', decide_eq_true_eq, decide_eq_false_iff_not, List.all_eq_true] at h
  obtain ⟨⟨⟨⟨h1, h2⟩, h3⟩, h4⟩, h5⟩ := h
  refine ⟨h1, h2, h3, fun y hy => ⟨(h4 y hy).1.1, fun e => ?_⟩, fun y hy e => ?_, h5⟩
  · rcases (h4 y hy).1.2 with z | z
    · exact absurd e z
    · exact z
  · rcases (h4 y hy).2 with (z | z) | z
    · exact absurd e z
    · exact .inl z
    · exact .inr z
theorem LamS1.has {X : Cx} {a : Str} {scope : Scope} (L : LamS1 a X.env.scope scope) (ok : X.Ok) : ∀ y ∈ scope.names, y.2 = .free → ∃ c, X.env.cells.lookup y.1 = some c := fun y hy e => by
  rcases L.free y hy e with k | k
  · exact ok.has _ (.inl k)
  · exact ok.has _ (.inr k)
section
variable {X : Cx} {pins : List (Addr × Obj)} {σ : L2.St} {H HZ : Hp} {s s1 : Shared}
theorem lam_mk1 {c P : Addr} {params : Arguments} {body : Expr} {scope : Scope} {pos : Pos} {E : Value → Shared → Prop} {Q : Value → Shared → Prop} {ps : Array Value} {i0 : Int} {j0 : Nat} {p0 : Pos} (I : L2.Inv X pins σ H s) (TB : TabB X.base X.mg c P) (hcode : X.env.code = .ref c)
    (hP : H P = some (.tbl ps)) (ht : TriplesOk ps.toList) (ha : ∀ pos cv, codeAmong pos ps.toList = some cv → ∃ c, cv = .ref c ∧ H c = some (CodeO c (X.env.qual ++ "<lambda>"))) (hd : params.defaults = [.Constant (.int i0) j0 p0]) (hk0 : params.kw_defaults = []) (hfree : ∀ y ∈ scope.names, y.2 = .free → ∃ c, X.env.cells.lookup y.1 = some c)
    (h : ∀ (f c' t : Addr) (tk : Tok) (doc pm ctv : Value) (H1 : Hp) (s' : Shared), L2.Inv X pins σ H1 s' → Laid H H1 P c' (X.env.qual ++ "<lambda>") ps →
      s'.heap.get? f = some (PySem.W.kdv_obj "<lambda>" (X.env.qual ++ "<lambda>") params (.expr body) scope (cloFrom X.env.cells scope.names []) (.ref t) doc pm c' ctv) → s'.heap.get? t = some (PySem.W.kdv_tup [.int i0 tk]) → H1 f = none → f ∉ frs X.stack → H1 t = none → t ∉ frs X.stack → H1 c' = some (CodeO c' (X.env.qual ++ "<lambda>")) → Q (.ref f) s') :
    wpAny (model X.prog X.w) X.A (eval (.Lambda params body scope pos) X.env) Q E s := by
  refine PySem.W.kdv_lam (by rw [hd]; rfl) hk0 ?_
  rw [hd]
  refine PySem.W.kdv_all1 (thn ((pe_int (X := X) (i := i0) (j := j0) (pos := p0)).run pins s σ H (fun v H1 => v = .int i0 ∧ H1 = H) I ⟨rfl, rfl⟩) fun u s1 ⟨v, H1, I1, r1, q1⟩ => ?_)
  obtain ⟨ev, eH⟩ := q1
  subst ev
  rw [eH] at I1
  obtain ⟨tk, rfl⟩ := r1
  refine PySem.W.kdv_all0 ?_
  rw [makeFunction_eq]
  simp only [List.zip_nil_right, List.filterMap_nil, List.isEmpty_nil, List.isEmpty_cons, if_true, Bool.false_eq_true, if_false, pure_bind]
  refine wpAny_bind (wpAny_newTextTuple ?_)
  generalize hsT : ({ s1 with heap := s1.heap.push { cls := .type "tuple", data := .seq #[.int i0 tk] } } : Shared) = sT
  have IT : L2.Inv X pins σ H sT := by subst hsT; exact I1.kept fun b o e => Heap.get?_push_of_some _ e
  have hT : sT.heap.get? s1.heap.objs.size = some (PySem.W.kdv_tup [.int i0 tk]) := by subst hsT; exact Heap.get?_push_size _ rfl
  have hTs : s1.heap.objs.size < sT.heap.objs.size := Heap.lt_size hT
  have nofrT : s1.heap.objs.size ∉ frs X.stack := fun z => by
    rcases List.mem_cons.mp (I1.stkSub _ z) with e | e
    · have h1 := I1.lt
      rw [← e] at h1
      exact Nat.lt_irrefl _ h1
    · exact I1.nofs (Nat.le_refl _) e
  have nHT : H s1.heap.objs.size = none := I1.hok.fresh (Nat.le_refl _)
  have bP : sT.heap.BuiltinsAt X.mg P := TB.bm.keeps IT.bk
  have hP' : sT.heap.get? P = some { cls := .none, data := .fields ps } := IT.hok P _ hP
  have nofr : ∀ f, sT.heap.objs.size ≤ f → f ∉ frs X.stack := fun f hf z => by
    rcases List.mem_cons.mp (IT.stkSub _ z) with e | e
    · have h1 := IT.lt
      rw [← e] at h1
      exact Nat.lt_irrefl _ (Nat.lt_of_lt_of_le h1 hf)
    · exact IT.nofs hf e
  cases hc : codeAmong pos ps.toList with
  | none =>
    refine PySem.W.kdv_makeTail (mg := X.mg) (c := c) (P := P) (ps := ps) (closure_ok hfree) IT.ok.glob (IT.mod.glob.keeps IT.bk) hcode (TB.code.keeps IT.bk) hP' ht hc TB.gP bP fun c' ctv doc h' tk' hx hge hlt hrec htb => ?_
    obtain ⟨c2, oc, vs, t, e2, hoc, hd, hv⟩ := hrec
    cases e2
    have hsz : sT.heap.objs.size ≤ h'.objs.size := Nat.le_trans hge (Nat.le_of_lt hlt)
    have nC : H c' = none := IT.hok.fresh hge
    have nTP : s1.heap.objs.size ≠ P := fun e => by rw [e, hP] at nHT; cases nHT
    have nTc : s1.heap.objs.size ≠ c' := Nat.ne_of_lt (Nat.lt_of_lt_of_le hTs hge)
    have I2 := inv_table (t' := tk') (more := #[rawInt pos.line, rawInt pos.col, .ref c']) (h' := h'.push (PySem.W.kdv_obj "<lambda>" (X.env.qual ++ "<lambda>") params (.expr body) scope (cloFrom X.env.cells scope.names []) (.ref s1.heap.objs.size) doc ((X.mg "__name__").getD .none) c' ctv)) IT hP
      (fun b o hb e => Heap.get?_push_of_some _ (hx b o hb e)) (Heap.get?_push_of_some _ htb) hge ⟨oc, vs, t, Heap.get?_push_of_some _ hoc, hd, hv⟩
    have eL : (ps ++ #[rawInt pos.line, rawInt pos.col, .ref c']).toList = ps.toList ++ [rawInt pos.line, rawInt pos.col, .ref c'] := by simp
    refine h h'.objs.size c' s1.heap.objs.size tk doc ((X.mg "__name__").getD .none) ctv _ _ I2 (.inr ⟨_, rfl, nC, by rw [eL]; exact PySem.TriplesOk_snoc _ _ _ _ ht, fun p' cv hcv => ?_⟩) (Heap.get?_push_size _ rfl) (Heap.get?_push_of_some _ (hx _ _ nTP hT)) ?_ (nofr _ hsz) ?_ nofrT upd_same
    · rw [eL] at hcv
      exact among_app _ ht hcv
    · have n1 : h'.objs.size ≠ c' := Nat.ne_of_gt hlt
      have n2 : h'.objs.size ≠ P := Nat.ne_of_gt (Nat.lt_of_lt_of_le (Heap.lt_size hP') hsz)
      rw [upd_ne n1, upd_ne n2]
      exact IT.hok.fresh hsz
    · rw [upd_ne nTc, upd_ne nTP]
      exact nHT
  | some cv =>
    obtain ⟨c', e, hco⟩ := ha pos cv hc
    subst e
    refine PySem.W.kdv_makeTailHit (mg := X.mg) (c := c) (P := P) (ps := ps) (closure_ok hfree) IT.ok.glob (IT.mod.glob.keeps IT.bk) hcode (TB.code.keeps IT.bk) hP' ht hc bP fun ctv doc h' tk' hx hsz => ?_
    have I2 : L2.Inv X pins σ H { sT with heap := h'.push (PySem.W.kdv_obj "<lambda>" (X.env.qual ++ "<lambda>") params (.expr body) scope (cloFrom X.env.cells scope.names []) (.ref s1.heap.objs.size) doc ((X.mg "__name__").getD .none) c' ctv), toks := tk' } := IT.kept fun b o e => Heap.get?_push_of_some _ (hx b o e)
    exact h h'.objs.size c' s1.heap.objs.size tk doc ((X.mg "__name__").getD .none) ctv H _ I2 (.inl ⟨rfl, pos, hc⟩) (Heap.get?_push_size _ rfl) (Heap.get?_push_of_some _ (hx _ _ hT)) (IT.hok.fresh hsz) (nofr _ hsz) nHT nofrT hco
/-- the lambda's body, entered -/
theorem lam_start3 {A : Around} {outer : List Env} {E : XK} {a : Str} {scope : Scope} {f c' : Addr} {h₁ : Heap} {tk : Nat} {binds : List (Str × Value)} (I : L2.Inv X pins σ H s) (L : LamS1 a X.env.scope scope) (hN : ∀ (i : Nat) v, X.N[i]? = some a → σ[i]? ≠ some (some v)) (e0 : Env0 X.prog X.w X.K X.mg X.base A outer s1 HZ) (hd : A.handled = none)
    (un : Un (frs X.stack) [] H HZ s.heap s1.heap) (hns : h₁.Ns s1.heap.objs.size fun y => binds.reverse.lookup y) (kp : ∀ b o, s1.heap.get? b = some o → h₁.get? b = some o) :
    L2.Inv (lamCx X A outer s1 HZ E scope f c') [] σ HZ { s1 with heap := h₁, toks := tk } := by
  have hfree := L.has I.ok
  have cm : ∀ {y c}, (cloFrom X.env.cells scope.names []).lookup y = some c → X.env.cells.lookup y = some c := fun {y c} e => by
    rcases cloFrom_mem (PySem.mem_of_lookup e) with hm | ⟨h1, h2⟩
    · cases hm
    · obtain ⟨c1, hc⟩ := hfree _ h1 rfl
      have hc : X.env.cells.lookup y = some c1 := hc
      have e2 : c = c1 := by
        rw [h2, hc] <;> rfl
      rw [e2]
      exact hc
  have look : ∀ {y}, scope.names.lookup y = some .free → ∃ c, (cloFrom X.env.cells scope.names []).lookup y = some c := fun {y} hl => by
    have hy : (y, NameKind.free) ∈ scope.names := PySem.mem_of_lookup hl
    exact mem_lookup (cloFrom_has (cells := X.env.cells) (acc := []) hy)
  have cellK : ∀ {c : Addr} {v : Option Value}, H c = none → s.heap.IsCell c v → h₁.IsCell c v := fun {c v} n ⟨o, ho, hd⟩ => by
    obtain ⟨sl, q⟩ := un.any ho n (by simp)
    exact ⟨_, kp _ _ q, hd⟩
  have noA : ∀ b : Addr, b ∉ (lamCx X A outer s1 HZ E scope f c').ex := fun b z => absurd (show b ∈ ([] : List Addr) from z) (by simp)
  refine ⟨⟨e0.mod, L.kind, rfl, rfl, Nat.le_refl _, fun y z c e1 e2 => I.ok.inj y z c (cm e1) (cm e2), fun y hy => ?_, fun y c z _ => ?_, fun _ => hd, Around.frames_deeper e0.frames, .inr ⟨rfl, rfl⟩, fun b z => absurd z (noA b), e0.bs, e0.bsz, fun b _ _ => noA b,
      fun b z => absurd z (noA b), e0.funs, e0.frf⟩,
    rfl, e0.bare, Un.kept kp, ⟨_, hns, fun i y v e1 e2 e3 => ?_⟩, fun y c e => ?_, e0.hok.fresh (Nat.le_refl _), fun y c e => ?_, fun q hq => absurd (show q ∈ ([] : List (Addr × Obj)) ++ [] from hq) (by simp), e0.hok.kept kp, I.len⟩
  · have hy : scope.names.lookup y = some .cell ∨ scope.names.lookup y = some .free := hy
    rcases hy with hy | hy
    · exact absurd rfl (L.own _ (PySem.mem_of_lookup hy)).1
    · exact look hy
  · have z : false = true := z
    cases z
  · have e3 : Vis scope y := e3
    rcases e3 with k | k | k
    · have e : y = a := (L.own _ (PySem.mem_of_lookup k)).2 rfl
      subst e
      exact absurd e2 (hN i _ e1)
    · exact absurd rfl (L.own _ (PySem.mem_of_lookup k)).1
    · obtain ⟨m, hn, hl⟩ := I.loc
      have hvis : Vis X.env.scope y := (L.free _ (PySem.mem_of_lookup k) rfl).elim (fun k => .inr (.inl k)) (fun k => .inr (.inr k))
      obtain ⟨w', r, q⟩ := hl i y v e1 e2 hvis
      obtain ⟨c2, h2⟩ := look k
      refine ⟨w', r, .inr ⟨.inr k, c2, h2, ?_⟩⟩
      have c1 := cm h2
      rcases q with ⟨k', _⟩ | ⟨_, c3, e', z⟩
      · have k' : X.env.scope.names.lookup y = some .local := k'
        rcases L.free _ (PySem.mem_of_lookup k) rfl with k2 | k2 <;> rw [show X.env.scope.names.lookup y = _ from k2] at k' <;> cases k'
      · rw [c1] at e'
        cases e'
        exact cellK (I.freeC y _ c1) z
  · obtain ⟨w', z⟩ := I.cell y c (cm e)
    exact ⟨w', cellK (I.freeC y c (cm e)) z⟩
  · obtain ⟨v, o, ho, hd⟩ := I.cell y c (cm e)
    exact un.free c o ho (I.freeC y c (cm e)) (by simp)
theorem lam_run1 {a : Str} {f c' t0 : Addr} {doc pm ctv v0 : Value} {params : Arguments} {body : Expr} {scope : Scope} {k : Nat} {t : XK → TE} (I : L2.Inv X pins σ H s) (L : LamS1 a X.env.scope scope) (hN : ∀ (i : Nat) v, X.N[i]? = some a → σ[i]? ≠ some (some v))
    (hf : s.heap.get? f = some (PySem.W.kdv_obj "<lambda>" (X.env.qual ++ "<lambda>") params (.expr body) scope (cloFrom X.env.cells scope.names []) (.ref t0) doc pm c' ctv)) (hfn : H f = none) (hfr : f ∉ frs X.stack)
    (hft : s.heap.get? t0 = some (PySem.W.kdv_tup [v0])) (htn : H t0 = none) (htr : t0 ∉ frs X.stack)
    (hbind : ∃ kk : Option (Array Value) → Sem (List (Str × Value)), bindArgs (PySem.W.kdv_fn "<lambda>" (X.env.qual ++ "<lambda>") params (.expr body) scope (cloFrom X.env.cells scope.names []) (.ref t0) doc pm (.ref c') ctv) ⟨[], []⟩ = (seqItems? (.ref t0) >>= kk) ∧ kk (some #[v0]) = pure [(a, v0)])
    (hbody : ∀ (A : Around) (outer : List Env) (s : Shared) (H : Hp) (E : XK), Room k (A.deeper (lamEnv X scope s.heap.objs.size f c')) → PE (lamCx X A outer s H E scope f c') body (t E)) :
    LamRun X.prog X.w X.K X.mg X.base (frs X.stack) H s.heap f c' (X.env.qual ++ "<lambda>") k (fun E HZ Q => t E σ HZ Q) := by
  refine ⟨⟨_, _, _, _, hf⟩, hfn, hfr, fun A outer s1 HZ Q E hr e0 un hc ht => ?_⟩
  have of1 : s1.heap.get? f = some (PySem.W.kdv_obj "<lambda>" (X.env.qual ++ "<lambda>") params (.expr body) scope (cloFrom X.env.cells scope.names []) (.ref t0) doc pm c' ctv) := un.keep f _ hf hfn hfr (by simp)
  have ot1 : s1.heap.get? t0 = some (PySem.W.kdv_tup [v0]) := un.keep t0 _ hft htn htr (by simp)
  obtain ⟨⟨oc, vs, t', hoc, hdc, hvc⟩, _, _⟩ := e0.hok c' _ hc
  have lim : s1.heap.NoLimit := e0.mod.nolimit.keeps fun b o e => (e0.bs b o e).1
  obtain ⟨kk, hb1, hb2⟩ := hbind
  have hbt : BindsTo s1 (PySem.W.kdv_fn "<lambda>" (X.env.qual ++ "<lambda>") params (.expr body) scope (cloFrom X.env.cells scope.names []) (.ref t0) doc pm (.ref c') ctv) ⟨[], []⟩ [(a, v0)] := BindsTo.of_defaults rfl ot1 rfl hb1 hb2
  refine PySem.W.kla_callFunE hr.depth of1 rfl L.co L.gen rfl ⟨c', oc, vs, t', rfl, hoc, hdc, hvc⟩ (hbt _ _ _ _ ?_)
  refine wpAny_newFunctionEnv (fun y hy => (L.own y hy).1) (fun y hy => ?_) (fun h₁ hns hsb => ⟨lim.fresh _ hsb, ?_⟩) L.kind
  · rw [List.mem_singleton.mp hy]; exact L.loc
  show codeAny _ _ (.expr body (lamEnv X scope s1.heap.objs.size f c')) _ _
  have kp : ∀ b o, s1.heap.get? b = some o → h₁.get? b = some o := fun b o e => hsb.extBut b o (Nat.ne_of_lt (Heap.lt_size e)) (Heap.get?_push_of_some _ e)
  have J : L2.Inv (lamCx X A outer s1 HZ E scope f c') [] σ HZ { s1 with heap := h₁, toks := s1.toks + ([(a, v0)] : List (Str × Value)).length } :=
    lam_start3 I L hN e0 hr.hd un hns kp
  refine PySem.W.kla_codeExpr (wpAny_mono ((hbody _ _ s1 HZ E (hr.deeper _)).run [] _ _ HZ Q J ht) (fun v s' hq => ?_) fun e s' hq => hq)
  obtain ⟨w', H', J', rv, q⟩ := hq
  exact ⟨w', H', J'.os, J'.bare, J'.base, J'.hok, rv, q⟩
end
section
variable {X : Cx} {M : WM X.K} {W : WX} {ee eT : Ev M D} {a : Str} {i0 : Int} {j0 : Nat} {p0 : Pos}
def eWipe {K : PySem.W.Frag} {M : WM K} {α : Type} (vs : List Nat) (ee : Ev M α) : Ev M α := fun ρ s => ee (wipeD vs ρ) s
theorem wipe_some {σ : Sl} {vs : List Nat} {i : Nat} {v : V} (e : (wipe σ vs)[i]? = some (some v)) : σ[i]? = some (some v) ∧ i ∉ vs := by
  by_cases h : i ∈ vs
  · rw [wipe_at vs σ h] at e
    split at e <;> cases e
  · rw [wipe_out h] at e
    exact ⟨e, h⟩
/-- what a call of the lambda without arguments binds -/
def Binds1 (a : Str) (params : Arguments) (body : Expr) (scope : Scope) : Prop := ∀ (q : Str) (cl : List (Str × Addr)) (t0 : Addr) (doc pm cv ctv v0 : Value), ∃ kk : Option (Array Value) → Sem (List (Str × Value)), bindArgs (PySem.W.kdv_fn "<lambda>" q params (.expr body) scope cl (.ref t0) doc pm cv ctv) ⟨[], []⟩ = (seqItems? (.ref t0) >>= kk) ∧ kk (some #[v0]) = pure [(a, v0)]
theorem pe_lamG1 {x : Str} {g c P : Addr} {k : Nat} {params : Arguments} {body : Expr} {scope : Scope} {p lpos pos : Pos} (hg : Gl X x) (hm : X.mg x = some (.ref g)) (hk : PySem.W.keepIn X.K (.ref g) = true)
    (hrun : ∀ (σ : Sl) (s : Shared) (H : Hp) (Q : VK) (f c' : Addr) (ρ : Dv) (q : Pt M) (X' : Exc × M.S → Prop), Env0 X.prog X.w X.K X.mg X.base X.A X.stack s H → LamRun X.prog X.w X.K X.mg X.base (frs X.stack) H s.heap f c' (X.env.qual ++ "<lambda>") k (fun E HZ Q => tD M X.mg (fun cls d _ H => E cls d H) ee σ HZ Q) →
      H c' = some (CodeO c' (X.env.qual ++ "<lambda>")) → q.H = H → q.Ok → EnvD M q σ ρ → (eT ρ q.s).all (fun r => ∀ v (q1 : Pt M), Ext q q1 → q1.Ok → q1.s = r.2 → Den X.K q1.ad q1.Hv r.1 v → Q v q1.H) X' → codeAny (model X.prog X.w) X.A (.call (.ref g) ⟨[.ref f], []⟩) (CR (L2.CX X.prog X.w) X.stack X.prog X.w H s Q E00) s)
    (TB : TabB X.base X.mg c P) (hcode : X.env.code = .ref c) (hmT : (P, X.env.qual ++ "<lambda>") ∈ M.T) (hu : ∀ r ∈ M.T, r.1 = P → r.2 = X.env.qual ++ "<lambda>") (L : LamS1 a X.env.scope scope) (vs : List Nat) (hN : ∀ i : Nat, X.N[i]? = some a → i ∈ vs) (hd : params.defaults = [.Constant (.int i0) j0 p0]) (hk0 : params.kw_defaults = [])
    (hbind : Binds1 a params body scope)
    (hbody : ∀ (A : Around) (outer : List Env) (s : Shared) (H : Hp) (E : XK) (f c' : Addr), Room k (A.deeper (lamEnv X scope s.heap.objs.size f c')) → PE (lamCx X A outer s H E scope f c') body (tD M X.mg (fun cls d _ H => E cls d H) ee))
    (hdb : (x == ("__debug__" : Str)) = false := by decide) : PE X (.Call (.Name x p) [.Lambda params body scope lpos] [] pos) (tD M X.mg W (eWipe vs eT)) := by
  refine ⟨fun pins s σ H Q I h => ?_⟩
  obtain ⟨ρ, q, hH, ok, en, hq⟩ := h
  subst hH
  obtain ⟨fP, ps, hP, ht, ha⟩ := M.tabs ok.rep _ hmT
  refine wpAny_Call_Name_kw (ld_glob I hg hm ?_ hdb)
  refine PySem.W.callWith_K (h₀ := X.base) I.ok.mod.kin hk ?_ (by rfl) (by rfl)
  show wpAny _ _ (spliced ((false, eval (.Lambda params body scope lpos) X.env) :: backTo pos (starEach [] X.env))) _ _ s
  refine Calls.spliced_cons (lam_mk1 I TB hcode hP ht (fun pos cv e => (ha pos cv e).imp fun c h => ⟨h.1, h.2.1⟩) hd hk0 (L.has I.ok) fun f c' t0 tk doc pm' ctv H1 s' I1 ld hf hft hfn hfr htn htr hco => ?_)
  refine Calls.spliced_nil ⟨I1.kIn, ?_⟩
  obtain ⟨p1, e1, e2, ex, ok1⟩ := laid_pt ok hmT hu hP fP ht ha ld
  have IW : L2.Inv X pins (wipe σ vs) H1 s' := I1.weak (wipe_length ..) fun i v e => (wipe_some e).1
  have l := lam_run1 (k := k) (t := fun E => tD M X.mg (fun cls d _ H => E cls d H) ee) IW L (fun i v e1 e2 => (wipe_some e2).2 (hN i e1)) hf hfn hfr hft htn htr (hbind _ _ _ _ _ _ _ _) fun A outer s H E hr => hbody A outer s H E f c' hr
  refine wpAny_call (codeAny_mono (hrun (wipe σ vs) s' H1 Q f c' (wipeD vs ρ) p1 (fun _ => True) I1.env0 l hco e1 ok1 (wipe_env (en.ext ex)) ?_) fun r s2 hq => ?_)
  · rw [e2]
    exact G.all_mono (fun r hr v q1 e o es dv => hr v q1 (ex.trans e) o es dv) (fun _ _ => trivial) hq
  · cases r with
    | error e => exact passes_call (X := X) (W := fun _ _ _ _ => False) L2.takes0 (fun _ _ _ _ h => h) pins σ H1 s' e s2 I1 hq
    | ok fl =>
      cases fl with
      | ret u => exact I1.after hq
      | next => exact False.elim hq
      | brk => exact False.elim hq
      | cont => exact False.elim hq
variable {g g' : Addr} {cl : Cl} {xt : Xt} {k j : Nat} {params : Arguments} {body : Expr} {scope : Scope} {p lpos pos : Pos}
/-- _law_word(lambda a=0: e) -/
theorem ev_word1w (a : Str) (vs : List Nat) (D : TriedDef X.prog X.w X.K X.mg X.base g cl) (D' : WordDef X.prog X.w X.K X.mg X.base g') (hx : XtOk X.K X.mg cl xt) (hl : LamIn X M) (hr : Room j X.A) (k : Nat)
    (hbody : ∀ (A : Around) (outer : List Env) (s : Shared) (H : Hp) (E : XK) (f c' : Addr), Room k (A.deeper (lamEnv X scope s.heap.objs.size f c')) → Takes (lamCx X A outer s H E scope f c') (fun cls d _ H => E cls d H) → PE (lamCx X A outer s H E scope f c') body (tD M X.mg (fun cls d _ H => E cls d H) ee))
    (hN : ∀ i : Nat, X.N[i]? = some a → i ∈ vs) (hj : k + 3 ≤ j := by decide) (hg : Gl X "_law_word" := by rfl) (hL : lamSB1 a X.env.scope scope = true := by rfl) (hd : params.defaults = [.Constant (.int i0) j0 p0] := by rfl) (hk0 : params.kw_defaults = [] := by rfl)
    (hbind : Binds1 a params body scope := by intro _ _ _ _ _ _ _ _; exact ⟨_, rfl, rfl⟩) : PE X (.Call (.Name "_law_word" p) [.Lambda params body scope lpos] [] pos) (tD M X.mg W (eWipe vs (eFst (eTried xt ee)))) := by
  obtain ⟨c, P, TB, hcode, hmT, hu⟩ := hl.ex
  obtain ⟨st, fd, _, _, _, _, _, _, _, F, _⟩ := id D'.ex
  refine pe_lamG1 hg D'.glob F.kp (fun σ s H Q f c' ρ q X' e0 l hc e1 ok en hq => ?_) TB hcode hmT hu (lamS1_by hL) vs hN hd hk0 hbind (fun A outer s H E f c' hr => hbody A outer s H E f c' hr (takes_of rfl rfl rfl rfl))
  subst e1
  refine word_run D D' (hr.mono hj) e0 l hc (tried_ok ok en hx (X' := X') (G.all_mono (fun r hr v q1 e ok1 es dv => ?_) (fun _ h => h) (G.all_bind.mp hq)))
  obtain ⟨d, s1⟩ := r
  cases d with
  | tup ds =>
    cases ds with
    | nil => exact hr.elim
    | cons d0 ds =>
      obtain ⟨a, vs, rfl, h1, h2⟩ := dv
      obtain ⟨v, r, rfl, h3, h4⟩ := h2
      exact .inr (.inl ⟨a, v :: r, 0, v, rfl, rfl, sqT_same ok1.view h1, (atI_nat rfl : atI (v :: r) ((0 : Nat) : Int) = some v), hr v q1 e ok1 es h3⟩)
  | _ => exact hr.elim
/-- _law_word(lambda a=0: e), a no name of the law's -/
theorem ev_word1 (a : Str) (D : TriedDef X.prog X.w X.K X.mg X.base g cl) (D' : WordDef X.prog X.w X.K X.mg X.base g') (hx : XtOk X.K X.mg cl xt) (hl : LamIn X M) (hr : Room j X.A) (k : Nat)
    (hbody : ∀ (A : Around) (outer : List Env) (s : Shared) (H : Hp) (E : XK) (f c' : Addr), Room k (A.deeper (lamEnv X scope s.heap.objs.size f c')) → Takes (lamCx X A outer s H E scope f c') (fun cls d _ H => E cls d H) → PE (lamCx X A outer s H E scope f c') body (tD M X.mg (fun cls d _ H => E cls d H) ee))
    (hN : a ∉ X.N) (hj : k + 3 ≤ j := by decide) (hg : Gl X "_law_word" := by rfl) (hL : lamSB1 a X.env.scope scope = true := by rfl) (hd : params.defaults = [.Constant (.int i0) j0 p0] := by rfl) (hk0 : params.kw_defaults = [] := by rfl)
    (hbind : Binds1 a params body scope := by intro _ _ _ _ _ _ _ _; exact ⟨_, rfl, rfl⟩) : PE X (.Call (.Name "_law_word" p) [.Lambda params body scope lpos] [] pos) (tD M X.mg W (eFst (eTried xt ee))) :=
  ev_word1w a [] D D' hx hl hr k hbody (fun _ e => absurd (List.mem_of_getElem? e) hN) hj hg hL hd hk0 hbind
end
end VQ

namespace VQ
open PySem PySem.Spec PyProof.Rows L2
theorem tup_mul_self (l : Addr) (items : Array Value) (n : Nat) (dd : Option Addr) (sl : Array (Option Value)) (x : Int) (u : Tok) (c0 : (decide (x < -(2 ^ 63)) || decide (x ≥ 2 ^ 63)) = false) (c1 : (items.isEmpty || x == 1) = true) :
    Meets (Builtin.«tuple.__mul__» ⟨[.ref l, .int x u], []⟩) (fun _ R s => s.heap.get? l = some { cls := .type "tuple", dict := dd, data := .seq items n, slots := sl } ∧ R (.ok (.ret (Value.ref l))) s) := .of_wp fun prog w A R s h => by
  obtain ⟨hp, g, d, tk, os⟩ := s
  obtain ⟨hl, h⟩ := h
  have f1 := AutoSeq1.idx_int
  wp_walk using wpAny_loadPart' hl
  repeat (first
    | (refine wpAny_ite_false (decide_eq_false (by rw [c0]; exact Bool.false_ne_true)) ?_; wp_walk using wpAny_loadPart' hl)
    | (refine wpAny_ite_true (decide_eq_true (by rw [c1])) ?_; wp_walk using wpAny_loadPart' hl))
  exact ⟨_, rfl, h⟩
theorem tup_mul_none (l : Addr) (items : Array Value) (n : Nat) (dd : Option Addr) (sl : Array (Option Value)) (x : Int) (u : Tok) (c0 : (decide (x < -(2 ^ 63)) || decide (x ≥ 2 ^ 63)) = false) (c1 : (items.isEmpty || x == 1) = false) (c2 : (decide (x ≤ 0) || items.isEmpty) = true) :
    Meets (Builtin.«tuple.__mul__» ⟨[.ref l, .int x u], []⟩) (fun _ R s => s.heap.get? l = some { cls := .type "tuple", dict := dd, data := .seq items n, slots := sl } ∧
      R (.ok (.ret (Value.ref s.heap.objs.size))) { s with heap := s.heap.push { cls := Value.type "tuple", data := Data.seq #[] }, toks := s.toks }) := .of_wp fun prog w A R s h => by
  obtain ⟨hp, g, d, tk, os⟩ := s
  obtain ⟨hl, h⟩ := h
  have f1 := AutoSeq1.idx_int
  wp_walk using wpAny_loadPart' hl
  repeat (first
    | (refine wpAny_ite_false (decide_eq_false (by rw [c0]; exact Bool.false_ne_true)) ?_; wp_walk using wpAny_loadPart' hl)
    | (refine wpAny_ite_false (decide_eq_false (by rw [c1]; exact Bool.false_ne_true)) ?_; wp_walk using wpAny_loadPart' hl)
    | (refine wpAny_ite_true (decide_eq_true (by rw [c2])) ?_; wp_walk using wpAny_loadPart' hl))
  exact ⟨_, rfl, h⟩

def rRepA (K : PySem.W.Frag) : R2 := fun x y H Q => ∃ l k xs, x = .ref l ∧ y = .int k ∧ SqT K H l xs ∧ k ≤ 1000 ∧ -1000 ≤ k ∧ xs.length ≤ 1000 ∧ (xs = [] ∨ k = 1 → Q x H) ∧ (xs ≠ [] → k ≠ 1 → ∀ p, H p = none → Q (.ref p) (upd H p (.tup (List.replicate k.toNat xs).flatten)))
theorem op_repA {X : Cx} : OpR X (binaryOp .Mult) (rRepA X.K) := by
  intro pins s σ H x y v u Q I rx ry h
  obtain ⟨l, k, xs, rfl, rfl, hT, hk1, hk2, hz, q1, q2⟩ := h
  by_cases hb : xs ≠ [] ∧ 2 ≤ k
  · exact op_repT pins s σ H (.ref l) (.int k) v u Q I rx ry ⟨l, k, xs, rfl, rfl, hT, hb.1, hb.2, hk1, hz, q2 hb.1 (by omega)⟩
  · cases rx
    obtain ⟨t, rfl⟩ := ry
    obtain ⟨its, r, ⟨⟨cls, dd, data, sl⟩, ho, hc, n, hd⟩, hs⟩ := I.tuple hT
    simp only at hc hd
    subst hc hd
    have hle : its.length = xs.length := r.length.symm
    have c0 : (decide (k < -(2 ^ 63)) || decide (k ≥ 2 ^ 63)) = false := by
      simp only [Bool.or_eq_false_iff, decide_eq_false_iff_not]
      omega
    have he : its.toArray.isEmpty = decide (xs = []) := by
      cases its with
      | nil =>
        have : xs = [] := List.eq_nil_of_length_eq_zero hle.symm
        simp [this]
      | cons a b =>
        have : xs ≠ [] := fun e => by rw [e] at hle; simp at hle
        simp [this]
    by_cases hz1 : xs = [] ∨ k = 1
    · have c1 : (its.toArray.isEmpty || k == 1) = true := by
        rw [he]
        rcases hz1 with z | z
        · simp [z]
        · simp [z]
      refine wpAny_binaryOp_repeat_ref (T := "tuple") (U := "int") (by decide) ⟨_, ho, rfl⟩ (fun s' => typeIs_int s' k t) noFill_tuple_mul F.fills_int_mul F.slot_int_rmul repeat_tuple F.slot_int_index.lookup
        (call_meets F.slot_int_rmul (typeIs_int s k t) F.entry_int_rmul (F.args_int_rmul_2 _ _) (int_rmul_tuple k t l its.toArray n dd sl)
          ⟨ho, rfl, ⟨_, ho, rfl⟩, call_meets F.slot_tuple_mul ⟨_, ho, rfl⟩ F.entry_tuple_mul (F.args_tuple_mul_2 _ _) (tup_mul_self l its.toArray n dd sl k t c0 c1) ⟨ho, ?_⟩⟩)
      exact ⟨.ref l, H, I, rfl, q1 hz1⟩
    · have hne : xs ≠ [] := fun z => hz1 (.inl z)
      have hk3 : k ≠ 1 := fun z => hz1 (.inr z)
      have hk4 : k ≤ 0 := by
        rcases Classical.em (2 ≤ k) with z | z
        · exact absurd ⟨hne, z⟩ hb
        · omega
      have c1 : (its.toArray.isEmpty || k == 1) = false := by
        rw [he]
        simp [hne, hk3]
      have c2 : (decide (k ≤ 0) || its.toArray.isEmpty) = true := by simp [hk4]
      have e0 : (List.replicate k.toNat xs).flatten = [] := by
        rw [show k.toNat = 0 by omega]; rfl
      rw [e0] at q2
      refine wpAny_binaryOp_repeat_ref (T := "tuple") (U := "int") (by decide) ⟨_, ho, rfl⟩ (fun s' => typeIs_int s' k t) noFill_tuple_mul F.fills_int_mul F.slot_int_rmul repeat_tuple F.slot_int_index.lookup
        (call_meets F.slot_int_rmul (typeIs_int s k t) F.entry_int_rmul (F.args_int_rmul_2 _ _) (int_rmul_tuple k t l its.toArray n dd sl)
          ⟨ho, rfl, ⟨_, ho, rfl⟩, call_meets F.slot_tuple_mul ⟨_, ho, rfl⟩ F.entry_tuple_mul (F.args_tuple_mul_2 _ _) (tup_mul_none l its.toArray n dd sl k t c0 c1 c2) ⟨ho, ?_⟩⟩)
      refine ⟨.ref s.heap.objs.size, _, I.laid (t' := s.toks) (o := .tup []) (fun b ob z => Heap.get?_push_of_some _ z) (Nat.le_refl _) ⟨by show 0 ≤ sizeLine; omega, [], .nil, IsTup.new _ _⟩, rfl, q2 hne hk3 _ (I.hok.fresh (Nat.le_refl _))⟩
section
variable {K : PySem.W.Frag} {M : WM K}
noncomputable def mulD : D → D → Option R
  | .int i, .int j => if i.natAbs.log2 + j.natAbs.log2 < 1000000 then some (.sh (.int (i * j))) else none
  | .lst l, .int k => if -lk 1000 ≤ k ∧ k ≤ lk 1000 ∧ l.length ≤ 1000 then some (.fr (.lst (List.replicate k.toNat l).flatten)) else none
  | .tup l, .int k => if -lk 1000 ≤ k ∧ k ≤ lk 1000 ∧ l.length ≤ 1000 then some (.sh (.tup (List.replicate k.toNat l).flatten)) else none
  | _, _ => none
def rMulD (K : PySem.W.Frag) : R2 := fun x y H Q => rI CMulW (fun i j => .int (i * j)) x y H Q ∨ rRep x y H Q ∨ rRepA K x y H Q
theorem or_mul {X : Cx} : OpR X (binaryOp .Mult) (rMulD X.K) := op_mulW.or (op_rep.or op_repA)
theorem den_rep {ad : Nat → Option Addr} {Hv : Hp} {l : List D} {vs : List V} (h : DenL K ad Hv l vs) (k : Nat) : DenL K ad Hv (List.replicate k l).flatten (List.replicate k vs).flatten := DenL.replicate h k
theorem od_mul : OpD M mulD (rMulD K) := fun p x y d e res Q ok hx hy hf q => by
  cases d <;> cases e <;> first | (simp only [mulD] at hf; done) | skip
  all_goals try (simp only [mulD] at hf; cases hf; done)
  · cases hx; cases hy
    simp only [mulD] at hf
    split at hf
    · rename_i hc
      cases hf
      exact .inl ⟨_, _, rfl, rfl, hc, fin_sh ok q rfl⟩
    · cases hf
  · rename_i l k
    obtain ⟨a, vs, rfl, h1, h2⟩ := hx
    cases hy
    simp only [mulD] at hf
    split at hf
    · rename_i hc
      rw [lk_eq] at hc
      cases hf
      have hl := h2.length
      refine .inr (.inr ⟨a, k, vs, rfl, rfl, sqT_H ok h1, hc.2.1, hc.1, by rw [hl]; exact hc.2.2, fun z => ?_, fun _ _ b hb => fin_tup ok q (den_rep h2 _) hb⟩)
      rcases z with z | z
      · subst z
        have : l = [] := List.eq_nil_of_length_eq_zero hl.symm
        subst this
        have e0 : (List.replicate k.toNat ([] : List D)).flatten = [] := by simp
        rw [e0] at q
        exact fin_sh ok q ⟨a, [], rfl, h1, h2⟩
      · subst z
        have e0 : (List.replicate (1 : Int).toNat l).flatten = l := by simp
        rw [e0] at q
        exact fin_sh ok q ⟨a, vs, rfl, h1, h2⟩
    · cases hf
  · rename_i l k
    obtain ⟨a, vs, rfl, h1, h2⟩ := hx
    cases hy
    simp only [mulD] at hf
    split at hf
    · rename_i hc
      rw [lk_eq] at hc
      cases hf
      have hl := h2.length
      refine .inr (.inl ⟨a, k, vs, rfl, rfl, ok.view _ _ h1, by omega, by omega, ?_, fun b hb => fin_lst ok q (den_rep h2 _) hb⟩)
      rw [hl, sizeLine_eq]
      have a1 : l.length * k.toNat ≤ 1000 * 1000 := Nat.mul_le_mul hc.2.2 (by omega)
      omega
    · cases hf
def intD : List D → Option R
  | [.int i] => some (.sh (.int i))
  | [.bl b] => some (.sh (.int (if b then 1 else 0)))
  | [.str [c]] => if 48 ≤ c ∧ c < 58 then some (.sh (.int ((c : Int) - 48))) else none
  | _ => none
theorem int_sign (c : Nat) (h1 : 48 ≤ c) (h2 : c < 58) : PySem.intText? ⟨#[c]⟩ = some ((c : Int) - 48) := by
  have : c = 48 ∨ c = 49 ∨ c = 50 ∨ c = 51 ∨ c = 52 ∨ c = 53 ∨ c = 54 ∨ c = 55 ∨ c = 56 ∨ c = 57 := by omega
  rcases this with h | h | h | h | h | h | h | h | h | h <;> subst h <;> decide +kernel
def rIntD : List V → Hp → VK → Prop := fun xs H Q => ((∃ i, xs = [.int i] ∧ Q (.int i) H) ∨ ∃ k, xs = [.bl k] ∧ Q (.int (if k then 1 else 0)) H) ∨ ∃ a n, xs = [.str a] ∧ PySem.intText? a = some n ∧ a.length ≤ 640 ∧ Q (.int n) H
theorem call_intD {X : Cx} : CallR X (.type "int") rIntD := call_int1.or call_int_str
theorem cd_int : CallD M intD rIntD := fun p xs ds res Q ok hx hf q => by
  match ds, hf with
  | [.int i], hf =>
    obtain ⟨v, r, rfl, h1, h2⟩ := hx
    cases h1; cases h2; cases hf
    exact .inl (.inl ⟨_, rfl, fin_sh ok q rfl⟩)
  | [.bl b], hf =>
    obtain ⟨v, r, rfl, h1, h2⟩ := hx
    cases h1; cases h2; cases hf
    exact .inl (.inr ⟨_, rfl, fin_sh ok q rfl⟩)
  | [.str [c]], hf =>
    obtain ⟨v, r, rfl, h1, h2⟩ := hx
    cases h1; cases h2
    simp only [intD] at hf
    split at hf
    · rename_i hc
      cases hf
      exact .inr ⟨_, _, rfl, int_sign c hc.1 hc.2, by show [c].toArray.size ≤ 640; simp, fin_sh ok q rfl⟩
    · cases hf
end
section
variable {X : Cx} {M : WM X.K} {W : WX} {e a b : Expr} {pos : Pos} {ea eb : Ev M D} {er er2 : Ev M R} {m : List Nat}
def sAppend {K : PySem.W.Frag} {M : WM K} (i : Nat) (m : List Nat) (ee : Ev M D) : Sv M := fun ρ s => match ρ[i]? with
  | some (some (.ow (.lst _))) => (inF m ee ρ s).bind fun r => match (behind M m (flat r.1) r.2 ρ)[i]? with
    | some (some (.ow (.lst l))) => if l.length < big then .ret (.nx ((behind M m (flat r.1) r.2 ρ).set i (some (.ow (.lst (l ++ [r.1]))))), r.2) else .bad
    | _ => .bad
  | _ => .bad
theorem ss_app (i : Nat) (m : List Nat) {x : Str} {p1 apos : Pos} (he : PE X e (tD M X.mg W ea)) (hN : X.N[i]? = some x := by rfl) (hv : Vis X.env.scope x := by first | exact Or.inl rfl | exact Or.inr (Or.inl rfl) | exact Or.inr (Or.inr rfl)) (hd : (x == ("__debug__" : Str)) = false := by decide)
    (hcd : (x == ("__classdict__" : Str)) = false := by decide) (hbase : attributeBase (.Name x p1) "append" X.env (eval (.Name x p1) X.env) = eval (.Name x p1) X.env := by rfl)
    (hfew : ((backTo pos (starEach [e] X.env)).all (fun x => !x.1) && (backToKw pos (keywordEach [] X.env)).all (fun x => x.1.isSome) && decide ([e].length + ([] : List Keyword).length + (if ([] : List Keyword).isEmpty then 0 else 1) < 30)) = true := by rfl)
    (hline : (apos.endLine == pos.line) = true := by rfl) (hst : starEach [e] X.env = (false, eval e X.env) :: starEach [] X.env := by rfl) {pos2 : Pos}
    (hs : swapsWith (.Call (.Attribute (.Name x p1) "append" apos) [e] [] pos) none pos2.line X.env = pure false := by rfl) :
    PS X (.Expr (.Call (.Attribute (.Name x p1) "append" apos) [e] [] pos) pos2) (tS M X.mg W (sAppend i m ea)) :=
  (ps_expr (pe_bm PySem.F.plainAttrs_list PySem.F.slot_list_append PySem.F.type_list_append mt_append (pe_var hN hv hd hcd) (pa_cons he pa_nil hst) hbase hfew hline hst rfl) hs).con fun Dd σ H ⟨en, ρ, p, hH, rl, q⟩ => by
  subst hH
  show ∃ v, σ[i]? = some (some v) ∧ tyV X.K "list" v p.H ∧ tD M X.mg W ea σ p.H fun y H2 => rAppend v [y] H2 fun _ H3 => Dd.nx σ H3
  cases z0 : ρ[i]? with
  | none => simp only [sAppend, z0] at q; exact q.elim
  | some ob0 =>
    cases ob0 with
    | none => simp only [sAppend, z0] at q; exact q.elim
    | some vv0 =>
     cases vv0 with
     | sh _ => simp only [sAppend, z0] at q; exact q.elim
     | ow d0 =>
      cases d0 <;> first | (simp only [sAppend, z0] at q; exact q.elim) | skip
      rename_i l0
      simp only [sAppend, z0] at q
      obtain ⟨a0, o0, k1, k2, k3, k4, k5, k6⟩ := rl.ow i _ z0
      have ho0 : ∃ vs, o0 = .lst vs := by
        cases o0 <;> first | exact ⟨_, rfl⟩ | exact False.elim k6
      obtain ⟨vs0, rfl⟩ := ho0
      refine ⟨.ref a0, k1, .inl ⟨rfl, vs0, SqL.of k2⟩, ?_⟩
      refine inF_V rl q fun r y q1 ex ok es dy hr => ?_
      obtain ⟨q2, eH, eS, rl2, rk2, ap⟩ := behind_ok (r := .sh r.1) rl ex ok dy
      rw [← es, show flat r.1 = flatR (.sh r.1) from rfl] at hr
      cases zb : (behind M m (flatR (.sh r.1)) q1.s ρ)[i]? with
      | none => rw [zb] at hr; exact hr.elim
      | some ob =>
        rw [zb] at hr
        cases ob with
        | none => exact hr.elim
        | some vv =>
          cases vv with
          | sh _ => exact hr.elim
          | ow db =>
            cases db with
            | lst lb =>
              simp only at hr
              split at hr
              · rename_i hc
                obtain ⟨a1, o1, j1, j2, j3, j4, j5, j6⟩ := rl2.ow i _ zb
                rw [k1] at j1
                cases j1
                have ho1 : ∃ vs, o1 = .lst vs := by
                  cases o1 <;> first | exact ⟨_, rfl⟩ | exact False.elim j6
                obtain ⟨vs1, rfl⟩ := ho1
                have hlen : vs1.length = lb.length := DenL.length j6
                refine ⟨a0, vs1, y, rfl, rfl, by rw [← eH]; exact j2, by rw [hlen]; exact Nat.lt_of_lt_of_le hc (big_line (Nat.le_refl _)), ?_⟩
                rw [← eH]
                refine hr σ ⟨q2.s, q2.F, q2.Hv, upd q2.H a0 (.lst (vs1 ++ [y])), q2.ad⟩ ?_ eS
                have dnew : DenL X.K q2.ad q2.Hv (lb ++ [r.1]) (vs1 ++ [y]) := DenL.append j6 (DenL.one rk2)
                refine ⟨⟨fun b o hb => ?_, rl2.ok.off, M.stay rl2.ok.rep Same.rfl' fun b o fb hb => ?_⟩, ⟨rl2.ext.view, fun b o hb nf => ?_, rl2.ext.new, rl2.ext.foot, rl2.ext.ad⟩, by rw [List.length_set]; exact rl2.len, fun j d hj => ?_, fun j d hj => ?_, fun j k d d' a hjk hj hk => ?_⟩
                · have n : b ≠ a0 := fun z => by rw [z, j3] at hb; cases hb
                  show upd q2.H a0 _ b = some o
                  rw [upd_ne n]; exact rl2.ok.view _ _ hb
                · have n : b ≠ a0 := fun z => j4 (z ▸ fb)
                  show upd q2.H a0 _ b = some o
                  rw [upd_ne n]; exact hb
                · have n : b ≠ a0 := fun z => by
                    subst z
                    rcases j5 with z | z
                    · rw [hb] at z; cases z
                    · exact nf z
                  show upd q2.H a0 _ b = some o
                  rw [upd_ne n]; exact rl2.ext.frame b o hb nf
                · by_cases hij : i = j
                  · subst hij
                    rw [List.getElem?_set_self (List.getElem?_eq_some_iff.mp zb).1] at hj
                    cases hj
                  · rw [List.getElem?_set_ne hij] at hj
                    exact rl2.sh j d hj
                · by_cases hij : i = j
                  · subst hij
                    rw [List.getElem?_set_self (List.getElem?_eq_some_iff.mp zb).1] at hj
                    cases hj
                    exact ⟨a0, _, k1, upd_same, j3, j4, j5, dnew⟩
                  · rw [List.getElem?_set_ne hij] at hj
                    obtain ⟨a2, o2, e1, e2, e3, e4, e5, e6⟩ := rl2.ow j d hj
                    have n : a2 ≠ a0 := fun z => rl2.dis i j _ d a0 hij zb hj k1 (by rw [e1, z])
                    exact ⟨a2, o2, e1, by show upd q2.H a0 _ a2 = _; rw [upd_ne n]; exact e2, e3, e4, e5, e6⟩
                · have back : ∀ (j : Nat) d, ((behind M m (flatR (.sh r.1)) q1.s ρ).set i (some (.ow (.lst (lb ++ [r.1])))))[j]? = some (some (.ow d)) → ∃ d', (behind M m (flatR (.sh r.1)) q1.s ρ)[j]? = some (some (.ow d')) := fun j d hj => by
                    by_cases hij : i = j
                    · subst hij; exact ⟨_, zb⟩
                    · rw [List.getElem?_set_ne hij] at hj
                      exact ⟨d, hj⟩
                  obtain ⟨d1, z1⟩ := back j d hj
                  obtain ⟨d2, z2⟩ := back k d' hk
                  exact rl2.dis j k d1 d2 a hjk z1 z2
              · exact hr.elim
            | _ => exact hr.elim
end
end VQ

namespace VQ
open PySem PySem.Spec PyProof.Rows L2
section
variable {X : Cx} {M : WM X.K} {W : WX} {en : Pt M} {e a b : Expr} {pos : Pos} {ea eb : Ev M D} {er er2 : Ev M R} {m : List Nat}
theorem un65 {k : Nat} {A : Around} (hr : Room k A) : A.units + 65 < cLine := by have := hr.un; omega
theorem opn0 (p : Pt M) (ρ : Nv) (σ : Sl) : p.opn ρ σ [] = p := by
  obtain ⟨s, F, Hv, H⟩ := p
  unfold Pt.opn
  congr 1
  funext b
  have : ¬ OwnAt ρ σ [] b := fun ⟨i, d, h, _⟩ => by cases h
  simp [this]
/-- a fresh thing stays hidden while something else is told -/
theorem ROk.stay {p q r : Pt M} (e : Ext p q) (e2 : Ext q r) {x : R} {v : V} (h : ROk p q x v) : ROk p r x v := by
  cases x with
  | sh d => exact e2.den h
  | fr d =>
    obtain ⟨a, o, h1, h2, h3, h4, h5, h6⟩ := h
    refine ⟨a, o, h1, e2.frame a o h2 h4, ?_, fun z => ?_, h5, h6.mono e2.view e2.ad⟩
    · cases z : r.Hv a with
      | none => rfl
      | some u =>
        rcases e2.new a u z with ⟨o', z'⟩ | z' | z'
        · rw [h3] at z'; cases z'
        · rw [h2] at z'; cases z'
        · exact absurd z' h4
    · rcases e2.foot a z with z | z
      · exact h4 z
      · rw [h2] at z; cases z
/-- a, b = x, y -/
def sPar {K : PySem.W.Frag} {M : WM K} (i j : Nat) (ea eb : Ev M R) : Sv M := fun ρ s => (inF [] ea ρ s).bind fun r => (inF [] eb ρ r.2).bind fun t => if i < ρ.length ∧ j < ρ.length then .ret (.nx ((ρ.set i (some r.1.vv)).set j (some t.1.vv)), t.2) else .bad
theorem ss_par (i j : Nat) {x y : Str} {px py pt : Pos} {kt k2 pt2} (hN : X.N.Nodup) (ha : PE X a (tR M X.mg W er)) (hb : PE X b (tR M X.mg W er2)) (hc : X.calm = true := by rfl) (hi : X.N[i]? = some x := by rfl) (hj : X.N[j]? = some y := by rfl) (hij : i ≠ j := by decide)
    (hx : X.env.scope.names.lookup x = some .local := by rfl) (hy : X.env.scope.names.lookup y = some .local := by rfl) (hs1 : starEach [a, b] X.env = (false, eval a X.env) :: starEach [b] X.env := by rfl) (hs2 : starEach [b] X.env = (false, eval b X.env) :: starEach [] X.env := by rfl)
    (hw : swappedStores [.Tuple [.Name x px, .Name y py] kt pt] (.Tuple [a, b] k2 pt2) X.env = pure (some [x, y]) := by rfl)
    (hs : swapsWithSole [.Tuple [.Name x px, .Name y py] kt pt] (.Tuple [a, b] k2 pt2) pos.line X.env = pure false := by rfl) :
    PS X (.Assign [.Tuple [.Name x px, .Name y py] kt pt] (.Tuple [a, b] k2 pt2) pos) (tS M X.mg W (sPar i j er er2)) := (ps_par hc hN hi hj hij hx hy (pa_cons ha (pa_cons hb pa_nil hs2) hs1) hw hs).con fun Dd σ H ⟨en, ρ, p, hH, rl, q⟩ => by
  subst hH
  show tR M X.mg W er σ p.H fun v H1 => tR M X.mg W er2 σ H1 fun w H2 => ∃ v' w', [v, w] = [v', w'] ∧ Dd.nx ((σ.set i (some v')).set j (some w')) H2
  refine inF_D rl q fun r v q1 ex ok es rk hr => ?_
  rw [opn0] at ex rk
  have rl1 : Rel en ρ σ q1 := by
    have := frz_rel (m := []) rl (by rw [opn0]; exact ex) ok
    rwa [frz_nil] at this
  rw [← es] at hr
  refine inF_D rl1 hr fun t w q3 ex3 ok3 es3 rk3 ht => ?_
  rw [opn0] at ex3 rk3
  have rl3 : Rel en ρ σ q3 := by
    have := frz_rel (m := []) rl1 (by rw [opn0]; exact ex3) ok3
    rwa [frz_nil] at this
  refine ⟨v, w, rfl, ?_⟩
  split at ht
  · rename_i hc
    have rkv : ROk en q3 r.1 v := ROk.tr rl.ext (ex.trans ex3) (ROk.stay ex ex3 rk)
    have rkw : ROk en q3 t.1 w := ROk.tr (rl.ext.trans ex) ex3 rk3
    have apO : ∀ {p0 q0 : Pt M} {x : R} {u : V}, Rel en ρ σ p0 → ROk p0 q0 x u → ∀ a, u = .ref a → (∃ d, x = .fr d) → ∀ (k : Nat) d, ρ[k]? = some (some (.ow d)) → σ[k]? ≠ some (some (.ref a)) := fun {p0 q0 x u} rl0 rk0 a hu ⟨d, hx⟩ k d' hk hs => by
      subst hx
      obtain ⟨a', o, e1, e2, e3, e4, e5, e6⟩ := rk0
      rw [hu] at e1; cases e1
      obtain ⟨a2, o2, h1, h2, h3, h4, _⟩ := rl0.ow k d' hk
      rw [hs] at h1; cases h1
      rcases e5 with z | z
      · rw [h2] at z; cases z
      · exact h4 z
    have s1 := set_rel rl3 rkv (apO rl rk) i hc.1
    have s2 := set_rel s1 rkw (fun a hu hx k d hk => ?_) j (by rw [List.length_set]; exact hc.2)
    · exact ht _ q3 s2 es3
    · by_cases hik : i = k
      · subst hik
        rw [List.getElem?_set_self hc.1] at hk
        rw [List.getElem?_set_self (by rw [rl3.len]; exact hc.1)]
        intro hv
        cases hv
        obtain ⟨d2, hx⟩ := hx
        rw [hx] at rk3
        obtain ⟨a', o, e1, e2, e3, e4, e5, e6⟩ := rk3
        rw [hu] at e1; cases e1
        cases hr1 : r.1 with
        | sh d3 => rw [hr1] at hk; cases hk
        | fr d3 =>
          rw [hr1] at rk
          obtain ⟨a3, o3, f1, f2, f3, f4, f5, f6⟩ := rk
          cases f1
          rcases e5 with z | z
          · rw [f2] at z; cases z
          · exact f4 z
      · rw [List.getElem?_set_ne hik] at hk ⊢
        exact apO rl1 rk3 a hu hx k d hk
  · exact ht.elim
/-- a, b = e: e's data taken apart -/
def sTgt {K : PySem.W.Frag} {M : WM K} (m : List Nat) (ee : Ev M D) (g : D → Nv → Option Nv) : Sv M := fun ρ s => (inF m ee ρ s).bind fun r => match g r.1 (behind M m (flat r.1) r.2 ρ) with
  | some ρ' => .ret (.nx ρ', r.2)
  | none => .bad
theorem ss_tgt (m : List Nat) {tg : Expr} {g : D → Nv → Option Nv} (he : PE X e (tD M X.mg W ea)) (hg : PG X tg (tGt M g)) (hs : swapsWithSole [tg] e pos.line X.env = pure false := by rfl) (hw : swappedStores [tg] e X.env = pure none := by rfl) (h1 : (assignEach [tg] X.env).map (·.2) = [assign tg X.env] := by rfl) : PS X (.Assign [tg] e pos) (tS M X.mg W (sTgt m ea g)) := (ps_asg he hg hs hw h1).con fun Dd σ H ⟨en, ρ, p, hH, rl, q⟩ => by
  subst hH
  show tD M X.mg W ea σ p.H fun v H1 => tGt M g v σ H1 fun σ2 H2 => Dd.nx σ2 H2
  refine inF_V rl q fun r v q1 ex ok es dv hr => ?_
  obtain ⟨q2, eH, eS, rl2, rk2, _⟩ := behind_ok (r := .sh r.1) rl ex ok dv
  rw [← es, show flat r.1 = flatR (.sh r.1) from rfl] at hr
  cases z : g r.1 (behind M m (flatR (.sh r.1)) q1.s ρ) with
  | none => rw [z] at hr; exact hr.elim
  | some ρ' =>
    rw [z] at hr
    exact ⟨en, _, q2, r.1, ρ', eH, rl2, rk2, z, fun σ' rl' => hr σ' q2 rl' eS⟩
/-- a op= e -/
def sAug {K : PySem.W.Frag} {M : WM K} (f : Int → Int → Int) (i : Nat) (ee : Ev M D) : Sv M := fun ρ s => match ρ[i]? with
  | some (some (.sh (.int n))) => (inF [] ee ρ s).bind fun r => match r.1 with
    | .int k => .ret (.nx (ρ.set i (some (.sh (.int (f n k))))), r.2)
    | _ => .bad
  | _ => .bad
theorem tR_seen {σ : Sl} {H : Hp} {Q : V → Hp → Prop} (h : tD M X.mg W (eSeen er) σ H Q) : tR M X.mg W er σ H Q := by
  obtain ⟨ρ, p, hH, ok, en, q⟩ := h
  subst hH
  refine tG.seq ok en q fun r v q' ex ok' es rk hq => ?_
  obtain ⟨q2, e2, ok2, hH, hs, dn⟩ := rk.seen ex ok'
  rw [← hH]
  exact hq v q2 e2 ok2 (hs.trans es) dn
theorem tR_sh {σ : Sl} {H : Hp} {Q : V → Hp → Prop} (h : tR M X.mg W (eSh ea) σ H Q) : tD M X.mg W ea σ H Q := by
  obtain ⟨ρ, p, hH, ok, en, q⟩ := h
  subst hH
  exact tG.seq ok en q fun r v q' ex ok' es rk hq => hq v q' ex ok' es rk
/-- a name set by any law of setting whose drawing is met by the reading -/
theorem ss_setT (i : Nat) (m : List Nat) {x : Str} {pos' : Pos} {te : TE} (hp : PS X (.Assign [.Name x pos'] e pos) (tAsg te (gName i))) (ht : ∀ σ H Q, tR M X.mg W er σ H Q → te σ H Q) :
    PS X (.Assign [.Name x pos'] e pos) (tS M X.mg W (sSet i m er)) := hp.con fun Dd σ H ⟨en, ρ, p, hH, rl, q⟩ => by
  subst hH
  refine ht σ p.H (fun x H1 => Dd.nx (σ.set i (some x)) H1) ?_
  refine inF_D rl q fun r v q1 e ok es rk hr => ?_
  obtain ⟨q2, eH, eS, rl2, rk2, ap⟩ := behind_ok rl e ok rk
  split at hr
  · rename_i hi
    rw [← eH]
    rw [← es] at hr
    refine hr (σ.set i (some v)) q2 (set_rel rl2 rk2 (fun a ha hd j d hj => ap a ha hd j d (behind_own hj)) i (by rw [behind_len]; exact hi)) eS
  · exact hr.elim
/-- a one-line list that a name without a cell can take at once -/
def LcP (X : Cx) (M : WM X.K) (W : WX) (e : Expr) (er : Ev M R) : Prop := ∀ (i : Nat) (m : List Nat) (y : Str) (py spos : Pos), X.N[i]? = some y → X.env.scope.names.lookup y = some .local →
  swapsWith e (some (.Name y py)) spos.line X.env = pure true → PS X (.Assign [.Name y py] e spos) (tS M X.mg W (sSet i m er))
theorem lcp_lcS (own : List (Str × Nat)) {ei : Ev M (List D)} {iter tg elt : Expr} {ifs : List Expr} {scope : Scope} {g : D → Dv → Option Dv} {et : Ev M Bool} (hc : X.calm = true) (hN : X.N.Nodup) (hi : PI X tg iter (tIt M W ei)) (ok : BlkOk X.N X.env.scope scope own)
    (hg : ∀ (s : Shared) (H : Hp) (C : Addr) (cl : List (Str × Addr)) (fp : List Addr), PG (X.blk s H scope (compEnvC scope cl C X.env) fp) tg (tGd M (own.map (·.2)) g))
    (ht : ∀ (s : Shared) (H : Hp) (C : Addr) (cl : List (Str × Addr)) (fp : List Addr), PTs (X.blk s H scope (compEnvC scope cl C X.env) fp) ifs (tB' M X.mg W0 et))
    (he : ∀ (s : Shared) (H : Hp) (C : Addr) (cl : List (Str × Addr)) (fp : List Addr), PE (X.blk s H scope (compEnvC scope cl C X.env) fp) elt (tD M X.mg W0 ea)) (hs : ∀ x, foldedSetIterable iter X.env x = pure x := by intro _; rfl)
    : LcP X M W (.ListComp elt [⟨tg, iter, ifs, 0⟩] scope pos) (eSh (eSeen (eLc (own.map (·.2)) ei g et ea))) := fun i m _ _ _ hy hyl hsw => ss_setT i m (ps_setLc hc hN hy hyl hsw hi ok hg ht he hs) fun _ _ _ h => tLc_of (tR_seen (tR_sh h))
/-- x = [elt for tg in iter if ..], x no cell -/
theorem ss_setLc (i : Nat) (m : List Nat) {y : Str} {py spos : Pos} (h : LcP X M W e er) (hy : X.N[i]? = some y := by rfl) (hyl : X.env.scope.names.lookup y = some .local := by rfl)
    (hsw : swapsWith e (some (.Name y py)) spos.line X.env = pure true := by exact L2.sw_true rfl rfl (by decide) (by decide)) : PS X (.Assign [.Name y py] e spos) (tS M X.mg W (sSet i m er)) := h i m _ _ _ hy hyl hsw
end
end VQ

namespace VQ
open PySem PySem.Spec PyProof.Rows L2
def iAny (K : PySem.W.Frag) (te : TE) : TI := fun σ H R => te σ H fun x H1 => (∃ a, x = .ref a ∧ (∃ xs, SqL K H1 a xs) ∧ R (Itl K a) H1) ∨ (∃ a, x = .ref a ∧ (∃ xs, SqT K H1 a xs) ∧ R (Itt K a) H1) ∨ ∃ t, x = .str t ∧ R (Its t) H1
section
variable {X : Cx} {M : WM X.K} {W : WX} {tg e : Expr} {te : TE} {ea : Ev M D}
theorem pi_any (he : PE X e te) : PI X tg e (iAny X.K te) := ⟨fun pins s σ H R I h => thn (he.run pins s σ H _ I h) fun v s1 ⟨x, H1, I1, r1, q1⟩ => by
  rcases q1 with ⟨a, rfl, ⟨xs, hq⟩, q⟩ | ⟨a, rfl, ⟨xs, hq⟩, q⟩ | ⟨t, rfl, q⟩
  · cases r1
    obtain ⟨its, rv, p, _⟩ := I1.list hq
    exact wpAny_pyIter_list p.isList (pi_one (tk := s1.toks) I1 _ (turn_list a _) ⟨_, Heap.get?_push_size _ rfl, rfl, rfl⟩ q)
  · cases r1
    obtain ⟨its, rv, p, _⟩ := I1.tuple hq
    exact wpAny_pyIter_tuple (show s1.heap.IsTuple a its.toArray from p) (pi_one (tk := s1.toks) I1 _ (turn_tuple a _) ⟨_, Heap.get?_push_size _ rfl, rfl, rfl⟩ q)
  · obtain ⟨u, rfl⟩ := r1
    by_cases hw : t.cps.all (· < 128) = true
    · exact wpAny_pyIter_ascii hw (pi_one (tk := s1.toks) I1 _ (turn_str _ t u "str_ascii_iterator" (.inl rfl)) ⟨_, Heap.get?_push_size _ rfl, rfl, rfl⟩ q)
    · exact wpAny_pyIter_wide (by simpa using hw) (pi_one (tk := s1.toks) I1 _ (turn_str _ t u "str_iterator" (.inr rfl)) ⟨_, Heap.get?_push_size _ rfl, rfl, rfl⟩ q)⟩
def anyOf : D → Option (List D)
  | .lst l => some l
  | .tup l => some l
  | .str s => some (s.map fun c => .str [c])
  | _ => none
theorem sv_str {q : Pt M} (s : List Nat) : Serves (Its ⟨s.toArray⟩) (s.map fun c => D.str [c]) q := fun H' sm => ⟨fun i hi => by
  show (s.toArray).size ≤ i
  simpa using Nat.le_of_eq hi, fun i y hy => by
  rw [List.getElem?_map] at hy
  cases z : s[i]? with
  | none => rw [z] at hy; cases hy
  | some c =>
    rw [z] at hy; cases hy
    have hi : i < s.length := (List.getElem?_eq_some_iff.mp z).1
    refine ⟨by show i < (s.toArray).size; simpa using hi, fun x H2 ⟨e, c', h1, h2⟩ => .inl ⟨e, ?_⟩⟩
    have h1 : s.toArray[i]? = some c' := h1
    rw [List.getElem?_toArray, z] at h1; cases h1
    rw [h2]; rfl⟩
theorem it_any (ha : PE X e (tD M X.mg W ea)) : PI X tg e (tIt M W (eItems anyOf ea)) := it_of (pi_any ha) fun h => by
  obtain ⟨ρ, p, hH, ok, en, q⟩ := h
  refine ⟨ρ, p, hH, ok, en, G.all_mono (fun r hr v q e ok es dn => ?_) (fun _ h => h) q⟩
  obtain ⟨q', d, l, eH, ok', dx, hf, hJ⟩ := hr v q e ok es dn
  cases d <;> first | (cases hf; done) | skip
  · cases hf
    cases dx
    exact .inr (.inr ⟨_, rfl, hJ _ (sv_str _)⟩)
  · cases hf
    obtain ⟨a, vs, rfl, h1, h2⟩ := dx
    exact .inr (.inl ⟨a, rfl, ⟨vs, by rw [← eH]; exact sqT_H ok' h1⟩, hJ _ (sv_tup h1 h2)⟩)
  · cases hf
    obtain ⟨a, vs, rfl, h1, h2⟩ := dx
    exact .inl ⟨a, rfl, ⟨vs, SqL.of (by rw [← eH]; exact ok'.view _ _ h1)⟩, hJ _ (sv_list h1 h2)⟩
end
end VQ

namespace VK
abbrev Dfs {K : PySem.W.Frag} (M : VQ.WM K) := List VQ.D → M.S → VQ.Gx M VQ.R
end VK
namespace VQ
open PySem PySem.Spec PyProof.Rows L2 VK
namespace G
variable {ε ε' ε'' α β γ : Type}
theorem bind_draw (n : Nat) (k : Nat → G ε α) (f : α → G ε β) : (G.draw n k).bind f = G.draw n fun r => (k r).bind f := rfl
theorem exs_draw (n : Nat) (k : Nat → G ε α) (f : ε → ε') : (G.draw n k).exs f = G.draw n fun r => (k r).exs f := rfl
@[simp] theorem exs_ret (a : α) (f : ε → ε') : (ret a : G ε α).exs f = ret a := rfl
@[simp] theorem exs_exc (e : ε) (f : ε → ε') : (exc e : G ε α).exs f = exc (f e) := rfl
@[simp] theorem exs_bad (f : ε → ε') : (bad : G ε α).exs f = bad := rfl
theorem exs_bind (g : ε → ε') (f : α → G ε β) : ∀ m : G ε α, (m.bind f).exs g = (m.exs g).bind fun a => (f a).exs g
  | ret _ => rfl
  | exc _ => rfl
  | bad => rfl
  | draw n k => congrArg (draw n) (funext fun r => exs_bind g f (k r))
theorem exs_exs (g : ε → ε') (h : ε' → ε'') : ∀ m : G ε α, (m.exs g).exs h = m.exs fun e => h (g e)
  | ret _ => rfl
  | exc _ => rfl
  | bad => rfl
  | draw n k => congrArg (draw n) (funext fun r => exs_exs g h (k r))
theorem noX_bind (f : α → G ε β) : ∀ m : G ε α, ((m.bind f).noX : G ε' β) = (m.noX : G ε' α).bind fun a => ((f a).noX : G ε' β)
  | ret _ => rfl
  | exc _ => rfl
  | bad => rfl
  | draw n k => congrArg (draw n) (funext fun r => noX_bind f (k r))
theorem noX_draw (n : Nat) (k : Nat → G ε α) : ((G.draw n k).noX : G ε' α) = G.draw n fun r => (k r).noX := rfl
end G
/-- m.all P E, which a goal's elaboration does not unfold -/
structure Al {ε α : Type} (m : G ε α) (P : α → Prop) (E : ε → Prop) : Prop where
  out : m.all P E
namespace Al
variable {ε ε' α β : Type} {P : α → Prop} {E : ε → Prop}
theorem ret {a : α} (h : P a) : Al (.ret a : G ε α) P E := ⟨h⟩
theorem exc {e : ε} (h : E e) : Al (.exc e : G ε α) P E := ⟨h⟩
theorem draw {n : Nat} {k : Nat → G ε α} (h : 0 < n) (hk : ∀ r, r < n → Al (k r) P E) : Al (.draw n k) P E := ⟨⟨h, fun r hr => (hk r hr).out⟩⟩
theorem bind {m : G ε α} {f : α → G ε β} {P : β → Prop} (h : Al m (fun a => Al (f a) P E) E) : Al (m.bind f) P E := ⟨G.all_bind.mpr (G.all_mono (fun _ h => h.out) (fun _ h => h) h.out)⟩
theorem exs {m : G ε α} {g : ε → ε'} {E : ε' → Prop} (h : Al m P (fun e => E (g e))) : Al (m.exs g) P E := ⟨G.all_exs.mpr h.out⟩
theorem catch_ {m : G ε α} {f : ε → G ε' α} {E : ε' → Prop} (h : Al m P (fun e => Al (f e) P E)) : Al (m.catch_ f) P E := ⟨G.all_catch.mpr (G.all_mono (fun _ h => h) (fun _ h => h.out) h.out)⟩
theorem mono {m : G ε α} {P' : α → Prop} {E' : ε → Prop} (h : Al m P E) (hP : ∀ a, P a → P' a) (hE : ∀ e, E e → E' e) : Al m P' E' := ⟨G.all_mono hP hE h.out⟩
theorem to {m : G ε α} {P' : α → Prop} (h : Al m P E) (hP : ∀ a, P a → P' a) : Al m P' E := h.mono hP fun _ h => h
/-- .. of a part that raises nothing -/
theorem bto0 {m : G ε α} {f : α → G ε β} {Q : β → Prop} (h : Al m P (fun _ => False)) (hP : ∀ a, P a → Al (f a) Q E) : Al (m.bind f) Q E := .bind (h.mono hP fun _ h => h.elim)
theorem btox {m : G ε α} {g : ε → ε'} {f : α → G ε' β} {Q : β → Prop} {E : ε' → Prop} (h : Al m P (fun _ => False)) (hP : ∀ a, P a → Al (f a) Q E) : Al ((m.exs g).bind f) Q E := .bind (.exs (h.mono hP fun _ h => h.elim))
theorem noX {m : G ε α} {E' : ε' → Prop} (h : Al m P (fun _ => False)) : Al (m.noX : G ε' α) P E' := ⟨by
  have aux : ∀ {m : G ε α}, m.all P (fun _ => False) → (m.noX : G ε' α).all P E' := by
    intro m
    induction m with
    | ret a => exact fun h => h
    | exc e => exact fun h => h.elim
    | bad => exact fun h => h
    | draw n k ih => exact fun h => ⟨h.1, fun r hr => ih r (h.2 r hr)⟩
  exact aux h.out⟩
theorem bnoX {m : G ε α} {f : α → G ε' β} {Q : β → Prop} {E : ε' → Prop} (h : Al m P (fun _ => False)) (hP : ∀ a, P a → Al (f a) Q E) : Al ((m.noX : G ε' α).bind f) Q E := .bind ((noX h).to hP)
end Al
section
variable {K : PySem.W.Frag} {M : WM K} {a b : Sv M} {ρ : Nv} {s : M.S} {P : Fl × M.S → Prop} {E : Xs M → Prop} {er : Ev M R} {ea : Ev M D} {c : Ev M Bool} {i : Nat}
theorem al_seq (h : Al (a ρ s) (fun f => Al (sThen b f) P E) E) : Al (sSeq a b ρ s) P E := .bind h
theorem for_eq {ei : Ev M (List D)} {g : D → Nv → Option Nv} {body : Sv M} {ds : List D} {s' : M.S} (he : ei (view [] ρ) s = .ret (ds, s')) : sFor [] ei g body ρ s = loopG g body ds ρ s' := by
  unfold sFor inF
  rw [he, frz_nil]; rfl
/-- item by item -/
inductive All2 {α β : Type} (T : α → β → Prop) : List α → List β → Prop
  | nil : All2 T [] []
  | cons {a b l m} (h : T a b) (r : All2 T l m) : All2 T (a :: l) (b :: m)
theorem All2.len {α β : Type} {T : α → β → Prop} : ∀ {l : List α} {m : List β}, All2 T l m → m.length = l.length
  | _, _, .nil => rfl
  | _, _, .cons _ r => by simp [r.len]
theorem All2.each {α β : Type} {T : α → β → Prop} {Q : β → Prop} : ∀ {l : List α} {m : List β}, All2 T l m → (∀ a ∈ l, ∀ b, T a b → Q b) → ∀ b ∈ m, Q b
  | _, _, .nil, _ => fun _ h => by cases h
  | _, _, .cons h r, hq => fun b hb => by
    rcases List.mem_cons.mp hb with e | e
    · subst e; exact hq _ (List.mem_cons_self ..) _ h
    · exact r.each (fun a ha => hq a (List.mem_cons_of_mem _ ha)) b e
/-- .. with draws: each item told by T -/
theorem lc_al {g : D → Dv → Option Dv} {ee : Ev M D} {ρ : Dv} {Ex : Exc × M.S → Prop} (T : D → D → Prop) (J : M.S → Prop) : ∀ {ds acc : List D} {s : M.S}, J s → (∀ d ∈ ds, ∀ s, J s → ∃ ρ1, g d ρ = some ρ1 ∧ Al (ee ρ1 s) (fun r => T d r.1 ∧ J r.2) (fun _ => False)) → acc.length + ds.length ≤ big → Al (lcG g eYes ee ρ ds acc s) (fun r => ∃ ys, r.1 = .fr (.lst (acc ++ ys)) ∧ All2 T ds ys ∧ J r.2) Ex
  | [], acc, s, hj, _, _ => .ret ⟨[], by simp, .nil, hj⟩
  | d :: ds, acc, s, hj, h, hl => by
    obtain ⟨ρ1, e1, e2⟩ := h d (List.mem_cons_self ..) s hj
    unfold lcG
    rw [e1]
    show Al ((ee ρ1 s).noX.bind _) _ _
    simp only [List.length_cons] at hl
    refine Al.bnoX e2 fun y hy => ?_
    show Al (if acc.length < big then lcG g eYes ee ρ ds (acc ++ [y.1]) y.2 else .bad) _ _
    rw [if_pos (by omega)]
    refine (lc_al T J hy.2 (fun d hd => h d (List.mem_cons_of_mem _ hd)) (by simp; omega)).to fun r hr => ?_
    obtain ⟨ys, h1, h2, h3⟩ := hr
    exact ⟨y.1 :: ys, by rw [h1]; simp, .cons hy.1 h2, h3⟩
/-- numbers are drawn -/
def PullOk (pull : Dfs M) : Prop := ∀ (n : Nat), 0 < n → n ≤ 1000000 → ∀ s, pull [.obj 0, .int n] s = .draw n fun r => .ret (.sh (.int (r : Nat)), s)
end
theorem pull_bag {K : PySem.W.Frag} {b l : PySem.Addr} {T : List (PySem.Addr × PySem.Str)} {I : IW K} : PullOk (M := bagW K b l T I) pullS := fun n h h2 s => by
  show (if 0 < (n : Int) ∧ (n : Int) < 1073741824 then (.draw (n : Int).toNat fun r => .ret (.sh (.int (r : Nat)), s) : G (Exc × I.S) (R × I.S)) else .bad) = _
  rw [if_pos ⟨by omega, by omega⟩]
  rfl
end VQ

namespace ZS
open PySem PySem.Spec PyProof.Rows
/-- a strict zip's object -/
abbrev IsZs (h : Heap) (z TI TO : Addr) (f0 : Value) : Prop := h.get? z = some { cls := .type "zip", dict := none, data := .fields #[f0, .bool false, .bool true, .ref TI, .ref TO], slots := #[] }
section
variable {prog : Program} {w : World} {A : Around} {E : Value → Shared → Prop} {s : Shared}
theorem stop_raised {α : Type} {Q : α → Shared → Prop} (hh : A.handled = none) (hE : ∀ h' e, (∀ c o, s.heap.get? c = some o → h'.get? c = some o) → (∃ o, h'.get? e = some o ∧ o.cls = .type "StopIteration") → E (.ref e) { s with heap := h' }) :
    wpAny (model prog w) A (Builtin.SmallTypes.stopIteration : Sem α) Q E s := by
  unfold Builtin.SmallTypes.stopIteration
  refine wpAny_bind ?_
  simp only [newExc, newTuple]
  refine wpAny_bind (wpAny_newObj_type ?_ (by size_fits))
  refine wpAny_bind (m := firstArgMember _ _) (wpAny_of_eq (a := Value.none) (by first | rfl | (simp only [firstArgMember]; rfl)) ?_)
  refine wpAny_newObj_type ?_ (by size_fits)
  simp only [raiseNew]
  refine wpAny_bind (wpAny_handled ?_)
  rw [hh]
  exact wpAny_bind (wpAny_pure (wpAny_throw (hE _ _ (fun c o x => Heap.get?_push_of_some _ (Heap.get?_push_of_some _ x)) ⟨_, Heap.get?_push_size _ rfl, rfl⟩)))
theorem noe_item {it : Addr} {fp : List Addr} {n i : Nat} {P : Nat → Value → Prop} {St : Nat → Heap → Prop} {Q : Option Value → Shared → Prop} (D : Draws prog w A it fp n P St) (hi : i < n) (st : St i s.heap)
    (h : ∀ x h' tk, P i x → St (i + 1) h' → Heap.SameBut it s.heap h' → Q (some x) { s with heap := h', toks := tk }) : wpAny (model prog w) A (Builtin.SmallTypes.nextOrEnd (.ref it)) Q E s :=
  wpAny_bind (wpAny_attempt (D.item i s _ _ hi st fun x h' tk hP st' sb => wpAny_pure (h x h' tk hP st' sb)))
theorem noe_end {it : Addr} {fp : List Addr} {n : Nat} {P : Nat → Value → Prop} {St : Nat → Heap → Prop} {Q : Option Value → Shared → Prop} (D : Draws prog w A it fp n P St) (st : St n s.heap)
    (h : ∀ h', Heap.ExtBut it s.heap h' → Q none { s with heap := h' }) : wpAny (model prog w) A (Builtin.SmallTypes.nextOrEnd (.ref it)) Q E s :=
  wpAny_bind (wpAny_attempt (D.done s _ _ st fun h' e hk ⟨o, ho, hc⟩ => wpAny_bind (wpAny_isInstance (T := "StopIteration") (b := true) ⟨o, ho, hc⟩ isSubtype_stop (wpAny_pure (h h' hk)))))
theorem zs_item {z TI TO i1 i2 : Addr} {fp1 fp2 : List Addr} {n i : Nat} {P1 P2 : Nat → Value → Prop} {St1 St2 : Nat → Heap → Prop} {a b : Value} {Q : Value → Shared → Prop} (S : ZipSep2 z TI TO i1 i2 fp1 fp2) (D1 : Draws prog w A i1 fp1 n P1 St1) (D2 : Draws prog w A i2 fp2 n P2 St2)
    (hi : i < n) (hz : IsZs s.heap z TI TO .none) (hTI : IsPair s.heap TI (.ref i1) (.ref i2)) (hTO : IsPair s.heap TO a b) (h1 : St1 i s.heap) (h2 : St2 i s.heap)
    (hQ : ∀ x y h' tk, P1 i x → P2 i y → IsZs h' z TI TO (rawInt s.heap.objs.size) → IsPair h' TI (.ref i1) (.ref i2) → IsPair h' TO x y → St1 (i + 1) h' → St2 (i + 1) h' → IsPair h' s.heap.objs.size x y →
      (∀ c o, c ≠ z → c ≠ TO → c ≠ i1 → c ≠ i2 → s.heap.get? c = some o → h'.get? c = some o) → Q (.ref s.heap.objs.size) { s with heap := h', toks := tk }) :
    wpAny (model prog w) A (Builtin.«zip.__next__» ⟨[.ref z], []⟩) (fun fin s' => ∃ v, fin = .done (.ret v) ∧ Q v s') E s := by
  have n1z : i1 ≠ z := fun e => S.zf1 (e ▸ S.mem1)
  have n2z : i2 ≠ z := fun e => S.zf2 (e ▸ S.mem2)
  have n1T : i1 ≠ TO := fun e => S.Tf1 (e ▸ S.mem1)
  have n2T : i2 ≠ TO := fun e => S.Tf2 (e ▸ S.mem2)
  show wpAny _ _ (field (.ref z) 2 >>= _) _ _ _
  refine wpAny_bind (wpAny_field hz rfl (x := .bool true) rfl ?_)
  show wpAny _ _ (field (.ref z) 3 >>= _) _ _ _
  refine wpAny_bind (wpAny_field hz rfl (x := .ref TI) rfl ?_)
  refine wpAny_bind (wpAny_seqItems hTI rfl ?_)
  show wpAny _ _ (Builtin.SmallTypes.ownedTupleIsFree (.ref z) >>= _) _ _ _
  refine wpAny_bind ?_
  unfold Builtin.SmallTypes.ownedTupleIsFree
  refine wpAny_bind (wpAny_field hz rfl (x := .none) rfl (wpAny_pure ?_))
  simp only [if_true]
  refine wpAny_bind (wpAny_rule ?_)
  refine wpAny_bind (wpAny_field hz rfl (x := .ref TO) rfl ?_)
  refine wpAny_bind (wpAny_setField_rec hz (by simp) fun g1 hz1 b1 => ?_)
  replace hz1 : IsZs g1 z TI TO .ellipsis := hz1
  refine wpAny_bind ?_
  simp only [List.zipIdx_cons, List.zipIdx_nil, List.forIn_cons, List.forIn_nil]
  refine wpAny_bind (wpAny_bind (wpAny_onRaise ?_))
  show wpAny _ _ (Builtin.SmallTypes.nextOrEnd (.ref i1)) _ _ _
  have sv : ∀ {fp : List Addr} {j : Nat} {St : Nat → Heap → Prop} {it : Addr} {P : Nat → Value → Prop} (D : Draws prog w A it fp n P St) {g g' : Heap} {d : Addr}, d ∉ fp → Heap.SameBut d g g' → St j g → St j g' := fun {fp j St it P} D {g g' d} hd hb st => D.frame _ _ _ st fun c hc o e => hb.extBut c o (fun x => hd (x ▸ hc)) e
  refine noe_item D1 hi (sv D1 S.zf1 b1 h1) fun x g2 tk1 hx st1 b2 => ?_
  have hTO2 : IsPair g2 TO a b := b2.extBut _ _ (Ne.symm n1T) (b1.extBut _ _ S.TOz hTO)
  refine wpAny_bind (wpAny_seqItems hTO2 rfl ?_)
  refine wpAny_bind (wpAny_updateSeq_pair hTO2 fun g3 hTO3 b3 => ?_)
  replace hTO3 : IsPair g3 TO x b := hTO3
  refine wpAny_bind (wpAny_letGo (wpAny_pure ?_))
  refine wpAny_bind (wpAny_bind (wpAny_onRaise ?_))
  show wpAny _ _ (Builtin.SmallTypes.nextOrEnd (.ref i2)) _ _ _
  refine noe_item D2 hi (sv D2 S.Tf2 b3 (sv D2 S.sep1_2 b2 (sv D2 S.zf2 b1 h2))) fun y g4 tk2 hy st2 b4 => ?_
  have hTO4 : IsPair g4 TO x b := b4.extBut _ _ (Ne.symm n2T) hTO3
  refine wpAny_bind (wpAny_seqItems hTO4 rfl ?_)
  refine wpAny_bind (wpAny_updateSeq_pair hTO4 fun g5 hTO5 b5 => ?_)
  replace hTO5 : IsPair g5 TO x y := hTO5
  refine wpAny_bind (wpAny_letGo (wpAny_pure (wpAny_pure ?_)))
  refine wpAny_bind (wpAny_seqItems hTO5 rfl ?_)
  refine wpAny_bind (wpAny_newTuple ?_)
  have hsz : g5.objs.size = s.heap.objs.size := by rw [b5.1, b4.1, b3.1, b2.1, b1.1]
  have hz5 : IsZs g5 z TI TO .ellipsis := b5.extBut _ _ (Ne.symm S.TOz) (b4.extBut _ _ (Ne.symm n2z) (b3.extBut _ _ (Ne.symm S.TOz) (b2.extBut _ _ (Ne.symm n1z) hz1)))
  have hk5 : ∀ c o, c ≠ z → c ≠ TO → c ≠ i1 → c ≠ i2 → s.heap.get? c = some o → g5.get? c = some o := fun c o c1 c2 c3 c4 e =>
    b5.extBut _ _ c2 (b4.extBut _ _ c4 (b3.extBut _ _ c2 (b2.extBut _ _ c3 (b1.extBut _ _ c1 e))))
  have hzlt : z < g5.objs.size := Heap.lt_size hz5
  show wpAny _ _ (Builtin.SmallTypes.ownedTupleHandOut (.ref z) (.ref g5.objs.size) >>= _) _ _ _
  refine wpAny_bind ?_
  unfold Builtin.SmallTypes.ownedTupleHandOut
  have hz6 : IsZs (g5.push { cls := .type "tuple", data := .seq #[x, y] }) z TI TO .ellipsis := Heap.get?_push_of_some _ hz5
  refine wpAny_bind (wpAny_setField_rec hz6 (by simp) fun g7 hz7 b7 => ?_)
  replace hz7 : IsZs g7 z TI TO (rawInt g5.objs.size) := hz7
  refine wpAny_setField_rec hz7 (by simp) fun g8 hz8 b8 => ?_
  replace hz8 : IsZs g8 z TI TO (rawInt g5.objs.size) := hz8
  have up : ∀ c o, c ≠ z → g5.get? c = some o → g8.get? c = some o := fun c o c1 e => b8.extBut _ _ c1 (b7.extBut _ _ c1 (Heap.get?_push_of_some _ e))
  have hT8 : IsPair g8 g5.objs.size x y := b8.extBut _ _ (Nat.ne_of_gt hzlt) (b7.extBut _ _ (Nat.ne_of_gt hzlt) (Heap.get?_push_size _ rfl))
  have t1 : St1 (i + 1) g8 := D1.frame _ _ _ (sv D1 S.Tf1 b5 (sv D1 S.sep2_1 b4 (sv D1 S.Tf1 b3 st1))) fun c hc o e => up c o (fun q => S.zf1 (q ▸ hc)) e
  have t2 : St2 (i + 1) g8 := D2.frame _ _ _ (sv D2 S.Tf2 b5 st2) fun c hc o e => up c o (fun q => S.zf2 (q ▸ hc)) e
  rw [hsz] at hz8 hT8
  refine wpAny_pure ⟨_, rfl, ?_⟩
  show Q (.ref g5.objs.size) _
  rw [hsz]
  exact hQ x y g8 _ hx hy hz8 (up _ _ S.TIz (hk5 _ _ S.TIz S.TITO S.TIi1 S.TIi2 hTI)) (up _ _ S.TOz hTO5) t1 t2 hT8 fun c o c1 c2 c3 c4 e => up c o c1 (hk5 c o c1 c2 c3 c4 e)
theorem zs_end {z TI TO i1 i2 : Addr} {fp1 fp2 : List Addr} {n : Nat} {P1 P2 : Nat → Value → Prop} {St1 St2 : Nat → Heap → Prop} {a b : Value} {Q : Fin → Shared → Prop} (hh : A.handled = none) (S : ZipSep2 z TI TO i1 i2 fp1 fp2) (D1 : Draws prog w A i1 fp1 n P1 St1) (D2 : Draws prog w A i2 fp2 n P2 St2)
    (hz : IsZs s.heap z TI TO .none) (hTI : IsPair s.heap TI (.ref i1) (.ref i2)) (hTO : IsPair s.heap TO a b) (h1 : St1 n s.heap) (h2 : St2 n s.heap)
    (hE : ∀ h' e, (∀ c o, c ≠ z → c ≠ TO → c ≠ i1 → c ≠ i2 → s.heap.get? c = some o → h'.get? c = some o) → (∃ o, h'.get? e = some o ∧ o.cls = .type "StopIteration") → E (.ref e) { s with heap := h' }) :
    wpAny (model prog w) A (Builtin.«zip.__next__» ⟨[.ref z], []⟩) Q E s := by
  have n1z : i1 ≠ z := fun e => S.zf1 (e ▸ S.mem1)
  show wpAny _ _ (field (.ref z) 2 >>= _) _ _ _
  refine wpAny_bind (wpAny_field hz rfl (x := .bool true) rfl ?_)
  show wpAny _ _ (field (.ref z) 3 >>= _) _ _ _
  refine wpAny_bind (wpAny_field hz rfl (x := .ref TI) rfl ?_)
  refine wpAny_bind (wpAny_seqItems hTI rfl ?_)
  show wpAny _ _ (Builtin.SmallTypes.ownedTupleIsFree (.ref z) >>= _) _ _ _
  refine wpAny_bind ?_
  unfold Builtin.SmallTypes.ownedTupleIsFree
  refine wpAny_bind (wpAny_field hz rfl (x := .none) rfl (wpAny_pure ?_))
  simp only [if_true]
  refine wpAny_bind (wpAny_rule ?_)
  refine wpAny_bind (wpAny_field hz rfl (x := .ref TO) rfl ?_)
  refine wpAny_bind (wpAny_setField_rec hz (by simp) fun g1 hz1 b1 => ?_)
  replace hz1 : IsZs g1 z TI TO .ellipsis := hz1
  refine wpAny_bind ?_
  simp only [List.zipIdx_cons, List.zipIdx_nil, List.forIn_cons, List.forIn_nil]
  refine wpAny_bind (wpAny_bind (wpAny_onRaise ?_))
  show wpAny _ _ (Builtin.SmallTypes.nextOrEnd (.ref i1)) _ _ _
  refine noe_end D1 (D1.frame _ _ _ h1 fun c hc o e => b1.extBut c o (fun x => S.zf1 (x ▸ hc)) e) fun g2 b2 => ?_
  have hz2 : IsZs g2 z TI TO .ellipsis := b2 _ _ (Ne.symm n1z) hz1
  refine wpAny_bind (wpAny_setField_rec hz2 (by simp) fun g3 hz3 b3 => ?_)
  have k3 : ∀ c o, c ≠ z → c ≠ i1 → s.heap.get? c = some o → g3.get? c = some o := fun c o c1 c2 e => b3.extBut _ _ c1 (b2 _ _ c2 (b1.extBut _ _ c1 e))
  have st2 : St2 n g3 := D2.frame _ _ _ h2 fun c hc o e => k3 c o (fun x => S.zf2 (x ▸ hc)) (fun x => S.sep1_2 (x ▸ hc)) e
  refine wpAny_bind ?_
  show wpAny _ _ (forIn [(Value.ref i2, (1 : Nat))] PUnit.unit _ >>= _) _ _ _
  refine wpAny_bind ?_
  simp only [List.forIn_cons, List.forIn_nil]
  refine wpAny_bind ?_
  show wpAny _ _ (Builtin.SmallTypes.nextOrEnd (.ref i2) >>= _) _ _ _
  refine wpAny_bind (noe_end D2 st2 fun g4 b4 => ?_)
  show wpAny _ _ (pure _) _ _ _
  refine wpAny_pure ?_
  refine wpAny_pure ?_
  refine wpAny_bind (wpAny_rule ?_)
  refine stop_raised hh fun g5 e k5 he => ?_
  exact hE g5 e (fun c o c1 c2 c3 c4 x => k5 _ _ (b4 _ _ c4 (k3 c o c1 c3 x))) he
theorem zs_next_item {z TI TO i1 i2 : Addr} {fp1 fp2 : List Addr} {n i : Nat} {P1 P2 : Nat → Value → Prop} {St1 St2 : Nat → Heap → Prop} {a b : Value} {Q : Option Value → Shared → Prop} (S : ZipSep2 z TI TO i1 i2 fp1 fp2) (D1 : Draws prog w A.in1 i1 fp1 n P1 St1) (D2 : Draws prog w A.in1 i2 fp2 n P2 St2)
    (hi : i < n) (hz : IsZs s.heap z TI TO .none) (hTI : IsPair s.heap TI (.ref i1) (.ref i2)) (hTO : IsPair s.heap TO a b) (h1 : St1 i s.heap) (h2 : St2 i s.heap)
    (hQ : ∀ x y h' tk, P1 i x → P2 i y → IsZs h' z TI TO (rawInt s.heap.objs.size) → IsPair h' TI (.ref i1) (.ref i2) → IsPair h' TO x y → St1 (i + 1) h' → St2 (i + 1) h' → IsPair h' s.heap.objs.size x y →
      (∀ c o, c ≠ z → c ≠ TO → c ≠ i1 → c ≠ i2 → s.heap.get? c = some o → h'.get? c = some o) → Q (some (.ref s.heap.objs.size)) { s with heap := h', toks := tk }) :
    wpAny (model prog w) A (pyNext (.ref z)) Q E s := by
  have hT : s.TypeIs (.ref z) "zip" := ⟨_, hz, rfl⟩
  unfold pyNext
  exact wpAny_bind (wpAny_attempt (wpAny_callSpecial?_slot (name := Str.ofString "__next__") hT F.slot_zip_next
    (wpAny_call_entry F.slot_zip_next hT F.entry_zip_next (zs_item S D1 D2 hi hz hTI hTO h1 h2 fun x y h' tk a1 a2 a3 a4 a5 a6 a7 a8 a9 => wpAny_pure (hQ x y h' tk a1 a2 a3 a4 a5 a6 a7 a8 a9)) (F.args_zip_next_1 _))))
theorem zs_next_end {z TI TO i1 i2 : Addr} {fp1 fp2 : List Addr} {n : Nat} {P1 P2 : Nat → Value → Prop} {St1 St2 : Nat → Heap → Prop} {a b : Value} {Q : Option Value → Shared → Prop} (hh : A.handled = none) (S : ZipSep2 z TI TO i1 i2 fp1 fp2) (D1 : Draws prog w A.in1 i1 fp1 n P1 St1) (D2 : Draws prog w A.in1 i2 fp2 n P2 St2)
    (hz : IsZs s.heap z TI TO .none) (hTI : IsPair s.heap TI (.ref i1) (.ref i2)) (hTO : IsPair s.heap TO a b) (h1 : St1 n s.heap) (h2 : St2 n s.heap)
    (hQ : ∀ h', (∀ c o, c ≠ z → c ≠ TO → c ≠ i1 → c ≠ i2 → s.heap.get? c = some o → h'.get? c = some o) → Q none { s with heap := h' }) : wpAny (model prog w) A (pyNext (.ref z)) Q E s := by
  have hT : s.TypeIs (.ref z) "zip" := ⟨_, hz, rfl⟩
  unfold pyNext
  refine wpAny_bind (wpAny_attempt (wpAny_callSpecial?_slot (name := Str.ofString "__next__") hT F.slot_zip_next
    (wpAny_call_entry F.slot_zip_next hT F.entry_zip_next (zs_end hh S D1 D2 hz hTI hTO h1 h2 fun h' e hk he => ?_) (F.args_zip_next_1 _))))
  obtain ⟨o, ho, hc⟩ := he
  exact wpAny_bind (wpAny_isInstance (T := "StopIteration") (b := true) ⟨o, ho, hc⟩ isSubtype_stop (wpAny_pure (hQ _ hk)))
theorem zs_letgo {elts : List Expr} {x1} {pos : Pos} {z TI TO T : Addr} {Q : Unit → Shared → Prop} (hz : IsZs s.heap z TI TO (rawInt T)) (hQ : ∀ h', IsZs h' z TI TO .none → Heap.SameBut z s.heap h' → Q () { s with heap := h' }) :
    wpAny (model prog w) A (letOwnedTupleGo (.Tuple elts x1 pos) (.ref z) (.ref T)) Q E s := by
  unfold letOwnedTupleGo
  refine wpAny_bind (wpAny_load hz ?_)
  show wpAny _ _ (if (["enumerate", "zip", "dict_itemiterator", "dict_reverseitemiterator", "odict_iterator", "itertools.zip_longest", "itertools.pairwise"].contains "zip" &&
      (#[rawInt T, .bool false, .bool true, .ref TI, .ref TO] : Array Value)[0]? == some (rawInt T)) = true then _ else _) Q E s
  rw [if_pos (by simp)]
  exact wpAny_bind (wpAny_rule (wpAny_setField_rec hz (by simp) hQ))
theorem zs_iter {z TI TO : Addr} {f0 : Value} {Q : Value → Shared → Prop} (hz : IsZs s.heap z TI TO f0) (h : Q (.ref z) s) : wpAny (model prog w) A (pyIter (.ref z)) Q E s := by
  have hT : s.TypeIs (.ref z) "zip" := ⟨_, hz, rfl⟩
  refine wpAny_pyIter_slot hT F.slot_zip_iter (wpAny_call_entry F.slot_zip_iter hT F.entry_zip_iter ?_ (F.args_zip_iter_1 _))
  show wpAny _ _ (ret (.ref z)) _ _ s
  exact wpAny_pure ⟨_, rfl, "zip", _, hT, F.slot_zip_next.lookup, h⟩
end
theorem ct_zs (a b : Value) : checkTypeCall "zip" ⟨[a, b], [(Str.ofString "strict", .bool true)]⟩ = pure () := by kernel_rfl
theorem cn_zs (a b : Value) : checkBuiltinCall "zip.__new__" ⟨[.type "zip", a, b], [(Str.ofString "strict", .bool true)]⟩ = pure () := by kernel_rfl
theorem ai_zs (obj a b : Value) : argsOk "object.__init__" ⟨[obj, a, b], [(Str.ofString "strict", .bool true)]⟩ := by unfold argsOk; kernel_rfl
abbrev zsZ (h : Heap) (o1 o2 : Obj) : Heap := (gzO2 h o1 o2).push { cls := .type "zip", data := .fields #[.none, .bool false, .bool true, .ref ((h.push o1).push o2).objs.size, .ref (gzT2 h o1 o2).objs.size] }
theorem zs_new {v1 v2 : Value} {o1 o2 : Obj} {H1 H2 : Heap → Prop} (B1 : Begins v1 o1 H1) (B2 : Begins v2 o2 H2) :
    Meets (Builtin.«zip.__new__» ⟨[.type "zip", v1, v2], [(Str.ofString "strict", .bool true)]⟩) (fun _ R s => (H1 s.heap ∧ H2 s.heap) ∧ R (.ok (.ret (.ref (gzO2 s.heap o1 o2).objs.size))) { s with heap := zsZ s.heap o1 o2 }) := .of_wp fun prog w A R s h => by
  obtain ⟨hp, g, d, tk, os⟩ := s
  obtain ⟨⟨h1, h2⟩, h⟩ := h
  have hsub := sub_zip
  have q1 : ∀ {A' : Around} {E : Value → Shared → Prop} {Q : Value → Shared → Prop}, Q (.ref hp.objs.size) ⟨(hp.push o1), g, d, tk, os⟩ → wpAny (model prog w) A' (pyIter v1) Q E ⟨hp, g, d, tk, os⟩ := fun q => B1.iter prog w _ _ ⟨hp, g, d, tk, os⟩ _ (B1.keeps _ _ h1 fun b o' e => e) q
  have q2 : ∀ {A' : Around} {E : Value → Shared → Prop} {Q : Value → Shared → Prop}, Q (.ref (hp.push o1).objs.size) ⟨((hp.push o1).push o2), g, d, tk, os⟩ → wpAny (model prog w) A' (pyIter v2) Q E ⟨(hp.push o1), g, d, tk, os⟩ := fun q => B2.iter prog w _ _ ⟨(hp.push o1), g, d, tk, os⟩ _ (B2.keeps _ _ h2 fun b o' e => (Heap.get?_push_of_some _ e)) q
  have e1 : (Str.ofString "strict" == ("strict" : Str)) = true := by decide +kernel
  have e2 : (Str.ofString "strict" != ("strict" : Str)) = false := by decide +kernel
  have e4 : (("strict" : Str) == Str.ofString "strict") = true := by decide +kernel
  wp_walk using q1, q2
  exact ⟨_, rfl, h⟩
section
variable {prog : Program} {w : World} {A : Around} {E : Value → Shared → Prop} {s : Shared}
theorem zs_begins {v1 v2 : Value} {o1 o2 : Obj} {H1 H2 : Heap → Prop} {Q : Value → Shared → Prop} (B1 : Begins v1 o1 H1) (B2 : Begins v2 o2 H2) (h1 : H1 s.heap) (h2 : H2 s.heap)
    (h : ∀ h', IsZs h' (s.heap.objs.size + 4) (s.heap.objs.size + 2) (s.heap.objs.size + 3) .none → IsPair h' (s.heap.objs.size + 2) (.ref s.heap.objs.size) (.ref (s.heap.objs.size + 1)) →
      IsPair h' (s.heap.objs.size + 3) .none .none → h'.get? s.heap.objs.size = some o1 → h'.get? (s.heap.objs.size + 1) = some o2 → (∀ c o, s.heap.get? c = some o → h'.get? c = some o) → Q (.ref (s.heap.objs.size + 4)) { s with heap := h' }) :
    wpAny (model prog w) A (call (.type "zip") [v1, v2] [(Str.ofString "strict", .bool true)]) Q E s := by
  refine callType_newKw F.called_zip (by decide) (ct_zs _ _) (cn_zs _ _) (fun obj => ai_zs obj _ _) F.entry_zip_new (zs_new B1 B2) ⟨⟨h1, h2⟩, ?_⟩
  have z1 : (s.heap.push o1).objs.size = s.heap.objs.size + 1 := by rw [Heap.size_push]
  have z2 : ((s.heap.push o1).push o2).objs.size = s.heap.objs.size + 2 := by rw [Heap.size_push, z1]
  have z3 : (gzT2 s.heap o1 o2).objs.size = s.heap.objs.size + 3 := by rw [Heap.size_push, z2]
  have z4 : (gzO2 s.heap o1 o2).objs.size = s.heap.objs.size + 4 := by rw [Heap.size_push, z3]
  have p5 : ∀ {c o}, (gzO2 s.heap o1 o2).get? c = some o → (zsZ s.heap o1 o2).get? c = some o := fun e => Heap.get?_push_of_some _ e
  have p4 : ∀ {c o}, (gzT2 s.heap o1 o2).get? c = some o → (zsZ s.heap o1 o2).get? c = some o := fun e => p5 (Heap.get?_push_of_some _ e)
  have p3 : ∀ {c o}, ((s.heap.push o1).push o2).get? c = some o → (zsZ s.heap o1 o2).get? c = some o := fun e => p4 (Heap.get?_push_of_some _ e)
  have p2 : ∀ {c o}, (s.heap.push o1).get? c = some o → (zsZ s.heap o1 o2).get? c = some o := fun e => p3 (Heap.get?_push_of_some _ e)
  have e5 : (zsZ s.heap o1 o2).get? (gzO2 s.heap o1 o2).objs.size = some _ := Heap.get?_push_size _ rfl
  have e4 : (zsZ s.heap o1 o2).get? (gzT2 s.heap o1 o2).objs.size = some _ := p5 (Heap.get?_push_size _ rfl)
  have e3 : (zsZ s.heap o1 o2).get? ((s.heap.push o1).push o2).objs.size = some _ := p4 (Heap.get?_push_size _ rfl)
  have e2 : (zsZ s.heap o1 o2).get? (s.heap.push o1).objs.size = some o2 := p3 (Heap.get?_push_size _ B2.free)
  have e1 : (zsZ s.heap o1 o2).get? s.heap.objs.size = some o1 := p2 (Heap.get?_push_size _ B1.free)
  rw [z4, z3, z2] at e5
  rw [z3] at e4
  rw [z2, z1] at e3
  rw [z1] at e2
  show _ ∧ _
  rw [z4]
  exact ⟨⟨_, e5, rfl⟩, h _ e5 e3 e4 e1 e2 fun c o x => p2 (Heap.get?_push_of_some _ x)⟩
end
end ZS

namespace VQ
open PySem PySem.Spec PyProof.Rows L2 ZS
/-- a list (k) or a tuple -/
def SqK (K : PySem.W.Frag) (k : Bool) (H : Hp) (a : Addr) (xs : List V) : Prop := match k with
  | true => SqL K H a xs
  | false => SqT K H a xs
def IsK (k : Bool) (h : Heap) (a : Addr) (its : Array Value) : Prop := match k with
  | true => h.IsList a its
  | false => h.IsTuple a its
def ItrK (k : Bool) (h : Heap) (it a : Addr) (i : Nat) : Prop := match k with
  | true => h.IsListIter it a i
  | false => h.IsTupleIter it a i
def objK (k : Bool) (a : Addr) : Obj := match k with
  | true => { cls := .type "list_iterator", data := .fields #[.ref a, .int 0 0] }
  | false => { cls := .type "tuple_iterator", data := .fields #[.ref a, .int 0 0] }
theorem ItrK.keep {k : Bool} {h h' : Heap} {it a : Addr} {i : Nat} (st : ItrK k h it a i) (hk : ∀ o, h.get? it = some o → h'.get? it = some o) : ItrK k h' it a i := by
  cases k with
  | false => exact Heap.IsTupleIter.at st hk
  | true => exact Heap.IsListIter.at st hk
theorem drawsK (k : Bool) {prog : Program} {w : World} {A : Around} (hh : A.handled = none) (it l : Addr) (hne : l ≠ it) (items : Array Value) : Draws prog w A it [it, l] items.size (fun i v => items[i]? = some v) (fun i h => ItrK k h it l i ∧ IsK k h l items) := by
  cases k
  · exact Draws.tuple hh it l hne items
  · exact Draws.list hh it l hne items
theorem invK {X : Cx} {pins : List (Addr × Obj)} {σ : L2.St} {H : Hp} {s : Shared} {a : Addr} {xs : List V} (k : Bool) (I : L2.Inv X pins σ H s) (h : SqK X.K k H a xs) : ∃ its : List Value, Vals xs its ∧ IsK k s.heap a its.toArray ∧ a < s.heap.objs.size := by
  cases k
  · obtain ⟨its, rv, p, _⟩ := I.tuple h
    obtain ⟨o, ho, _⟩ := id p
    exact ⟨its, rv, p, Heap.lt_size ho⟩
  · obtain ⟨its, rv, p, _⟩ := I.list h
    exact ⟨its, rv, p.isList, p.lt⟩
theorem sqK_inj {X : Cx} {pins : List (Addr × Obj)} {σ : L2.St} {H : Hp} {s : Shared} {a : Addr} {xs ys : List V} (k : Bool) (I : L2.Inv X pins σ H s) (h : SqK X.K k H a xs) (h' : SqK X.K k H a ys) : xs = ys := by
  cases k
  · exact I.tuple_inj h h'
  · exact I.list_inj h h'
theorem itrK_obj {k : Bool} {h : Heap} {it a : Addr} {i : Nat} (st : ItrK k h it a i) : ∃ o, h.get? it = some o ∧ ∀ v, o.data ≠ .cell v := by
  cases k <;> obtain ⟨o, e, _, d⟩ := st <;> exact ⟨o, e, fun v q => by rw [d] at q; cases q⟩
def Itzs (K : PySem.W.Frag) (k1 k2 : Bool) (a b : Addr) : It :=
  ⟨fun i H => ∃ (xs ys : List V), SqK K k1 H a xs ∧ SqK K k2 H b ys ∧ xs.length = ys.length ∧ i < xs.length,
    fun i H v H' => ∃ T x y, v = .ref T ∧ H T = none ∧ H' = upd H T (.tup [x, y]) ∧ (∀ xs, SqK K k1 H a xs → xs[i]? = some x) ∧ ∀ ys, SqK K k2 H b ys → ys[i]? = some y,
    fun i H => ∃ xs ys : List V, SqK K k1 H a xs ∧ SqK K k2 H b ys ∧ xs.length = i ∧ ys.length = i⟩
theorem turn_zs {P : Program} {w : World} {K : PySem.W.Frag} {elts : List Expr} {kk : Nat} {tpos : Pos} {k1 k2 : Bool} {a b z TI TO i1 i2 : Addr} (S : ZipSep2 z TI TO i1 i2 [i1, a] [i2, b]) (ne1 : a ≠ i1) (ne2 : b ≠ i2) :
    Turn P w K (.Tuple elts kk tpos) (Itzs K k1 k2 a b) [z, TI, TO, i1, i2] z (fun i h => IsZs h z TI TO .none ∧ IsPair h TI (.ref i1) (.ref i2) ∧ (∃ x y, IsPair h TO x y) ∧ ItrK k1 h i1 a i ∧ ItrK k2 h i2 b i) where
  mem := by simp
  obj := fun i h st c hc => by
    obtain ⟨hz, hTI, ⟨x, y, hTO⟩, h1, h2⟩ := st
    simp only [List.mem_cons, List.not_mem_nil, or_false] at hc
    rcases hc with q | q | q | q | q
    · rw [q]; exact ⟨_, hz, fun v q => nomatch q⟩
    · rw [q]; exact ⟨_, hTI, fun v q => nomatch q⟩
    · rw [q]; exact ⟨_, hTO, fun v q => nomatch q⟩
    · rw [q]; exact itrK_obj h1
    · rw [q]; exact itrK_obj h2
  keep := fun i h h' st k => by
    obtain ⟨hz, hTI, ⟨x, y, hTO⟩, h1, h2⟩ := st
    exact ⟨k z (by simp) _ hz, k TI (by simp) _ hTI, ⟨x, y, k TO (by simp) _ hTO⟩, h1.keep fun o q => k i1 (by simp) o q, h2.keep fun o q => k i2 (by simp) o q⟩
  item := by
    intro X hP hw hK hc i pins s σ H E I hf st hg
    subst hP hw hK
    obtain ⟨hz, hTI, ⟨x0, y0, hTO⟩, h1, h2⟩ := st
    obtain ⟨xs, ys, qx, qy, hlen, hi⟩ := hg
    obtain ⟨its, rv, p, pl⟩ := invK k1 I qx
    obtain ⟨its2, rv2, p2, pl2⟩ := invK k2 I qy
    have l1 := rv.length
    have l2 := rv2.length
    have hh : X.A.in1.handled = none := I.ok.hd hc
    have hs2 : its2.toArray.size = its.toArray.size := by simp; omega
    have D1 := drawsK k1 (prog := X.prog) (w := X.w) hh i1 a ne1 its.toArray
    have D2 := drawsK k2 (prog := X.prog) (w := X.w) hh i2 b ne2 its2.toArray
    rw [hs2] at D2
    have hzl : z < s.heap.objs.size := Heap.lt_size hz
    refine zs_next_item S D1 D2 (by simp; omega) hz hTI hTO ⟨h1, p⟩ ⟨h2, p2⟩ fun u u2 h' tk hu hu2 a1 a2 a3 a4 a5 a6 a7 => ⟨_, rfl, zs_letgo (s := { s with heap := h', toks := tk }) a1 fun h'' z'' sb => ?_⟩
    obtain ⟨x, hx⟩ : ∃ x, xs[i]? = some x := ⟨xs[i], by simp [hi]⟩
    obtain ⟨y, hy⟩ : ∃ y, ys[i]? = some y := ⟨ys[i]'(by omega), by simp [show i < ys.length by omega]⟩
    obtain ⟨v, hv, rx⟩ := rv.get hx
    obtain ⟨v2, hv2, ry⟩ := rv2.get hy
    have eu : u = v := by simpa [hv] using hu.symm
    have eu2 : u2 = v2 := by simpa [hv2] using hu2.symm
    subst eu eu2
    have hT2 : h''.get? s.heap.objs.size = some { cls := .type "tuple", data := .seq #[u, u2] } := (sb.2 _ (Nat.ne_of_gt hzl)).trans a6
    have new : ObjOk X.prog X.w (upd H s.heap.objs.size (.tup [x, y])) h'' s.heap.objs.size (.tup [x, y]) := ⟨by show 2 ≤ sizeLine; decide, [u, u2], .cons rx (.cons ry .nil), ⟨_, hT2, rfl, _, rfl⟩⟩
    have I1 : L2.Inv X pins σ (upd H s.heap.objs.size (.tup [x, y])) { s with heap := h'', toks := tk } :=
      I.turnedNew (t' := tk) (ch := [z, TI, TO, i1, i2]) (fun c o hb q => (sb.2 c (fun q' => hb (by simp [q']))).trans (a7 c o (fun q' => hb (by simp [q'])) (fun q' => hb (by simp [q'])) (fun q' => hb (by simp [q'])) (fun q' => hb (by simp [q'])) q)) hf (Nat.le_refl _) new
    refine ⟨.ref s.heap.objs.size, _, I1, rfl, ⟨_, x, y, rfl, I.hok.fresh (Nat.le_refl _), rfl, fun l hl => by rw [sqK_inj k1 I hl qx]; exact hx, fun l hl => by rw [sqK_inj k2 I hl qy]; exact hy⟩, ⟨z'', ?_, ⟨u, u2, ?_⟩, ?_, ?_⟩, fun c hcm => ?_⟩
    · exact (sb.2 _ S.TIz).trans a2
    · exact (sb.2 _ S.TOz).trans a3
    · exact a4.1.keep fun o q => (sb.2 _ (fun e => S.zf1 (e ▸ S.mem1))).trans q
    · exact a5.1.keep fun o q => (sb.2 _ (fun e => S.zf2 (e ▸ S.mem2))).trans q
    · have hlt : c < s.heap.objs.size := by
        obtain ⟨o1, e1, _⟩ := itrK_obj h1
        obtain ⟨o2, e2, _⟩ := itrK_obj h2
        simp only [List.mem_cons, List.not_mem_nil, or_false] at hcm
        rcases hcm with q | q | q | q | q
        · rw [q]; exact hzl
        · rw [q]; exact Heap.lt_size hTI
        · rw [q]; exact Heap.lt_size hTO
        · rw [q]; exact Heap.lt_size e1
        · rw [q]; exact Heap.lt_size e2
      rw [upd_ne (Nat.ne_of_lt hlt)]
      exact (hf c hcm).1
  done := by
    intro X hP hw hK hc i pins s σ H E I hf st hg
    subst hP hw hK
    obtain ⟨hz, hTI, ⟨x0, y0, hTO⟩, h1, h2⟩ := st
    obtain ⟨xs, ys, qx, qy, e1, e2⟩ := hg
    obtain ⟨its, rv, p, _⟩ := invK k1 I qx
    obtain ⟨its2, rv2, p2, _⟩ := invK k2 I qy
    have l1 := rv.length
    have l2 := rv2.length
    have hh : X.A.in1.handled = none := I.ok.hd hc
    have D1 := drawsK k1 (prog := X.prog) (w := X.w) hh i1 a ne1 its.toArray
    have D2 := drawsK k2 (prog := X.prog) (w := X.w) hh i2 b ne2 its2.toArray
    have z1 : its.toArray.size = i := by simp; omega
    have z2 : its2.toArray.size = i := by simp; omega
    rw [z1] at D1
    rw [z2] at D2
    exact zs_next_end (I.ok.hd hc) S D1 D2 hz hTI hTO ⟨h1, p⟩ ⟨h2, p2⟩ fun h' hk => ⟨rfl, I.turnedL (t' := s.toks) (ch := [z, TI, TO, i1, i2]) (fun c o hb q => hk c o (fun q' => hb (by simp [q'])) (fun q' => hb (by simp [q'])) (fun q' => hb (by simp [q'])) (fun q' => hb (by simp [q'])) q) hf⟩
  self := fun A i s Q E st h => zs_iter st.1 h
theorem beginsK (k : Bool) (a : Addr) (its : Array Value) : Begins (.ref a) (objK k a) (fun h => IsK k h a its) := by
  cases k
  · exact begins_tuple a its
  · exact begins_list a its
theorem itrK_new (k : Bool) {h : Heap} {it a : Addr} (e : h.get? it = some (objK k a)) : ItrK k h it a 0 := by
  cases k
  · exact ⟨_, e, rfl, rfl⟩
  · exact ⟨_, e, rfl, rfl⟩
def iZs (K : PySem.W.Frag) (ta : TA) : TI := fun σ H R => ta σ H fun vs H1 => ∃ a b k1 k2 xs ys, vs = [.ref a, .ref b] ∧ SqK K k1 H1 a xs ∧ SqK K k2 H1 b ys ∧ xs.length = ys.length ∧ R (Itzs K k1 k2 a b) H1
theorem callWith_tkw {M : Model} {A : Around} {E : Value → Shared → Prop} {s : Shared} {pos : Pos} {T : String} {x : Sem Value} {rest : List (Bool × Sem Value)} {kws : List (Option Str × Sem Value)} {Q : Value → Shared → Prop} (hplain : ((false, x) :: rest).any (·.1) = false) (hall : kws.all (·.1.isSome) = true) (hkw : kws.any (·.1.isNone) = false)
    (h : wpAny M A (spliced ((false, x) :: rest)) (fun vs s₁ => wpAny M A (evalAll (kws.map (·.2))) (fun kvs s₂ => wpAny M A (call (.type T) vs ((kws.filterMap (·.1)).zip kvs)) Q E s₂) E s₁) E s) : wpAny M A (callWith pos (.type T) [] ((false, x) :: rest) kws) Q E s := by
  unfold callWith
  refine wpAny_bind (wpAny_holding (wpAny_mono (evalArgs_kwB (Q := fun a s₁ => wpAny M A (call (.type T) ([] ++ a.pos) a.kw) Q E s₁) hall h) (fun a s₁ h₁ => wpAny_bind (wpAny_standAt ?_)) fun _ _ x => x))
  simp only [hplain, hkw, Bool.or_false]
  refine wpAny_bind (wpAny_pure ?_)
  exact wpAny_bind (wpAny_mono h₁ (fun r s₂ hr => wpAny_bind (wpAny_holding (wpAny_point (wpAny_pure hr)))) fun _ _ x => x)
theorem pi_zs {X : Cx} {e e2 : Expr} {ta : TA} {p pos kp tpos : Pos} {j : Nat} {cp : Pos} {elts : List Expr} {kk : Nat} (hm : X.mg "zip" = none) (ha : PA X [e, e2] ta) (hg : Gl X "zip" := by rfl)
    (hs : starEach [e, e2] X.env = (false, eval e X.env) :: starEach [e2] X.env := by rfl) (hpl : (backTo pos (starEach [e2] X.env)).any (·.1) = false := by rfl) :
    PI X (.Tuple elts kk tpos) (.Call (.Name "zip" p) [e, e2] [⟨some "strict", .Constant (.bool true) j cp, kp⟩] pos) (iZs X.K ta) := by
  refine ⟨fun pins s σ H R I h => ?_⟩
  have hb : backTo pos (starEach [e, e2] X.env) = (false, eval e X.env) :: backTo pos (starEach [e2] X.env) := by rw [hs]; rfl
  refine wpAny_Call_Name_kw (ld_blt I hg hm boot_zip ?_)
  rw [hb]
  refine callWith_tkw (by show (false || (backTo pos (starEach [e2] X.env)).any (·.1)) = false; rw [hpl]; rfl) rfl rfl ?_
  rw [← hb]
  refine thn (ha.run pos pins s σ H _ I h) fun us s1 ⟨vs, H1, I1, r1, q1⟩ => ?_
  obtain ⟨a, b, k1, k2, xs, ys, ex, hqx, hqy, hlen, q⟩ := q1
  subst ex
  refine thn ((pk_cons (nm := some "strict") (kpos := kp) (pe_bl (b := true) (j := j) (pos := cp)) pk_nil).run pos pins s1 σ H1 (fun ws H2 => ws = [.bl true] ∧ H2 = H1) I1 ⟨rfl, rfl⟩) fun ks s2 ⟨ws, H2, I2, r2, e1, e2⟩ => ?_
  subst e1 e2
  cases r2 with
  | cons ra rb =>
    cases rb
    cases ra
    cases r1 with
    | cons r rr =>
      cases rr with
      | cons r' rr =>
        cases rr
        cases r
        cases r'
        obtain ⟨its, rv, p1, la⟩ := invK k1 I2 hqx
        obtain ⟨its2, rv2, p2, lb⟩ := invK k2 I2 hqy
        refine zs_begins (beginsK k1 a its.toArray) (beginsK k2 b its2.toArray) p1 p2 fun h' hz hTI hTO h1 h2 hk => zs_iter hz ?_
        have I3 : L2.Inv X pins σ H2 { s2 with heap := h' } := I2.kept (t' := s2.toks) hk
        refine ⟨s2.heap.objs.size + 4, [s2.heap.objs.size + 4, s2.heap.objs.size + 2, s2.heap.objs.size + 3, s2.heap.objs.size, s2.heap.objs.size + 1], _, _, H2, rfl, I3, turn_zs (PySem.zip_sep2 (fun c hc => by rw [List.mem_singleton.mp hc]; exact la) (fun c hc => by rw [List.mem_singleton.mp hc]; exact lb)) (Nat.ne_of_lt la) (Nat.ne_of_lt (Nat.lt_succ_of_lt lb)), ⟨hz, hTI, ⟨_, _, hTO⟩, itrK_new k1 h1, itrK_new k2 h2⟩, fun c hcm => ?_, q⟩
        have hle : s2.heap.objs.size ≤ c := by
          have e' : c = s2.heap.objs.size + 4 ∨ c = s2.heap.objs.size + 2 ∨ c = s2.heap.objs.size + 3 ∨ c = s2.heap.objs.size ∨ c = s2.heap.objs.size + 1 := by simpa using hcm
          rcases e' with z | z | z | z | z <;> rw [z] <;> first | exact Nat.le_add_right _ _ | exact Nat.le_refl _
        exact I2.fpOk hle (I2.hok.fresh hle)
section
variable {X : Cx} {M : WM X.K} {W : WX} {a b : Expr} {ea eb : Ev M D}
/-- what a zip with strict hands over -/
def seqL : D → Option (List D)
  | .lst l => some l
  | .tup l => some l
  | _ => none
def zipS (x y : D) : Option (List D) := match seqL x, seqL y with
  | some l, some m => if l.length = m.length then some (zipT l m) else none
  | _, _ => none
theorem seqL_at {q : Pt M} (ok : q.Ok) {d : D} {x : V} {l : List D} (z : seqL d = some l) (h : Den X.K q.ad q.Hv d x) : ∃ k a vs, x = .ref a ∧ SqK X.K k q.H a vs ∧ DenL X.K q.ad q.Hv l vs ∧ ∀ H', Same q.Hv H' → SqK X.K k H' a vs := by
  cases d <;> first | (cases z; done) | skip
  · cases z
    obtain ⟨a, vs, rfl, a1, a2⟩ := h
    exact ⟨false, a, vs, rfl, sqT_H ok a1, a2, fun H' sm => sqT_same sm a1⟩
  · cases z
    obtain ⟨a, vs, rfl, a1, a2⟩ := h
    exact ⟨true, a, vs, rfl, SqL.of (ok.view _ _ a1), a2, fun H' sm => SqL.of (sm _ _ a1)⟩
theorem it_zipS {p pos kp cp tpos : Pos} {j : Nat} {elts : List Expr} {kk : Nat} (hm : X.mg "zip" = none) (ha : PE X a (tD M X.mg W ea)) (hb : PE X b (tD M X.mg W eb)) (hg : Gl X "zip" := by rfl)
    (hs : starEach [a, b] X.env = (false, eval a X.env) :: starEach [b] X.env := by rfl) (hs2 : starEach [b] X.env = (false, eval b X.env) :: starEach [] X.env := by rfl) (hpl : (backTo pos (starEach [b] X.env)).any (·.1) = false := by rfl) :
    PI X (.Tuple elts kk tpos) (.Call (.Name "zip" p) [a, b] [⟨some "strict", .Constant (.bool true) j cp, kp⟩] pos) (tIt M W (eI2 zipS ea eb)) := (pi_zs hm (pa_cons ha (pa_cons hb pa_nil hs2) hs) hg hs hpl).con fun σ H R ⟨ρ, p, hH, ok, en, q⟩ => by
  subst hH
  show tD M X.mg W ea σ p.H fun x H1 => tD M X.mg W eb σ H1 fun y H2 => ∃ a b k1 k2 xs ys, [x, y] = [.ref a, .ref b] ∧ SqK X.K k1 H2 a xs ∧ SqK X.K k2 H2 b ys ∧ xs.length = ys.length ∧ R (Itzs X.K k1 k2 a b) H2
  refine tG.seq ok en q fun r1 x q1 ex1 ok1 es1 dx h1 => ?_
  rw [← es1] at h1
  refine tG.seq ok1 (en.ext ex1) (XEnds ex1 h1 fun _ h => h) fun r2 y q2 ex2 ok2 es2 dy h2 => ?_
  obtain ⟨d, s1⟩ := r1
  obtain ⟨e, s2⟩ := r2
  have dx2 := ex2.den dx
  cases z : zipS d e with
  | none => simp only [op, z] at h2; exact h2.elim
  | some items =>
    simp only [op, z] at h2
    unfold zipS at z
    cases zl : seqL d with
    | none => rw [zl] at z; cases z
    | some l =>
      rw [zl] at z
      cases zm : seqL e with
      | none => rw [zm] at z; cases z
      | some m =>
        rw [zm] at z
        dsimp only at z
        split at z
        · rename_i hlen
          cases z
          obtain ⟨k1, a, vs, rfl, a1, a2, a3⟩ := seqL_at ok2 zl dx2
          obtain ⟨k2, b, ws, rfl, b1, b2, b3⟩ := seqL_at ok2 zm dy
          have hl : vs.length = ws.length := by rw [a2.length, b2.length]; exact hlen
          refine ⟨a, b, k1, k2, vs, ws, rfl, a1, b1, hl, h2 _ q2 (ex1.trans ex2) ok2 es2 fun H' sm => ?_⟩
          refine ⟨fun i hi => ?_, fun i y hy => ?_⟩
          · exact ⟨vs, ws, a3 H' sm, b3 H' sm, by rw [a2.length]; rw [zipT_len] at hi; omega, by rw [b2.length]; rw [zipT_len] at hi; omega⟩
          · obtain ⟨d, e, g1, g2, rfl⟩ := zipT_get _ _ _ _ hy
            obtain ⟨v, g3, g4⟩ := a2.get g1
            obtain ⟨w, g5, g6⟩ := b2.get g2
            have hi : i < vs.length := (List.getElem?_eq_some_iff.mp g3).1
            refine ⟨⟨vs, ws, a3 H' sm, b3 H' sm, hl, hi⟩, fun x H2 ⟨T, x', y', e1, e2, e3, e4, e5⟩ => .inr <| .inl ⟨T, _, _, e2, e1, e3, rfl, ?_⟩⟩
            have t1 := e4 vs (a3 H' sm)
            have t2 := e5 ws (b3 H' sm)
            rw [g3] at t1; cases t1
            rw [g5] at t2; cases t2
            exact ⟨_, _, rfl, g4, DenL.one g6⟩
        · cases z
end
end VQ

namespace VQ
open PySem PySem.Spec PyProof.Rows L2 ZS
section
variable {X : Cx} {M : WM X.K} {W : WX} {a : Expr} {ea : Ev M D}
end
end VQ

namespace VK
open PySem PySem.Spec PyProof.Rows L2 VQ
noncomputable section
variable {K : PySem.W.Frag} (M : WM K)
def s_law_of (f__law_pull : Dfs M) : Sv M := (sRet (M := M) [] (eSh (M := M) (eBinD (M := M) ixD (eVar M 1) (eSeen (M := M) (eCall (M := M) 2 f__law_pull [] (eCons (M := M) (eVar M 0) (eCons (M := M) (eSeen (M := M) (eFun (M := M) lenD (eCons (M := M) (eVar M 1) (eNil (M := M))))) (eNil (M := M)))))))))
def w_law_of (pull : Dfs M) : Dfs M := runD 2 (s_law_of M pull)
def s_law_figs : Sv M := (sSeq (M := M) (sSet (M := M) 1 [] (eSh (M := M) (eC M (.str []))))
    (sSeq (M := M) (sFor (M := M) [] (eI1 (M := M) rng1 (eC M (.int 5))) (gtName 2) (sSeq (M := M) (sSet (M := M) 1 [] (eSh (M := M) (eSeen (M := M) (eBin (M := M) addD (eSeen (M := M) (eFun (M := M) strD (eCons (M := M) (eSeen (M := M) (eBin (M := M) modD (eVar M 0) (eC M (.int 2)))) (eNil (M := M))))) (eVar M 1)))))
    (sSet (M := M) 0 [] (eSh (M := M) (eSeen (M := M) (eBin (M := M) fdivD (eVar M 0) (eC M (.int 2))))))))
    (sRet (M := M) [] (eSh (M := M) (eVar M 1)))))
def w_law_figs : Dfs M := runD 3 (s_law_figs M)
def s_law_worth (f__law_of : Dfs M) (f__law_pull : Dfs M) : Sv M := (sRet (M := M) [] (eCall (M := M) 2 f__law_of [] (eCons (M := M) (eVar M 0) (eCons (M := M) (eSeen (M := M) (eLst (M := M) (eCons (M := M) (eSeen (M := M) (eCall (M := M) 2 f__law_pull [] (eCons (M := M) (eVar M 0) (eCons (M := M) (eC M (.int 32)) (eNil (M := M)))))) (eCons (M := M) (eSeen (M := M) (eCall (M := M) 2 f__law_pull [] (eCons (M := M) (eVar M 0) (eCons (M := M) (eC M (.int 32)) (eNil (M := M)))))) (eCons (M := M) (eSeen (M := M) (eCall (M := M) 2 f__law_pull [] (eCons (M := M) (eVar M 0) (eCons (M := M) (eC M (.int 4)) (eNil (M := M)))))) (eCons (M := M) (eC M (.int 0)) (eCons (M := M) (eC M (.int 31)) (eNil (M := M))))))))) (eNil (M := M))))))
def w_law_worth (pull : Dfs M) : Dfs M := runD 1 (s_law_worth M (w_law_of M pull) pull)
def s_law_begin (f__law_of : Dfs M) (f__law_figs : Dfs M) (f__law_worth : Dfs M) : Sv M := (sSeq (M := M) (sSet (M := M) 1 [] (eSh (M := M) (eSeen (M := M) (eCall (M := M) 2 f__law_of [] (eCons (M := M) (eVar M 0) (eCons (M := M) (eSeen (M := M) (eLst (M := M) (eCons (M := M) (eC M (.int 0)) (eCons (M := M) (eC M (.int 0)) (eCons (M := M) (eC M (.int 1)) (eCons (M := M) (eC M (.int 2)) (eCons (M := M) (eC M (.int 3)) (eCons (M := M) (eC M (.int 4)) (eCons (M := M) (eC M (.int 5)) (eNil (M := M))))))))))) (eNil (M := M))))))))
    (sRet (M := M) [] (eSl (M := M) (eSeen (M := M) (eCall (M := M) 1 f__law_figs [] (eCons (M := M) (eSeen (M := M) (eCall (M := M) 1 f__law_worth [] (eCons (M := M) (eVar M 0) (eNil (M := M))))) (eNil (M := M))))) (eNoPt (M := M)) (ePt (M := M) (eVar M 1)))))
def w_law_begin (pull : Dfs M) : Dfs M := runD 2 (s_law_begin M (w_law_of M pull) (w_law_figs M) (w_law_worth M pull))
def s_law_same (f__law_same : Dfs M) : Sv M := (sSeq (M := M) (sIf (M := M) [] (eCmpT (M := M) isD (eVar M 1) (eC M .non)) (sRet (M := M) [] (eSh (M := M) (eBinD (M := M) (blD isD) (eVar M 0) (eC M .non)))) (sNil (M := M)))
    (sSeq (M := M) (sIf (M := M) [] (eOr (M := M) (eTest (M := M) truD (eUn (M := M) (fun d => (isT d .bool).map .bl) (eVar M 1))) (eTest (M := M) truD (eUn (M := M) (fun d => (isT d .bool).map .bl) (eVar M 0)))) (sRet (M := M) [] (eSh (M := M) (eAndV (M := M) truD (eUn (M := M) (fun d => (isT d .bool).map .bl) (eVar M 1)) (eAndV (M := M) truD (eUn (M := M) (fun d => (isT d .bool).map .bl) (eVar M 0)) (eBinD (M := M) (blD eqO) (eVar M 0) (eVar M 1)))))) (sNil (M := M)))
    (sSeq (M := M) (sIf (M := M) [] (eTest (M := M) truD (eUn (M := M) (fun d => (isTs d (.int :: [.str])).map .bl) (eVar M 1))) (sRet (M := M) [] (eSh (M := M) (eAndV (M := M) truD (eBinD (M := M) (blD eqO) (eUn (M := M) (fun d => (isT d .int).map .bl) (eVar M 0)) (eUn (M := M) (fun d => (isT d .int).map .bl) (eVar M 1))) (eAndV (M := M) truD (eUn (M := M) (fun d => (isTs d (.int :: [.str])).map .bl) (eVar M 0)) (eBinD (M := M) (blD eqO) (eVar M 0) (eVar M 1)))))) (sNil (M := M)))
    (sSeq (M := M) (sIf (M := M) [] (eOr (M := M) (eCmpT (M := M) neO (eUn (M := M) (fun d => (isT d .list).map .bl) (eVar M 0)) (eUn (M := M) (fun d => (isT d .list).map .bl) (eVar M 1))) (eCmpT (M := M) neO (eUn (M := M) (fun d => (isT d .tuple).map .bl) (eVar M 0)) (eUn (M := M) (fun d => (isT d .tuple).map .bl) (eVar M 1)))) (sRet (M := M) [] (eSh (M := M) (eC M (.bl false)))) (sNil (M := M)))
    (sRet (M := M) [] (eSh (M := M) (eAndV (M := M) truD (eBinD (M := M) (blD eqO) (eSeen (M := M) (eFun (M := M) lenD (eCons (M := M) (eVar M 0) (eNil (M := M))))) (eSeen (M := M) (eFun (M := M) lenD (eCons (M := M) (eVar M 1) (eNil (M := M)))))) (eSeen (M := M) (eFun (M := M) allD (eCons (M := M) (eSeen (M := M) (eLc (M := M) [2] (eI1 (M := M) rng1 (eSeen (M := M) (eFun (M := M) lenD (eCons (M := M) (eVar M 1) (eNil (M := M)))))) (gdName 2) (eYes (M := M)) (eSeen (M := M) (eCall (M := M) 2 f__law_same [] (eCons (M := M) (eBinD (M := M) ixD (eVar M 0) (eVar M 2)) (eCons (M := M) (eBinD (M := M) ixD (eVar M 1) (eVar M 2)) (eNil (M := M)))))))) (eNil (M := M))))))))))))
def w_law_same : Nat → Dfs M
  | 0 => fBad
  | n + 1 => runD 3 (s_law_same M (w_law_same n))
def s_is_beginning : Sv M := (sRet (M := M) [] (eSh (M := M) (eAndV (M := M) truD (eUn (M := M) (fun d => (isT d .str).map .bl) (eVar M 0)) (eAndV (M := M) truD (eBinD (M := M) (blD leD) (eSeen (M := M) (eFun (M := M) lenD (eCons (M := M) (eVar M 0) (eNil (M := M))))) (eC M (.int 5))) (eSeen (M := M) (eFun (M := M) allD (eCons (M := M) (eSeen (M := M) (eLc (M := M) [1] (eItems (M := M) anyOf (eVar M 0)) (gdName 1) (eYes (M := M)) (eBinD (M := M) (blD inD) (eVar M 1) (eC M (.str [48, 49]))))) (eNil (M := M)))))))))
def w_is_beginning : Dfs M := runD 2 (s_is_beginning M)
end
end VK

namespace VK
open PySem PySem.Spec PyProof.Rows L2 VQ
theorem lb0 : (0 ≤ big) = True := eq_true (by decide)
theorem lb1 : (1 ≤ big) = True := eq_true (by decide)
theorem lb2 : (2 ≤ big) = True := eq_true (by decide)
theorem lb3 : (3 ≤ big) = True := eq_true (by decide)
theorem lb4 : (4 ≤ big) = True := eq_true (by decide)
theorem lb5 : (5 ≤ big) = True := eq_true (by decide)
theorem lb6 : (6 ≤ big) = True := eq_true (by decide)
theorem lb7 : (7 ≤ big) = True := eq_true (by decide)
theorem lb8 : (8 ≤ big) = True := eq_true (by decide)
theorem lb9 : (9 ≤ big) = True := eq_true (by decide)
theorem lb10 : (10 ≤ big) = True := eq_true (by decide)
theorem lb11 : (11 ≤ big) = True := eq_true (by decide)
theorem lb12 : (12 ≤ big) = True := eq_true (by decide)
theorem lb13 : (13 ≤ big) = True := eq_true (by decide)
theorem lb14 : (14 ≤ big) = True := eq_true (by decide)
theorem lb15 : (15 ≤ big) = True := eq_true (by decide)
theorem lb16 : (16 ≤ big) = True := eq_true (by decide)
theorem lb17 : (17 ≤ big) = True := eq_true (by decide)
theorem lb18 : (18 ≤ big) = True := eq_true (by decide)
theorem lb19 : (19 ≤ big) = True := eq_true (by decide)
theorem lb20 : (20 ≤ big) = True := eq_true (by decide)
theorem lb21 : (21 ≤ big) = True := eq_true (by decide)
theorem lb22 : (22 ≤ big) = True := eq_true (by decide)
theorem lb23 : (23 ≤ big) = True := eq_true (by decide)
theorem lb24 : (24 ≤ big) = True := eq_true (by decide)
theorem lb25 : (25 ≤ big) = True := eq_true (by decide)
theorem lb26 : (26 ≤ big) = True := eq_true (by decide)
theorem lb27 : (27 ≤ big) = True := eq_true (by decide)
theorem lb28 : (28 ≤ big) = True := eq_true (by decide)
theorem lb29 : (29 ≤ big) = True := eq_true (by decide)
theorem lb30 : (30 ≤ big) = True := eq_true (by decide)
theorem add_ii (i j : Int) : addD (.int i) (.int j) = some (.sh (.int (i + j))) := rfl
theorem add_ss {a b : List Nat} (h : a.length + b.length ≤ big) : addD (.str a) (.str b) = some (.sh (.str (a ++ b))) := by simp [addD, h]
theorem add_tt {a b : List D} (h : a.length + b.length ≤ big) : addD (.tup a) (.tup b) = some (.sh (.tup (a ++ b))) := by simp [addD, h]
theorem add_ll {a b : List D} (h : a.length + b.length ≤ big) : addD (.lst a) (.lst b) = some (.fr (.lst (a ++ b))) := by simp [addD, h]
theorem sub_ii (i j : Int) : subD (.int i) (.int j) = some (.sh (.int (i - j))) := rfl
theorem mul_lk {l : List D} {k : Int} (h1 : -1000 ≤ k) (h2 : k ≤ 1000) (h3 : l.length ≤ 1000) : mulD (.lst l) (.int k) = some (.fr (.lst (List.replicate k.toNat l).flatten)) := by simp [mulD, lk_eq, h1, h2, h3]
theorem mul_tk {l : List D} {k : Int} (h1 : -1000 ≤ k) (h2 : k ≤ 1000) (h3 : l.length ≤ 1000) : mulD (.tup l) (.int k) = some (.sh (.tup (List.replicate k.toNat l).flatten)) := by simp [mulD, lk_eq, h1, h2, h3]
theorem in62_nat {n : Nat} (h : n ≤ 1000000) : in62 ((n : Nat) : Int) = true := by
  have h1 : -(2 ^ 62) ≤ ((n : Nat) : Int) := by omega
  have h2 : ((n : Nat) : Int) < 2 ^ 62 := by omega
  unfold in62
  rw [lk_eq, decide_eq_true h1, decide_eq_true h2]; rfl
theorem rng1_eq {n : Nat} (h : n ≤ 1000000) : rng1 (.int (n : Nat)) = some ((List.range n).map fun k => .int (0 + (k : Nat))) := by
  have e : rng1 (.int (n : Nat)) = if in62 ((n : Nat) : Int) = true then some (VQ.upTo 0 ((n : Nat) : Int).toNat) else none := rfl
  rw [e, if_pos (in62_nat h), Int.toNat_natCast]; rfl
theorem catch_ret {ε ε' α : Type} (a : α) (f : ε → G ε' α) : (G.ret a : G ε α).catch_ f = .ret a := rfl
theorem catch_exc {ε ε' α : Type} (e : ε) (f : ε → G ε' α) : (G.exc e : G ε α).catch_ f = f e := rfl
theorem tried_0 {xt : Xt} {x : PySem.Str} {fl : FSpec} {l : List Nat} (h : xt.lookup x = some none) (hf : (fl.map (fD [])).lookup ("called" : PySem.Str) = some (D.str l)) : triedX xt ⟨x, fl.map (fD [])⟩ = some (.tup [.str l, .str []]) := by
  unfold triedX
  simp only [h, hf]
theorem v1_sh (m : List Nat) (i : Nat) (d : D) : view1 m i (some (.sh d)) = some d := rfl
theorem v1_no (m : List Nat) (i : Nat) : view1 m i none = none := rfl
theorem v1_ow (i : Nat) (d : D) : view1 [] i (some (.ow d)) = none := rfl
theorem v1_on (m : List Nat) (i : Nat) (d : D) : view1 m i (some (.ow d)) = if m.contains i = true then some d else none := rfl
theorem f1_sh (m : List Nat) (i : Nat) (d : D) : frz1 m i (some (.sh d)) = some (.sh d) := rfl
theorem f1_no (m : List Nat) (i : Nat) : frz1 m i none = none := rfl
theorem f1_on (m : List Nat) (i : Nat) (d : D) : frz1 m i (some (.ow d)) = if m.contains i = true then some (.sh d) else some (.ow d) := rfl
theorem bq_tt : (true == true) = true := rfl
theorem bq_tf : (true == false) = false := rfl
theorem bq_ft : (false == true) = false := rfl
theorem bq_ff : (false == false) = true := rfl
theorem q_bb (a b : Bool) : eqO (.bl a) (.bl b) = some (a == b) := by cases a <;> cases b <;> rfl
theorem q_ss (a b : List Nat) : eqO (.str a) (.str b) = some (a == b) := rfl
theorem q_ii (a b : Int) : eqO (.int a) (.int b) = some (a == b) := rfl
theorem n_bb (a b : Bool) : neO (.bl a) (.bl b) = some (!(a == b)) := by cases a <;> cases b <;> rfl
theorem n_ss (a b : List Nat) : neO (.str a) (.str b) = some (!(a == b)) := rfl
theorem n_ii (a b : Int) : neO (.int a) (.int b) = some (!(a == b)) := rfl
mutual
theorem eqD_refl : ∀ (n : Nat) (d : D), pl n d = true → eqD d d = true
  | _, .non, _ => rfl
  | _, .bl b, _ => by simp [eqD]
  | _, .int b, _ => by simp [eqD]
  | _, .str b, _ => by simp [eqD]
  | n + 1, .tup l, h => by
    simp only [pl] at h
    simp only [eqD]
    exact eqDs_refl n l h
  | n + 1, .lst l, h => by
    simp only [pl] at h
    simp only [eqD]
    exact eqDs_refl n l h
  | 0, .tup _, h => by simp [pl] at h
  | 0, .lst _, h => by simp [pl] at h
  | _, .dk _, h => by simp [pl] at h
  | _, .dt _, h => by simp [pl] at h
  | _, .obj _, h => by simp [pl] at h
  | _, .ty _, h => by simp [pl] at h
theorem eqDs_refl : ∀ (n : Nat) (l : List D), plL n l = true → eqDs l l = true
  | _, [], _ => rfl
  | n, d :: r, h => by
    simp only [plL, Bool.and_eq_true] at h
    simp only [eqDs, Bool.and_eq_true]
    exact ⟨eqD_refl n d h.1, eqDs_refl n r h.2⟩
end
theorem eqO_refl {d : D} (h : pl 40 d = true) : eqO d d = some true := by
  unfold eqO
  rw [h, Bool.and_self, Bool.or_true, if_pos rfl, eqD_refl 40 d h]
theorem neO_refl {d : D} (h : pl 40 d = true) : neO d d = some false := by
  unfold neO
  rw [eqO_refl h]; rfl
/-- str of 0 or 1 -/
theorem fig2 (j : Int) : figD (j % 2) = [48 + (j % 2).toNat] := by
  rcases Int.emod_two_eq j with h | h <;> rw [h] <;> decide +kernel
theorem log2ok (j : Int) : (j % 2).natAbs.log2 < 1920 := by
  rcases Int.emod_two_eq j with h | h <;> rw [h] <;> decide
theorem str2 (j : Int) : strD [.int (j % 2)] = some (.sh (.str [48 + (j % 2).toNat])) := by
  show (if (j % 2).natAbs.log2 < 1920 then some (R.sh (.str (figD (j % 2)))) else none) = _
  rw [if_pos (log2ok j), fig2]
/-- five figures of a number -/
def b5 (i : Int) : List Nat := [48 + (i / 2 / 2 / 2 / 2 % 2).toNat, 48 + (i / 2 / 2 / 2 % 2).toNat, 48 + (i / 2 / 2 % 2).toNat, 48 + (i / 2 % 2).toNat, 48 + (i % 2).toNat]
def isSign (c : Nat) : Bool := c == 48 || c == 49
/-- a beginning -/
def beg (l : List Nat) : Bool := decide (l.length ≤ 5) && l.all isSign
theorem beg_len {l : List Nat} (h : beg l = true) : l.length ≤ 5 := by
  simp only [beg, Bool.and_eq_true, decide_eq_true_eq] at h; exact h.1
theorem beg_take {l : List Nat} (h : beg l = true) (k : Nat) : beg (l.take k) = true := by
  simp only [beg, Bool.and_eq_true, decide_eq_true_eq, List.all_eq_true] at h ⊢
  exact ⟨by rw [List.length_take]; omega, fun x hx => h.2 x (List.mem_of_mem_take hx)⟩
theorem b5_beg (i : Int) : beg (b5 i) = true := by
  have : ∀ j : Int, isSign (48 + (j % 2).toNat) = true := fun j => by
    rcases Int.emod_two_eq j with h | h <;> rw [h] <;> decide
  simp [beg, b5, this]
theorem cut_to {α : Type} (l : List α) (k : Nat) : cutL l none (some (k : Int)) = l.take k := by
  unfold cutL
  rw [HT.sIx_none, HT.sIx_nat]
  simp [List.take_eq_take_iff]
theorem cut_from {α : Type} (l : List α) (k : Nat) : cutL l (some (k : Int)) none = l.drop k := by
  unfold cutL
  rw [HT.sIx_none, HT.sIx_nat]
  by_cases h : k ≤ l.length
  · rw [Nat.min_eq_left h]
    exact List.take_of_length_le (by simp)
  · rw [Nat.min_eq_right (by omega), List.drop_of_length_le (Nat.le_refl _), List.drop_of_length_le (by omega)]; simp
theorem cut_last {α : Type} (l : List α) : cutL l none (some (-1)) = l.dropLast := by
  unfold cutL HT.sIx
  simp only [show ((-1 : Int) < 0) from by decide, if_true, List.drop_zero, Nat.sub_zero]
  rw [List.dropLast_eq_take]
  congr 1
  omega
theorem at_last {α : Type} (l : List α) (h : l ≠ []) : atI l (-1) = some (l.getLast h) := by
  have hl : 0 < l.length := List.length_pos_iff.mpr h
  unfold atI ixN
  rw [if_neg (by decide), if_pos (by omega)]
  show l[(-1 + (l.length : Int)).toNat]? = _
  rw [show (-1 + (l.length : Int)).toNat = l.length - 1 by omega, List.getLast_eq_getElem]
  simp [hl]
theorem b5_len (i : Int) : (b5 i).length = 5 := rfl
section
variable {K : PySem.W.Frag} {M : WM K} {s s' : M.S} {α : Type}
/-- comprehensions over a typed list -/
theorem elc_fil {vs : List Nat} {ei : Ev M (List D)} {g : D → Dv → Option Dv} {et : Ev M Bool} {ee : Ev M D} {ρ : Dv} (xs : List α) (inj : α → D) (p : α → Bool) (F : α → D) (he : ei ρ s = .ret (xs.map inj, s')) (hl : xs.length ≤ big) (h : ∀ x ∈ xs, ∃ ρ1, g (inj x) (wipeD vs ρ) = some ρ1 ∧ et ρ1 s' = .ret (p x, s') ∧ (p x = true → ee ρ1 s' = .ret (F x, s'))) :
    eLc vs ei g et ee ρ s = .ret (.fr (.lst ((xs.filter p).map F)), s') := by
  have aux : ∀ (xs : List α) (acc : List D), acc.length + xs.length ≤ big → (∀ x ∈ xs, ∃ ρ1, g (inj x) (wipeD vs ρ) = some ρ1 ∧ et ρ1 s' = .ret (p x, s') ∧ (p x = true → ee ρ1 s' = .ret (F x, s'))) → lcG g et ee (wipeD vs ρ) (xs.map inj) acc s' = .ret (.fr (.lst (acc ++ (xs.filter p).map F)), s') := by
    intro xs
    induction xs with
    | nil => intro acc _ _; simp [lcG]
    | cons x xs ih =>
      intro acc hl h
      obtain ⟨ρ1, e1, e2, e3⟩ := h x (List.mem_cons_self ..)
      simp only [List.length_cons] at hl
      rw [List.map_cons]
      unfold lcG
      rw [e1]
      show ((et ρ1 s').noX.bind _ : Gx M R) = _
      rw [e2]
      cases hp : p x with
      | false =>
        show lcG g et ee _ _ acc s' = _
        rw [ih acc (by omega) fun y hy => h y (List.mem_cons_of_mem _ hy)]
        simp [hp]
      | true =>
        show ((ee ρ1 s').noX.bind _ : Gx M R) = _
        rw [e3 hp]
        show (if acc.length < big then lcG g et ee _ _ (acc ++ [F x]) s' else .bad) = _
        rw [if_pos (by omega), ih _ (by simp; omega) fun y hy => h y (List.mem_cons_of_mem _ hy)]
        simp [hp]
  unfold eLc
  rw [he]
  show lcG g et ee (wipeD vs ρ) (xs.map inj) [] s' = _
  rw [aux xs [] (by simpa using hl) h]; rfl
theorem elc_map {vs : List Nat} {ei : Ev M (List D)} {g : D → Dv → Option Dv} {ee : Ev M D} {ρ : Dv} (xs : List α) (inj : α → D) (F : α → D) (he : ei ρ s = .ret (xs.map inj, s')) (hl : xs.length ≤ big) (h : ∀ x ∈ xs, ∃ ρ1, g (inj x) (wipeD vs ρ) = some ρ1 ∧ ee ρ1 s' = .ret (F x, s')) :
    eLc vs ei g eYes ee ρ s = .ret (.fr (.lst (xs.map F)), s') := by
  rw [elc_fil xs inj (fun _ => true) F he hl fun x hx => by
    obtain ⟨ρ1, h1, h2⟩ := h x hx
    exact ⟨ρ1, h1, rfl, fun _ => h2⟩]
  rw [List.filter_eq_self.mpr fun _ _ => rfl]
/-- a comprehension whose items are drawn -/
theorem lc_draw {β : Type} {g : D → Dv → Option Dv} {ee : Ev M D} {ρ : Dv} {ds : List D} {Ex : Exc × M.S → Prop} (inj : β → D) (Q : β → Prop) (hl : ds.length ≤ big) (h : ∀ d ∈ ds, ∃ ρ1, g d ρ = some ρ1 ∧ Al (ee ρ1 s) (fun r => ∃ z, Q z ∧ r = (inj z, s)) (fun _ => False)) :
    Al (lcG g eYes ee ρ ds [] s) (fun r => ∃ zs : List β, zs.length = ds.length ∧ (∀ z ∈ zs, Q z) ∧ r = (.fr (.lst (zs.map inj)), s)) Ex := by
  refine (lc_al (fun _ y => ∃ z, Q z ∧ y = inj z) (fun t => t = s) rfl (fun d hd t ht => ?_) (by simpa using hl)).to fun r hr => ?_
  · subst ht
    obtain ⟨ρ1, e1, e2⟩ := h d hd
    refine ⟨ρ1, e1, e2.to fun r hr => ?_⟩
    obtain ⟨z, hz, e⟩ := hr
    subst e
    exact ⟨⟨z, hz, rfl⟩, rfl⟩
  · obtain ⟨ys, h1, h2, h3⟩ := hr
    have aux : ∀ {ds ys : List D}, All2 (fun _ y => ∃ z, Q z ∧ y = inj z) ds ys → ∃ zs : List β, zs.length = ds.length ∧ (∀ z ∈ zs, Q z) ∧ ys = zs.map inj := by
      intro ds ys h
      induction h with
      | nil => exact ⟨[], rfl, by simp, rfl⟩
      | cons h _ ih =>
        obtain ⟨z, hz, rfl⟩ := h
        obtain ⟨zs, a, b, rfl⟩ := ih
        exact ⟨z :: zs, by simp [a], by simpa using ⟨hz, b⟩, rfl⟩
    obtain ⟨zs, a, b, rfl⟩ := aux h2
    obtain ⟨r1, r2⟩ := r
    cases h1; cases h3
    exact ⟨zs, a, b, rfl⟩
theorem frzG_e : ∀ (i : Nat) (ρ : Nv), frzG [] i ρ = ρ
  | _, [] => rfl
  | i, o :: r => by
    unfold frzG
    rw [frzG_e (i + 1) r]
    cases o with
    | none => rfl
    | some v => cases v <;> rfl
theorem all_map (l : List α) (f : α → Bool) : allD [.lst (l.map fun x => .bl (f x))] = some (.sh (.bl (l.all f))) := by
  have : l.map (fun x => D.bl (f x)) = (l.map f).map D.bl := by simp
  show (blsD _).map _ = _
  rw [this, blsD_map]
  simp [List.all_map]
theorem any_map (l : List α) (f : α → Bool) : anyD [.lst (l.map fun x => .bl (f x))] = some (.sh (.bl (l.any f))) := by
  have : l.map (fun x => D.bl (f x)) = (l.map f).map D.bl := by simp
  show (blsD _).map _ = _
  rw [this, blsD_map]
  simp [List.any_map]
end
end VK

namespace VQ
open PySem PySem.Spec PyProof.Rows L2
/-- a def of the text called with np values in their places and keywords named ks; g puts both in the parameters' order -/
structure KwOk (P : Program) (w : World) (K : PySem.W.Frag) (mg : Str → Option Value) (base : Heap) (M : WM K) (k : Nat) (x : Str) (np : Nat) (ks : List Str) (n : Nat) (fs : List D → M.S → Gx M R) (g : List D → List D → List D) : Prop where
  ex : ∃ (f : Addr) (fd : FuncData) (ps : List Str) (gg : List Value → List Value → List Value) (gV : List V → List V → List V), FnOk P w K mg base (L2.CX P w) k f fd ps (spV M mg n fs) ∧ mg x = some (.ref f) ∧ PySem.W.keepIn K (.ref f) = true ∧ KBn K fd ps np ks gg gV ∧
    ∀ ad Hv (ds es : List D) (vs ws : List V), DenL K ad Hv ds vs → DenL K ad Hv es ws → ds.length = np → es.length = ks.length → DenL K ad Hv (g ds es) (gV vs ws)
section
variable {X : Cx} {CX : CXT} {k n : Nat} {f : Addr} {fd : FuncData} {ps ks : List Str} {sp : Sp} {E : L2.St → XK} {x : Str} {p pos : Pos} {e : Expr} {es : List Expr} {kws : List Keyword} {t tk : TA} {g : List Value → List Value → List Value} {gV : List V → List V → List V}
end
/-- f(.., k = ..) -/
def eCallK {K : PySem.W.Frag} {M : WM K} (n np nk : Nat) (f : List D → M.S → Gx M R) (g : List D → List D → List D) (ea ek : Ev M (List D)) : Ev M R := fun ρ s => (ea ρ s).bind fun a => (ek ρ a.2).bind fun b => if a.1.length = np ∧ b.1.length = nk ∧ (g a.1 b.1).length = n then f (g a.1 b.1) b.2 else .bad
section
variable {X : Cx} {M : WM X.K} {W : WX} {e : Expr} {es : List Expr} {pos kpos : Pos} {ea : Ev M D} {el ek : Ev M (List D)} {nm : Option Str} {kws : List Keyword}
theorem _root_.L2.PK.con {X : Cx} {e : List Keyword} {t t' : TA} (h : PK X e t) (i : ∀ σ H Q, t' σ H Q → t σ H Q) : PK X e t' := ⟨fun pos pins s σ H Q I q => h.run pos pins s σ H Q I (i _ _ _ q)⟩
variable {k j n np : Nat} {fs : List D → M.S → Gx M R} {g : List D → List D → List D} {x : Str} {ks : List Str} {pp : Pos}
end
section
variable {P : Program} {w : World} {K : PySem.W.Frag} {mg : Str → Option Value} {base : Heap} {M : WM K}
theorem KwOk.of {k np n : Nat} {f : Addr} {fd : FuncData} {ps ks : List Str} {x qual : Str} {st : Stmt} {fs : List D → M.S → Gx M R} (F : Fun K x qual st f fd) (hm : mg x = some (.ref f)) (hb : KBn K fd ps np ks (fun us ws => us ++ ws) (fun us ws => us ++ ws)) (h : FnOk P w K mg base (L2.CX P w) k f fd ps (spV M mg n fs)) :
    KwOk P w K mg base M k x np ks n fs (fun us ws => us ++ ws) := ⟨f, fd, ps, _, _, h, hm, F.kp, hb, fun _ _ _ _ _ _ h1 h2 _ _ => h1.append h2⟩
end
end VQ

namespace VQ
open PySem PySem.Spec PyProof.Rows L2
section
variable {K : PySem.W.Frag} {M : WM K}
end
section
variable {X : Cx} {pos : Pos}
end
section
variable {X : Cx} {M : WM X.K} {W : WX} {en : Pt M} {e : Expr} {pos : Pos} {ea : Ev M D} {ec : Ev M Bool} {m : List Nat}
end
end VQ

namespace VQ
open PySem PySem.Spec PyProof.Rows L2
section
variable {X : Cx} {M : WM X.K} {W : WX} {a b c : Expr} {pos : Pos} {ea eb ec : Ev M D}
end
section
variable {K : PySem.W.Frag} {M : WM K}
end
section
variable {X : Cx} {M : WM X.K} {W : WX} {a b c : Expr} {pos : Pos} {ea eb ec : Ev M D}
end
section
variable {X : Cx} {M : WM X.K} {W : WX} {a b c : Expr} {pos : Pos} {ea eb ec : Ev M D}
end
theorem GC.str {mg : Str → Option Value} {x z : Str} {l : List Nat} {t : Tok} (h : mg x = some (.str z t)) (hz : z = ⟨l.toArray⟩ := by decide +kernel) : GC mg x (.str l) := ⟨.str z, _, h, ⟨t, rfl⟩, fun _ _ _ => by subst hz; rfl⟩
end VQ

namespace VQ
open PySem PySem.Spec PyProof.Rows L2
/-- a thing of the world: an instance with its fields, a list, a dict -/
inductive Cell where
  | ins (x : Str) (fs : List (Str × D))
  | lst (l : List D)
  | dk (l : List (Key × D))
  | dt (l : List (List Key × D))
  deriving Inhabited
abbrev Ost := List (Option Cell)
/-- the classes of a text: where each stands -/
abbrev Ctab := List (Str × Addr)
/-- what the objects of the program's classes have -/
def ftab : List (Str × List Str) := [("Store", ["places", "pile"]), ("Walker", ["leaves", "path", "past"]), ("Book", ["tables", "before", "later"]), ("Words", ["found", "spot", "end"]), ("Dive", ["asked", "walkers"]), ("Factor", ["over_names", "counts"]), ("Reader", ["house", "asked", "heard"]), ("Search", ["asked", "let", "chain", "covering"]), ("Keeper", ["asked", "house", "sheet", "stayed"])]
def flOk (x f : Str) : Bool := match ftab.lookup x with
  | some l => l.contains f
  | none => false
section
variable (K : PySem.W.Frag) (CT : Ctab)
/-- how a thing lies at a -/
def CellAt (ad : Nat → Option Addr) (F : Addr → Prop) (Hv H : Hp) (a : Addr) : Cell → Prop
  | .ins x fs => ∃ C dx fv, CT.lookup x = some C ∧ H a = some (.ins C dx fv) ∧ F dx ∧ H dx = some (.own a) ∧ fv.map (·.1) = fs.map (·.1) ∧ DenL K ad Hv (fs.map (·.2)) (fv.map (·.2)) ∧ ∀ f ∈ fs.map (·.1), flOk x f = true
  | .lst l => ∃ vs, H a = some (.lst vs) ∧ DenL K ad Hv l vs
  | .dk l => ∃ vs, Rd H a (.dK vs) ∧ DenK K ad Hv l vs
  | .dt l => ∃ vs, Rd H a (.dT vs) ∧ DenT K ad Hv l vs
/-- the things that live, told apart by their numbers -/
structure ObjRep (s : Ost) (ad : Nat → Option Addr) (F : Addr → Prop) (Hv H : Hp) : Prop where
  lo : ∀ n, n < s.length → ∃ a, ad (n + 1) = some a ∧ F a
  hi : ∀ n, s.length ≤ n → ad (n + 1) = none
  inj : ∀ i j a, ad (i + 1) = some a → ad (j + 1) = some a → i = j
  at_ : ∀ n c, s[n]? = some (some c) → ∃ a, ad (n + 1) = some a ∧ F a ∧ CellAt K CT ad F Hv H a c
  nt : ∀ b, F b → ∃ o, H b = some o ∧ ∀ ps, o ≠ .tbl ps
end
mutual
def flatKs : List (Key × D) → Bool
  | [] => true
  | (_, d) :: r => flat d && flatKs r
end
def flatTs : List (List Key × D) → Bool
  | [] => true
  | (_, d) :: r => flat d && flatTs r
def flatC : Option Cell → Bool
  | none => true
  | some (.ins _ fs) => flatL (fs.map (·.2))
  | some (.lst l) => flatL l
  | some (.dk l) => flatKs l
  | some (.dt l) => flatTs l
section
variable {K : PySem.W.Frag} {ad ad' : Nat → Option Addr} {Hv Hv' : Hp}
theorem DenK.less (l : Less Hv Hv') : ∀ {ds : List (Key × D)} {vs : List (Key × V)}, flatKs ds = true → DenK K ad Hv ds vs → DenK K ad Hv' ds vs
  | [], _, _, h => h
  | (k, d) :: ds, _, f, ⟨v, r, e, h, t⟩ => by
    have f' : (flat d && flatKs ds) = true := f
    rw [Bool.and_eq_true] at f'
    exact ⟨v, r, e, Den.less l f'.1 h, DenK.less l f'.2 t⟩
theorem DenT.less (l : Less Hv Hv') : ∀ {ds : List (List Key × D)} {vs : List (List Key × V)}, flatTs ds = true → DenT K ad Hv ds vs → DenT K ad Hv' ds vs
  | [], _, _, h => h
  | (k, d) :: ds, _, f, ⟨v, r, e, h, t⟩ => by
    have f' : (flat d && flatTs ds) = true := f
    rw [Bool.and_eq_true] at f'
    exact ⟨v, r, e, Den.less l f'.1 h, DenT.less l f'.2 t⟩
variable {CT : Ctab} {F F' : Addr → Prop} {H H' : Hp} {a : Addr}
theorem rd_keep {H H' : Hp} {a : Addr} {u : HO} (hk : ∀ o, H a = some o → H' a = some o) (h : Rd H a u) : Rd H' a u := by
  rcases h with h | ⟨x, h⟩
  · exact .inl (hk _ h)
  · exact .inr ⟨x, hk _ h⟩
theorem CellAt.stay (hs : Same Hv Hv') (ha : ∀ n a, ad n = some a → ad' n = some a) (hF : ∀ x, F x → F' x) (fa : F a) (hk : ∀ b o, F b → (b = a ∨ H b = some (.own a)) → H b = some o → H' b = some o) : ∀ {c : Cell}, CellAt K CT ad F Hv H a c → CellAt K CT ad' F' Hv' H' a c
  | .ins x fs, ⟨C, dx, fv, h1, h2, h3, h4, h5, h6, h7⟩ => ⟨C, dx, fv, h1, hk _ _ fa (.inl rfl) h2, hF _ h3, hk _ _ h3 (.inr h4) h4, h5, h6.mono hs ha, h7⟩
  | .lst l, ⟨vs, h1, h2⟩ => ⟨vs, hk _ _ fa (.inl rfl) h1, h2.mono hs ha⟩
  | .dk l, ⟨vs, h1, h2⟩ => ⟨vs, rd_keep (fun o e => hk _ o fa (.inl rfl) e) h1, h2.mono hs ha⟩
  | .dt l, ⟨vs, h1, h2⟩ => ⟨vs, rd_keep (fun o e => hk _ o fa (.inl rfl) e) h1, h2.mono hs ha⟩
theorem rd_lck {H H' : Hp} {a : Addr} {u : HO} (d : IsDc u) (hk : ∀ o, H a = some o → ∃ o', H' a = some o' ∧ DLk o o') (h : Rd H a u) : Rd H' a u := by
  have l : Lck (fun b => if b = a then H a else none) (fun b => if b = a then H' a else none) := fun b o e => by
    by_cases z : b = a
    · subst z
      simp only [if_true] at e ⊢
      exact hk o e
    · simp only [if_neg z] at e; cases e
  have h0 : Rd (fun b => if b = a then H a else none) a u := by
    rcases h with h | ⟨x, h⟩
    · exact .inl (by simpa using h)
    · exact .inr ⟨x, by simpa using h⟩
  rcases l.rd (a := a) d h0 with h | ⟨x, h⟩
  · exact .inl (by simpa using h)
  · exact .inr ⟨x, by simpa using h⟩
theorem CellAt.lck (l : Lck Hv Hv') (fa : F a) (hk : ∀ b o, F b → H b = some o → ∃ o', H' b = some o' ∧ DLk o o') : ∀ {c : Cell}, CellAt K CT ad F Hv H a c → CellAt K CT ad F Hv' H' a c
  | .ins x fs, ⟨C, dx, fv, h1, h2, h3, h4, h5, h6, h7⟩ => by
    obtain ⟨o1, i1, i2⟩ := hk _ _ fa h2
    obtain ⟨o2, j1, j2⟩ := hk _ _ h3 h4
    exact ⟨C, dx, fv, h1, by rw [← i2.eq (fun z => z) (fun x u z => by cases z)]; exact i1, h3, by rw [← j2.eq (fun z => z) (fun x u z => by cases z)]; exact j1, h5, h6.lck l, h7⟩
  | .lst _, ⟨vs, h1, h2⟩ => by
    obtain ⟨o1, i1, i2⟩ := hk _ _ fa h1
    exact ⟨vs, by rw [← i2.eq (fun z => z) (fun x u z => by cases z)]; exact i1, h2.lck l⟩
  | .dk _, ⟨vs, h1, h2⟩ => ⟨vs, rd_lck trivial (fun o e => hk a o fa e) h1, h2.lck l⟩
  | .dt _, ⟨vs, h1, h2⟩ => ⟨vs, rd_lck trivial (fun o e => hk a o fa e) h1, h2.lck l⟩
theorem CellAt.less (hl : Less Hv Hv') : ∀ {c : Cell}, flatC (some c) = true → CellAt K CT ad F Hv H a c → CellAt K CT ad F Hv' H a c
  | .ins x fs, f, ⟨C, dx, fv, h1, h2, h3, h4, h5, h6, h7⟩ => ⟨C, dx, fv, h1, h2, h3, h4, h5, DenL.less hl f h6, h7⟩
  | .lst l, f, ⟨vs, h1, h2⟩ => ⟨vs, h1, DenL.less hl f h2⟩
  | .dk l, f, ⟨vs, h1, h2⟩ => ⟨vs, h1, DenK.less hl f h2⟩
  | .dt l, f, ⟨vs, h1, h2⟩ => ⟨vs, h1, DenT.less hl f h2⟩
end
def objI (K : PySem.W.Frag) (CT : Ctab) : IW K where
  S := Ost
  rep := ObjRep K CT
  flat := fun s => s.all flatC
  stay := fun h hs hk => ⟨h.lo, h.hi, h.inj, fun n c e => by
    obtain ⟨a, h1, h2, h3⟩ := h.at_ n c e
    exact ⟨a, h1, h2, h3.stay hs (fun _ _ z => z) (fun _ z => z) h2 fun b o fb _ z => hk b o fb z⟩, fun b fb => by
    obtain ⟨o, h1, h2⟩ := h.nt b fb
    exact ⟨o, hk _ _ fb h1, h2⟩⟩
  less := fun hf h hl => ⟨h.lo, h.hi, h.inj, fun n c e => by
    obtain ⟨a, h1, h2, h3⟩ := h.at_ n c e
    exact ⟨a, h1, h2, h3.less hl (List.all_eq_true.mp hf _ (List.mem_of_getElem? e))⟩, h.nt⟩
  nt := fun h hb ps z => by
    obtain ⟨o, h1, h2⟩ := h.nt _ hb
    rw [z] at h1; cases h1
    exact h2 ps rfl
  lck := fun h hs hk => ⟨h.lo, h.hi, h.inj, fun n c e => by
    obtain ⟨a, h1, h2, h3⟩ := h.at_ n c e
    exact ⟨a, h1, h2, h3.lck hs h2 hk⟩, fun b fb => by
    obtain ⟨o, h1, h2⟩ := h.nt b fb
    obtain ⟨o', i1, i2⟩ := hk _ _ fb h1
    refine ⟨o', i1, fun ps z => ?_⟩
    rcases i2 with i2 | ⟨_, x, i2⟩ | ⟨i2, _⟩
    · exact h2 ps (i2.symm.trans z)
    · rw [z] at i2; cases i2
    · rw [z] at i2; exact i2⟩
theorem begin_obj (K : PySem.W.Frag) (CT : Ctab) : Begin (objI K CT) ([] : Ost) := fun ad H h => ⟨fun n hn => absurd hn (Nat.not_lt_zero n), fun n _ => h n, fun i j a hi _ => (by rw [h i] at hi; cases hi), fun n c e => (by simp at e), fun b hb => False.elim hb⟩
/-- the world of a law with objects -/
structure OM (K : PySem.W.Frag) where
  b : Addr
  l : Addr
  T : List (Addr × Str)
  CT : Ctab
abbrev OM.w {K : PySem.W.Frag} (M : OM K) : WM K := bagW K M.b M.l M.T (objI K M.CT)
section
variable {K : PySem.W.Frag} {M : OM K}
abbrev Pt.os {K : PySem.W.Frag} {M : OM K} (p : Pt M.w) : Ost := p.s
/-- a point's things -/
theorem obj_rep {p : Pt M.w} (ok : p.Ok) : ∃ FI, InnerOk (objI K M.CT) p.os p.ad M.b M.l p.F FI p.Hv p.H := by
  obtain ⟨_, _, _, _, _, _, h⟩ := ok.rep
  exact h
theorem obj_at {p : Pt M.w} (ok : p.Ok) {n : Nat} {c : Cell} (e : p.os[n]? = some (some c)) : ∃ a, p.ad (n + 1) = some a ∧ p.F a ∧ CellAt K M.CT p.ad p.F p.Hv p.H a c := by
  obtain ⟨FI, h⟩ := obj_rep ok
  obtain ⟨a, h1, h2, h3⟩ := ObjRep.at_ h.rep n c e
  exact ⟨a, h1, (h.sub a h2).1, h3.stay Same.rfl' (fun _ _ z => z) (fun x z => (h.sub x z).1) h2 fun _ _ _ _ z => z⟩
/-- a cell is written: at its address a (what stands beside it stays) -/
theorem obj_write {p : Pt M.w} (ok : p.Ok) {n : Nat} {c c' : Cell} {a : Addr} {o' : HO} (e : p.os[n]? = some (some c)) (ha : p.ad (n + 1) = some a) (hn : ∀ ps, o' ≠ .tbl ps)
    (h : ∀ F, (∃ o, p.H a = some o) → CellAt K M.CT p.ad F p.Hv p.H a c → CellAt K M.CT p.ad F p.Hv (upd p.H a o') a c') (hd : ∀ b o, p.H b = some o → o ≠ .own b → True) (hno : ∀ x, p.H a ≠ some (.own x)) :
    Ext p (⟨p.os.set n (some c'), p.F, p.Hv, upd p.H a o', p.ad⟩ : Pt M.w) ∧ (⟨p.os.set n (some c'), p.F, p.Hv, upd p.H a o', p.ad⟩ : Pt M.w).Ok := by
  obtain ⟨hb0, fb, fl, ht, ⟨ne, ns, cc, g, st, k, e2, e3, e4⟩, hdm, FI, hi⟩ := ok.rep
  have hrep : ObjRep K M.CT p.os p.ad FI p.Hv p.H := hi.rep
  obtain ⟨a1, i1, i2, i3⟩ := hrep.at_ n c e
  obtain rfl : a1 = a := Option.some.inj (i1.symm.trans ha)
  obtain ⟨fa, na, nl⟩ := hi.sub a1 i2
  have va : p.Hv a1 = none := ok.off a1 fa
  have ex : ∃ o, p.H a1 = some o := hdm _ fa
  refine ⟨⟨Same.rfl', fun x o hx nf => ?_, fun x o hx => .inl ⟨o, hx⟩, fun _ h => .inl h, fun _ _ h => h⟩, ⟨fun x o hx => ?_, ok.off, ⟨hb0, fb, fl, fun q hq => ?_, ⟨ne, ns, cc, g, st, k, ?_, ?_, e4⟩, fun x hx => ?_, FI, hi.sub, ⟨fun m hm => ?_, fun m hm => ?_, hrep.inj, fun m d hm => ?_, fun x hx => ?_⟩⟩⟩⟩
  · have : x ≠ a1 := fun z => nf (z ▸ fa)
    show upd p.H a1 o' x = some o
    rw [upd_ne this]; exact hx
  · have : x ≠ a1 := fun z => by rw [z, va] at hx; cases hx
    show upd p.H a1 o' x = some o
    rw [upd_ne this]; exact ok.view _ _ hx
  · obtain ⟨f1, ps, f2, f3, f4⟩ := ht q hq
    have n1 : q.1 ≠ a1 := fun z => by
      obtain ⟨o, h1, h2⟩ := hrep.nt a1 i2
      rw [← z, f2] at h1; cases h1
      exact h2 ps rfl
    refine ⟨f1, ps, by show upd p.H a1 o' q.1 = _; rw [upd_ne n1]; exact f2, f3, fun pos cv ev => ?_⟩
    obtain ⟨c0, c1, c2, c3⟩ := f4 pos cv ev
    have n2 : c0 ≠ a1 := fun z => by
      rw [z] at c2
      cases c with
      | ins x fs => obtain ⟨C, dx, fv, _, q, _⟩ := i3; rw [q] at c2; unfold LamX.CodeO at c2; cases c2
      | lst l => obtain ⟨vs, q, _⟩ := i3; rw [q] at c2; unfold LamX.CodeO at c2; cases c2
      | dk l => obtain ⟨vs, q, _⟩ := i3; rcases q with q | ⟨_, q⟩ <;> (rw [q] at c2; unfold LamX.CodeO at c2; cases c2)
      | dt l => obtain ⟨vs, q, _⟩ := i3; rcases q with q | ⟨_, q⟩ <;> (rw [q] at c2; unfold LamX.CodeO at c2; cases c2)
    exact ⟨c0, c1, by show upd p.H a1 o' c0 = _; rw [upd_ne n2]; exact c2, c3⟩
  · show upd p.H a1 o' M.b = _
    rw [upd_ne (Ne.symm na)]; exact e2
  · show upd p.H a1 o' M.l = _
    rw [upd_ne (Ne.symm nl)]; exact e3
  · by_cases z : x = a1
    · exact ⟨o', by rw [z]; exact upd_same⟩
    · obtain ⟨o, q⟩ := hdm x hx
      exact ⟨o, by show upd p.H a1 o' x = _; rw [upd_ne z]; exact q⟩
  · have hm : m < (p.os.set n (some c')).length := hm
    rw [List.length_set] at hm
    exact hrep.lo m hm
  · have hm : (p.os.set n (some c')).length ≤ m := hm
    rw [List.length_set] at hm
    exact hrep.hi m hm
  · have hm : (p.os.set n (some c'))[m]? = some (some d) := hm
    have hlt : n < p.os.length := (List.getElem?_eq_some_iff.mp e).1
    by_cases z : n = m
    · subst z
      rw [List.getElem?_set_self hlt] at hm
      obtain rfl : c' = d := Option.some.inj (Option.some.inj hm)
      exact ⟨a1, i1, i2, h FI ex i3⟩
    · rw [List.getElem?_set_ne z] at hm
      obtain ⟨a2, j1, j2, j3⟩ := hrep.at_ m d hm
      refine ⟨a2, j1, j2, j3.stay Same.rfl' (fun _ _ z => z) (fun _ z => z) j2 fun b o fb hb hbo => ?_⟩
      have : b ≠ a1 := fun z2 => by
        rcases hb with hb | hb
        · exact z (hrep.inj n m a1 i1 (by rw [← z2, hb]; exact j1))
        · rw [z2] at hb; exact hno _ hb
      show upd p.H a1 o' b = some o
      rw [upd_ne this]; exact hbo
  · by_cases z : x = a1
    · exact ⟨o', by rw [z]; exact upd_same, hn⟩
    · obtain ⟨o, q1, q2⟩ := hrep.nt x hx
      exact ⟨o, by show upd p.H a1 o' x = _; rw [upd_ne z]; exact q1, q2⟩
/-- the numbers' addresses with a new one -/
def adN (ad : Nat → Option Addr) (n : Nat) (a : Addr) : Nat → Option Addr := fun m => if m = n + 1 then some a else ad m
theorem adN_old {ad : Nat → Option Addr} {n : Nat} {a : Addr} (h : ad (n + 1) = none) : ∀ m b, ad m = some b → adN ad n a m = some b := fun m b e => by
  unfold adN
  rw [if_neg]
  · exact e
  · intro z; rw [z, h] at e; cases e
theorem adN_new {ad : Nat → Option Addr} {n : Nat} {a : Addr} : adN ad n a (n + 1) = some a := by unfold adN; rw [if_pos rfl]
/-- a new thing at a, its own places at F' -/
theorem obj_more {p0 p : Pt M.w} (ok : p.Ok) (e0 : Ext p0 p) {c : Cell} {a : Addr} {N : Addr → Prop} {H' : Hp} (hk : ∀ b o, p.H b = some o → H' b = some o) (hN : ∀ x, N x → (p0.H x = none ∨ p0.F x) ∧ p.Hv x = none ∧ ¬ p.F x ∧ ∃ o, H' x = some o ∧ ∀ ps, o ≠ .tbl ps) (na : N a)
    (hc : CellAt K M.CT (adN p.ad p.os.length a) N p.Hv H' a c) : Ext p0 (⟨p.os ++ [some c], fun x => p.F x ∨ N x, p.Hv, H', adN p.ad p.os.length a⟩ : Pt M.w) ∧ (⟨p.os ++ [some c], fun x => p.F x ∨ N x, p.Hv, H', adN p.ad p.os.length a⟩ : Pt M.w).Ok := by
  obtain ⟨hb0, fb, fl, ht, ⟨ne, ns, cc, g, st, k, e2, e3, e4⟩, hdm, FI, hi⟩ := ok.rep
  have hrep : ObjRep K M.CT p.os p.ad FI p.Hv p.H := hi.rep
  have hnew : p.ad (p.os.length + 1) = none := hrep.hi _ (Nat.le_refl _)
  have old := adN_old (a := a) hnew
  have nf : ∀ x, FI x → x ≠ a := fun x fx z => (hN a na).2.2.1 (z ▸ (hi.sub x fx).1)
  refine ⟨⟨e0.view, fun x o hx nfx => hk _ _ (e0.frame x o hx nfx), e0.new, fun x hx => ?_, fun n b hn => old n b (e0.ad n b hn)⟩, ⟨fun x o hx => hk _ _ (ok.view _ _ hx), fun x hx => ?_, old 0 _ hb0, .inl fb, .inl fl, fun q hq => ?_, ⟨ne, ns, cc, g, st, k, hk _ _ e2, hk _ _ e3, e4⟩, fun x hx => ?_, fun x => FI x ∨ N x, fun x hx => ?_, ⟨fun m hm => ?_, fun m hm => ?_, fun i j b h1 h2 => ?_, fun m d hm => ?_, fun x hx => ?_⟩⟩⟩
  · rcases hx with hx | hx
    · exact e0.foot x hx
    · exact (hN x hx).1.symm
  · rcases hx with hx | hx
    · exact ok.off x hx
    · exact (hN x hx).2.1
  · obtain ⟨f1, ps, f2, f3, f4⟩ := ht q hq
    refine ⟨.inl f1, ps, hk _ _ f2, f3, fun pos cv ev => ?_⟩
    obtain ⟨c0, c1, c2, c3⟩ := f4 pos cv ev
    exact ⟨c0, c1, hk _ _ c2, .inl c3⟩
  · rcases hx with hx | hx
    · obtain ⟨o, q⟩ := hdm x hx
      exact ⟨o, hk _ _ q⟩
    · obtain ⟨o, q, _⟩ := (hN x hx).2.2.2
      exact ⟨o, q⟩
  · rcases hx with hx | hx
    · exact ⟨.inl (hi.sub x hx).1, (hi.sub x hx).2⟩
    · refine ⟨.inr hx, fun z => (hN x hx).2.2.1 (z ▸ fb), fun z => (hN x hx).2.2.1 (z ▸ fl)⟩
  · have hm : m < (p.os ++ [some c]).length := hm
    rw [List.length_append, List.length_singleton] at hm
    by_cases z : m = p.os.length
    · subst z; exact ⟨a, adN_new, .inr na⟩
    · obtain ⟨b, h1, h2⟩ := hrep.lo m (by omega)
      exact ⟨b, old _ _ h1, .inl h2⟩
  · have hm : (p.os ++ [some c]).length ≤ m := hm
    rw [List.length_append, List.length_singleton] at hm
    show adN p.ad p.os.length a (m + 1) = none
    unfold adN
    rw [if_neg (by omega)]
    exact hrep.hi m (by omega)
  · have h1 : adN p.ad p.os.length a (i + 1) = some b := h1
    have h2 : adN p.ad p.os.length a (j + 1) = some b := h2
    have key : ∀ i, adN p.ad p.os.length a (i + 1) = some b → (i = p.os.length ∧ b = a) ∨ (p.ad (i + 1) = some b ∧ b ≠ a) := fun i h => by
      unfold adN at h
      split at h
      · exact .inl ⟨by omega, (Option.some.inj h).symm⟩
      · refine .inr ⟨h, ?_⟩
        have hlt : i < p.os.length := Classical.byContradiction fun z => by rw [hrep.hi i (by omega)] at h; cases h
        obtain ⟨b', q1, q2⟩ := hrep.lo i hlt
        rw [h] at q1; cases q1
        exact nf _ q2
    rcases key i h1 with ⟨k1, k2⟩ | ⟨k1, k2⟩ <;> rcases key j h2 with ⟨l1, l2⟩ | ⟨l1, l2⟩
    · omega
    · exact absurd k2 l2
    · exact absurd l2 k2
    · exact hrep.inj i j b k1 l1
  · have hm : (p.os ++ [some c])[m]? = some (some d) := hm
    by_cases z : m < p.os.length
    · rw [List.getElem?_append_left z] at hm
      obtain ⟨b, j1, j2, j3⟩ := hrep.at_ m d hm
      exact ⟨b, old _ _ j1, .inl j2, j3.stay Same.rfl' old (fun _ h => .inl h) j2 fun x o _ _ h => hk _ _ h⟩
    · rw [List.getElem?_append_right (by omega)] at hm
      have z2 : m = p.os.length := by
        cases hh : m - p.os.length with
        | zero => omega
        | succ k => rw [hh] at hm; simp at hm
      subst z2
      simp at hm
      subst hm
      exact ⟨a, adN_new, .inr na, hc.stay Same.rfl' (fun _ _ h => h) (fun _ h => .inr h) na fun _ _ _ _ h => h⟩
  · rcases hx with hx | hx
    · obtain ⟨o, q1, q2⟩ := hrep.nt x hx
      exact ⟨o, hk _ _ q1, q2⟩
    · exact (hN x hx).2.2.2
/-- a list (a dict) just made becomes a thing of the world -/
def cellOf : D → Option Cell
  | .lst l => some (.lst l)
  | .dk l => some (.dk l)
  | .dt l => some (.dt l)
  | _ => none
theorem obj_adopt {p0 p : Pt M.w} (ok : p.Ok) (e0 : Ext p0 p) {d : D} {c : Cell} {v : V} (h : ROk p0 p (.fr d) v) (hc : cellOf d = some c) : ∃ (q : Pt M.w) (a : Addr), v = .ref a ∧ q.H = p.H ∧ q.s = p.os ++ [some c] ∧ q.Hv = p.Hv ∧ (∀ x, q.F x ↔ p.F x ∨ x = a) ∧ q.ad = adN p.ad p.os.length a ∧ Ext p0 q ∧ q.Ok ∧ Ext p0 p ∧ (∀ m b, p.ad m = some b → q.ad m = some b) := by
  obtain ⟨a, o, rfl, h1, h2, h3, h4, h5⟩ := h
  have hrep : ∃ FI, InnerOk (objI K M.CT) p.os p.ad M.b M.l p.F FI p.Hv p.H := obj_rep ok
  obtain ⟨FI, hi⟩ := hrep
  have hrep : ObjRep K M.CT p.os p.ad FI p.Hv p.H := hi.rep
  have old := adN_old (a := a) (hrep.hi p.os.length (Nat.le_refl _))
  have hnt : ∀ ps, o ≠ .tbl ps := fun ps z => by
    subst z
    cases d <;> exact False.elim h5
  have hcell : CellAt K M.CT (adN p.ad p.os.length a) (fun x => x = a) p.Hv p.H a c := by
    cases d <;> cases hc <;> cases o <;> first | exact False.elim h5 | skip
    · exact ⟨_, h1, DenL.mono Same.rfl' old h5⟩
    · exact ⟨_, .inl h1, DenK.mono Same.rfl' old h5⟩
    · exact ⟨_, .inl h1, DenT.mono Same.rfl' old h5⟩
  obtain ⟨m1, m2⟩ := obj_more (p0 := p0) (p := p) ok e0 (c := c) (a := a) (N := fun x => x = a) (H' := p.H) (fun _ _ h => h) (fun x hx => by subst hx; exact ⟨h4, h2, h3, o, h1, hnt⟩) rfl hcell
  exact ⟨⟨p.os ++ [some c], fun x => p.F x ∨ x = a, p.Hv, p.H, adN p.ad p.os.length a⟩, a, rfl, rfl, rfl, rfl, fun _ => Iff.rfl, rfl, m1, m2, e0, old⟩
end
end VQ

namespace VQ
open PySem PySem.Spec PyProof.Rows L2
/-- a world of nothing -/
def noM (K : PySem.W.Frag) (A0 : Nat → Option Addr) : WM K where
  S := Unit
  rep := fun _ ad F _ H => ad = A0 ∧ ∀ x, F x → ∃ o, H x = some o
  flat := fun _ => true
  stay := fun ⟨h1, h2⟩ _ hk => ⟨h1, fun x hx => by
    obtain ⟨o, e⟩ := h2 x hx
    exact ⟨o, hk _ _ hx e⟩⟩
  less := fun _ h _ => h
  dom := fun h hx => h.2 _ hx
  lck := fun ⟨h1, h2⟩ _ hk => ⟨h1, fun x hx => by
    obtain ⟨o, e⟩ := h2 x hx
    obtain ⟨o', e', _⟩ := hk _ _ hx e
    exact ⟨o', e'⟩⟩
  T := []
  tabs := fun _ _ h => by cases h
  grow := fun ⟨h1, _⟩ _ _ _ hD => ⟨h1, hD⟩
section
variable {K : PySem.W.Frag} {M : WM K}
abbrev isLD : HO → Prop := IsLd
/-- what a list or a dict of the world holds, locked or not -/
def HoR (K : PySem.W.Frag) (ad : Nat → Option Addr) (Hv : Hp) (o : HO) (d : D) : Prop := HoDen K ad Hv o d ∨ ∃ x u, o = .frz x u ∧ IsDc u ∧ HoDen K ad Hv u d
theorem HoR.mono {ad ad' : Nat → Option Addr} {Hv Hv' : Hp} (hs : Same Hv Hv') (ha : ∀ n a, ad n = some a → ad' n = some a) {o : HO} {d : D} (h : HoR K ad Hv o d) : HoR K ad' Hv' o d := by
  rcases h with h | ⟨x, u, e, i, h⟩
  · exact .inl (h.mono hs ha)
  · exact .inr ⟨x, u, e, i, h.mono hs ha⟩
theorem HoR.den {ad : Nat → Option Addr} {Hv : Hp} {a : Addr} {o : HO} {d : D} (h : HoR K ad Hv o d) (e : Hv a = some o) : Den K ad Hv d (.ref a) := by
  rcases h with h | ⟨x, u, rfl, i, h⟩
  · exact h.den e
  · cases u <;> cases d <;> first | exact False.elim h | exact False.elim i | exact ⟨a, _, rfl, .inr ⟨x, e⟩, h⟩
/-- d stands at x, or x is a list (a dict) of the world that holds it -/
def DenU (p : Pt M) (d : D) (x : V) : Prop := Den K p.ad p.Hv d x ∨ ∃ a o, x = .ref a ∧ p.F a ∧ p.H a = some o ∧ HoR K p.ad p.Hv o d
def DenUL (p : Pt M) : List D → List V → Prop
  | [], vs => vs = []
  | d :: ds, vs => ∃ v r, vs = v :: r ∧ DenU p d v ∧ DenUL p ds r
/-- some of the world's things opened, the world laid aside -/
noncomputable def Pt.bare (p : Pt M) (O : Addr → Prop) : Pt (noM K p.ad) := by
  classical exact ⟨(), fun _ => False, fun b => if O b then p.H b else p.Hv b, p.H, p.ad⟩
theorem hoDen_ld {ad : Nat → Option Addr} {Hv : Hp} {o : HO} {d : D} (h : HoR K ad Hv o d) : isLD o := by
  rcases h with h | ⟨x, u, rfl, i, h⟩
  · cases o <;> cases d <;> first | exact False.elim h | trivial
  · exact i
theorem bare_same {p : Pt M} (ok : p.Ok) (O : Addr → Prop) : Same p.Hv (p.bare O).Hv := fun b o e => by
  classical
  show (if O b then p.H b else p.Hv b) = some o
  split
  · exact ok.view _ _ e
  · exact e
theorem bare_ok {p : Pt M} (ok : p.Ok) (O : Addr → Prop) : (p.bare O).Ok := by
  classical
  refine ⟨fun b o e => ?_, fun b f => False.elim f, rfl, fun x hx => False.elim hx⟩
  have e' : (if O b then p.H b else p.Hv b) = some o := e
  split at e'
  · exact e'
  · exact ok.view _ _ e'
theorem bare_den {p : Pt M} (ok : p.Ok) {O : Addr → Prop} {d : D} {x : V} (h : DenU p d x) (hO : ∀ a o, x = .ref a → p.F a → p.H a = some o → isLD o → O a) : Den K (p.bare O).ad (p.bare O).Hv d x := by
  classical
  rcases h with h | ⟨a, o, rfl, fa, ha, hd⟩
  · exact h.mono (bare_same ok O) fun _ _ z => z
  · refine HoR.den (hd.mono (bare_same ok O) fun _ _ z => z) ?_
    show (if O a then p.H a else p.Hv a) = some o
    rw [if_pos (hO a o rfl fa ha (hoDen_ld hd))]; exact ha
theorem bare_denL {p : Pt M} (ok : p.Ok) {O : Addr → Prop} : ∀ {ds : List D} {xs : List V}, DenUL p ds xs → (∀ a o, p.F a → p.H a = some o → isLD o → O a) → DenL K (p.bare O).ad (p.bare O).Hv ds xs
  | [], _, h, _ => h
  | d :: ds, _, ⟨v, r, e, h, t⟩, hO => by
    subst e
    exact ⟨v, r, rfl, bare_den ok h fun a o _ => hO a o, bare_denL ok t hO⟩
/-- back into the world: a result without lists in it -/
theorem bare_back {p : Pt M} (ok : p.Ok) {O : Addr → Prop} (hO : ∀ a, O a → p.F a ∧ ∀ o, p.H a = some o → isLD o) {q0 : Pt (noM K p.ad)} (e : Ext (p.bare O) q0) (ok0 : q0.Ok) {res : R} {v : V} (rk : ROk (p.bare O) q0 res v) (hf : flatR res = true) :
    ∃ q : Pt M, q.H = q0.H ∧ q.s = p.s ∧ Ext p q ∧ q.Ok ∧ ROk p q res v := by
  classical
  have had : q0.ad = p.ad := ok0.rep.1
  have hH : Same p.H q0.H := fun b o h => e.frame b o h fun z => z
  have sm : Same p.Hv (fun b => if O b then none else q0.Hv b) := fun b o h => by
    have nb : ¬ O b := fun z => by rw [ok.off b (hO b z).1] at h; cases h
    show (if O b then none else q0.Hv b) = some o
    rw [if_neg nb]
    exact e.view b o (bare_same ok O _ _ h)
  have nw : ∀ b o, (if O b then none else q0.Hv b) = some o → (∃ o', p.Hv b = some o') ∨ p.H b = none := fun b o h => by
    split at h
    · cases h
    · rename_i nb
      rcases e.new b o h with ⟨o', z⟩ | z | z
      · have z' : (if O b then p.H b else p.Hv b) = some o' := z
        rw [if_neg nb] at z'
        exact .inl ⟨o', z'⟩
      · exact .inr z
      · exact False.elim z
  have ex : Ext p (⟨p.s, p.F, fun b => if O b then none else q0.Hv b, q0.H, p.ad⟩ : Pt M) := ⟨sm, fun b o h _ => hH b o h, fun b o h => by
    rcases nw b o h with z | z
    · exact .inl z
    · exact .inr (.inl z), fun _ h => .inl h, fun _ _ h => h⟩
  have ls : Less q0.Hv (fun b => if O b then none else q0.Hv b) := fun b o h => by
    by_cases z : O b
    · refine .inr ?_
      have h1 := ok0.view b o h
      obtain ⟨fb, ld⟩ := hO b z
      obtain ⟨u, hu⟩ := M.dom ok.rep fb
      have := hH b u hu
      rw [h1] at this; cases this
      have := ld _ hu
      exact this
    · refine .inl ?_
      show (if O b then none else q0.Hv b) = some o
      rw [if_neg z]; exact h
  refine ⟨⟨p.s, p.F, fun b => if O b then none else q0.Hv b, q0.H, p.ad⟩, rfl, rfl, ex, ⟨fun b o h => ?_, fun b fb => ?_, M.stay ok.rep sm fun b o _ h => hH b o h⟩, ?_⟩
  · have h' : (if O b then none else q0.Hv b) = some o := h
    split at h'
    · cases h'
    · exact ok0.view _ _ h'
  · show (if O b then none else q0.Hv b) = none
    cases z : (if O b then none else q0.Hv b) with
    | none => rfl
    | some o =>
      rcases nw b o z with ⟨o', z'⟩ | z'
      · rw [ok.off b fb] at z'; cases z'
      · obtain ⟨u, hu⟩ := M.dom ok.rep fb
        rw [z'] at hu; cases hu
  · cases res with
    | sh d =>
      have h1 : Den K q0.ad q0.Hv d v := rk
      rw [had] at h1
      exact Den.less ls hf h1
    | fr d =>
      obtain ⟨a, o, e1, e2, e3, e4, e5, e6⟩ := rk
      have na : p.H a = none := e5.elim (fun z => z) fun z => False.elim z
      refine ⟨a, o, e1, e2, ?_, fun z => ?_, .inl na, ?_⟩
      · show (if O a then none else q0.Hv a) = none
        split
        · rfl
        · exact e3
      · obtain ⟨u, hu⟩ := M.dom ok.rep z
        rw [na] at hu; cases hu
      · rw [had] at e6
        cases d <;> first | (cases hf; done) | skip
        cases o <;> first | exact False.elim e6 | skip
        exact DenL.less ls hf e6
/-- operators, calls -/
def OpU (M : WM K) (f : D → D → Option R) (r : R2) : Prop := ∀ (p : Pt M) (x y : V) (d e : D) (res : R) (Q : VK), p.Ok → DenU p d x → DenU p e y → f d e = some res → flatR res = true →
  (∀ v (q : Pt M), Ext p q → q.Ok → q.s = p.s → ROk p q res v → Q v q.H) → r x y p.H Q
/-- all lists and dicts of the world -/
def Pt.LD (p : Pt M) : Addr → Prop := fun a => p.F a ∧ ∀ o, p.H a = some o → isLD o
theorem ld_of {p : Pt M} {a : Addr} {o : HO} (fa : p.F a) (h : p.H a = some o) (l : isLD o) : p.LD a := ⟨fa, fun o' h' => by rw [h] at h'; cases h'; exact l⟩
theorem opU {f : D → D → Option R} {r : R2} (h : ∀ A0, OpD (noM K A0) f r) : OpU M f r := fun p x y d e res Q ok hx hy hf hfl q => by
  refine h p.ad (p.bare p.LD) x y d e res Q (bare_ok ok _) (bare_den ok hx fun a o _ fa ha l => ld_of fa ha l) (bare_den ok hy fun a o _ fa ha l => ld_of fa ha l) hf fun v q0 e0 ok0 _ rk => ?_
  obtain ⟨q1, e1, e2, e3, e4, e5⟩ := bare_back ok (fun a h => h) e0 ok0 rk hfl
  rw [← e1]
  exact q v q1 e3 e4 e2 e5
def CallU (M : WM K) (f : List D → Option R) (r : List V → Hp → VK → Prop) : Prop := ∀ (p : Pt M) (xs : List V) (ds : List D) (res : R) (Q : VK), p.Ok → DenUL p ds xs → f ds = some res → flatR res = true →
  (∀ v (q : Pt M), Ext p q → q.Ok → q.s = p.s → ROk p q res v → Q v q.H) → r xs p.H Q
theorem callU {f : List D → Option R} {r : List V → Hp → VK → Prop} (h : ∀ A0, CallD (noM K A0) f r) : CallU M f r := fun p xs ds res Q ok hx hf hfl q => by
  refine h p.ad (p.bare p.LD) xs ds res Q (bare_ok ok _) (bare_denL ok hx fun a o fa ha l => ld_of fa ha l) hf fun v q0 e0 ok0 _ rk => ?_
  obtain ⟨q1, e1, e2, e3, e4, e5⟩ := bare_back ok (fun a h => h) e0 ok0 rk hfl
  rw [← e1]
  exact q v q1 e3 e4 e2 e5
end
def drf (s : Ost) : D → D
  | .obj (n + 1) => match s[n]? with
    | some (some (.lst l)) => .lst l
    | some (some (.dk l)) => .dk l
    | some (some (.dt l)) => .dt l
    | _ => .obj (n + 1)
  | d => d
section
variable {K : PySem.W.Frag} {M : OM K}
theorem drf_den {p : Pt M.w} (ok : p.Ok) {d : D} {x : V} (h : Den K p.ad p.Hv d x) : DenU p (drf p.os d) x := by
  unfold drf
  split
  · rename_i n
    obtain ⟨a, ha, rfl⟩ := h
    split
    · rename_i l e
      obtain ⟨a', h1, h2, vs, h3, h4⟩ := obj_at ok e
      rw [ha] at h1; cases h1
      first
        | exact .inr ⟨a, _, rfl, h2, h3, .inl h4⟩
        | exact h3.elim (fun h3 => .inr ⟨a, _, rfl, h2, h3, .inl h4⟩) fun ⟨x, h3⟩ => .inr ⟨a, _, rfl, h2, h3, .inr ⟨x, _, rfl, trivial, h4⟩⟩
    · rename_i l e
      obtain ⟨a', h1, h2, vs, h3, h4⟩ := obj_at ok e
      rw [ha] at h1; cases h1
      first
        | exact .inr ⟨a, _, rfl, h2, h3, .inl h4⟩
        | exact h3.elim (fun h3 => .inr ⟨a, _, rfl, h2, h3, .inl h4⟩) fun ⟨x, h3⟩ => .inr ⟨a, _, rfl, h2, h3, .inr ⟨x, _, rfl, trivial, h4⟩⟩
    · rename_i l e
      obtain ⟨a', h1, h2, vs, h3, h4⟩ := obj_at ok e
      rw [ha] at h1; cases h1
      first
        | exact .inr ⟨a, _, rfl, h2, h3, .inl h4⟩
        | exact h3.elim (fun h3 => .inr ⟨a, _, rfl, h2, h3, .inl h4⟩) fun ⟨x, h3⟩ => .inr ⟨a, _, rfl, h2, h3, .inr ⟨x, _, rfl, trivial, h4⟩⟩
    · exact .inl ⟨a, ha, rfl⟩
  · exact .inl h
theorem drf_denL {p : Pt M.w} (ok : p.Ok) : ∀ {ds : List D} {xs : List V}, DenL K p.ad p.Hv ds xs → DenUL p (ds.map (drf p.os)) xs
  | [], _, h => h
  | _ :: _, _, ⟨v, r, e, h, t⟩ => ⟨v, r, e, drf_den ok h, drf_denL ok t⟩
/-- .. a result without lists in it -/
def opF {ε σ : Type} (o : Option R) (s : σ) : G ε (R × σ) := match o with
  | some r => if flatR r = true then .ret (r, s) else .bad
  | none => .bad
theorem opF_inv {ε σ : Type} {o : Option R} {s : σ} {P : R × σ → Prop} {E : ε → Prop} (h : (opF o s : G ε (R × σ)).all P E) : ∃ r, o = some r ∧ flatR r = true ∧ P (r, s) := by
  cases o with
  | none => exact h.elim
  | some r =>
    by_cases hf : flatR r = true
    · have h' : (if flatR r = true then (.ret (r, s) : G ε (R × σ)) else .bad).all P E := h
      rw [if_pos hf] at h'
      exact ⟨r, rfl, hf, h'⟩
    · have h' : (if flatR r = true then (.ret (r, s) : G ε (R × σ)) else .bad).all P E := h
      rw [if_neg hf] at h'
      exact h'.elim
def eBinUD (f : D → D → Option D) (ea eb : Ev M.w D) : Ev M.w D := fun ρ s => (ea ρ s).bind fun a => (eb ρ a.2).bind fun b => (opF ((f (drf (b.2 : Ost) a.1) (drf (b.2 : Ost) b.1)).map R.sh) b.2).bind fun r => .ret (r.1.d, r.2)
def eFunU (f : List D → Option R) (el : Ev M.w (List D)) : Ev M.w R := fun ρ s => (el ρ s).bind fun a => opF (f (a.1.map (drf (a.2 : Ost)))) a.2
end
section
variable {X : Cx} {M : OM X.K} {W : WX} {e a b : Expr} {es rest : List Expr} {pos : Pos} {ea eb : Ev M.w D} {er : Ev M.w R} {el : Ev M.w (List D)}
theorem drf_at {p : Pt M.w} (ok : p.Ok) {s : M.w.S} (hs : p.s = s) {d : D} {x : V} (h : Den X.K p.ad p.Hv d x) : DenU p (drf (s : Ost) d) x := by subst hs; exact drf_den ok h
theorem ev_cmpU {o : CmpOp} {r : R2} {f : D → D → Option D} (ho : OpR X (compareOp o) r) (hf : ∀ A0, OpD (noM X.K A0) (fun d e => (f d e).map R.sh) r) (ha : PE X a (tD M.w X.mg W ea)) (hb : PE X b (tD M.w X.mg W eb)) (hm : behindInMarks o b = false := by rfl) :
    PE X (.Compare a [o] [b] pos) (tD M.w X.mg W (eBinUD f ea eb)) := (pe_cmpR ho ha hb hm).con fun σ H Q ⟨ρ, p, hH, ok, en, q⟩ => by
  subst hH
  show tD M.w X.mg W ea σ p.H fun x H1 => tD M.w X.mg W eb σ H1 fun y H2 => r x y H2 Q
  refine tG.seq ok en q fun r1 x q1 ex1 ok1 es1 dx h1 => ?_
  rw [← es1] at h1
  refine tG.seq ok1 (en.ext ex1) (XEnds ex1 h1 fun _ h => h) fun r2 y q2 ex2 ok2 es2 dy h2 => ?_
  obtain ⟨res, z, fl, h3⟩ := opF_inv (G.all_bind.mp h2)
  cases z0 : f (drf (r2.2 : Ost) r1.1) (drf (r2.2 : Ost) r2.1) with
  | none => rw [z0] at z; cases z
  | some dd =>
    rw [z0] at z
    cases z
    exact opU hf q2 x y _ _ (.sh dd) Q ok2 (drf_at ok2 es2 (ex2.den dx)) (drf_at ok2 es2 dy) (by show Option.map R.sh _ = _; rw [z0]; rfl) fl fun v q3 e3 ok3 es3 rk => h3 v q3 ((ex1.trans ex2).trans e3) ok3 (es3.trans es2) rk
variable {x : Str} {pp : Pos}
theorem drf_atL {p : Pt M.w} (ok : p.Ok) {s : M.w.S} (hs : p.s = s) {ds : List D} {xs : List V} (h : DenL X.K p.ad p.Hv ds xs) : DenUL p (ds.map (drf (s : Ost))) xs := by subst hs; exact drf_denL ok h
theorem ev_funU {id : String} {r : List V → Hp → VK → Prop} {f : List D → Option R} (hc : CallR X (.builtin id) r) (hf : ∀ A0, CallD (noM X.K A0) f r) (hm : X.mg x = none) (hv : bootBuiltins x = some (.builtin id)) (ha : PA X (e :: es) (tA M.w X.mg W el)) (hg : Gl X x := by rfl) (hn : x ≠ "__name__" := by decide)
    (hdb : (x == ("__debug__" : Str)) = false := by decide) (he : starEach (e :: es) X.env = (false, eval e X.env) :: starEach es X.env := by rfl)
    (hpl : (backTo pos (starEach es X.env)).any (·.1) = false := by rfl) : PE X (.Call (.Name x pp) (e :: es) [] pos) (tR M.w X.mg W (eFunU f el)) := (pe_callB hc hg hm hv ha hn hdb he hpl).con fun σ H Q ⟨ρ, p, hH, ok, en, q⟩ => by
  subst hH
  show tA M.w X.mg W el σ p.H fun vs H1 => r vs H1 Q
  refine tA.seq ok en q fun r1 xs q1 ex1 ok1 es1 dx h1 => ?_
  obtain ⟨res, z, fl, h3⟩ := opF_inv h1
  exact callU hf q1 xs _ res Q ok1 (drf_atL ok1 es1 dx) z fl fun v q3 e3 ok3 es3 rk => h3 v q3 (ex1.trans e3) ok3 (es3.trans es1) (rk.tr ex1 e3)
theorem ev_typU {id : String} {r : List V → Hp → VK → Prop} {f : List D → Option R} (hc : CallR X (.type id) r) (hf : ∀ A0, CallD (noM X.K A0) f r) (hm : X.mg x = none) (hv : bootBuiltins x = some (.type id)) (ha : PA X (e :: es) (tA M.w X.mg W el)) (hg : Gl X x := by rfl) (hn : x ≠ "__name__" := by decide)
    (hdb : (x == ("__debug__" : Str)) = false := by decide) (he : starEach (e :: es) X.env = (false, eval e X.env) :: starEach es X.env := by rfl)
    (hpl : (backTo pos (starEach es X.env)).any (·.1) = false := by rfl) : PE X (.Call (.Name x pp) (e :: es) [] pos) (tR M.w X.mg W (eFunU f el)) := (pe_callTy hc hg hm hv ha hn hdb he hpl).con fun σ H Q ⟨ρ, p, hH, ok, en, q⟩ => by
  subst hH
  show tA M.w X.mg W el σ p.H fun vs H1 => r vs H1 Q
  refine tA.seq ok en q fun r1 xs q1 ex1 ok1 es1 dx h1 => ?_
  obtain ⟨res, z, fl, h3⟩ := opF_inv h1
  exact callU hf q1 xs _ res Q ok1 (drf_atL ok1 es1 dx) z fl fun v q3 e3 ok3 es3 rk => h3 v q3 (ex1.trans e3) ok3 (es3.trans es1) (rk.tr ex1 e3)
end
end VQ

namespace VQ
open PySem PySem.Spec PyProof.Rows L2
/-- the text's classes are plain ones -/
def CtOk (K : PySem.W.Frag) (CT : Ctab) : Prop := ∀ x C, CT.lookup x = some C → Cls K C ∧ ∀ f, flOk x f = true → NoAttr K C f
def clsAt (s : Ost) : D → Option Str
  | .obj (n + 1) => match s[n]? with
    | some (some (.ins x _)) => some x
    | _ => none
  | _ => none
def fldAt (s : Ost) (f : Str) : D → Option D
  | .obj (n + 1) => match s[n]? with
    | some (some (.ins _ fs)) => fs.lookup f
    | _ => none
  | _ => none
def putD (f : Str) (d : D) : List (Str × D) → List (Str × D)
  | [] => [(f, d)]
  | (g, x) :: r => if g = f then (g, d) :: r else (g, x) :: putD f d r
section
variable {K : PySem.W.Frag} {ad : Nat → Option Addr} {Hv : Hp}
theorem lookup_den : ∀ {fs : List (Str × D)} {fv : List (Str × V)}, fv.map (·.1) = fs.map (·.1) → DenL K ad Hv (fs.map (·.2)) (fv.map (·.2)) → ∀ {f : Str} {d : D}, fs.lookup f = some d → ∃ v, fv.lookup f = some v ∧ Den K ad Hv d v
  | [], _, _, _, f, d, h => by cases h
  | (g, x) :: fs, [], hk, _, _, _, _ => by simp at hk
  | (g, x) :: fs, (g', y) :: fv, hk, hd, f, d, h => by
    simp only [List.map_cons, List.cons.injEq] at hk
    obtain ⟨rfl, hk⟩ := hk
    obtain ⟨v, r, e, h1, h2⟩ := hd
    simp only [List.map_cons, List.cons.injEq] at e
    obtain ⟨rfl, rfl⟩ := e
    simp only [List.lookup] at h ⊢
    cases z : f == g' with
    | true => simp only [z] at h ⊢; cases h; exact ⟨_, rfl, h1⟩
    | false => simp only [z] at h ⊢; exact lookup_den hk h2 h
theorem lookup_key : ∀ {fs : List (Str × D)} {f : Str} {d : D}, fs.lookup f = some d → f ∈ fs.map (·.1)
  | (g, x) :: fs, f, d, h => by
    simp only [List.lookup] at h
    cases z : f == g with
    | true => rw [eq_of_beq z]; simp
    | false => simp only [z] at h; exact List.mem_cons_of_mem _ (lookup_key h)
theorem lookup_noV {m : Str} : ∀ {fv : List (Str × V)}, m ∉ fv.map (·.1) → fv.lookup m = none
  | [], _ => rfl
  | (g, x) :: fv, h => by
    simp only [List.map_cons, List.mem_cons, not_or] at h
    have : (m == g) = false := beq_eq_false_iff_ne.mpr h.1
    simp only [List.lookup, this]
    exact lookup_noV h.2
theorem put_den {f : Str} {d : D} {v : V} (hv : Den K ad Hv d v) : ∀ {fs : List (Str × D)} {fv : List (Str × V)}, fv.map (·.1) = fs.map (·.1) → DenL K ad Hv (fs.map (·.2)) (fv.map (·.2)) → (putF f v fv).map (·.1) = (putD f d fs).map (·.1) ∧ DenL K ad Hv ((putD f d fs).map (·.2)) ((putF f v fv).map (·.2))
  | [], [], _, _ => ⟨rfl, DenL.one hv⟩
  | [], _ :: _, hk, _ => by simp at hk
  | _ :: _, [], hk, _ => by simp at hk
  | (g, x) :: fs, (g', y) :: fv, hk, hd => by
    simp only [List.map_cons, List.cons.injEq] at hk
    obtain ⟨rfl, hk⟩ := hk
    obtain ⟨w, r, e, h1, h2⟩ := hd
    simp only [List.map_cons, List.cons.injEq] at e
    obtain ⟨rfl, rfl⟩ := e
    simp only [putD, putF]
    by_cases z : g' = f
    · rw [if_pos z, if_pos z]
      exact ⟨by simp [hk], DenL.cons hv h2⟩
    · rw [if_neg z, if_neg z]
      obtain ⟨i1, i2⟩ := put_den hv hk h2
      exact ⟨by simp [i1], DenL.cons h1 i2⟩
theorem putD_keys {f : Str} {d : D} : ∀ {fs : List (Str × D)} {g : Str}, g ∈ (putD f d fs).map (·.1) → g = f ∨ g ∈ fs.map (·.1)
  | [], g, h => by simp [putD] at h; exact .inl h
  | (k, x) :: fs, g, h => by
    simp only [putD] at h
    split at h
    · exact .inr h
    · simp only [List.map_cons, List.mem_cons] at h ⊢
      rcases h with h | h
      · exact .inr (.inl h)
      · rcases putD_keys h with h | h
        · exact .inl h
        · exact .inr (.inr h)
end
section
variable {X : Cx} {M : OM X.K} {W : WX} {e o a b : Expr} {es rest : List Expr} {pos apos : Pos} {ea eb : Ev M.w D} {er : Ev M.w R} {el : Ev M.w (List D)}
/-- e.f -/
def eFld {K : PySem.W.Frag} {M : OM K} (f : Str) (ea : Ev M.w D) : Ev M.w D := fun ρ s => (ea ρ s).bind fun r => op (fldAt (r.2 : Ost) f r.1) r.2
theorem fldAt_inv {s : Ost} {f : Str} {d r : D} (h : fldAt s f d = some r) : ∃ n x fs, d = .obj (n + 1) ∧ s[n]? = some (some (.ins x fs)) ∧ fs.lookup f = some r := by
  unfold fldAt at h
  split at h
  · rename_i n
    split at h
    · rename_i x fs e
      exact ⟨n, x, fs, rfl, e, h⟩
    · cases h
  · cases h
theorem clsAt_inv {s : Ost} {d : D} {x : Str} (h : clsAt s d = some x) : ∃ n fs, d = .obj (n + 1) ∧ s[n]? = some (some (.ins x fs)) := by
  unfold clsAt at h
  split at h
  · rename_i n
    split at h
    · rename_i y fs e
      cases h
      exact ⟨n, fs, rfl, e⟩
    · cases h
  · cases h
theorem ev_fld (co : CtOk X.K M.CT) {f : Str} (ha : PE X e (tD M.w X.mg W ea)) (hb : attributeBase e f X.env (eval e X.env) = eval e X.env := by rfl) : PE X (.Attribute e f pos) (tD M.w X.mg W (eFld f ea)) := (pe_fld ha hb).con fun σ H Q ⟨ρ, p, hH, ok, en, q⟩ => by
  subst hH
  show tD M.w X.mg W ea σ p.H fun x H1 => ∃ a C dx fs v, x = .ref a ∧ H1 a = some (.ins C dx fs) ∧ Cls X.K C ∧ NoAttr X.K C f ∧ fs.lookup f = some v ∧ Q v H1
  refine tG.seq ok en q fun r1 x q1 ex1 ok1 es1 dx h1 => ?_
  cases z : fldAt (r1.2 : Ost) f r1.1 with
  | none => simp only [op, z] at h1; exact h1.elim
  | some d =>
    simp only [op, z] at h1
    obtain ⟨n, cn, fs, e1, e2, e3⟩ := fldAt_inv z
    rw [e1] at dx
    obtain ⟨a, ha, rfl⟩ := dx
    rw [← show q1.os = r1.2 from es1] at e2
    obtain ⟨a', i1, i2, C, dd, fv, j1, j2, j3, j4, j5, j6, j7⟩ := obj_at ok1 e2
    rw [ha] at i1; cases i1
    obtain ⟨v, l1, l2⟩ := lookup_den j5 j6 e3
    obtain ⟨c1, c2⟩ := co _ _ j1
    exact ⟨a, C, dd, fv, v, rfl, j2, c1, c2 f (j7 f (lookup_key e3)), l1, h1 v q1 ex1 ok1 es1 l2⟩
def tMethSD (C : Addr) (m : Str) (sp : Sp) (dvs : List V) (E : L2.St → XK) (ta : TE) (t : TA) : TE := fun σ H Q => ta σ H fun x H1 => ∃ a dx fs, x = .ref a ∧ H1 a = some (.ins C dx fs) ∧ fs.lookup m = none ∧
  t σ H1 fun vs H2 => sp (x :: (vs ++ dvs)) H2 Q (E σ)
section
variable {CX : CXT} {k : Nat} {f C : Addr} {fd : FuncData} {ps : List Str} {sp : Sp} {dvs : List V} {ds : List Value} {E : L2.St → XK} {x m : Str} {p : Pos} {ta : TE} {t : TA}
theorem pe_methSD {pl : Sem Bool} (he : PE X o ta) (c : Cls X.K C) (hm : Meth X.K C m f) (F : FnOk X.prog X.w X.K X.mg X.base CX k f fd ps sp) (hr : Room k X.A) (hb : L2.Binds X.K fd ps ds) (hd : Vals dvs ds) (hx : ∀ σ, PassesAt CX X σ (E σ)) (ha : PA X (e :: es) t)
    (hst : starEach (e :: es) X.env = (false, eval e X.env) :: starEach es X.env := by rfl) (hpl : (backTo pos (starEach es X.env)).any (·.1) = false := by rfl)
    (ht : eval (.Call (.Attribute o m apos) (e :: es) [] pos) X.env = (do
      let ov ← eval o X.env
      standAt apos.atName
      let (f, first) ← holding [ov] (getMethod ov m pl)
      callWith pos f first (backTo pos (starEach (e :: es) X.env)) (backToKw pos (keywordEach [] X.env))) := by rfl) :
    PE X (.Call (.Attribute o m apos) (e :: es) [] pos) (tMethSD C m sp dvs E ta t) := by
  refine ⟨fun pins s σ H Q I h => ?_⟩
  refine PySem.W.methodCall_KW (pl := pl) (thn (he.run pins s σ H _ I h) fun u s1 ⟨x, H1, I1, rx, a, dx, fs, ex, ea, l, q⟩ => ?_) ht
  subst ex
  obtain rfl : u = Value.ref a := rx
  refine getmeth_ok I1 ea c hm l ?_
  refine PySem.W.callWith_K (first := [.ref a]) (h₀ := X.base) I.ok.mod.kin hm.kp (thn (ha.run pos pins s1 σ H1 _ I1 q) fun us s2 ⟨vs, H2, I2, r, q2⟩ => ⟨I2.kIn, ?_⟩) hst hpl
  exact run_fnSD (us := .ref a :: us) (vs := .ref a :: vs) F hr hb hd (hx σ) I2 (.cons rfl r) q2
theorem pe_methSD0 {pl : Sem Bool} (he : PE X o ta) (c : Cls X.K C) (hm : Meth X.K C m f) (F : FnOk X.prog X.w X.K X.mg X.base CX k f fd ps sp) (hr : Room k X.A) (hb : L2.Binds X.K fd ps ds) (hd : Vals dvs ds) (hx : ∀ σ, PassesAt CX X σ (E σ))
    (ht : eval (.Call (.Attribute o m apos) [] [] pos) X.env = (do
      let ov ← eval o X.env
      standAt apos.atName
      let (f, first) ← holding [ov] (getMethod ov m pl)
      callWith pos f first (backTo pos (starEach [] X.env)) (backToKw pos (keywordEach [] X.env))) := by rfl) :
    PE X (.Call (.Attribute o m apos) [] [] pos) (tMethSD C m sp dvs E ta tNil) := by
  refine ⟨fun pins s σ H Q I h => ?_⟩
  refine PySem.W.methodCall_KW (pl := pl) (thn (he.run pins s σ H _ I h) fun u s1 ⟨x, H1, I1, rx, a, dx, fs, ex, ea, l, q⟩ => ?_) ht
  subst ex
  obtain rfl : u = Value.ref a := rx
  refine getmeth_ok I1 ea c hm l ?_
  exact PySem.W.callWith_K0 (first := [.ref a]) I1.kIn hm.kp (run_fnSD (us := [.ref a]) (vs := [.ref a]) F hr hb hd (hx σ) I1 (.cons rfl .nil) q)
/-- C(..) where what is raised is wished for at the caller's slots -/
def tMakeSD (C : Addr) (sp : Sp) (dvs : List V) (E : L2.St → XK) (t : TA) : TE := fun σ H Q => t σ H fun vs H1 => ∀ x dx, H1 x = none → H1 dx = none → dx ≠ x →
  sp (.ref x :: (vs ++ dvs)) (upd (upd H1 dx (.own x)) x (.ins C dx [])) (fun v H2 => v = .non ∧ Q (.ref x) H2) (E σ)
end
end
end VQ

namespace VQ
open PySem PySem.Spec PyProof.Rows L2
/-- a method of the class x -/
structure MethOk (P : Program) (w : World) (K : PySem.W.Frag) (mg : Str → Option Value) (base : Heap) (M : OM K) (k : Nat) (x m : Str) (n : Nat) (fs : List D → M.w.S → Gx M.w R) (dfl : List D) : Prop where
  ex : ∃ (C f : Addr) (fd : FuncData) (ps : List Str) (ds : List Value) (dvs : List V), M.CT.lookup x = some C ∧ Meth K C m f ∧ FnOk P w K mg base (L2.CX P w) k f fd ps (spV M.w mg n fs) ∧ L2.Binds K fd ps ds ∧ Vals dvs ds ∧ ∀ ad Hv, DenL K ad Hv dfl dvs
/-- the class x, made -/
structure NewOk (P : Program) (w : World) (K : PySem.W.Frag) (mg : Str → Option Value) (base : Heap) (M : OM K) (k : Nat) (x : Str) (n : Nat) (fs : List D → M.w.S → Gx M.w R) (dfl : List D) : Prop where
  ex : ∃ (C f : Addr) (fd : FuncData) (ps : List Str) (ds : List Value) (dvs : List V), M.CT.lookup x = some C ∧ mg x = some (.ref C) ∧ Mk K C f ∧ FnOk P w K mg base (L2.CX P w) k f fd ps (spV M.w mg n fs) ∧ L2.Binds K fd ps ds ∧ Vals dvs ds ∧ ∀ ad Hv, DenL K ad Hv dfl dvs
section
variable {K : PySem.W.Frag} {M : OM K}
def stAdd (s : Ost) (c : Cell) : Ost := s ++ [some c]
def stSet (s : Ost) (n : Nat) (c : Cell) : Ost := s.set n (some c)
def eMeth (x : Str) (n : Nat) (fs : List D → M.w.S → Gx M.w R) (dfl : List D) (ea : Ev M.w D) (el : Ev M.w (List D)) : Ev M.w R := fun ρ s => (ea ρ s).bind fun a => if (clsAt (a.2 : Ost) a.1 == some x) = true then (el ρ a.2).bind fun l =>
  if (a.1 :: (l.1 ++ dfl)).length = n then fs (a.1 :: (l.1 ++ dfl)) l.2 else .bad else .bad
def nwD (s : Ost) : D := .obj (s.length + 1)
def eNew (x : Str) (n : Nat) (fs : List D → M.w.S → Gx M.w R) (dfl : List D) (el : Ev M.w (List D)) : Ev M.w D := fun ρ s => (el ρ s).bind fun l =>
  if (nwD l.2 :: (l.1 ++ dfl)).length = n then (fs (nwD l.2 :: (l.1 ++ dfl)) (stAdd l.2 (.ins x []))).bind fun r => match r.1 with
    | .sh .non => .ret (nwD l.2, r.2)
    | _ => .bad
  else .bad
end
section
variable {X : Cx} {M : OM X.K} {W : WX} {e o a b : Expr} {es rest : List Expr} {pos apos : Pos} {ea eb : Ev M.w D} {er : Ev M.w R} {el : Ev M.w (List D)} {k j n : Nat} {fs : List D → M.w.S → Gx M.w R} {dfl : List D} {x m : Str} {p1 : Pos}
theorem meth_to (co : CtOk X.K M.CT) {C : Addr} {dvs : List V} (hC : M.CT.lookup x = some C) (hf : flOk x m = false) (hdd : ∀ ad Hv, DenL X.K ad Hv dfl dvs) {σ : Sl} {H : Hp} {Q : VK} (h : tR M.w X.mg W (eMeth x n fs dfl ea el) σ H Q) :
    tMethSD C m (spV M.w X.mg n fs) dvs (WE W) (tD M.w X.mg W ea) (tA M.w X.mg W el) σ H Q := by
  obtain ⟨ρ, p, hH, ok, en, q⟩ := h
  subst hH
  show tD M.w X.mg W ea σ p.H fun v H1 => ∃ a dx fv, v = .ref a ∧ H1 a = some (.ins C dx fv) ∧ fv.lookup m = none ∧ tA M.w X.mg W el σ H1 fun vs H2 => spV M.w X.mg n fs (v :: (vs ++ dvs)) H2 Q (WE W σ)
  refine tG.seq ok en q fun r1 v q1 ex1 ok1 es1 dx h1 => ?_
  by_cases hc : (clsAt (r1.2 : Ost) r1.1 == some x) = true
  · obtain ⟨nn, fs0, e1, e2⟩ := clsAt_inv (eq_of_beq hc)
    have dx0 := dx
    rw [e1] at dx
    obtain ⟨a, ha, rfl⟩ := dx
    rw [← show q1.os = r1.2 from es1] at e2
    obtain ⟨a', i1, i2, C', dd, fv, j1, j2, j3, j4, j5, j6, j7⟩ := obj_at ok1 e2
    rw [ha] at i1; cases i1
    rw [hC] at j1; cases j1
    refine ⟨a, dd, fv, rfl, j2, lookup_noV fun z => ?_, ?_⟩
    · rw [j5] at z
      rw [j7 m z] at hf; cases hf
    · rw [if_pos hc, ← es1] at h1
      refine tA.seq ok1 (en.ext ex1) (XEnds ex1 h1 fun _ h => h) fun r2 vs q2 ex2 ok2 es2 dl h2 => ?_
      by_cases hl : (r1.1 :: (r2.1 ++ dfl)).length = n
      · rw [if_pos hl] at h2
        rw [← es2] at h2
        have dl2 : DenL X.K q2.ad q2.Hv (r1.1 :: (r2.1 ++ dfl)) (.ref a :: (vs ++ dvs)) := DenL.cons (ex2.den dx0) (dl.append (hdd _ _))
        exact ⟨_, q2, by rw [dl2.length]; exact hl, rfl, ok2, dl2, G.all_mono (fun r h v q3 e3 ok3 es3 rk => h v q3 ((ex1.trans ex2).trans e3) ok3 es3 (rk.tr (ex1.trans ex2) e3)) (fun x h cls dd q3 e3 ok3 es3 xk => h cls dd q3 (ex2.trans e3) ok3 es3 xk) h2⟩
      · rw [if_neg hl] at h2; exact h2.elim
  · rw [if_neg hc] at h1; exact h1.elim
variable {pl : Sem Bool}
theorem ev_meth (co : CtOk X.K M.CT) (c : MethOk X.prog X.w X.K X.mg X.base M k x m n fs dfl) (hr : Room j X.A) (tk : Takes X W) (ho : PE X o (tD M.w X.mg W ea)) (ha : PA X (e :: es) (tA M.w X.mg W el)) (hkj : k ≤ j := by decide) (hf : flOk x m = false := by decide +kernel)
    (hst : starEach (e :: es) X.env = (false, eval e X.env) :: starEach es X.env := by rfl) (hpl : (backTo pos (starEach es X.env)).any (·.1) = false := by rfl)
    (ht : eval (.Call (.Attribute o m apos) (e :: es) [] pos) X.env = (do
      let ov ← eval o X.env
      standAt apos.atName
      let (f, first) ← holding [ov] (getMethod ov m pl)
      callWith pos f first (backTo pos (starEach (e :: es) X.env)) (backToKw pos (keywordEach [] X.env))) := by rfl) :
    PE X (.Call (.Attribute o m apos) (e :: es) [] pos) (tR M.w X.mg W (eMeth x n fs dfl ea el)) := by
  obtain ⟨C, f, fd, ps, ds, dvs, hC, hm, F, hb, hd, hdd⟩ := c.ex
  exact (pe_methSD (E := WE W) ho (co _ _ hC).1 hm F (hr.mono hkj) hb hd (passAt tk) ha hst hpl ht).con fun σ H Q h => meth_to co hC hf hdd h
theorem ev_meth0 (co : CtOk X.K M.CT) (c : MethOk X.prog X.w X.K X.mg X.base M k x m n fs dfl) (hr : Room j X.A) (tk : Takes X W) (ho : PE X o (tD M.w X.mg W ea)) (hkj : k ≤ j := by decide) (hf : flOk x m = false := by decide +kernel)
    (ht : eval (.Call (.Attribute o m apos) [] [] pos) X.env = (do
      let ov ← eval o X.env
      standAt apos.atName
      let (f, first) ← holding [ov] (getMethod ov m pl)
      callWith pos f first (backTo pos (starEach [] X.env)) (backToKw pos (keywordEach [] X.env))) := by rfl) :
    PE X (.Call (.Attribute o m apos) [] [] pos) (tR M.w X.mg W (eMeth x n fs dfl ea eNil)) := by
  obtain ⟨C, f, fd, ps, ds, dvs, hC, hm, F, hb, hd, hdd⟩ := c.ex
  refine (pe_methSD0 (E := WE W) ho (co _ _ hC).1 hm F (hr.mono hkj) hb hd (passAt tk) ht).con fun σ H Q h => ?_
  obtain ⟨ρ, p, hH, ok, en, q⟩ := (meth_to co hC hf hdd h : tMethSD C m (spV M.w X.mg n fs) dvs (WE W) (tD M.w X.mg W ea) (tA M.w X.mg W eNil) σ H Q)
  refine ⟨ρ, p, hH, ok, en, G.all_mono (fun r hr v q e ok' es dv => ?_) (fun _ h => h) q⟩
  obtain ⟨a, dx, fv, h1, h2, h3, ρ', p', hH', ok2, en2, q2⟩ := hr v q e ok' es dv
  refine ⟨a, dx, fv, h1, h2, h3, ?_⟩
  have := q2 [] p' (Ext.refl p') ok2 rfl DenL.nil
  rw [hH'] at this
  exact this
section
variable {CX : CXT} {f C : Addr} {fd : FuncData} {ps : List Str} {sp : Sp} {dvs : List V} {ds : List Value} {E : L2.St → XK} {t : TA}
theorem run_makeP {pins : List (Addr × Obj)} {σ : L2.St} {H : Hp} {s : Shared} {Q : VK} {us : List Value} {vs : List V} (M : Mk X.K C f) (F : FnOk X.prog X.w X.K X.mg X.base CX k f fd ps sp) (hr : Room (k + 1) X.A) (hb : L2.Binds X.K fd ps ds) (hd : Vals dvs ds)
    (hx : PassesAt CX X σ (E σ)) (I : L2.Inv X pins σ H s) (r : Vals vs us)
    (h : ∀ x dx, H x = none → H dx = none → dx ≠ x → sp (.ref x :: (vs ++ dvs)) (upd (upd H dx (.own x)) x (.ins C dx [])) (fun v H2 => v = .non ∧ Q (.ref x) H2) (E σ)) :
    wpAny (model X.prog X.w) X.A (call (.ref C) us) (EP X pins σ Q) X.xe s := by
  have hq := h (s.heap.objs.size + 1) s.heap.objs.size (I.hok.fresh (Nat.le_succ _)) (I.hok.fresh (Nat.le_refl _)) (Nat.ne_of_lt (Nat.lt_succ_self _))
  have I2 := Inv.made (C := C) I
  have r2 : Vals (V.ref (s.heap.objs.size + 1) :: (vs ++ dvs)) (Value.ref (s.heap.objs.size + 1) :: (us ++ ds)) := .cons rfl (r.append hd)
  have hl : (Value.ref (s.heap.objs.size + 1) :: us ++ ds).length = ps.length := by
    have e := r2.length
    rw [F.len _ _ _ _ hq] at e
    exact e.symm
  refine wpAny_call (make_map (f := f) I.kIn M.makes M.init (beq_iff_eq.mp M.fn) (codeAny_mono (F.run _ X.stack _ _ ⟨Value.ref (s.heap.objs.size + 1) :: us, []⟩ (Value.ref (s.heap.objs.size + 1) :: (us ++ ds)) _ _ (E σ) (hr.make C us [])
    (I2.env0.make C us []) (hb _ (Value.ref (s.heap.objs.size + 1) :: us) I2.kIn hl) r2 hq) fun r s' hq' => ?_))
  cases r with
  | error e => exact hx pins _ _ e s' I2 hq'
  | ok fl =>
    cases fl with
    | ret u =>
      obtain ⟨v, H', I3, rv, ev, q3⟩ := I2.after hq'
      subst ev
      exact ⟨rv, ⟨V.ref (s.heap.objs.size + 1), H', I3, rfl, q3⟩⟩
    | next => exact False.elim hq'
    | brk => exact False.elim hq'
    | cont => exact False.elim hq'
theorem pe_makeP {p : Pos} (M : Mk X.K C f) (F : FnOk X.prog X.w X.K X.mg X.base CX k f fd ps sp) (hr : Room (k + 1) X.A) (hg : Gl X x) (hm : X.mg x = some (.ref C)) (hb : L2.Binds X.K fd ps ds) (hd : Vals dvs ds) (hx : ∀ σ, PassesAt CX X σ (E σ))
    (ha : PA X (e :: es) t) (hdb : (x == ("__debug__" : Str)) = false := by decide) (he : starEach (e :: es) X.env = (false, eval e X.env) :: starEach es X.env := by rfl) (hpl : (backTo pos (starEach es X.env)).any (·.1) = false := by rfl) :
    PE X (.Call (.Name x p) (e :: es) [] pos) (tMakeSD C sp dvs E t) := by
  refine ⟨fun pins s σ H Q I h => ?_⟩
  refine wpAny_Call_Name_kw (ld_glob I hg hm ?_ hdb)
  refine PySem.W.callWith_K (h₀ := X.base) I.ok.mod.kin M.kp (thn (ha.run pos pins s σ H _ I h) fun us s1 ⟨vs, H1, I1, r, q⟩ => ⟨I1.kIn, ?_⟩) he hpl
  exact run_makeP M F hr hb hd (hx σ) I1 r q
end
theorem new_to {C : Addr} {dvs : List V} (hC : M.CT.lookup x = some C) (hdd : ∀ ad Hv, DenL X.K ad Hv dfl dvs) {σ : Sl} {H : Hp} {Q : VK} (h : tD M.w X.mg W (eNew x n fs dfl el) σ H Q) :
    tMakeSD C (spV M.w X.mg n fs) dvs (WE W) (tA M.w X.mg W el) σ H Q := by
  obtain ⟨ρ, p, hH, ok, en, q⟩ := h
  subst hH
  show tA M.w X.mg W el σ p.H fun vs H1 => ∀ x' dx, H1 x' = none → H1 dx = none → dx ≠ x' → spV M.w X.mg n fs (.ref x' :: (vs ++ dvs)) (upd (upd H1 dx (.own x')) x' (.ins C dx [])) (fun v H2 => v = .non ∧ Q (.ref x') H2) (WE W σ)
  refine tA.seq ok en q fun r1 vs q1 ex1 ok1 es1 dl h1 x' dx hx' hdx hne => ?_
  by_cases hl : (nwD r1.2 :: (r1.1 ++ dfl)).length = n
  · rw [if_pos hl] at h1
    have hk : ∀ b o, q1.H b = some o → upd (upd q1.H dx (.own x')) x' (.ins C dx []) b = some o := fun b o hb => by
      rw [upd_ne (ne_of_none hb hx'), upd_ne (ne_of_none hb hdx)]; exact hb
    have ha1 : upd (upd q1.H dx (.own x')) x' (.ins C dx []) x' = some (.ins C dx []) := upd_same
    have ha2 : upd (upd q1.H dx (.own x')) x' (.ins C dx []) dx = some (.own x') := by rw [upd_ne hne, upd_same]
    obtain ⟨m1, m2⟩ := obj_more (p0 := q1) (p := q1) ok1 (Ext.refl q1) (c := .ins x []) (a := x') (N := fun y => y = x' ∨ y = dx) (H' := upd (upd q1.H dx (.own x')) x' (.ins C dx [])) hk (fun y hy => by
      rcases hy with rfl | rfl
      · exact ⟨.inl hx', ok1.vn hx', ok1.fn hx', _, ha1, fun _ z => by cases z⟩
      · exact ⟨.inl hdx, ok1.vn hdx, ok1.fn hdx, _, ha2, fun _ z => by cases z⟩) (.inl rfl) ⟨C, dx, [], hC, ha1, .inr rfl, ha2, rfl, rfl, fun f hf => by cases hf⟩
    have hs : stAdd r1.2 (.ins x []) = q1.os ++ [some (.ins x [])] := by rw [show r1.2 = q1.os from es1.symm]; rfl
    have hnw : nwD r1.2 = .obj (q1.os.length + 1) := by rw [show r1.2 = q1.os from es1.symm]; rfl
    rw [hs, hnw] at h1
    have dl2 : DenL X.K (adN q1.ad q1.os.length x') q1.Hv (.obj (q1.os.length + 1) :: (r1.1 ++ dfl)) (.ref x' :: (vs ++ dvs)) := DenL.cons ⟨x', adN_new, rfl⟩ ((m1.denL dl).append (hdd _ _))
    refine ⟨_, ⟨q1.os ++ [some (.ins x [])], fun y => q1.F y ∨ (y = x' ∨ y = dx), q1.Hv, upd (upd q1.H dx (.own x')) x' (.ins C dx []), adN q1.ad q1.os.length x'⟩, by rw [dl2.length, ← hnw]; exact hl, rfl, m2, dl2, ?_⟩
    refine G.all_mono (fun r h v q3 e3 ok3 es3 rk => ?_) (fun y h cls dd q3 e3 ok3 es3 xk => h cls dd q3 ((ex1.trans m1).trans e3) ok3 es3 xk) (G.all_bind.mp h1)
    obtain ⟨r, s3⟩ := r
    cases r with
    | fr d => exact h.elim
    | sh d =>
      cases d <;> first | exact h.elim | skip
      have : v = .non := rk
      refine ⟨this, ?_⟩
      exact h (.ref x') q3 ((ex1.trans m1).trans e3) ok3 es3 ⟨x', e3.ad _ _ adN_new, rfl⟩
  · rw [if_neg hl] at h1; exact h1.elim
theorem ev_new {pp : Pos} (c : NewOk X.prog X.w X.K X.mg X.base M k x n fs dfl) (hr : Room j X.A) (tk : Takes X W) (ha : PA X (e :: es) (tA M.w X.mg W el)) (hkj : k + 1 ≤ j := by decide) (hg : Gl X x := by rfl)
    (hdb : (x == ("__debug__" : Str)) = false := by decide) (he : starEach (e :: es) X.env = (false, eval e X.env) :: starEach es X.env := by rfl) (hpl : (backTo pos (starEach es X.env)).any (·.1) = false := by rfl) :
    PE X (.Call (.Name x pp) (e :: es) [] pos) (tD M.w X.mg W (eNew x n fs dfl el)) := by
  obtain ⟨C, f, fd, ps, ds, dvs, hC, hm, hk, F, hb, hd, hdd⟩ := c.ex
  exact (pe_makeP (E := WE W) hk F (hr.mono hkj) hg hm hb hd (passAt tk) ha hdb he hpl).con fun σ H Q h => new_to hC hdd h
end
end VQ

namespace VQ
open PySem PySem.Spec PyProof.Rows L2
section
variable {K : PySem.W.Frag} {M : OM K}
theorem rel_ext {K : PySem.W.Frag} {M : WM K} {en p q : Pt M} {ρ : Nv} {σ : Sl} (h : Rel en ρ σ p) (e : Ext p q) (ok : q.Ok) (hv : ∀ b, p.Hv b = none → q.Hv b = none ∨ p.H b = none) : Rel en ρ σ q := by
  refine ⟨ok, h.ext.trans e, h.len, fun i d hi => ?_, fun i d hi => ?_, h.dis⟩
  · obtain ⟨v, h1, h2⟩ := h.sh i d hi
    exact ⟨v, h1, e.den h2⟩
  · obtain ⟨a, o, h1, h2, h3, h4, h5, h6⟩ := h.ow i d hi
    refine ⟨a, o, h1, e.frame a o h2 h4, ?_, fun z => ?_, h5, h6.mono e.view e.ad⟩
    · rcases hv a h3 with z | z
      · exact z
      · rw [h2] at z; cases z
    · rcases e.foot a z with z | z
      · exact h4 z
      · rw [h2] at z; cases z
/-- a list just made becomes a thing of the world -/
theorem rel_adopt {en p : Pt M.w} {ρ : Nv} {σ : Sl} (h : Rel en ρ σ p) {d : D} {c : Cell} {v : V} (rk : ROk en p (.fr d) v) (hc : cellOf d = some c) (ap : ∀ a, v = .ref a → ∀ (i : Nat) d, ρ[i]? = some (some (.ow d)) → σ[i]? ≠ some (some (.ref a))) :
    ∃ q : Pt M.w, q.H = p.H ∧ q.s = stAdd p.os c ∧ Rel en ρ σ q ∧ Den K q.ad q.Hv (nwD p.os) v ∧ (∀ m b, p.ad m = some b → q.ad m = some b) ∧ Same p.Hv q.Hv := by
  obtain ⟨q, a, e1, e2, e3, e4, e5, e6, e7, e8, e9, e10⟩ := obj_adopt h.ok h.ext rk hc
  refine ⟨q, e2, e3, ⟨e8, e7, h.len, fun i d hi => ?_, fun i d hi => ?_, h.dis⟩, ?_, e10, by rw [e4]; exact Same.rfl'⟩
  · obtain ⟨w, h1, h2⟩ := h.sh i d hi
    exact ⟨w, h1, h2.mono (by rw [e4]; exact Same.rfl') e10⟩
  · obtain ⟨b, o, h1, h2, h3, h4, h5, h6⟩ := h.ow i d hi
    refine ⟨b, o, h1, by rw [e2]; exact h2, by rw [e4]; exact h3, fun z => ?_, h5, h6.mono (by rw [e4]; exact Same.rfl') e10⟩
    rcases (e5 b).mp z with z | z
    · exact h4 z
    · exact ap a e1 i d hi (by rw [h1, z])
  · exact ⟨a, by rw [e6]; exact adN_new, e1⟩
def stFld (s : Ost) (n : Nat) (f : Str) : R → Option Ost
  | .sh d => match s[n]? with
    | some (some (.ins x fs)) => if (flOk x f && decide (fs.length < 100)) = true then some (stSet s n (.ins x (putD f d fs))) else none
    | _ => none
  | .fr d => match cellOf d with
    | some c => match s[n]? with
      | some (some (.ins x fs)) => if (flOk x f && decide (fs.length < 100)) = true then some (stSet (stAdd s c) n (.ins x (putD f (nwD s) fs))) else none
      | _ => none
    | none => none
theorem fld_write (co : CtOk K M.CT) {en q : Pt M.w} {ρ : Nv} {σ : Sl} (h : Rel en ρ σ q) {n : Nat} {x f : Str} {fs : List (Str × D)} {d : D} {a : Addr} {y : V} (e : q.os[n]? = some (some (.ins x fs))) (hc : (flOk x f && decide (fs.length < 100)) = true) (ha : q.ad (n + 1) = some a) (hy : Den K q.ad q.Hv d y) :
    ∃ C dx fv, q.H a = some (.ins C dx fv) ∧ Cls K C ∧ NoAttr K C f ∧ fv.length < 1000 ∧ ∃ q' : Pt M.w, q'.H = upd q.H a (.ins C dx (putF f y fv)) ∧ q'.s = stSet q.os n (.ins x (putD f d fs)) ∧ Rel en ρ σ q' := by
  rw [Bool.and_eq_true, decide_eq_true_eq] at hc
  obtain ⟨a', i1, i2, C, dx, fv, j1, j2, j3, j4, j5, j6, j7⟩ := obj_at h.ok e
  obtain rfl : a' = a := Option.some.inj (i1.symm.trans ha)
  obtain ⟨c1, c2⟩ := co _ _ j1
  have hl : fv.length = fs.length := by have := congrArg List.length j5; simpa using this
  obtain ⟨w1, w2⟩ := obj_write (c' := .ins x (putD f d fs)) (o' := .ins C dx (putF f y fv)) h.ok e ha (fun _ z => by cases z) (fun F _ hcell => by
    obtain ⟨C', dx', fv', k1, k2, k3, k4, k5, k6, k7⟩ := hcell
    rw [j2] at k2
    cases k2
    obtain ⟨p1, p2⟩ := put_den (f := f) hy k5 k6
    refine ⟨C, dx, putF f y fv, k1, upd_same, k3, ?_, p1, p2, fun g hg => ?_⟩
    · rw [upd_ne]
      · exact k4
      · intro z; rw [z, j2] at k4; cases k4
    · rcases putD_keys hg with z | z
      · rw [z]; exact hc.1
      · exact k7 g z) (fun _ _ _ _ => trivial) (fun x z => by rw [j2] at z; cases z)
  exact ⟨C, dx, fv, j2, c1, c2 f hc.1, by omega, _, rfl, rfl, rel_ext h w1 w2 fun b hb => .inl hb⟩
def sFldS (i : Nat) (f : Str) (m : List Nat) (er : Ev M.w R) : Sv M.w := fun ρ s => (inF m er ρ s).bind fun r => match (behind M.w m (flatR r.1) r.2 ρ)[i]? with
  | some (some (.sh (.obj (n + 1)))) => match stFld r.2 n f r.1 with
    | some s' => .ret (.nx (behind M.w m (flatR r.1) r.2 ρ), s')
    | none => .bad
  | _ => .bad
end
section
variable {X : Cx} {M : OM X.K} {W : WX} {en : Pt M.w} {e o a b value : Expr} {es rest : List Expr} {pos apos : Pos} {ea eb : Ev M.w D} {er : Ev M.w R} {el : Ev M.w (List D)}
theorem ss_fld (co : CtOk X.K M.CT) (i : Nat) {f : Str} (m : List Nat) {x : Str} {p1 pos' : Pos} (he : PE X e (tR M.w X.mg W er)) (hN : X.N[i]? = some x := by rfl) (hv : Vis X.env.scope x := by first | exact Or.inl rfl | exact Or.inr (Or.inl rfl) | exact Or.inr (Or.inr rfl)) (hd : (x == ("__debug__" : Str)) = false := by decide)
    (hcd : (x == ("__classdict__" : Str)) = false := by decide) (hs : swapsWith e (some (.Attribute (.Name x p1) f pos')) pos.line X.env = pure false := by rfl) : PS X (.Assign [.Attribute (.Name x p1) f pos'] e pos) (tS M.w X.mg W (sFldS i f m er)) := (ps_fld (pe_var hN hv hd hcd) he hs).con fun Dd σ H ⟨en, ρ, p, hH, rl, q⟩ => by
  subst hH
  show tR M.w X.mg W er σ p.H fun y H1 => ∃ v, σ[i]? = some (some v) ∧ ∃ a C dx fs, v = .ref a ∧ H1 a = some (.ins C dx fs) ∧ Cls X.K C ∧ NoAttr X.K C f ∧ fs.length < 1000 ∧ Dd.nx σ (upd H1 a (.ins C dx (putF f y fs)))
  refine inF_D rl q fun r y q1 e ok es rk hr => ?_
  obtain ⟨q2, eH, eS, rl2, rk2, ap⟩ := behind_ok rl e ok rk
  rw [← eH]
  rw [← es] at hr
  obtain ⟨r, s1⟩ := r
  obtain rfl : q1.s = s1 := es
  cases zb : (behind M.w m (flatR r) q1.s ρ)[i]? with
  | none => rw [zb] at hr; exact hr.elim
  | some ob =>
    cases ob with
    | none => rw [zb] at hr; exact hr.elim
    | some vv =>
      cases vv with
      | ow _ => rw [zb] at hr; exact hr.elim
      | sh dd =>
        cases dd with
        | obj n1 =>
          cases n1 with
          | zero => rw [zb] at hr; exact hr.elim
          | succ n =>
            simp only [zb] at hr
            obtain ⟨v, h1, a, ha, rfl⟩ := rl2.sh i _ zb
            have es2 : q2.os = q1.os := eS
            cases r with
            | sh d =>
              cases z : stFld q1.s n f (.sh d) with
              | none => rw [z] at hr; exact hr.elim
              | some s' =>
                rw [z] at hr
                simp only [stFld] at z
                split at z
                · rename_i cn fs ez
                  split at z
                  · rename_i hc
                    cases z
                    obtain ⟨C, dx, fv, k1, k2, k3, k4, q3, k5, k6, k7⟩ := fld_write co rl2 (d := d) (y := y) (by rw [es2]; exact ez) hc ha rk2
                    refine ⟨_, h1, a, C, dx, fv, rfl, k1, k2, k3, k4, ?_⟩
                    rw [← k5]
                    exact hr σ q3 k7 (by rw [k6, es2])
                  · cases z
                · cases z
            | fr d =>
              cases z : stFld q1.s n f (.fr d) with
              | none => rw [z] at hr; exact hr.elim
              | some s' =>
                rw [z] at hr
                simp only [stFld] at z
                cases zc : cellOf d with
                | none => rw [zc] at z; cases z
                | some c =>
                  rw [zc] at z
                  simp only at z
                  split at z
                  · rename_i cn fs ez
                    split at z
                    · rename_i hc
                      cases z
                      obtain ⟨q3, g1, g2, g3, g4, g5, g6⟩ := rel_adopt rl2 rk2 zc (fun a ha i d hj => ap a ha ⟨_, rfl⟩ i d (behind_own hj))
                      have hlt : n < q2.os.length := by rw [es2]; exact (List.getElem?_eq_some_iff.mp ez).1
                      have ez3 : q3.os[n]? = some (some (.ins cn fs)) := by
                        rw [show q3.os = q2.os ++ [some c] from g2, List.getElem?_append_left hlt, es2]; exact ez
                      obtain ⟨C, dx, fv, k1, k2, k3, k4, q4, k5, k6, k7⟩ := fld_write co g3 (d := nwD q2.os) (y := y) ez3 hc (g5 _ _ ha) g4
                      refine ⟨_, h1, a, C, dx, fv, rfl, by rw [← g1]; exact k1, k2, k3, k4, ?_⟩
                      rw [← g1, ← k5]
                      exact hr σ q4 k7 (by rw [k6, show q3.os = stAdd q2.os c from g2, es2])
                    · cases z
                  · cases z
        | _ => rw [zb] at hr; exact hr.elim
end
end VQ

namespace VQ
open PySem PySem.Spec PyProof.Rows L2
def lstAt (s : Ost) : D → Option (List D)
  | .obj (n + 1) => match s[n]? with
    | some (some (.lst l)) => some l
    | _ => none
  | _ => none
theorem lstAt_inv {s : Ost} {d : D} {l : List D} (h : lstAt s d = some l) : ∃ n, d = .obj (n + 1) ∧ s[n]? = some (some (.lst l)) := by
  unfold lstAt at h
  split at h
  · rename_i n
    split at h
    · rename_i l' e
      cases h
      exact ⟨n, rfl, e⟩
    · cases h
  · cases h
def setLst (s : Ost) (d : D) (l : List D) : Ost := match d with
  | .obj (n + 1) => stSet s n (.lst l)
  | _ => s
section
variable {K : PySem.W.Frag} {M : OM K}
theorem lst_write {p : Pt M.w} (ok : p.Ok) {n : Nat} {l l' : List D} {a : Addr} {vs' : List V} (e : p.os[n]? = some (some (.lst l))) (ha : p.ad (n + 1) = some a) (hl : DenL K p.ad p.Hv l' vs') :
    Ext p (⟨stSet p.os n (.lst l'), p.F, p.Hv, upd p.H a (.lst vs'), p.ad⟩ : Pt M.w) ∧ (⟨stSet p.os n (.lst l'), p.F, p.Hv, upd p.H a (.lst vs'), p.ad⟩ : Pt M.w).Ok := by
  obtain ⟨a', i1, i2, vs, j1, j2⟩ := obj_at ok e
  obtain rfl : a' = a := Option.some.inj (i1.symm.trans ha)
  exact obj_write (c' := .lst l') (o' := .lst vs') ok e ha (fun _ z => by cases z) (fun F _ _ => ⟨vs', upd_same, hl⟩) (fun _ _ _ _ => trivial) (fun x z => by rw [j1] at z; cases z)
/-- l.append(d), l a list of the world -/
def eAppW (ea ee : Ev M.w D) : Ev M.w D := fun ρ s => (ea ρ s).bind fun a => match lstAt a.2 a.1 with
  | some _ => (ee ρ a.2).bind fun d => match lstAt d.2 a.1 with
    | some l => if l.length < big then .ret (.non, setLst d.2 a.1 (l ++ [d.1])) else .bad
    | none => .bad
  | none => .bad
/-- a loop over a list of the world: each turn reads it anew -/
def loopW (g : D → Nv → Option Nv) (body : Sv M.w) (d : D) : Nat → Nat → Sv M.w
  | 0, _, _, _ => .bad
  | fu + 1, i, ρ, s => match lstAt s d with
    | none => .bad
    | some l => match l[i]? with
      | none => .ret (.nx ρ, s)
      | some x => match g x ρ with
        | none => .bad
        | some ρ1 => (body ρ1 s).bind fun f => match f with
          | (.nx ρ2, s2) => loopW g body d fu (i + 1) ρ2 s2
          | (.ct ρ2, s2) => loopW g body d fu (i + 1) ρ2 s2
          | (.bk ρ2, s2) => .ret (.nx ρ2, s2)
          | (.rt r, s2) => .ret (.rt r, s2)
def sForW (m : List Nat) (ea : Ev M.w D) (g : D → Nv → Option Nv) (body : Sv M.w) : Sv M.w := fun ρ s => (inF m ea ρ s).bind fun r => match lstAt r.2 r.1 with
  | some l => loopW g body r.1 (l.length + 1) 0 (frz m ρ) r.2
  | none => .bad
end
section
variable {X : Cx} {M : OM X.K} {W : WX} {e o a b tg iter : Expr} {es rest : List Expr} {pos apos : Pos} {ea eb : Ev M.w D} {er : Ev M.w R} {el : Ev M.w (List D)} {m : List Nat}
theorem ev_appW (ho : PE X o (tD M.w X.mg W ea)) (he : PE X e (tD M.w X.mg W eb)) (hbase : attributeBase o "append" X.env (eval o X.env) = eval o X.env := by rfl)
    (hfew : ((backTo pos (starEach [e] X.env)).all (fun x => !x.1) && (backToKw pos (keywordEach [] X.env)).all (fun x => x.1.isSome) && decide ([e].length + ([] : List Keyword).length + (if ([] : List Keyword).isEmpty then 0 else 1) < 30)) = true := by rfl)
    (hline : (apos.endLine == pos.line) = true := by rfl) (hst : starEach [e] X.env = (false, eval e X.env) :: starEach [] X.env := by rfl) :
    PE X (.Call (.Attribute o "append" apos) [e] [] pos) (tD M.w X.mg W (eAppW ea eb)) :=
  (pe_bm PySem.F.plainAttrs_list PySem.F.slot_list_append PySem.F.type_list_append mt_append ho (pa_cons he pa_nil hst) hbase hfew hline hst rfl).con fun σ H Q ⟨ρ, p, hH, ok, en, q⟩ => by
  subst hH
  show tD M.w X.mg W ea σ p.H fun v H1 => tyV X.K "list" v H1 ∧ tD M.w X.mg W eb σ H1 fun y H2 => rAppend v [y] H2 Q
  refine tG.seq ok en q fun r1 v q1 ex1 ok1 es1 dv h1 => ?_
  cases z : lstAt r1.2 r1.1 with
  | none => rw [z] at h1; exact h1.elim
  | some l1 =>
    rw [z] at h1
    simp only at h1
    obtain ⟨n, e1, e2⟩ := lstAt_inv z
    have dv0 := dv
    rw [e1] at dv
    obtain ⟨a, ha, rfl⟩ := dv
    rw [← show q1.os = r1.2 from es1] at e2
    obtain ⟨a', i1, i2, vs, j1, j2⟩ := obj_at ok1 e2
    rw [ha] at i1; cases i1
    refine ⟨.inl ⟨rfl, vs, SqL.of j1⟩, ?_⟩
    rw [← es1] at h1
    refine tG.seq ok1 (en.ext ex1) (XEnds ex1 h1 fun _ h => h) fun r2 y q2 ex2 ok2 es2 dy h2 => ?_
    cases z2 : lstAt r2.2 r1.1 with
    | none => rw [z2] at h2; exact h2.elim
    | some l =>
      rw [z2] at h2
      simp only at h2
      split at h2
      · rename_i hb
        obtain ⟨n', f1, f2⟩ := lstAt_inv z2
        rw [e1] at f1
        cases f1
        rw [← show q2.os = r2.2 from es2] at f2
        obtain ⟨a', i1, i2, vs2, j1, j2⟩ := obj_at ok2 f2
        have ha2 := ex2.ad _ _ ha
        rw [ha2] at i1; cases i1
        refine ⟨a, vs2, y, rfl, rfl, j1, by rw [j2.length]; exact Nat.lt_of_lt_of_le hb (big_line (Nat.le_refl _)), ?_⟩
        obtain ⟨w1, w2⟩ := lst_write ok2 f2 ha2 (j2.append (DenL.one dy))
        exact h2 .non _ ((ex1.trans ex2).trans w1) w2 (by rw [e1, ← show q2.os = r2.2 from es2]; rfl) rfl
      · exact h2.elim
theorem ss_forW (m : List Nat) {g : D → Nv → Option Nv} {body : List Stmt} {sb : Sv M.w} (hp : PassesOwn (model X.prog X.w) X.A X.env X.xe) (hc : X.calm = true) (hi : PE X iter (tD M.w X.mg W ea)) (hg : PG X tg (tGt M.w g)) (hb : PSs X body (tS M.w X.mg W sb))
    (hs : ∀ x, foldedSetIterable iter X.env x = pure x := by intro _; rfl) : PS X (.For tg iter body [] pos) (tS M.w X.mg W (sForW m ea g sb)) := (ps_for hp hc (pi_any hi) hg hb hs).con fun Dd σ H ⟨en, ρ, p, hH, rl, q⟩ => by
  subst hH
  refine ⟨view m ρ, p.opn ρ σ m, rfl, opn_ok rl, opn_env rl, G.all_mono (fun r hr v q0 e ok es dv => ?_) (fun x hx cls dd q e ok es xk => hx cls dd σ q (frz_rel rl e ok) es xk) (G.all_exs.mp (G.all_bind.mp q))⟩
  cases z : lstAt r.2 r.1 with
  | none => rw [z] at hr; exact hr.elim
  | some l0 =>
    rw [z] at hr
    simp only at hr
    obtain ⟨n, e1, e2⟩ := lstAt_inv z
    rw [e1] at dv
    obtain ⟨a, ha, rfl⟩ := dv
    rw [← show q0.os = r.2 from es] at e2
    obtain ⟨a', i1, i2, vs, j1, j2⟩ := obj_at ok e2
    rw [ha] at i1; cases i1
    refine .inl ⟨a, rfl, ⟨vs, SqL.of j1⟩, ?_⟩
    have rl0 := frz_rel rl e ok
    have rb := reb_rel rl0
    rw [← es] at hr
    refine ⟨fun i n σ' H' => ∃ (fu : Nat) (ρ' : Nv) (q' : Pt M.w), n = fu ∧ q'.H = H' ∧ Rel (reb q0 (frz m ρ) σ) ρ' σ' q' ∧ (loopW g sb r.1 fu i ρ' q'.s).all (SEnd M.w en Dd) (XSEnd M.w X.mg en W), ⟨_, _, frz m ρ, q0, rfl, rfl, rb, hr⟩, ?_⟩
    rintro i n' σ' H' ⟨fu, ρ', q', rfl, rfl, rl', hl⟩
    cases n' with
    | zero => exact hl.elim
    | succ fu =>
      simp only [loopW] at hl
      cases zl : lstAt q'.s r.1 with
      | none => rw [zl] at hl; exact hl.elim
      | some l =>
        rw [zl] at hl
        simp only at hl
        obtain ⟨n2, f1, f2⟩ := lstAt_inv zl
        rw [e1] at f1
        cases f1
        obtain ⟨a2, i1, i2, vs2, k1, k2⟩ := obj_at rl'.ok (show q'.os[n]? = _ from f2)
        have hax : q'.ad (n + 1) = some a := rl'.ext.ad _ _ ha
        rw [hax] at i1; cases i1
        cases zi : l[i]? with
        | none =>
          rw [zi] at hl
          refine .inl ⟨⟨vs2, SqL.of k1, by rw [k2.length]; exact List.getElem?_eq_none_iff.mp zi⟩, ?_⟩
          exact hl σ' q' (reb_back rl0 rl') rfl
        | some x =>
          rw [zi] at hl
          simp only at hl
          obtain ⟨xv, w1, w2⟩ := k2.get zi
          refine .inr ⟨⟨vs2, xv, SqL.of k1, w1⟩, fun σ2 H2 => ∃ (ρ2 : Nv) (q2 : Pt M.w), q2.H = H2 ∧ Rel (reb q0 (frz m ρ) σ) ρ2 σ2 q2 ∧ (loopW g sb r.1 fu (i + 1) ρ2 q2.s).all (SEnd M.w en Dd) (XSEnd M.w X.mg en W), fun σ2 H2 ⟨ρ2, q2, a, b, c⟩ => ⟨fu, Nat.lt_succ_self _, fu, ρ2, q2, rfl, a, b, c⟩, fun y H2 hy => ?_⟩
          obtain ⟨rfl, hy⟩ := hy
          have hxy := hy vs2 (SqL.of k1)
          rw [w1] at hxy
          cases hxy
          cases zg : g x ρ' with
          | none => rw [zg] at hl; exact hl.elim
          | some ρ1 =>
            rw [zg] at hl
            simp only at hl
            refine ⟨_, ρ', q', _, ρ1, rfl, rl', w2, zg, fun σ2 rl2 => ?_⟩
            refine ⟨_, ρ1, q', rfl, rl2, G.all_mono (fun f hf => ?_) (fun x hx => reb_xend rl0 hx) (G.all_bind.mp hl)⟩
            obtain ⟨f, s3⟩ := f
            cases f with
            | nx ρ3 => exact fun σ3 q3 rl3 es3 => ⟨ρ3, q3, rfl, rl3, by rw [es3]; exact hf⟩
            | ct ρ3 => exact fun σ3 q3 rl3 es3 => ⟨ρ3, q3, rfl, rl3, by rw [es3]; exact hf⟩
            | bk ρ3 => exact fun σ3 q3 rl3 es3 => hf σ3 q3 (reb_back rl0 rl3) es3
            | rt r3 => exact fun v q3 e3 ok3 es3 rk3 => hf v q3 (reb_ext rl0 e3) ok3 es3 (reb_rok rl0 rk3)
end
end VQ

namespace VQ
open PySem PySem.Spec PyProof.Rows L2
section
variable {K : PySem.W.Frag}
theorem CtOk.nil : CtOk K [] := fun x C h => by cases h
theorem CtOk.cons {x : Str} {C : Addr} {CT : Ctab} {l : List Str} (hl : ftab.lookup x = some l) (c : Cls K C) (h : ∀ f ∈ l, NoAttr K C f) (r : CtOk K CT) : CtOk K ((x, C) :: CT) := fun y D e => by
  have e' : (match y == x with | true => some C | false => CT.lookup y) = some D := e
  cases z : y == x with
  | true =>
    rw [z] at e'
    cases e'
    have := eq_of_beq z
    subst this
    refine ⟨c, fun f hf => h f ?_⟩
    unfold flOk at hf
    rw [hl] at hf
    exact List.contains_iff_mem.mp hf
  | false =>
    rw [z] at e'
    exact r y D e'
theorem na_nil {C : Addr} : ∀ f ∈ ([] : List Str), NoAttr K C f := fun _ h => by cases h
theorem na_cons {C : Addr} {f : Str} {l : List Str} (h : PySem.W.findIn K (.ref C) f = some none) (r : ∀ g ∈ l, NoAttr K C g) : ∀ g ∈ f :: l, NoAttr K C g := fun g hg => by
  rcases List.mem_cons.mp hg with e | e
  · subst e; exact h
  · exact r g e
variable {P : Program} {w : World} {mg : Str → Option Value} {base : Heap} {N : OM K}
theorem MethOk.of {C f : Addr} {fd : FuncData} {ps : List Str} {k n : Nat} {x m : Str} {fs : List D → N.w.S → Gx N.w R} (hC : N.CT.lookup x = some C) (ha : PySem.W.findIn K (.ref C) m = some (some (.ref f))) (hf : PySem.W.isFn K (.ref f) = true) (hk : PySem.W.keepIn K (.ref f) = true)
    (hb : L2.Binds K fd ps []) (F : FnOk P w K mg base (L2.CX P w) k f fd ps (spV N.w mg n fs)) : MethOk P w K mg base N k x m n fs [] :=
  ⟨⟨C, f, fd, ps, [], [], hC, ⟨ha, hf, hk⟩, F, hb, .nil, fun _ _ => rfl⟩⟩
theorem NewOk.of {C f : Addr} {fd : FuncData} {ps : List Str} {k n : Nat} {x : Str} {fs : List D → N.w.S → Gx N.w R} (hC : N.CT.lookup x = some C) (hm : mg x = some (.ref C)) (h1 : PySem.W.makesIn K C = true) (ha : PySem.W.findIn K (.ref C) "__init__" = some (some (.ref f))) (hf : PySem.W.isFn K (.ref f) = true) (hk : PySem.W.keepIn K (.ref C) = true)
    (hb : L2.Binds K fd ps []) (F : FnOk P w K mg base (L2.CX P w) k f fd ps (spV N.w mg n fs)) : NewOk P w K mg base N k x n fs [] :=
  ⟨⟨C, f, fd, ps, [], [], hC, hm, ⟨h1, ha, hf, hk⟩, F, hb, .nil, fun _ _ => rfl⟩⟩
end
section
variable {K : PySem.W.Frag} {M : OM K}
end
section
variable {X : Cx} {M : OM X.K} {W : WX} {en : Pt M.w} {e : Expr} {pos : Pos} {ea : Ev M.w D}
end
end VQ

namespace VQ
open PySem PySem.Spec PyProof.Rows L2
section
variable {K : PySem.W.Frag} {M : WM K}
def eRev (ea : Ev M D) : Ev M R := fun ρ s => (ea ρ s).bind fun x => match x.1 with
  | .lst l => .ret (.fr (.lst l.reverse), x.2)
  | _ => .bad
theorem DenL.rev {ad : Nat → Option Addr} {Hv : Hp} : ∀ {ds : List D} {vs : List V}, DenL K ad Hv ds vs → DenL K ad Hv ds.reverse vs.reverse
  | [], _, h => by cases h; exact DenL.nil
  | d :: ds, _, ⟨v, r, e, h, t⟩ => by
    subst e
    rw [List.reverse_cons, List.reverse_cons]
    exact (DenL.rev t).append (DenL.one h)
end
section
variable {X : Cx} {M : WM X.K} {W : WX} {a b o e : Expr} {pos apos : Pos} {ea eb : Ev M D}
theorem ev_rev {k : Nat} {p1 p2 p3 : Pos} (ha : PE X a (tD M X.mg W ea)) : PE X (.Subscript a (.Slice none none (some (.UnaryOp .USub (.Constant (.int 1) k p1) p2)) p3) pos) (tR M X.mg W (eRev ea)) := (pe_revL ha).con fun σ H Q ⟨ρ, p, hH, ok, en, q⟩ => by
  subst hH
  show tD M X.mg W ea σ p.H fun x H1 => ∃ a xs, x = .ref a ∧ SqL X.K H1 a xs ∧ ∀ p, H1 p = none → Q (.ref p) (upd H1 p (.lst xs.reverse))
  refine tG.seq ok en q fun r1 v q1 ex1 ok1 es1 dv h1 => ?_
  obtain ⟨d, s1⟩ := r1
  obtain ⟨l, rfl⟩ : ∃ l, d = .lst l := by
    cases d <;> first | exact ⟨_, rfl⟩ | exact h1.elim
  obtain rfl : q1.s = s1 := es1
  obtain ⟨a, vs, rfl, k1, k2⟩ := dv
  refine ⟨a, vs, rfl, SqL.of (ok1.view _ _ k1), fun b hb => ?_⟩
  exact fin_lst ok1 (fun v q2 e2 ok2 es2 rk => h1 v q2 (ex1.trans e2) ok2 es2 (rk.tr ex1 e2)) (DenL.rev k2) hb
end
end VQ

namespace VQ
open PySem PySem.Spec PyProof.Rows L2
section
variable {K : PySem.W.Frag} {M : WM K}
end
end VQ
namespace VQ
open PySem PySem.Spec PyProof.Rows L2
section
variable {X : Cx} {M : WM X.K} {W : WX} {en : Pt M} {fs : List D → M.S → Gx M R}
end
end VQ
namespace VQ
open PySem PySem.Spec PyProof.Rows L2
section
variable {X : Cx} {M : WM X.K} {W : WX} {fs : List D → M.S → Gx M R}
end
end VQ
namespace VQ
open PySem PySem.Spec PyProof.Rows L2
section
variable {X : Cx} {M : WM X.K} {W : WX} {fs : List D → M.S → Gx M R}
end
section
variable {K : PySem.W.Frag} {M : WM K} {pull : List D → M.S → Gx M R}
end
end VQ

namespace VK
open PySem PySem.Spec PyProof.Rows L2 VQ
section
variable {K : PySem.W.Frag} {M : WM K} {s s' : M.S} {ρ : Nv} {P : Fl × M.S → Prop} {E : Xs M → Prop} {α : Type}
theorem ite_andB {ε S : Type} (p q : Bool) (s : S) : (if p = true then (G.ret (q, s) : VQ.G ε (Bool × S)) else .ret (false, s)) = .ret (p && q, s) := by cases p <;> rfl
theorem ite_orB {ε S : Type} (p q : Bool) (s : S) : (if p = true then (G.ret (true, s) : VQ.G ε (Bool × S)) else .ret (q, s)) = .ret (p || q, s) := by cases p <;> rfl
theorem al_ret_eq {ε α : Type} (a : α) (P : α → Prop) (E : ε → Prop) : Al (.ret a : VQ.G ε α) P E = P a := propext ⟨fun h => h.out, fun h => .ret h⟩
theorem al_exc_eq {ε α : Type} (e : ε) (P : α → Prop) (E : ε → Prop) : Al (.exc e : VQ.G ε α) P E = E e := propext ⟨fun h => h.out, fun h => .exc h⟩
theorem al_seq_eq (a b : Sv M) : Al (sSeq a b ρ s) P E = Al (a ρ s) (fun f => Al (sThen b f) P E) E := propext ⟨fun h => ⟨G.all_mono (fun _ h => ⟨h⟩) (fun _ h => h) (G.all_bind.mp h.out)⟩, fun h => .bind h⟩
theorem al_then_nx (b : Sv M) (ρ : Nv) (s : M.S) : sThen b (.nx ρ, s) = b ρ s := rfl
theorem al_then_bk (b : Sv M) (ρ : Nv) (s : M.S) : sThen b (.bk ρ, s) = .ret (.bk ρ, s) := rfl
theorem al_then_ct (b : Sv M) (ρ : Nv) (s : M.S) : sThen b (.ct ρ, s) = .ret (.ct ρ, s) := rfl
theorem al_then_rt (b : Sv M) (r : R) (s : M.S) : sThen b (.rt r, s) = .ret (.rt r, s) := rfl
theorem al_nil_eq : Al (sNil (M := M) ρ s) P E = P (.nx ρ, s) := al_ret_eq _ _ _
theorem al_ite {ε α : Type} {c : Prop} [Decidable c] (a b : VQ.G ε α) (P : α → Prop) (E : ε → Prop) : Al (if c then a else b) P E = if c then Al a P E else Al b P E := by split <;> rfl
def retP (P : R × M.S → Prop) : Fl × M.S → Prop
  | (.nx _, s) => P (.sh .non, s)
  | (.rt r, s) => P (r, s)
  | _ => False
theorem retP_nx (P : R × M.S → Prop) (ρ : Nv) (s : M.S) : retP P (.nx ρ, s) = P (.sh .non, s) := rfl
theorem retP_rt (P : R × M.S → Prop) (r : R) (s : M.S) : retP P (.rt r, s) = P (r, s) := rfl
theorem al_run_eq {n : Nat} {ss : Sv M} {ds : List D} {P : R × M.S → Prop} {E : Exc × M.S → Prop} : Al (runD n ss ds s) P E = Al (ss (startE n ds) s) (retP P) (fun x => E (x.1, x.2.2)) := by
  refine propext ⟨fun h => ⟨?_⟩, fun h => ?_⟩
  · have h1 := G.all_exs.mp (G.all_bind.mp h.out)
    refine G.all_mono (fun f hf => ?_) (fun _ h => h) h1
    obtain ⟨fl, s1⟩ := f
    cases fl <;> exact hf
  · refine .bind (.exs (h.mono (fun f hf => ?_) fun _ h => h))
    obtain ⟨fl, s1⟩ := f
    cases fl with
    | nx _ => exact .ret hf
    | rt r => exact .ret hf
    | bk _ => exact hf.elim
    | ct _ => exact hf.elim
/-- a loop over a typed list, with draws, the items gone through in the invariant -/
theorem for_alp {ei : Ev M (List D)} {g : D → Nv → Option Nv} {body : Sv M} (xs : List α) (inj : α → D) (I : List α → Nv → M.S → Prop) (he : ei (view [] ρ) s = .ret (xs.map inj, s')) (hi : I [] ρ s')
    (h : ∀ pre x post, xs = pre ++ x :: post → ∀ ρ s, I pre ρ s → ∃ ρ1, g (inj x) ρ = some ρ1 ∧ Al (body ρ1 s) (fun f => ∃ ρ2, f.1 = .nx ρ2 ∧ I (pre ++ [x]) ρ2 f.2) E) (hk : ∀ ρ2 s2, I xs ρ2 s2 → P (.nx ρ2, s2)) : Al (sFor [] ei g body ρ s) P E := by
  have aux : ∀ (ys pre : List α), xs = pre ++ ys → ∀ ρ s, I pre ρ s → Al (loopG g body (ys.map inj) ρ s) (fun f => ∃ ρ2, f.1 = .nx ρ2 ∧ I xs ρ2 f.2) E := by
    intro ys
    induction ys with
    | nil => intro pre e ρ s hi; rw [List.append_nil] at e; subst e; exact .ret ⟨ρ, rfl, hi⟩
    | cons y ys ih =>
      intro pre e ρ s hi
      obtain ⟨ρ1, e1, hb⟩ := h pre y ys e ρ s hi
      rw [List.map_cons]
      unfold loopG
      rw [e1]
      refine .bind (hb.mono (fun f hf => ?_) fun _ h => h)
      obtain ⟨fl, s2⟩ := f
      obtain ⟨ρ2, hf, hi2⟩ := hf
      have hf : fl = .nx ρ2 := hf
      subst hf
      exact ih (pre ++ [y]) (by rw [e]; simp) ρ2 s2 hi2
  rw [for_eq he]
  refine (aux xs [] rfl ρ s' hi).mono (fun f hf => ?_) fun _ h => h
  obtain ⟨fl, s2⟩ := f
  obtain ⟨ρ2, hf, hi2⟩ := hf
  have hf : fl = .nx ρ2 := hf
  subst hf
  exact hk ρ2 s2 hi2
end
end VK

namespace VQ
open PySem PySem.Spec PyProof.Rows L2
section
variable {K : PySem.W.Frag} {M : WM K}
def fmtD : D → Option D
  | .str s => if s.length ≤ big then some (.str s) else none
  | .int i => if i.natAbs.log2 < 1920 then some (.str (figD i)) else none
  | _ => none
def eFmt (ea : Ev M D) : Ev M D := fun ρ s => (ea ρ s).bind fun a => op (fmtD a.1) a.2
def eJsG : List (Ev M D) → List Nat → Ev M D
  | [], acc => fun _ s => .ret (.str acc, s)
  | e :: es, acc => fun ρ s => (e ρ s).bind fun r => match r.1 with
    | .str y => if (acc ++ y).length ≤ big then eJsG es (acc ++ y) ρ r.2 else .bad
    | _ => .bad
def eJs (es : List (Ev M D)) : Ev M D := eJsG es []
end
section
variable {X : Cx} {M : WM X.K} {W : WX} {e : Expr} {pos : Pos} {ea : Ev M D}
theorem ev_fmt (he : PE X e (tD M X.mg W ea)) : PE X (.FormattedValue e (-1) none pos) (tD M X.mg W (eFmt ea)) := (pe_fmt he).con fun σ H Q ⟨ρ, p, hH, ok, en, q⟩ => by
  subst hH
  unfold tFmt
  refine tG.seq ok en q fun r1 x q1 ex1 ok1 es1 dx h1 => ?_
  obtain ⟨d, s1⟩ := r1
  cases d with
  | str s =>
    have dx : x = .str ⟨s.toArray⟩ := dx
    by_cases hl : s.length ≤ big
    · simp only [fmtD, if_pos hl, op] at h1
      exact .inl ⟨_, dx, by rw [str_len]; exact big_line hl, h1 _ q1 ex1 ok1 es1 rfl⟩
    · simp only [fmtD, if_neg hl, op] at h1
      exact h1.elim
  | int i =>
    have dx : x = .int i := dx
    by_cases hl : i.natAbs.log2 < 1920
    · simp only [fmtD, if_pos hl, op] at h1
      refine .inr ⟨i, dx, hl, h1 _ q1 ex1 ok1 es1 ?_⟩
      show _ = _
      unfold figD
      rfl
    · simp only [fmtD, if_neg hl, op] at h1
      exact h1.elim
  | _ => simp only [fmtD, op] at h1; exact h1.elim
/-- the parts -/
inductive JsOk (X : Cx) (M : WM X.K) (W : WX) : List Expr → List (Ev M D) → Prop where
  | nil : JsOk X M W [] []
  | cons {e : Expr} {ee : Ev M D} {es : List Expr} {ees : List (Ev M D)} (h : PE X e (tD M X.mg W ee)) (r : JsOk X M W es ees) : JsOk X M W (e :: es) (ee :: ees)
theorem JsOk.pj {es : List Expr} {ees : List (Ev M D)} (h : JsOk X M W es ees) : PJ X es (ees.map fun ee => tD M X.mg W ee) := by
  induction h with
  | nil => exact .nil
  | cons h _ ih => exact .cons h ih
theorem js_of {ees : List (Ev M D)} : ∀ {acc : List Nat} {σ : Sl} {ρ : Dv} {p p0 : Pt M} {Q : V → Hp → Prop}, Ext p0 p → p.Ok → EnvD M p σ ρ → (eJsG ees acc ρ p.s).all (fun r => ∀ v (q : Pt M), Ext p0 q → q.Ok → q.s = r.2 → Den X.K q.ad q.Hv r.1 v → Q v q.H) (XEnd M X.mg p0 W σ) →
    tJs (ees.map fun ee => tD M X.mg W ee) ⟨acc.toArray⟩ σ p.H (fun out H => Q (.str out) H) := by
  induction ees with
  | nil =>
    intro acc σ ρ p p0 Q ex ok en q
    exact q (.str ⟨acc.toArray⟩) p ex ok rfl rfl
  | cons ee ees ih =>
    intro acc σ ρ p p0 Q ex ok en q
    rw [List.map_cons]
    unfold tJs
    have q1 := G.all_bind.mp q
    refine ⟨ρ, p, rfl, ok, en, G.all_mono (fun r hr v q2 e2 ok2 es2 dv => ?_) (fun x hx cls dd q2 e2 ok2 es2 xk => hx cls dd q2 (ex.trans e2) ok2 es2 xk) q1⟩
    obtain ⟨d, s1⟩ := r
    have es2 : q2.s = s1 := es2
    subst es2
    cases d with
    | str y =>
      have dv : v = .str ⟨y.toArray⟩ := dv
      simp only at hr
      by_cases hl : (acc ++ y).length ≤ big
      · rw [if_pos hl] at hr
        refine ⟨_, dv, by rw [str_app, str_len]; exact big_line hl, ?_⟩
        rw [str_app]
        exact ih (ex.trans e2) ok2 (en.ext e2) hr
      · rw [if_neg hl] at hr
        exact hr.elim
    | _ => exact hr.elim
theorem ev_js {v1 v2 : Expr} {rest : List Expr} {e1 e2 : Ev M D} {er : List (Ev M D)} (h : JsOk X M W (v1 :: v2 :: rest) (e1 :: e2 :: er)) : PE X (.JoinedStr (v1 :: v2 :: rest) pos) (tD M X.mg W (eJs (e1 :: e2 :: er))) := (pe_joined h.pj).con fun σ H Q ⟨ρ, p, hH, ok, en, q⟩ => by
  subst hH
  exact js_of (Ext.refl p) ok en q
end
end VQ

namespace VQ
open PySem PySem.Spec PyProof.Rows L2
open PySem.W (findIn isFn InstAt Looks notFirst mroIn)
section
variable {X : Cx} {CX : CXT} {k : Nat} {f C : Addr} {fd : FuncData} {ps : List Str} {sp : Sp} {E : XK}
theorem run_own {A : Around} {pins : List (Addr × Obj)} {σ : L2.St} {H : Hp} {s : Shared} {Q : VK} {us : List Value} {vs : List V} (F : FnOk X.prog X.w X.K X.mg X.base CX k f fd ps sp) (hr : Room k A) (hfr : A.frames = X.A.frames) (hb : Binds X.K fd ps []) (hx : PassesAt CX X σ E)
    (I : L2.Inv X pins σ H s) (r : Vals vs us) (h : sp vs H Q E) : wpAny (model X.prog X.w) A (call (.ref f) us) (EP X pins σ Q) X.xe s := by
  have hl : us.length = ps.length := by rw [← r.length]; exact F.len _ _ _ _ h
  have b := hb s us I.kIn (by rw [List.append_nil]; exact hl)
  rw [List.append_nil] at b
  have e0 : Env0 X.prog X.w X.K X.mg X.base A X.stack s H := by
    have e := I.env0
    exact ⟨by rw [hfr]; exact e.frames, e.mod, e.bs, e.bsz, e.funs, e.frf, e.hok, e.bare⟩
  refine wpAny_call (codeAny_mono (F.run A X.stack s H ⟨us, []⟩ us vs Q E hr e0 b r h) fun r s' hq => ?_)
  cases r with
  | error e => exact hx pins H s e s' I hq
  | ok fl =>
    cases fl with
    | ret u => exact I.after hq
    | next => exact False.elim hq
    | brk => exact False.elim hq
    | cont => exact False.elim hq
end
theorem ne_split : splitId "object.__ne__" = some ("object", "__ne__") := PySem.F.cmpSplit_ne
theorem ne_plain : plainId "object.__ne__" = true := by decide +kernel
section
variable {prog : Program} {w : World} {A : Around} {E : Value → Shared → Prop} {s : Shared} {K : PySem.W.Frag} {x C L f : Addr} {h₀ : Heap} {m : Str → Option Value} {ox : Obj} {od : Option Obj} {b tb : Value}
theorem ifBound_ne {args : List Value} {Q : Option Value → Shared → Prop} (X : K.In s.heap) (I : InstAt s.heap x ox C od) (hs : findIn K (.ref C) "__ne__" = some (some (.builtin "object.__ne__")))
    (h : wpAny (model prog w) A (call (.builtin "object.__ne__") (.ref x :: args)) (fun v => Q (some v)) E s) : wpAny (model prog w) A (callSpecialIfBound? (.ref x) "__ne__" args) Q E s := by
  simp only [callSpecialIfBound?, bindSpecialIfBound?]
  refine wpAny_holding (wpAny_bind (wpAny_bind (wpAny_bind (I.type.here ((PySem.W.looks_findIn X hs).here ?_)))))
  refine wpAny_bind (wpAny_askSetting (wpAny_ite ?_))
  have fin : wpAny (model prog w) A (call (.builtin "object.__ne__") ([.ref x] ++ args) >>= fun v => pure (some v)) Q E s := wpAny_bind (wpAny_mono h (fun v s' h' => wpAny_pure h') fun _ _ h' => h')
  have hb := PySem.F.cmp_object.ne.bind (.ref x)
  split
  · exact wpAny_bind (wpAny_of_eq hb (wpAny_pure (by exact fin)))
  · exact wpAny_tryCatch (wpAny_bind (wpAny_of_eq hb (wpAny_pure (by exact fin))))
theorem ne_core {Q : Value → Shared → Prop} (hu : A.units + 1 < cLine) (F : Fr h₀ L s.heap m) (X₀ : K.In h₀) (I : InstAt s.heap x ox C od) (hb : Looks (model prog w) s.heap (typeOf b) tb) (hn : notFirst K C tb = true)
    (he : findIn K (.ref C) "__eq__" = some (some (.ref f))) (hf : isFn K (.ref f) = true) (hne : findIn K (.ref C) "__ne__" = some (some (.builtin "object.__ne__"))) (ht : mroIn K C (.type "object") = some true)
    (h : wpAny (model prog w) A.in1 (call (.ref f) [.ref x, b]) (fun v s' => ∃ t, v = .bool t ∧ Q (.bool (!t)) s') E s) : wpAny (model prog w) A (richCompare .NotEq (.ref x) b) Q E s := by
  have X := X₀.keeps F.keep
  have one : wpAny (model prog w) A (tryCompare (.ref x) "__ne__" b) (fun r s' => ∃ v, r = some v ∧ Q v s') E s := by
    unfold tryCompare
    refine wpAny_bind (ifBound_ne X I hne ?_)
    have t2 : Looks (model prog w) s.heap (isInstance (.ref x) (.type "object")) true := I.type.andThen (PySem.W.looks_mroIn X ht)
    refine wpAny_call (codeAny_call_builtin ne_plain PySem.F.cmpEntry_ne (@PySem.W.check_slot (model prog w) _ _ _ "object.__ne__" "object" "__ne__" (.ref x) [b] [] _ PySem.F.cmpKind_ne ne_split t2 (PySem.F.cmpArgs_ne _ _) ?_))
    unfold Builtin.«object.__ne__»
    show wpAny (model prog w) A.in1 (cRoomFor "comparison" [.ref x, b] >>= fun _ => _) _ _ s
    refine wpAny_bind (wpAny_cRoomFor hu ?_)
    refine wpAny_bind (m := callSpecialIfBound? (.ref x) (Str.ofString "__eq__") [b]) (PySem.W.ifBound_K X I he hf (wpAny_mono h (fun v s' hv => ?_) fun _ _ e => e))
    obtain ⟨t, rfl, hq⟩ := hv
    refine wpAny_bind (m := truthy (.bool t)) (wpAny_truthy_bool ?_)
    first
      | exact wpAny_pure (wpAny_pure ⟨_, rfl, hq⟩)
      | exact wpAny_pure (wpAny_pure (wpAny_pure ⟨_, rfl, hq⟩))
  unfold richCompare
  simp only [oneThing_ref]
  refine wpAny_holding (wpAny_bind (wpAny_cRoomFor (by omega) ?_))
  refine wpAny_bind (I.type.here (wpAny_bind (hb.here ?_)))
  split
  · rename_i q
    have e : PySem.W.subIn K tb (.ref C) = some false := by
      rcases Bool.or_eq_true_iff.mp hn with e | e
      · rw [beq_iff_eq.mp e] at q; simp at q
      · exact beq_iff_eq.mp e
    refine wpAny_bind ((PySem.W.looks_subIn X e).here ?_)
    simp only [Bool.false_eq_true, if_false]
    refine wpAny_bind (wpAny_mono one (fun r s' z => ?_) fun _ _ e => e)
    obtain ⟨v, rfl, hq⟩ := z
    exact wpAny_pure hq
  · refine wpAny_bind (wpAny_pure ?_)
    simp only [Bool.false_eq_true, if_false]
    refine wpAny_bind (wpAny_mono one (fun r s' z => ?_) fun _ _ e => e)
    obtain ⟨v, rfl, hq⟩ := z
    exact wpAny_pure hq
end
/-- what the text's class x has of ==, !=  -/
structure EqOk (K : PySem.W.Frag) (CT : Ctab) (x : Str) : Prop where
  ok : ∀ C, CT.lookup x = some C → findIn K (.ref C) "__ne__" = some (some (.builtin "object.__ne__")) ∧ mroIn K C (.type "object") = some true ∧ notFirst K C (.type "list") = true ∧ notFirst K C (.type "NoneType") = true ∧
    ∀ y C', CT.lookup y = some C' → notFirst K C (.ref C') = true
def othO (s : Ost) : D → Bool
  | .non => true
  | .lst _ => true
  | d => (clsAt s d).isSome
def eOwn {K : PySem.W.Frag} {M : OM K} (neg : Bool) (x : Str) (fs : List D → M.w.S → Gx M.w R) (ea eb : Ev M.w D) : Ev M.w D := fun ρ s => (ea ρ s).bind fun a => (eb ρ a.2).bind fun b =>
  if (clsAt (b.2 : Ost) a.1 == some x && othO b.2 b.1) = true then ((fs [a.1, b.1] b.2).noX : Gx M.w R).bind fun r => match r.1 with
    | .sh (.bl t) => .ret (.bl (if neg = true then !t else t), r.2)
    | _ => .bad
  else .bad
section
variable {X : Cx} {M : OM X.K} {W : WX} {e a b : Expr} {pos : Pos} {ea eb : Ev M.w D} {k j : Nat} {x : Str} {fs : List D → M.w.S → Gx M.w R} {f C : Addr} {fd : FuncData} {ps : List Str}
def rOwnX (K : PySem.W.Frag) (C : Addr) (neg : Bool) (sp : Sp) : R2 := fun x y H Q => (∃ a dx fv, x = .ref a ∧ H a = some (.ins C dx fv)) ∧ (y = .non ∨ (∃ b xs, y = .ref b ∧ SqL K H b xs) ∨ ∃ b C' dx fv, y = .ref b ∧ H b = some (.ins C' dx fv) ∧ notFirst K C (.ref C') = true) ∧
  sp [x, y] H (fun z H' => ∃ t, z = .bl t ∧ Q (.bl (if neg = true then !t else t)) H') (fun _ _ _ => False)
theorem op_ownX (neg : Bool) {sp : Sp} (hm : Meth X.K C "__eq__" f) (F : FnOk X.prog X.w X.K X.mg X.base (L2.CX X.prog X.w) k f fd ps sp) (hb : L2.Binds X.K fd ps []) (hr : Room (k + 1) X.A)
    (hne : findIn X.K (.ref C) "__ne__" = some (some (.builtin "object.__ne__"))) (hto : mroIn X.K C (.type "object") = some true) (hnl : notFirst X.K C (.type "list") = true) (hnn : notFirst X.K C (.type "NoneType") = true) :
    OpR X (compareOp (if neg = true then .NotEq else .Eq)) (rOwnX X.K C neg sp) := by
  intro pins s σ H x y v u Q I rx ry h
  obtain ⟨⟨a, dx, fv, rfl, ha⟩, hy, hsp⟩ := h
  cases rx
  obtain ⟨mA, J, _⟩ := ins_get I.hok ha
  obtain ⟨od, J, _⟩ := J.look
  obtain ⟨m, hF⟩ := I.fr
  obtain ⟨tb, hl, hn⟩ : ∃ tb, Looks (model X.prog X.w) s.heap (typeOf u) tb ∧ notFirst X.K C tb = true := by
    rcases hy with rfl | ⟨b, xs, rfl, hq⟩ | ⟨b, C', dy, fw, rfl, hb', hn⟩
    · cases ry
      exact ⟨.type "NoneType", PySem.W.Looks.of_pure rfl, hnn⟩
    · cases ry
      obtain ⟨its, rv, ⟨o, n, ho, hc, _⟩, hz⟩ := I.list hq
      exact ⟨.type "list", hc ▸ (PySem.W.Looks.ld ho).andThen .now, hnl⟩
    · cases ry
      obtain ⟨mB, J', _⟩ := ins_get I.hok hb'
      obtain ⟨od', J', _⟩ := J'.look
      exact ⟨.ref C', J'.type, hn⟩
  have hun := hr.un
  cases neg with
  | false =>
    show wpAny (model X.prog X.w) X.A (richCompare .Eq (.ref a) u) (EP X pins σ Q) X.xe s
    refine PySem.W.cmp_K (op := .Eq) (tb := tb) (by omega) hF I.ok.mod.kin J hl hn hm.at_ hm.fn ?_
    refine wpAny_mono (run_own F (hr.mono (Nat.le_succ _)) rfl hb (passAt L2.takes0 σ) (vs := [V.ref a, y]) I (.cons (show RelV (V.ref a) (Value.ref a) from rfl) (.cons ry .nil)) hsp) (fun r s' z => ?_) fun _ _ x => x
    obtain ⟨w, H', I', rz, t, rfl, hQ⟩ := z
    cases rz
    exact ⟨.bl t, H', I', rfl, hQ⟩
  | true =>
    show wpAny (model X.prog X.w) X.A (richCompare .NotEq (.ref a) u) (EP X pins σ Q) X.xe s
    refine ne_core (tb := tb) (by omega) hF I.ok.mod.kin J hl hn hm.at_ hm.fn hne hto ?_
    refine wpAny_mono (run_own F hr.in1 rfl hb (passAt L2.takes0 σ) (vs := [V.ref a, y]) I (.cons (show RelV (V.ref a) (Value.ref a) from rfl) (.cons ry .nil)) hsp) (fun r s' z => ?_) fun _ _ x => x
    obtain ⟨w, H', I', rz, t, rfl, hQ⟩ := z
    cases rz
    exact ⟨t, rfl, .bl (!t), H', I', rfl, hQ⟩
theorem own_to (neg : Bool) (q0 : EqOk X.K M.CT x) (hC : M.CT.lookup x = some C) {σ : Sl} {H : Hp} {Q : VK} (h : tD M.w X.mg W (eOwn neg x fs ea eb) σ H Q) :
    tOp (rOwnX X.K C neg (spV M.w X.mg 2 fs)) (tD M.w X.mg W ea) (tD M.w X.mg W eb) σ H Q := by
  obtain ⟨ρ, p, hH, ok, en, q⟩ := h
  subst hH
  show tD M.w X.mg W ea σ p.H fun v H1 => tD M.w X.mg W eb σ H1 fun u H2 => rOwnX X.K C neg (spV M.w X.mg 2 fs) v u H2 Q
  refine tG.seq ok en q fun r1 v q1 ex1 ok1 es1 dv h1 => ?_
  rw [← es1] at h1
  refine tG.seq ok1 (en.ext ex1) (XEnds ex1 h1 fun _ h => h) fun r2 u q2 ex2 ok2 es2 du h2 => ?_
  by_cases hc : (clsAt (r2.2 : Ost) r1.1 == some x && othO r2.2 r2.1) = true
  · rw [if_pos hc] at h2
    rw [Bool.and_eq_true] at hc
    obtain ⟨nn, fs0, e1, e2⟩ := clsAt_inv (eq_of_beq hc.1)
    have dv2 := ex2.den dv
    have dv0 := dv2
    rw [e1] at dv2
    obtain ⟨a, ha, rfl⟩ := dv2
    rw [← show q2.os = r2.2 from es2] at e2
    obtain ⟨a', i1, i2, C', dd, fv, j1, j2, j3⟩ := obj_at ok2 e2
    rw [ha] at i1; cases i1
    rw [hC] at j1; cases j1
    refine ⟨⟨a, dd, fv, rfl, j2⟩, ?_, ?_⟩
    · obtain ⟨d2, s2⟩ := r2
      have ho := hc.2
      have obj : ∀ y, clsAt (s2 : Ost) d2 = some y → ∃ b C' dx fv, u = .ref b ∧ q2.H b = some (.ins C' dx fv) ∧ notFirst X.K C (.ref C') = true := fun y hy => by
        obtain ⟨n2, fs2, g1, g2⟩ := clsAt_inv hy
        have g1 : d2 = _ := g1
        subst g1
        obtain ⟨b, hb, rfl⟩ := du
        rw [← show q2.os = s2 from es2] at g2
        obtain ⟨b', l1, l2, C2, dd2, fv2, m1, m2, m3⟩ := obj_at ok2 g2
        rw [hb] at l1; cases l1
        exact ⟨b, C2, dd2, fv2, rfl, m2, (q0.ok C hC).2.2.2.2 _ _ m1⟩
      cases d2 with
      | non => exact .inl du
      | lst l =>
        obtain ⟨b, vs, rfl, g, _⟩ := du
        exact .inr (.inl ⟨b, vs, rfl, SqL.of (ok2.view _ _ g)⟩)
      | obj n =>
        cases hy : clsAt (s2 : Ost) (.obj n) with
        | none =>
          have ho : (clsAt (s2 : Ost) (.obj n)).isSome = true := ho
          rw [hy] at ho; cases ho
        | some y => exact .inr (.inr (obj y hy))
      | _ => cases ho
    · rw [← es2] at h2
      refine ⟨[r1.1, r2.1], q2, rfl, rfl, ok2, DenL.cons dv0 (DenL.one du), G.all_mono (fun r hr v3 q3 e3 ok3 es3 rk => ?_) (fun x hx => hx) (G.all_noX (E' := fun _ => ∀ (cls : Value) (dd : Option Addr) (q : Pt M.w), Ext q2 q → q.Ok → q.s = _ → XOk X.mg q _ cls dd → False) (G.all_bind.mp h2))⟩
      obtain ⟨r, s3⟩ := r
      cases r with
      | fr d => exact hr.elim
      | sh d =>
        cases d with
        | bl t =>
          have e : v3 = .bl t := rk
          subst e
          exact ⟨t, rfl, hr _ q3 ((ex1.trans ex2).trans e3) ok3 es3 rfl⟩
        | _ => exact hr.elim
  · rw [if_neg hc] at h2; exact h2.elim
theorem ev_ownEq (co : CtOk X.K M.CT) (c : MethOk X.prog X.w X.K X.mg X.base M k x "__eq__" 2 fs []) (q0 : EqOk X.K M.CT x) (hr : Room j X.A) (ha : PE X a (tD M.w X.mg W ea)) (hb : PE X b (tD M.w X.mg W eb)) (hkj : k + 1 ≤ j := by decide) (hm : behindInMarks .Eq b = false := by rfl) :
    PE X (.Compare a [.Eq] [b] pos) (tD M.w X.mg W (eOwn false x fs ea eb)) := by
  obtain ⟨C, f, fd, ps, ds, dvs, hC, hM, F, hbi, hd, hdd⟩ := c.ex
  obtain ⟨h1, h2, h3, h4, h5⟩ := q0.ok C hC
  have e1 : dvs = [] := hdd (fun _ => none) (fun _ => none)
  subst e1
  cases hd
  exact (pe_cmpR (op_ownX false hM F hbi (hr.mono hkj) h1 h2 h3 h4) ha hb hm).con fun σ H Q h => own_to false q0 hC h
theorem ev_ownNe (co : CtOk X.K M.CT) (c : MethOk X.prog X.w X.K X.mg X.base M k x "__eq__" 2 fs []) (q0 : EqOk X.K M.CT x) (hr : Room j X.A) (ha : PE X a (tD M.w X.mg W ea)) (hb : PE X b (tD M.w X.mg W eb)) (hkj : k + 1 ≤ j := by decide) (hm : behindInMarks .NotEq b = false := by rfl) :
    PE X (.Compare a [.NotEq] [b] pos) (tD M.w X.mg W (eOwn true x fs ea eb)) := by
  obtain ⟨C, f, fd, ps, ds, dvs, hC, hM, F, hbi, hd, hdd⟩ := c.ex
  obtain ⟨h1, h2, h3, h4, h5⟩ := q0.ok C hC
  have e1 : dvs = [] := hdd (fun _ => none) (fun _ => none)
  subst e1
  cases hd
  exact (pe_cmpR (op_ownX true hM F hbi (hr.mono hkj) h1 h2 h3 h4) ha hb hm).con fun σ H Q h => own_to true q0 hC h
end
/-- what a method that only tells gives -/
def eTell {K : PySem.W.Frag} {M : OM K} (x : Str) (g : D → Bool) (fs : List D → M.w.S → Gx M.w R) (ea : Ev M.w D) : Ev M.w D := fun ρ s => (ea ρ s).bind fun a =>
  if (clsAt (a.2 : Ost) a.1 == some x) = true then ((fs [a.1] a.2).noX : Gx M.w R).bind fun r => match r.1 with
    | .sh d => if g d = true then .ret (d, r.2) else .bad
    | _ => .bad
  else .bad
section
variable {X : Cx} {M : OM X.K} {W : WX} {e a b : Expr} {pos pp : Pos} {ea eb : Ev M.w D} {k j : Nat} {x : Str} {fs : List D → M.w.S → Gx M.w R} {f C : Addr} {fd : FuncData} {ps : List Str} {sp : Sp}
def lenB (n : Int) : Bool := decide (0 ≤ n) && decide (n < 9223372036854775808)
def rLenX (C : Addr) (sp : Sp) : List V → Hp → VK → Prop := fun xs H Q => ∃ a dx fv, xs = [.ref a] ∧ H a = some (.ins C dx fv) ∧ sp [.ref a] H (fun z H' => ∃ n, z = .int n ∧ lenB n = true ∧ Q (.int n) H') (fun _ _ _ => False)
theorem cr_lenX (hm : Meth X.K C "__len__" f) (F : FnOk X.prog X.w X.K X.mg X.base (L2.CX X.prog X.w) k f fd ps sp) (hb : L2.Binds X.K fd ps []) (hr : Room (k + 1) X.A) : CallR X (.builtin "len") (rLenX C sp) := by
  intro pins s σ H xs us Q I rs h
  obtain ⟨a, dx, fv, rfl, ha, hsp⟩ := h
  rw [Vals.ref1 rs]
  obtain ⟨mA, J, _⟩ := ins_get I.hok ha
  obtain ⟨od, J, _⟩ := J.look
  obtain ⟨m, hF⟩ := I.fr
  refine PySem.W.len_K hF I.ok.mod.kin J hm.at_ hm.fn ?_
  refine wpAny_mono (run_own F hr.in1 rfl hb (passAt L2.takes0 σ) (vs := [V.ref a]) I (.cons (show RelV (V.ref a) (Value.ref a) from rfl) .nil) hsp) (fun r s' z => ?_) fun _ _ x => x
  obtain ⟨w, H', I', rz, n, rfl, hn, hQ⟩ := z
  obtain ⟨t, rfl⟩ := rz
  unfold lenB at hn
  rw [Bool.and_eq_true, decide_eq_true_eq, decide_eq_true_eq] at hn
  exact ⟨⟨hn.1, by have := hn.2; omega⟩, .int n, H', I'.tok _, ⟨_, rfl⟩, hQ⟩
def rRepX (C : Addr) (sp : Sp) : List V → Hp → VK → Prop := fun xs H Q => ∃ a dx fv, xs = [.ref a] ∧ H a = some (.ins C dx fv) ∧ sp [.ref a] H (fun z H' => ∃ t, z = .str t ∧ Q (.str t) H') (fun _ _ _ => False)
theorem cr_repX (hm : Meth X.K C "__repr__" f) (F : FnOk X.prog X.w X.K X.mg X.base (L2.CX X.prog X.w) k f fd ps sp) (hb : L2.Binds X.K fd ps []) (hr : Room (k + 1) X.A) : CallR X (.builtin "repr") (rRepX C sp) := by
  intro pins s σ H xs us Q I rs h
  obtain ⟨a, dx, fv, rfl, ha, hsp⟩ := h
  rw [Vals.ref1 rs]
  obtain ⟨mA, J, _⟩ := ins_get I.hok ha
  obtain ⟨od, J, _⟩ := J.look
  obtain ⟨m, hF⟩ := I.fr
  have hun := hr.in1.un
  refine PySem.W.repr_K (by omega) hF I.ok.mod.kin J hm.at_ hm.fn ?_
  refine wpAny_mono (run_own F hr.in1 rfl hb (passAt L2.takes0 σ) (vs := [V.ref a]) I (.cons (show RelV (V.ref a) (Value.ref a) from rfl) .nil) hsp) (fun r s' z => ?_) fun _ _ x => x
  obtain ⟨w, H', I', rz, t, rfl, hQ⟩ := z
  obtain ⟨u, rfl⟩ := rz
  exact ⟨.str t, H', I', ⟨_, rfl⟩, hQ⟩
def lenG : D → Bool
  | .int n => lenB n
  | _ => false
def strG : D → Bool
  | .str _ => true
  | _ => false
theorem tell_to {g : D → Bool} {P : V → (VK) → Hp → Prop} (hC : M.CT.lookup x = some C) {σ : Sl} {H : Hp} {Q : VK} (h : tD M.w X.mg W (eTell x g fs ea) σ H Q)
    (hP : ∀ d v (q : Pt M.w) (Q : VK), g d = true → Den X.K q.ad q.Hv d v → Q v q.H → P v Q q.H) :
    tD M.w X.mg W ea σ H fun v H1 => ∃ a dx fv, [v] = [.ref a] ∧ H1 a = some (.ins C dx fv) ∧ spV M.w X.mg 1 fs [.ref a] H1 (fun z H' => P z Q H') (fun _ _ _ => False) := by
  obtain ⟨ρ, p, hH, ok, en, q⟩ := h
  subst hH
  refine tG.seq ok en q fun r1 v q1 ex1 ok1 es1 dv h1 => ?_
  by_cases hc : (clsAt (r1.2 : Ost) r1.1 == some x) = true
  · rw [if_pos hc] at h1
    obtain ⟨nn, fs0, e1, e2⟩ := clsAt_inv (eq_of_beq hc)
    have dv0 := dv
    rw [e1] at dv
    obtain ⟨a, ha, rfl⟩ := dv
    rw [← show q1.os = r1.2 from es1] at e2
    obtain ⟨a', i1, i2, C', dd, fv, j1, j2, j3⟩ := obj_at ok1 e2
    rw [ha] at i1; cases i1
    rw [hC] at j1; cases j1
    rw [← es1] at h1
    refine ⟨a, dd, fv, rfl, j2, [r1.1], q1, rfl, rfl, ok1, DenL.one dv0, G.all_mono (fun r hr v3 q3 e3 ok3 es3 rk => ?_) (fun x hx => hx) (G.all_noX (E' := fun _ => ∀ (cls : Value) (dd : Option Addr) (q : Pt M.w), Ext q1 q → q.Ok → q.s = _ → XOk X.mg q _ cls dd → False) (G.all_bind.mp h1))⟩
    obtain ⟨r, s3⟩ := r
    cases r with
    | fr d => exact hr.elim
    | sh d =>
      have hr : (if g d = true then _ else _ : Gx M.w D).all _ _ := hr
      split at hr
      · rename_i hg
        exact hP d v3 q3 Q hg rk (hr _ q3 (ex1.trans e3) ok3 es3 rk)
      · exact hr.elim
  · rw [if_neg hc] at h1; exact h1.elim
theorem ev_lenO (c : MethOk X.prog X.w X.K X.mg X.base M k x "__len__" 1 fs []) (hr : Room j X.A) (ha : PE X e (tD M.w X.mg W ea)) (hm : X.mg "len" = none) (hkj : k + 1 ≤ j := by decide) (hg : Gl X "len" := by rfl)
    (he : starEach [e] X.env = (false, eval e X.env) :: starEach [] X.env := by rfl) (hpl : (backTo pos (starEach [] X.env)).any (·.1) = false := by rfl) : PE X (.Call (.Name "len" pp) [e] [] pos) (tD M.w X.mg W (eTell x lenG fs ea)) := by
  obtain ⟨C, f, fd, ps, ds, dvs, hC, hM, F, hbi, hd, hdd⟩ := c.ex
  have e1 : dvs = [] := hdd (fun _ => none) (fun _ => none)
  subst e1
  cases hd
  refine (pe_callB (cr_lenX hM F hbi (hr.mono hkj)) hg hm (by rfl) (pa_cons ha pa_nil he) (by decide) (by decide) he hpl).con fun σ H Q h => ?_
  have := tell_to (P := fun z Q H' => ∃ n, z = .int n ∧ lenB n = true ∧ Q (.int n) H') hC h fun d v q Q hg dn hq => by
    cases d <;> first | (cases hg; done) | skip
    cases dn
    exact ⟨_, rfl, hg, hq⟩
  exact this
theorem ev_repO (c : MethOk X.prog X.w X.K X.mg X.base M k x "__repr__" 1 fs []) (hr : Room j X.A) (ha : PE X e (tD M.w X.mg W ea)) (hm : X.mg "repr" = none) (hkj : k + 1 ≤ j := by decide) (hg : Gl X "repr" := by rfl)
    (he : starEach [e] X.env = (false, eval e X.env) :: starEach [] X.env := by rfl) (hpl : (backTo pos (starEach [] X.env)).any (·.1) = false := by rfl) : PE X (.Call (.Name "repr" pp) [e] [] pos) (tD M.w X.mg W (eTell x strG fs ea)) := by
  obtain ⟨C, f, fd, ps, ds, dvs, hC, hM, F, hbi, hd, hdd⟩ := c.ex
  have e1 : dvs = [] := hdd (fun _ => none) (fun _ => none)
  subst e1
  cases hd
  refine (pe_callB (cr_repX hM F hbi (hr.mono hkj)) hg hm (by rfl) (pa_cons ha pa_nil he) (by decide) (by decide) he hpl).con fun σ H Q h => ?_
  have := tell_to (P := fun z Q H' => ∃ t, z = .str t ∧ Q (.str t) H') hC h fun d v q Q hg dn hq => by
    cases d <;> first | (cases hg; done) | skip
    cases dn
    exact ⟨_, rfl, hq⟩
  exact this
end
end VQ

namespace VQ
open PySem PySem.Spec PyProof.Rows L2
open PySem.W (findIn mroIn kitOne)
structure IsOk (K : PySem.W.Frag) (mg : Str → Option Value) (CT : Ctab) (x : Str) : Prop where
  hn : PySem.W.specialIn K (.builtin "object.__class__") "__get__" = some (some (.builtin "getset_descriptor.__get__"))
  htk : PySem.W.takesIn K (.builtin "object.__class__") = some true
  ex : ∃ C, CT.lookup x = some C
  ok : ∀ C, CT.lookup x = some C → mg x = some (.ref C) ∧ kitOne K (.type "list") (.ref C) = some false ∧ kitOne K (.type "NoneType") (.ref C) = some false ∧
    ∀ y C', CT.lookup y = some C' → kitOne K (.ref C') (.ref C) = some (y == x) ∧ findIn K (.ref C') "__class__" = some (some (.builtin "object.__class__")) ∧ mroIn K C' (.type "object") = some true
def isOD (x : Str) (s : Ost) : D → Option Bool
  | .non => some false
  | .lst _ => some false
  | d => (clsAt s d).map fun y => y == x
def eIsO {K : PySem.W.Frag} {M : OM K} (x : Str) (ea : Ev M.w D) : Ev M.w D := fun ρ s => (ea ρ s).bind fun a => match isOD x (a.2 : Ost) a.1 with
  | some b => .ret (.bl b, a.2)
  | none => .bad
section
variable {X : Cx} {M : OM X.K} {W : WX} {e : Expr} {pos pp p2 : Pos} {ea : Ev M.w D} {x : Str} {C : Addr}
theorem ev_isO (co : CtOk X.K M.CT) (q0 : IsOk X.K X.mg M.CT x) (ha : PE X e (tD M.w X.mg W ea)) (hm : X.mg "isinstance" = none) (hg : Gl X "isinstance" := by rfl) (hgx : Gl X x := by rfl) (hdx : (x == ("__debug__" : Str)) = false := by decide)
    (he : starEach [e, .Name x p2] X.env = (false, eval e X.env) :: starEach [.Name x p2] X.env := by rfl) (he2 : starEach [.Name x p2] X.env = (false, eval (.Name x p2) X.env) :: starEach [] X.env := by rfl)
    (hpl : (backTo pos (starEach [.Name x p2] X.env)).any (·.1) = false := by rfl) :
    PE X (.Call (.Name "isinstance" pp) [e, .Name x p2] [] pos) (tD M.w X.mg W (eIsO x ea)) := by
  obtain ⟨C, hC⟩ := q0.ex
  obtain ⟨h1, h2, h3, h4⟩ := q0.ok C hC
  refine (pe_callB call_isi hg hm (by rfl) (pa_cons ha (pa_cons (pe_glob hgx h1 (show RelV (V.ref C) (Value.ref C) from rfl) hdx) pa_nil he2) he) (by decide) (by decide) he hpl).con fun σ H Q ⟨ρ, p, hH, ok, en, q⟩ => ?_
  subst hH
  show tD M.w X.mg W ea σ p.H fun v H1 => rIsi X.K [v, .ref C] H1 Q
  refine tG.seq ok en q fun r1 v q1 ex1 ok1 es1 dv h => ?_
  obtain ⟨d, s1⟩ := r1
  cases z : isOD x (s1 : Ost) d with
  | none => simp only [z] at h; exact h.elim
  | some b =>
    simp only [z] at h
    have key : ∀ t, TyX X.K q1.H v t → kitOne X.K t (.ref C) = some b → rIsi X.K [v, .ref C] q1.H Q := fun t ht hk => ⟨v, .ref C, t, .ref C, b, rfl, .own C, ht, hk, h _ q1 ex1 ok1 es1 rfl⟩
    have obj : ∀ y, clsAt (s1 : Ost) d = some y → (y == x) = b → rIsi X.K [v, .ref C] q1.H Q := fun y hy hb => by
      obtain ⟨nn, fs0, e1, e2⟩ := clsAt_inv hy
      have e1 : d = _ := e1
      subst e1
      obtain ⟨a, ha, rfl⟩ := dv
      rw [← show q1.os = s1 from es1] at e2
      obtain ⟨a', i1, i2, C', dd, fv, j1, j2, j3⟩ := obj_at ok1 e2
      rw [ha] at i1; cases i1
      obtain ⟨k1, k2, k3⟩ := h4 _ _ j1
      exact key (.ref C') (.base (.ins j2 (co _ _ j1).1 k2 q0.hn q0.htk k3)) (by rw [k1, hb])
    cases d with
    | non =>
      cases z
      cases dv
      exact key _ (.base .non) h3
    | lst l =>
      cases z
      obtain ⟨a, vs, rfl, g, _⟩ := dv
      exact key _ (.base (.lst (ok1.view _ _ g))) h2
    | obj n =>
      have z : (clsAt (s1 : Ost) (.obj n)).map (fun y => y == x) = some b := z
      cases hy : clsAt (s1 : Ost) (.obj n) with
      | none => rw [hy] at z; cases z
      | some y => rw [hy] at z; exact obj y hy (Option.some.inj z)
    | _ => cases z
end
def eOwnT {K : PySem.W.Frag} {M : OM K} (neg : Bool) (x : Str) (fs : List D → M.w.S → Gx M.w R) (ea eb : Ev M.w D) : Ev M.w Bool := fun ρ s => (eOwn neg x fs ea eb ρ s).bind fun r => match r.1 with
  | .bl t => .ret (t, r.2)
  | _ => .bad
section
variable {X : Cx} {M : OM X.K} {W : WX} {a b : Expr} {pos : Pos} {ea eb : Ev M.w D} {k j : Nat} {x : Str} {fs : List D → M.w.S → Gx M.w R} {C : Addr}
theorem ownT_to (neg : Bool) (q0 : EqOk X.K M.CT x) (hC : M.CT.lookup x = some C) {σ : Sl} {H : Hp} {Q : Bool → Hp → Prop} (h : tB' M.w X.mg W (eOwnT neg x fs ea eb) σ H Q) :
    tTest (tOp (rOwnX X.K C neg (spV M.w X.mg 2 fs)) (tD M.w X.mg W ea) (tD M.w X.mg W eb)) σ H Q := by
  obtain ⟨ρ, p, hH, ok, en, q⟩ := h
  refine own_to neg q0 hC ⟨ρ, p, hH, ok, en, G.all_mono (fun r hr v q1 e1 ok1 es1 dv => ?_) (fun _ h => h) (G.all_bind.mp q)⟩
  obtain ⟨d, s1⟩ := r
  cases d with
  | bl t =>
    cases dv
    exact ⟨t, rfl, hr q1 e1 ok1 es1⟩
  | _ => exact hr.elim
theorem tt_ownEq (co : CtOk X.K M.CT) (c : MethOk X.prog X.w X.K X.mg X.base M k x "__eq__" 2 fs []) (q0 : EqOk X.K M.CT x) (hr : Room j X.A) (ha : PE X a (tD M.w X.mg W ea)) (hb : PE X b (tD M.w X.mg W eb)) (hkj : k + 1 ≤ j := by decide) (hm : behindInMarks .Eq b = false := by rfl) :
    PT X (.Compare a [.Eq] [b] pos) (tB' M.w X.mg W (eOwnT false x fs ea eb)) := by
  obtain ⟨C, f, fd, ps, ds, dvs, hC, hM, F, hbi, hd, hdd⟩ := c.ex
  obtain ⟨h1, h2, h3, h4, h5⟩ := q0.ok C hC
  have e1 : dvs = [] := hdd (fun _ => none) (fun _ => none)
  subst e1
  cases hd
  exact (pt_cmpR (op_ownX false hM F hbi (hr.mono hkj) h1 h2 h3 h4) ha hb hm).con fun σ H Q h => ownT_to false q0 hC h
theorem tt_ownNe (co : CtOk X.K M.CT) (c : MethOk X.prog X.w X.K X.mg X.base M k x "__eq__" 2 fs []) (q0 : EqOk X.K M.CT x) (hr : Room j X.A) (ha : PE X a (tD M.w X.mg W ea)) (hb : PE X b (tD M.w X.mg W eb)) (hkj : k + 1 ≤ j := by decide) (hm : behindInMarks .NotEq b = false := by rfl) :
    PT X (.Compare a [.NotEq] [b] pos) (tB' M.w X.mg W (eOwnT true x fs ea eb)) := by
  obtain ⟨C, f, fd, ps, ds, dvs, hC, hM, F, hbi, hd, hdd⟩ := c.ex
  obtain ⟨h1, h2, h3, h4, h5⟩ := q0.ok C hC
  have e1 : dvs = [] := hdd (fun _ => none) (fun _ => none)
  subst e1
  cases hd
  exact (pt_cmpR (op_ownX true hM F hbi (hr.mono hkj) h1 h2 h3 h4) ha hb hm).con fun σ H Q h => ownT_to true q0 hC h
end
section
variable {K : PySem.W.Frag} {mg : Str → Option Value} {x : Str} {C : Addr}
theorem ct_one {C' : Addr} {y : Str} (h : ([(x, C)] : Ctab).lookup y = some C') : y = x ∧ C' = C := by
  have h : (match y == x with | true => some C | false => none) = some C' := h
  cases z : y == x with
  | true => rw [z] at h; exact ⟨eq_of_beq z, (Option.some.inj h).symm⟩
  | false => rw [z] at h; cases h
theorem EqOk.one (h1 : findIn K (.ref C) "__ne__" = some (some (.builtin "object.__ne__"))) (h2 : mroIn K C (.type "object") = some true) (h3 : PySem.W.notFirst K C (.type "list") = true) (h4 : PySem.W.notFirst K C (.type "NoneType") = true) : EqOk K [(x, C)] x :=
  ⟨fun C' h => by
    obtain ⟨_, rfl⟩ := ct_one h
    refine ⟨h1, h2, h3, h4, fun y C2 h => ?_⟩
    obtain ⟨_, rfl⟩ := ct_one h
    simp [PySem.W.notFirst]⟩
theorem IsOk.one (hn : PySem.W.specialIn K (.builtin "object.__class__") "__get__" = some (some (.builtin "getset_descriptor.__get__"))) (htk : PySem.W.takesIn K (.builtin "object.__class__") = some true) (h1 : mg x = some (.ref C)) (h2 : kitOne K (.type "list") (.ref C) = some false)
    (h3 : kitOne K (.type "NoneType") (.ref C) = some false) (h4 : findIn K (.ref C) "__class__" = some (some (.builtin "object.__class__"))) (h5 : mroIn K C (.type "object") = some true) : IsOk K mg [(x, C)] x :=
  ⟨hn, htk, ⟨C, by
    show (match x == x with | true => some C | false => none) = some C
    rw [beq_self_eq_true]⟩, fun C' h => by
    obtain ⟨_, rfl⟩ := ct_one h
    refine ⟨h1, h2, h3, fun y C2 h => ?_⟩
    obtain ⟨rfl, rfl⟩ := ct_one h
    refine ⟨?_, h4, h5⟩
    unfold kitOne
    rw [if_pos (beq_self_eq_true _), beq_self_eq_true]⟩
end
end VQ

local macro_rules | `(tactic| walk_at "U") => `(tactic| simp -implicitDefEqProofs only [VQ.runD, VQ.startE, VQ.sSeq, VQ.sThen, VQ.sSet, VQ.sRet, VQ.sRetN, VQ.sRetO, VQ.sDrop, VQ.sIf, VQ.sNil, VQ.sBreak, VQ.sCont, VQ.sPar, VQ.sTgt, VQ.sAug, VQ.sAppend, VQ.sRaise, VQ.inF, VQ.eVar, VQ.eC, VQ.eSeen, VQ.eSh, VQ.eBin, VQ.eBinD, VQ.eUn, VQ.eTest, VQ.eNot, VQ.eAnd, VQ.eOr, VQ.eIf, VQ.eAndV, VQ.eOrV, VQ.eBl, VQ.eNil, VQ.eCons, VQ.eTup, VQ.eLst, VQ.eFun, VQ.eCall, VQ.eNoPt, VQ.ePt, VQ.intOf, VQ.eSl, VQ.eChain, VQ.eCmpT, VQ.eM1, VQ.eFst, VQ.eTried, VQ.startsD, VK.catch_ret, VK.catch_exc, VQ.eYes, VQ.eI1, VQ.eI2, VQ.eI3, VQ.eItems, VQ.view, VQ.viewG, VK.v1_sh, VK.v1_no, VK.v1_ow, VK.v1_on, VQ.frz, VQ.frzG, VK.f1_sh, VK.f1_no, VK.f1_on, VQ.behind, VQ.op, VQ.R.d, VQ.R.vv, VQ.G.bind_ret, VQ.G.bind_exc, VQ.G.exs_ret, VQ.G.exs_exc, VQ.G.bind_draw, VQ.G.exs_draw, VQ.G.noX_ret, VQ.G.exs_exs, VQ.G.exs_bind, VQ.G.bind_assoc, VQ.G.noX_bind, VQ.G.noX_draw, VQ.G.exs_bad, VQ.gtName, VQ.gdName, VQ.gtTup, VQ.gtCons, VQ.gtNil, VQ.gdTup, VQ.gdCons, VQ.gdNil, VQ.wipeD, List.foldl, List.map, List.length, List.replicate, List.cons_append, List.nil_append, List.append_nil, List.isEmpty_nil, Bool.true_or, if_true, ↓reduceIte, ite_self, List.getElem?_cons_zero, List.getElem?_cons_succ, List.set_cons_zero, List.set_cons_succ, Nat.zero_add, Nat.reduceAdd, Nat.reduceSub, Nat.reduceLT, Nat.reduceLeDiff, Nat.reduceEqDiff, VK.lb0, VK.lb1, VK.lb2, VK.lb3, VK.lb4, VK.lb5, VK.lb6, VK.lb7, VK.lb8, VK.lb9, VK.lb10, VK.lb11, VK.lb12, VK.lb13, VK.lb14, VK.lb15, VK.lb16, VK.lb17, VK.lb18, VK.lb19, VK.lb20, VK.lb21, VK.lb22, VK.lb23, VK.lb24, VK.lb25, VK.lb26, VK.lb27, VK.lb28, VK.lb29, VK.lb30, VQ.lenD, VK.add_ii, VK.add_ss, VK.add_tt, VK.add_ll, VK.sub_ii, Option.getD_some, Option.getD_none, VQ.negD, VK.frzG_e,  VK.all_map, VK.any_map, VQ.ixD, VQ.isT, VQ.isTs, VQ.truD, VQ.blD, VQ.isD, VQ.isnotD, VQ.isNon, Option.map_some, Option.map_none, Option.bind_some, Option.bind_none, Bool.not_true, Bool.not_false, VQ.slD, VK.cut_to, VK.cut_from, VK.cut_last, VK.q_ss, VK.q_ii, VK.q_bb, VK.n_ss, VK.n_ii, VK.n_bb, VQ.leD, VQ.ltD, VQ.gtD, VQ.geD, VQ.cmpI, decide_true, decide_false, beq_self_eq_true, VK.bq_tt, VK.bq_tf, VK.bq_ft, VK.bq_ff, Bool.or_true, Bool.or_false, Bool.false_or,  Bool.false_eq_true, Bool.and_true, Bool.true_and, Bool.and_false, Bool.false_and])
local macro_rules | `(tactic| walk_at "US") => `(tactic| simp -implicitDefEqProofs only [*, VQ.runD, VQ.startE, VQ.sSeq, VQ.sThen, VQ.sSet, VQ.sRet, VQ.sRetN, VQ.sRetO, VQ.sDrop, VQ.sIf, VQ.sNil, VQ.sBreak, VQ.sCont, VQ.sPar, VQ.sTgt, VQ.sAug, VQ.sAppend, VQ.sRaise, VQ.inF, VQ.eVar, VQ.eC, VQ.eSeen, VQ.eSh, VQ.eBin, VQ.eBinD, VQ.eUn, VQ.eTest, VQ.eNot, VQ.eAnd, VQ.eOr, VQ.eIf, VQ.eAndV, VQ.eOrV, VQ.eBl, VQ.eNil, VQ.eCons, VQ.eTup, VQ.eLst, VQ.eFun, VQ.eCall, VQ.eNoPt, VQ.ePt, VQ.intOf, VQ.eSl, VQ.eChain, VQ.eCmpT, VQ.eM1, VQ.eFst, VQ.eTried, VQ.startsD, VK.catch_ret, VK.catch_exc, VQ.eYes, VQ.eI1, VQ.eI2, VQ.eI3, VQ.eItems, VQ.view, VQ.viewG, VK.v1_sh, VK.v1_no, VK.v1_ow, VK.v1_on, VQ.frz, VQ.frzG, VK.f1_sh, VK.f1_no, VK.f1_on, VQ.behind, VQ.op, VQ.R.d, VQ.R.vv, VQ.G.bind_ret, VQ.G.bind_exc, VQ.G.exs_ret, VQ.G.exs_exc, VQ.G.bind_draw, VQ.G.exs_draw, VQ.G.noX_ret, VQ.G.exs_exs, VQ.G.exs_bind, VQ.G.bind_assoc, VQ.G.noX_bind, VQ.G.noX_draw, VQ.G.exs_bad, VQ.gtName, VQ.gdName, VQ.gtTup, VQ.gtCons, VQ.gtNil, VQ.gdTup, VQ.gdCons, VQ.gdNil, VQ.wipeD, List.foldl, List.map, List.length, List.replicate, List.cons_append, List.nil_append, List.append_nil, List.isEmpty_nil, Bool.true_or, if_true, ↓reduceIte, ite_self, List.getElem?_cons_zero, List.getElem?_cons_succ, List.set_cons_zero, List.set_cons_succ, Nat.zero_add, Nat.reduceAdd, Nat.reduceSub, Nat.reduceLT, Nat.reduceLeDiff, Nat.reduceEqDiff, VK.lb0, VK.lb1, VK.lb2, VK.lb3, VK.lb4, VK.lb5, VK.lb6, VK.lb7, VK.lb8, VK.lb9, VK.lb10, VK.lb11, VK.lb12, VK.lb13, VK.lb14, VK.lb15, VK.lb16, VK.lb17, VK.lb18, VK.lb19, VK.lb20, VK.lb21, VK.lb22, VK.lb23, VK.lb24, VK.lb25, VK.lb26, VK.lb27, VK.lb28, VK.lb29, VK.lb30, VQ.lenD, VK.add_ii, VK.add_ss, VK.add_tt, VK.add_ll, VK.sub_ii, Option.getD_some, Option.getD_none, VQ.negD, VK.frzG_e,  VK.all_map, VK.any_map, VQ.ixD, VQ.isT, VQ.isTs, VQ.truD, VQ.blD, VQ.isD, VQ.isnotD, VQ.isNon, Option.map_some, Option.map_none, Option.bind_some, Option.bind_none, Bool.not_true, Bool.not_false, VQ.slD, VK.cut_to, VK.cut_from, VK.cut_last, VK.q_ss, VK.q_ii, VK.q_bb, VK.n_ss, VK.n_ii, VK.n_bb, VQ.leD, VQ.ltD, VQ.gtD, VQ.geD, VQ.cmpI, decide_true, decide_false, beq_self_eq_true, VK.bq_tt, VK.bq_tf, VK.bq_ft, VK.bq_ff, Bool.or_true, Bool.or_false, Bool.false_or,  Bool.false_eq_true, Bool.and_true, Bool.true_and, Bool.and_false, Bool.false_and])
local macro_rules | `(tactic| walk_at "E") => `(tactic| simp -implicitDefEqProofs only [VQ.runD, VQ.startE, VQ.sSet, VQ.sRet, VQ.sRetN, VQ.sRetO, VQ.sDrop, VQ.sIf, VQ.sNil, VQ.sBreak, VQ.sCont, VQ.sPar, VQ.sTgt, VQ.sAug, VQ.sAppend, VQ.sRaise, VQ.inF, VQ.eVar, VQ.eC, VQ.eSeen, VQ.eSh, VQ.eBin, VQ.eBinD, VQ.eUn, VQ.eTest, VQ.eNot, VQ.eAnd, VQ.eOr, VQ.eIf, VQ.eAndV, VQ.eOrV, VQ.eBl, VQ.eNil, VQ.eCons, VQ.eTup, VQ.eLst, VQ.eFun, VQ.eCall, VQ.eNoPt, VQ.ePt, VQ.intOf, VQ.eSl, VQ.eChain, VQ.eCmpT, VQ.eM1, VQ.eFst, VQ.eTried, VQ.startsD, VK.catch_ret, VK.catch_exc, VQ.eYes, VQ.eI1, VQ.eI2, VQ.eI3, VQ.eItems, VQ.view, VQ.viewG, VK.v1_sh, VK.v1_no, VK.v1_ow, VK.v1_on, VQ.frz, VQ.frzG, VK.f1_sh, VK.f1_no, VK.f1_on, VQ.behind, VQ.op, VQ.R.d, VQ.R.vv, VQ.G.bind_ret, VQ.G.bind_exc, VQ.G.exs_ret, VQ.G.exs_exc, VQ.G.bind_draw, VQ.G.exs_draw, VQ.G.noX_ret, VQ.G.exs_exs, VQ.G.exs_bind, VQ.G.bind_assoc, VQ.G.noX_bind, VQ.G.noX_draw, VQ.G.exs_bad, VQ.gtName, VQ.gdName, VQ.gtTup, VQ.gtCons, VQ.gtNil, VQ.gdTup, VQ.gdCons, VQ.gdNil, VQ.wipeD, List.foldl, List.map, List.length, List.replicate, List.cons_append, List.nil_append, List.append_nil, List.isEmpty_nil, Bool.true_or, if_true, ↓reduceIte, ite_self, List.getElem?_cons_zero, List.getElem?_cons_succ, List.set_cons_zero, List.set_cons_succ, Nat.zero_add, Nat.reduceAdd, Nat.reduceSub, Nat.reduceLT, Nat.reduceLeDiff, Nat.reduceEqDiff, VK.lb0, VK.lb1, VK.lb2, VK.lb3, VK.lb4, VK.lb5, VK.lb6, VK.lb7, VK.lb8, VK.lb9, VK.lb10, VK.lb11, VK.lb12, VK.lb13, VK.lb14, VK.lb15, VK.lb16, VK.lb17, VK.lb18, VK.lb19, VK.lb20, VK.lb21, VK.lb22, VK.lb23, VK.lb24, VK.lb25, VK.lb26, VK.lb27, VK.lb28, VK.lb29, VK.lb30, VQ.lenD, VK.add_ii, VK.add_ss, VK.add_tt, VK.add_ll, VK.sub_ii, Option.getD_some, Option.getD_none, VQ.negD, VK.frzG_e,  VK.all_map, VK.any_map, VQ.ixD, VQ.isT, VQ.isTs, VQ.truD, VQ.blD, VQ.isD, VQ.isnotD, VQ.isNon, Option.map_some, Option.map_none, Option.bind_some, Option.bind_none, Bool.not_true, Bool.not_false, VQ.slD, VK.cut_to, VK.cut_from, VK.cut_last, VK.q_ss, VK.q_ii, VK.q_bb, VK.n_ss, VK.n_ii, VK.n_bb, VQ.leD, VQ.ltD, VQ.gtD, VQ.geD, VQ.cmpI, decide_true, decide_false, beq_self_eq_true, VK.bq_tt, VK.bq_tf, VK.bq_ft, VK.bq_ff, Bool.or_true, Bool.or_false, Bool.false_or,  Bool.false_eq_true, Bool.and_true, Bool.true_and, Bool.and_false, Bool.false_and])
namespace VK
open PySem PySem.Spec PyProof.Rows L2 VQ
section
variable {K : PySem.W.Frag} {M : WM K} {s : M.S} {pull : Dfs M}
theorem of_spec (hp : PullOk pull) {ds : List D} (h0 : 0 < ds.length) (h1 : ds.length ≤ 1000000) : Al (w_law_of M pull [.obj 0, .lst ds] s) (fun r => ∃ d ∈ ds, r = (.sh d, s)) (fun _ => False) := by
  unfold w_law_of s_law_of
  have hpl := hp ds.length h0 h1
  walk_at "US"
  refine .draw h0 fun r hr => ?_
  have e2 : atI ds ((r : Nat) : Int) = some (ds[r]'hr) := atI_nat (by simp [hr])
  rw [e2]
  walk_at "U"
  exact .ret ⟨_, List.getElem_mem hr, rfl⟩
theorem figs_eq (i : Int) : w_law_figs M [.int i] s = .ret (.sh (.str (b5 i)), s) := by
  unfold w_law_figs s_law_figs
  simp [runD, startE, sRet, sFor, inF, eI1, eC, rng1, in62, lk_eq, VQ.upTo, List.range_succ, loopG, gtName, eBin, eSeen, eFun, eCons, eNil, eVar, sSeq, sThen, sSet, eSh, view, viewG, view1, frz, frzG, frz1, modD, fdivD, int2, addD, str2, op, G.exs, G.bind, R.d, R.vv, behind, b5, big]
theorem worth_spec (hp : PullOk pull) : Al (w_law_worth M pull [.obj 0] s) (fun r => ∃ n : Nat, n < 32 ∧ r = (.sh (.int n), s)) (fun _ => False) := by
  unfold w_law_worth s_law_worth
  have h32 : ∀ s, pull [.obj 0, .int 32] s = _ := hp 32 (by decide) (by decide)
  have h4 : ∀ s, pull [.obj 0, .int 4] s = _ := hp 4 (by decide) (by decide)
  walk_at "US"
  refine .draw (by decide) fun a ha => .draw (by decide) fun b hb => .draw (by decide) fun c hc => ?_
  refine Al.btox (of_spec hp (by simp) (by simp)) fun r hr => ?_
  obtain ⟨d, hd, rfl⟩ := hr
  walk_at "U"
  simp only [List.mem_cons, List.not_mem_nil, or_false] at hd
  rcases hd with rfl | rfl | rfl | rfl | rfl
  · exact .ret ⟨a, ha, rfl⟩
  · exact .ret ⟨b, hb, rfl⟩
  · exact .ret ⟨c, by omega, rfl⟩
  · exact .ret ⟨0, by decide, rfl⟩
  · exact .ret ⟨31, by decide, rfl⟩
theorem begin_spec (hp : PullOk pull) : Al (w_law_begin M pull [.obj 0] s) (fun r => ∃ l, beg l = true ∧ r = (.sh (.str l), s)) (fun _ => False) := by
  unfold w_law_begin s_law_begin
  walk_at "U"
  refine Al.btox (of_spec hp (by simp) (by simp)) fun r hr => ?_
  obtain ⟨d, hd, rfl⟩ := hr
  walk_at "U"
  refine Al.btox (worth_spec hp) fun r hr => ?_
  obtain ⟨n, hn, rfl⟩ := hr
  walk_at "U"
  simp only [figs_eq]
  walk_at "U"
  have hk : ∃ k : Nat, d = .int (k : Nat) := by
    simp only [List.mem_cons, List.not_mem_nil, or_false] at hd
    rcases hd with rfl | rfl | rfl | rfl | rfl | rfl | rfl
    all_goals first | exact ⟨0, rfl⟩ | exact ⟨1, rfl⟩ | exact ⟨2, rfl⟩ | exact ⟨3, rfl⟩ | exact ⟨4, rfl⟩ | exact ⟨5, rfl⟩
  obtain ⟨k, rfl⟩ := hk
  walk_at "U"
  simp only [slD, b5_len]
  walk_at "U"
  refine .ret ⟨_, ?_, rfl⟩
  show beg (((b5 n).drop 0).take _) = true
  exact beg_take (b5_beg _) _
theorem isbeg_str (l : List Nat) (hl : l.length ≤ 1000) : w_is_beginning M [.str l] s = .ret (.sh (.bl (beg l)), s) := by
  unfold w_is_beginning s_is_beginning
  have hb : l.length ≤ big := by unfold big; omega
  have hlc : eLc (M := M) [1] (eItems anyOf (eVar M 0)) (gdName 1) eYes (eBinD (blD inD) (eVar M 1) (eC M (.str [48, 49]))) [some (.str l), none] s = .ret (.fr (.lst (l.map fun c => .bl (isSign c))), s) := by
    refine elc_map l (fun c => .str [c]) _ (by walk_at "U"; rfl) hb fun c hc => ⟨_, rfl, ?_⟩
    walk_at "U"
    simp only [inD]
    walk_at "U"
    congr 3
    by_cases h1 : c = 48 <;> by_cases h2 : c = 49 <;> simp [isSign, h1, h2]
  by_cases h5 : l.length ≤ 5
  · have h5i : ((l.length : Nat) : Int) ≤ 5 := by omega
    walk_at "US"
    simp [beg, h5]
  · have h5i : ¬ ((l.length : Nat) : Int) ≤ 5 := by omega
    walk_at "US"
    simp [beg, h5]
end
end VK

namespace VK
open PySem PySem.Spec PyProof.Rows L2 VQ
section
variable {K : PySem.W.Frag} {M : WM K} {s : M.S} {pull : Dfs M}
mutual
def okS : Nat → D → Bool
  | _ + 1, .non => true
  | _ + 1, .bl _ => true
  | _ + 1, .int _ => true
  | _ + 1, .str _ => true
  | n + 1, .tup l => decide (l.length ≤ 1000) && okSs n l
  | n + 1, .lst l => decide (l.length ≤ 1000) && okSs n l
  | _, _ => false
def okSs : Nat → List D → Bool
  | _, [] => true
  | n, d :: r => okS n d && okSs n r
end
theorem okSs_mem {n : Nat} : ∀ {l : List D}, okSs n l = true → ∀ d ∈ l, okS n d = true
  | [], _, _, h => by cases h
  | d :: r, h, x, hx => by
    simp -implicitDefEqProofs only [okSs, Bool.and_eq_true] at h
    rcases List.mem_cons.mp hx with e | e
    · rw [e]; exact h.1
    · exact okSs_mem h.2 x e
theorem same_seq (n : Nat) (b : Bool) (l : List D) (hl : l.length ≤ 1000) (ih : ∀ d ∈ l, w_law_same M n [d, d] s = .ret (.sh (.bl true), s)) : w_law_same M (n + 1) [if b then .lst l else .tup l, if b then .lst l else .tup l] s = .ret (.sh (.bl true), s) := by
  have hb : l.length ≤ big := by unfold big; omega
  unfold w_law_same s_law_same
  cases b
  all_goals
    simp -implicitDefEqProofs only [Bool.false_eq_true, if_false, if_true]
    walk_at "U"
    rw [elc_map (List.range l.length) (fun k => .int (0 + (k : Nat))) (fun _ => .bl true) (s' := s) ?e ?l ?h]
    case e =>
      walk_at "U"
      simp -implicitDefEqProofs only [rng1_eq (n := l.length) (by omega)]
    case l => rw [List.length_range]; exact hb
    case h =>
      intro k hk
      rw [List.mem_range] at hk
      refine ⟨_, rfl, ?_⟩
      have ha : atI l (0 + (k : Nat)) = some l[k] := by rw [Int.zero_add]; exact atI_nat (by simp [hk])
      walk_at "U"
      simp -implicitDefEqProofs only [ha]
      walk_at "U"
      simp -implicitDefEqProofs only [ih l[k] (List.getElem_mem hk)]
      walk_at "U"
    walk_at "U"
    rw [show (List.range l.length).all (fun _ => true) = true by simp]
theorem same_nil (n : Nat) : w_law_same M (n + 1) [.non, .non] s = .ret (.sh (.bl true), s) := by
  unfold w_law_same s_law_same
  walk_at "U"
theorem same_bl (n : Nat) (b : Bool) : w_law_same M (n + 1) [.bl b, .bl b] s = .ret (.sh (.bl true), s) := by
  unfold w_law_same s_law_same
  walk_at "U"
theorem same_int (n : Nat) (b : Int) : w_law_same M (n + 1) [.int b, .int b] s = .ret (.sh (.bl true), s) := by
  unfold w_law_same s_law_same
  walk_at "U"
theorem same_str (n : Nat) (b : List Nat) : w_law_same M (n + 1) [.str b, .str b] s = .ret (.sh (.bl true), s) := by
  unfold w_law_same s_law_same
  walk_at "U"
theorem same_refl (n : Nat) : ∀ d : D, okS n d = true → w_law_same M n [d, d] s = .ret (.sh (.bl true), s) := by
  induction n with
  | zero => intro d h; cases d <;> simp [okS] at h
  | succ n ih =>
    intro d h
    cases d with
    | non => exact same_nil n
    | bl b => exact same_bl n b
    | int b => exact same_int n b
    | str b => exact same_str n b
    | tup l =>
      simp -implicitDefEqProofs only [okS, Bool.and_eq_true, decide_eq_true_eq] at h
      exact same_seq n false l h.1 fun d hd => ih d (okSs_mem h.2 d hd)
    | lst l =>
      simp -implicitDefEqProofs only [okS, Bool.and_eq_true, decide_eq_true_eq] at h
      exact same_seq n true l h.1 fun d hd => ih d (okSs_mem h.2 d hd)
    | _ => simp [okS] at h
end
end VK

namespace VK
open PySem PySem.Spec PyProof.Rows L2 VQ
section
variable {K : PySem.W.Frag} {M : WM K} {s : M.S} {pull : Dfs M} {xt : Xt}
end
end VK

namespace VK
open PySem PySem.Spec PyProof.Rows L2 VQ
noncomputable section
variable {K : PySem.W.Frag} (M : WM K)
end
end VK

namespace VK
open PySem PySem.Spec PyProof.Rows L2 VQ
def x_BadBox : FSpec := [("called", .inr [66, 97, 100, 66, 111, 120])]
noncomputable section
variable {K : PySem.W.Frag} (M : WM K)
def s_law_odd_thing (f__law_of : Dfs M) : Sv M := (sSeq (M := M) (sSet (M := M) 2 [] (eSh (M := M) (eSeen (M := M) (eLst (M := M) (eCons (M := M) (eC M .non) (eCons (M := M) (eC M (.int 5)) (eCons (M := M) (eC M (.str [48, 49])) (eCons (M := M) (eC M (.bl true)) (eCons (M := M) (eTup (M := M) (eNil (M := M))) (eCons (M := M) (eSeen (M := M) (eBin (M := M) mulD (eTup (M := M) (eCons (M := M) (eC M (.str [])) (eNil (M := M)))) (eC M (.int 6)))) (eCons (M := M) (eSeen (M := M) (eBin (M := M) mulD (eTup (M := M) (eCons (M := M) (eC M (.int 0)) (eNil (M := M)))) (eC M (.int 6)))) (eCons (M := M) (eSeen (M := M) (eBin (M := M) mulD (eSeen (M := M) (eLst (M := M) (eCons (M := M) (eC M (.str [])) (eNil (M := M))))) (eVar M 1))) (eCons (M := M) (eSeen (M := M) (eBin (M := M) mulD (eTup (M := M) (eCons (M := M) (eC M (.str [50])) (eNil (M := M)))) (eVar M 1))) (eCons (M := M) (eSeen (M := M) (eBin (M := M) mulD (eTup (M := M) (eCons (M := M) (eC M (.str [48, 48, 48, 48, 48, 48])) (eNil (M := M)))) (eVar M 1))) (eNil (M := M))))))))))))))))
    (sSeq (M := M) (sSet (M := M) 2 [] (eSh (M := M) (eSeen (M := M) (eBin (M := M) addD (eVar M 2) (eSeen (M := M) (eLst (M := M) (eCons (M := M) (eSeen (M := M) (eBin (M := M) mulD (eTup (M := M) (eCons (M := M) (eC M (.int 32)) (eNil (M := M)))) (eVar M 1))) (eCons (M := M) (eSeen (M := M) (eBin (M := M) mulD (eTup (M := M) (eCons (M := M) (eUn (M := M) negD (eC M (.int 1))) (eNil (M := M)))) (eVar M 1))) (eCons (M := M) (eSeen (M := M) (eBin (M := M) mulD (eTup (M := M) (eCons (M := M) (eC M (.bl true)) (eNil (M := M)))) (eVar M 1))) (eCons (M := M) (eSeen (M := M) (eBin (M := M) mulD (eTup (M := M) (eCons (M := M) (eC M .non) (eNil (M := M)))) (eVar M 1))) (eCons (M := M) (eTup (M := M) (eCons (M := M) (eC M (.str [])) (eCons (M := M) (eC M (.int 7)) (eNil (M := M))))) (eNil (M := M)))))))))))))
    (sSeq (M := M) (sSet (M := M) 2 [] (eSh (M := M) (eSeen (M := M) (eBin (M := M) addD (eVar M 2) (eSeen (M := M) (eLst (M := M) (eCons (M := M) (eSeen (M := M) (eBin (M := M) mulD (eTup (M := M) (eCons (M := M) (eSeen (M := M) (eLst (M := M) (eNil (M := M)))) (eNil (M := M)))) (eVar M 1))) (eCons (M := M) (eTup (M := M) (eCons (M := M) (eC M (.str [])) (eCons (M := M) (eSeen (M := M) (eLst (M := M) (eNil (M := M)))) (eNil (M := M))))) (eCons (M := M) (eTup (M := M) (eCons (M := M) (eSeen (M := M) (eLst (M := M) (eCons (M := M) (eC M (.int 0)) (eNil (M := M))))) (eNil (M := M)))) (eCons (M := M) (eTup (M := M) (eCons (M := M) (eC M (.int 0)) (eCons (M := M) (eSeen (M := M) (eLst (M := M) (eNil (M := M)))) (eNil (M := M))))) (eNil (M := M))))))))))))
    (sRet (M := M) [] (eCall (M := M) 2 f__law_of [] (eCons (M := M) (eVar M 0) (eCons (M := M) (eVar M 2) (eNil (M := M)))))))))
def w_law_odd_thing (pull : Dfs M) : Dfs M := runD 3 (s_law_odd_thing M (w_law_of M pull))
def s_law_box (f__law_begin : Dfs M) : Sv M := (sRet (M := M) [] (eFun (M := M) tupleD (eCons (M := M) (eSeen (M := M) (eLc (M := M) [2] (eI1 (M := M) rng1 (eVar M 1)) (gdName 2) (eYes (M := M)) (eSeen (M := M) (eCall (M := M) 1 f__law_begin [] (eCons (M := M) (eVar M 0) (eNil (M := M))))))) (eNil (M := M)))))
def w_law_box (pull : Dfs M) : Dfs M := runD 3 (s_law_box M (w_law_begin M pull))
def s_is_box (f_is_beginning : Dfs M) : Sv M := (sRet (M := M) [] (eSh (M := M) (eAndV (M := M) truD (eUn (M := M) (fun d => (isT d .tuple).map .bl) (eVar M 0)) (eAndV (M := M) truD (eChain (M := M) leD leD (eC M (.int 1)) (eSeen (M := M) (eFun (M := M) lenD (eCons (M := M) (eVar M 0) (eNil (M := M))))) (eC M (.int 5))) (eSeen (M := M) (eFun (M := M) allD (eCons (M := M) (eSeen (M := M) (eLc (M := M) [1] (eItems (M := M) anyOf (eVar M 0)) (gdName 1) (eYes (M := M)) (eSeen (M := M) (eCall (M := M) 1 f_is_beginning [] (eCons (M := M) (eVar M 1) (eNil (M := M))))))) (eNil (M := M)))))))))
def w_is_box : Dfs M := runD 2 (s_is_box M (w_is_beginning M))
def s_under : Sv M := (sRet (M := M) [] (eFun (M := M) allD (eCons (M := M) (eSeen (M := M) (eLc (M := M) [2, 3] (eI2 (M := M) zipS (eVar M 0) (eVar M 1)) (gdTup 2 (gdCons (gdName 2) (gdCons (gdName 3) gdNil))) (eYes (M := M)) (eSeen (M := M) (eM1 (M := M) startsD (eVar M 2) (eVar M 3))))) (eNil (M := M)))))
def w_under : Dfs M := runD 4 (s_under M)
def s_law_starts : Sv M := (sRet (M := M) [] (eSh (M := M) (eBinD (M := M) (blD eqO) (eSeen (M := M) (eSl (M := M) (eVar M 0) (eNoPt (M := M)) (ePt (M := M) (eSeen (M := M) (eFun (M := M) lenD (eCons (M := M) (eVar M 1) (eNil (M := M)))))))) (eVar M 1))))
def w_law_starts : Dfs M := runD 2 (s_law_starts M)
def s_law_inside (f__law_starts : Dfs M) : Sv M := (sRet (M := M) [] (eFun (M := M) allD (eCons (M := M) (eSeen (M := M) (eLc (M := M) [2, 3] (eI2 (M := M) zipOf (eVar M 0) (eVar M 1)) (gdTup 2 (gdCons (gdName 2) (gdCons (gdName 3) gdNil))) (eYes (M := M)) (eSeen (M := M) (eCall (M := M) 2 f__law_starts [] (eCons (M := M) (eVar M 2) (eCons (M := M) (eVar M 3) (eNil (M := M)))))))) (eNil (M := M)))))
def w_law_inside : Dfs M := runD 4 (s_law_inside M (w_law_starts M))
end
end VK

namespace VK
open PySem PySem.Spec PyProof.Rows L2 VQ
noncomputable section
variable {K : PySem.W.Frag} (M : WM K)
end
end VK

namespace VK
open PySem PySem.Spec PyProof.Rows L2 VQ
noncomputable section
variable {K : PySem.W.Frag} (M : WM K)
def s_law_near_box (f__law_pull : Dfs M) (f__law_begin : Dfs M) (f__law_figs : Dfs M) (f__law_worth : Dfs M) : Sv M := (sSeq (M := M) (sSet (M := M) 2 [] (eLst (M := M) (eNil (M := M))))
    (sSeq (M := M) (sFor (M := M) [] (eItems (M := M) anyOf (eVar M 1)) (gtName 3) (sSeq (M := M) (sSet (M := M) 4 [] (eSh (M := M) (eSeen (M := M) (eCall (M := M) 2 f__law_pull [] (eCons (M := M) (eVar M 0) (eCons (M := M) (eC M (.int 6)) (eNil (M := M))))))))
    (sSeq (M := M) (sIf (M := M) [] (eCmpT (M := M) eqO (eVar M 4) (eC M (.int 0))) (sSet (M := M) 3 [] (eSh (M := M) (eSeen (M := M) (eCall (M := M) 1 f__law_begin [] (eCons (M := M) (eVar M 0) (eNil (M := M))))))) (sNil (M := M)))
    (sSeq (M := M) (sIf (M := M) [] (eAnd (M := M) (eCmpT (M := M) eqO (eVar M 4) (eC M (.int 1))) (eCmpT (M := M) neO (eVar M 3) (eC M (.str [])))) (sSet (M := M) 3 [] (eSh (M := M) (eSeen (M := M) (eBin (M := M) addD (eSeen (M := M) (eSl (M := M) (eVar M 3) (eNoPt (M := M)) (ePt (M := M) (eUn (M := M) negD (eC M (.int 1)))))) (eIf (M := M) (eCmpT (M := M) eqO (eBinD (M := M) ixD (eVar M 3) (eUn (M := M) negD (eC M (.int 1)))) (eC M (.str [48]))) (eC M (.str [49])) (eC M (.str [48]))))))) (sNil (M := M)))
    (sSeq (M := M) (sIf (M := M) [] (eCmpT (M := M) eqO (eVar M 4) (eC M (.int 2))) (sSet (M := M) 3 [] (eSh (M := M) (eSeen (M := M) (eSl (M := M) (eVar M 3) (eNoPt (M := M)) (ePt (M := M) (eSeen (M := M) (eCall (M := M) 2 f__law_pull [] (eCons (M := M) (eVar M 0) (eCons (M := M) (eSeen (M := M) (eBin (M := M) addD (eSeen (M := M) (eFun (M := M) lenD (eCons (M := M) (eVar M 3) (eNil (M := M))))) (eC M (.int 1)))) (eNil (M := M))))))))))) (sNil (M := M)))
    (sSeq (M := M) (sIf (M := M) [] (eCmpT (M := M) eqO (eVar M 4) (eC M (.int 3))) (sSet (M := M) 3 [] (eSh (M := M) (eSeen (M := M) (eSl (M := M) (eSeen (M := M) (eBin (M := M) addD (eVar M 3) (eSeen (M := M) (eCall (M := M) 1 f__law_figs [] (eCons (M := M) (eSeen (M := M) (eCall (M := M) 1 f__law_worth [] (eCons (M := M) (eVar M 0) (eNil (M := M))))) (eNil (M := M))))))) (eNoPt (M := M)) (ePt (M := M) (eC M (.int 5))))))) (sNil (M := M)))
    (sAppend (M := M) 2 [] (eVar M 3))))))))
    (sRet (M := M) [2] (eFun (M := M) tupleD (eCons (M := M) (eVar M 2) (eNil (M := M)))))))
def w_law_near_box (pull : Dfs M) : Dfs M := runD 5 (s_law_near_box M pull (w_law_begin M pull) (w_law_figs M) (w_law_worth M pull))
end
end VK

namespace VK
open PySem PySem.Spec PyProof.Rows L2 VQ
noncomputable section
variable {K : PySem.W.Frag} (M : WM K)
end
end VK

namespace VK
open PySem PySem.Spec PyProof.Rows L2 VQ
noncomputable section
variable {K : PySem.W.Frag} (M : WM K)
end
end VK

namespace VK
open PySem PySem.Spec PyProof.Rows L2 VQ
noncomputable section
variable {K : PySem.W.Frag} (M : WM K)
end
end VK

namespace VK
open PySem PySem.Spec PyProof.Rows L2 VQ
noncomputable section
variable {K : PySem.W.Frag} (M : WM K)
end
noncomputable section
variable {K : PySem.W.Frag} (N : OM K)
def s_Store___init__ : Sv N.w := (sSeq (M := N.w) (sFldS (M := N) 0 "places" [] (eSh (M := N.w) (eVar N.w 1)))
    (sFldS (M := N) 0 "pile" [] (eLst (M := N.w) (eNil (M := N.w)))))
def w_Store___init__ : Dfs N.w := runD 2 (s_Store___init__ N)
def s_Store_first_over (f_under : Dfs N.w) : Sv N.w := (sSeq (M := N.w) (sForW (M := N) [] (eFld (M := N) "pile" (eVar N.w 0)) (gtName 2) (sIf (M := N.w) [] (eTest (M := N.w) truD (eSeen (M := N.w) (eCall (M := N.w) 2 f_under [] (eCons (M := N.w) (eVar N.w 1) (eCons (M := N.w) (eVar N.w 2) (eNil (M := N.w))))))) (sRet (M := N.w) [] (eSh (M := N.w) (eVar N.w 2))) (sNil (M := N.w))))
    (sRet (M := N.w) [] (eSh (M := N.w) (eC N.w .non))))
def w_Store_first_over : Dfs N.w := runD 3 (s_Store_first_over N (w_under N.w))
def s_Store_need (f_is_box : Dfs N.w) : Sv N.w := (sIf (M := N.w) [] (eOr (M := N.w) (eNot (M := N.w) (eTest (M := N.w) truD (eSeen (M := N.w) (eCall (M := N.w) 1 f_is_box [] (eCons (M := N.w) (eVar N.w 1) (eNil (M := N.w))))))) (eCmpT (M := N.w) neO (eSeen (M := N.w) (eFun (M := N.w) lenD (eCons (M := N.w) (eVar N.w 1) (eNil (M := N.w))))) (eFld (M := N) "places" (eVar N.w 0)))) (sRaise (M := N.w) "BadBox" 0 x_BadBox [] (eNil (M := N.w))) (sNil (M := N.w)))
def w_Store_need : Dfs N.w := runD 2 (s_Store_need N (w_is_box N.w))
def s_Store_put (f_Store_need : Dfs N.w) (f_Store_first_over : Dfs N.w) : Sv N.w := (sSeq (M := N.w) (sDrop (M := N.w) [] (eMeth (M := N) "Store" 2 f_Store_need [] (eVar N.w 0) (eCons (M := N.w) (eVar N.w 1) (eNil (M := N.w)))))
    (sSeq (M := N.w) (sIf (M := N.w) [] (eCmpT (M := N.w) isnotD (eSeen (M := N.w) (eMeth (M := N) "Store" 2 f_Store_first_over [] (eVar N.w 0) (eCons (M := N.w) (eVar N.w 1) (eNil (M := N.w))))) (eC N.w .non)) (sRet (M := N.w) [] (eSh (M := N.w) (eC N.w (.bl false)))) (sNil (M := N.w)))
    (sSeq (M := N.w) (sDrop (M := N.w) [] (eSh (M := N.w) (eAppW (M := N) (eFld (M := N) "pile" (eVar N.w 0)) (eVar N.w 1))))
    (sRet (M := N.w) [] (eSh (M := N.w) (eC N.w (.bl true)))))))
def w_Store_put : Dfs N.w := runD 2 (s_Store_put N (w_Store_need N) (w_Store_first_over N))
def s_Store_boxes : Sv N.w := (sRet (M := N.w) [] (eFunU (M := N) listD (eCons (M := N.w) (eFld (M := N) "pile" (eVar N.w 0)) (eNil (M := N.w)))))
def w_Store_boxes : Dfs N.w := runD 1 (s_Store_boxes N)
end
end VK

namespace VK
open PySem PySem.Spec PyProof.Rows L2 VQ
noncomputable section
variable {K : PySem.W.Frag} (M : WM K)
end
noncomputable section
variable {K : PySem.W.Frag} (N : OM K)
def s_Store___eq__ : Sv N.w := (sRet (M := N.w) [] (eSh (M := N.w) (eAndV (M := N.w) truD (eIsO (M := N) "Store" (eVar N.w 1)) (eAndV (M := N.w) truD (eBinD (M := N.w) (blD eqO) (eFld (M := N) "places" (eVar N.w 0)) (eFld (M := N) "places" (eVar N.w 1))) (eBinUD (M := N) (blD eqO) (eFld (M := N) "pile" (eVar N.w 0)) (eFld (M := N) "pile" (eVar N.w 1)))))))
def w_Store___eq__ : Dfs N.w := runD 2 (s_Store___eq__ N)
def s_Store_twin (f_Store___init__ : Dfs N.w) : Sv N.w := (sSeq (M := N.w) (sSet (M := N.w) 1 [] (eSh (M := N.w) (eNew (M := N) "Store" 2 f_Store___init__ [] (eCons (M := N.w) (eFld (M := N) "places" (eVar N.w 0)) (eNil (M := N.w))))))
    (sSeq (M := N.w) (sFldS (M := N) 1 "pile" [] (eFunU (M := N) listD (eCons (M := N.w) (eFld (M := N) "pile" (eVar N.w 0)) (eNil (M := N.w)))))
    (sRet (M := N.w) [] (eSh (M := N.w) (eVar N.w 1)))))
def w_Store_twin : Dfs N.w := runD 2 (s_Store_twin N (w_Store___init__ N))
def s_law_turned_stores (f_Store___init__ : Dfs N.w) (f_Store_put : Dfs N.w) (f_Store___eq__ : Dfs N.w) (f_Store_boxes : Dfs N.w) (f_Store_twin : Dfs N.w) : Sv N.w := (sSeq (M := N.w) (sPar (M := N.w) 2 3 (eSh (M := N.w) (eNew (M := N) "Store" 2 f_Store___init__ [] (eCons (M := N.w) (eVar N.w 0) (eNil (M := N.w))))) (eSh (M := N.w) (eNew (M := N) "Store" 2 f_Store___init__ [] (eCons (M := N.w) (eVar N.w 0) (eNil (M := N.w))))))
    (sSeq (M := N.w) (sFor (M := N.w) [] (eItems (M := N.w) anyOf (eSeen (M := N.w) (eSl (M := N.w) (eVar N.w 1) (eNoPt (M := N.w)) (ePt (M := N.w) (eC N.w (.int 2)))))) (gtName 4) (sDrop (M := N.w) [] (eMeth (M := N) "Store" 2 f_Store_put [] (eVar N.w 2) (eCons (M := N.w) (eVar N.w 4) (eNil (M := N.w))))))
    (sSeq (M := N.w) (sFor (M := N.w) [] (eItems (M := N.w) anyOf (eSeen (M := N.w) (eRev (M := N.w) (eSeen (M := N.w) (eSl (M := N.w) (eVar N.w 1) (eNoPt (M := N.w)) (ePt (M := N.w) (eC N.w (.int 2)))))))) (gtName 4) (sDrop (M := N.w) [] (eMeth (M := N) "Store" 2 f_Store_put [] (eVar N.w 3) (eCons (M := N.w) (eVar N.w 4) (eNil (M := N.w))))))
    (sRet (M := N.w) [] (eSh (M := N.w) (eAndV (M := N.w) truD (eBinD (M := N.w) (blD eqO) (eOwn (M := N) false "Store" f_Store___eq__ (eVar N.w 2) (eVar N.w 3)) (eBinD (M := N.w) (blD eqO) (eSeen (M := N.w) (eMeth (M := N) "Store" 1 f_Store_boxes [] (eVar N.w 2) (eNil (M := N.w)))) (eSeen (M := N.w) (eMeth (M := N) "Store" 1 f_Store_boxes [] (eVar N.w 3) (eNil (M := N.w)))))) (eOwn (M := N) false "Store" f_Store___eq__ (eVar N.w 2) (eSeen (M := N.w) (eMeth (M := N) "Store" 1 f_Store_twin [] (eVar N.w 2) (eNil (M := N.w)))))))))))
def w_law_turned_stores : Dfs N.w := runD 5 (s_law_turned_stores N (w_Store___init__ N) (w_Store_put N) (w_Store___eq__ N) (w_Store_boxes N) (w_Store_twin N))
def s_Store_over (f_Store_need : Dfs N.w) (f_Store_first_over : Dfs N.w) : Sv N.w := (sSeq (M := N.w) (sDrop (M := N.w) [] (eMeth (M := N) "Store" 2 f_Store_need [] (eVar N.w 0) (eCons (M := N.w) (eVar N.w 1) (eNil (M := N.w)))))
    (sRet (M := N.w) [] (eMeth (M := N) "Store" 2 f_Store_first_over [] (eVar N.w 0) (eCons (M := N.w) (eVar N.w 1) (eNil (M := N.w))))))
def w_Store_over : Dfs N.w := runD 2 (s_Store_over N (w_Store_need N) (w_Store_first_over N))
def s_law_store_right (f__law_inside : Dfs N.w) (f_Store_boxes : Dfs N.w) (f__law_same : Dfs N.w) (f_Store_over : Dfs N.w) : Sv N.w := (sSeq (M := N.w) (sSet (M := N.w) 3 [] (eSh (M := N.w) (eSeen (M := N.w) (eLc (M := N.w) [4] (eItems (M := N.w) anyOf (eVar N.w 1)) (gdName 4) (eTest (M := N.w) truD (eSeen (M := N.w) (eCall (M := N.w) 2 f__law_inside [] (eCons (M := N.w) (eVar N.w 2) (eCons (M := N.w) (eVar N.w 4) (eNil (M := N.w))))))) (eVar N.w 4)))))
    (sRet (M := N.w) [] (eSh (M := N.w) (eAndV (M := N.w) truD (eBinD (M := N.w) (blD eqO) (eSeen (M := N.w) (eMeth (M := N) "Store" 1 f_Store_boxes [] (eVar N.w 0) (eNil (M := N.w)))) (eVar N.w 1)) (eSeen (M := N.w) (eCall (M := N.w) 2 f__law_same [] (eCons (M := N.w) (eSeen (M := N.w) (eMeth (M := N) "Store" 2 f_Store_over [] (eVar N.w 0) (eCons (M := N.w) (eVar N.w 2) (eNil (M := N.w))))) (eCons (M := N.w) (eBinD (M := N.w) ixD (eSeen (M := N.w) (eBin (M := N.w) addD (eVar N.w 3) (eSeen (M := N.w) (eLst (M := N.w) (eCons (M := N.w) (eC N.w .non) (eNil (M := N.w))))))) (eC N.w (.int 0))) (eNil (M := N.w))))))))))
def w_law_store_right : Dfs N.w := runD 5 (s_law_store_right N (w_law_inside N.w) (w_Store_boxes N) (w_law_same N.w 6) (w_Store_over N))
def s_Store___repr__ : Sv N.w := (sRet (M := N.w) [] (eSh (M := N.w) (eJs (M := N.w) [(eC N.w (.str [83, 116, 111, 114, 101, 40])), (eFmt (M := N.w) (eSeen (M := N.w) (eFunU (M := N) lenD (eCons (M := N.w) (eFld (M := N) "pile" (eVar N.w 0)) (eNil (M := N.w)))))), (eC N.w (.str [32, 98, 111, 120, 101, 115, 41]))])))
def w_Store___repr__ : Dfs N.w := runD 1 (s_Store___repr__ N)
def s_Store___len__ : Sv N.w := (sRet (M := N.w) [] (eFunU (M := N) lenD (eCons (M := N.w) (eFld (M := N) "pile" (eVar N.w 0)) (eNil (M := N.w)))))
def w_Store___len__ : Dfs N.w := runD 1 (s_Store___len__ N)
def s_law_k09 (f__law_pull : Dfs N.w) (f_Store___init__ : Dfs N.w) (f__law_near_box : Dfs N.w) (f__law_of : Dfs N.w) (f__law_box : Dfs N.w) (f__law_inside : Dfs N.w) (f__law_same : Dfs N.w) (f_Store_put : Dfs N.w) (f__law_store_right : Dfs N.w) (f__law_odd_thing : Dfs N.w) (f_Store_over : Dfs N.w) (f_Store_boxes : Dfs N.w) (f_Store___len__ : Dfs N.w) (f_Store___repr__ : Dfs N.w) (f_Store_twin : Dfs N.w) (f_Store___eq__ : Dfs N.w) (f__law_turned_stores : Dfs N.w) (xt : Xt) : Sv N.w := (sSeq (M := N.w) (sSet (M := N.w) 2 [] (eSh (M := N.w) (eSeen (M := N.w) (eBin (M := N.w) addD (eC N.w (.int 1)) (eSeen (M := N.w) (eCall (M := N.w) 2 f__law_pull [] (eCons (M := N.w) (eVar N.w 1) (eCons (M := N.w) (eC N.w (.int 5)) (eNil (M := N.w))))))))))
    (sSeq (M := N.w) (sTgt (M := N.w) [] (eTup (M := N.w) (eCons (M := N.w) (eNew (M := N) "Store" 2 f_Store___init__ [] (eCons (M := N.w) (eVar N.w 2) (eNil (M := N.w)))) (eCons (M := N.w) (eSeen (M := N.w) (eLst (M := N.w) (eNil (M := N.w)))) (eCons (M := N.w) (eC N.w .non) (eCons (M := N.w) (eSeen (M := N.w) (eLst (M := N.w) (eNil (M := N.w)))) (eNil (M := N.w))))))) (gtTup 4 (gtCons (gtName 3) (gtCons (gtName 4) (gtCons (gtName 5) (gtCons (gtName 6) gtNil))))))
    (sSeq (M := N.w) (sFor (M := N.w) [] (eI1 (M := N.w) rng1 (eC N.w (.int 9))) (gtName 7) (sSeq (M := N.w) (sSet (M := N.w) 8 [] (eSh (M := N.w) (eSeen (M := N.w) (eIf (M := N.w) (eAnd (M := N.w) (eCmpT (M := N.w) neO (eVar N.w 4) (eSeen (M := N.w) (eLst (M := N.w) (eNil (M := N.w))))) (eCmpT (M := N.w) gtD (eSeen (M := N.w) (eCall (M := N.w) 2 f__law_pull [] (eCons (M := N.w) (eVar N.w 1) (eCons (M := N.w) (eC N.w (.int 3)) (eNil (M := N.w)))))) (eC N.w (.int 0)))) (eCall (M := N.w) 2 f__law_near_box [] (eCons (M := N.w) (eVar N.w 1) (eCons (M := N.w) (eSeen (M := N.w) (eCall (M := N.w) 2 f__law_of [] (eCons (M := N.w) (eVar N.w 1) (eCons (M := N.w) (eVar N.w 4) (eNil (M := N.w)))))) (eNil (M := N.w))))) (eCall (M := N.w) 2 f__law_box [] (eCons (M := N.w) (eVar N.w 1) (eCons (M := N.w) (eVar N.w 2) (eNil (M := N.w)))))))))
    (sSeq (M := N.w) (sSet (M := N.w) 9 [] (eSh (M := N.w) (eUn (M := N.w) (fun d => (truD d).map fun k => .bl (!k)) (eSeen (M := N.w) (eFun (M := N.w) anyD (eCons (M := N.w) (eSeen (M := N.w) (eLc (M := N.w) [16] (eItems (M := N.w) anyOf (eVar N.w 4)) (gdName 16) (eYes (M := N.w)) (eSeen (M := N.w) (eCall (M := N.w) 2 f__law_inside [] (eCons (M := N.w) (eVar N.w 8) (eCons (M := N.w) (eVar N.w 16) (eNil (M := N.w)))))))) (eNil (M := N.w))))))))
    (sSeq (M := N.w) (sIf (M := N.w) [] (eNot (M := N.w) (eTest (M := N.w) truD (eSeen (M := N.w) (eCall (M := N.w) 2 f__law_same [] (eCons (M := N.w) (eSeen (M := N.w) (eMeth (M := N) "Store" 2 f_Store_put [] (eVar N.w 3) (eCons (M := N.w) (eVar N.w 8) (eNil (M := N.w))))) (eCons (M := N.w) (eVar N.w 9) (eNil (M := N.w)))))))) (sRet (M := N.w) [] (eSh (M := N.w) (eC N.w (.bl false)))) (sNil (M := N.w)))
    (sSeq (M := N.w) (sSet (M := N.w) 4 [] (eSh (M := N.w) (eSeen (M := N.w) (eBin (M := N.w) addD (eVar N.w 4) (eSeen (M := N.w) (eBin (M := N.w) mulD (eSeen (M := N.w) (eLst (M := N.w) (eCons (M := N.w) (eVar N.w 8) (eNil (M := N.w))))) (eSeen (M := N.w) (eFun (M := N.w) intD (eCons (M := N.w) (eVar N.w 9) (eNil (M := N.w)))))))))))
    (sSeq (M := N.w) (sSet (M := N.w) 10 [] (eSh (M := N.w) (eSeen (M := N.w) (eCall (M := N.w) 2 f__law_near_box [] (eCons (M := N.w) (eVar N.w 1) (eCons (M := N.w) (eSeen (M := N.w) (eCall (M := N.w) 2 f__law_of [] (eCons (M := N.w) (eVar N.w 1) (eCons (M := N.w) (eVar N.w 4) (eNil (M := N.w)))))) (eNil (M := N.w))))))))
    (sSeq (M := N.w) (sIf (M := N.w) [] (eNot (M := N.w) (eTest (M := N.w) truD (eSeen (M := N.w) (eCall (M := N.w) 3 f__law_store_right [] (eCons (M := N.w) (eVar N.w 3) (eCons (M := N.w) (eVar N.w 4) (eCons (M := N.w) (eVar N.w 10) (eNil (M := N.w))))))))) (sRet (M := N.w) [] (eSh (M := N.w) (eC N.w (.bl false)))) (sNil (M := N.w)))
    (sSeq (M := N.w) (sSet (M := N.w) 11 [] (eSh (M := N.w) (eSeen (M := N.w) (eCall (M := N.w) 2 f__law_of [] (eCons (M := N.w) (eVar N.w 1) (eCons (M := N.w) (eSeen (M := N.w) (eLst (M := N.w) (eCons (M := N.w) (eSeen (M := N.w) (eCall (M := N.w) 2 f__law_odd_thing [] (eCons (M := N.w) (eVar N.w 1) (eCons (M := N.w) (eVar N.w 2) (eNil (M := N.w)))))) (eCons (M := N.w) (eSeen (M := N.w) (eBin (M := N.w) addD (eVar N.w 8) (eTup (M := N.w) (eCons (M := N.w) (eC N.w (.str [])) (eNil (M := N.w)))))) (eCons (M := N.w) (eSeen (M := N.w) (eSl (M := N.w) (eVar N.w 8) (ePt (M := N.w) (eC N.w (.int 1))) (eNoPt (M := N.w)))) (eNil (M := N.w))))))) (eNil (M := N.w))))))))
    (sSeq (M := N.w) (sIf (M := N.w) [] (eCmpT (M := N.w) neO (eSeen (M := N.w) (eLst (M := N.w) (eCons (M := N.w) (eFst (M := N.w) (eTried (M := N.w) xt (eSeen (M := N.w) (eMeth (M := N) "Store" 2 f_Store_put [] (eVar N.w 3) (eCons (M := N.w) (eVar N.w 11) (eNil (M := N.w))))))) (eCons (M := N.w) (eFst (M := N.w) (eTried (M := N.w) xt (eSeen (M := N.w) (eMeth (M := N) "Store" 2 f_Store_over [] (eVar N.w 3) (eCons (M := N.w) (eVar N.w 11) (eNil (M := N.w))))))) (eNil (M := N.w)))))) (eSeen (M := N.w) (eBin (M := N.w) mulD (eSeen (M := N.w) (eLst (M := N.w) (eCons (M := N.w) (eC N.w (.str [66, 97, 100, 66, 111, 120])) (eNil (M := N.w))))) (eC N.w (.int 2))))) (sRet (M := N.w) [] (eSh (M := N.w) (eC N.w (.bl false)))) (sNil (M := N.w)))
    (sSeq (M := N.w) (sFor (M := N.w) [] (eI1 (M := N.w) rng1 (eC N.w (.int 2))) (gtName 12) (sSeq (M := N.w) (sSet (M := N.w) 13 [] (eMeth (M := N) "Store" 1 f_Store_boxes [] (eVar N.w 3) (eNil (M := N.w))))
    (sSeq (M := N.w) (sIf (M := N.w) [13] (eOr (M := N.w) (eNot (M := N.w) (eTest (M := N.w) truD (eSeen (M := N.w) (eCall (M := N.w) 2 f__law_same [] (eCons (M := N.w) (eVar N.w 13) (eCons (M := N.w) (eVar N.w 4) (eNil (M := N.w)))))))) (eCmpT (M := N.w) neO (eTell (M := N) "Store" lenG f_Store___len__ (eVar N.w 3)) (eSeen (M := N.w) (eFun (M := N.w) lenD (eCons (M := N.w) (eVar N.w 4) (eNil (M := N.w))))))) (sRet (M := N.w) [] (eSh (M := N.w) (eC N.w (.bl false)))) (sNil (M := N.w)))
    (sAppend (M := N.w) 13 [] (eVar N.w 8)))))
    (sSeq (M := N.w) (sIf (M := N.w) [] (eCmpT (M := N.w) neO (eTell (M := N) "Store" strG f_Store___repr__ (eVar N.w 3)) (eSeen (M := N.w) (eBin (M := N.w) addD (eSeen (M := N.w) (eBin (M := N.w) addD (eC N.w (.str [83, 116, 111, 114, 101, 40])) (eSeen (M := N.w) (eFun (M := N.w) strD (eCons (M := N.w) (eSeen (M := N.w) (eFun (M := N.w) lenD (eCons (M := N.w) (eVar N.w 4) (eNil (M := N.w))))) (eNil (M := N.w))))))) (eC N.w (.str [32, 98, 111, 120, 101, 115, 41]))))) (sRet (M := N.w) [] (eSh (M := N.w) (eC N.w (.bl false)))) (sNil (M := N.w)))
    (sSeq (M := N.w) (sIf (M := N.w) [] (eAnd (M := N.w) (eCmpT (M := N.w) isD (eVar N.w 5) (eC N.w .non)) (eCmpT (M := N.w) eqO (eSeen (M := N.w) (eCall (M := N.w) 2 f__law_pull [] (eCons (M := N.w) (eVar N.w 1) (eCons (M := N.w) (eC N.w (.int 3)) (eNil (M := N.w)))))) (eC N.w (.int 0)))) (sSeq (M := N.w) (sPar (M := N.w) 5 6 (eSh (M := N.w) (eSeen (M := N.w) (eMeth (M := N) "Store" 1 f_Store_twin [] (eVar N.w 3) (eNil (M := N.w))))) (eFun (M := N.w) listD (eCons (M := N.w) (eVar N.w 4) (eNil (M := N.w)))))
    (sIf (M := N.w) [] (eOr (M := N.w) (eOwnT (M := N) true "Store" f_Store___eq__ (eVar N.w 5) (eVar N.w 3)) (eNot (M := N.w) (eOwnT (M := N) false "Store" f_Store___eq__ (eVar N.w 5) (eVar N.w 3)))) (sRet (M := N.w) [] (eSh (M := N.w) (eC N.w (.bl false)))) (sNil (M := N.w)))) (sNil (M := N.w)))
    (sIf (M := N.w) [] (eCmpT (M := N.w) isnotD (eVar N.w 5) (eC N.w .non)) (sSeq (M := N.w) (sIf (M := N.w) [6] (eOr (M := N.w) (eNot (M := N.w) (eTest (M := N.w) truD (eSeen (M := N.w) (eCall (M := N.w) 3 f__law_store_right [] (eCons (M := N.w) (eVar N.w 5) (eCons (M := N.w) (eVar N.w 6) (eCons (M := N.w) (eVar N.w 10) (eNil (M := N.w))))))))) (eCmpT (M := N.w) neO (eOwn (M := N) false "Store" f_Store___eq__ (eVar N.w 5) (eVar N.w 3)) (eBinD (M := N.w) (blD eqO) (eVar N.w 6) (eVar N.w 4)))) (sRet (M := N.w) [] (eSh (M := N.w) (eC N.w (.bl false)))) (sNil (M := N.w)))
    (sSeq (M := N.w) (sSet (M := N.w) 14 [] (eSh (M := N.w) (eSeen (M := N.w) (eCall (M := N.w) 2 f__law_box [] (eCons (M := N.w) (eVar N.w 1) (eCons (M := N.w) (eVar N.w 2) (eNil (M := N.w))))))))
    (sIf (M := N.w) [] (eAnd (M := N.w) (eCmpT (M := N.w) eqO (eSeen (M := N.w) (eCall (M := N.w) 2 f__law_pull [] (eCons (M := N.w) (eVar N.w 1) (eCons (M := N.w) (eC N.w (.int 2)) (eNil (M := N.w)))))) (eC N.w (.int 0))) (eTest (M := N.w) truD (eSeen (M := N.w) (eMeth (M := N) "Store" 2 f_Store_put [] (eVar N.w 5) (eCons (M := N.w) (eVar N.w 14) (eNil (M := N.w))))))) (sAppend (M := N.w) 6 [] (eVar N.w 14)) (sNil (M := N.w))))) (sNil (M := N.w)))))))))))))))
    (sSeq (M := N.w) (sSet (M := N.w) 15 [] (eSh (M := N.w) (eAndV (M := N.w) truD (eOwn (M := N) true "Store" f_Store___eq__ (eVar N.w 3) (eVar N.w 4)) (eAndV (M := N.w) truD (eOwn (M := N) false "Store" f_Store___eq__ (eNew (M := N) "Store" 2 f_Store___init__ [] (eCons (M := N.w) (eVar N.w 2) (eNil (M := N.w)))) (eNew (M := N) "Store" 2 f_Store___init__ [] (eCons (M := N.w) (eVar N.w 2) (eNil (M := N.w))))) (eOwn (M := N) true "Store" f_Store___eq__ (eNew (M := N) "Store" 2 f_Store___init__ [] (eCons (M := N.w) (eC N.w (.int 1)) (eNil (M := N.w)))) (eNew (M := N) "Store" 2 f_Store___init__ [] (eCons (M := N.w) (eC N.w (.int 2)) (eNil (M := N.w)))))))))
    (sRet (M := N.w) [] (eSh (M := N.w) (eAndV (M := N.w) truD (eVar N.w 15) (eAndV (M := N.w) truD (eUn (M := N.w) (fun d => (truD d).map fun k => .bl (!k)) (eOwn (M := N) false "Store" f_Store___eq__ (eVar N.w 3) (eC N.w .non))) (eSeen (M := N.w) (eCall (M := N.w) 2 f__law_turned_stores [] (eCons (M := N.w) (eVar N.w 2) (eCons (M := N.w) (eVar N.w 4) (eNil (M := N.w))))))))))))))
end
end VK

namespace VK
open PySem PySem.Spec PyProof.Rows L2 VQ
section
variable {K : PySem.W.Frag} {M : WM K} {s : M.S} {pull : Dfs M}
def wB (i : Int) : Bool := decide (0 ≤ i) && decide (i < 32)
end
end VK

namespace VK
open PySem PySem.Spec PyProof.Rows L2 VQ
section
variable {K : PySem.W.Frag} {M : WM K} {s : M.S} {pull : Dfs M}
def okE : D → Bool
  | .obj _ => false
  | .ty _ => false
  | .dt _ => false
  | .str l => decide (l.length ≤ 1000)
  | _ => true
def okB : D → Bool
  | .obj _ => false
  | .ty _ => false
  | .dt _ => false
  | .tup l => decide (l.length ≤ 1000) && l.all okE
  | _ => true
def begD : D → Bool
  | .str l => beg l
  | _ => false
def wD : D → Bool
  | .int i => wB i
  | _ => false
def boxD : D → Bool
  | .tup l => decide (1 ≤ l.length) && (decide (l.length ≤ 5) && l.all begD)
  | _ => false
def pointD : D → Bool
  | .tup l => decide (1 ≤ l.length) && (decide (l.length ≤ 5) && l.all wD)
  | _ => false
theorem isbeg_any (d : D) (h : okE d = true) : w_is_beginning M [d] s = .ret (.sh (.bl (begD d)), s) := by
  cases d
  case str l => exact isbeg_str l (by simpa [okE] using h)
  case obj => cases h
  case ty => cases h
  case dt => cases h
  all_goals
    unfold w_is_beginning s_is_beginning
    walk_at "U"
    rfl
theorem isbox_any (d : D) (h : okB d = true) : w_is_box M [d] s = .ret (.sh (.bl (boxD d)), s) := by
  cases d
  case tup l =>
    simp only [okB, Bool.and_eq_true, decide_eq_true_eq] at h
    have hb : l.length ≤ big := by unfold big; omega
    have hlc : eLc (M := M) [1] (eItems anyOf (eVar M 0)) (gdName 1) eYes (eSeen (eCall 1 (w_is_beginning M) [] (eCons (eVar M 1) eNil))) [some (.tup l), none] s = .ret (.fr (.lst (l.map fun d => .bl (begD d))), s) := by
      refine elc_map l (fun d => d) _ (by walk_at "U"; simp only [anyOf, List.map_id']; try rfl) hb fun d hd => ⟨_, rfl, ?_⟩
      walk_at "U"
      simp only [isbeg_any d (List.all_eq_true.mp h.2 d hd)]
      walk_at "U"
    unfold w_is_box s_is_box
    walk_at "U"
    by_cases h1 : 1 ≤ l.length
    · have h1i : (1 : Int) ≤ ((l.length : Nat) : Int) := by omega
      by_cases h5 : l.length ≤ 5
      · have h5i : ((l.length : Nat) : Int) ≤ 5 := by omega
        simp only [h1i, h5i]
        walk_at "U"
        simp only [hlc]
        walk_at "U"
        simp [boxD, h1, h5]
      · have h5i : ¬ ((l.length : Nat) : Int) ≤ 5 := by omega
        simp only [h1i, h5i]
        walk_at "U"
        simp [boxD, h1, h5]
    · have h1i : ¬ (1 : Int) ≤ ((l.length : Nat) : Int) := by omega
      simp only [h1i]
      walk_at "U"
      simp [boxD, h1]
  case obj => cases h
  case ty => cases h
  case dt => cases h
  all_goals
    unfold w_is_box s_is_box
    walk_at "U"
    rfl
abbrev boxS (b : List (List Nat)) : D := .tup (b.map .str)
def goodB (b : List (List Nat)) : Bool := decide (1 ≤ b.length) && (decide (b.length ≤ 5) && b.all beg)
theorem boxD_S {b : List (List Nat)} (h : goodB b = true) : boxD (boxS b) = true := by
  simpa [boxD, goodB, begD, List.all_map, Function.comp_def] using h
theorem okB_B {b : List (List Nat)} (h : goodB b = true) : okB (boxS b) = true := by
  simp only [goodB, Bool.and_eq_true, decide_eq_true_eq] at h
  simp only [okB, Bool.and_eq_true, decide_eq_true_eq, List.length_map, List.all_map]
  refine ⟨by omega, List.all_eq_true.mpr fun l hl => ?_⟩
  have := beg_len (List.all_eq_true.mp h.2.2 l hl)
  simp [okE]; omega
theorem zipT_strs : ∀ (a b : List (List Nat)), zipT (a.map .str) (b.map .str) = (a.zip b).map fun x => .tup [.str x.1, .str x.2]
  | [], _ => rfl
  | _ :: _, [] => rfl
  | x :: a, y :: b => by
    show D.tup [.str x, .str y] :: zipT (a.map .str) (b.map .str) = _
    rw [zipT_strs a b]; rfl
theorem zipS_strs {a b : List (List Nat)} (hl : a.length = b.length) : zipS (boxS a) (boxS b) = some ((a.zip b).map fun x => .tup [.str x.1, .str x.2]) := by
  simp [zipS, seqL, hl, zipT_strs]
theorem under_zip {a b : List (List Nat)} (hl : a.length = b.length) (h : a.length ≤ 1000) : w_under M [boxS a, boxS b] s = .ret (.sh (.bl ((a.zip b).all fun x => x.1.take x.2.length == x.2)), s) := by
  unfold w_under s_under
  have hb : (a.zip b).length ≤ big := by rw [List.length_zip]; unfold big; omega
  walk_at "U"
  rw [elc_map (a.zip b) (fun x => .tup [.str x.1, .str x.2]) (fun x => .bl (x.1.take x.2.length == x.2)) (s' := s) ?e ?l ?h]
  case e => walk_at "U"; rw [zipS_strs hl]
  case l => exact hb
  case h =>
    intro x hx
    refine ⟨_, rfl, ?_⟩
    walk_at "U"
  walk_at "U"
theorem lawStarts_eq (a b : List Nat) (h : a.length ≤ 1000) (h2 : b.length ≤ 1000) : w_law_starts M [.str a, .str b] s = .ret (.sh (.bl (a.take b.length == b)), s) := by
  unfold w_law_starts s_law_starts
  have hb : a.length ≤ big := by unfold big; omega
  have hb2 : b.length ≤ big := by unfold big; omega
  walk_at "U"
  simp only [hb, hb2]
  walk_at "U"
theorem lawInside_eq {a b : List (List Nat)} (h : a.length ≤ 1000) (ha : ∀ l ∈ a, l.length ≤ 1000) (hb2 : ∀ l ∈ b, l.length ≤ 1000) : w_law_inside M [boxS a, boxS b] s = .ret (.sh (.bl ((a.zip b).all fun x => x.1.take x.2.length == x.2)), s) := by
  unfold w_law_inside s_law_inside
  have hb : (a.zip b).length ≤ big := by rw [List.length_zip]; unfold big; omega
  walk_at "U"
  rw [elc_map (a.zip b) (fun x => .tup [.str x.1, .str x.2]) (fun x => .bl (x.1.take x.2.length == x.2)) (s' := s) ?e ?l ?h]
  case e =>
    walk_at "U"
    rw [show zipOf (boxS a) (boxS b) = some (zipT (a.map .str) (b.map .str)) from rfl, zipT_strs]
  case l => exact hb
  case h =>
    intro x hx
    refine ⟨_, rfl, ?_⟩
    walk_at "U"
    simp only [lawStarts_eq x.1 x.2 (ha _ (List.of_mem_zip hx).1) (hb2 _ (List.of_mem_zip hx).2)]
    walk_at "U"
  walk_at "U"
def vol (b : List (List Nat)) : Nat := (b.map fun l => 5 - l.length).sum
theorem box_spec (hp : PullOk pull) (n : Nat) (hn : n ≤ 1000) : Al (w_law_box M pull [.obj 0, .int n] s) (fun r => ∃ b : List (List Nat), b.length = n ∧ b.all beg = true ∧ r = (.sh (boxS b), s)) (fun _ => False) := by
  unfold w_law_box s_law_box
  walk_at "U"
  simp only [eLc]
  walk_at "U"
  simp only [rng1_eq (n := n) (by omega)]
  walk_at "U"
  refine Al.btox (lc_draw (D.str) (fun l => beg l = true) (by rw [List.length_map, List.length_range]; unfold big; omega) ?_) fun r hr => ?_
  · intro d2 hd2
    refine ⟨_, rfl, ?_⟩
    walk_at "U"
    refine Al.bto0 (begin_spec hp) fun r hr => ?_
    obtain ⟨l, hl, rfl⟩ := hr
    walk_at "U"
    exact .ret ⟨l, hl, rfl⟩
  obtain ⟨b, h1, h2, rfl⟩ := hr
  rw [List.length_map, List.length_range] at h1
  walk_at "U"
  simp only [tupleD]
  walk_at "U"
  exact .ret ⟨b, h1, List.all_eq_true.mpr h2, rfl⟩
def repD (d : D) (n : Nat) : List D := (List.replicate n [d]).flatten
def oddL (n : Nat) : List D := [.non, .int 5, .str [48, 49], .bl true, .tup [], .tup (repD (.str []) 6), .tup (repD (.int 0) 6), .lst (repD (.str []) n), .tup (repD (.str [50]) n), .tup (repD (.str [48, 48, 48, 48, 48, 48]) n),
  .tup (repD (.int 32) n), .tup (repD (.int (-1)) n), .tup (repD (.bl true) n), .tup (repD .non n), .tup [.str [], .int 7], .tup (repD (.lst []) n), .tup [.str [], .lst []], .tup [.lst [.int 0]], .tup [.int 0, .lst []]]
theorem odd_facts : ∀ n, n < 5 → ∀ d ∈ oddL (n + 1), okB d = true ∧ boxD d = false ∧ pointD d = false := by decide +kernel
theorem odd_thing_spec (hp : PullOk pull) (n : Nat) (hn : n ≤ 1000) : Al (w_law_odd_thing M pull [.obj 0, .int n] s) (fun r => ∃ d ∈ oddL n, r = (.sh d, s)) (fun _ => False) := by
  unfold w_law_odd_thing s_law_odd_thing
  have m6 : ∀ d : D, mulD (.tup [d]) (.int 6) = some (.sh (.tup (List.replicate (Int.toNat 6) [d]).flatten)) := fun d => mul_tk (by decide) (by decide) (by simp)
  have mn : ∀ d : D, mulD (.tup [d]) (.int (n : Nat)) = some (.sh (.tup (List.replicate (Int.toNat (n : Nat)) [d]).flatten)) := fun d => mul_tk (by omega) (by omega) (by simp)
  have ml : ∀ d : D, mulD (.lst [d]) (.int (n : Nat)) = some (.fr (.lst (List.replicate (Int.toNat (n : Nat)) [d]).flatten)) := fun d => mul_lk (by omega) (by omega) (by simp)
  walk_at "U"
  simp only [m6, mn, ml]
  walk_at "U"
  refine Al.btox (of_spec hp (by simp) (by simp)) fun r hr => ?_
  obtain ⟨d, hd, rfl⟩ := hr
  walk_at "U"
  exact .ret ⟨d, hd, rfl⟩
end
end VK

namespace VK
open PySem PySem.Spec PyProof.Rows L2 VQ
abbrev atB (b : List (List Nat)) (k : Nat) : List Nat := b.getD k []
def openB (b : List (List Nat)) (k : Nat) : Bool := decide ((atB b k).length < 5)
def openK (b : List (List Nat)) : Option Nat := (List.range b.length).find? (openB b)
def halfB (b : List (List Nat)) (k c : Nat) : List (List Nat) := b.take k ++ [atB b k ++ [c]] ++ b.drop (k + 1)
section
variable {K : PySem.W.Frag} {M : WM K} {s : M.S} {pull : Dfs M} {xt : Xt}
end
end VK

local macro_rules | `(tactic| walk_at "U") => `(tactic| simp -implicitDefEqProofs only [VQ.runD, VQ.startE, VQ.sSeq, VQ.sThen, VQ.sSet, VQ.sRet, VQ.sRetN, VQ.sRetO, VQ.sDrop, VQ.sIf, VQ.sNil, VQ.sBreak, VQ.sCont, VQ.sPar, VQ.sTgt, VQ.sAug, VQ.sAppend, VQ.sRaise, VQ.inF, VQ.eVar, VQ.eC, VQ.eSeen, VQ.eSh, VQ.eBin, VQ.eBinD, VQ.eUn, VQ.eTest, VQ.eNot, VQ.eAnd, VQ.eOr, VQ.eIf, VQ.eAndV, VQ.eOrV, VQ.eBl, VQ.eNil, VQ.eCons, VQ.eTup, VQ.eLst, VQ.eFun, VQ.eCall, VQ.eCallK, and_self, and_true, true_and, VQ.eNoPt, VQ.ePt, VQ.intOf, VQ.eSl, VQ.eChain, VQ.eCmpT, VQ.eM1, VQ.eFst, VQ.eTried, VQ.eWipe, List.contains_cons, List.contains_nil, Nat.reduceBEq, VK.ite_andB, VK.ite_orB, VQ.startsD, VK.catch_ret, VK.catch_exc, VQ.eYes, VQ.eI1, VQ.eI2, VQ.eI3, VQ.eItems, VQ.view, VQ.viewG, VK.v1_sh, VK.v1_no, VK.v1_ow, VK.v1_on, VQ.frz, VQ.frzG, VK.f1_sh, VK.f1_no, VK.f1_on, VQ.behind, VQ.op, VQ.R.d, VQ.R.vv, VQ.G.bind_ret, VQ.G.bind_exc, VQ.G.exs_ret, VQ.G.exs_exc, VQ.G.bind_draw, VQ.G.exs_draw, VQ.G.noX_ret, VQ.G.exs_exs, VQ.G.exs_bind, VQ.G.bind_assoc, VQ.G.noX_bind, VQ.G.noX_draw, VQ.G.exs_bad, VQ.gtName, VQ.gdName, VQ.gtTup, VQ.gtCons, VQ.gtNil, VQ.gdTup, VQ.gdCons, VQ.gdNil, VQ.wipeD, List.foldl, List.map, List.length, List.replicate, List.cons_append, List.nil_append, List.append_nil, List.isEmpty_nil, Bool.true_or, if_true, ↓reduceIte, ite_self, List.getElem?_cons_zero, List.getElem?_cons_succ, List.set_cons_zero, List.set_cons_succ, Nat.zero_add, Nat.reduceAdd, Nat.reduceSub, Nat.reduceLT, Nat.reduceLeDiff, Nat.reduceEqDiff, VK.lb0, VK.lb1, VK.lb2, VK.lb3, VK.lb4, VK.lb5, VK.lb6, VK.lb7, VK.lb8, VK.lb9, VK.lb10, VK.lb11, VK.lb12, VK.lb13, VK.lb14, VK.lb15, VK.lb16, VK.lb17, VK.lb18, VK.lb19, VK.lb20, VK.lb21, VK.lb22, VK.lb23, VK.lb24, VK.lb25, VK.lb26, VK.lb27, VK.lb28, VK.lb29, VK.lb30, VQ.lenD, VK.add_ii, VK.add_ss, VK.add_tt, VK.add_ll, VK.sub_ii, Option.getD_some, Option.getD_none, VQ.negD, VK.frzG_e,  VK.all_map, VK.any_map, VQ.ixD, VQ.isT, VQ.isTs, VQ.truD, VQ.blD, VQ.isD, VQ.isnotD, VQ.isNon, Option.map_some, Option.map_none, Option.bind_some, Option.bind_none, Bool.not_true, Bool.not_false, VQ.slD, VK.cut_to, VK.cut_from, VK.cut_last, VK.q_ss, VK.q_ii, VK.q_bb, VK.n_ss, VK.n_ii, VK.n_bb, VQ.leD, VQ.ltD, VQ.gtD, VQ.geD, VQ.cmpI, decide_true, decide_false, beq_self_eq_true, VK.bq_tt, VK.bq_tf, VK.bq_ft, VK.bq_ff, Bool.or_true, Bool.or_false, Bool.false_or,  Bool.false_eq_true, Bool.and_true, Bool.true_and, Bool.and_false, Bool.false_and])
local macro_rules | `(tactic| walk_at "US") => `(tactic| simp -implicitDefEqProofs only [*, VQ.runD, VQ.startE, VQ.sSeq, VQ.sThen, VQ.sSet, VQ.sRet, VQ.sRetN, VQ.sRetO, VQ.sDrop, VQ.sIf, VQ.sNil, VQ.sBreak, VQ.sCont, VQ.sPar, VQ.sTgt, VQ.sAug, VQ.sAppend, VQ.sRaise, VQ.inF, VQ.eVar, VQ.eC, VQ.eSeen, VQ.eSh, VQ.eBin, VQ.eBinD, VQ.eUn, VQ.eTest, VQ.eNot, VQ.eAnd, VQ.eOr, VQ.eIf, VQ.eAndV, VQ.eOrV, VQ.eBl, VQ.eNil, VQ.eCons, VQ.eTup, VQ.eLst, VQ.eFun, VQ.eCall, VQ.eCallK, and_self, and_true, true_and, VQ.eNoPt, VQ.ePt, VQ.intOf, VQ.eSl, VQ.eChain, VQ.eCmpT, VQ.eM1, VQ.eFst, VQ.eTried, VQ.eWipe, List.contains_cons, List.contains_nil, Nat.reduceBEq, VK.ite_andB, VK.ite_orB, VQ.startsD, VK.catch_ret, VK.catch_exc, VQ.eYes, VQ.eI1, VQ.eI2, VQ.eI3, VQ.eItems, VQ.view, VQ.viewG, VK.v1_sh, VK.v1_no, VK.v1_ow, VK.v1_on, VQ.frz, VQ.frzG, VK.f1_sh, VK.f1_no, VK.f1_on, VQ.behind, VQ.op, VQ.R.d, VQ.R.vv, VQ.G.bind_ret, VQ.G.bind_exc, VQ.G.exs_ret, VQ.G.exs_exc, VQ.G.bind_draw, VQ.G.exs_draw, VQ.G.noX_ret, VQ.G.exs_exs, VQ.G.exs_bind, VQ.G.bind_assoc, VQ.G.noX_bind, VQ.G.noX_draw, VQ.G.exs_bad, VQ.gtName, VQ.gdName, VQ.gtTup, VQ.gtCons, VQ.gtNil, VQ.gdTup, VQ.gdCons, VQ.gdNil, VQ.wipeD, List.foldl, List.map, List.length, List.replicate, List.cons_append, List.nil_append, List.append_nil, List.isEmpty_nil, Bool.true_or, if_true, ↓reduceIte, ite_self, List.getElem?_cons_zero, List.getElem?_cons_succ, List.set_cons_zero, List.set_cons_succ, Nat.zero_add, Nat.reduceAdd, Nat.reduceSub, Nat.reduceLT, Nat.reduceLeDiff, Nat.reduceEqDiff, VK.lb0, VK.lb1, VK.lb2, VK.lb3, VK.lb4, VK.lb5, VK.lb6, VK.lb7, VK.lb8, VK.lb9, VK.lb10, VK.lb11, VK.lb12, VK.lb13, VK.lb14, VK.lb15, VK.lb16, VK.lb17, VK.lb18, VK.lb19, VK.lb20, VK.lb21, VK.lb22, VK.lb23, VK.lb24, VK.lb25, VK.lb26, VK.lb27, VK.lb28, VK.lb29, VK.lb30, VQ.lenD, VK.add_ii, VK.add_ss, VK.add_tt, VK.add_ll, VK.sub_ii, Option.getD_some, Option.getD_none, VQ.negD, VK.frzG_e,  VK.all_map, VK.any_map, VQ.ixD, VQ.isT, VQ.isTs, VQ.truD, VQ.blD, VQ.isD, VQ.isnotD, VQ.isNon, Option.map_some, Option.map_none, Option.bind_some, Option.bind_none, Bool.not_true, Bool.not_false, VQ.slD, VK.cut_to, VK.cut_from, VK.cut_last, VK.q_ss, VK.q_ii, VK.q_bb, VK.n_ss, VK.n_ii, VK.n_bb, VQ.leD, VQ.ltD, VQ.gtD, VQ.geD, VQ.cmpI, decide_true, decide_false, beq_self_eq_true, VK.bq_tt, VK.bq_tf, VK.bq_ft, VK.bq_ff, Bool.or_true, Bool.or_false, Bool.false_or,  Bool.false_eq_true, Bool.and_true, Bool.true_and, Bool.and_false, Bool.false_and])
local macro_rules | `(tactic| walk_at "E") => `(tactic| simp -implicitDefEqProofs only [VQ.runD, VQ.startE, VQ.sSet, VQ.sRet, VQ.sRetN, VQ.sRetO, VQ.sDrop, VQ.sIf, VQ.sNil, VQ.sBreak, VQ.sCont, VQ.sPar, VQ.sTgt, VQ.sAug, VQ.sAppend, VQ.sRaise, VQ.inF, VQ.eVar, VQ.eC, VQ.eSeen, VQ.eSh, VQ.eBin, VQ.eBinD, VQ.eUn, VQ.eTest, VQ.eNot, VQ.eAnd, VQ.eOr, VQ.eIf, VQ.eAndV, VQ.eOrV, VQ.eBl, VQ.eNil, VQ.eCons, VQ.eTup, VQ.eLst, VQ.eFun, VQ.eCall, VQ.eCallK, and_self, and_true, true_and, VQ.eNoPt, VQ.ePt, VQ.intOf, VQ.eSl, VQ.eChain, VQ.eCmpT, VQ.eM1, VQ.eFst, VQ.eTried, VQ.eWipe, List.contains_cons, List.contains_nil, Nat.reduceBEq, VK.ite_andB, VK.ite_orB, VQ.startsD, VK.catch_ret, VK.catch_exc, VQ.eYes, VQ.eI1, VQ.eI2, VQ.eI3, VQ.eItems, VQ.view, VQ.viewG, VK.v1_sh, VK.v1_no, VK.v1_ow, VK.v1_on, VQ.frz, VQ.frzG, VK.f1_sh, VK.f1_no, VK.f1_on, VQ.behind, VQ.op, VQ.R.d, VQ.R.vv, VQ.G.bind_ret, VQ.G.bind_exc, VQ.G.exs_ret, VQ.G.exs_exc, VQ.G.bind_draw, VQ.G.exs_draw, VQ.G.noX_ret, VQ.G.exs_exs, VQ.G.exs_bind, VQ.G.bind_assoc, VQ.G.noX_bind, VQ.G.noX_draw, VQ.G.exs_bad, VQ.gtName, VQ.gdName, VQ.gtTup, VQ.gtCons, VQ.gtNil, VQ.gdTup, VQ.gdCons, VQ.gdNil, VQ.wipeD, List.foldl, List.map, List.length, List.replicate, List.cons_append, List.nil_append, List.append_nil, List.isEmpty_nil, Bool.true_or, if_true, ↓reduceIte, ite_self, List.getElem?_cons_zero, List.getElem?_cons_succ, List.set_cons_zero, List.set_cons_succ, Nat.zero_add, Nat.reduceAdd, Nat.reduceSub, Nat.reduceLT, Nat.reduceLeDiff, Nat.reduceEqDiff, VK.lb0, VK.lb1, VK.lb2, VK.lb3, VK.lb4, VK.lb5, VK.lb6, VK.lb7, VK.lb8, VK.lb9, VK.lb10, VK.lb11, VK.lb12, VK.lb13, VK.lb14, VK.lb15, VK.lb16, VK.lb17, VK.lb18, VK.lb19, VK.lb20, VK.lb21, VK.lb22, VK.lb23, VK.lb24, VK.lb25, VK.lb26, VK.lb27, VK.lb28, VK.lb29, VK.lb30, VQ.lenD, VK.add_ii, VK.add_ss, VK.add_tt, VK.add_ll, VK.sub_ii, Option.getD_some, Option.getD_none, VQ.negD, VK.frzG_e,  VK.all_map, VK.any_map, VQ.ixD, VQ.isT, VQ.isTs, VQ.truD, VQ.blD, VQ.isD, VQ.isnotD, VQ.isNon, Option.map_some, Option.map_none, Option.bind_some, Option.bind_none, Bool.not_true, Bool.not_false, VQ.slD, VK.cut_to, VK.cut_from, VK.cut_last, VK.q_ss, VK.q_ii, VK.q_bb, VK.n_ss, VK.n_ii, VK.n_bb, VQ.leD, VQ.ltD, VQ.gtD, VQ.geD, VQ.cmpI, decide_true, decide_false, beq_self_eq_true, VK.bq_tt, VK.bq_tf, VK.bq_ft, VK.bq_ff, Bool.or_true, Bool.or_false, Bool.false_or,  Bool.false_eq_true, Bool.and_true, Bool.true_and, Bool.and_false, Bool.false_and])
local macro_rules | `(tactic| walk_at "A") => `(tactic| simp -implicitDefEqProofs only [Int.reduceBEq, Int.reduceLT, Int.reduceLE, Int.reduceNeg, Nat.reduceBEq, List.contains_cons, List.contains_nil, VK.al_ret_eq, VK.al_exc_eq, VK.al_seq_eq, VK.al_then_nx, VK.al_then_bk, VK.al_then_ct, VK.al_then_rt, VK.retP_nx, VK.retP_rt, VK.al_run_eq, VK.al_nil_eq, VK.al_ite, VQ.startE, VQ.sSet, VQ.sRet, VQ.sRetN, VQ.sRetO, VQ.sDrop, VQ.sIf, VQ.sNil, VQ.sBreak, VQ.sCont, VQ.sPar, VQ.sTgt, VQ.sAug, VQ.sAppend, VQ.sRaise, VQ.inF, VQ.eVar, VQ.eC, VQ.eSeen, VQ.eSh, VQ.eBin, VQ.eBinD, VQ.eUn, VQ.eTest, VQ.eNot, VQ.eAnd, VQ.eOr, VQ.eIf, VQ.eAndV, VQ.eOrV, VQ.eBl, VQ.eNil, VQ.eCons, VQ.eTup, VQ.eLst, VQ.eFun, VQ.eCall, VQ.eCallK, and_self, and_true, true_and, VQ.eNoPt, VQ.ePt, VQ.intOf, VQ.eSl, VQ.eChain, VQ.eCmpT, VQ.eM1, VQ.eFst, VQ.eTried, VQ.eWipe, VK.ite_andB, VK.ite_orB, VQ.startsD, VK.catch_ret, VK.catch_exc, VQ.eYes, VQ.eI1, VQ.eI2, VQ.eI3, VQ.eItems, VQ.view, VQ.viewG, VK.v1_sh, VK.v1_no, VK.v1_ow, VK.v1_on, VQ.frz, VQ.frzG, VK.f1_sh, VK.f1_no, VK.f1_on, VQ.behind, VQ.op, VQ.R.d, VQ.R.vv, VQ.G.bind_ret, VQ.G.bind_exc, VQ.G.exs_ret, VQ.G.exs_exc, VQ.G.bind_draw, VQ.G.exs_draw, VQ.G.noX_ret, VQ.G.exs_exs, VQ.G.exs_bind, VQ.G.bind_assoc, VQ.G.noX_bind, VQ.G.noX_draw, VQ.G.exs_bad, VQ.gtName, VQ.gdName, VQ.gtTup, VQ.gtCons, VQ.gtNil, VQ.gdTup, VQ.gdCons, VQ.gdNil, VQ.wipeD, List.foldl, List.map, List.length, List.replicate, List.cons_append, List.nil_append, List.append_nil, List.isEmpty_nil, Bool.true_or, if_true, ↓reduceIte, ite_self, List.getElem?_cons_zero, List.getElem?_cons_succ, List.set_cons_zero, List.set_cons_succ, Nat.zero_add, Nat.reduceAdd, Nat.reduceSub, Nat.reduceLT, Nat.reduceLeDiff, Nat.reduceEqDiff, VK.lb0, VK.lb1, VK.lb2, VK.lb3, VK.lb4, VK.lb5, VK.lb6, VK.lb7, VK.lb8, VK.lb9, VK.lb10, VK.lb11, VK.lb12, VK.lb13, VK.lb14, VK.lb15, VK.lb16, VK.lb17, VK.lb18, VK.lb19, VK.lb20, VK.lb21, VK.lb22, VK.lb23, VK.lb24, VK.lb25, VK.lb26, VK.lb27, VK.lb28, VK.lb29, VK.lb30, VQ.lenD, VK.add_ii, VK.add_ss, VK.add_tt, VK.add_ll, VK.sub_ii, Option.getD_some, Option.getD_none, VQ.negD, VK.frzG_e,  VK.all_map, VK.any_map, VQ.ixD, VQ.isT, VQ.isTs, VQ.truD, VQ.blD, VQ.isD, VQ.isnotD, VQ.isNon, Option.map_some, Option.map_none, Option.bind_some, Option.bind_none, Bool.not_true, Bool.not_false, VQ.slD, VK.cut_to, VK.cut_from, VK.cut_last, VK.q_ss, VK.q_ii, VK.q_bb, VK.n_ss, VK.n_ii, VK.n_bb, VQ.leD, VQ.ltD, VQ.gtD, VQ.geD, VQ.cmpI, decide_true, decide_false, beq_self_eq_true, VK.bq_tt, VK.bq_tf, VK.bq_ft, VK.bq_ff, Bool.or_true, Bool.or_false, Bool.false_or,  Bool.false_eq_true, Bool.and_true, Bool.true_and, Bool.and_false, Bool.false_and])
local macro_rules | `(tactic| walk_at "B") => `(tactic| simp -implicitDefEqProofs only [Int.reduceBEq, Int.reduceLT, Int.reduceLE, Int.reduceNeg, Nat.reduceBEq, List.contains_cons, List.contains_nil, VK.al_ret_eq, VK.al_exc_eq, VK.al_seq_eq, VK.al_then_nx, VK.al_then_bk, VK.al_then_ct, VK.al_then_rt, VK.retP_nx, VK.retP_rt, VK.al_run_eq, VK.al_nil_eq, VK.al_ite, VQ.startE, VQ.sSet, VQ.sRet, VQ.sRetN, VQ.sRetO, VQ.sDrop, VQ.sNil, VQ.sBreak, VQ.sCont, VQ.sPar, VQ.sTgt, VQ.sAug, VQ.sAppend, VQ.sRaise, VQ.inF, VQ.eVar, VQ.eC, VQ.eSeen, VQ.eSh, VQ.eBin, VQ.eBinD, VQ.eUn, VQ.eTest, VQ.eNot, VQ.eAnd, VQ.eOr, VQ.eIf, VQ.eAndV, VQ.eOrV, VQ.eBl, VQ.eNil, VQ.eCons, VQ.eTup, VQ.eLst, VQ.eFun, VQ.eCall, VQ.eCallK, and_self, and_true, true_and, VQ.eNoPt, VQ.ePt, VQ.intOf, VQ.eSl, VQ.eChain, VQ.eCmpT, VQ.eM1, VQ.eFst, VQ.eTried, VQ.eWipe, VK.ite_andB, VK.ite_orB, VQ.startsD, VK.catch_ret, VK.catch_exc, VQ.eYes, VQ.eI1, VQ.eI2, VQ.eI3, VQ.eItems, VQ.view, VQ.viewG, VK.v1_sh, VK.v1_no, VK.v1_ow, VK.v1_on, VQ.frz, VQ.frzG, VK.f1_sh, VK.f1_no, VK.f1_on, VQ.behind, VQ.op, VQ.R.d, VQ.R.vv, VQ.G.bind_ret, VQ.G.bind_exc, VQ.G.exs_ret, VQ.G.exs_exc, VQ.G.bind_draw, VQ.G.exs_draw, VQ.G.noX_ret, VQ.G.exs_exs, VQ.G.exs_bind, VQ.G.bind_assoc, VQ.G.noX_bind, VQ.G.noX_draw, VQ.G.exs_bad, VQ.gtName, VQ.gdName, VQ.gtTup, VQ.gtCons, VQ.gtNil, VQ.gdTup, VQ.gdCons, VQ.gdNil, VQ.wipeD, List.foldl, List.map, List.length, List.replicate, List.cons_append, List.nil_append, List.append_nil, List.isEmpty_nil, Bool.true_or, if_true, ↓reduceIte, ite_self, List.getElem?_cons_zero, List.getElem?_cons_succ, List.set_cons_zero, List.set_cons_succ, Nat.zero_add, Nat.reduceAdd, Nat.reduceSub, Nat.reduceLT, Nat.reduceLeDiff, Nat.reduceEqDiff, VK.lb0, VK.lb1, VK.lb2, VK.lb3, VK.lb4, VK.lb5, VK.lb6, VK.lb7, VK.lb8, VK.lb9, VK.lb10, VK.lb11, VK.lb12, VK.lb13, VK.lb14, VK.lb15, VK.lb16, VK.lb17, VK.lb18, VK.lb19, VK.lb20, VK.lb21, VK.lb22, VK.lb23, VK.lb24, VK.lb25, VK.lb26, VK.lb27, VK.lb28, VK.lb29, VK.lb30, VQ.lenD, VK.add_ii, VK.add_ss, VK.add_tt, VK.add_ll, VK.sub_ii, Option.getD_some, Option.getD_none, VQ.negD, VK.frzG_e,  VK.all_map, VK.any_map, VQ.ixD, VQ.isT, VQ.isTs, VQ.truD, VQ.blD, VQ.isD, VQ.isnotD, VQ.isNon, Option.map_some, Option.map_none, Option.bind_some, Option.bind_none, Bool.not_true, Bool.not_false, VQ.slD, VK.cut_to, VK.cut_from, VK.cut_last, VK.q_ss, VK.q_ii, VK.q_bb, VK.n_ss, VK.n_ii, VK.n_bb, VQ.leD, VQ.ltD, VQ.gtD, VQ.geD, VQ.cmpI, decide_true, decide_false, beq_self_eq_true, VK.bq_tt, VK.bq_tf, VK.bq_ft, VK.bq_ff, Bool.or_true, Bool.or_false, Bool.false_or,  Bool.false_eq_true, Bool.and_true, Bool.true_and, Bool.and_false, Bool.false_and])
namespace VK
open PySem PySem.Spec PyProof.Rows L2 VQ
section
variable {K : PySem.W.Frag} {N : OM K} {α : Type}
/-- a loop over a list of the world that goes back at the first item of a kind -/
theorem loopW_find {g : D → Nv → Option Nv} {body : Sv N.w} {s : Ost} {d : D} (xs : List α) (inj : α → D) (env : Option α → Nv) (p : α → Bool) (r : α → R) (hd : lstAt s d = some (xs.map inj)) (h : ∀ o, ∀ x ∈ xs, ∃ ρ1, g (inj x) (env o) = some ρ1 ∧ body ρ1 s = if p x = true then .ret (.rt (r x), s) else .ret (.nx (env (some x)), s)) :
    ∀ (fu i : Nat) (o : Option α), xs.length + 1 ≤ fu + i → i ≤ xs.length → loopW (M := N) g body d fu i (env o) s = match (xs.drop i).find? p with | some x => .ret (.rt (r x), s) | none => .ret (.nx (env ((xs.drop i).getLast?.or o)), s)
  | 0, i, o, h1, h2 => by omega
  | fu + 1, i, o, h1, h2 => by
    simp only [loopW, hd, List.getElem?_map]
    by_cases hi : i < xs.length
    · rw [List.getElem?_eq_getElem hi]
      simp only [Option.map_some]
      obtain ⟨ρ1, e1, e2⟩ := h o xs[i] (List.getElem_mem hi)
      rw [e1]
      simp only
      rw [e2, List.drop_eq_getElem_cons hi, List.find?_cons]
      cases hp : p xs[i] with
      | true => rfl
      | false =>
        have ih := loopW_find xs inj env p r hd h fu (i + 1) (some xs[i]) (by omega) (by omega)
        show loopW (M := N) g body d fu (i + 1) (env (some xs[i])) s = _
        rw [ih]
        cases hf : (xs.drop (i + 1)).find? p with
        | some y => rfl
        | none =>
          simp only
          congr 3
          cases xs.drop (i + 1) with
          | nil => rfl
          | cons y ys => simp [List.getLast?_cons]
    · have : i = xs.length := by omega
      subst this
      rw [List.getElem?_eq_none (Nat.le_refl _), List.drop_length]
      rfl
def inB (a b : List (List Nat)) : Bool := (a.zip b).all fun x => x.1.take x.2.length == x.2
def oBx : Option (List (List Nat)) → D
  | some b => boxS b
  | none => .non
end
end VK

namespace VK
open PySem PySem.Spec PyProof.Rows L2 VQ
/-- b begins a -/
def pre (b a : List Nat) : Bool := a.take b.length == b
theorem goodB_len {b : List (List Nat)} (h : goodB b = true) : 1 ≤ b.length ∧ b.length ≤ 5 := by
  simp only [goodB, Bool.and_eq_true, decide_eq_true_eq] at h; exact ⟨h.1, h.2.1⟩
theorem goodB_beg {b : List (List Nat)} (h : goodB b = true) : b.all beg = true := by
  simp only [goodB, Bool.and_eq_true, decide_eq_true_eq] at h; exact h.2.2
theorem goodB_of {b : List (List Nat)} (h1 : 1 ≤ b.length) (h2 : b.length ≤ 5) (h : b.all beg = true) : goodB b = true := by
  simp only [goodB, h, Bool.and_true, Bool.and_eq_true, decide_eq_true_eq]; exact ⟨h1, h2⟩
theorem goodB_l {b : List (List Nat)} (h : goodB b = true) : ∀ l ∈ b, l.length ≤ 5 := fun l hl => beg_len (List.all_eq_true.mp (goodB_beg h) l hl)
section
variable {K : PySem.W.Frag} {M : WM K} {s : M.S} {pull : Dfs M} {xt : Xt}
end
end VK

namespace VK
open PySem PySem.Spec PyProof.Rows L2 VQ
section
variable {K : PySem.W.Frag} {N : OM K} {α : Type}
theorem flatL_strs : ∀ b : List (List Nat), flatL (b.map .str) = true
  | [] => rfl
  | _ :: r => by simp [flatL, flat, flatL_strs r]
theorem flatL_boxes : ∀ l : List (List (List Nat)), flatL (l.map boxS) = true
  | [] => rfl
  | b :: r => by
    have h1 : flat (boxS b) = true := flatL_strs b
    show (flat (boxS b) && flatL (r.map boxS)) = true
    rw [h1, flatL_boxes r]; rfl
theorem flat_boxes (l : List (List (List Nat))) : flatR (.fr (.lst (l.map boxS))) = true := flatL_boxes l
end
end VK

namespace VK
open PySem PySem.Spec PyProof.Rows L2 VQ
section
variable {K : PySem.W.Frag} {M : WM K} {s s' : M.S} {pull : Dfs M} {xt : Xt} {ρ : Nv} {P : Fl × M.S → Prop} {E : Xs M → Prop} {α : Type}
/-- a beginning with its last sign turned -/
def flip (l : List Nat) : List Nat := l.dropLast ++ (if l.getLast? = some 48 then [49] else [48])
theorem flip_len {l : List Nat} (h : l ≠ []) : (flip l).length = l.length := by
  have : 0 < l.length := List.length_pos_iff.mpr h
  unfold flip
  split <;> simp <;> omega
theorem flip_beg {l : List Nat} (h : beg l = true) (hn : l ≠ []) : beg (flip l) = true := by
  simp only [beg, Bool.and_eq_true, decide_eq_true_eq, List.all_eq_true] at h ⊢
  refine ⟨by rw [flip_len hn]; exact h.1, fun c hc => ?_⟩
  unfold flip at hc
  rcases List.mem_append.mp hc with hc | hc
  · exact h.2 c (List.dropLast_subset _ hc)
  · split at hc <;> (simp at hc; subst hc; rfl)
theorem beg_app {a b : List Nat} (ha : a.all isSign = true) (hb : b.all isSign = true) {k : Nat} (hk : k ≤ 5) : beg ((a ++ b).take k) = true := by
  simp only [beg, Bool.and_eq_true, decide_eq_true_eq, List.all_eq_true, List.length_take] at ha hb ⊢
  refine ⟨by omega, fun c hc => ?_⟩
  rcases List.mem_append.mp (List.mem_of_mem_take hc) with h | h
  · exact ha c h
  · exact hb c h
theorem beg_sign {l : List Nat} (h : beg l = true) : l.all isSign = true := by
  simp only [beg, Bool.and_eq_true] at h; exact h.2
theorem flip_s {l : List Nat} (hl : l.length ≤ 1000) (hn : l ≠ []) : ∃ c, atI l (-1) = some c ∧ l.length ≤ big ∧ addD (.str l.dropLast) (.str (if ([c] == [48]) = true then [49] else [48])) = some (.sh (.str (flip l))) := by
  have hg : l.getLast? = some (l.getLast hn) := List.getLast?_eq_some_getLast hn
  refine ⟨l.getLast hn, at_last l hn, by unfold big; omega, ?_⟩
  have ha := fun c : Nat => add_ss (a := l.dropLast) (b := [c]) (by rw [List.length_dropLast]; show _ + 1 ≤ 1000000; omega)
  by_cases h49 : l.getLast hn = 48
  · simp [ha, flip, hg, h49]
  · simp [ha, flip, hg, h49]
theorem nearBox_spec (hp : PullOk pull) {b : List (List Nat)} (hb : b.all beg = true) (hl : b.length ≤ 5) : Al (w_law_near_box M pull [.obj 0, boxS b] s) (fun r => ∃ b' : List (List Nat), b'.length = b.length ∧ b'.all beg = true ∧ r = (.sh (boxS b'), s)) (fun _ => False) := by
  have h6 : ∀ s, pull [.obj 0, .int 6] s = _ := hp 6 (by decide) (by decide)
  unfold w_law_near_box s_law_near_box
  walk_at "A"
  refine for_alp b (fun l => .str l) (fun pr ρ t => t = s ∧ ∃ (f : List (List Nat)) (x y : Option VV), f.length = pr.length ∧ f.all beg = true ∧ ρ = [some (.sh (.obj 0)), some (.sh (boxS b)), some (.ow (.lst (f.map .str))), x, y]) (s' := s) ?e ⟨rfl, [], none, none, rfl, rfl, rfl⟩ ?h ?k
  case e => walk_at "U"; rfl
  case h =>
    intro pr l post hpr ρ t ⟨ht, f, x, y, hf, hfb, hρ⟩
    subst ht hρ
    have hbl : beg l = true := List.all_eq_true.mp hb l (by rw [hpr]; simp)
    have hpl : pr.length < 5 := by have := congrArg List.length hpr; simp at this; omega
    refine ⟨_, rfl, ?_⟩
    walk_at "A"
    simp only [h6]
    walk_at "A"
    refine .draw (by decide) fun w hw => ?_
    have hw' : ((w : Nat) : Int) = 0 ∨ ((w : Nat) : Int) = 1 ∨ ((w : Nat) : Int) = 2 ∨ ((w : Nat) : Int) = 3 ∨ ((w : Nat) : Int) = 4 ∨ ((w : Nat) : Int) = 5 := by omega
    have hlen : f.length < big := by show _ < 1000000; omega
    have h5 := beg_len hbl
    have hlb : l.length ≤ big := by show _ ≤ 1000000; omega
    have goal : ∀ l', beg l' = true → ∀ x y, ∃ ρ2, (Fl.nx [some (VV.sh (.obj 0)), some (.sh (boxS b)), some (.ow (.lst (f.map D.str ++ [.str l']))), x, y]) = .nx ρ2 ∧ ∃ (f' : List (List Nat)) (x y : Option VV), f'.length = (pr ++ [l]).length ∧ f'.all beg = true ∧ ρ2 = [some (.sh (.obj 0)), some (.sh (boxS b)), some (.ow (.lst (f'.map .str))), x, y] :=
      fun l' h x y => ⟨_, rfl, f ++ [l'], x, y, by simp [hf], by rw [List.all_append, hfb]; simp [h], by simp⟩
    rcases hw' with e | e | e | e | e | e
    all_goals
      simp only [e]
      walk_at "A"
    · refine Al.btox (begin_spec hp) fun r hr => ?_
      obtain ⟨l', hl', rfl⟩ := hr
      walk_at "A"
      simp only [List.length_map, hlen]
      walk_at "A"
      exact goal l' hl' _ _
    · by_cases hn : l = []
      · have hq : (l == []) = true := by simp [hn]
        simp only [hq]
        walk_at "A"
        simp only [List.length_map, hlen]
        walk_at "A"
        exact goal l hbl _ _
      · have hq : (l == []) = false := by simp [hn]
        obtain ⟨c, c1, c2, c3⟩ := flip_s (by omega : l.length ≤ 1000) hn
        simp only [hq, c1, c2]
        walk_at "A"
        by_cases hc : ([c] == [48]) = true
        all_goals
          simp only [hc, if_true, if_false, Bool.false_eq_true] at c3
          simp only [hc]
          walk_at "A"
          simp only [c3]
          walk_at "A"
          simp only [List.length_map, hlen]
          walk_at "A"
          exact goal _ (flip_beg hbl hn) _ _
    · simp only [hlb]
      walk_at "A"
      have hp2 : ∀ s, pull [.obj 0, .int (((l.length : Nat) : Int) + 1)] s = _ := fun s => hp (l.length + 1) (by omega) (by omega) s
      simp only [hp2]
      walk_at "A"
      refine .draw (by omega) fun k hk => ?_
      walk_at "A"
      simp only [List.length_map, hlen]
      walk_at "A"
      exact goal _ (beg_take hbl k) _ _
    · refine Al.btox (worth_spec hp) fun r hr => ?_
      obtain ⟨n, hn, rfl⟩ := hr
      walk_at "A"
      simp only [figs_eq]
      walk_at "A"
      have ha := add_ss (a := l) (b := b5 (n : Nat)) (by rw [b5_len]; show _ ≤ 1000000; omega)
      have hb2 : (l ++ b5 (n : Nat)).length ≤ big := by rw [List.length_append, b5_len]; show _ ≤ 1000000; omega
      simp only [ha]
      walk_at "A"
      simp only [hb2, show cutL (l ++ b5 (n : Nat)) none (some 5) = (l ++ b5 (n : Nat)).take 5 from cut_to _ 5]
      walk_at "A"
      simp only [List.length_map, hlen]
      walk_at "A"
      exact goal _ (beg_app (beg_sign hbl) (beg_sign (b5_beg _)) (by omega)) _ _
    all_goals
      simp only [List.length_map, hlen]
      walk_at "A"
      exact goal l hbl _ _
  case k =>
    intro ρ t ⟨ht, f, x, y, hf, hfb, hρ⟩
    subst ht hρ
    walk_at "A"
    simp only [tupleD]
    walk_at "A"
    exact ⟨f, hf, hfb, rfl⟩
end
end VK

namespace VK
open PySem PySem.Spec PyProof.Rows L2 VQ
section
variable {K : PySem.W.Frag} {M : WM K} {s : M.S} {pull : Dfs M} {xt : Xt}
end
end VK

namespace VK
open PySem PySem.Spec PyProof.Rows L2 VQ
section
variable {K : PySem.W.Frag} {M : WM K} {s : M.S} {pull : Dfs M} {xt : Xt}
end
end VK

namespace VK
open PySem PySem.Spec PyProof.Rows L2 VQ
end VK

namespace VK
open PySem PySem.Spec PyProof.Rows L2 VQ
section
variable {K : PySem.W.Frag} {M : WM K} {s : M.S} {pull : Dfs M}
def oT : Option (List Nat) → D
  | some l => .str l
  | none => .non
end
end VK

namespace VK
open PySem PySem.Spec PyProof.Rows L2 VQ
section
variable {K : PySem.W.Frag} {M : WM K} {s : M.S} {pull : Dfs M}
end
end VK

namespace VK
open PySem PySem.Spec PyProof.Rows L2 VQ
section
variable {K : PySem.W.Frag} {M : WM K} {s : M.S} {pull : Dfs M}
end
end VK

namespace VK
open PySem PySem.Spec PyProof.Rows L2 VQ
section
variable {K : PySem.W.Frag} {M : WM K} {s : M.S} {pull : Dfs M}
end
end VK

namespace VK
open PySem PySem.Spec PyProof.Rows L2 VQ
section
variable {K : PySem.W.Frag} {N : OM K} {α : Type}
abbrev Bx := List (List Nat)
theorem f1_out {m : List Nat} {i : Nat} (h : m.contains i = false) (o : Option VQ.VV) : frz1 m i o = o := by
  cases o with
  | none => rfl
  | some v => cases v with
    | sh _ => rfl
    | ow _ => simp only [frz1, h]; rfl
end
end VK

namespace VK
open PySem PySem.Spec PyProof.Rows L2 VQ
section
variable {K : PySem.W.Frag} {N : OM K} {α : Type}
def wholeB (many : Nat) : Bx := List.replicate many []
end
end VK

namespace VK
open PySem PySem.Spec PyProof.Rows L2 VQ
section
/-- a box of one point -/
def full (many : Nat) (c : Bx) : Prop := c.length = many ∧ ∀ l ∈ c, l.length = 5 ∧ l.all isSign = true
end
end VK

namespace VK
open PySem PySem.Spec PyProof.Rows L2 VQ
section
variable {K : PySem.W.Frag} {N : OM K} {α : Type}
/-- a store at the cells a, p: its room, its boxes -/
structure StA (a p : Nat) (s : Ost) (many : Nat) (pile : List Bx) : Prop where
  ins : s[a]? = some (some (.ins "Store" [("places", .int (many : Nat)), ("pile", .obj (p + 1))]))
  pl : s[p]? = some (some (.lst (pile.map boxS)))
  ne : a ≠ p
section
variable {a p : Nat} {s : Ost} {many : Nat} {pile : List Bx}
theorem scls_of {n : Nat} {x : PySem.Str} {fs : List (PySem.Str × D)} (h : s[n]? = some (some (.ins x fs))) : clsAt s (.obj (n + 1)) = some x := by
  show (match s[n]? with | some (some (.ins x _)) => some x | _ => none) = _
  rw [h]
theorem sfld_of {n : Nat} {x f : PySem.Str} {fs : List (PySem.Str × D)} (h : s[n]? = some (some (.ins x fs))) : fldAt s f (.obj (n + 1)) = fs.lookup f := by
  show (match s[n]? with | some (some (.ins _ fs)) => fs.lookup f | _ => none) = _
  rw [h]
theorem slst_of {n : Nat} {l : List D} (h : s[n]? = some (some (.lst l))) : lstAt s (.obj (n + 1)) = some l := by
  show (match s[n]? with | some (some (.lst l)) => some l | _ => none) = _
  rw [h]
theorem sdrf_of {n : Nat} {l : List D} (h : s[n]? = some (some (.lst l))) : drf s (.obj (n + 1)) = .lst l := by
  show (match s[n]? with | some (some (.lst l)) => D.lst l | some (some (.dk l)) => .dk l | some (some (.dt l)) => .dt l | _ => .obj (n + 1)) = _
  rw [h]
theorem StA.clsE (h : StA a p s many pile) : clsAt s (.obj (a + 1)) = some ("Store" : PySem.Str) := scls_of h.ins
theorem StA.cls (h : StA a p s many pile) : (clsAt s (.obj (a + 1)) == some ("Store" : PySem.Str)) = true := by rw [h.clsE]; rfl
theorem StA.fpl (h : StA a p s many pile) : fldAt s "places" (.obj (a + 1)) = some (.int (many : Nat)) := (sfld_of h.ins).trans rfl
theorem StA.fpi (h : StA a p s many pile) : fldAt s "pile" (.obj (a + 1)) = some (.obj (p + 1)) := (sfld_of h.ins).trans rfl
theorem StA.ll (h : StA a p s many pile) : lstAt s (.obj (p + 1)) = some (pile.map boxS) := slst_of h.pl
theorem StA.drf (h : StA a p s many pile) : VQ.drf s (.obj (p + 1)) = .lst (pile.map boxS) := sdrf_of h.pl
theorem StA.set (h : StA a p s many pile) (b : Bx) : setLst s (.obj (p + 1)) (pile.map boxS ++ [boxS b]) = stSet s p (.lst ((pile ++ [b]).map boxS)) := by
  rw [List.map_append]; rfl
theorem StA.put (h : StA a p s many pile) (b : Bx) : StA a p (stSet s p (.lst ((pile ++ [b]).map boxS))) many (pile ++ [b]) := by
  have hlt := (List.getElem?_eq_some_iff.mp h.pl).1
  have ne := h.ne
  refine ⟨?_, ?_, ne⟩
  · unfold stSet; rw [List.getElem?_set_ne (fun e => ne e.symm)]; exact h.ins
  · unfold stSet; rw [List.getElem?_set_self hlt]
theorem StA.other {a2 p2 : Nat} {many2 : Nat} {pile2 : List Bx} (h2 : StA a2 p2 s many2 pile2) (n1 : p ≠ a2) (n2 : p ≠ p2) (c : Cell) : StA a2 p2 (stSet s p c) many2 pile2 := by
  refine ⟨?_, ?_, h2.ne⟩
  · unfold stSet; rw [List.getElem?_set_ne n1]; exact h2.ins
  · unfold stSet; rw [List.getElem?_set_ne n2]; exact h2.pl
theorem StA.more (h : StA a p s many pile) (t : Ost) : StA a p (s ++ t) many pile := by
  have h1 := (List.getElem?_eq_some_iff.mp h.ins).1
  have h2 := (List.getElem?_eq_some_iff.mp h.pl).1
  exact ⟨by rw [List.getElem?_append_left h1]; exact h.ins, by rw [List.getElem?_append_left h2]; exact h.pl, h.ne⟩
theorem flat_put (hf : s.all flatC = true) (l : List Bx) : (stSet s p (.lst (l.map boxS))).all flatC = true := by
  rw [List.all_eq_true] at hf ⊢
  intro c hc
  rcases List.mem_or_eq_of_mem_set hc with h | h
  · exact hf c h
  · rw [h]; exact flatL_boxes l
end
theorem firstOver_A {a p : Nat} {s : N.w.S} {many : Nat} {pile : List (List (List Nat))} (hs : StA a p s many pile) (b : List (List Nat)) (hb : b.length = many) (hm : many ≤ 5) (hp : ∀ q ∈ pile, q.length = many) : w_Store_first_over N [.obj (a + 1), boxS b] s = .ret (.sh (oBx (pile.find? (inB b))), s) := by
  unfold w_Store_first_over s_Store_first_over
  walk_at "U"
  simp only [sForW, eFld]
  walk_at "U"
  repeat (simp only [eFld, hs.fpi, hs.ll]; try walk_at "U")
  have hu := fun (q : List (List Nat)) (hq : q.length = many) => under_zip (M := N.w) (s := s) (a := b) (b := q) (by rw [hb, hq]) (by omega)
  have this := loopW_find (N := N) (g := gtName 2) (body := sIf [] (eTest truD (eSeen (eCall 2 (w_under N.w) [] (eCons (eVar N.w 1) (eCons (eVar N.w 2) eNil))))) (sRet [] (eSh (eVar N.w 2))) sNil) pile boxS (fun o => [some (.sh (.obj (a + 1))), some (.sh (boxS b)), o.map fun q => .sh (boxS q)]) (inB b) (fun q => .sh (boxS q)) (hs.ll) (fun o q hq => ⟨_, rfl, by
      walk_at "U"
      simp only [hu q (hp q hq)]
      walk_at "U"
      unfold inB
      cases ((b.zip q).all fun x => x.1.take x.2.length == x.2) <;> rfl⟩) ((pile.map boxS).length + 1) 0 none (by simp) (Nat.zero_le _)
  rw [List.drop_zero, Option.or_none] at this
  cases hf : pile.find? (inB b) with
  | some q =>
    rw [hf] at this
    have hl : loopW (M := N) (gtName 2) (sIf [] (eTest truD (eSeen (eCall 2 (w_under N.w) [] (eCons (eVar N.w 1) (eCons (eVar N.w 2) eNil))))) (sRet [] (eSh (eVar N.w 2))) sNil) (.obj (p + 1)) ((pile.map boxS).length + 1) 0 [some (.sh (.obj (a + 1))), some (.sh (boxS b)), none] s = .ret (.rt (.sh (boxS q)), s) := this
    simp only [hl]
    walk_at "U"
    try rfl
  | none =>
    rw [hf] at this
    have hl : loopW (M := N) (gtName 2) (sIf [] (eTest truD (eSeen (eCall 2 (w_under N.w) [] (eCons (eVar N.w 1) (eCons (eVar N.w 2) eNil))))) (sRet [] (eSh (eVar N.w 2))) sNil) (.obj (p + 1)) ((pile.map boxS).length + 1) 0 [some (.sh (.obj (a + 1))), some (.sh (boxS b)), none] s = .ret (.nx [some (.sh (.obj (a + 1))), some (.sh (boxS b)), (pile.getLast?).map fun q => .sh (boxS q)], s) := this
    simp only [hl]
    walk_at "U"
    try rfl
theorem need_A {a p : Nat} {s : N.w.S} {many : Nat} {pile : List (List (List Nat))} (hs : StA a p s many pile) (b : List (List Nat)) (gb : goodB b = true) (hb : b.length = many) : w_Store_need N [.obj (a + 1), boxS b] s = .ret (.sh .non, s) := by
  unfold w_Store_need s_Store_need
  have hi := fun t => isbox_any (M := N.w) (s := t) (boxS b) (okB_B gb)
  have hbx := boxD_S gb
  have hlen : (b.map D.str).length ≤ big := by
    have := (goodB_len gb).2
    rw [List.length_map]; show _ ≤ 1000000; omega
  have hq : (((b.length : Nat) : Int) == ((many : Nat) : Int)) = true := by simp [hb]
  have hlm : (b.map D.str).length = b.length := List.length_map _
  walk_at "U"
  repeat (simp only [hi, hbx, hlen, eFld, hs.fpl, n_ii, hlm, hq]; try walk_at "U")
theorem put_A {a p : Nat} {s : N.w.S} {many : Nat} {pile : List (List (List Nat))} (hs : StA a p s many pile) (b : List (List Nat)) (gb : goodB b = true) (hb : b.length = many) (hp : ∀ q ∈ pile, q.length = many) (hl : pile.length < 1000) :
    w_Store_put N [.obj (a + 1), boxS b] s = if (pile.any (inB b)) = true then .ret (.sh (.bl false), s) else .ret (.sh (.bl true), (stSet (s : Ost) p (.lst ((pile ++ [b]).map boxS)) : Ost)) := by
  unfold w_Store_put s_Store_put
  have hm5 : many ≤ 5 := by rw [← hb]; exact (goodB_len gb).2
  have hn := need_A hs b gb hb
  have hf := firstOver_A hs b hb hm5 hp
  have hpl : (pile.map boxS).length < big := by rw [List.length_map]; show _ < 1000000; omega
  have hc := hs.cls
  cases hfd : pile.find? (inB b) with
  | some q =>
    rw [hfd] at hf
    have hany : pile.any (inB b) = true := by
      rw [List.any_eq_true]
      exact ⟨q, List.mem_of_find?_eq_some hfd, List.find?_some hfd⟩
    rw [if_pos hany]
    walk_at "U"
    repeat (simp only [eMeth, hc, hn, hf, oBx]; try walk_at "U")
  | none =>
    rw [hfd] at hf
    have hany : pile.any (inB b) = false := by
      rw [List.any_eq_false]
      exact List.find?_eq_none.mp hfd
    rw [hany]
    walk_at "U"
    repeat (simp only [eMeth, hc, hn, hf, oBx, eAppW, eFld, hs.fpi, hs.ll, hpl, hs.set]; try walk_at "U")
theorem boxes_A {a p : Nat} {s : N.w.S} {many : Nat} {pile : List (List (List Nat))} (hs : StA a p s many pile) : w_Store_boxes N [.obj (a + 1)] s = .ret (.fr (.lst (pile.map boxS)), s) := by
  unfold w_Store_boxes s_Store_boxes
  walk_at "U"
  repeat (simp only [eFunU, eFld, hs.fpi, hs.drf, List.map_cons, List.map_nil, listD, opF, flat_boxes]; try walk_at "U")
end
end VK

namespace VK
open PySem PySem.Spec PyProof.Rows L2 VQ
section
variable {K : PySem.W.Frag} {N : OM K} {a p a2 p2 : Nat} {s : N.w.S} {many many2 : Nat} {pile pile2 : List Bx}
/-- no box of a room of so many places -/
def oddB (many : Nat) (d : D) : Prop := okB d = true ∧ (boxD d = false ∨ ∃ b : Bx, d = boxS b ∧ goodB b = true ∧ b.length ≠ many)
def badX : Exc := ⟨"BadBox", x_BadBox.map (fD [])⟩
theorem need_badA (hs : StA a p s many pile) {d : D} (h : oddB many d) : w_Store_need N [.obj (a + 1), d] s = .exc (badX, s) := by
  have hi := fun t => isbox_any (M := N.w) (s := t) d h.1
  unfold w_Store_need s_Store_need badX
  rcases h.2 with hb | ⟨b, rfl, gb, hl⟩
  · walk_at "U"
    repeat (simp only [hi, hb]; try walk_at "U")
  · have hbx := boxD_S gb
    have hlen : (b.map D.str).length ≤ big := by
      have := (goodB_len gb).2
      rw [List.length_map]; show _ ≤ 1000000; omega
    have hq : (((b.length : Nat) : Int) == ((many : Nat) : Int)) = false := by rw [beq_eq_false_iff_ne]; omega
    have hlm : (b.map D.str).length = b.length := List.length_map _
    walk_at "U"
    repeat (simp only [hi, hbx, hlen, eFld, hs.fpl, n_ii, hlm, hq]; try walk_at "U")
theorem put_bad (hs : StA a p s many pile) {d : D} (h : oddB many d) : w_Store_put N [.obj (a + 1), d] s = .exc (badX, s) := by
  have hn := need_badA hs h
  have hc := hs.cls
  unfold w_Store_put s_Store_put
  walk_at "U"
  repeat (simp only [eMeth, hc, hn]; try walk_at "U")
theorem over_bad (hs : StA a p s many pile) {d : D} (h : oddB many d) : w_Store_over N [.obj (a + 1), d] s = .exc (badX, s) := by
  have hn := need_badA hs h
  have hc := hs.cls
  unfold w_Store_over s_Store_over
  walk_at "U"
  repeat (simp only [eMeth, hc, hn]; try walk_at "U")
theorem over_A (hs : StA a p s many pile) (b : Bx) (gb : goodB b = true) (hb : b.length = many) (hp : ∀ q ∈ pile, q.length = many) : w_Store_over N [.obj (a + 1), boxS b] s = .ret (.sh (oBx (pile.find? (inB b))), s) := by
  have hm5 : many ≤ 5 := by rw [← hb]; exact (goodB_len gb).2
  have hn := need_A hs b gb hb
  have hf := firstOver_A hs b hb hm5 hp
  have hc := hs.cls
  unfold w_Store_over s_Store_over
  walk_at "U"
  repeat (simp only [eMeth, hc, hn, hf]; try walk_at "U")
theorem len_A (hs : StA a p s many pile) (hl : pile.length ≤ 1000) : w_Store___len__ N [.obj (a + 1)] s = .ret (.sh (.int (pile.length : Nat)), s) := by
  have hb : (pile.map boxS).length ≤ big := by rw [List.length_map]; show _ ≤ 1000000; omega
  have hlm : (pile.map boxS).length = pile.length := List.length_map _
  have hfr : ∀ i, flatR (.sh (.int i)) = true := fun _ => rfl
  unfold w_Store___len__ s_Store___len__
  walk_at "U"
  repeat (simp only [eFunU, eFld, hs.fpi, hs.drf, List.map_cons, List.map_nil, opF, lenD, hb, hlm, hfr]; try walk_at "U")
theorem eq_AA (hs : StA a p s many pile) (hs2 : StA a2 p2 s many2 pile2) (hpl : pl 40 (.lst (pile.map boxS)) = true) (hpl2 : pl 40 (.lst (pile2.map boxS)) = true) : w_Store___eq__ N [.obj (a + 1), .obj (a2 + 1)] s = .ret (.sh (.bl (decide (many = many2) && eqD (.lst (pile.map boxS)) (.lst (pile2.map boxS)))), s) := by
  have hi : isOD "Store" (s : Ost) (.obj (a2 + 1)) = some true := by
    show (clsAt (s : Ost) (.obj (a2 + 1))).map _ = _
    rw [hs2.clsE]; rfl
  have hq : eqO (.lst (pile.map boxS)) (.lst (pile2.map boxS)) = some (eqD (.lst (pile.map boxS)) (.lst (pile2.map boxS))) := by
    unfold eqO
    rw [hpl, hpl2, Bool.and_self, Bool.or_true, if_pos rfl]
  have hm : (((many : Nat) : Int) == ((many2 : Nat) : Int)) = decide (many = many2) := by
    by_cases h : many = many2
    · rw [decide_eq_true h, h, beq_self_eq_true]
    · rw [decide_eq_false h, beq_eq_false_iff_ne]; omega
  have hfr : ∀ b, flatR (.sh (.bl b)) = true := fun _ => rfl
  unfold w_Store___eq__ s_Store___eq__
  cases hd : decide (many = many2) <;>
  · rw [hd] at hm
    walk_at "U"
    repeat (simp only [eIsO, hi, eFld, eBinUD, opF, hfr, hs.fpl, hs2.fpl, hs.fpi, hs2.fpi, hs.drf, hs2.drf, hq, hm]; try walk_at "U")
theorem eq_list (hs : StA a p s many pile) (l : List D) : w_Store___eq__ N [.obj (a + 1), .lst l] s = .ret (.sh (.bl false), s) := by
  have hi : isOD "Store" (s : Ost) (.lst l) = some false := rfl
  unfold w_Store___eq__ s_Store___eq__
  walk_at "U"
  repeat (simp only [eIsO, hi]; try walk_at "U")
theorem eq_non (hs : StA a p s many pile) : w_Store___eq__ N [.obj (a + 1), .non] s = .ret (.sh (.bl false), s) := by
  have hi : isOD "Store" (s : Ost) .non = some false := rfl
  unfold w_Store___eq__ s_Store___eq__
  walk_at "U"
  repeat (simp only [eIsO, hi]; try walk_at "U")
end
end VK

namespace VK
open PySem PySem.Spec PyProof.Rows L2 VQ
section
variable {K : PySem.W.Frag} {N : OM K} {a p a2 p2 : Nat} {many many2 : Nat} {pile pile2 : List Bx}
theorem stFld_sh {o : Ost} {n : Nat} {x f : PySem.Str} {fs : List (PySem.Str × D)} {d : D} (h : o[n]? = some (some (.ins x fs))) (hc : (flOk x f && decide (fs.length < 100)) = true) : stFld o n f (.sh d) = some (stSet o n (.ins x (putD f d fs))) := by
  show (match o[n]? with | some (some (.ins x fs)) => _ | _ => none) = _
  rw [h]
  show (if _ then _ else _) = _
  rw [if_pos hc]
theorem stFld_fr {o : Ost} {n : Nat} {x f : PySem.Str} {fs : List (PySem.Str × D)} {l : List D} (h : o[n]? = some (some (.ins x fs))) (hc : (flOk x f && decide (fs.length < 100)) = true) : stFld o n f (.fr (.lst l)) = some (stSet (stAdd o (.lst l)) n (.ins x (putD f (nwD o) fs))) := by
  show (match o[n]? with | some (some (.ins x fs)) => _ | _ => none) = _
  rw [h]
  show (if _ then _ else _) = _
  rw [if_pos hc]
theorem flS : flOk "Store" "pile" = true := by decide +kernel
theorem npp : ¬ ((("places" : PySem.Str)) = "pile") := by decide
def newO (o : Ost) (many : Nat) : Ost := o ++ [some (.ins "Store" [("places", .int (many : Nat)), ("pile", .obj (o.length + 1 + 1))]), some (.lst [])]
theorem init_A (o : Ost) (many : Nat) : w_Store___init__ N [.obj (o.length + 1), .int (many : Nat)] (stAdd o (.ins "Store" []) : Ost) = .ret (.sh .non, (newO o many : Ost)) := by
  have h1 : (stAdd o (.ins "Store" []))[o.length]? = some (some (.ins "Store" [])) := by unfold stAdd; simp
  have e1 : stFld (stAdd o (.ins "Store" [])) o.length "places" (.sh (.int (many : Nat))) = some (o ++ [some (.ins "Store" [("places", .int (many : Nat))])]) := by
    rw [stFld_sh h1 (by decide +kernel)]
    unfold stSet stAdd
    simp [putD]
  have h2 : (o ++ [some (.ins "Store" [("places", .int (many : Nat))])] : Ost)[o.length]? = some (some (.ins "Store" [("places", .int (many : Nat))])) := by simp
  have e2 : stFld (o ++ [some (.ins "Store" [("places", .int (many : Nat))])]) o.length "pile" (.fr (.lst [])) = some (newO o many) := by
    rw [stFld_fr h2 (by rw [flS]; rfl)]
    unfold stSet stAdd newO nwD
    simp [putD, npp]
  unfold w_Store___init__ s_Store___init__
  walk_at "U"
  repeat (simp only [sFldS, e1, e2]; try walk_at "U")
theorem new_A (many : Nat) (o : Ost) (ρ : Dv) (el : Ev N.w (List D)) (s0 : N.w.S) (he : el ρ s0 = .ret ([.int (many : Nat)], (o : Ost))) : eNew (M := N) "Store" 2 (w_Store___init__ N) [] el ρ s0 = .ret (.obj (o.length + 1), (newO o many : Ost)) := by
  have hi := init_A (N := N) o many
  unfold eNew
  rw [he]
  simp only [G.bind_ret]
  have hnw : nwD o = .obj (o.length + 1) := rfl
  rw [if_pos (by rfl)]
  simp only [hnw, List.append_nil]
  rw [hi]
  rfl
theorem newO_st (o : Ost) (many : Nat) : StA o.length (o.length + 1) (newO o many) many [] := by
  unfold newO
  refine ⟨by simp, by simp, by omega⟩
/-- a twin made: the store, a pile that nobody holds, the pile -/
def twinO (o : Ost) (many : Nat) (pile : List Bx) : Ost := o ++ [some (.ins "Store" [("places", .int (many : Nat)), ("pile", .obj (o.length + 2 + 1))]), some (.lst []), some (.lst (pile.map boxS))]
theorem twinO_st (o : Ost) (many : Nat) (pile : List Bx) : StA o.length (o.length + 2) (twinO o many pile) many pile := by
  unfold twinO
  refine ⟨by simp, by simp, by omega⟩
theorem twin_fld (o : Ost) (many : Nat) (pile : List Bx) : stFld (newO o many) o.length "pile" (.fr (.lst (pile.map boxS))) = some (twinO o many pile) := by
  rw [stFld_fr (newO_st o many).ins (by rw [flS]; rfl)]
  unfold stSet stAdd newO nwD twinO
  simp [putD, npp]
theorem twin_A {s : N.w.S} (hs : StA a p s many pile) : w_Store_twin N [.obj (a + 1)] s = .ret (.sh (.obj ((s : Ost).length + 1)), (twinO s many pile : Ost)) := by
  have hn := new_A (N := N) many (s : Ost) [some (.obj (a + 1)), none] (eCons (M := N.w) (eFld (M := N) "places" (eVar N.w 0)) (eNil (M := N.w))) s (by walk_at "U"; repeat (simp only [eFld, hs.fpl]; try walk_at "U"))
  have hs2 : StA a p (newO s many) many pile := hs.more _
  have e2 := twin_fld (s : Ost) many pile
  unfold w_Store_twin s_Store_twin
  generalize hg : eNew (M := N) "Store" 2 (w_Store___init__ N) [] (eCons (M := N.w) (eFld (M := N) "places" (eVar N.w 0)) (eNil (M := N.w))) = g at hn ⊢
  walk_at "U"
  simp only [hn]
  walk_at "U"
  repeat (simp only [sFldS, eFunU, eFld, hs2.fpi, hs2.drf, List.map_cons, List.map_nil, listD, opF, flat_boxes, e2]; try walk_at "U")
theorem fig9 : ∀ n, n ≤ 9 → figD ((n : Nat) : Int) = [48 + n] := by decide
theorem repr_A {s : N.w.S} (hs : StA a p s many pile) (hl : pile.length ≤ 9) : w_Store___repr__ N [.obj (a + 1)] s = .ret (.sh (.str ([83, 116, 111, 114, 101, 40] ++ [48 + pile.length] ++ [32, 98, 111, 120, 101, 115, 41])), s) := by
  have hb : (pile.map boxS).length ≤ big := by rw [List.length_map]; show _ ≤ 1000000; omega
  have hlm : (pile.map boxS).length = pile.length := List.length_map _
  have hfr : ∀ i, flatR (.sh (.int i)) = true := fun _ => rfl
  have hlg : ((pile.length : Nat) : Int).natAbs.log2 < 1920 := by
    rw [Int.natAbs_natCast]
    exact Nat.lt_of_le_of_lt (Nat.log2_le_self _) (by omega)
  have hfig := fig9 _ hl
  unfold w_Store___repr__ s_Store___repr__
  unfold eJs
  simp only [eJsG, eFmt]
  walk_at "U"
  repeat (simp only [eFunU, eFld, hs.fpi, hs.drf, List.map_cons, List.map_nil, opF, lenD, hb, hlm, hfr, fmtD, hlg, hfig]; try walk_at "U")
end
end VK

namespace VK
open PySem PySem.Spec PyProof.Rows L2 VQ
section
/-- boxes of one room, apart, every point in one -/
structure Part (many : Nat) (bs : List Bx) : Prop where
  good : ∀ b ∈ bs, goodB b = true ∧ b.length = many
  one : ∀ c, full many c → bs.countP (inB c) = 1
  vol : (bs.map fun b => 2 ^ vol b).sum = 32 ^ many
inductive Cuts (many : Nat) : List Bx → List (Bx × Bx × Bx) → Prop
  | nil : Cuts many [wholeB many] []
  | snoc {l r : List Bx} {b : Bx} {k : Nat} {cs : List (Bx × Bx × Bx)} (h : Cuts many (l ++ b :: r) cs) (hk : openK b = some k) : Cuts many (l ++ [halfB b k 48, halfB b k 49] ++ r) (cs ++ [(b, halfB b k 48, halfB b k 49)])
theorem pl_boxS {b : Bx} (gb : goodB b = true) (n : Nat) : pl (n + 2) (boxS b) = true := by
  show plL (n + 1) (b.map .str) = true
  have aux : ∀ l : Bx, l.all beg = true → plL (n + 1) (l.map .str) = true := by
    intro l
    induction l with
    | nil => intro _; rfl
    | cons x l ih =>
      intro h
      rw [List.all_cons, Bool.and_eq_true] at h
      show (pl (n + 1) (.str x) && plL (n + 1) (l.map .str)) = true
      rw [ih h.2, Bool.and_true]
      have hs := beg_sign h.1
      show (x.all fun c => decide (c < 1114112)) = true
      rw [List.all_eq_true] at hs ⊢
      intro c hc
      have := hs c hc
      simp only [isSign, Bool.or_eq_true, beq_iff_eq] at this
      exact decide_eq_true (by omega)
  exact aux b (goodB_beg gb)
end
end VK

namespace VK
open PySem PySem.Spec PyProof.Rows L2 VQ
section
variable {K : PySem.W.Frag} {N : OM K} {a p : Nat} {s : N.w.S} {many : Nat} {pile : List Bx}
theorem eqD_strs : ∀ b : Bx, eqDs (b.map .str) (b.map .str) = true
  | [] => rfl
  | x :: b => by
    show ((x == x) && eqDs (b.map .str) (b.map .str)) = true
    rw [eqD_strs b, beq_self_eq_true]; rfl
theorem eqD_pile : ∀ l : List Bx, eqDs (l.map boxS) (l.map boxS) = true
  | [] => rfl
  | b :: l => by
    show (eqDs (b.map .str) (b.map .str) && eqDs (l.map boxS) (l.map boxS)) = true
    rw [eqD_strs b, eqD_pile l]; rfl
theorem pl_pile {l : List Bx} (h : ∀ q ∈ l, goodB q = true) : pl 40 (.lst (l.map boxS)) = true := by
  show plL 39 (l.map boxS) = true
  induction l with
  | nil => rfl
  | cons b l ih =>
    show (pl 39 (boxS b) && plL 39 (l.map boxS)) = true
    rw [ih fun q hq => h q (List.mem_cons_of_mem _ hq), pl_boxS (h b List.mem_cons_self) 37]; rfl
theorem eqO_pile {l m : List Bx} (h : ∀ q ∈ l, goodB q = true) (h2 : ∀ q ∈ m, goodB q = true) : eqO (.lst (l.map boxS)) (.lst (m.map boxS)) = some (eqD (.lst (l.map boxS)) (.lst (m.map boxS))) := by
  unfold eqO
  rw [pl_pile h, pl_pile h2, Bool.and_self, Bool.or_true, if_pos rfl]
def nextP (pile : List Bx) (b : Bx) : List Bx := if pile.any (inB b) = true then pile else pile ++ [b]
def goodP5 (many : Nat) (pile : List Bx) : Prop := ∀ q ∈ pile, goodB q = true ∧ q.length = many
theorem nextP_good {b : Bx} (h : goodP5 many pile) (gb : goodB b = true) (hb : b.length = many) : goodP5 many (nextP pile b) := by
  unfold nextP
  split
  · exact h
  · intro q hq
    rcases List.mem_append.mp hq with hq | hq
    · exact h q hq
    · rw [List.mem_singleton.mp hq]; exact ⟨gb, hb⟩
theorem nextP_len (b : Bx) : (nextP pile b).length ≤ pile.length + 1 := by
  unfold nextP
  split
  · omega
  · simp
theorem stSet_len (o : Ost) (p : Nat) (c : Cell) : (stSet o p c).length = o.length := by unfold stSet; simp
theorem put_pk (hs : StA a p s many pile) (b : Bx) (gb : goodB b = true) (hb : b.length = many) (hp : goodP5 many pile) (hl : pile.length < 1000) (hf : (s : Ost).all flatC = true) :
    ∃ t : N.w.S, w_Store_put N [.obj (a + 1), boxS b] s = .ret (.sh (.bl (!pile.any (inB b))), t) ∧ StA a p t many (nextP pile b) ∧ (t : Ost).all flatC = true ∧ (t : Ost).length = (s : Ost).length ∧
      ∀ a2 p2 m2 pl2, StA a2 p2 (s : Ost) m2 pl2 → p ≠ a2 → p ≠ p2 → StA a2 p2 (t : Ost) m2 pl2 := by
  have h := put_A hs b gb hb (fun q hq => (hp q hq).2) hl
  unfold nextP
  cases hany : pile.any (inB b) with
  | true =>
    rw [hany, if_pos rfl] at h
    exact ⟨s, h, by rw [if_pos rfl]; exact hs, hf, rfl, fun _ _ _ _ h _ _ => h⟩
  | false =>
    rw [hany, if_neg (by decide)] at h
    exact ⟨(stSet (s : Ost) p (.lst ((pile ++ [b]).map boxS)) : Ost), h, by rw [if_neg (by decide)]; exact hs.put b, flat_put hf _, stSet_len _ _ _, fun _ _ _ _ h n1 n2 => StA.other h n1 n2 _⟩
theorem okS_box (n : Nat) {b : Bx} (hb : b.length ≤ 1000) : okS (n + 2) (boxS b) = true := by
  show (decide ((b.map D.str).length ≤ 1000) && okSs (n + 1) (b.map .str)) = true
  rw [List.length_map, decide_eq_true hb, Bool.true_and]
  induction b with
  | nil => rfl
  | cons x b ih =>
    show (true && okSs (n + 1) (b.map .str)) = true
    rw [ih (by rw [List.length_cons] at hb; omega)]; rfl
theorem okS_oBx (o : Option Bx) (h : ∀ b, o = some b → b.length ≤ 1000) : okS 6 (oBx o) = true := by
  cases o with
  | none => rfl
  | some b => exact okS_box 4 (h b rfl)
theorem storeRight_A (hs : StA a p s many pile) (hp : goodP5 many pile) (hl : pile.length ≤ 1000) (hf : (s : Ost).all flatC = true) (b : Bx) (gb : goodB b = true) (hb : b.length = many) : w_law_store_right N [.obj (a + 1), .lst (pile.map boxS), boxS b] s = .ret (.sh (.bl true), s) := by
  have hbx := boxes_A (N := N) hs
  have hov := over_A hs b gb hb fun q hq => (hp q hq).2
  have hc := hs.cls
  have hfl : N.w.flat s = true := hf
  have hq := eqO_pile (l := pile) (m := pile) (fun q hq => (hp q hq).1) (fun q hq => (hp q hq).1)
  have hrefl : eqD (.lst (pile.map boxS)) (.lst (pile.map boxS)) = true := eqD_pile pile
  rw [hrefl] at hq
  have hlc : ∀ (y3 : Option D), eLc (M := N.w) [4] (eItems (M := N.w) anyOf (eVar N.w 1)) (gdName 4) (eTest (M := N.w) truD (eSeen (M := N.w) (eCall (M := N.w) 2 (w_law_inside N.w) [] (eCons (M := N.w) (eVar N.w 2) (eCons (M := N.w) (eVar N.w 4) (eNil (M := N.w))))))) (eVar N.w 4) [some (.obj (a + 1)), some (.lst (pile.map boxS)), some (boxS b), y3, none] s = .ret (.fr (.lst ((pile.filter (inB b)).map boxS)), s) := fun y3 => by
    refine elc_fil pile boxS (inB b) boxS (by walk_at "U"; rfl) (by show _ ≤ 1000000; omega) fun x hx => ⟨_, rfl, ?_, fun _ => by walk_at "U"⟩
    have gl : ∀ {q : Bx}, goodB q = true → ∀ l ∈ q, l.length ≤ 1000 := fun {q} g l hl => by
      have := goodB_l g l hl; omega
    have hin := fun t => lawInside_eq (M := N.w) (s := t) (a := b) (b := x) (by have := (goodB_len gb).2; omega) (gl gb) (gl (hp x hx).1)
    walk_at "U"
    repeat (simp only [hin]; try walk_at "U")
    rfl
  have hhd : (pile.filter (inB b)).head? = pile.find? (inB b) := List.head?_filter
  have hfi : (pile.filter (inB b)).length ≤ 1000 := Nat.le_trans (List.length_filter_le ..) hl
  have hat : atI ((pile.filter (inB b)).map boxS ++ [D.non]) 0 = some (oBx (pile.find? (inB b))) := by
    rw [← hhd]
    cases pile.filter (inB b) with
    | nil => rfl
    | cons x l => exact atI_nat (j := 0) rfl
  have hbb : ((pile.filter (inB b)).map boxS ++ [D.non]).length ≤ big := by
    rw [List.length_append, List.length_map]; show _ + 1 ≤ 1000000; omega
  have hadd : addD (.lst ((pile.filter (inB b)).map boxS)) (.lst [D.non]) = some (.fr (.lst ((pile.filter (inB b)).map boxS ++ [D.non]))) := by
    show (if _ then _ else _) = _
    rw [if_pos]
    first
      | (simp; show _ ≤ 1000000; omega)
      | (rw [List.length_map]; constructor <;> first | (show _ ≤ 1000000; omega) | (show 1 ≤ 1000000; decide))
      | (rw [List.length_map]; show _ ≤ 1000000; simp; omega)
  have hsame := fun t => same_refl (M := N.w) (s := t) 6 (oBx (pile.find? (inB b))) (okS_oBx _ fun q hq => by
    have := (hp q (List.mem_of_find?_eq_some hq)).1
    have := (goodB_len this).2
    omega)
  unfold w_law_store_right s_law_store_right
  generalize hg : eLc (M := N.w) [4] (eItems (M := N.w) anyOf (eVar N.w 1)) (gdName 4) (eTest (M := N.w) truD (eSeen (M := N.w) (eCall (M := N.w) 2 (w_law_inside N.w) [] (eCons (M := N.w) (eVar N.w 2) (eCons (M := N.w) (eVar N.w 4) (eNil (M := N.w))))))) (eVar N.w 4) = g at hlc ⊢
  walk_at "U"
  repeat (simp only [hlc, hfl, eMeth, hc, hbx, hov, hq, hadd, hat, hbb, hsame]; try walk_at "U")
end
end VK

namespace VK
open PySem PySem.Spec PyProof.Rows L2 VQ
section
variable {K : PySem.W.Frag} {N : OM K} {s : N.w.S} {many : Nat} {pile : List Bx}
theorem newO_flat {o : Ost} (hf : o.all flatC = true) (many : Nat) : (newO o many).all flatC = true := by
  unfold newO
  rw [List.all_append, hf]; rfl
theorem newO_len (o : Ost) (many : Nat) : (newO o many).length = o.length + 2 := by unfold newO; simp
theorem twinO_flat {o : Ost} (hf : o.all flatC = true) (many : Nat) (pile : List Bx) : (twinO o many pile).all flatC = true := by
  unfold twinO
  rw [List.all_append, hf]
  show (true && (true && (flatL (pile.map boxS) && true))) = true
  rw [flatL_boxes]; rfl
/-- two stores side by side -/
structure Two (s : Ost) (a p a2 p2 many : Nat) (pile pile2 : List Bx) : Prop where
  one : StA a p s many pile
  two : StA a2 p2 s many pile2
  n1 : p ≠ a2
  n2 : p ≠ p2
  n3 : p2 ≠ a
  g1 : goodP5 many pile
  g2 : goodP5 many pile2
  fl : s.all flatC = true
theorem Two.put1 {a p a2 p2 : Nat} {pile pile2 : List Bx} {s : N.w.S} (h : Two (s : Ost) a p a2 p2 many pile pile2) (b : Bx) (gb : goodB b = true) (hb : b.length = many) (hl : pile.length < 1000) :
    ∃ t : N.w.S, w_Store_put N [.obj (a + 1), boxS b] s = .ret (.sh (.bl (!pile.any (inB b))), t) ∧ Two (t : Ost) a p a2 p2 many (nextP pile b) pile2 ∧ (t : Ost).length = (s : Ost).length := by
  obtain ⟨t, e, h1, h2, h3, h4⟩ := put_pk h.one b gb hb h.g1 hl h.fl
  exact ⟨t, e, ⟨h1, h4 _ _ _ _ h.two h.n1 h.n2, h.n1, h.n2, h.n3, nextP_good h.g1 gb hb, h.g2, h2⟩, h3⟩
theorem Two.put2 {a p a2 p2 : Nat} {pile pile2 : List Bx} {s : N.w.S} (h : Two (s : Ost) a p a2 p2 many pile pile2) (b : Bx) (gb : goodB b = true) (hb : b.length = many) (hl : pile2.length < 1000) :
    ∃ t : N.w.S, w_Store_put N [.obj (a2 + 1), boxS b] s = .ret (.sh (.bl (!pile2.any (inB b))), t) ∧ Two (t : Ost) a p a2 p2 many pile (nextP pile2 b) ∧ (t : Ost).length = (s : Ost).length := by
  obtain ⟨t, e, h1, h2, h3, h4⟩ := put_pk h.two b gb hb h.g2 hl h.fl
  exact ⟨t, e, ⟨h4 _ _ _ _ h.one h.n3 (Ne.symm h.n2), h1, h.n1, h.n2, h.n3, h.g1, nextP_good h.g2 gb hb, h2⟩, h3⟩
theorem eq_BB {a p a2 p2 : Nat} {pile pile2 : List Bx} {s : N.w.S} (h1 : StA a p s many pile) (h2 : StA a2 p2 s many pile2) (g1 : goodP5 many pile) (g2 : goodP5 many pile2) : w_Store___eq__ N [.obj (a + 1), .obj (a2 + 1)] s = .ret (.sh (.bl (eqD (.lst (pile.map boxS)) (.lst (pile2.map boxS)))), s) := by
  have h := eq_AA (N := N) h1 h2 (pl_pile fun q hq => (g1 q hq).1) (pl_pile fun q hq => (g2 q hq).1)
  rw [decide_eq_true rfl, Bool.true_and] at h
  exact h
theorem oth_A {a p : Nat} {s : Ost} (h : StA a p s many pile) : othO s (.obj (a + 1)) = true := by
  show (clsAt s (.obj (a + 1))).isSome = true
  rw [h.clsE]; rfl
theorem turned_A (hp : goodP5 many pile) (hl : pile.length ≤ 100) (hf : (s : Ost).all flatC = true) : Al (w_law_turned_stores N [.int (many : Nat), .lst (pile.map boxS)] s) (fun r => r.1 = .sh (.bl true)) (fun _ => False) := by
  obtain ⟨o, ho⟩ : ∃ o : Ost, o = s := ⟨_, rfl⟩
  obtain ⟨t1, ht1⟩ : ∃ t : N.w.S, t = (newO o many : Ost) := ⟨_, rfl⟩
  obtain ⟨t2, ht2⟩ : ∃ t : N.w.S, t = (newO (t1 : Ost) many : Ost) := ⟨_, rfl⟩
  have hn1 := new_A (N := N) many o [some (.int (many : Nat)), some (.lst (pile.map boxS)), none, none, none] (eCons (M := N.w) (eVar N.w 0) (eNil (M := N.w))) s (by rw [ho]; walk_at "U")
  have hn2 := new_A (N := N) many (t1 : Ost) [some (.int (many : Nat)), some (.lst (pile.map boxS)), none, none, none] (eCons (M := N.w) (eVar N.w 0) (eNil (M := N.w))) t1 (by walk_at "U")
  rw [← ht1] at hn1
  rw [← ht2] at hn2
  have hl1 : (t1 : Ost).length = o.length + 2 := by rw [ht1]; exact newO_len _ _
  have f1 : (t1 : Ost).all flatC = true := by rw [ht1]; exact newO_flat (ho ▸ hf) _
  have hT : Two (t2 : Ost) o.length (o.length + 1) (t1 : Ost).length ((t1 : Ost).length + 1) many [] [] := by
    refine ⟨?_, (by rw [ht2]; exact newO_st _ _), by omega, by omega, by omega, (fun q hq => by cases hq), (fun q hq => by cases hq), (by rw [ht2]; exact newO_flat f1 _)⟩
    rw [ht2]
    unfold newO
    refine StA.more ?_ _
    rw [ht1]
    exact newO_st o many
  generalize (t1 : Ost).length = a2 at hn2 hT
  generalize o.length = a1 at hn1 hT
  generalize a1 + 1 = p1 at hT
  have hsl : (cutL (pile.map boxS) none (some 2)) = (pile.take 2).map boxS := by rw [List.map_take]; exact cut_to _ 2
  have hbl : ∀ {l : List Bx}, l.length ≤ 100 → (l.map boxS).length ≤ big := fun {l} h => by rw [List.length_map]; show _ ≤ 1000000; omega
  have gt : ∀ b ∈ pile.take 2, goodB b = true ∧ b.length = many := fun b hb => hp b (List.mem_of_mem_take hb)
  have hlt : (pile.take 2).length ≤ 2 := by rw [List.length_take]; omega
  have hrv : ∀ l : List Bx, (l.map boxS).reverse = l.reverse.map boxS := fun l => by rw [List.map_reverse]
  unfold w_law_turned_stores s_law_turned_stores
  generalize hg : eNew (M := N) "Store" 2 (w_Store___init__ N) [] (eCons (M := N.w) (eVar N.w 0) (eNil (M := N.w))) = g at hn1 hn2 ⊢
  walk_at "A"
  repeat (simp only [hn1, hn2]; try walk_at "A")
  refine for_alp (pile.take 2) boxS (fun pre ρ t => ∃ (q1 : List Bx) (x4 : Option VV), q1.length ≤ pre.length ∧ Two (t : Ost) a1 p1 a2 (a2 + 1) many q1 [] ∧ ρ = [some (.sh (.int (many : Nat))), some (.sh (.lst (pile.map boxS))), some (.sh (.obj (a1 + 1))), some (.sh (.obj (a2 + 1))), x4]) (s' := t2) ?e1 ⟨[], none, by simp, hT, rfl⟩ ?h1 ?k1
  case e1 =>
    walk_at "U"
    simp only [slD, hsl, hbl hl]
    try walk_at "U"
    rfl
  case h1 =>
    intro pre b post hpr ρ t ⟨q1, x4, hq, hT, hρ⟩
    subst hρ
    have hm : b ∈ pile.take 2 := by rw [hpr]; simp
    have hpl : pre.length < 2 := by have := congrArg List.length hpr; simp at this; omega
    obtain ⟨t', e, hT', _⟩ := hT.put1 b (gt b hm).1 (gt b hm).2 (by omega)
    have hc := hT.one.cls
    refine ⟨_, rfl, ?_⟩
    walk_at "A"
    repeat (simp only [eMeth, hc, e]; try walk_at "A")
    refine ⟨_, rfl, nextP q1 b, some (.sh (boxS b)), ?_, hT', rfl⟩
    have := nextP_len (pile := q1) b
    rw [List.length_append]; simp; omega
  case k1 =>
    intro ρ t ⟨q1, x4, hq, hT, hρ⟩
    subst hρ
    have hf0 : ∀ i o, frz1 [] i o = o := fun i o => f1_out rfl o
    walk_at "A"
    repeat (simp only [hf0]; try walk_at "A")
    refine for_alp (pile.take 2).reverse boxS (fun pre ρ t => ∃ (q2 : List Bx) (x4 : Option VV), q2.length ≤ pre.length ∧ Two (t : Ost) a1 p1 a2 (a2 + 1) many q1 q2 ∧ ρ = [some (.sh (.int (many : Nat))), some (.sh (.lst (pile.map boxS))), some (.sh (.obj (a1 + 1))), some (.sh (.obj (a2 + 1))), x4]) (s' := t) ?e2 ⟨[], _, by simp, hT, rfl⟩ ?h2 ?k2
    case e2 =>
      unfold eRev
      walk_at "U"
      simp only [slD, hsl, hbl hl]
      try walk_at "U"
      simp only [hrv]
      first | rfl | (walk_at "U"; rfl)
    case h2 =>
      intro pre b post hpr ρ t ⟨q2, x4, hq, hT, hρ⟩
      subst hρ
      have hm : b ∈ pile.take 2 := by rw [← List.mem_reverse, hpr]; simp
      have hpl : pre.length < 2 := by have := congrArg List.length hpr; simp at this; omega
      obtain ⟨t', e, hT', _⟩ := hT.put2 b (gt b hm).1 (gt b hm).2 (by omega)
      have hc := hT.two.cls
      refine ⟨_, rfl, ?_⟩
      walk_at "A"
      repeat (simp only [eMeth, hc, e]; try walk_at "A")
      refine ⟨_, rfl, nextP q2 b, some (.sh (boxS b)), ?_, hT', rfl⟩
      have := nextP_len (pile := q2) b
      rw [List.length_append]; simp; omega
    case k2 =>
      intro ρ t ⟨q2, x4, hq, hT, hρ⟩
      subst hρ
      have c1 := hT.one.cls
      have c2 := hT.two.cls
      have o2 := oth_A hT.two
      have e1 := eq_BB hT.one hT.two hT.g1 hT.g2
      have b1 := boxes_A (N := N) hT.one
      have b2 := boxes_A (N := N) hT.two
      have hq := eqO_pile (fun q hq => (hT.g1 q hq).1) (fun q hq => (hT.g2 q hq).1)
      have hw := twin_A (N := N) hT.one
      obtain ⟨t3, ht3⟩ : ∃ t3 : N.w.S, t3 = (twinO (t : Ost) many q1 : Ost) := ⟨_, rfl⟩
      have h3 : StA (t : Ost).length ((t : Ost).length + 2) (t3 : Ost) many q1 := by rw [ht3]; exact twinO_st _ _ _
      have h1' : StA a1 p1 (t3 : Ost) many q1 := by rw [ht3]; exact hT.one.more _
      rw [← ht3] at hw
      generalize (t : Ost).length = a3 at hw h3
      have c1' := h1'.cls
      have o3 := oth_A h3
      have e3 := eq_BB h1' h3 hT.g1 hT.g1
      rw [show eqD (.lst (q1.map boxS)) (.lst (q1.map boxS)) = true from eqD_pile q1] at e3
      have hbb : ∀ b : Bool, eqO (.bl b) (.bl b) = some true := fun b => by cases b <;> rfl
      have hf0 : ∀ i o, frz1 [] i o = o := fun i o => f1_out rfl o
      walk_at "A"
      repeat (simp only [hf0, eOwn, eMeth, c1, c2, o2, e1, b1, b2, hq, hbb, hw, c1', o3, e3]; try walk_at "A")
end
end VK

namespace VK
open PySem PySem.Spec PyProof.Rows L2 VQ
section
variable {K : PySem.W.Frag} {N : OM K} {s : N.w.S} {many : Nat} {pile : List Bx} {pull : Dfs N.w} {xt : Xt}
theorem okSs_bx {n : Nat} : ∀ {l : List Bx}, (∀ b ∈ l, b.length ≤ 1000) → okSs (n + 2) (l.map boxS) = true
  | [], _ => rfl
  | b :: l, h => by
    rw [List.map_cons]
    show (okS (n + 2) (boxS b) && okSs (n + 2) (l.map boxS)) = true
    rw [okS_box n (h b List.mem_cons_self), okSs_bx fun q hq => h q (List.mem_cons_of_mem _ hq)]; rfl
theorem okS_pile {l : List Bx} (hl : l.length ≤ 1000) (h : ∀ b ∈ l, b.length ≤ 1000) : okS 6 (.lst (l.map boxS)) = true := by
  show (decide ((l.map boxS).length ≤ 1000) && okSs 5 (l.map boxS)) = true
  rw [List.length_map, decide_eq_true hl, okSs_bx (n := 3) h]; rfl
theorem okB_strs {l : List (List Nat)} (hl : l.length ≤ 6) (h : l.all beg = true) : okB (.tup (l.map .str)) = true := by
  show (decide ((l.map D.str).length ≤ 1000) && (l.map D.str).all okE) = true
  rw [List.length_map, decide_eq_true (show l.length ≤ 1000 by omega), Bool.true_and, List.all_map]
  rw [List.all_eq_true] at h ⊢
  intro x hx
  show decide (x.length ≤ 1000) = true
  have := beg_len (h x hx)
  rw [decide_eq_true_eq]; omega
theorem boxD_strs (l : List (List Nat)) (h : l.length = 0 ∨ 5 < l.length) : boxD (.tup (l.map .str)) = false := by
  show (decide (1 ≤ (l.map D.str).length) && (decide ((l.map D.str).length ≤ 5) && _)) = false
  rw [List.length_map]
  rcases h with h | h
  · rw [h]; rfl
  · rw [decide_eq_false (show ¬ l.length ≤ 5 by omega), Bool.false_and, Bool.and_false]
theorem odd_strs {l : List (List Nat)} (hl : l.length ≤ 6) (h : l.all beg = true) (hn : l.length ≠ many) : oddB many (.tup (l.map .str)) := by
  refine ⟨okB_strs hl h, ?_⟩
  by_cases hz : l.length = 0 ∨ 5 < l.length
  · exact .inl (boxD_strs l hz)
  · exact .inr ⟨l, rfl, goodB_of (by omega) (by omega) h, hn⟩
/-- the other store and its own boxes -/
def Oth (s : Ost) (a p many : Nat) (pile : List Bx) (n : Nat) (x5 x6 : Option VV) : Prop :=
  (x5 = some (.sh .non) ∧ x6 = some (.sh (.lst []))) ∨ ∃ a2 p2 lone, x5 = some (.sh (.obj (a2 + 1))) ∧ x6 = some (.ow (.lst (lone.map boxS))) ∧ Two s a p a2 p2 many pile lone ∧ lone.length ≤ n
structure Inv9 (s : Ost) (a p many : Nat) (pile : List Bx) (n m : Nat) (x5 x6 : Option VV) : Prop where
  st : StA a p s many pile
  g : goodP5 many pile
  l : pile.length ≤ n
  f : s.all flatC = true
  o : Oth s a p many pile m x5 x6
theorem Inv9.more {s : Ost} {a p n m m' : Nat} {x5 x6 : Option VV} (h : Inv9 s a p many pile n m x5 x6) (hm : m ≤ m') : Inv9 s a p many pile n m' x5 x6 := ⟨h.st, h.g, h.l, h.f, by
  rcases h.o with h | ⟨a2, p2, lone, e5, e6, hT, hlo⟩
  · exact .inl h
  · exact .inr ⟨a2, p2, lone, e5, e6, hT, by omega⟩⟩
theorem inv9_put {a p n m : Nat} {x5 x6 : Option VV} {s : N.w.S} (h : Inv9 (s : Ost) a p many pile n m x5 x6) (hn : n ≤ 9) (b : Bx) (gb : goodB b = true) (hb : b.length = many) :
    ∃ t : N.w.S, w_Store_put N [.obj (a + 1), boxS b] s = .ret (.sh (.bl (!pile.any (inB b))), t) ∧ Inv9 (t : Ost) a p many (nextP pile b) (n + 1) m x5 x6 := by
  have hl := h.l
  have hnl := nextP_len (pile := pile) b
  rcases h.o with ⟨e5, e6⟩ | ⟨a2, p2, lone, e5, e6, hT, hlo⟩
  · obtain ⟨t, e, h1, h2, h3, h4⟩ := put_pk h.st b gb hb h.g (by omega) h.f
    exact ⟨t, e, h1, nextP_good h.g gb hb, by omega, h2, .inl ⟨e5, e6⟩⟩
  · obtain ⟨t, e, h1, h3⟩ := hT.put1 b gb hb (by omega)
    exact ⟨t, e, h1.one, h1.g1, by omega, h1.fl, .inr ⟨a2, p2, lone, e5, e6, h1, by omega⟩⟩
theorem lenG_le {n : Nat} (h : n ≤ 1000) : lenG (.int (n : Nat)) = true := by
  show (decide ((0 : Int) ≤ (n : Nat)) && decide (((n : Nat) : Int) < 9223372036854775808)) = true
  rw [decide_eq_true (by omega), decide_eq_true (by omega)]; rfl
theorem str9 {n : Nat} (h : n ≤ 9) : strD [.int (n : Nat)] = some (.sh (.str [48 + n])) := by
  have hlg : ((n : Nat) : Int).natAbs.log2 < 1920 := by
    rw [Int.natAbs_natCast]
    exact Nat.lt_of_le_of_lt (Nat.log2_le_self _) (by omega)
  show (if _ then _ else _) = _
  rw [if_pos hlg, fig9 n h]
def fr9 (many a : Nat) (kept : List Bx) (x5 x6 x7 x8 x9 x10 x11 x12 x13 x14 : Option VV) : Nv := [none, some (.sh (.obj 0)), some (.sh (.int (many : Nat))), some (.sh (.obj (a + 1))), some (.sh (.lst (kept.map boxS))), x5, x6, x7, x8, x9, x10, x11, x12, x13, x14, none, none]
noncomputable def body9 (N : OM K) (pull : Dfs N.w) (xt : Xt) : Sv N.w := (sSeq (M := N.w) (sSet (M := N.w) 8 [] (eSh (M := N.w) (eSeen (M := N.w) (eIf (M := N.w) (eAnd (M := N.w) (eCmpT (M := N.w) neO (eVar N.w 4) (eSeen (M := N.w) (eLst (M := N.w) (eNil (M := N.w))))) (eCmpT (M := N.w) gtD (eSeen (M := N.w) (eCall (M := N.w) 2 pull [] (eCons (M := N.w) (eVar N.w 1) (eCons (M := N.w) (eC N.w (.int 3)) (eNil (M := N.w)))))) (eC N.w (.int 0)))) (eCall (M := N.w) 2 (w_law_near_box N.w pull) [] (eCons (M := N.w) (eVar N.w 1) (eCons (M := N.w) (eSeen (M := N.w) (eCall (M := N.w) 2 (w_law_of N.w pull) [] (eCons (M := N.w) (eVar N.w 1) (eCons (M := N.w) (eVar N.w 4) (eNil (M := N.w)))))) (eNil (M := N.w))))) (eCall (M := N.w) 2 (w_law_box N.w pull) [] (eCons (M := N.w) (eVar N.w 1) (eCons (M := N.w) (eVar N.w 2) (eNil (M := N.w)))))))))
    (sSeq (M := N.w) (sSet (M := N.w) 9 [] (eSh (M := N.w) (eUn (M := N.w) (fun d => (truD d).map fun k => .bl (!k)) (eSeen (M := N.w) (eFun (M := N.w) anyD (eCons (M := N.w) (eSeen (M := N.w) (eLc (M := N.w) [16] (eItems (M := N.w) anyOf (eVar N.w 4)) (gdName 16) (eYes (M := N.w)) (eSeen (M := N.w) (eCall (M := N.w) 2 (w_law_inside N.w) [] (eCons (M := N.w) (eVar N.w 8) (eCons (M := N.w) (eVar N.w 16) (eNil (M := N.w)))))))) (eNil (M := N.w))))))))
    (sSeq (M := N.w) (sIf (M := N.w) [] (eNot (M := N.w) (eTest (M := N.w) truD (eSeen (M := N.w) (eCall (M := N.w) 2 (w_law_same N.w 6) [] (eCons (M := N.w) (eSeen (M := N.w) (eMeth (M := N) "Store" 2 (w_Store_put N) [] (eVar N.w 3) (eCons (M := N.w) (eVar N.w 8) (eNil (M := N.w))))) (eCons (M := N.w) (eVar N.w 9) (eNil (M := N.w)))))))) (sRet (M := N.w) [] (eSh (M := N.w) (eC N.w (.bl false)))) (sNil (M := N.w)))
    (sSeq (M := N.w) (sSet (M := N.w) 4 [] (eSh (M := N.w) (eSeen (M := N.w) (eBin (M := N.w) addD (eVar N.w 4) (eSeen (M := N.w) (eBin (M := N.w) mulD (eSeen (M := N.w) (eLst (M := N.w) (eCons (M := N.w) (eVar N.w 8) (eNil (M := N.w))))) (eSeen (M := N.w) (eFun (M := N.w) intD (eCons (M := N.w) (eVar N.w 9) (eNil (M := N.w)))))))))))
    (sSeq (M := N.w) (sSet (M := N.w) 10 [] (eSh (M := N.w) (eSeen (M := N.w) (eCall (M := N.w) 2 (w_law_near_box N.w pull) [] (eCons (M := N.w) (eVar N.w 1) (eCons (M := N.w) (eSeen (M := N.w) (eCall (M := N.w) 2 (w_law_of N.w pull) [] (eCons (M := N.w) (eVar N.w 1) (eCons (M := N.w) (eVar N.w 4) (eNil (M := N.w)))))) (eNil (M := N.w))))))))
    (sSeq (M := N.w) (sIf (M := N.w) [] (eNot (M := N.w) (eTest (M := N.w) truD (eSeen (M := N.w) (eCall (M := N.w) 3 (w_law_store_right N) [] (eCons (M := N.w) (eVar N.w 3) (eCons (M := N.w) (eVar N.w 4) (eCons (M := N.w) (eVar N.w 10) (eNil (M := N.w))))))))) (sRet (M := N.w) [] (eSh (M := N.w) (eC N.w (.bl false)))) (sNil (M := N.w)))
    (sSeq (M := N.w) (sSet (M := N.w) 11 [] (eSh (M := N.w) (eSeen (M := N.w) (eCall (M := N.w) 2 (w_law_of N.w pull) [] (eCons (M := N.w) (eVar N.w 1) (eCons (M := N.w) (eSeen (M := N.w) (eLst (M := N.w) (eCons (M := N.w) (eSeen (M := N.w) (eCall (M := N.w) 2 (w_law_odd_thing N.w pull) [] (eCons (M := N.w) (eVar N.w 1) (eCons (M := N.w) (eVar N.w 2) (eNil (M := N.w)))))) (eCons (M := N.w) (eSeen (M := N.w) (eBin (M := N.w) addD (eVar N.w 8) (eTup (M := N.w) (eCons (M := N.w) (eC N.w (.str [])) (eNil (M := N.w)))))) (eCons (M := N.w) (eSeen (M := N.w) (eSl (M := N.w) (eVar N.w 8) (ePt (M := N.w) (eC N.w (.int 1))) (eNoPt (M := N.w)))) (eNil (M := N.w))))))) (eNil (M := N.w))))))))
    (sSeq (M := N.w) (sIf (M := N.w) [] (eCmpT (M := N.w) neO (eSeen (M := N.w) (eLst (M := N.w) (eCons (M := N.w) (eFst (M := N.w) (eTried (M := N.w) xt (eSeen (M := N.w) (eMeth (M := N) "Store" 2 (w_Store_put N) [] (eVar N.w 3) (eCons (M := N.w) (eVar N.w 11) (eNil (M := N.w))))))) (eCons (M := N.w) (eFst (M := N.w) (eTried (M := N.w) xt (eSeen (M := N.w) (eMeth (M := N) "Store" 2 (w_Store_over N) [] (eVar N.w 3) (eCons (M := N.w) (eVar N.w 11) (eNil (M := N.w))))))) (eNil (M := N.w)))))) (eSeen (M := N.w) (eBin (M := N.w) mulD (eSeen (M := N.w) (eLst (M := N.w) (eCons (M := N.w) (eC N.w (.str [66, 97, 100, 66, 111, 120])) (eNil (M := N.w))))) (eC N.w (.int 2))))) (sRet (M := N.w) [] (eSh (M := N.w) (eC N.w (.bl false)))) (sNil (M := N.w)))
    (sSeq (M := N.w) (sFor (M := N.w) [] (eI1 (M := N.w) rng1 (eC N.w (.int 2))) (gtName 12) (sSeq (M := N.w) (sSet (M := N.w) 13 [] (eMeth (M := N) "Store" 1 (w_Store_boxes N) [] (eVar N.w 3) (eNil (M := N.w))))
    (sSeq (M := N.w) (sIf (M := N.w) [13] (eOr (M := N.w) (eNot (M := N.w) (eTest (M := N.w) truD (eSeen (M := N.w) (eCall (M := N.w) 2 (w_law_same N.w 6) [] (eCons (M := N.w) (eVar N.w 13) (eCons (M := N.w) (eVar N.w 4) (eNil (M := N.w)))))))) (eCmpT (M := N.w) neO (eTell (M := N) "Store" lenG (w_Store___len__ N) (eVar N.w 3)) (eSeen (M := N.w) (eFun (M := N.w) lenD (eCons (M := N.w) (eVar N.w 4) (eNil (M := N.w))))))) (sRet (M := N.w) [] (eSh (M := N.w) (eC N.w (.bl false)))) (sNil (M := N.w)))
    (sAppend (M := N.w) 13 [] (eVar N.w 8)))))
    (sSeq (M := N.w) (sIf (M := N.w) [] (eCmpT (M := N.w) neO (eTell (M := N) "Store" strG (w_Store___repr__ N) (eVar N.w 3)) (eSeen (M := N.w) (eBin (M := N.w) addD (eSeen (M := N.w) (eBin (M := N.w) addD (eC N.w (.str [83, 116, 111, 114, 101, 40])) (eSeen (M := N.w) (eFun (M := N.w) strD (eCons (M := N.w) (eSeen (M := N.w) (eFun (M := N.w) lenD (eCons (M := N.w) (eVar N.w 4) (eNil (M := N.w))))) (eNil (M := N.w))))))) (eC N.w (.str [32, 98, 111, 120, 101, 115, 41]))))) (sRet (M := N.w) [] (eSh (M := N.w) (eC N.w (.bl false)))) (sNil (M := N.w)))
    (sSeq (M := N.w) (sIf (M := N.w) [] (eAnd (M := N.w) (eCmpT (M := N.w) isD (eVar N.w 5) (eC N.w .non)) (eCmpT (M := N.w) eqO (eSeen (M := N.w) (eCall (M := N.w) 2 pull [] (eCons (M := N.w) (eVar N.w 1) (eCons (M := N.w) (eC N.w (.int 3)) (eNil (M := N.w)))))) (eC N.w (.int 0)))) (sSeq (M := N.w) (sPar (M := N.w) 5 6 (eSh (M := N.w) (eSeen (M := N.w) (eMeth (M := N) "Store" 1 (w_Store_twin N) [] (eVar N.w 3) (eNil (M := N.w))))) (eFun (M := N.w) listD (eCons (M := N.w) (eVar N.w 4) (eNil (M := N.w)))))
    (sIf (M := N.w) [] (eOr (M := N.w) (eOwnT (M := N) true "Store" (w_Store___eq__ N) (eVar N.w 5) (eVar N.w 3)) (eNot (M := N.w) (eOwnT (M := N) false "Store" (w_Store___eq__ N) (eVar N.w 5) (eVar N.w 3)))) (sRet (M := N.w) [] (eSh (M := N.w) (eC N.w (.bl false)))) (sNil (M := N.w)))) (sNil (M := N.w)))
    (sIf (M := N.w) [] (eCmpT (M := N.w) isnotD (eVar N.w 5) (eC N.w .non)) (sSeq (M := N.w) (sIf (M := N.w) [6] (eOr (M := N.w) (eNot (M := N.w) (eTest (M := N.w) truD (eSeen (M := N.w) (eCall (M := N.w) 3 (w_law_store_right N) [] (eCons (M := N.w) (eVar N.w 5) (eCons (M := N.w) (eVar N.w 6) (eCons (M := N.w) (eVar N.w 10) (eNil (M := N.w))))))))) (eCmpT (M := N.w) neO (eOwn (M := N) false "Store" (w_Store___eq__ N) (eVar N.w 5) (eVar N.w 3)) (eBinD (M := N.w) (blD eqO) (eVar N.w 6) (eVar N.w 4)))) (sRet (M := N.w) [] (eSh (M := N.w) (eC N.w (.bl false)))) (sNil (M := N.w)))
    (sSeq (M := N.w) (sSet (M := N.w) 14 [] (eSh (M := N.w) (eSeen (M := N.w) (eCall (M := N.w) 2 (w_law_box N.w pull) [] (eCons (M := N.w) (eVar N.w 1) (eCons (M := N.w) (eVar N.w 2) (eNil (M := N.w))))))))
    (sIf (M := N.w) [] (eAnd (M := N.w) (eCmpT (M := N.w) eqO (eSeen (M := N.w) (eCall (M := N.w) 2 pull [] (eCons (M := N.w) (eVar N.w 1) (eCons (M := N.w) (eC N.w (.int 2)) (eNil (M := N.w)))))) (eC N.w (.int 0))) (eTest (M := N.w) truD (eSeen (M := N.w) (eMeth (M := N) "Store" 2 (w_Store_put N) [] (eVar N.w 5) (eCons (M := N.w) (eVar N.w 14) (eNil (M := N.w))))))) (sAppend (M := N.w) 6 [] (eVar N.w 14)) (sNil (M := N.w))))) (sNil (M := N.w))))))))))))))
theorem ne_pile {l : List Bx} (h : ∀ q ∈ l, goodB q = true) : neO (.lst (l.map boxS)) (.lst []) = some (!l.isEmpty) := by
  have hq := eqO_pile (l := l) (m := []) h (fun q hq => by cases hq)
  rw [List.map_nil] at hq
  unfold neO
  rw [hq]
  cases l <;> rfl
theorem turn9 (hp : PullOk pull) (hx : xt.lookup ("BadBox" : PySem.Str) = some none) {a p n : Nat} {x5 x6 x7 x8 x9 x10 x11 x12 x13 x14 : Option VV} (h1 : 1 ≤ many) (h5 : many ≤ 5) (hn : n < 9) (hI : Inv9 (s : Ost) a p many pile n (2 * n) x5 x6) :
    Al (body9 N pull xt (fr9 many a pile x5 x6 x7 x8 x9 x10 x11 x12 x13 x14) s) (fun f => ∃ (pile' : List Bx) (y5 y6 y8 y9 y10 y11 y12 y13 y14 : Option VV), f.1 = .nx (fr9 many a pile' y5 y6 x7 y8 y9 y10 y11 y12 y13 y14) ∧ Inv9 (f.2 : Ost) a p many pile' (n + 1) (2 * (n + 1)) y5 y6) (fun _ => False) := by
  have h3p : ∀ s, pull [.obj 0, .int 3] s = _ := hp 3 (by decide) (by decide)
  have h2p : ∀ s, pull [.obj 0, .int 2] s = _ := hp 2 (by decide) (by decide)
  have hf0 : ∀ i o, frz1 [] i o = o := fun i o => f1_out rfl o
  have hbl : ∀ {l : List Bx}, l.length ≤ 100 → (l.map boxS).length ≤ big := fun {l} h => by rw [List.length_map]; show _ ≤ 1000000; omega
  unfold body9
  refine al_seq (Al.to (P := fun f => ∃ b : Bx, goodB b = true ∧ b.length = many ∧ f = (.nx (fr9 many a pile x5 x6 x7 (some (.sh (boxS b))) x9 x10 x11 x12 x13 x14), s)) ?_ ?_)
  · have hne := ne_pile (l := pile) fun q hq => (hI.g q hq).1
    have hb : Al (w_law_box N.w pull [.obj 0, .int (many : Nat)] s) (fun r => ∃ b : Bx, goodB b = true ∧ b.length = many ∧ r = (.sh (boxS b), s)) (fun _ => False) := (box_spec hp many (by omega)).to fun r hr => by
      obtain ⟨b, e1, e2, e3⟩ := hr
      exact ⟨b, goodB_of (by omega) (by omega) e2, e1, e3⟩
    unfold fr9
    cases hpe : pile.isEmpty with
    | true =>
      rw [hpe] at hne
      walk_at "A"
      repeat (simp only [hne, hf0]; try walk_at "A")
      refine Al.btox hb fun r hr => ?_
      obtain ⟨b, g1, g2, e⟩ := hr
      subst e
      walk_at "A"
      exact ⟨b, g1, g2, rfl⟩
    | false =>
      rw [hpe] at hne
      have hlen : 0 < (pile.map boxS).length := by
        cases pile with
        | nil => cases hpe
        | cons q l => simp
      walk_at "A"
      repeat (simp only [hne, hf0, h3p]; try walk_at "A")
      refine .draw (by decide) fun c hc => ?_
      cases hcz : decide ((0 : Int) < ((c : Nat) : Int)) with
      | false =>
        walk_at "A"
        repeat (simp only [hcz, hf0]; try walk_at "A")
        refine Al.btox hb fun r hr => ?_
        obtain ⟨b, g1, g2, e⟩ := hr
        subst e
        walk_at "A"
        exact ⟨b, g1, g2, rfl⟩
      | true =>
        walk_at "A"
        repeat (simp only [hcz, hf0]; try walk_at "A")
        refine Al.btox (of_spec hp hlen (by have := hI.l; rw [List.length_map]; omega)) fun r hr => ?_
        obtain ⟨d, hd, e⟩ := hr
        obtain ⟨q, hq, e2⟩ := List.mem_map.mp hd
        subst e2 e
        walk_at "A"
        refine Al.btox (nearBox_spec hp (goodB_beg (hI.g q hq).1) (by have := (hI.g q hq).2; omega)) fun r hr => ?_
        obtain ⟨b, e1, e2, e3⟩ := hr
        subst e3
        walk_at "A"
        have := (hI.g q hq).2
        exact ⟨b, goodB_of (by omega) (by omega) e2, by omega, rfl⟩
  rintro _ ⟨b, gb, hb, rfl⟩
  rw [al_then_nx]
  have hlp := hI.l
  have gl : ∀ {q : Bx}, goodB q = true → ∀ l ∈ q, l.length ≤ 1000 := fun {q} g l hl => by
    have := goodB_l g l hl; omega
  have hlen5 := (goodB_len gb).2
  refine al_seq (Al.to (P := fun f => f = (.nx (fr9 many a pile x5 x6 x7 (some (.sh (boxS b))) (some (.sh (.bl (!pile.any (inB b))))) x10 x11 x12 x13 x14), s)) ?_ ?_)
  · have hlc : ∀ (y0 y1 y2 y3 y5 y6 y7 y9 y10 y11 y12 y13 y14 y15 y16 : Option D), eLc (M := N.w) [16] (eItems (M := N.w) anyOf (eVar N.w 4)) (gdName 16) (eYes (M := N.w)) (eSeen (M := N.w) (eCall (M := N.w) 2 (w_law_inside N.w) [] (eCons (M := N.w) (eVar N.w 8) (eCons (M := N.w) (eVar N.w 16) (eNil (M := N.w)))))) [y0, y1, y2, y3, some (.lst (pile.map boxS)), y5, y6, y7, some (boxS b), y9, y10, y11, y12, y13, y14, y15, y16] s = .ret (.fr (.lst (pile.map fun x => .bl (inB b x))), s) := fun y0 y1 y2 y3 y5 y6 y7 y9 y10 y11 y12 y13 y14 y15 y16 => by
      rw [elc_map pile boxS (fun x => .bl (inB b x)) (s' := s) ?e ?l ?h]
      case e => walk_at "U"; rfl
      case l => show _ ≤ 1000000; omega
      case h =>
        intro q hq
        have hin := fun t => lawInside_eq (M := N.w) (s := t) (a := b) (b := q) (by omega) (gl gb) (gl (hI.g q hq).1)
        refine ⟨_, rfl, ?_⟩
        walk_at "U"
        simp only [hin]
        walk_at "U"
        rfl
    generalize hL : eLc (M := N.w) [16] (eItems (M := N.w) anyOf (eVar N.w 4)) (gdName 16) (eYes (M := N.w)) (eSeen (M := N.w) (eCall (M := N.w) 2 (w_law_inside N.w) [] (eCons (M := N.w) (eVar N.w 8) (eCons (M := N.w) (eVar N.w 16) (eNil (M := N.w)))))) = L at hlc ⊢
    unfold fr9
    walk_at "A"
    repeat (simp only [hlc, hf0]; try walk_at "A")
  rintro _ rfl
  rw [al_then_nx]
  obtain ⟨t, hput, hI1⟩ := inv9_put hI (by omega) b gb hb
  generalize hany : pile.any (inB b) = k at hput
  have hk1 : (nextP pile b) = if k = true then pile else pile ++ [b] := by unfold nextP; rw [hany]
  generalize hP1 : nextP pile b = pile1 at hI1 hk1
  have hc := hI.st.cls
  refine al_seq (Al.to (P := fun f => f = (.nx (fr9 many a pile x5 x6 x7 (some (.sh (boxS b))) (some (.sh (.bl (!k)))) x10 x11 x12 x13 x14), t)) ?_ ?_)
  · have hs := fun t => same_refl (M := N.w) (s := t) 6 (.bl (!k)) rfl
    unfold fr9
    walk_at "A"
    repeat (simp only [eMeth, hc, hput, hs, hf0]; try walk_at "A")
  rintro _ rfl
  rw [al_then_nx]
  refine al_seq (Al.to (P := fun f => f = (.nx (fr9 many a pile1 x5 x6 x7 (some (.sh (boxS b))) (some (.sh (.bl (!k)))) x10 x11 x12 x13 x14), t)) ?_ ?_)
  · have hi : VQ.intD [.bl (!k)] = some (.sh (.int (if k = true then 0 else 1))) := by cases k <;> rfl
    have hm : mulD (.lst [boxS b]) (.int (if k = true then 0 else 1)) = some (.fr (.lst (if k = true then [] else [boxS b]))) := by
      cases k
      · show mulD (.lst [boxS b]) (.int 1) = _
        rw [mul_lk (by decide) (by decide) (by simp)]; rfl
      · show mulD (.lst [boxS b]) (.int 0) = _
        rw [mul_lk (by decide) (by decide) (by simp)]; rfl
    have ha : addD (.lst (pile.map boxS)) (.lst (if k = true then [] else [boxS b])) = some (.fr (.lst (pile1.map boxS))) := by
      have : (pile.map boxS) ++ (if k = true then [] else [boxS b]) = pile1.map boxS := by
        rw [hk1]; cases k <;> simp
      rw [add_ll (by rw [List.length_map]; cases k <;> (simp; show _ ≤ 1000000; omega)), this]
    unfold fr9
    walk_at "A"
    repeat (simp only [hi, hm, ha, hf0]; try walk_at "A")
  rintro _ rfl
  rw [al_then_nx]
  clear hany
  have hne1 : 0 < pile1.length := by
    rw [← hP1]; unfold nextP
    split
    · next h => obtain ⟨q, hq, _⟩ := List.any_eq_true.mp h; exact List.length_pos_of_mem hq
    · simp
  have hl1 := hI1.l
  have hc1 := hI1.st.cls
  have hfl : N.w.flat t = true := hI1.f
  have hof : Al (w_law_of N.w pull [.obj 0, .lst (pile1.map boxS)] t) (fun r => ∃ q ∈ pile1, r = (.sh (boxS q), t)) (fun _ => False) := (of_spec hp (by rw [List.length_map]; exact hne1) (by rw [List.length_map]; omega)).to fun r hr => by
    obtain ⟨d, hd, e⟩ := hr
    obtain ⟨q, hq, e2⟩ := List.mem_map.mp hd
    exact ⟨q, hq, by rw [e, e2]⟩
  refine al_seq (Al.to (P := fun f => ∃ b2 : Bx, goodB b2 = true ∧ b2.length = many ∧ f = (.nx (fr9 many a pile1 x5 x6 x7 (some (.sh (boxS b))) (some (.sh (.bl (!k)))) (some (.sh (boxS b2))) x11 x12 x13 x14), t)) ?_ ?_)
  · unfold fr9
    walk_at "A"
    repeat (simp only [hf0]; try walk_at "A")
    refine Al.btox hof fun r hr => ?_
    obtain ⟨q, hq, e⟩ := hr
    subst e
    walk_at "A"
    refine Al.btox (nearBox_spec hp (goodB_beg (hI1.g q hq).1) (by have := (hI1.g q hq).2; omega)) fun r hr => ?_
    obtain ⟨b2, e1, e2, e3⟩ := hr
    subst e3
    walk_at "A"
    have := (hI1.g q hq).2
    exact ⟨b2, goodB_of (by omega) (by omega) e2, by omega, rfl⟩
  rintro _ ⟨b2, gb2, hb2, rfl⟩
  rw [al_then_nx]
  have hsr := storeRight_A hI1.st hI1.g (by omega) hI1.f b2 gb2 hb2
  refine al_seq (Al.to (P := fun f => f = (.nx (fr9 many a pile1 x5 x6 x7 (some (.sh (boxS b))) (some (.sh (.bl (!k)))) (some (.sh (boxS b2))) x11 x12 x13 x14), t)) ?_ ?_)
  · unfold fr9
    walk_at "A"
    repeat (simp only [hsr, hf0]; try walk_at "A")
  rintro _ rfl
  rw [al_then_nx]
  refine al_seq (Al.to (P := fun f => ∃ d : D, oddB many d ∧ f = (.nx (fr9 many a pile1 x5 x6 x7 (some (.sh (boxS b))) (some (.sh (.bl (!k)))) (some (.sh (boxS b2))) (some (.sh d)) x12 x13 x14), t)) ?_ ?_)
  · have ha : addD (boxS b) (.tup [.str []]) = some (.sh (.tup ((b ++ [[]]).map .str))) := by
      show addD (.tup (b.map .str)) (.tup [.str []]) = _
      rw [add_tt (by rw [List.length_map]; show _ + 1 ≤ 1000000; omega), List.map_append]; rfl
    have hcut : (cutL (b.map D.str) (some 1) none) = (b.drop 1).map .str := by rw [List.map_drop]; exact cut_from _ 1
    have hbs : boxS b = .tup (b.map .str) := rfl
    unfold fr9
    walk_at "A"
    repeat (simp only [hf0]; try walk_at "A")
    refine Al.btox (odd_thing_spec hp many (by omega)) fun r hr => ?_
    obtain ⟨d, hd, e⟩ := hr
    subst e
    walk_at "A"
    repeat (simp only [ha, hf0]; try walk_at "A")
    try (simp only [hbs, slD, hcut]; try walk_at "A")
    refine Al.btox (of_spec hp (by simp) (by simp)) fun r hr => ?_
    obtain ⟨d2, hd2, e⟩ := hr
    subst e
    walk_at "A"
    refine ⟨d2, ?_, rfl⟩
    have hbg := goodB_beg gb
    simp only [List.mem_cons, List.not_mem_nil, or_false] at hd2
    rcases hd2 with e | e | e
    · rw [e]
      have := odd_facts (many - 1) (by omega) d (by rw [show many - 1 + 1 = many by omega]; exact hd)
      exact ⟨this.1, .inl this.2.1⟩
    · rw [e]
      exact odd_strs (by simp; omega) (by rw [List.all_append, hbg]; rfl) (by simp; omega)
    · rw [e]
      refine odd_strs (by simp; omega) ?_ (by simp; omega)
      rw [List.all_eq_true] at hbg ⊢
      exact fun x hx => hbg x (List.mem_of_mem_drop hx)
  rintro _ ⟨d, hd, rfl⟩
  rw [al_then_nx]
  refine al_seq (Al.to (P := fun f => f = (.nx (fr9 many a pile1 x5 x6 x7 (some (.sh (boxS b))) (some (.sh (.bl (!k)))) (some (.sh (boxS b2))) (some (.sh d)) x12 x13 x14), t)) ?_ ?_)
  · have hb1 := put_bad (N := N) hI1.st hd
    have hb2 := over_bad (N := N) hI1.st hd
    have ht1 : triedX xt badX = some (.tup [.str [66, 97, 100, 66, 111, 120], .str []]) := tried_0 hx rfl
    have hm : mulD (.lst [.str [66, 97, 100, 66, 111, 120]]) (.int 2) = some (.fr (.lst [.str [66, 97, 100, 66, 111, 120], .str [66, 97, 100, 66, 111, 120]])) := by
      rw [mul_lk (by decide) (by decide) (by simp)]; rfl
    have hn : neO (.lst [.str [66, 97, 100, 66, 111, 120], .str [66, 97, 100, 66, 111, 120]]) (.lst [.str [66, 97, 100, 66, 111, 120], .str [66, 97, 100, 66, 111, 120]]) = some false := neO_refl rfl
    unfold fr9
    walk_at "A"
    repeat (simp only [eMeth, hc1, hb1, hb2, ht1, hm, hn, hf0]; try walk_at "A")
  rintro _ rfl
  rw [al_then_nx]
  have hbx := boxes_A (N := N) hI1.st
  have hln := len_A (N := N) hI1.st (by omega)
  have hsm := fun t => same_refl (M := N.w) (s := t) 6 (.lst (pile1.map boxS)) (okS_pile (by omega) fun q hq => by have := (goodB_len (hI1.g q hq).1).2; omega)
  have hlm : (pile1.map boxS).length = pile1.length := List.length_map ..
  have hlB : (pile1.map boxS).length ≤ big := hbl (by omega)
  have hlg := lenG_le (n := pile1.length) (by omega)
  have hnn : ∀ n : Int, neO (.int n) (.int n) = some false := fun n => neO_refl rfl
  refine al_seq (Al.to (P := fun f => ∃ y12 y13, f = (.nx (fr9 many a pile1 x5 x6 x7 (some (.sh (boxS b))) (some (.sh (.bl (!k)))) (some (.sh (boxS b2))) (some (.sh d)) y12 y13 x14), t)) ?_ ?_)
  · have hr2 : rng1 (.int 2) = some ((List.range 2).map fun k => .int (0 + (k : Nat))) := rng1_eq (n := 2) (by decide)
    refine for_alp (List.range 2) (fun j => .int (0 + (j : Nat))) (fun pr ρ t1 => t1 = t ∧ ∃ y12 y13, ρ = fr9 many a pile1 x5 x6 x7 (some (.sh (boxS b))) (some (.sh (.bl (!k)))) (some (.sh (boxS b2))) (some (.sh d)) y12 y13 x14) (s' := t) (by walk_at "U"; simp only [hr2]; try walk_at "U") ⟨rfl, x12, x13, rfl⟩ ?h ?k
    case k =>
      rintro ρ t1 ⟨e, y12, y13, hρ⟩
      subst e hρ
      exact ⟨y12, y13, rfl⟩
    case h =>
      rintro pre j post hpr ρ t1 ⟨e, y12, y13, hρ⟩
      subst e hρ
      refine ⟨_, rfl, ?_⟩
      have hlb2 : pile1.length < big := by show _ < 1000000; omega
      have hlb3 : pile1.length ≤ big := Nat.le_of_lt hlb2
      unfold fr9
      walk_at "A"
      repeat (simp only [eMeth, eTell, hc1, hbx, hsm, hln, hlg, hlm, hlb2, hlb3, hnn, hfl, hf0]; try walk_at "A")
      exact ⟨_, rfl, _, _, rfl⟩
  rintro _ ⟨y12, y13, rfl⟩
  rw [al_then_nx]
  have hrp := repr_A (N := N) hI1.st (by omega)
  refine al_seq (Al.to (P := fun f => f = (.nx (fr9 many a pile1 x5 x6 x7 (some (.sh (boxS b))) (some (.sh (.bl (!k)))) (some (.sh (boxS b2))) (some (.sh d)) y12 y13 x14), t)) ?_ ?_)
  · have hst := str9 (n := pile1.length) (by omega)
    have hsg : ∀ l, strG (.str l) = true := fun _ => rfl
    unfold fr9
    walk_at "A"
    repeat (simp only [eTell, hc1, hrp, hsg, hlB, hlm, hst, hf0]; try walk_at "A")
  rintro _ rfl
  rw [al_then_nx]
  refine al_seq (Al.to (P := fun f => ∃ y5 y6, f.1 = .nx (fr9 many a pile1 y5 y6 x7 (some (.sh (boxS b))) (some (.sh (.bl (!k)))) (some (.sh (boxS b2))) (some (.sh d)) y12 y13 x14) ∧ Inv9 (f.2 : Ost) a p many pile1 (n + 1) (2 * n + 1) y5 y6) ?_ ?_)
  · rcases hI1.o with ⟨e5, e6⟩ | ⟨a2, p2, lone, e5, e6, hT, hlo⟩
    · subst e5 e6
      unfold fr9
      walk_at "A"
      repeat (simp only [h3p, hf0]; try walk_at "A")
      refine .draw (by decide) fun c hc3 => ?_
      cases hcz : (((c : Nat) : Int) == 0) with
      | false =>
        walk_at "A"
        repeat (simp only [hcz, hf0]; try walk_at "A")
        exact ⟨_, _, rfl, hI1.more (by omega)⟩
      | true =>
        have htw := twin_A (N := N) hI1.st
        obtain ⟨t3, ht3⟩ : ∃ t3 : N.w.S, t3 = (twinO (t : Ost) many pile1 : Ost) := ⟨_, rfl⟩
        have hT : Two (t3 : Ost) a p (t : Ost).length ((t : Ost).length + 2) many pile1 pile1 := by
          have l1 := (List.getElem?_eq_some_iff.mp hI1.st.ins).1
          have l2 := (List.getElem?_eq_some_iff.mp hI1.st.pl).1
          rw [ht3]
          exact ⟨hI1.st.more _, twinO_st _ _ _, by omega, by omega, by omega, hI1.g, hI1.g, twinO_flat hI1.f _ _⟩
        rw [← ht3] at htw
        generalize (t : Ost).length = a3 at htw hT
        have c3 := hT.one.cls
        have c4 := hT.two.cls
        have o3 := oth_A hT.one
        have e3 := eq_BB (N := N) hT.two hT.one hT.g2 hT.g1
        rw [show eqD (.lst (pile1.map boxS)) (.lst (pile1.map boxS)) = true from eqD_pile pile1] at e3
        have hlist : listD [.lst (pile1.map boxS)] = some (.fr (.lst (pile1.map boxS))) := rfl
        walk_at "A"
        repeat (simp only [eOwnT, eOwn, eMeth, hcz, hc1, htw, hlist, c4, o3, e3, hf0]; try walk_at "A")
        exact ⟨_, _, rfl, hT.one, hT.g1, hI1.l, hT.fl, .inr ⟨a3, a3 + 2, pile1, rfl, rfl, hT, by have := hI1.l; omega⟩⟩
    · subst e5 e6
      unfold fr9
      walk_at "A"
      repeat (simp only [hf0]; try walk_at "A")
      exact ⟨_, _, rfl, hI1.more (by omega)⟩
  rintro ⟨fl, t4⟩ ⟨y5, y6, hfl2, hI4⟩
  have hfl2 : fl = _ := hfl2
  subst hfl2
  rw [al_then_nx]
  rcases hI4.o with ⟨e5, e6⟩ | ⟨a2, p2, lone, e5, e6, hT, hlo⟩
  · subst e5 e6
    unfold fr9
    walk_at "A"
    repeat (simp only [hf0]; try walk_at "A")
    exact ⟨pile1, _, _, _, _, _, _, _, _, _, rfl, hI4.more (by omega)⟩
  · subst e5 e6
    have hsr2 := storeRight_A hT.two hT.g2 (by omega) hT.fl b2 gb2 hb2
    have c2 := hT.two.cls
    have o1 := oth_A hT.one
    have e2 := eq_BB (N := N) hT.two hT.one hT.g2 hT.g1
    have hq2 := eqO_pile (fun q hq => (hT.g2 q hq).1) (fun q hq => (hT.g1 q hq).1)
    have hnb : ∀ b : Bool, neO (.bl b) (.bl b) = some false := fun b => by cases b <;> rfl
    have hfl4 : N.w.flat t4 = true := hT.fl
    unfold fr9
    walk_at "A"
    repeat (simp only [eOwn, hsr2, c2, o1, e2, hq2, hnb, hfl4, hf0]; try walk_at "A")
    refine Al.btox (box_spec hp many (by omega)) fun r hr => ?_
    obtain ⟨b4, e1, e22, e3⟩ := hr
    subst e3
    have g4 := goodB_of (by omega) (by omega) e22
    obtain ⟨t5, e5, hT5, _⟩ := hT.put2 b4 g4 e1 (by omega)
    walk_at "A"
    repeat (simp only [h2p, hf0]; try walk_at "A")
    refine .draw (by decide) fun c hc3 => ?_
    cases hcz : (((c : Nat) : Int) == 0) with
    | false =>
      walk_at "A"
      repeat (simp only [hcz, hf0]; try walk_at "A")
      exact ⟨pile1, _, _, _, _, _, _, _, _, _, rfl, hI4.more (by omega)⟩
    | true =>
      have hln5 := nextP_len (pile := lone) b4
      cases hk4 : lone.any (inB b4) with
      | true =>
        rw [hk4] at e5
        have hnx : nextP lone b4 = lone := by unfold nextP; rw [if_pos hk4]
        rw [hnx] at hT5
        walk_at "A"
        repeat (simp only [eMeth, hcz, c2, e5, hf0]; try walk_at "A")
        exact ⟨pile1, _, _, _, _, _, _, _, _, _, rfl, hT5.one, hT5.g1, hI4.l, hT5.fl, .inr ⟨a2, p2, lone, rfl, rfl, hT5, by omega⟩⟩
      | false =>
        rw [hk4] at e5
        have hnx : nextP lone b4 = lone ++ [b4] := by unfold nextP; rw [if_neg (by rw [hk4]; decide)]
        rw [hnx] at hT5 hln5
        have hlb4 : (lone.map boxS).length < big := by rw [List.length_map]; show _ < 1000000; omega
        walk_at "A"
        repeat (simp only [eMeth, hcz, c2, e5, hlb4, hf0]; try walk_at "A")
        exact ⟨pile1, _, _, _, _, _, _, _, _, _, rfl, hT5.one, hT5.g1, hI4.l, hT5.fl, .inr ⟨a2, p2, lone ++ [b4], rfl, by rw [List.map_append]; rfl, hT5, by rw [List.length_append]; simp; omega⟩⟩
end
end VK

namespace VK
open PySem PySem.Spec PyProof.Rows L2 VQ
section
variable {K : PySem.W.Frag} {N : OM K} {s : N.w.S} {pull : Dfs N.w} {xt : Xt}
theorem pure_k09a (hp : PullOk pull) (hx : xt.lookup ("BadBox" : PySem.Str) = some none) (hs0 : s = ([] : Ost)) : Al (s_law_k09 N pull (w_Store___init__ N) (w_law_near_box N.w pull) (w_law_of N.w pull) (w_law_box N.w pull) (w_law_inside N.w) (w_law_same N.w 6) (w_Store_put N) (w_law_store_right N) (w_law_odd_thing N.w pull) (w_Store_over N) (w_Store_boxes N) (w_Store___len__ N) (w_Store___repr__ N) (w_Store_twin N) (w_Store___eq__ N) (w_law_turned_stores N) xt (none :: some (.sh (.obj 0)) :: List.replicate 15 none) s) (fun r => r.1 = .rt (.sh (.bl true))) (fun _ => False) := by
  have h5p : ∀ s, pull [.obj 0, .int 5] s = _ := hp 5 (by decide) (by decide)
  have hr9 : rng1 (.int 9) = some ((List.range 9).map fun k => .int (0 + (k : Nat))) := rng1_eq (n := 9) (by decide)
  have hf0 : ∀ i o, frz1 [] i o = o := fun i o => f1_out rfl o
  unfold s_law_k09
  walk_at "A"
  repeat (simp only [h5p]; try walk_at "A")
  refine .draw (by decide) fun c hc => ?_
  have hc1 : (1 : Int) + ((c : Nat) : Int) = ((c + 1 : Nat) : Int) := by omega
  obtain ⟨o, ho⟩ : ∃ o : Ost, o = s := ⟨_, rfl⟩
  obtain ⟨t1, ht1⟩ : ∃ t : N.w.S, t = (newO o (c + 1) : Ost) := ⟨_, rfl⟩
  have hn1 := new_A (N := N) (c + 1) o [none, some (.obj 0), some (.int ((c + 1 : Nat) : Int)), none, none, none, none, none, none, none, none, none, none, none, none, none, none] (eCons (M := N.w) (eVar N.w 2) (eNil (M := N.w))) s (by rw [ho]; walk_at "U")
  rw [← ht1] at hn1
  have hfo : o.all flatC = true := by rw [ho, hs0]; rfl
  have hI : Inv9 (t1 : Ost) o.length (o.length + 1) (c + 1) [] 0 0 (some (.sh .non)) (some (.sh (.lst []))) := by
    rw [ht1]
    exact ⟨newO_st _ _, (fun q hq => by cases hq), Nat.le_refl _, newO_flat hfo _, .inl ⟨rfl, rfl⟩⟩
  generalize o.length = a at hn1 hI
  generalize a + 1 = p at hI
  walk_at "A"
  repeat (simp only [hc1, hn1]; try walk_at "A")
  refine for_alp (List.range 9) (fun j => .int (0 + (j : Nat))) (fun pr ρ t => ∃ (pile : List Bx) (y5 y6 y7 y8 y9 y10 y11 y12 y13 y14 : Option VV), ρ = fr9 (c + 1) a pile y5 y6 y7 y8 y9 y10 y11 y12 y13 y14 ∧ Inv9 (t : Ost) a p (c + 1) pile pr.length (2 * pr.length) y5 y6) (s' := t1) (by walk_at "U"; simp only [hr9]; try walk_at "U") ⟨[], _, _, none, none, none, none, none, none, none, none, rfl, hI⟩ ?h ?k
  case h =>
    rintro pr j post hpr ρ t ⟨pile, y5, y6, y7, y8, y9, y10, y11, y12, y13, y14, hρ, hI⟩
    subst hρ
    have hpl : pr.length < 9 := by have := congrArg List.length hpr; simp at this; omega
    refine ⟨fr9 (c + 1) a pile y5 y6 (some (.sh (.int (0 + (j : Nat))))) y8 y9 y10 y11 y12 y13 y14, rfl, ?_⟩
    refine Al.to (turn9 hp hx (by omega) (by omega) hpl hI) ?_
    rintro ⟨fl, t2⟩ ⟨pile', z5, z6, z8, z9, z10, z11, z12, z13, z14, e, hI2⟩
    exact ⟨_, e, pile', z5, z6, _, z8, z9, z10, z11, z12, z13, z14, rfl, by rw [List.length_append]; exact hI2⟩
  case k =>
    rintro ρ t ⟨pile, y5, y6, y7, y8, y9, y10, y11, y12, y13, y14, hρ, hI⟩
    subst hρ
    have hI9 : pile.length ≤ 9 := by have := hI.l; simpa using this
    have hc := hI.st.cls
    have el := eq_list (N := N) hI.st (pile.map boxS)
    have oth : othO (t : Ost) (.lst (pile.map boxS)) = true := rfl
    obtain ⟨t2, ht2⟩ : ∃ t2 : N.w.S, t2 = (newO (t : Ost) (c + 1) : Ost) := ⟨_, rfl⟩
    obtain ⟨t3, ht3⟩ : ∃ t3 : N.w.S, t3 = (newO (t2 : Ost) (c + 1) : Ost) := ⟨_, rfl⟩
    obtain ⟨t4, ht4⟩ : ∃ t4 : N.w.S, t4 = (newO (t3 : Ost) 1 : Ost) := ⟨_, rfl⟩
    obtain ⟨t5, ht5⟩ : ∃ t5 : N.w.S, t5 = (newO (t4 : Ost) 2 : Ost) := ⟨_, rfl⟩
    have f2 : (t2 : Ost).all flatC = true := by rw [ht2]; exact newO_flat hI.f _
    have f3 : (t3 : Ost).all flatC = true := by rw [ht3]; exact newO_flat f2 _
    have f4 : (t4 : Ost).all flatC = true := by rw [ht4]; exact newO_flat f3 _
    have f5 : (t5 : Ost).all flatC = true := by rw [ht5]; exact newO_flat f4 _
    have a2 : StA (t : Ost).length ((t : Ost).length + 1) (t2 : Ost) (c + 1) [] := by rw [ht2]; exact newO_st _ _
    have a3 : StA (t2 : Ost).length ((t2 : Ost).length + 1) (t3 : Ost) (c + 1) [] := by rw [ht3]; exact newO_st _ _
    have a4 : StA (t3 : Ost).length ((t3 : Ost).length + 1) (t4 : Ost) 1 [] := by rw [ht4]; exact newO_st _ _
    have a5 : StA (t4 : Ost).length ((t4 : Ost).length + 1) (t5 : Ost) 2 [] := by rw [ht5]; exact newO_st _ _
    have b2 : StA (t : Ost).length ((t : Ost).length + 1) (t3 : Ost) (c + 1) [] := by rw [ht3]; exact a2.more _
    have b4 : StA (t3 : Ost).length ((t3 : Ost).length + 1) (t5 : Ost) 1 [] := by rw [ht5]; exact a4.more _
    have m1 : StA a p (t5 : Ost) (c + 1) pile := by rw [ht5]; refine StA.more ?_ _; rw [ht4]; refine StA.more ?_ _; rw [ht3]; refine StA.more ?_ _; rw [ht2]; exact hI.st.more _
    have g0 : goodP5 (c + 1) [] := fun q hq => by cases hq
    have q23 := eq_BB (N := N) b2 a3 g0 g0
    have q45 := eq_AA (N := N) b4 a5 (pl_pile fun q hq => by cases hq) (pl_pile fun q hq => by cases hq)
    have en5 := eq_non (N := N) m1
    have cm1 := m1.cls
    have o0 : othO (t5 : Ost) .non = true := rfl
    have c2 := b2.cls
    have c4 := b4.cls
    have o3 := oth_A a3
    have o5 := oth_A a5
    have n2 := fun ρ s he => new_A (N := N) (c + 1) (t : Ost) ρ (eCons (M := N.w) (eVar N.w 2) (eNil (M := N.w))) s he
    have n3 := fun ρ s he => new_A (N := N) (c + 1) (t2 : Ost) ρ (eCons (M := N.w) (eVar N.w 2) (eNil (M := N.w))) s he
    have n4 := fun ρ s he => new_A (N := N) 1 (t3 : Ost) ρ (eCons (M := N.w) (eC N.w (.int 1)) (eNil (M := N.w))) s he
    have n5 := fun ρ s he => new_A (N := N) 2 (t4 : Ost) ρ (eCons (M := N.w) (eC N.w (.int 2)) (eNil (M := N.w))) s he
    have k2 := n2 [none, some (.obj 0), some (.int ((c + 1 : Nat) : Int)), some (.obj (a + 1)), some (.lst (pile.map boxS)), view1 [] 5 y5, view1 [] 6 y6, view1 [] 7 y7, view1 [] 8 y8, view1 [] 9 y9, view1 [] 10 y10, view1 [] 11 y11, view1 [] 12 y12, view1 [] 13 y13, view1 [] 14 y14, none, none] t (by walk_at "U")
    have k3 := n3 [none, some (.obj 0), some (.int ((c + 1 : Nat) : Int)), some (.obj (a + 1)), some (.lst (pile.map boxS)), view1 [] 5 y5, view1 [] 6 y6, view1 [] 7 y7, view1 [] 8 y8, view1 [] 9 y9, view1 [] 10 y10, view1 [] 11 y11, view1 [] 12 y12, view1 [] 13 y13, view1 [] 14 y14, none, none] t2 (by walk_at "U")
    have k4 := n4 [none, some (.obj 0), some (.int ((c + 1 : Nat) : Int)), some (.obj (a + 1)), some (.lst (pile.map boxS)), view1 [] 5 y5, view1 [] 6 y6, view1 [] 7 y7, view1 [] 8 y8, view1 [] 9 y9, view1 [] 10 y10, view1 [] 11 y11, view1 [] 12 y12, view1 [] 13 y13, view1 [] 14 y14, none, none] t3 (by walk_at "U"; rfl)
    have k5 := n5 [none, some (.obj 0), some (.int ((c + 1 : Nat) : Int)), some (.obj (a + 1)), some (.lst (pile.map boxS)), view1 [] 5 y5, view1 [] 6 y6, view1 [] 7 y7, view1 [] 8 y8, view1 [] 9 y9, view1 [] 10 y10, view1 [] 11 y11, view1 [] 12 y12, view1 [] 13 y13, view1 [] 14 y14, none, none] t4 (by walk_at "U"; rfl)
    rw [← ht2] at k2
    rw [← ht3] at k3
    rw [← ht4] at k4
    rw [← ht5] at k5
    clear n2 n3 n4 n5
    generalize (t : Ost).length = l1 at *
    generalize (t2 : Ost).length = l2 at *
    generalize (t3 : Ost).length = l3 at *
    generalize (t4 : Ost).length = l4 at *
    have e23 : eqD (.lst (([] : List Bx).map boxS)) (.lst (([] : List Bx).map boxS)) = true := rfl
    rw [e23] at q23
    have d12 : decide (1 = 2) = false := rfl
    rw [d12, Bool.false_and] at q45
    have htn := turned_A (N := N) (s := t5) hI.g (by omega) f5
    unfold fr9
    walk_at "A"
    repeat (simp only [eOwn, hc, el, oth, o0, k2, k3, k4, k5, c2, o3, q23, c4, o5, q45, cm1, en5, hf0]; try walk_at "A")
    refine Al.btox htn fun r hr => ?_
    obtain ⟨r1, t6⟩ := r
    have hr : r1 = .sh (.bl true) := hr
    subst hr
    walk_at "A"
theorem pure_k09 (hp : PullOk pull) (hx : xt.lookup ("BadBox" : PySem.Str) = some none) : Al (s_law_k09 N pull (w_Store___init__ N) (w_law_near_box N.w pull) (w_law_of N.w pull) (w_law_box N.w pull) (w_law_inside N.w) (w_law_same N.w 6) (w_Store_put N) (w_law_store_right N) (w_law_odd_thing N.w pull) (w_Store_over N) (w_Store_boxes N) (w_Store___len__ N) (w_Store___repr__ N) (w_Store_twin N) (w_Store___eq__ N) (w_law_turned_stores N) xt (none :: some (.sh (.obj 0)) :: List.replicate 15 none) ([] : Ost)) (fun r => r.1 = .rt (.sh (.bl true))) (fun _ => False) := pure_k09a hp hx rfl
end
end VK

namespace VL
open PySem PySem.Spec PyProof.Rows L2 VQ VK
def top (i : Nat) : Stmt := PySem.Challenge.pw_voidquilt_k09_stores_of_boxes.main.body.getD i (.Pass ⟨0, 0, 0, 0⟩)
abbrev st__law_bag : Stmt := top 23
abbrev st__law_pull : Stmt := top 24
abbrev st_Store___init__ : Stmt := inClass (top 21) 0
abbrev st__law_of : Stmt := top 25
abbrev st__law_figs : Stmt := top 30
abbrev st__law_worth : Stmt := top 29
abbrev st__law_begin : Stmt := top 31
abbrev st__law_near_box : Stmt := top 36
abbrev st_Store___eq__ : Stmt := inClass (top 21) 2
abbrev st_is_beginning : Stmt := top 15
abbrev st_is_box : Stmt := top 18
abbrev st_Store_need : Stmt := inClass (top 21) 4
abbrev st_under : Stmt := top 19
abbrev st_Store_first_over : Stmt := inClass (top 21) 5
abbrev st_Store_put : Stmt := inClass (top 21) 7
abbrev st_Store_twin : Stmt := inClass (top 21) 10
abbrev st_Store_boxes : Stmt := inClass (top 21) 8
abbrev st__law_turned_stores : Stmt := top 37
abbrev st__law_box : Stmt := top 32
abbrev st__law_same : Stmt := top 26
abbrev st__law_starts : Stmt := top 33
abbrev st__law_inside : Stmt := top 34
abbrev st_Store_over : Stmt := inClass (top 21) 6
abbrev st__law_store_right : Stmt := top 38
abbrev st_Store___repr__ : Stmt := inClass (top 21) 3
abbrev st__law_odd_thing : Stmt := top 35
abbrev st__law_tried : Stmt := top 27
abbrev st__law_word : Stmt := top 28
abbrev st_Store___len__ : Stmt := inClass (top 21) 1
abbrev st_law : Stmt := top 39
abbrev st_QuiltError : Stmt := inClass (top 2) 0
abbrev st_BadBox : Stmt := inClass (top 3) 0
section
variable {P : Program} {w : World} {K : PySem.W.Frag} {mg : Str → Option Value} {base : Heap} {M : WM K}
theorem sc__law_bag : FnScope ["_law_script"] ["_law_script"] (defScope st__law_bag) := ⟨rfl, rfl, rfl, by decide +kernel, rfl, by decide +kernel, by decide +kernel⟩
theorem sc__law_pull : FnScope ["_law_bag_here", "_law_size", "_law_cell", "_law_digit"] ["_law_bag_here", "_law_size"] (defScope st__law_pull) := ⟨rfl, rfl, rfl, by decide +kernel, rfl, by decide +kernel, by decide +kernel⟩
theorem sc_Store___init__ : FnScope ["self", "many"] ["self", "many"] (defScope st_Store___init__) := ⟨rfl, rfl, rfl, by decide +kernel, rfl, by decide +kernel, by decide +kernel⟩
theorem sc__law_of : FnScope ["_law_bag_here", "_law_some"] ["_law_bag_here", "_law_some"] (defScope st__law_of) := ⟨rfl, rfl, rfl, by decide +kernel, rfl, by decide +kernel, by decide +kernel⟩
theorem sc__law_figs : FnScope ["_law_worth_here", "_law_found", "_law_at"] ["_law_worth_here"] (defScope st__law_figs) := ⟨rfl, rfl, rfl, by decide +kernel, rfl, by decide +kernel, by decide +kernel⟩
theorem sc__law_worth : FnScope ["_law_bag_here"] ["_law_bag_here"] (defScope st__law_worth) := ⟨rfl, rfl, rfl, by decide +kernel, rfl, by decide +kernel, by decide +kernel⟩
theorem sc__law_begin : FnScope ["_law_bag_here", "_law_size"] ["_law_bag_here"] (defScope st__law_begin) := ⟨rfl, rfl, rfl, by decide +kernel, rfl, by decide +kernel, by decide +kernel⟩
theorem sc__law_near_box : FnScope ["_law_bag_here", "_law_box_here", "_law_found", "_law_one", "_law_way"] ["_law_bag_here", "_law_box_here"] (defScope st__law_near_box) := ⟨rfl, rfl, rfl, by decide +kernel, rfl, by decide +kernel, by decide +kernel⟩
theorem sc_Store___eq__ : FnScope ["self", "other"] ["self", "other"] (defScope st_Store___eq__) := ⟨rfl, rfl, rfl, by decide +kernel, rfl, by decide +kernel, by decide +kernel⟩
theorem sc_is_beginning : FnScope ["thing", "sign"] ["thing"] (defScope st_is_beginning) := ⟨rfl, rfl, rfl, by decide +kernel, rfl, by decide +kernel, by decide +kernel⟩
theorem sc_is_box : FnScope ["thing", "one"] ["thing"] (defScope st_is_box) := ⟨rfl, rfl, rfl, by decide +kernel, rfl, by decide +kernel, by decide +kernel⟩
theorem sc_Store_need : FnScope ["self", "box"] ["self", "box"] (defScope st_Store_need) := ⟨rfl, rfl, rfl, by decide +kernel, rfl, by decide +kernel, by decide +kernel⟩
theorem sc_under : FnScope ["inner", "outer", "one", "other"] ["inner", "outer"] (defScope st_under) := ⟨rfl, rfl, rfl, by decide +kernel, rfl, by decide +kernel, by decide +kernel⟩
theorem sc_Store_first_over : FnScope ["self", "box", "one"] ["self", "box"] (defScope st_Store_first_over) := ⟨rfl, rfl, rfl, by decide +kernel, rfl, by decide +kernel, by decide +kernel⟩
theorem sc_Store_put : FnScope ["self", "box"] ["self", "box"] (defScope st_Store_put) := ⟨rfl, rfl, rfl, by decide +kernel, rfl, by decide +kernel, by decide +kernel⟩
theorem sc_Store_twin : FnScope ["self", "other"] ["self"] (defScope st_Store_twin) := ⟨rfl, rfl, rfl, by decide +kernel, rfl, by decide +kernel, by decide +kernel⟩
theorem sc_Store_boxes : FnScope ["self"] ["self"] (defScope st_Store_boxes) := ⟨rfl, rfl, rfl, by decide +kernel, rfl, by decide +kernel, by decide +kernel⟩
theorem sc__law_turned_stores : FnScope ["_law_many", "_law_kept", "_law_one", "_law_other", "_law_box_here"] ["_law_many", "_law_kept"] (defScope st__law_turned_stores) := ⟨rfl, rfl, rfl, by decide +kernel, rfl, by decide +kernel, by decide +kernel⟩
theorem sc__law_box : FnScope ["_law_bag_here", "_law_many", "_law_k"] ["_law_bag_here", "_law_many"] (defScope st__law_box) := ⟨rfl, rfl, rfl, by decide +kernel, rfl, by decide +kernel, by decide +kernel⟩
theorem sc__law_same : FnScope ["_law_found", "_law_due", "_law_at"] ["_law_found", "_law_due"] (defScope st__law_same) := ⟨rfl, rfl, rfl, by decide +kernel, rfl, by decide +kernel, by decide +kernel⟩
theorem sc__law_starts : FnScope ["_law_one", "_law_other"] ["_law_one", "_law_other"] (defScope st__law_starts) := ⟨rfl, rfl, rfl, by decide +kernel, rfl, by decide +kernel, by decide +kernel⟩
theorem sc__law_inside : FnScope ["_law_one", "_law_other", "_law_a", "_law_b"] ["_law_one", "_law_other"] (defScope st__law_inside) := ⟨rfl, rfl, rfl, by decide +kernel, rfl, by decide +kernel, by decide +kernel⟩
theorem sc_Store_over : FnScope ["self", "box"] ["self", "box"] (defScope st_Store_over) := ⟨rfl, rfl, rfl, by decide +kernel, rfl, by decide +kernel, by decide +kernel⟩
theorem sc__law_store_right : FnScope ["_law_store", "_law_kept", "_law_asked", "_law_round_it", "_law_one"] ["_law_store", "_law_kept", "_law_asked"] (defScope st__law_store_right) := ⟨rfl, rfl, rfl, by decide +kernel, rfl, by decide +kernel, by decide +kernel⟩
theorem sc_Store___repr__ : FnScope ["self"] ["self"] (defScope st_Store___repr__) := ⟨rfl, rfl, rfl, by decide +kernel, rfl, by decide +kernel, by decide +kernel⟩
theorem sc__law_odd_thing : FnScope ["_law_bag_here", "_law_many", "_law_some"] ["_law_bag_here", "_law_many"] (defScope st__law_odd_thing) := ⟨rfl, rfl, rfl, by decide +kernel, rfl, by decide +kernel, by decide +kernel⟩
theorem sc__law_tried : FnScope ["_law_ask", "e"] ["_law_ask"] (defScope st__law_tried) := ⟨rfl, rfl, rfl, by decide +kernel, rfl, by decide +kernel, by decide +kernel⟩
theorem sc__law_word : FnScope ["_law_ask"] ["_law_ask"] (defScope st__law_word) := ⟨rfl, rfl, rfl, by decide +kernel, rfl, by decide +kernel, by decide +kernel⟩
theorem sc_Store___len__ : FnScope ["self"] ["self"] (defScope st_Store___len__) := ⟨rfl, rfl, rfl, by decide +kernel, rfl, by decide +kernel, by decide +kernel⟩
theorem sc_law : FnScope ["_law_script", "_law_bag_here", "_law_many", "_law_store", "_law_kept", "_law_other", "_law_lone", "_law_turn", "_law_box_here", "_law_new", "_law_asked", "_law_odd", "_law_again", "_law_found", "_law_extra", "_law_good", "_law_one"] ["_law_script"] (defScope st_law) := ⟨rfl, rfl, rfl, by decide +kernel, rfl, by decide +kernel, by decide +kernel⟩
theorem ok_Store___init__ {f : Addr} {fd : FuncData} (F : Fun K "__init__" "Store.__init__" st_Store___init__ f fd) {N : OM K} (co : CtOk K N.CT) : FnOk P w K mg base (L2.CX P w) (0 + 1) f fd ["self", "many"] (spV N.w mg 2 (runD 2 (s_Store___init__ N))) :=
  def_ok (N := ["self", "many"]) (ss := s_Store___init__ N) F sc_Store___init__ rfl (by decide) fun cdv A outer s H E hr tk => (sss_cons (ss_fld co 0 [] (ev_sh (ev_var 1)))
    (sss_one (ss_fld co 0 [] (ev_lst ea_nil))))
theorem ok__law_of {f : Addr} {fd : FuncData} (F : Fun K "_law_of" "_law_of" st__law_of f fd) {f__law_pull : Dfs M} (c__law_pull : DefOk P w K mg base M 1 "_law_pull" 2 f__law_pull []) (b_len : mg "len" = none) : FnOk P w K mg base (L2.CX P w) (1 + 1) f fd ["_law_bag_here", "_law_some"] (spV M mg 2 (runD 2 (s_law_of M f__law_pull))) :=
  def_ok (N := ["_law_bag_here", "_law_some"]) (ss := s_law_of M f__law_pull) F sc__law_of rfl (by decide) fun cdv A outer s H E hr tk => (sss_one (ss_ret [] (ev_sh (ev_ix (ev_var 1) (ev_seen (ev_call c__law_pull hr tk (ea_cons (ev_var 0) (ea_cons (ev_seen (ev_fun call_len cd_len b_len bt_len (ea_cons (ev_var 1) ea_nil))) ea_nil))))))))
theorem ok__law_figs {f : Addr} {fd : FuncData} (F : Fun K "_law_figs" "_law_figs" st__law_figs f fd) (b_range : mg "range" = none) (b_str : mg "str" = none) : FnOk P w K mg base (L2.CX P w) (0 + 1) f fd ["_law_worth_here"] (spV M mg 1 (runD 3 (s_law_figs M))) :=
  def_ok (N := ["_law_worth_here", "_law_found", "_law_at"]) (ss := s_law_figs M) F sc__law_figs rfl (by decide) fun cdv A outer s H E hr tk => (sss_cons (ss_set 1 [] sc__law_figs.nd (ev_sh (ev_str [])))
    (sss_cons (ss_for [] (passes_of rfl) rfl (it_range1 b_range ev_int) (tg_name 2 sc__law_figs.nd) (sss_cons (ss_set 1 [] sc__law_figs.nd (ev_sh (ev_seen (ev_bin or_add od_add (ev_seen (ev_typ (call_str_int.or SkE.call_str_str) cd_str b_str bt_str (ea_cons (ev_seen (ev_bin op_mod od_mod (ev_var 0) ev_int)) ea_nil))) (ev_var 1)))))
    (sss_one (ss_set 0 [] sc__law_figs.nd (ev_sh (ev_seen (ev_bin op_fdiv od_fdiv (ev_var 0) ev_int)))))))
    (sss_one (ss_ret [] (ev_sh (ev_var 1))))))
theorem ok__law_worth {f : Addr} {fd : FuncData} (F : Fun K "_law_worth" "_law_worth" st__law_worth f fd) {f__law_of : Dfs M} (c__law_of : DefOk P w K mg base M 2 "_law_of" 2 f__law_of []) {f__law_pull : Dfs M} (c__law_pull : DefOk P w K mg base M 1 "_law_pull" 2 f__law_pull []) : FnOk P w K mg base (L2.CX P w) (2 + 1) f fd ["_law_bag_here"] (spV M mg 1 (runD 1 (s_law_worth M f__law_of f__law_pull))) :=
  def_ok (N := ["_law_bag_here"]) (ss := s_law_worth M f__law_of f__law_pull) F sc__law_worth rfl (by decide) fun cdv A outer s H E hr tk => (sss_one (ss_ret [] (ev_call c__law_of hr tk (ea_cons (ev_var 0) (ea_cons (ev_seen (ev_lst (ea_cons (ev_seen (ev_call c__law_pull hr tk (ea_cons (ev_var 0) (ea_cons ev_int ea_nil)))) (ea_cons (ev_seen (ev_call c__law_pull hr tk (ea_cons (ev_var 0) (ea_cons ev_int ea_nil)))) (ea_cons (ev_seen (ev_call c__law_pull hr tk (ea_cons (ev_var 0) (ea_cons ev_int ea_nil)))) (ea_cons ev_int (ea_cons ev_int ea_nil))))))) ea_nil)))))
theorem ok__law_begin {f : Addr} {fd : FuncData} (F : Fun K "_law_begin" "_law_begin" st__law_begin f fd) {f__law_of : Dfs M} (c__law_of : DefOk P w K mg base M 2 "_law_of" 2 f__law_of []) {f__law_figs : Dfs M} (c__law_figs : DefOk P w K mg base M 1 "_law_figs" 1 f__law_figs []) {f__law_worth : Dfs M} (c__law_worth : DefOk P w K mg base M 3 "_law_worth" 1 f__law_worth []) : FnOk P w K mg base (L2.CX P w) (3 + 1) f fd ["_law_bag_here"] (spV M mg 1 (runD 2 (s_law_begin M f__law_of f__law_figs f__law_worth))) :=
  def_ok (N := ["_law_bag_here", "_law_size"]) (ss := s_law_begin M f__law_of f__law_figs f__law_worth) F sc__law_begin rfl (by decide) fun cdv A outer s H E hr tk => (sss_cons (ss_set 1 [] sc__law_begin.nd (ev_sh (ev_seen (ev_call c__law_of hr tk (ea_cons (ev_var 0) (ea_cons (ev_seen (ev_lst (ea_cons ev_int (ea_cons ev_int (ea_cons ev_int (ea_cons ev_int (ea_cons ev_int (ea_cons ev_int (ea_cons ev_int ea_nil))))))))) ea_nil))))))
    (sss_one (ss_ret [] (ev_sl (ev_seen (ev_call c__law_figs hr tk (ea_cons (ev_seen (ev_call c__law_worth hr tk (ea_cons (ev_var 0) ea_nil))) ea_nil))) ep_none (ep_some (ev_var 1))))))
theorem ok__law_near_box {f : Addr} {fd : FuncData} (F : Fun K "_law_near_box" "_law_near_box" st__law_near_box f fd) {f__law_pull : Dfs M} (c__law_pull : DefOk P w K mg base M 1 "_law_pull" 2 f__law_pull []) {f__law_begin : Dfs M} (c__law_begin : DefOk P w K mg base M 4 "_law_begin" 1 f__law_begin []) {f__law_figs : Dfs M} (c__law_figs : DefOk P w K mg base M 1 "_law_figs" 1 f__law_figs []) {f__law_worth : Dfs M} (c__law_worth : DefOk P w K mg base M 3 "_law_worth" 1 f__law_worth []) (b_len : mg "len" = none) (b_tuple : mg "tuple" = none) : FnOk P w K mg base (L2.CX P w) (4 + 1) f fd ["_law_bag_here", "_law_box_here"] (spV M mg 2 (runD 5 (s_law_near_box M f__law_pull f__law_begin f__law_figs f__law_worth))) :=
  def_ok (N := ["_law_bag_here", "_law_box_here", "_law_found", "_law_one", "_law_way"]) (ss := s_law_near_box M f__law_pull f__law_begin f__law_figs f__law_worth) F sc__law_near_box rfl (by decide) fun cdv A outer s H E hr tk => (sss_cons (ss_set 2 [] sc__law_near_box.nd (ev_lst ea_nil))
    (sss_cons (ss_for [] (passes_of rfl) rfl (it_any (ev_var 1)) (tg_name 3 sc__law_near_box.nd) (sss_cons (ss_set 4 [] sc__law_near_box.nd (ev_sh (ev_seen (ev_call c__law_pull hr tk (ea_cons (ev_var 0) (ea_cons ev_int ea_nil))))))
    (sss_cons (ss_if [] (tt_cmp2 (or_eq hr.units) od_eq (ev_var 4) ev_int) (sss_one (ss_set 3 [] sc__law_near_box.nd (ev_sh (ev_seen (ev_call c__law_begin hr tk (ea_cons (ev_var 0) ea_nil)))))) sss_nil)
    (sss_cons (ss_if [] (L2.PW.pt (tw_and (tt_cmp2 (or_eq hr.units) od_eq (ev_var 4) ev_int) (tw_and1 (tt_cmp2 (or_ne hr.units) od_ne (ev_var 3) (ev_str []))))) (sss_one (ss_set 3 [] sc__law_near_box.nd (ev_sh (ev_seen (ev_bin or_add od_add (ev_seen (ev_sl (ev_var 3) ep_none (ep_some (ev_un un_neg ud_neg ev_int)))) (ev_if (tt_cmp2 (or_eq hr.units) od_eq (ev_ix (ev_var 3) (ev_un un_neg ud_neg ev_int)) (ev_str [48])) (ev_str [49]) (ev_str [48]))))))) sss_nil)
    (sss_cons (ss_if [] (tt_cmp2 (or_eq hr.units) od_eq (ev_var 4) ev_int) (sss_one (ss_set 3 [] sc__law_near_box.nd (ev_sh (ev_seen (ev_sl (ev_var 3) ep_none (ep_some (ev_seen (ev_call c__law_pull hr tk (ea_cons (ev_var 0) (ea_cons (ev_seen (ev_bin or_add od_add (ev_seen (ev_fun call_len cd_len b_len bt_len (ea_cons (ev_var 3) ea_nil))) ev_int)) ea_nil)))))))))) sss_nil)
    (sss_cons (ss_if [] (tt_cmp2 (or_eq hr.units) od_eq (ev_var 4) ev_int) (sss_one (ss_set 3 [] sc__law_near_box.nd (ev_sh (ev_seen (ev_sl (ev_seen (ev_bin or_add od_add (ev_var 3) (ev_seen (ev_call c__law_figs hr tk (ea_cons (ev_seen (ev_call c__law_worth hr tk (ea_cons (ev_var 0) ea_nil))) ea_nil))))) ep_none (ep_some ev_int)))))) sss_nil)
    (sss_one (ss_app 2 [] (ev_var 3)))))))))
    (sss_one (ss_ret [2] (ev_typ call_tuple_of cd_tuple b_tuple bt_tuple (ea_cons (ev_var 2) ea_nil))))))
theorem ok_Store___eq__ {f : Addr} {fd : FuncData} (F : Fun K "__eq__" "Store.__eq__" st_Store___eq__ f fd) {N : OM K} (co : CtOk K N.CT) (i_Store : IsOk K mg N.CT "Store") (b_isinstance : mg "isinstance" = none) : FnOk P w K mg base (L2.CX P w) (0 + 1) f fd ["self", "other"] (spV N.w mg 2 (runD 2 (s_Store___eq__ N))) :=
  def_ok (N := ["self", "other"]) (ss := s_Store___eq__ N) F sc_Store___eq__ rfl (by decide) fun cdv A outer s H E hr tk => (sss_one (ss_ret [] (ev_sh (ev_and td_tru (ev_isO co i_Store (ev_var 1) b_isinstance) (ev_and td_tru (ev_cmp (or_eq hr.units) (od_bl od_eq) (ev_fld co (ev_var 0)) (ev_fld co (ev_var 1))) (ev_one (ev_cmpU (or_eq hr.units) (fun _ => od_bl od_eq) (ev_fld co (ev_var 0)) (ev_fld co (ev_var 1)))))))))
theorem ok_is_beginning {f : Addr} {fd : FuncData} (F : Fun K "is_beginning" "is_beginning" st_is_beginning f fd) (b_isinstance : mg "isinstance" = none) (b_str : mg "str" = none) (b_len : mg "len" = none) (b_all : mg "all" = none) (g_FIGURES : GC mg "FIGURES" (.int 5)) : FnOk P w K mg base (L2.CX P w) (0 + 1) f fd ["thing"] (spV M mg 1 (runD 2 (s_is_beginning M))) :=
  def_ok (N := ["thing", "sign"]) (ss := s_is_beginning M) F sc_is_beginning rfl (by decide) fun cdv A outer s H E hr tk => (sss_one (ss_ret [] (ev_sh (ev_and td_tru (ev_isi .str (ev_var 0) rfl rfl b_isinstance b_str) (ev_and td_tru (ev_cmp op_le (od_bl od_cmpI) (ev_seen (ev_fun call_len cd_len b_len bt_len (ea_cons (ev_var 0) ea_nil))) (ev_gc g_FIGURES)) (ev_one (ev_seen (ev_fun (cr_all rfl) cd_all b_all bt_all (ea_cons (ev_seen (ev_lc [("sign", 1)] rfl sc_is_beginning.nd (it_any (ev_var 0)) (blkOk_by (by first | (show blkC ["thing", "sign"] (defScope st_is_beginning) _ _ = true; decide +kernel) | rfl)) (fun _ _ _ _ _ => (cg_name 1 (by decide) sc_is_beginning.nd)) (fun _ _ _ _ _ => tts_nil) (fun _ _ _ _ _ => (ev_cmp (or_in (un65 hr)) (od_bl od_in) (ev_var 1) (ev_str [48, 49]))))) ea_nil)))))))))
theorem ok_is_box {f : Addr} {fd : FuncData} (F : Fun K "is_box" "is_box" st_is_box f fd) {f_is_beginning : Dfs M} (c_is_beginning : DefOk P w K mg base M 1 "is_beginning" 1 f_is_beginning []) (b_isinstance : mg "isinstance" = none) (b_tuple : mg "tuple" = none) (b_len : mg "len" = none) (b_all : mg "all" = none) (g_MOST_PLACES : GC mg "MOST_PLACES" (.int 5)) : FnOk P w K mg base (L2.CX P w) (1 + 1) f fd ["thing"] (spV M mg 1 (runD 2 (s_is_box M f_is_beginning))) :=
  def_ok (N := ["thing", "one"]) (ss := s_is_box M f_is_beginning) F sc_is_box rfl (by decide) fun cdv A outer s H E hr tk => (sss_one (ss_ret [] (ev_sh (ev_and td_tru (ev_isi .tuple (ev_var 0) rfl rfl b_isinstance b_tuple) (ev_and td_tru (ev_chain op_le op_le od_cmpI od_cmpI ev_int (ev_seen (ev_fun call_len cd_len b_len bt_len (ea_cons (ev_var 0) ea_nil))) (ev_gc g_MOST_PLACES)) (ev_one (ev_seen (ev_fun (cr_all rfl) cd_all b_all bt_all (ea_cons (ev_seen (ev_lc [("one", 1)] rfl sc_is_box.nd (it_any (ev_var 0)) (blkOk_by (by first | (show blkC ["thing", "one"] (defScope st_is_box) _ _ = true; decide +kernel) | rfl)) (fun _ _ _ _ _ => (cg_name 1 (by decide) sc_is_box.nd)) (fun _ _ _ _ _ => tts_nil) (fun _ _ _ _ _ => (ev_seen (ev_call c_is_beginning hr L2.takes0 (ea_cons (ev_var 1) ea_nil)))))) ea_nil)))))))))
theorem ok_Store_need {f : Addr} {fd : FuncData} (F : Fun K "need" "Store.need" st_Store_need f fd) {N : OM K} (co : CtOk K N.CT) {f_is_box : Dfs N.w} (c_is_box : DefOk P w K mg base N.w 2 "is_box" 1 f_is_box []) (e_BadBox : XcOk P w K mg base 2 "BadBox" 0 x_BadBox) (b_len : mg "len" = none) : FnOk P w K mg base (L2.CX P w) (3 + 1) f fd ["self", "box"] (spV N.w mg 2 (runD 2 (s_Store_need N f_is_box))) :=
  def_ok (N := ["self", "box"]) (ss := s_Store_need N f_is_box) F sc_Store_need rfl (by decide) fun cdv A outer s H E hr tk => (sss_one (ss_if [] (L2.PW.pt (tw_or (tt_not (tt_val td_tru (ev_seen (ev_call c_is_box hr tk (ea_cons (ev_var 1) ea_nil))))) (tw_or1 (tt_cmp2 (or_ne hr.units) od_ne (ev_seen (ev_fun call_len cd_len b_len bt_len (ea_cons (ev_var 1) ea_nil))) (ev_fld co (ev_var 0)))))) (sss_one (ss_raise0 e_BadBox hr tk)) sss_nil))
theorem ok_under {f : Addr} {fd : FuncData} (F : Fun K "under" "under" st_under f fd) (b_all : mg "all" = none) (b_zip : mg "zip" = none) : FnOk P w K mg base (L2.CX P w) (0 + 1) f fd ["inner", "outer"] (spV M mg 2 (runD 4 (s_under M))) :=
  def_ok (N := ["inner", "outer", "one", "other"]) (ss := s_under M) F sc_under rfl (by decide) fun cdv A outer s H E hr tk => (sss_one (ss_ret [] (ev_fun (cr_all rfl) cd_all b_all bt_all (ea_cons (ev_seen (ev_lc [("one", 2), ("other", 3)] rfl sc_under.nd (it_zipS b_zip (ev_var 0) (ev_var 1)) (blkOk_by (by first | (show blkC ["inner", "outer", "one", "other"] (defScope st_under) _ _ = true; decide +kernel) | rfl)) (fun _ _ _ _ _ => (cg_tup 2 rfl (cgs_cons (cg_name 2 (by decide) sc_under.nd) (cgs_cons (cg_name 3 (by decide) sc_under.nd) cgs_nil)))) (fun _ _ _ _ _ => tts_nil) (fun _ _ _ _ _ => (ev_seen (ev_starts2 (ev_var 2) (ev_var 3)))))) ea_nil))))
theorem ok_Store_first_over {f : Addr} {fd : FuncData} (F : Fun K "first_over" "Store.first_over" st_Store_first_over f fd) {N : OM K} (co : CtOk K N.CT) {f_under : Dfs N.w} (c_under : DefOk P w K mg base N.w 1 "under" 2 f_under []) : FnOk P w K mg base (L2.CX P w) (1 + 1) f fd ["self", "box"] (spV N.w mg 2 (runD 3 (s_Store_first_over N f_under))) :=
  def_ok (N := ["self", "box", "one"]) (ss := s_Store_first_over N f_under) F sc_Store_first_over rfl (by decide) fun cdv A outer s H E hr tk => (sss_cons (ss_forW [] (passes_of rfl) rfl (ev_fld co (ev_var 0)) (tg_name 2 sc_Store_first_over.nd) (sss_one (ss_if [] (tt_val td_tru (ev_seen (ev_call c_under hr tk (ea_cons (ev_var 1) (ea_cons (ev_var 2) ea_nil))))) (sss_one (ss_ret [] (ev_sh (ev_var 2)))) sss_nil)))
    (sss_one (ss_ret [] (ev_sh ev_non))))
theorem ok_Store_put {f : Addr} {fd : FuncData} (F : Fun K "put" "Store.put" st_Store_put f fd) {N : OM K} (co : CtOk K N.CT) {f_Store_need : Dfs N.w} (m_Store_need : MethOk P w K mg base N 4 "Store" "need" 2 f_Store_need []) {f_Store_first_over : Dfs N.w} (m_Store_first_over : MethOk P w K mg base N 2 "Store" "first_over" 2 f_Store_first_over []) : FnOk P w K mg base (L2.CX P w) (4 + 1) f fd ["self", "box"] (spV N.w mg 2 (runD 2 (s_Store_put N f_Store_need f_Store_first_over))) :=
  def_ok (N := ["self", "box"]) (ss := s_Store_put N f_Store_need f_Store_first_over) F sc_Store_put rfl (by decide) fun cdv A outer s H E hr tk => (sss_cons (ss_drop [] (ev_meth co m_Store_need hr tk (ev_var 0) (ea_cons (ev_var 1) ea_nil)))
    (sss_cons (ss_if [] (tt_cmp2 op_notN od_isnot (ev_seen (ev_meth co m_Store_first_over hr tk (ev_var 0) (ea_cons (ev_var 1) ea_nil))) ev_non) (sss_one (ss_ret [] (ev_sh ev_bl))) sss_nil)
    (sss_cons (ss_drop [] (ev_sh (ev_appW (ev_fld co (ev_var 0)) (ev_var 1))))
    (sss_one (ss_ret [] (ev_sh ev_bl))))))
theorem ok_Store_twin {f : Addr} {fd : FuncData} (F : Fun K "twin" "Store.twin" st_Store_twin f fd) {N : OM K} (co : CtOk K N.CT) {f_Store___init__ : Dfs N.w} (n_Store___init__ : NewOk P w K mg base N 1 "Store" 2 f_Store___init__ []) (b_list : mg "list" = none) : FnOk P w K mg base (L2.CX P w) (2 + 1) f fd ["self"] (spV N.w mg 1 (runD 2 (s_Store_twin N f_Store___init__))) :=
  def_ok (N := ["self", "other"]) (ss := s_Store_twin N f_Store___init__) F sc_Store_twin rfl (by decide) fun cdv A outer s H E hr tk => (sss_cons (ss_set 1 [] sc_Store_twin.nd (ev_sh (ev_new n_Store___init__ hr tk (ea_cons (ev_fld co (ev_var 0)) ea_nil))))
    (sss_cons (ss_fld co 1 [] (ev_typU call_list_of (fun _ => cd_list) b_list bt_list (ea_cons (ev_fld co (ev_var 0)) ea_nil)))
    (sss_one (ss_ret [] (ev_sh (ev_var 1))))))
theorem ok_Store_boxes {f : Addr} {fd : FuncData} (F : Fun K "boxes" "Store.boxes" st_Store_boxes f fd) {N : OM K} (co : CtOk K N.CT) (b_list : mg "list" = none) : FnOk P w K mg base (L2.CX P w) (0 + 1) f fd ["self"] (spV N.w mg 1 (runD 1 (s_Store_boxes N))) :=
  def_ok (N := ["self"]) (ss := s_Store_boxes N) F sc_Store_boxes rfl (by decide) fun cdv A outer s H E hr tk => (sss_one (ss_ret [] (ev_typU call_list_of (fun _ => cd_list) b_list bt_list (ea_cons (ev_fld co (ev_var 0)) ea_nil))))
theorem ok__law_turned_stores {f : Addr} {fd : FuncData} (F : Fun K "_law_turned_stores" "_law_turned_stores" st__law_turned_stores f fd) {N : OM K} (co : CtOk K N.CT) {f_Store___init__ : Dfs N.w} (n_Store___init__ : NewOk P w K mg base N 1 "Store" 2 f_Store___init__ []) {f_Store_put : Dfs N.w} (m_Store_put : MethOk P w K mg base N 5 "Store" "put" 2 f_Store_put []) {f_Store___eq__ : Dfs N.w} (m_Store___eq__ : MethOk P w K mg base N 1 "Store" "__eq__" 2 f_Store___eq__ []) {f_Store_boxes : Dfs N.w} (m_Store_boxes : MethOk P w K mg base N 1 "Store" "boxes" 1 f_Store_boxes []) {f_Store_twin : Dfs N.w} (m_Store_twin : MethOk P w K mg base N 3 "Store" "twin" 1 f_Store_twin []) (q_Store : EqOk K N.CT "Store") : FnOk P w K mg base (L2.CX P w) (5 + 1) f fd ["_law_many", "_law_kept"] (spV N.w mg 2 (runD 5 (s_law_turned_stores N f_Store___init__ f_Store_put f_Store___eq__ f_Store_boxes f_Store_twin))) :=
  def_ok (N := ["_law_many", "_law_kept", "_law_one", "_law_other", "_law_box_here"]) (ss := s_law_turned_stores N f_Store___init__ f_Store_put f_Store___eq__ f_Store_boxes f_Store_twin) F sc__law_turned_stores rfl (by decide) fun cdv A outer s H E hr tk => (sss_cons (ss_par 2 3 sc__law_turned_stores.nd (ev_sh (ev_new n_Store___init__ hr tk (ea_cons (ev_var 0) ea_nil))) (ev_sh (ev_new n_Store___init__ hr tk (ea_cons (ev_var 0) ea_nil))))
    (sss_cons (ss_for [] (passes_of rfl) rfl (it_any (ev_seen (ev_sl (ev_var 1) ep_none (ep_some ev_int)))) (tg_name 4 sc__law_turned_stores.nd) (sss_one (ss_drop [] (ev_meth co m_Store_put hr tk (ev_var 2) (ea_cons (ev_var 4) ea_nil)))))
    (sss_cons (ss_for [] (passes_of rfl) rfl (it_any (ev_seen (ev_rev (ev_seen (ev_sl (ev_var 1) ep_none (ep_some ev_int)))))) (tg_name 4 sc__law_turned_stores.nd) (sss_one (ss_drop [] (ev_meth co m_Store_put hr tk (ev_var 3) (ea_cons (ev_var 4) ea_nil)))))
    (sss_one (ss_ret [] (ev_sh (ev_and td_tru (ev_cmp (or_eq hr.units) (od_bl od_eq) (ev_ownEq co m_Store___eq__ q_Store hr (ev_var 2) (ev_var 3)) (ev_cmp (or_eq hr.units) (od_bl od_eq) (ev_seen (ev_meth0 co m_Store_boxes hr tk (ev_var 2))) (ev_seen (ev_meth0 co m_Store_boxes hr tk (ev_var 3))))) (ev_one (ev_ownEq co m_Store___eq__ q_Store hr (ev_var 2) (ev_seen (ev_meth0 co m_Store_twin hr tk (ev_var 2))))))))))))
theorem ok__law_box {f : Addr} {fd : FuncData} (F : Fun K "_law_box" "_law_box" st__law_box f fd) {f__law_begin : Dfs M} (c__law_begin : DefOk P w K mg base M 4 "_law_begin" 1 f__law_begin []) (b_tuple : mg "tuple" = none) (b_range : mg "range" = none) : FnOk P w K mg base (L2.CX P w) (4 + 1) f fd ["_law_bag_here", "_law_many"] (spV M mg 2 (runD 3 (s_law_box M f__law_begin))) :=
  def_ok (N := ["_law_bag_here", "_law_many", "_law_k"]) (ss := s_law_box M f__law_begin) F sc__law_box rfl (by decide) fun cdv A outer s H E hr tk => (sss_one (ss_ret [] (ev_typ call_tuple_of cd_tuple b_tuple bt_tuple (ea_cons (ev_seen (ev_lc [("_law_k", 2)] rfl sc__law_box.nd (it_range1 b_range (ev_var 1)) (blkOk_by (by first | (show blkC ["_law_bag_here", "_law_many", "_law_k"] (defScope st__law_box) _ _ = true; decide +kernel) | rfl)) (fun _ _ _ _ _ => (cg_name 2 (by decide) sc__law_box.nd)) (fun _ _ _ _ _ => tts_nil) (fun _ _ _ _ _ => (ev_seen (ev_call c__law_begin hr L2.takes0 (ea_cons (ev_var 0) ea_nil)))))) ea_nil))))
theorem ok__law_same {f : Addr} {fd : FuncData} {k : Nat} (hk : 0 ≤ k) (F : Fun K "_law_same" "_law_same" st__law_same f fd) {f__law_same : Dfs M} (c__law_same : DefOk P w K mg base M k "_law_same" 2 f__law_same []) (b_isinstance : mg "isinstance" = none) (b_bool : mg "bool" = none) (b_str : mg "str" = none) (b_int : mg "int" = none) (b_list : mg "list" = none) (b_tuple : mg "tuple" = none) (b_len : mg "len" = none) (b_all : mg "all" = none) (b_range : mg "range" = none) : FnOk P w K mg base (L2.CX P w) (k + 1) f fd ["_law_found", "_law_due"] (spV M mg 2 (runD 3 (s_law_same M f__law_same))) :=
  def_ok (N := ["_law_found", "_law_due", "_law_at"]) (ss := s_law_same M f__law_same) F sc__law_same rfl (by decide) fun cdv A outer s H E hr tk => (sss_cons (ss_if [] (tt_cmp2 op_isN od_is (ev_var 1) ev_non) (sss_one (ss_ret [] (ev_sh (ev_cmp op_isN (od_bl od_is) (ev_var 0) ev_non)))) sss_nil)
    (sss_cons (ss_if [] (L2.PW.pt (tw_or (tt_val td_tru (ev_isi .bool (ev_var 1) rfl rfl b_isinstance b_bool)) (tw_or1 (tt_val td_tru (ev_isi .bool (ev_var 0) rfl rfl b_isinstance b_bool))))) (sss_one (ss_ret [] (ev_sh (ev_and td_tru (ev_isi .bool (ev_var 1) rfl rfl b_isinstance b_bool) (ev_and td_tru (ev_isi .bool (ev_var 0) rfl rfl b_isinstance b_bool) (ev_one (ev_cmp (or_eq hr.units) (od_bl od_eq) (ev_var 0) (ev_var 1)))))))) sss_nil)
    (sss_cons (ss_if [] (tt_val td_tru (ev_isiT .int [.str] (ev_var 1) rfl (ea_ty .int (ea_ty .str ea_ty0 rfl b_str) rfl b_int) b_isinstance)) (sss_one (ss_ret [] (ev_sh (ev_and td_tru (ev_cmp (or_eq hr.units) (od_bl od_eq) (ev_isi .int (ev_var 0) rfl rfl b_isinstance b_int) (ev_isi .int (ev_var 1) rfl rfl b_isinstance b_int)) (ev_and td_tru (ev_isiT .int [.str] (ev_var 0) rfl (ea_ty .int (ea_ty .str ea_ty0 rfl b_str) rfl b_int) b_isinstance) (ev_one (ev_cmp (or_eq hr.units) (od_bl od_eq) (ev_var 0) (ev_var 1)))))))) sss_nil)
    (sss_cons (ss_if [] (L2.PW.pt (tw_or (tt_cmp2 (or_ne hr.units) od_ne (ev_isi .list (ev_var 0) rfl rfl b_isinstance b_list) (ev_isi .list (ev_var 1) rfl rfl b_isinstance b_list)) (tw_or1 (tt_cmp2 (or_ne hr.units) od_ne (ev_isi .tuple (ev_var 0) rfl rfl b_isinstance b_tuple) (ev_isi .tuple (ev_var 1) rfl rfl b_isinstance b_tuple))))) (sss_one (ss_ret [] (ev_sh ev_bl))) sss_nil)
    (sss_one (ss_ret [] (ev_sh (ev_and td_tru (ev_cmp (or_eq hr.units) (od_bl od_eq) (ev_seen (ev_fun call_len cd_len b_len bt_len (ea_cons (ev_var 0) ea_nil))) (ev_seen (ev_fun call_len cd_len b_len bt_len (ea_cons (ev_var 1) ea_nil)))) (ev_one (ev_seen (ev_fun (cr_all rfl) cd_all b_all bt_all (ea_cons (ev_seen (ev_lc [("_law_at", 2)] rfl sc__law_same.nd (it_range1 b_range (ev_seen (ev_fun call_len cd_len b_len bt_len (ea_cons (ev_var 1) ea_nil)))) (blkOk_by (by first | (show blkC ["_law_found", "_law_due", "_law_at"] (defScope st__law_same) _ _ = true; decide +kernel) | rfl)) (fun _ _ _ _ _ => (cg_name 2 (by decide) sc__law_same.nd)) (fun _ _ _ _ _ => tts_nil) (fun _ _ _ _ _ => (ev_seen (ev_call (hkj := Nat.le_refl _) c__law_same hr L2.takes0 (ea_cons (ev_ix (ev_var 0) (ev_var 2)) (ea_cons (ev_ix (ev_var 1) (ev_var 2)) ea_nil))))))) ea_nil))))))))))))
theorem ok__law_starts {f : Addr} {fd : FuncData} (F : Fun K "_law_starts" "_law_starts" st__law_starts f fd) (b_len : mg "len" = none) : FnOk P w K mg base (L2.CX P w) (0 + 1) f fd ["_law_one", "_law_other"] (spV M mg 2 (runD 2 (s_law_starts M))) :=
  def_ok (N := ["_law_one", "_law_other"]) (ss := s_law_starts M) F sc__law_starts rfl (by decide) fun cdv A outer s H E hr tk => (sss_one (ss_ret [] (ev_sh (ev_cmp (or_eq hr.units) (od_bl od_eq) (ev_seen (ev_sl (ev_var 0) ep_none (ep_some (ev_seen (ev_fun call_len cd_len b_len bt_len (ea_cons (ev_var 1) ea_nil)))))) (ev_var 1)))))
theorem ok__law_inside {f : Addr} {fd : FuncData} (F : Fun K "_law_inside" "_law_inside" st__law_inside f fd) {f__law_starts : Dfs M} (c__law_starts : DefOk P w K mg base M 1 "_law_starts" 2 f__law_starts []) (b_all : mg "all" = none) (b_zip : mg "zip" = none) : FnOk P w K mg base (L2.CX P w) (1 + 1) f fd ["_law_one", "_law_other"] (spV M mg 2 (runD 4 (s_law_inside M f__law_starts))) :=
  def_ok (N := ["_law_one", "_law_other", "_law_a", "_law_b"]) (ss := s_law_inside M f__law_starts) F sc__law_inside rfl (by decide) fun cdv A outer s H E hr tk => (sss_one (ss_ret [] (ev_fun (cr_all rfl) cd_all b_all bt_all (ea_cons (ev_seen (ev_lc [("_law_a", 2), ("_law_b", 3)] rfl sc__law_inside.nd (it_zip b_zip (ev_var 0) (ev_var 1)) (blkOk_by (by first | (show blkC ["_law_one", "_law_other", "_law_a", "_law_b"] (defScope st__law_inside) _ _ = true; decide +kernel) | rfl)) (fun _ _ _ _ _ => (cg_tup 2 rfl (cgs_cons (cg_name 2 (by decide) sc__law_inside.nd) (cgs_cons (cg_name 3 (by decide) sc__law_inside.nd) cgs_nil)))) (fun _ _ _ _ _ => tts_nil) (fun _ _ _ _ _ => (ev_seen (ev_call c__law_starts hr L2.takes0 (ea_cons (ev_var 2) (ea_cons (ev_var 3) ea_nil))))))) ea_nil))))
theorem ok_Store_over {f : Addr} {fd : FuncData} (F : Fun K "over" "Store.over" st_Store_over f fd) {N : OM K} (co : CtOk K N.CT) {f_Store_need : Dfs N.w} (m_Store_need : MethOk P w K mg base N 4 "Store" "need" 2 f_Store_need []) {f_Store_first_over : Dfs N.w} (m_Store_first_over : MethOk P w K mg base N 2 "Store" "first_over" 2 f_Store_first_over []) : FnOk P w K mg base (L2.CX P w) (4 + 1) f fd ["self", "box"] (spV N.w mg 2 (runD 2 (s_Store_over N f_Store_need f_Store_first_over))) :=
  def_ok (N := ["self", "box"]) (ss := s_Store_over N f_Store_need f_Store_first_over) F sc_Store_over rfl (by decide) fun cdv A outer s H E hr tk => (sss_cons (ss_drop [] (ev_meth co m_Store_need hr tk (ev_var 0) (ea_cons (ev_var 1) ea_nil)))
    (sss_one (ss_ret [] (ev_meth co m_Store_first_over hr tk (ev_var 0) (ea_cons (ev_var 1) ea_nil)))))
theorem ok__law_store_right {f : Addr} {fd : FuncData} (F : Fun K "_law_store_right" "_law_store_right" st__law_store_right f fd) {N : OM K} (co : CtOk K N.CT) {f__law_inside : Dfs N.w} (c__law_inside : DefOk P w K mg base N.w 2 "_law_inside" 2 f__law_inside []) {f_Store_boxes : Dfs N.w} (m_Store_boxes : MethOk P w K mg base N 1 "Store" "boxes" 1 f_Store_boxes []) {f__law_same : Dfs N.w} (c__law_same : DefOk P w K mg base N.w 6 "_law_same" 2 f__law_same []) {f_Store_over : Dfs N.w} (m_Store_over : MethOk P w K mg base N 5 "Store" "over" 2 f_Store_over []) : FnOk P w K mg base (L2.CX P w) (6 + 1) f fd ["_law_store", "_law_kept", "_law_asked"] (spV N.w mg 3 (runD 5 (s_law_store_right N f__law_inside f_Store_boxes f__law_same f_Store_over))) :=
  def_ok (N := ["_law_store", "_law_kept", "_law_asked", "_law_round_it", "_law_one"]) (ss := s_law_store_right N f__law_inside f_Store_boxes f__law_same f_Store_over) F sc__law_store_right rfl (by decide) fun cdv A outer s H E hr tk => (sss_cons (ss_setLc 3 [] (lcp_lcS [("_law_one", 4)] rfl sc__law_store_right.nd (it_any (ev_var 1)) (blkOk_by (by first | (show blkC ["_law_store", "_law_kept", "_law_asked", "_law_round_it", "_law_one"] (defScope st__law_store_right) _ _ = true; decide +kernel) | rfl)) (fun _ _ _ _ _ => (cg_name 4 (by decide) sc__law_store_right.nd)) (fun _ _ _ _ _ => (tts_one (tt_val td_tru (ev_seen (ev_call c__law_inside hr L2.takes0 (ea_cons (ev_var 2) (ea_cons (ev_var 4) ea_nil))))))) (fun _ _ _ _ _ => (ev_var 4))))
    (sss_one (ss_ret [] (ev_sh (ev_and td_tru (ev_cmp (or_eq hr.units) (od_bl od_eq) (ev_seen (ev_meth0 co m_Store_boxes hr tk (ev_var 0))) (ev_var 1)) (ev_one (ev_seen (ev_call c__law_same hr tk (ea_cons (ev_seen (ev_meth co m_Store_over hr tk (ev_var 0) (ea_cons (ev_var 2) ea_nil))) (ea_cons (ev_ix (ev_seen (ev_bin or_add od_add (ev_var 3) (ev_seen (ev_lst (ea_cons ev_non ea_nil))))) ev_int) ea_nil))))))))))
theorem ok_Store___repr__ {f : Addr} {fd : FuncData} (F : Fun K "__repr__" "Store.__repr__" st_Store___repr__ f fd) {N : OM K} (co : CtOk K N.CT) (b_len : mg "len" = none) : FnOk P w K mg base (L2.CX P w) (0 + 1) f fd ["self"] (spV N.w mg 1 (runD 1 (s_Store___repr__ N))) :=
  def_ok (N := ["self"]) (ss := s_Store___repr__ N) F sc_Store___repr__ rfl (by decide) fun cdv A outer s H E hr tk => (sss_one (ss_ret [] (ev_sh (ev_js (JsOk.cons (ev_str [83, 116, 111, 114, 101, 40]) (JsOk.cons (ev_fmt (ev_seen (ev_funU call_len (fun _ => cd_len) b_len bt_len (ea_cons (ev_fld co (ev_var 0)) ea_nil)))) (JsOk.cons (ev_str [32, 98, 111, 120, 101, 115, 41]) JsOk.nil)))))))
theorem ok__law_odd_thing {f : Addr} {fd : FuncData} (F : Fun K "_law_odd_thing" "_law_odd_thing" st__law_odd_thing f fd) {f__law_of : Dfs M} (c__law_of : DefOk P w K mg base M 2 "_law_of" 2 f__law_of []) : FnOk P w K mg base (L2.CX P w) (2 + 1) f fd ["_law_bag_here", "_law_many"] (spV M mg 2 (runD 3 (s_law_odd_thing M f__law_of))) :=
  def_ok (N := ["_law_bag_here", "_law_many", "_law_some"]) (ss := s_law_odd_thing M f__law_of) F sc__law_odd_thing rfl (by decide) fun cdv A outer s H E hr tk => (sss_cons (ss_set 2 [] sc__law_odd_thing.nd (ev_sh (ev_seen (ev_lst (ea_cons ev_non (ea_cons ev_int (ea_cons (ev_str [48, 49]) (ea_cons ev_bl (ea_cons (ev_tup ea_nil) (ea_cons (ev_seen (ev_bin or_mul od_mul (ev_tup (ea_cons (ev_str []) ea_nil)) ev_int)) (ea_cons (ev_seen (ev_bin or_mul od_mul (ev_tup (ea_cons ev_int ea_nil)) ev_int)) (ea_cons (ev_seen (ev_bin or_mul od_mul (ev_seen (ev_lst (ea_cons (ev_str []) ea_nil))) (ev_var 1))) (ea_cons (ev_seen (ev_bin or_mul od_mul (ev_tup (ea_cons (ev_str [50]) ea_nil)) (ev_var 1))) (ea_cons (ev_seen (ev_bin or_mul od_mul (ev_tup (ea_cons (ev_str [48, 48, 48, 48, 48, 48]) ea_nil)) (ev_var 1))) ea_nil))))))))))))))
    (sss_cons (ss_set 2 [] sc__law_odd_thing.nd (ev_sh (ev_seen (ev_bin or_add od_add (ev_var 2) (ev_seen (ev_lst (ea_cons (ev_seen (ev_bin or_mul od_mul (ev_tup (ea_cons ev_int ea_nil)) (ev_var 1))) (ea_cons (ev_seen (ev_bin or_mul od_mul (ev_tup (ea_cons (ev_un un_neg ud_neg ev_int) ea_nil)) (ev_var 1))) (ea_cons (ev_seen (ev_bin or_mul od_mul (ev_tup (ea_cons ev_bl ea_nil)) (ev_var 1))) (ea_cons (ev_seen (ev_bin or_mul od_mul (ev_tup (ea_cons ev_non ea_nil)) (ev_var 1))) (ea_cons (ev_tup (ea_cons (ev_str []) (ea_cons ev_int ea_nil))) ea_nil)))))))))))
    (sss_cons (ss_set 2 [] sc__law_odd_thing.nd (ev_sh (ev_seen (ev_bin or_add od_add (ev_var 2) (ev_seen (ev_lst (ea_cons (ev_seen (ev_bin or_mul od_mul (ev_tup (ea_cons (ev_seen (ev_lst ea_nil)) ea_nil)) (ev_var 1))) (ea_cons (ev_tup (ea_cons (ev_str []) (ea_cons (ev_seen (ev_lst ea_nil)) ea_nil))) (ea_cons (ev_tup (ea_cons (ev_seen (ev_lst (ea_cons ev_int ea_nil))) ea_nil)) (ea_cons (ev_tup (ea_cons ev_int (ea_cons (ev_seen (ev_lst ea_nil)) ea_nil))) ea_nil))))))))))
    (sss_one (ss_ret [] (ev_call c__law_of hr tk (ea_cons (ev_var 0) (ea_cons (ev_var 2) ea_nil))))))))
theorem ok_Store___len__ {f : Addr} {fd : FuncData} (F : Fun K "__len__" "Store.__len__" st_Store___len__ f fd) {N : OM K} (co : CtOk K N.CT) (b_len : mg "len" = none) : FnOk P w K mg base (L2.CX P w) (0 + 1) f fd ["self"] (spV N.w mg 1 (runD 1 (s_Store___len__ N))) :=
  def_ok (N := ["self"]) (ss := s_Store___len__ N) F sc_Store___len__ rfl (by decide) fun cdv A outer s H E hr tk => (sss_one (ss_ret [] (ev_funU call_len (fun _ => cd_len) b_len bt_len (ea_cons (ev_fld co (ev_var 0)) ea_nil))))
end
section
variable {P : Program} {w : World} {K : PySem.W.Frag} {mg : Str → Option Value} {base : Heap} {b l : Addr} {T : List (Addr × Str)} {I : IW K}
theorem pit {X : Cx} {x : Str} {i : Int} {j : Nat} {p1 p2 p3 : Pos} (hN : X.N[0]? = some x := by rfl) (hv : Vis X.env.scope x := by exact Or.inl rfl) (hd : (x == ("__debug__" : Str)) = false := by decide)
    (hcd : (x == ("__classdict__" : Str)) = false := by decide) : PE X (.Subscript (.Name x p1) (.Constant (.int i) j p2) p3) (pIt X.K i) := pe_ix ix_list (pe_var hN hv hd hcd) pe_int (by intro _ _; rfl)
theorem ok__law_pull {f : Addr} {fd : FuncData} (F : Fun K "_law_pull" "_law_pull" st__law_pull f fd) (b_len : mg "len" = none) : FnOk P w K mg base (L2.CX P w) 1 f fd ["_law_bag_here", "_law_size"] (spV (bagW K b l T I) mg 2 pullS) :=
  pull_ok F sc__law_pull fun cdv A outer s H E =>
    pss_cons (ps_if (L2.PW.pt (pw_and (pt_cmpR op_lt pit (pv 1) rfl) (pw_and1 (pt_cmpR op_lt pit (pe_callB call_len rfl b_len bt_len (pa_cons pit pa_nil)) rfl))))
      (pss_cons (ps_asg (pe_ix ix_list pit pit (by intro _ _; rfl)) (pg_name sc__law_pull.nd rfl (.inl rfl)))
        (pss_cons (ps_asg (pe_op op_add pit pe_int) (pg_sub (pv 0) pe_int set_list))
          (pss_cons (ps_asg (pe_ifExp (pt_cmpR op_ge (pv 2) (pe_op op_pow pe_int pe_int) rfl) (pe_op op_sub (pv 2) (pe_op op_pow pe_int pe_int)) pe_int) (pg_sub (pv 0) pe_int set_list))
            (pss_one (ps_asg (pe_op op_mod (pe_op op_add (pe_op op_add (pe_op op_mul pit pe_int) (pe_op op_mul (pv 2) pe_int)) pit) pe_int) (pg_sub (pv 0) pe_int set_list)))))) pss_nil)
    (pss_cons (ps_if (pt_cmpR op_ge pit (pv 1) rfl)
      (pss_cons (ps_asg (pe_op op_mod pit (pv 1)) (pg_name sc__law_pull.nd rfl (.inl rfl)))
        (pss_cons (ps_asg (pe_op op_fdiv pit (pv 1)) (pg_sub (pv 0) pe_int set_list))
          (pss_one (ps_ret (pv 3))))) pss_nil)
    (pss_cons (ps_asg (pe_op op_add pit pe_int) (pg_sub (pv 0) pe_int set_list))
    (pss_cons (ps_asg (pe_op op_mod (pe_op op_add (pe_op op_add (pe_op op_add (pe_op op_pow pit pe_int) (pe_op op_mul pe_int pit)) (pe_op op_fdiv pit pe_int)) pe_int) pe_int) (pg_sub (pv 0) pe_int set_list))
    (pss_one (ps_ret (pe_op op_mod (pe_op op_fdiv pit pe_int) (pv 1)))))))
theorem ok__law_bag {f : Addr} {fd : FuncData} (F : Fun K "_law_bag" "_law_bag" st__law_bag f fd) (b_list : mg "list" = none) : FnOk P w K mg base (L2.CX P w) 1 f fd ["_law_script"] (spBag K) :=
  bag_ok F sc__law_bag fun cdv A outer s H E =>
    pss_one (ps_ret (pe_lst (pa_cons (pe_callTy call_list_of rfl b_list bt_list (pa_cons (pe_slice sl_list (pv 0) po_none (po_some pe_int)) pa_nil)) (pa_cons pe_int (pa_cons pe_int (pa_cons pe_int (pa_cons pe_int pa_nil)))))))
end
end VL

namespace VL
open PySem PySem.Spec PyProof.Rows L2 VQ VK LamX
section
variable {P : Program} {w : World} {K : PySem.W.Frag} {mg : Str → Option Value} {base : Heap}
theorem sci_QuiltError : FnScope ["self", "called"] ["self", "called"] (defScope st_QuiltError) := ⟨rfl, rfl, rfl, by decide +kernel, rfl, by decide +kernel, by decide +kernel⟩
theorem ok_x_QuiltError {f : Addr} {fd : FuncData} (F : Fun K "__init__" "QuiltError.__init__" st_QuiltError f fd) : FnOk P w K mg base (L2.CX P w) 1 f fd ["self", "called"] (spA K ["called"] 1 [("called", .inl 0)]) := base_init F sci_QuiltError rfl rfl rfl
theorem sci_BadBox : FnScope ["self"] ["self"] (defScope st_BadBox) := ⟨rfl, rfl, rfl, by decide +kernel, rfl, by decide +kernel, by decide +kernel⟩
theorem ok_x_BadBox {f C : Addr} {fd : FuncData} (F : Fun K "__init__" "BadBox.__init__" st_BadBox f fd) (A : AboveOk P w K mg base 1 "QuiltError") (T : OexC K C) (hno : PySem.W.findIn K (.ref C) "called" = some none) : FnOk P w K mg base (L2.CX P w) 2 f fd ["self"] (spI C 0 x_BadBox) :=
  own_init0 (nm := "BadBox") F sci_BadBox (fun cdv A2 outer s H E hr => pss_one (ps_expr (pe_above A hr))) (by decide +kernel) T hno
theorem ok_tried {g : Addr} {fd : FuncData} {C_Taken C_NoTable C_NoRow C_BadText C_Unfit C_Full C_TooMany C_QuiltError C_Nothing : Value} (F : Fun K "_law_tried" "_law_tried" st__law_tried g fd) (hb : L2.Binds K fd ["_law_ask"] []) (hg : mg "_law_tried" = some (.ref g)) (n_Taken : mg "Taken" = some C_Taken) (n_NoTable : mg "NoTable" = some C_NoTable) (n_NoRow : mg "NoRow" = some C_NoRow) (n_BadText : mg "BadText" = some C_BadText) (n_Unfit : mg "Unfit" = some C_Unfit) (n_Full : mg "Full" = some C_Full) (n_TooMany : mg "TooMany" = some C_TooMany) (n_QuiltError : mg "QuiltError" = some C_QuiltError) (n_Nothing : mg "Nothing" = some C_Nothing) : TriedDef P w K mg base g [([C_Taken, C_NoTable, C_NoRow], some "name"), ([C_BadText, C_Unfit], some "at"), ([C_Full], some "what"), ([C_TooMany], some "most"), ([C_QuiltError, C_Nothing], none)] :=
  ⟨⟨st__law_tried, fd, _, _, _, _, _, _, _, _, _, _, F, sc__law_tried, hb, rfl, rfl, rfl, fun cdv A outer s H => (HdsG.cons (test3 ⟨rfl, by decide, .inl n_Taken⟩ ⟨rfl, by decide, .inl n_NoTable⟩ ⟨rfl, by decide, .inl n_NoRow⟩) (fun a oe cls d pn hz hf => pss_one (ps_ret (pe_tup (pa_cons (pe_xg hz hf (pv 1)) (pa_cons (pe_xg hz hf (pv 1)) pa_nil))))) (HdsG.cons (test2 ⟨rfl, by decide, .inl n_BadText⟩ ⟨rfl, by decide, .inl n_Unfit⟩) (fun a oe cls d pn hz hf => pss_one (ps_ret (pe_tup (pa_cons (pe_xg hz hf (pv 1)) (pa_cons (pe_xg hz hf (pv 1)) pa_nil))))) (HdsG.cons (test1 ⟨rfl, by decide, .inl n_Full⟩) (fun a oe cls d pn hz hf => pss_one (ps_ret (pe_tup (pa_cons (pe_xg hz hf (pv 1)) (pa_cons (pe_xg hz hf (pv 1)) pa_nil))))) (HdsG.cons (test1 ⟨rfl, by decide, .inl n_TooMany⟩) (fun a oe cls d pn hz hf => pss_one (ps_ret (pe_tup (pa_cons (pe_xg hz hf (pv 1)) (pa_cons (pe_xg hz hf (pv 1)) pa_nil))))) (HdsG.cons (test2 ⟨rfl, by decide, .inl n_QuiltError⟩ ⟨rfl, by decide, .inl n_Nothing⟩) (fun a oe cls d pn hz hf => pss_one (ps_ret (pe_tup (pa_cons (pe_xg hz hf (pv 1)) (pa_cons pe_str pa_nil))))) HdsG.nil)))))⟩, hg⟩
theorem ok_word {g : Addr} {fd : FuncData} (F : Fun K "_law_word" "_law_word" st__law_word g fd) (hb : L2.Binds K fd ["_law_ask"] []) (hg : mg "_law_word" = some (.ref g)) : WordDef P w K mg base g :=
  ⟨⟨st__law_word, fd, _, _, _, _, _, _, _, F, sc__law_word, hb, rfl, rfl, rfl⟩, hg⟩
end
section
variable {P : Program} {w : World} {K : PySem.W.Frag} {mg : Str → Option Value} {base : Heap}
theorem d_law {N : OM K} (co : CtOk K N.CT) {f__law_pull : Dfs N.w} (c__law_pull : DefOk P w K mg base N.w 1 "_law_pull" 2 f__law_pull []) {f_Store___init__ : Dfs N.w} (n_Store___init__ : NewOk P w K mg base N 1 "Store" 2 f_Store___init__ []) {f__law_near_box : Dfs N.w} (c__law_near_box : DefOk P w K mg base N.w 5 "_law_near_box" 2 f__law_near_box []) {f__law_of : Dfs N.w} (c__law_of : DefOk P w K mg base N.w 2 "_law_of" 2 f__law_of []) {f__law_box : Dfs N.w} (c__law_box : DefOk P w K mg base N.w 5 "_law_box" 2 f__law_box []) {f__law_inside : Dfs N.w} (c__law_inside : DefOk P w K mg base N.w 2 "_law_inside" 2 f__law_inside []) {f__law_same : Dfs N.w} (c__law_same : DefOk P w K mg base N.w 6 "_law_same" 2 f__law_same []) {f_Store_put : Dfs N.w} (m_Store_put : MethOk P w K mg base N 5 "Store" "put" 2 f_Store_put []) {f__law_store_right : Dfs N.w} (c__law_store_right : DefOk P w K mg base N.w 7 "_law_store_right" 3 f__law_store_right []) {f__law_odd_thing : Dfs N.w} (c__law_odd_thing : DefOk P w K mg base N.w 3 "_law_odd_thing" 2 f__law_odd_thing []) {f_Store_over : Dfs N.w} (m_Store_over : MethOk P w K mg base N 5 "Store" "over" 2 f_Store_over []) {f_Store_boxes : Dfs N.w} (m_Store_boxes : MethOk P w K mg base N 1 "Store" "boxes" 1 f_Store_boxes []) {f_Store___len__ : Dfs N.w} (m_Store___len__ : MethOk P w K mg base N 1 "Store" "__len__" 1 f_Store___len__ []) {f_Store___repr__ : Dfs N.w} (m_Store___repr__ : MethOk P w K mg base N 1 "Store" "__repr__" 1 f_Store___repr__ []) {f_Store_twin : Dfs N.w} (m_Store_twin : MethOk P w K mg base N 3 "Store" "twin" 1 f_Store_twin []) {f_Store___eq__ : Dfs N.w} (m_Store___eq__ : MethOk P w K mg base N 1 "Store" "__eq__" 2 f_Store___eq__ []) {f__law_turned_stores : Dfs N.w} (c__law_turned_stores : DefOk P w K mg base N.w 6 "_law_turned_stores" 2 f__law_turned_stores []) (q_Store : EqOk K N.CT "Store") (b_range : mg "range" = none) (b_any : mg "any" = none) (b_int : mg "int" = none) (b_len : mg "len" = none) (b_repr : mg "repr" = none) (b_str : mg "str" = none) (b_list : mg "list" = none) {gt gw c_ Pt : Addr} {cl : Cl} {xt : Xt} (hT : TriedDef P w K mg base gt cl) (hWd : WordDef P w K mg base gw) (hx : XtOk K mg cl xt) (TB : TabB base mg c_ Pt) (hmT : (Pt, lamQ "law") ∈ N.w.T) (huT : ∀ r ∈ N.w.T, r.1 = Pt → r.2 = lamQ "law") {f : Addr} {A : Around} {outer : List Env} {s : Shared} {H : Hp} {E : XK} (hr : Room 10 (A.deeper (envOfC "law" (defScope st_law) s.heap.objs.size f (.ref c_)))) (tk : Takes (cxOf (L2.CX P w) P w K mg base ["_law_script", "_law_bag_here", "_law_many", "_law_store", "_law_kept", "_law_other", "_law_lone", "_law_turn", "_law_box_here", "_law_new", "_law_asked", "_law_odd", "_law_again", "_law_found", "_law_extra", "_law_good", "_law_one"] "law" (defScope st_law) f (.ref c_) A outer s H E) (fun cls d _ H => E cls d H)) :
    PSs (cxOf (L2.CX P w) P w K mg base ["_law_script", "_law_bag_here", "_law_many", "_law_store", "_law_kept", "_law_other", "_law_lone", "_law_turn", "_law_box_here", "_law_new", "_law_asked", "_law_odd", "_law_again", "_law_found", "_law_extra", "_law_good", "_law_one"] "law" (defScope st_law) f (.ref c_) A outer s H E) (defBody st_law).tail (tS N.w mg (fun cls d _ H => E cls d H) (s_law_k09 N f__law_pull f_Store___init__ f__law_near_box f__law_of f__law_box f__law_inside f__law_same f_Store_put f__law_store_right f__law_odd_thing f_Store_over f_Store_boxes f_Store___len__ f_Store___repr__ f_Store_twin f_Store___eq__ f__law_turned_stores xt)) :=
  (sss_cons (ss_set 2 [] sc_law.nd (ev_sh (ev_seen (ev_bin or_add od_add ev_int (ev_seen (ev_call c__law_pull hr tk (ea_cons (ev_var 1) (ea_cons ev_int ea_nil))))))))
    (sss_cons (ss_tgt [] (ev_tup (ea_cons (ev_new n_Store___init__ hr tk (ea_cons (ev_var 2) ea_nil)) (ea_cons (ev_seen (ev_lst ea_nil)) (ea_cons ev_non (ea_cons (ev_seen (ev_lst ea_nil)) ea_nil))))) (tg_tup 4 rfl (tgs_cons (tg_name 3 sc_law.nd) (tgs_cons (tg_name 4 sc_law.nd) (tgs_cons (tg_name 5 sc_law.nd) (tgs_cons (tg_name 6 sc_law.nd) tgs_nil))))))
    (sss_cons (ss_for [] (passes_of rfl) rfl (it_range1 b_range ev_int) (tg_name 7 sc_law.nd) (sss_cons (ss_set 8 [] sc_law.nd (ev_sh (ev_seen (ev_ifR (L2.PW.pt (tw_and (tt_cmp2 (or_ne hr.units) od_ne (ev_var 4) (ev_seen (ev_lst ea_nil))) (tw_and1 (tt_cmp2 op_gt od_cmpI (ev_seen (ev_call c__law_pull hr tk (ea_cons (ev_var 1) (ea_cons ev_int ea_nil)))) ev_int)))) (ev_call c__law_near_box hr tk (ea_cons (ev_var 1) (ea_cons (ev_seen (ev_call c__law_of hr tk (ea_cons (ev_var 1) (ea_cons (ev_var 4) ea_nil)))) ea_nil))) (ev_call c__law_box hr tk (ea_cons (ev_var 1) (ea_cons (ev_var 2) ea_nil)))))))
    (sss_cons (ss_set 9 [] sc_law.nd (ev_sh (ev_not td_tru (ev_seen (ev_fun (cr_any rfl) cd_any b_any bt_any (ea_cons (ev_seen (ev_lc [("_law_one", 16)] rfl sc_law.nd (it_any (ev_var 4)) (blkOk_by (by first | (show blkC ["_law_script", "_law_bag_here", "_law_many", "_law_store", "_law_kept", "_law_other", "_law_lone", "_law_turn", "_law_box_here", "_law_new", "_law_asked", "_law_odd", "_law_again", "_law_found", "_law_extra", "_law_good", "_law_one"] (defScope st_law) _ _ = true; decide +kernel) | rfl)) (fun _ _ _ _ _ => (cg_name 16 (by decide) sc_law.nd)) (fun _ _ _ _ _ => tts_nil) (fun _ _ _ _ _ => (ev_seen (ev_call c__law_inside hr L2.takes0 (ea_cons (ev_var 8) (ea_cons (ev_var 16) ea_nil))))))) ea_nil))))))
    (sss_cons (ss_if [] (tt_not (tt_val td_tru (ev_seen (ev_call c__law_same hr tk (ea_cons (ev_seen (ev_meth co m_Store_put hr tk (ev_var 3) (ea_cons (ev_var 8) ea_nil))) (ea_cons (ev_var 9) ea_nil)))))) (sss_one (ss_ret [] (ev_sh ev_bl))) sss_nil)
    (sss_cons (ss_set 4 [] sc_law.nd (ev_sh (ev_seen (ev_bin or_add od_add (ev_var 4) (ev_seen (ev_bin or_mul od_mul (ev_seen (ev_lst (ea_cons (ev_var 8) ea_nil))) (ev_seen (ev_typ call_intD cd_int b_int (by decide +kernel) (ea_cons (ev_var 9) ea_nil)))))))))
    (sss_cons (ss_set 10 [] sc_law.nd (ev_sh (ev_seen (ev_call c__law_near_box hr tk (ea_cons (ev_var 1) (ea_cons (ev_seen (ev_call c__law_of hr tk (ea_cons (ev_var 1) (ea_cons (ev_var 4) ea_nil)))) ea_nil))))))
    (sss_cons (ss_if [] (tt_not (tt_val td_tru (ev_seen (ev_call c__law_store_right hr tk (ea_cons (ev_var 3) (ea_cons (ev_var 4) (ea_cons (ev_var 10) ea_nil))))))) (sss_one (ss_ret [] (ev_sh ev_bl))) sss_nil)
    (sss_cons (ss_set 11 [] sc_law.nd (ev_sh (ev_seen (ev_call c__law_of hr tk (ea_cons (ev_var 1) (ea_cons (ev_seen (ev_lst (ea_cons (ev_seen (ev_call c__law_odd_thing hr tk (ea_cons (ev_var 1) (ea_cons (ev_var 2) ea_nil)))) (ea_cons (ev_seen (ev_bin or_add od_add (ev_var 8) (ev_tup (ea_cons (ev_str []) ea_nil)))) (ea_cons (ev_seen (ev_sl (ev_var 8) (ep_some ev_int) ep_none)) ea_nil))))) ea_nil))))))
    (sss_cons (ss_if [] (tt_cmp2 (or_ne hr.units) od_ne (ev_seen (ev_lst (ea_cons (ev_word hT hWd hx (lamIn TB hmT huT) hr 7 (fun A outer s H E f c' hr tk => (ev_seen (ev_meth co m_Store_put hr tk (ev_var 3) (ea_cons (ev_var 11) ea_nil))))) (ea_cons (ev_word1 "_law_a" hT hWd hx (lamIn TB hmT huT) hr 7 (fun A outer s H E f c' hr tk => (ev_seen (ev_meth co m_Store_over hr tk (ev_var 3) (ea_cons (ev_var 11) ea_nil)))) (show ("_law_a" : Str) ∉ (["_law_script", "_law_bag_here", "_law_many", "_law_store", "_law_kept", "_law_other", "_law_lone", "_law_turn", "_law_box_here", "_law_new", "_law_asked", "_law_odd", "_law_again", "_law_found", "_law_extra", "_law_good", "_law_one"] : List Str) by decide)) ea_nil)))) (ev_seen (ev_bin or_mul od_mul (ev_seen (ev_lst (ea_cons (ev_str [66, 97, 100, 66, 111, 120]) ea_nil))) ev_int))) (sss_one (ss_ret [] (ev_sh ev_bl))) sss_nil)
    (sss_cons (ss_for [] (passes_of rfl) rfl (it_range1 b_range ev_int) (tg_name 12 sc_law.nd) (sss_cons (ss_set 13 [] sc_law.nd (ev_meth0 co m_Store_boxes hr tk (ev_var 3)))
    (sss_cons (ss_if [13] (L2.PW.pt (tw_or (tt_not (tt_val td_tru (ev_seen (ev_call c__law_same hr tk (ea_cons (ev_var 13) (ea_cons (ev_var 4) ea_nil)))))) (tw_or1 (tt_cmp2 (or_ne hr.units) od_ne (ev_lenO m_Store___len__ hr (ev_var 3) b_len) (ev_seen (ev_fun call_len cd_len b_len bt_len (ea_cons (ev_var 4) ea_nil))))))) (sss_one (ss_ret [] (ev_sh ev_bl))) sss_nil)
    (sss_one (ss_app 13 [] (ev_var 8))))))
    (sss_cons (ss_if [] (tt_cmp2 (or_ne hr.units) od_ne (ev_repO m_Store___repr__ hr (ev_var 3) b_repr) (ev_seen (ev_bin or_add od_add (ev_seen (ev_bin or_add od_add (ev_str [83, 116, 111, 114, 101, 40]) (ev_seen (ev_typ (call_str_int.or SkE.call_str_str) cd_str b_str bt_str (ea_cons (ev_seen (ev_fun call_len cd_len b_len bt_len (ea_cons (ev_var 4) ea_nil))) ea_nil))))) (ev_str [32, 98, 111, 120, 101, 115, 41])))) (sss_one (ss_ret [] (ev_sh ev_bl))) sss_nil)
    (sss_cons (ss_if [] (L2.PW.pt (tw_and (tt_cmp2 op_isN od_is (ev_var 5) ev_non) (tw_and1 (tt_cmp2 (or_eq hr.units) od_eq (ev_seen (ev_call c__law_pull hr tk (ea_cons (ev_var 1) (ea_cons ev_int ea_nil)))) ev_int)))) (sss_cons (ss_par 5 6 sc_law.nd (ev_sh (ev_seen (ev_meth0 co m_Store_twin hr tk (ev_var 3)))) (ev_typ call_list_of cd_list b_list bt_list (ea_cons (ev_var 4) ea_nil)))
    (sss_one (ss_if [] (L2.PW.pt (tw_or (tt_ownNe co m_Store___eq__ q_Store hr (ev_var 5) (ev_var 3)) (tw_or1 (tt_not (tt_ownEq co m_Store___eq__ q_Store hr (ev_var 5) (ev_var 3)))))) (sss_one (ss_ret [] (ev_sh ev_bl))) sss_nil))) sss_nil)
    (sss_one (ss_if [] (tt_cmp2 op_notN od_isnot (ev_var 5) ev_non) (sss_cons (ss_if [6] (L2.PW.pt (tw_or (tt_not (tt_val td_tru (ev_seen (ev_call c__law_store_right hr tk (ea_cons (ev_var 5) (ea_cons (ev_var 6) (ea_cons (ev_var 10) ea_nil))))))) (tw_or1 (tt_cmp2 (or_ne hr.units) od_ne (ev_ownEq co m_Store___eq__ q_Store hr (ev_var 5) (ev_var 3)) (ev_cmp (or_eq hr.units) (od_bl od_eq) (ev_var 6) (ev_var 4)))))) (sss_one (ss_ret [] (ev_sh ev_bl))) sss_nil)
    (sss_cons (ss_set 14 [] sc_law.nd (ev_sh (ev_seen (ev_call c__law_box hr tk (ea_cons (ev_var 1) (ea_cons (ev_var 2) ea_nil))))))
    (sss_one (ss_if [] (L2.PW.pt (tw_and (tt_cmp2 (or_eq hr.units) od_eq (ev_seen (ev_call c__law_pull hr tk (ea_cons (ev_var 1) (ea_cons ev_int ea_nil)))) ev_int) (tw_and1 (tt_val td_tru (ev_seen (ev_meth co m_Store_put hr tk (ev_var 5) (ea_cons (ev_var 14) ea_nil))))))) (sss_one (ss_app 6 [] (ev_var 14))) sss_nil)))) sss_nil))))))))))))))
    (sss_cons (ss_set 15 [] sc_law.nd (ev_sh (ev_and td_tru (ev_ownNe co m_Store___eq__ q_Store hr (ev_var 3) (ev_var 4)) (ev_and td_tru (ev_ownEq co m_Store___eq__ q_Store hr (ev_new n_Store___init__ hr tk (ea_cons (ev_var 2) ea_nil)) (ev_new n_Store___init__ hr tk (ea_cons (ev_var 2) ea_nil))) (ev_one (ev_ownNe co m_Store___eq__ q_Store hr (ev_new n_Store___init__ hr tk (ea_cons ev_int ea_nil)) (ev_new n_Store___init__ hr tk (ea_cons ev_int ea_nil))))))))
    (sss_one (ss_ret [] (ev_sh (ev_and td_tru (ev_var 15) (ev_and td_tru (ev_not td_tru (ev_ownEq co m_Store___eq__ q_Store hr (ev_var 3) ev_non)) (ev_one (ev_seen (ev_call c__law_turned_stores hr tk (ea_cons (ev_var 2) (ea_cons (ev_var 4) ea_nil))))))))))))))
end
end VL

namespace VL
open PySem PySem.Spec PyProof.Rows L2 VQ VK LamX
def xtK : Xt := [("BadBox", none)]
variable {K : PySem.W.Frag}
theorem exm_of {cls : Value} {S : Addr} {v : Bool} (h1 : PySem.W.subIn K (.ref S) (.type "BaseException") = some true) (h2 : PySem.W.isClsIn K S = true) (h3 : PySem.W.typeIn K (.ref S) = some (.type "type")) (h4 : PySem.W.subIn K cls (.ref S) = some v) : PySem.W.exmOne K cls (.ref S) = some v := by
  have e1 : (PySem.W.subIn K (.ref S) (.type "BaseException") == some true) = true := by rw [h1] <;> rfl
  have e2 : ((PySem.W.clsIn K S).isSome && PySem.W.typeIn K (.ref S) == some (.type "type")) = true := by
    have h2' : (PySem.W.clsIn K S).isSome = true := h2
    rw [h2', h3] <;> rfl
  show (if (PySem.W.subIn K (.ref S) (.type "BaseException") == some true) = true then (if ((PySem.W.clsIn K S).isSome && PySem.W.typeIn K (.ref S) == some (.type "type")) = true then PySem.W.subIn K cls (.ref S) else none) else none) = some v
  rw [if_pos e1, if_pos e2]
  exact h4
theorem any_nil {cls : Value} : PySem.W.exmAny K cls [] = some false := rfl
theorem any_cons {cls c : Value} {r : List Value} {b d : Bool} (h1 : PySem.W.exmOne K cls c = some b) (h2 : PySem.W.exmAny K cls r = some d) : PySem.W.exmAny K cls (c :: r) = some (b || d) := by
  unfold PySem.W.exmAny
  rw [h1, h2]
theorem al_box {ε α : Type} {m : G ε α} {P : α → Prop} {E : ε → Prop} (h : Al m P E) : Box (m.all P E) := ⟨h.out⟩
set_option maxHeartbeats 40000000 in
theorem all_mk {l : PySem.W.OpenLaw} {w : World} {h : Heap} {mg : Str → Option Value} {fa : Addr} {C_Store : Addr} {g__law_bag : Addr} {od__law_bag an__law_bag : Option Addr} {sl__law_bag : Array (Option Value)} {oc__law_bag kV__law_bag dc__law_bag pm__law_bag cd__law_bag ct__law_bag : Value} {g__law_pull : Addr} {od__law_pull an__law_pull : Option Addr} {sl__law_pull : Array (Option Value)} {oc__law_pull kV__law_pull dc__law_pull pm__law_pull cd__law_pull ct__law_pull : Value} {g_Store___init__ : Addr} {od_Store___init__ an_Store___init__ : Option Addr} {sl_Store___init__ : Array (Option Value)} {oc_Store___init__ kV_Store___init__ dc_Store___init__ pm_Store___init__ cd_Store___init__ ct_Store___init__ : Value} {g__law_of : Addr} {od__law_of an__law_of : Option Addr} {sl__law_of : Array (Option Value)} {oc__law_of kV__law_of dc__law_of pm__law_of cd__law_of ct__law_of : Value} {g__law_figs : Addr} {od__law_figs an__law_figs : Option Addr} {sl__law_figs : Array (Option Value)} {oc__law_figs kV__law_figs dc__law_figs pm__law_figs cd__law_figs ct__law_figs : Value} {g__law_worth : Addr} {od__law_worth an__law_worth : Option Addr} {sl__law_worth : Array (Option Value)} {oc__law_worth kV__law_worth dc__law_worth pm__law_worth cd__law_worth ct__law_worth : Value} {g__law_begin : Addr} {od__law_begin an__law_begin : Option Addr} {sl__law_begin : Array (Option Value)} {oc__law_begin kV__law_begin dc__law_begin pm__law_begin cd__law_begin ct__law_begin : Value} {g__law_near_box : Addr} {od__law_near_box an__law_near_box : Option Addr} {sl__law_near_box : Array (Option Value)} {oc__law_near_box kV__law_near_box dc__law_near_box pm__law_near_box cd__law_near_box ct__law_near_box : Value} {g_Store___eq__ : Addr} {od_Store___eq__ an_Store___eq__ : Option Addr} {sl_Store___eq__ : Array (Option Value)} {oc_Store___eq__ kV_Store___eq__ dc_Store___eq__ pm_Store___eq__ cd_Store___eq__ ct_Store___eq__ : Value} {g_is_beginning : Addr} {od_is_beginning an_is_beginning : Option Addr} {sl_is_beginning : Array (Option Value)} {oc_is_beginning kV_is_beginning dc_is_beginning pm_is_beginning cd_is_beginning ct_is_beginning : Value} {g_is_box : Addr} {od_is_box an_is_box : Option Addr} {sl_is_box : Array (Option Value)} {oc_is_box kV_is_box dc_is_box pm_is_box cd_is_box ct_is_box : Value} {g_Store_need : Addr} {od_Store_need an_Store_need : Option Addr} {sl_Store_need : Array (Option Value)} {oc_Store_need kV_Store_need dc_Store_need pm_Store_need cd_Store_need ct_Store_need : Value} {g_under : Addr} {od_under an_under : Option Addr} {sl_under : Array (Option Value)} {oc_under kV_under dc_under pm_under cd_under ct_under : Value} {g_Store_first_over : Addr} {od_Store_first_over an_Store_first_over : Option Addr} {sl_Store_first_over : Array (Option Value)} {oc_Store_first_over kV_Store_first_over dc_Store_first_over pm_Store_first_over cd_Store_first_over ct_Store_first_over : Value} {g_Store_put : Addr} {od_Store_put an_Store_put : Option Addr} {sl_Store_put : Array (Option Value)} {oc_Store_put kV_Store_put dc_Store_put pm_Store_put cd_Store_put ct_Store_put : Value} {g_Store_twin : Addr} {od_Store_twin an_Store_twin : Option Addr} {sl_Store_twin : Array (Option Value)} {oc_Store_twin kV_Store_twin dc_Store_twin pm_Store_twin cd_Store_twin ct_Store_twin : Value} {g_Store_boxes : Addr} {od_Store_boxes an_Store_boxes : Option Addr} {sl_Store_boxes : Array (Option Value)} {oc_Store_boxes kV_Store_boxes dc_Store_boxes pm_Store_boxes cd_Store_boxes ct_Store_boxes : Value} {g__law_turned_stores : Addr} {od__law_turned_stores an__law_turned_stores : Option Addr} {sl__law_turned_stores : Array (Option Value)} {oc__law_turned_stores kV__law_turned_stores dc__law_turned_stores pm__law_turned_stores cd__law_turned_stores ct__law_turned_stores : Value} {g__law_box : Addr} {od__law_box an__law_box : Option Addr} {sl__law_box : Array (Option Value)} {oc__law_box kV__law_box dc__law_box pm__law_box cd__law_box ct__law_box : Value} {g__law_same : Addr} {od__law_same an__law_same : Option Addr} {sl__law_same : Array (Option Value)} {oc__law_same kV__law_same dc__law_same pm__law_same cd__law_same ct__law_same : Value} {g__law_starts : Addr} {od__law_starts an__law_starts : Option Addr} {sl__law_starts : Array (Option Value)} {oc__law_starts kV__law_starts dc__law_starts pm__law_starts cd__law_starts ct__law_starts : Value} {g__law_inside : Addr} {od__law_inside an__law_inside : Option Addr} {sl__law_inside : Array (Option Value)} {oc__law_inside kV__law_inside dc__law_inside pm__law_inside cd__law_inside ct__law_inside : Value} {g_Store_over : Addr} {od_Store_over an_Store_over : Option Addr} {sl_Store_over : Array (Option Value)} {oc_Store_over kV_Store_over dc_Store_over pm_Store_over cd_Store_over ct_Store_over : Value} {g__law_store_right : Addr} {od__law_store_right an__law_store_right : Option Addr} {sl__law_store_right : Array (Option Value)} {oc__law_store_right kV__law_store_right dc__law_store_right pm__law_store_right cd__law_store_right ct__law_store_right : Value} {g_Store___repr__ : Addr} {od_Store___repr__ an_Store___repr__ : Option Addr} {sl_Store___repr__ : Array (Option Value)} {oc_Store___repr__ kV_Store___repr__ dc_Store___repr__ pm_Store___repr__ cd_Store___repr__ ct_Store___repr__ : Value} {g__law_odd_thing : Addr} {od__law_odd_thing an__law_odd_thing : Option Addr} {sl__law_odd_thing : Array (Option Value)} {oc__law_odd_thing kV__law_odd_thing dc__law_odd_thing pm__law_odd_thing cd__law_odd_thing ct__law_odd_thing : Value} {g__law_tried : Addr} {od__law_tried an__law_tried : Option Addr} {sl__law_tried : Array (Option Value)} {oc__law_tried kV__law_tried dc__law_tried pm__law_tried cd__law_tried ct__law_tried : Value} {g__law_word : Addr} {od__law_word an__law_word : Option Addr} {sl__law_word : Array (Option Value)} {oc__law_word kV__law_word dc__law_word pm__law_word cd__law_word ct__law_word : Value} {g_Store___len__ : Addr} {od_Store___len__ an_Store___len__ : Option Addr} {sl_Store___len__ : Array (Option Value)} {oc_Store___len__ kV_Store___len__ dc_Store___len__ pm_Store___len__ cd_Store___len__ ct_Store___len__ : Value} {g_law : Addr} {od_law an_law : Option Addr} {sl_law : Array (Option Value)} {oc_law kV_law dc_law pm_law cd_law ct_law : Value} {t_FIGURES : Tok} {t_MOST_PLACES : Tok} {C_Taken : Addr} {C_NoTable : Addr} {C_NoRow : Addr} {C_BadText : Addr} {C_Unfit : Addr} {C_Full : Addr} {C_TooMany : Addr} {C_QuiltError : Addr} {C_Nothing : Addr} {C_BadBox : Addr} {i_QuiltError : Addr} {od_iQuiltError an_iQuiltError : Option Addr} {sl_iQuiltError : Array (Option Value)} {oc_iQuiltError kV_iQuiltError dc_iQuiltError pm_iQuiltError cd_iQuiltError ct_iQuiltError : Value} {i_BadBox : Addr} {od_iBadBox an_iBadBox : Option Addr} {sl_iBadBox : Array (Option Value)} {oc_iBadBox kV_iBadBox dc_iBadBox pm_iBadBox cd_iBadBox ct_iBadBox : Value} {nm_BadBox q_BadBox : Str} {N_BadBox : Addr} {bs_BadBox : List Value} {sn_BadBox : List Str} {sub_BadBox : List Value} {ab_BadBox : Bool} {col_BadBox : Option Bool} {dd_BadBox : Option Addr} {m0_BadBox m1_BadBox m2_BadBox m3_BadBox m5_BadBox : Option Value} {cdl : Addr} {Pt : Addr} (X : K.In h) (G : h.Ns mainGlobals mg) (hfa : mg "law" = some (.ref fa)) (hTab : ∀ c P, PySem.W.tabIn K "law" = some (c, P) → PySem.W.CodeHd h c P ∧ h.get? P = some { cls := .none, data := .fields #[] })
    (n_Store : PySem.W.nsIn K mainGlobals "Store" = some (some (.ref C_Store)))
    (pg_Store : PySem.W.plainGet K C_Store Str.empty = true)
    (hd_Store : PySem.W.hasDictIn K C_Store = true)
    (po_Store : PySem.W.plainOver K C_Store = true)
    (sa_Store : PySem.W.findIn K (.ref C_Store) "__setattr__" = some (some (.builtin "object.__setattr__")))
    (to_Store : PySem.W.mroIn K C_Store (.type "object") = some true)
    (ne_Store : PySem.W.findIn K (.ref C_Store) "__ne__" = some (some (.builtin "object.__ne__")))
    (nl_Store : PySem.W.notFirst K C_Store (.type "list") = true)
    (nn_Store : PySem.W.notFirst K C_Store (.type "NoneType") = true)
    (kl_Store : PySem.W.kitOne K (.type "list") (.ref C_Store) = some false)
    (kn_Store : PySem.W.kitOne K (.type "NoneType") (.ref C_Store) = some false)
    (cl_Store : PySem.W.findIn K (.ref C_Store) "__class__" = some (some (.builtin "object.__class__")))
    (hgC : PySem.W.specialIn K (.builtin "object.__class__") "__get__" = some (some (.builtin "getset_descriptor.__get__")))
    (htC : PySem.W.takesIn K (.builtin "object.__class__") = some true)
    (na_Store_places : PySem.W.findIn K (.ref C_Store) "places" = some none)
    (na_Store_pile : PySem.W.findIn K (.ref C_Store) "pile" = some none)
    (mk_Store : PySem.W.makesIn K C_Store = true)
    (kc_Store : PySem.W.keepIn K (.ref C_Store) = true)
    (a__law_bag : PySem.W.nsIn K mainGlobals "_law_bag" = some (some (.ref g__law_bag)))
    (l__law_bag : K.lookup g__law_bag = some ⟨oc__law_bag, od__law_bag, .func (PySem.W.fnOf "_law_bag" "_law_bag" (defArgs st__law_bag) (defBody st__law_bag) (defScope st__law_bag) .none kV__law_bag dc__law_bag pm__law_bag an__law_bag cd__law_bag ct__law_bag), sl__law_bag⟩)
    (c__law_bag : PySem.W.codeIn K cd__law_bag "_law_bag" = true)
    (k__law_bag : PySem.W.keepIn K (.ref g__law_bag) = true)
    (a__law_pull : PySem.W.nsIn K mainGlobals "_law_pull" = some (some (.ref g__law_pull)))
    (l__law_pull : K.lookup g__law_pull = some ⟨oc__law_pull, od__law_pull, .func (PySem.W.fnOf "_law_pull" "_law_pull" (defArgs st__law_pull) (defBody st__law_pull) (defScope st__law_pull) .none kV__law_pull dc__law_pull pm__law_pull an__law_pull cd__law_pull ct__law_pull), sl__law_pull⟩)
    (c__law_pull : PySem.W.codeIn K cd__law_pull "_law_pull" = true)
    (k__law_pull : PySem.W.keepIn K (.ref g__law_pull) = true)
    (a_Store___init__ : PySem.W.findIn K (.ref C_Store) "__init__" = some (some (.ref g_Store___init__)))
    (f_Store___init__ : PySem.W.isFn K (.ref g_Store___init__) = true)
    (l_Store___init__ : K.lookup g_Store___init__ = some ⟨oc_Store___init__, od_Store___init__, .func (PySem.W.fnOf "__init__" "Store.__init__" (defArgs st_Store___init__) (defBody st_Store___init__) (defScope st_Store___init__) .none kV_Store___init__ dc_Store___init__ pm_Store___init__ an_Store___init__ cd_Store___init__ ct_Store___init__), sl_Store___init__⟩)
    (c_Store___init__ : PySem.W.codeIn K cd_Store___init__ "Store.__init__" = true)
    (k_Store___init__ : PySem.W.keepIn K (.ref g_Store___init__) = true)
    (a__law_of : PySem.W.nsIn K mainGlobals "_law_of" = some (some (.ref g__law_of)))
    (l__law_of : K.lookup g__law_of = some ⟨oc__law_of, od__law_of, .func (PySem.W.fnOf "_law_of" "_law_of" (defArgs st__law_of) (defBody st__law_of) (defScope st__law_of) .none kV__law_of dc__law_of pm__law_of an__law_of cd__law_of ct__law_of), sl__law_of⟩)
    (c__law_of : PySem.W.codeIn K cd__law_of "_law_of" = true)
    (k__law_of : PySem.W.keepIn K (.ref g__law_of) = true)
    (a__law_figs : PySem.W.nsIn K mainGlobals "_law_figs" = some (some (.ref g__law_figs)))
    (l__law_figs : K.lookup g__law_figs = some ⟨oc__law_figs, od__law_figs, .func (PySem.W.fnOf "_law_figs" "_law_figs" (defArgs st__law_figs) (defBody st__law_figs) (defScope st__law_figs) .none kV__law_figs dc__law_figs pm__law_figs an__law_figs cd__law_figs ct__law_figs), sl__law_figs⟩)
    (c__law_figs : PySem.W.codeIn K cd__law_figs "_law_figs" = true)
    (k__law_figs : PySem.W.keepIn K (.ref g__law_figs) = true)
    (a__law_worth : PySem.W.nsIn K mainGlobals "_law_worth" = some (some (.ref g__law_worth)))
    (l__law_worth : K.lookup g__law_worth = some ⟨oc__law_worth, od__law_worth, .func (PySem.W.fnOf "_law_worth" "_law_worth" (defArgs st__law_worth) (defBody st__law_worth) (defScope st__law_worth) .none kV__law_worth dc__law_worth pm__law_worth an__law_worth cd__law_worth ct__law_worth), sl__law_worth⟩)
    (c__law_worth : PySem.W.codeIn K cd__law_worth "_law_worth" = true)
    (k__law_worth : PySem.W.keepIn K (.ref g__law_worth) = true)
    (a__law_begin : PySem.W.nsIn K mainGlobals "_law_begin" = some (some (.ref g__law_begin)))
    (l__law_begin : K.lookup g__law_begin = some ⟨oc__law_begin, od__law_begin, .func (PySem.W.fnOf "_law_begin" "_law_begin" (defArgs st__law_begin) (defBody st__law_begin) (defScope st__law_begin) .none kV__law_begin dc__law_begin pm__law_begin an__law_begin cd__law_begin ct__law_begin), sl__law_begin⟩)
    (c__law_begin : PySem.W.codeIn K cd__law_begin "_law_begin" = true)
    (k__law_begin : PySem.W.keepIn K (.ref g__law_begin) = true)
    (a__law_near_box : PySem.W.nsIn K mainGlobals "_law_near_box" = some (some (.ref g__law_near_box)))
    (l__law_near_box : K.lookup g__law_near_box = some ⟨oc__law_near_box, od__law_near_box, .func (PySem.W.fnOf "_law_near_box" "_law_near_box" (defArgs st__law_near_box) (defBody st__law_near_box) (defScope st__law_near_box) .none kV__law_near_box dc__law_near_box pm__law_near_box an__law_near_box cd__law_near_box ct__law_near_box), sl__law_near_box⟩)
    (c__law_near_box : PySem.W.codeIn K cd__law_near_box "_law_near_box" = true)
    (k__law_near_box : PySem.W.keepIn K (.ref g__law_near_box) = true)
    (a_Store___eq__ : PySem.W.findIn K (.ref C_Store) "__eq__" = some (some (.ref g_Store___eq__)))
    (f_Store___eq__ : PySem.W.isFn K (.ref g_Store___eq__) = true)
    (l_Store___eq__ : K.lookup g_Store___eq__ = some ⟨oc_Store___eq__, od_Store___eq__, .func (PySem.W.fnOf "__eq__" "Store.__eq__" (defArgs st_Store___eq__) (defBody st_Store___eq__) (defScope st_Store___eq__) .none kV_Store___eq__ dc_Store___eq__ pm_Store___eq__ an_Store___eq__ cd_Store___eq__ ct_Store___eq__), sl_Store___eq__⟩)
    (c_Store___eq__ : PySem.W.codeIn K cd_Store___eq__ "Store.__eq__" = true)
    (k_Store___eq__ : PySem.W.keepIn K (.ref g_Store___eq__) = true)
    (a_is_beginning : PySem.W.nsIn K mainGlobals "is_beginning" = some (some (.ref g_is_beginning)))
    (l_is_beginning : K.lookup g_is_beginning = some ⟨oc_is_beginning, od_is_beginning, .func (PySem.W.fnOf "is_beginning" "is_beginning" (defArgs st_is_beginning) (defBody st_is_beginning) (defScope st_is_beginning) .none kV_is_beginning dc_is_beginning pm_is_beginning an_is_beginning cd_is_beginning ct_is_beginning), sl_is_beginning⟩)
    (c_is_beginning : PySem.W.codeIn K cd_is_beginning "is_beginning" = true)
    (k_is_beginning : PySem.W.keepIn K (.ref g_is_beginning) = true)
    (a_is_box : PySem.W.nsIn K mainGlobals "is_box" = some (some (.ref g_is_box)))
    (l_is_box : K.lookup g_is_box = some ⟨oc_is_box, od_is_box, .func (PySem.W.fnOf "is_box" "is_box" (defArgs st_is_box) (defBody st_is_box) (defScope st_is_box) .none kV_is_box dc_is_box pm_is_box an_is_box cd_is_box ct_is_box), sl_is_box⟩)
    (c_is_box : PySem.W.codeIn K cd_is_box "is_box" = true)
    (k_is_box : PySem.W.keepIn K (.ref g_is_box) = true)
    (a_Store_need : PySem.W.findIn K (.ref C_Store) "need" = some (some (.ref g_Store_need)))
    (f_Store_need : PySem.W.isFn K (.ref g_Store_need) = true)
    (l_Store_need : K.lookup g_Store_need = some ⟨oc_Store_need, od_Store_need, .func (PySem.W.fnOf "need" "Store.need" (defArgs st_Store_need) (defBody st_Store_need) (defScope st_Store_need) .none kV_Store_need dc_Store_need pm_Store_need an_Store_need cd_Store_need ct_Store_need), sl_Store_need⟩)
    (c_Store_need : PySem.W.codeIn K cd_Store_need "Store.need" = true)
    (k_Store_need : PySem.W.keepIn K (.ref g_Store_need) = true)
    (a_under : PySem.W.nsIn K mainGlobals "under" = some (some (.ref g_under)))
    (l_under : K.lookup g_under = some ⟨oc_under, od_under, .func (PySem.W.fnOf "under" "under" (defArgs st_under) (defBody st_under) (defScope st_under) .none kV_under dc_under pm_under an_under cd_under ct_under), sl_under⟩)
    (c_under : PySem.W.codeIn K cd_under "under" = true)
    (k_under : PySem.W.keepIn K (.ref g_under) = true)
    (a_Store_first_over : PySem.W.findIn K (.ref C_Store) "first_over" = some (some (.ref g_Store_first_over)))
    (f_Store_first_over : PySem.W.isFn K (.ref g_Store_first_over) = true)
    (l_Store_first_over : K.lookup g_Store_first_over = some ⟨oc_Store_first_over, od_Store_first_over, .func (PySem.W.fnOf "first_over" "Store.first_over" (defArgs st_Store_first_over) (defBody st_Store_first_over) (defScope st_Store_first_over) .none kV_Store_first_over dc_Store_first_over pm_Store_first_over an_Store_first_over cd_Store_first_over ct_Store_first_over), sl_Store_first_over⟩)
    (c_Store_first_over : PySem.W.codeIn K cd_Store_first_over "Store.first_over" = true)
    (k_Store_first_over : PySem.W.keepIn K (.ref g_Store_first_over) = true)
    (a_Store_put : PySem.W.findIn K (.ref C_Store) "put" = some (some (.ref g_Store_put)))
    (f_Store_put : PySem.W.isFn K (.ref g_Store_put) = true)
    (l_Store_put : K.lookup g_Store_put = some ⟨oc_Store_put, od_Store_put, .func (PySem.W.fnOf "put" "Store.put" (defArgs st_Store_put) (defBody st_Store_put) (defScope st_Store_put) .none kV_Store_put dc_Store_put pm_Store_put an_Store_put cd_Store_put ct_Store_put), sl_Store_put⟩)
    (c_Store_put : PySem.W.codeIn K cd_Store_put "Store.put" = true)
    (k_Store_put : PySem.W.keepIn K (.ref g_Store_put) = true)
    (a_Store_twin : PySem.W.findIn K (.ref C_Store) "twin" = some (some (.ref g_Store_twin)))
    (f_Store_twin : PySem.W.isFn K (.ref g_Store_twin) = true)
    (l_Store_twin : K.lookup g_Store_twin = some ⟨oc_Store_twin, od_Store_twin, .func (PySem.W.fnOf "twin" "Store.twin" (defArgs st_Store_twin) (defBody st_Store_twin) (defScope st_Store_twin) .none kV_Store_twin dc_Store_twin pm_Store_twin an_Store_twin cd_Store_twin ct_Store_twin), sl_Store_twin⟩)
    (c_Store_twin : PySem.W.codeIn K cd_Store_twin "Store.twin" = true)
    (k_Store_twin : PySem.W.keepIn K (.ref g_Store_twin) = true)
    (a_Store_boxes : PySem.W.findIn K (.ref C_Store) "boxes" = some (some (.ref g_Store_boxes)))
    (f_Store_boxes : PySem.W.isFn K (.ref g_Store_boxes) = true)
    (l_Store_boxes : K.lookup g_Store_boxes = some ⟨oc_Store_boxes, od_Store_boxes, .func (PySem.W.fnOf "boxes" "Store.boxes" (defArgs st_Store_boxes) (defBody st_Store_boxes) (defScope st_Store_boxes) .none kV_Store_boxes dc_Store_boxes pm_Store_boxes an_Store_boxes cd_Store_boxes ct_Store_boxes), sl_Store_boxes⟩)
    (c_Store_boxes : PySem.W.codeIn K cd_Store_boxes "Store.boxes" = true)
    (k_Store_boxes : PySem.W.keepIn K (.ref g_Store_boxes) = true)
    (a__law_turned_stores : PySem.W.nsIn K mainGlobals "_law_turned_stores" = some (some (.ref g__law_turned_stores)))
    (l__law_turned_stores : K.lookup g__law_turned_stores = some ⟨oc__law_turned_stores, od__law_turned_stores, .func (PySem.W.fnOf "_law_turned_stores" "_law_turned_stores" (defArgs st__law_turned_stores) (defBody st__law_turned_stores) (defScope st__law_turned_stores) .none kV__law_turned_stores dc__law_turned_stores pm__law_turned_stores an__law_turned_stores cd__law_turned_stores ct__law_turned_stores), sl__law_turned_stores⟩)
    (c__law_turned_stores : PySem.W.codeIn K cd__law_turned_stores "_law_turned_stores" = true)
    (k__law_turned_stores : PySem.W.keepIn K (.ref g__law_turned_stores) = true)
    (a__law_box : PySem.W.nsIn K mainGlobals "_law_box" = some (some (.ref g__law_box)))
    (l__law_box : K.lookup g__law_box = some ⟨oc__law_box, od__law_box, .func (PySem.W.fnOf "_law_box" "_law_box" (defArgs st__law_box) (defBody st__law_box) (defScope st__law_box) .none kV__law_box dc__law_box pm__law_box an__law_box cd__law_box ct__law_box), sl__law_box⟩)
    (c__law_box : PySem.W.codeIn K cd__law_box "_law_box" = true)
    (k__law_box : PySem.W.keepIn K (.ref g__law_box) = true)
    (a__law_same : PySem.W.nsIn K mainGlobals "_law_same" = some (some (.ref g__law_same)))
    (l__law_same : K.lookup g__law_same = some ⟨oc__law_same, od__law_same, .func (PySem.W.fnOf "_law_same" "_law_same" (defArgs st__law_same) (defBody st__law_same) (defScope st__law_same) .none kV__law_same dc__law_same pm__law_same an__law_same cd__law_same ct__law_same), sl__law_same⟩)
    (c__law_same : PySem.W.codeIn K cd__law_same "_law_same" = true)
    (k__law_same : PySem.W.keepIn K (.ref g__law_same) = true)
    (a__law_starts : PySem.W.nsIn K mainGlobals "_law_starts" = some (some (.ref g__law_starts)))
    (l__law_starts : K.lookup g__law_starts = some ⟨oc__law_starts, od__law_starts, .func (PySem.W.fnOf "_law_starts" "_law_starts" (defArgs st__law_starts) (defBody st__law_starts) (defScope st__law_starts) .none kV__law_starts dc__law_starts pm__law_starts an__law_starts cd__law_starts ct__law_starts), sl__law_starts⟩)
    (c__law_starts : PySem.W.codeIn K cd__law_starts "_law_starts" = true)
    (k__law_starts : PySem.W.keepIn K (.ref g__law_starts) = true)
    (a__law_inside : PySem.W.nsIn K mainGlobals "_law_inside" = some (some (.ref g__law_inside)))
    (l__law_inside : K.lookup g__law_inside = some ⟨oc__law_inside, od__law_inside, .func (PySem.W.fnOf "_law_inside" "_law_inside" (defArgs st__law_inside) (defBody st__law_inside) (defScope st__law_inside) .none kV__law_inside dc__law_inside pm__law_inside an__law_inside cd__law_inside ct__law_inside), sl__law_inside⟩)
    (c__law_inside : PySem.W.codeIn K cd__law_inside "_law_inside" = true)
    (k__law_inside : PySem.W.keepIn K (.ref g__law_inside) = true)
    (a_Store_over : PySem.W.findIn K (.ref C_Store) "over" = some (some (.ref g_Store_over)))
    (f_Store_over : PySem.W.isFn K (.ref g_Store_over) = true)
    (l_Store_over : K.lookup g_Store_over = some ⟨oc_Store_over, od_Store_over, .func (PySem.W.fnOf "over" "Store.over" (defArgs st_Store_over) (defBody st_Store_over) (defScope st_Store_over) .none kV_Store_over dc_Store_over pm_Store_over an_Store_over cd_Store_over ct_Store_over), sl_Store_over⟩)
    (c_Store_over : PySem.W.codeIn K cd_Store_over "Store.over" = true)
    (k_Store_over : PySem.W.keepIn K (.ref g_Store_over) = true)
    (a__law_store_right : PySem.W.nsIn K mainGlobals "_law_store_right" = some (some (.ref g__law_store_right)))
    (l__law_store_right : K.lookup g__law_store_right = some ⟨oc__law_store_right, od__law_store_right, .func (PySem.W.fnOf "_law_store_right" "_law_store_right" (defArgs st__law_store_right) (defBody st__law_store_right) (defScope st__law_store_right) .none kV__law_store_right dc__law_store_right pm__law_store_right an__law_store_right cd__law_store_right ct__law_store_right), sl__law_store_right⟩)
    (c__law_store_right : PySem.W.codeIn K cd__law_store_right "_law_store_right" = true)
    (k__law_store_right : PySem.W.keepIn K (.ref g__law_store_right) = true)
    (a_Store___repr__ : PySem.W.findIn K (.ref C_Store) "__repr__" = some (some (.ref g_Store___repr__)))
    (f_Store___repr__ : PySem.W.isFn K (.ref g_Store___repr__) = true)
    (l_Store___repr__ : K.lookup g_Store___repr__ = some ⟨oc_Store___repr__, od_Store___repr__, .func (PySem.W.fnOf "__repr__" "Store.__repr__" (defArgs st_Store___repr__) (defBody st_Store___repr__) (defScope st_Store___repr__) .none kV_Store___repr__ dc_Store___repr__ pm_Store___repr__ an_Store___repr__ cd_Store___repr__ ct_Store___repr__), sl_Store___repr__⟩)
    (c_Store___repr__ : PySem.W.codeIn K cd_Store___repr__ "Store.__repr__" = true)
    (k_Store___repr__ : PySem.W.keepIn K (.ref g_Store___repr__) = true)
    (a__law_odd_thing : PySem.W.nsIn K mainGlobals "_law_odd_thing" = some (some (.ref g__law_odd_thing)))
    (l__law_odd_thing : K.lookup g__law_odd_thing = some ⟨oc__law_odd_thing, od__law_odd_thing, .func (PySem.W.fnOf "_law_odd_thing" "_law_odd_thing" (defArgs st__law_odd_thing) (defBody st__law_odd_thing) (defScope st__law_odd_thing) .none kV__law_odd_thing dc__law_odd_thing pm__law_odd_thing an__law_odd_thing cd__law_odd_thing ct__law_odd_thing), sl__law_odd_thing⟩)
    (c__law_odd_thing : PySem.W.codeIn K cd__law_odd_thing "_law_odd_thing" = true)
    (k__law_odd_thing : PySem.W.keepIn K (.ref g__law_odd_thing) = true)
    (a__law_tried : PySem.W.nsIn K mainGlobals "_law_tried" = some (some (.ref g__law_tried)))
    (l__law_tried : K.lookup g__law_tried = some ⟨oc__law_tried, od__law_tried, .func (PySem.W.fnOf "_law_tried" "_law_tried" (defArgs st__law_tried) (defBody st__law_tried) (defScope st__law_tried) .none kV__law_tried dc__law_tried pm__law_tried an__law_tried cd__law_tried ct__law_tried), sl__law_tried⟩)
    (c__law_tried : PySem.W.codeIn K cd__law_tried "_law_tried" = true)
    (k__law_tried : PySem.W.keepIn K (.ref g__law_tried) = true)
    (a__law_word : PySem.W.nsIn K mainGlobals "_law_word" = some (some (.ref g__law_word)))
    (l__law_word : K.lookup g__law_word = some ⟨oc__law_word, od__law_word, .func (PySem.W.fnOf "_law_word" "_law_word" (defArgs st__law_word) (defBody st__law_word) (defScope st__law_word) .none kV__law_word dc__law_word pm__law_word an__law_word cd__law_word ct__law_word), sl__law_word⟩)
    (c__law_word : PySem.W.codeIn K cd__law_word "_law_word" = true)
    (k__law_word : PySem.W.keepIn K (.ref g__law_word) = true)
    (a_Store___len__ : PySem.W.findIn K (.ref C_Store) "__len__" = some (some (.ref g_Store___len__)))
    (f_Store___len__ : PySem.W.isFn K (.ref g_Store___len__) = true)
    (l_Store___len__ : K.lookup g_Store___len__ = some ⟨oc_Store___len__, od_Store___len__, .func (PySem.W.fnOf "__len__" "Store.__len__" (defArgs st_Store___len__) (defBody st_Store___len__) (defScope st_Store___len__) .none kV_Store___len__ dc_Store___len__ pm_Store___len__ an_Store___len__ cd_Store___len__ ct_Store___len__), sl_Store___len__⟩)
    (c_Store___len__ : PySem.W.codeIn K cd_Store___len__ "Store.__len__" = true)
    (k_Store___len__ : PySem.W.keepIn K (.ref g_Store___len__) = true)
    (a_law : PySem.W.nsIn K mainGlobals "law" = some (some (.ref g_law)))
    (l_law : K.lookup g_law = some ⟨oc_law, od_law, .func (PySem.W.fnOf "law" "law" (defArgs st_law) (defBody st_law) (defScope st_law) .none kV_law dc_law pm_law an_law cd_law ct_law), sl_law⟩)
    (c_law : PySem.W.codeIn K cd_law "law" = true)
    (k_law : PySem.W.keepIn K (.ref g_law) = true)
    (b_len : PySem.W.nsIn K mainGlobals "len" = some none)
    (b_range : PySem.W.nsIn K mainGlobals "range" = some none)
    (b_str : PySem.W.nsIn K mainGlobals "str" = some none)
    (b_tuple : PySem.W.nsIn K mainGlobals "tuple" = some none)
    (b_isinstance : PySem.W.nsIn K mainGlobals "isinstance" = some none)
    (b_all : PySem.W.nsIn K mainGlobals "all" = some none)
    (b_zip : PySem.W.nsIn K mainGlobals "zip" = some none)
    (b_list : PySem.W.nsIn K mainGlobals "list" = some none)
    (b_bool : PySem.W.nsIn K mainGlobals "bool" = some none)
    (b_int : PySem.W.nsIn K mainGlobals "int" = some none)
    (b_any : PySem.W.nsIn K mainGlobals "any" = some none)
    (b_repr : PySem.W.nsIn K mainGlobals "repr" = some none)
    (g_FIGURES : PySem.W.nsIn K mainGlobals "FIGURES" = some (some (.int 5 t_FIGURES)))
    (g_MOST_PLACES : PySem.W.nsIn K mainGlobals "MOST_PLACES" = some (some (.int 5 t_MOST_PLACES)))
    (n_Taken : PySem.W.nsIn K mainGlobals "Taken" = some (some (.ref C_Taken)))
    (n_NoTable : PySem.W.nsIn K mainGlobals "NoTable" = some (some (.ref C_NoTable)))
    (n_NoRow : PySem.W.nsIn K mainGlobals "NoRow" = some (some (.ref C_NoRow)))
    (n_BadText : PySem.W.nsIn K mainGlobals "BadText" = some (some (.ref C_BadText)))
    (n_Unfit : PySem.W.nsIn K mainGlobals "Unfit" = some (some (.ref C_Unfit)))
    (n_Full : PySem.W.nsIn K mainGlobals "Full" = some (some (.ref C_Full)))
    (n_TooMany : PySem.W.nsIn K mainGlobals "TooMany" = some (some (.ref C_TooMany)))
    (n_QuiltError : PySem.W.nsIn K mainGlobals "QuiltError" = some (some (.ref C_QuiltError)))
    (n_Nothing : PySem.W.nsIn K mainGlobals "Nothing" = some (some (.ref C_Nothing)))
    (n_BadBox : PySem.W.nsIn K mainGlobals "BadBox" = some (some (.ref C_BadBox)))
    (i_iQuiltError : PySem.W.findIn K (.ref C_QuiltError) "__init__" = some (some (.ref i_QuiltError)))
    (l_iQuiltError : K.lookup i_QuiltError = some ⟨oc_iQuiltError, od_iQuiltError, .func (PySem.W.fnOf "__init__" "QuiltError.__init__" (defArgs st_QuiltError) (defBody st_QuiltError) (defScope st_QuiltError) .none kV_iQuiltError dc_iQuiltError pm_iQuiltError an_iQuiltError cd_iQuiltError ct_iQuiltError), sl_iQuiltError⟩)
    (c_iQuiltError : PySem.W.codeIn K cd_iQuiltError "QuiltError.__init__" = true)
    (k_iQuiltError : PySem.W.keepIn K (.ref i_QuiltError) = true)
    (t_iQuiltError : PySem.W.typeIn K (.ref i_QuiltError) = some (.type "function"))
    (i_iBadBox : PySem.W.findIn K (.ref C_BadBox) "__init__" = some (some (.ref i_BadBox)))
    (l_iBadBox : K.lookup i_BadBox = some ⟨oc_iBadBox, od_iBadBox, .func (PySem.W.fnOf "__init__" "BadBox.__init__" (defArgs st_BadBox) (defBody st_BadBox) (defScope st_BadBox) .none kV_iBadBox dc_iBadBox pm_iBadBox an_iBadBox cd_iBadBox ct_iBadBox), sl_iBadBox⟩)
    (c_iBadBox : PySem.W.codeIn K cd_iBadBox "BadBox.__init__" = true)
    (k_iBadBox : PySem.W.keepIn K (.ref i_BadBox) = true)
    (t_iBadBox : PySem.W.typeIn K (.ref i_BadBox) = some (.type "function"))
    (q_rd : PySem.W.readsIn K C_QuiltError (.type "type") = true)
    (q_ga : PySem.W.specialIn K (.ref C_QuiltError) "__getattribute__" = some (some (.builtin "type.__getattribute__")))
    (q_at : PySem.W.findCls K (.ref C_QuiltError) (.type "type") "__init__" = some (.val (.ref i_QuiltError)))
    (xL_BadBox : K.lookup C_BadBox = some (excClassObj nm_BadBox q_BadBox C_BadBox N_BadBox bs_BadBox [.ref C_QuiltError, .type "ValueError", .type "Exception", .type "BaseException", .type "object"] true sn_BadBox sub_BadBox ab_BadBox col_BadBox dd_BadBox m0_BadBox m1_BadBox m2_BadBox m3_BadBox m5_BadBox "ValueError.__new__"))
    (sa_BadBox : PySem.W.findIn K (.ref C_BadBox) "__setattr__" = some (some (.builtin "object.__setattr__")))
    (ga_BadBox : PySem.W.findIn K (.ref C_BadBox) "__getattribute__" = some (some (.builtin "BaseException.__getattribute__")))
    (gg_BadBox : PySem.W.findIn K (.ref C_BadBox) "__getattr__" = some none)
    (nc_BadBox : PySem.W.findIn K (.ref C_BadBox) "called" = some none)
    (kC_BadBox : PySem.W.keepIn K (.ref C_BadBox) = true)
    (eC_BadBox : PySem.W.subIn K (.ref C_BadBox) (.type "BaseException") = some true)
    (tC_BadBox : PySem.W.typeIn K (.ref C_BadBox) = some (.type "type"))
    (hC_BadBox : PySem.W.hasDictIn K C_BadBox = true)
    (iC_BadBox : PySem.W.isClsIn K C_BadBox = true)
    (s_BadBox_Taken : PySem.W.subIn K (.ref C_BadBox) (.ref C_Taken) = some false)
    (s_BadBox_NoTable : PySem.W.subIn K (.ref C_BadBox) (.ref C_NoTable) = some false)
    (s_BadBox_NoRow : PySem.W.subIn K (.ref C_BadBox) (.ref C_NoRow) = some false)
    (s_BadBox_BadText : PySem.W.subIn K (.ref C_BadBox) (.ref C_BadText) = some false)
    (s_BadBox_Unfit : PySem.W.subIn K (.ref C_BadBox) (.ref C_Unfit) = some false)
    (s_BadBox_Full : PySem.W.subIn K (.ref C_BadBox) (.ref C_Full) = some false)
    (s_BadBox_TooMany : PySem.W.subIn K (.ref C_BadBox) (.ref C_TooMany) = some false)
    (s_BadBox_QuiltError : PySem.W.subIn K (.ref C_BadBox) (.ref C_QuiltError) = some true)
    (s_BadBox_Nothing : PySem.W.subIn K (.ref C_BadBox) (.ref C_Nothing) = some false)
    (e_Taken : PySem.W.subIn K (.ref C_Taken) (.type "BaseException") = some true)
    (ei_Taken : PySem.W.isClsIn K C_Taken = true)
    (et_Taken : PySem.W.typeIn K (.ref C_Taken) = some (.type "type"))
    (e_NoTable : PySem.W.subIn K (.ref C_NoTable) (.type "BaseException") = some true)
    (ei_NoTable : PySem.W.isClsIn K C_NoTable = true)
    (et_NoTable : PySem.W.typeIn K (.ref C_NoTable) = some (.type "type"))
    (e_NoRow : PySem.W.subIn K (.ref C_NoRow) (.type "BaseException") = some true)
    (ei_NoRow : PySem.W.isClsIn K C_NoRow = true)
    (et_NoRow : PySem.W.typeIn K (.ref C_NoRow) = some (.type "type"))
    (e_BadText : PySem.W.subIn K (.ref C_BadText) (.type "BaseException") = some true)
    (ei_BadText : PySem.W.isClsIn K C_BadText = true)
    (et_BadText : PySem.W.typeIn K (.ref C_BadText) = some (.type "type"))
    (e_Unfit : PySem.W.subIn K (.ref C_Unfit) (.type "BaseException") = some true)
    (ei_Unfit : PySem.W.isClsIn K C_Unfit = true)
    (et_Unfit : PySem.W.typeIn K (.ref C_Unfit) = some (.type "type"))
    (e_Full : PySem.W.subIn K (.ref C_Full) (.type "BaseException") = some true)
    (ei_Full : PySem.W.isClsIn K C_Full = true)
    (et_Full : PySem.W.typeIn K (.ref C_Full) = some (.type "type"))
    (e_TooMany : PySem.W.subIn K (.ref C_TooMany) (.type "BaseException") = some true)
    (ei_TooMany : PySem.W.isClsIn K C_TooMany = true)
    (et_TooMany : PySem.W.typeIn K (.ref C_TooMany) = some (.type "type"))
    (e_QuiltError : PySem.W.subIn K (.ref C_QuiltError) (.type "BaseException") = some true)
    (ei_QuiltError : PySem.W.isClsIn K C_QuiltError = true)
    (et_QuiltError : PySem.W.typeIn K (.ref C_QuiltError) = some (.type "type"))
    (e_Nothing : PySem.W.subIn K (.ref C_Nothing) (.type "BaseException") = some true)
    (ei_Nothing : PySem.W.isClsIn K C_Nothing = true)
    (et_Nothing : PySem.W.typeIn K (.ref C_Nothing) = some (.type "type"))
    (tab : PySem.W.tabIn K "law" = some (cdl, Pt))
    (cdlw : cd_law = .ref cdl)
    (noP : K.lookup Pt = none)
    : LawAtS l w K (L2.CX l.prog w) 11 63 "_law_script" mg fa h := by
  have e := hfa.symm.trans (PySem.W.mg_of X G a_law)
  cases e
  subst cdlw
  obtain ⟨hcode, hP⟩ := hTab _ _ tab
  refine ⟨PySem.W.fnOf "law" "law" (defArgs st_law) (defBody st_law) (defScope st_law) .none kV_law dc_law pm_law an_law (.ref cdl) ct_law, [(cdl, Pt)], spLaw K [(Pt, lamQ "law")], fun r hr => by rw [List.mem_singleton.mp hr]; exact hP, fun r hr => by rw [List.mem_singleton.mp hr]; exact noP, fun r hr => by rw [List.mem_singleton.mp hr]; exact hcode, fun s u => .of_eq rfl, fun H a ns hl _ hT hS => ⟨a, ns, rfl, hS, hl, fun r hr => by rw [List.mem_singleton.mp hr]; exact hT (cdl, Pt) (List.mem_singleton.mpr rfl), fun _ => rfl⟩, fun base KB GB TB => ?_⟩
  have F__law_bag := fun_mk (st := st__law_bag) l__law_bag c__law_bag k__law_bag
  have m__law_bag := PySem.W.mg_of X G a__law_bag
  have B__law_bag := F__law_bag.binds (ps := ["_law_script"]) fun _ _ _ _ _ _ us hl => match us, hl with | [_], _ => rfl
  have F__law_pull := fun_mk (st := st__law_pull) l__law_pull c__law_pull k__law_pull
  have m__law_pull := PySem.W.mg_of X G a__law_pull
  have B__law_pull := F__law_pull.binds (ps := ["_law_bag_here", "_law_size"]) fun _ _ _ _ _ _ us hl => match us, hl with | [_, _], _ => rfl
  have F_Store___init__ := fun_mk (st := st_Store___init__) l_Store___init__ c_Store___init__ k_Store___init__
  have B_Store___init__ := F_Store___init__.binds (ps := ["self", "many"]) fun _ _ _ _ _ _ us hl => match us, hl with | [_, _], _ => rfl
  have F__law_of := fun_mk (st := st__law_of) l__law_of c__law_of k__law_of
  have m__law_of := PySem.W.mg_of X G a__law_of
  have B__law_of := F__law_of.binds (ps := ["_law_bag_here", "_law_some"]) fun _ _ _ _ _ _ us hl => match us, hl with | [_, _], _ => rfl
  have F__law_figs := fun_mk (st := st__law_figs) l__law_figs c__law_figs k__law_figs
  have m__law_figs := PySem.W.mg_of X G a__law_figs
  have B__law_figs := F__law_figs.binds (ps := ["_law_worth_here"]) fun _ _ _ _ _ _ us hl => match us, hl with | [_], _ => rfl
  have F__law_worth := fun_mk (st := st__law_worth) l__law_worth c__law_worth k__law_worth
  have m__law_worth := PySem.W.mg_of X G a__law_worth
  have B__law_worth := F__law_worth.binds (ps := ["_law_bag_here"]) fun _ _ _ _ _ _ us hl => match us, hl with | [_], _ => rfl
  have F__law_begin := fun_mk (st := st__law_begin) l__law_begin c__law_begin k__law_begin
  have m__law_begin := PySem.W.mg_of X G a__law_begin
  have B__law_begin := F__law_begin.binds (ps := ["_law_bag_here"]) fun _ _ _ _ _ _ us hl => match us, hl with | [_], _ => rfl
  have F__law_near_box := fun_mk (st := st__law_near_box) l__law_near_box c__law_near_box k__law_near_box
  have m__law_near_box := PySem.W.mg_of X G a__law_near_box
  have B__law_near_box := F__law_near_box.binds (ps := ["_law_bag_here", "_law_box_here"]) fun _ _ _ _ _ _ us hl => match us, hl with | [_, _], _ => rfl
  have F_Store___eq__ := fun_mk (st := st_Store___eq__) l_Store___eq__ c_Store___eq__ k_Store___eq__
  have B_Store___eq__ := F_Store___eq__.binds (ps := ["self", "other"]) fun _ _ _ _ _ _ us hl => match us, hl with | [_, _], _ => rfl
  have F_is_beginning := fun_mk (st := st_is_beginning) l_is_beginning c_is_beginning k_is_beginning
  have m_is_beginning := PySem.W.mg_of X G a_is_beginning
  have B_is_beginning := F_is_beginning.binds (ps := ["thing"]) fun _ _ _ _ _ _ us hl => match us, hl with | [_], _ => rfl
  have F_is_box := fun_mk (st := st_is_box) l_is_box c_is_box k_is_box
  have m_is_box := PySem.W.mg_of X G a_is_box
  have B_is_box := F_is_box.binds (ps := ["thing"]) fun _ _ _ _ _ _ us hl => match us, hl with | [_], _ => rfl
  have F_Store_need := fun_mk (st := st_Store_need) l_Store_need c_Store_need k_Store_need
  have B_Store_need := F_Store_need.binds (ps := ["self", "box"]) fun _ _ _ _ _ _ us hl => match us, hl with | [_, _], _ => rfl
  have F_under := fun_mk (st := st_under) l_under c_under k_under
  have m_under := PySem.W.mg_of X G a_under
  have B_under := F_under.binds (ps := ["inner", "outer"]) fun _ _ _ _ _ _ us hl => match us, hl with | [_, _], _ => rfl
  have F_Store_first_over := fun_mk (st := st_Store_first_over) l_Store_first_over c_Store_first_over k_Store_first_over
  have B_Store_first_over := F_Store_first_over.binds (ps := ["self", "box"]) fun _ _ _ _ _ _ us hl => match us, hl with | [_, _], _ => rfl
  have F_Store_put := fun_mk (st := st_Store_put) l_Store_put c_Store_put k_Store_put
  have B_Store_put := F_Store_put.binds (ps := ["self", "box"]) fun _ _ _ _ _ _ us hl => match us, hl with | [_, _], _ => rfl
  have F_Store_twin := fun_mk (st := st_Store_twin) l_Store_twin c_Store_twin k_Store_twin
  have B_Store_twin := F_Store_twin.binds (ps := ["self"]) fun _ _ _ _ _ _ us hl => match us, hl with | [_], _ => rfl
  have F_Store_boxes := fun_mk (st := st_Store_boxes) l_Store_boxes c_Store_boxes k_Store_boxes
  have B_Store_boxes := F_Store_boxes.binds (ps := ["self"]) fun _ _ _ _ _ _ us hl => match us, hl with | [_], _ => rfl
  have F__law_turned_stores := fun_mk (st := st__law_turned_stores) l__law_turned_stores c__law_turned_stores k__law_turned_stores
  have m__law_turned_stores := PySem.W.mg_of X G a__law_turned_stores
  have B__law_turned_stores := F__law_turned_stores.binds (ps := ["_law_many", "_law_kept"]) fun _ _ _ _ _ _ us hl => match us, hl with | [_, _], _ => rfl
  have F__law_box := fun_mk (st := st__law_box) l__law_box c__law_box k__law_box
  have m__law_box := PySem.W.mg_of X G a__law_box
  have B__law_box := F__law_box.binds (ps := ["_law_bag_here", "_law_many"]) fun _ _ _ _ _ _ us hl => match us, hl with | [_, _], _ => rfl
  have F__law_same := fun_mk (st := st__law_same) l__law_same c__law_same k__law_same
  have m__law_same := PySem.W.mg_of X G a__law_same
  have B__law_same := F__law_same.binds (ps := ["_law_found", "_law_due"]) fun _ _ _ _ _ _ us hl => match us, hl with | [_, _], _ => rfl
  have F__law_starts := fun_mk (st := st__law_starts) l__law_starts c__law_starts k__law_starts
  have m__law_starts := PySem.W.mg_of X G a__law_starts
  have B__law_starts := F__law_starts.binds (ps := ["_law_one", "_law_other"]) fun _ _ _ _ _ _ us hl => match us, hl with | [_, _], _ => rfl
  have F__law_inside := fun_mk (st := st__law_inside) l__law_inside c__law_inside k__law_inside
  have m__law_inside := PySem.W.mg_of X G a__law_inside
  have B__law_inside := F__law_inside.binds (ps := ["_law_one", "_law_other"]) fun _ _ _ _ _ _ us hl => match us, hl with | [_, _], _ => rfl
  have F_Store_over := fun_mk (st := st_Store_over) l_Store_over c_Store_over k_Store_over
  have B_Store_over := F_Store_over.binds (ps := ["self", "box"]) fun _ _ _ _ _ _ us hl => match us, hl with | [_, _], _ => rfl
  have F__law_store_right := fun_mk (st := st__law_store_right) l__law_store_right c__law_store_right k__law_store_right
  have m__law_store_right := PySem.W.mg_of X G a__law_store_right
  have B__law_store_right := F__law_store_right.binds (ps := ["_law_store", "_law_kept", "_law_asked"]) fun _ _ _ _ _ _ us hl => match us, hl with | [_, _, _], _ => rfl
  have F_Store___repr__ := fun_mk (st := st_Store___repr__) l_Store___repr__ c_Store___repr__ k_Store___repr__
  have B_Store___repr__ := F_Store___repr__.binds (ps := ["self"]) fun _ _ _ _ _ _ us hl => match us, hl with | [_], _ => rfl
  have F__law_odd_thing := fun_mk (st := st__law_odd_thing) l__law_odd_thing c__law_odd_thing k__law_odd_thing
  have m__law_odd_thing := PySem.W.mg_of X G a__law_odd_thing
  have B__law_odd_thing := F__law_odd_thing.binds (ps := ["_law_bag_here", "_law_many"]) fun _ _ _ _ _ _ us hl => match us, hl with | [_, _], _ => rfl
  have F__law_tried := fun_mk (st := st__law_tried) l__law_tried c__law_tried k__law_tried
  have m__law_tried := PySem.W.mg_of X G a__law_tried
  have B__law_tried := F__law_tried.binds (ps := ["_law_ask"]) fun _ _ _ _ _ _ us hl => match us, hl with | [_], _ => rfl
  have F__law_word := fun_mk (st := st__law_word) l__law_word c__law_word k__law_word
  have m__law_word := PySem.W.mg_of X G a__law_word
  have B__law_word := F__law_word.binds (ps := ["_law_ask"]) fun _ _ _ _ _ _ us hl => match us, hl with | [_], _ => rfl
  have F_Store___len__ := fun_mk (st := st_Store___len__) l_Store___len__ c_Store___len__ k_Store___len__
  have B_Store___len__ := F_Store___len__.binds (ps := ["self"]) fun _ _ _ _ _ _ us hl => match us, hl with | [_], _ => rfl
  have mb_len := PySem.W.mg_none_of X G b_len
  have mb_range := PySem.W.mg_none_of X G b_range
  have mb_str := PySem.W.mg_none_of X G b_str
  have mb_tuple := PySem.W.mg_none_of X G b_tuple
  have mb_isinstance := PySem.W.mg_none_of X G b_isinstance
  have mb_all := PySem.W.mg_none_of X G b_all
  have mb_zip := PySem.W.mg_none_of X G b_zip
  have mb_list := PySem.W.mg_none_of X G b_list
  have mb_bool := PySem.W.mg_none_of X G b_bool
  have mb_int := PySem.W.mg_none_of X G b_int
  have mb_any := PySem.W.mg_none_of X G b_any
  have mb_repr := PySem.W.mg_none_of X G b_repr
  have gc_FIGURES : GC mg "FIGURES" (.int 5) := .int (PySem.W.mg_of X G g_FIGURES)
  have gc_MOST_PLACES : GC mg "MOST_PLACES" (.int 5) := .int (PySem.W.mg_of X G g_MOST_PLACES)
  have mC_Taken := PySem.W.mg_of X G n_Taken
  have mC_NoTable := PySem.W.mg_of X G n_NoTable
  have mC_NoRow := PySem.W.mg_of X G n_NoRow
  have mC_BadText := PySem.W.mg_of X G n_BadText
  have mC_Unfit := PySem.W.mg_of X G n_Unfit
  have mC_Full := PySem.W.mg_of X G n_Full
  have mC_TooMany := PySem.W.mg_of X G n_TooMany
  have mC_QuiltError := PySem.W.mg_of X G n_QuiltError
  have mC_Nothing := PySem.W.mg_of X G n_Nothing
  have mC_BadBox := PySem.W.mg_of X G n_BadBox
  have Fi_QuiltError := fun_mk (st := st_QuiltError) l_iQuiltError c_iQuiltError k_iQuiltError
  have Bi_QuiltError := Fi_QuiltError.binds (ps := ["self", "called"]) fun _ _ _ _ _ _ us hl => match us, hl with | [_, _], _ => rfl
  have Fi_BadBox := fun_mk (st := st_BadBox) l_iBadBox c_iBadBox k_iBadBox
  have Bi_BadBox := Fi_BadBox.binds (ps := ["self"]) fun _ _ _ _ _ _ us hl => match us, hl with | [_], _ => rfl
  have Ab : AboveOk l.prog w K mg base 1 "QuiltError" := ⟨⟨C_QuiltError, .type "type", i_QuiltError, _, ⟨⟨q_rd, q_ga⟩, q_at, k_iQuiltError⟩, mC_QuiltError, ok_x_QuiltError Fi_QuiltError, Bi_QuiltError⟩⟩
  have T_BadBox : OexC K C_BadBox := ⟨⟨_, _, _, _, _, _, _, _, _, _, _, _, _, _, _, xL_BadBox, by show PySem.HandSPX.refsVE [.type "ValueError", .type "Exception", .type "BaseException", .type "object"] = true; decide +kernel⟩, sa_BadBox, eC_BadBox, tC_BadBox, kC_BadBox⟩
  have E_BadBox : XcOk l.prog w K mg base 2 "BadBox" 0 x_BadBox := ⟨⟨C_BadBox, i_BadBox, _, _, T_BadBox, i_iBadBox, t_iBadBox, ok_x_BadBox Fi_BadBox Ab T_BadBox nc_BadBox, Bi_BadBox, mC_BadBox⟩⟩
  have hT := ok_tried (P := l.prog) (w := w) (base := base) F__law_tried B__law_tried m__law_tried mC_Taken mC_NoTable mC_NoRow mC_BadText mC_Unfit mC_Full mC_TooMany mC_QuiltError mC_Nothing
  have hWd := ok_word (P := l.prog) (w := w) (base := base) F__law_word B__law_word m__law_word
  have hx : XtOk K mg [([.ref C_Taken, .ref C_NoTable, .ref C_NoRow], some "name"), ([.ref C_BadText, .ref C_Unfit], some "at"), ([.ref C_Full], some "what"), ([.ref C_TooMany], some "most"), ([.ref C_QuiltError, .ref C_Nothing], none)] xtK := (XtOk.cons mC_BadBox ⟨ga_BadBox, gg_BadBox, eC_BadBox, hC_BadBox⟩ nc_BadBox (fun g h => by cases h) (.inr ⟨(any_cons (exm_of e_Taken ei_Taken et_Taken s_BadBox_Taken) (any_cons (exm_of e_NoTable ei_NoTable et_NoTable s_BadBox_NoTable) (any_cons (exm_of e_NoRow ei_NoRow et_NoRow s_BadBox_NoRow) any_nil))), (.inr ⟨(any_cons (exm_of e_BadText ei_BadText et_BadText s_BadBox_BadText) (any_cons (exm_of e_Unfit ei_Unfit et_Unfit s_BadBox_Unfit) any_nil)), (.inr ⟨(any_cons (exm_of e_Full ei_Full et_Full s_BadBox_Full) any_nil), (.inr ⟨(any_cons (exm_of e_TooMany ei_TooMany et_TooMany s_BadBox_TooMany) any_nil), (.inl ⟨(any_cons (exm_of e_QuiltError ei_QuiltError et_QuiltError s_BadBox_QuiltError) (any_cons (exm_of e_Nothing ei_Nothing et_Nothing s_BadBox_Nothing) any_nil)), rfl⟩)⟩)⟩)⟩)⟩) XtOk.nil)
  have co : CtOk K ([("Store", C_Store)] : Ctab) := (CtOk.cons rfl ⟨pg_Store, hd_Store, po_Store, sa_Store⟩ (na_cons na_Store_places (na_cons na_Store_pile na_nil)) CtOk.nil)
  have mD_Store := PySem.W.mg_of X G n_Store
  have QE_Store : EqOk K ([("Store", C_Store)] : Ctab) "Store" := EqOk.one ne_Store to_Store nl_Store nn_Store
  have QI_Store : IsOk K mg ([("Store", C_Store)] : Ctab) "Store" := IsOk.one hgC htC mD_Store kl_Store kn_Store cl_Store to_Store
  have c__law_pull : ∀ b l0 : Addr, DefOk l.prog w K mg base (OM.w (⟨b, l0, [(Pt, lamQ "law")], ([("Store", C_Store)] : Ctab)⟩ : OM K)) 1 "_law_pull" 2 (pullS : Dfs (OM.w (⟨b, l0, [(Pt, lamQ "law")], ([("Store", C_Store)] : Ctab)⟩ : OM K))) [] := fun b l0 => DefOk.of F__law_pull m__law_pull B__law_pull (ok__law_pull F__law_pull mb_len)
  have no_Store___init__ : ∀ b l0 : Addr, NewOk l.prog w K mg base (⟨b, l0, [(Pt, lamQ "law")], ([("Store", C_Store)] : Ctab)⟩ : OM K) 1 "Store" 2 (w_Store___init__ (⟨b, l0, [(Pt, lamQ "law")], ([("Store", C_Store)] : Ctab)⟩ : OM K)) [] := fun b l0 => NewOk.of (N := (⟨b, l0, [(Pt, lamQ "law")], ([("Store", C_Store)] : Ctab)⟩ : OM K)) rfl mD_Store mk_Store a_Store___init__ f_Store___init__ kc_Store B_Store___init__ (ok_Store___init__ F_Store___init__ co)
  have c__law_of : ∀ b l0 : Addr, DefOk l.prog w K mg base (OM.w (⟨b, l0, [(Pt, lamQ "law")], ([("Store", C_Store)] : Ctab)⟩ : OM K)) 2 "_law_of" 2 (w_law_of (OM.w (⟨b, l0, [(Pt, lamQ "law")], ([("Store", C_Store)] : Ctab)⟩ : OM K)) pullS) [] := fun b l0 => DefOk.of F__law_of m__law_of B__law_of (ok__law_of F__law_of (c__law_pull b l0) mb_len)
  have c__law_figs : ∀ b l0 : Addr, DefOk l.prog w K mg base (OM.w (⟨b, l0, [(Pt, lamQ "law")], ([("Store", C_Store)] : Ctab)⟩ : OM K)) 1 "_law_figs" 1 (w_law_figs (OM.w (⟨b, l0, [(Pt, lamQ "law")], ([("Store", C_Store)] : Ctab)⟩ : OM K))) [] := fun b l0 => DefOk.of F__law_figs m__law_figs B__law_figs (ok__law_figs F__law_figs mb_range mb_str)
  have c__law_worth : ∀ b l0 : Addr, DefOk l.prog w K mg base (OM.w (⟨b, l0, [(Pt, lamQ "law")], ([("Store", C_Store)] : Ctab)⟩ : OM K)) 3 "_law_worth" 1 (w_law_worth (OM.w (⟨b, l0, [(Pt, lamQ "law")], ([("Store", C_Store)] : Ctab)⟩ : OM K)) pullS) [] := fun b l0 => DefOk.of F__law_worth m__law_worth B__law_worth (ok__law_worth F__law_worth (c__law_of b l0) (c__law_pull b l0))
  have c__law_begin : ∀ b l0 : Addr, DefOk l.prog w K mg base (OM.w (⟨b, l0, [(Pt, lamQ "law")], ([("Store", C_Store)] : Ctab)⟩ : OM K)) 4 "_law_begin" 1 (w_law_begin (OM.w (⟨b, l0, [(Pt, lamQ "law")], ([("Store", C_Store)] : Ctab)⟩ : OM K)) pullS) [] := fun b l0 => DefOk.of F__law_begin m__law_begin B__law_begin (ok__law_begin F__law_begin (c__law_of b l0) (c__law_figs b l0) (c__law_worth b l0))
  have c__law_near_box : ∀ b l0 : Addr, DefOk l.prog w K mg base (OM.w (⟨b, l0, [(Pt, lamQ "law")], ([("Store", C_Store)] : Ctab)⟩ : OM K)) 5 "_law_near_box" 2 (w_law_near_box (OM.w (⟨b, l0, [(Pt, lamQ "law")], ([("Store", C_Store)] : Ctab)⟩ : OM K)) pullS) [] := fun b l0 => DefOk.of F__law_near_box m__law_near_box B__law_near_box (ok__law_near_box F__law_near_box (c__law_pull b l0) (c__law_begin b l0) (c__law_figs b l0) (c__law_worth b l0) mb_len mb_tuple)
  have mo_Store___eq__ : ∀ b l0 : Addr, MethOk l.prog w K mg base (⟨b, l0, [(Pt, lamQ "law")], ([("Store", C_Store)] : Ctab)⟩ : OM K) 1 "Store" "__eq__" 2 (w_Store___eq__ (⟨b, l0, [(Pt, lamQ "law")], ([("Store", C_Store)] : Ctab)⟩ : OM K)) [] := fun b l0 => MethOk.of (N := (⟨b, l0, [(Pt, lamQ "law")], ([("Store", C_Store)] : Ctab)⟩ : OM K)) rfl a_Store___eq__ f_Store___eq__ k_Store___eq__ B_Store___eq__ (ok_Store___eq__ F_Store___eq__ co QI_Store mb_isinstance)
  have c_is_beginning : ∀ b l0 : Addr, DefOk l.prog w K mg base (OM.w (⟨b, l0, [(Pt, lamQ "law")], ([("Store", C_Store)] : Ctab)⟩ : OM K)) 1 "is_beginning" 1 (w_is_beginning (OM.w (⟨b, l0, [(Pt, lamQ "law")], ([("Store", C_Store)] : Ctab)⟩ : OM K))) [] := fun b l0 => DefOk.of F_is_beginning m_is_beginning B_is_beginning (ok_is_beginning F_is_beginning mb_isinstance mb_str mb_len mb_all gc_FIGURES)
  have c_is_box : ∀ b l0 : Addr, DefOk l.prog w K mg base (OM.w (⟨b, l0, [(Pt, lamQ "law")], ([("Store", C_Store)] : Ctab)⟩ : OM K)) 2 "is_box" 1 (w_is_box (OM.w (⟨b, l0, [(Pt, lamQ "law")], ([("Store", C_Store)] : Ctab)⟩ : OM K))) [] := fun b l0 => DefOk.of F_is_box m_is_box B_is_box (ok_is_box F_is_box (c_is_beginning b l0) mb_isinstance mb_tuple mb_len mb_all gc_MOST_PLACES)
  have mo_Store_need : ∀ b l0 : Addr, MethOk l.prog w K mg base (⟨b, l0, [(Pt, lamQ "law")], ([("Store", C_Store)] : Ctab)⟩ : OM K) 4 "Store" "need" 2 (w_Store_need (⟨b, l0, [(Pt, lamQ "law")], ([("Store", C_Store)] : Ctab)⟩ : OM K)) [] := fun b l0 => MethOk.of (N := (⟨b, l0, [(Pt, lamQ "law")], ([("Store", C_Store)] : Ctab)⟩ : OM K)) rfl a_Store_need f_Store_need k_Store_need B_Store_need (ok_Store_need F_Store_need co (c_is_box b l0) E_BadBox mb_len)
  have c_under : ∀ b l0 : Addr, DefOk l.prog w K mg base (OM.w (⟨b, l0, [(Pt, lamQ "law")], ([("Store", C_Store)] : Ctab)⟩ : OM K)) 1 "under" 2 (w_under (OM.w (⟨b, l0, [(Pt, lamQ "law")], ([("Store", C_Store)] : Ctab)⟩ : OM K))) [] := fun b l0 => DefOk.of F_under m_under B_under (ok_under F_under mb_all mb_zip)
  have mo_Store_first_over : ∀ b l0 : Addr, MethOk l.prog w K mg base (⟨b, l0, [(Pt, lamQ "law")], ([("Store", C_Store)] : Ctab)⟩ : OM K) 2 "Store" "first_over" 2 (w_Store_first_over (⟨b, l0, [(Pt, lamQ "law")], ([("Store", C_Store)] : Ctab)⟩ : OM K)) [] := fun b l0 => MethOk.of (N := (⟨b, l0, [(Pt, lamQ "law")], ([("Store", C_Store)] : Ctab)⟩ : OM K)) rfl a_Store_first_over f_Store_first_over k_Store_first_over B_Store_first_over (ok_Store_first_over F_Store_first_over co (c_under b l0))
  have mo_Store_put : ∀ b l0 : Addr, MethOk l.prog w K mg base (⟨b, l0, [(Pt, lamQ "law")], ([("Store", C_Store)] : Ctab)⟩ : OM K) 5 "Store" "put" 2 (w_Store_put (⟨b, l0, [(Pt, lamQ "law")], ([("Store", C_Store)] : Ctab)⟩ : OM K)) [] := fun b l0 => MethOk.of (N := (⟨b, l0, [(Pt, lamQ "law")], ([("Store", C_Store)] : Ctab)⟩ : OM K)) rfl a_Store_put f_Store_put k_Store_put B_Store_put (ok_Store_put F_Store_put co (mo_Store_need b l0) (mo_Store_first_over b l0))
  have mo_Store_twin : ∀ b l0 : Addr, MethOk l.prog w K mg base (⟨b, l0, [(Pt, lamQ "law")], ([("Store", C_Store)] : Ctab)⟩ : OM K) 3 "Store" "twin" 1 (w_Store_twin (⟨b, l0, [(Pt, lamQ "law")], ([("Store", C_Store)] : Ctab)⟩ : OM K)) [] := fun b l0 => MethOk.of (N := (⟨b, l0, [(Pt, lamQ "law")], ([("Store", C_Store)] : Ctab)⟩ : OM K)) rfl a_Store_twin f_Store_twin k_Store_twin B_Store_twin (ok_Store_twin F_Store_twin co (no_Store___init__ b l0) mb_list)
  have mo_Store_boxes : ∀ b l0 : Addr, MethOk l.prog w K mg base (⟨b, l0, [(Pt, lamQ "law")], ([("Store", C_Store)] : Ctab)⟩ : OM K) 1 "Store" "boxes" 1 (w_Store_boxes (⟨b, l0, [(Pt, lamQ "law")], ([("Store", C_Store)] : Ctab)⟩ : OM K)) [] := fun b l0 => MethOk.of (N := (⟨b, l0, [(Pt, lamQ "law")], ([("Store", C_Store)] : Ctab)⟩ : OM K)) rfl a_Store_boxes f_Store_boxes k_Store_boxes B_Store_boxes (ok_Store_boxes F_Store_boxes co mb_list)
  have c__law_turned_stores : ∀ b l0 : Addr, DefOk l.prog w K mg base (OM.w (⟨b, l0, [(Pt, lamQ "law")], ([("Store", C_Store)] : Ctab)⟩ : OM K)) 6 "_law_turned_stores" 2 (w_law_turned_stores (⟨b, l0, [(Pt, lamQ "law")], ([("Store", C_Store)] : Ctab)⟩ : OM K)) [] := fun b l0 => DefOk.of F__law_turned_stores m__law_turned_stores B__law_turned_stores (ok__law_turned_stores F__law_turned_stores co (no_Store___init__ b l0) (mo_Store_put b l0) (mo_Store___eq__ b l0) (mo_Store_boxes b l0) (mo_Store_twin b l0) QE_Store)
  have c__law_box : ∀ b l0 : Addr, DefOk l.prog w K mg base (OM.w (⟨b, l0, [(Pt, lamQ "law")], ([("Store", C_Store)] : Ctab)⟩ : OM K)) 5 "_law_box" 2 (w_law_box (OM.w (⟨b, l0, [(Pt, lamQ "law")], ([("Store", C_Store)] : Ctab)⟩ : OM K)) pullS) [] := fun b l0 => DefOk.of F__law_box m__law_box B__law_box (ok__law_box F__law_box (c__law_begin b l0) mb_tuple mb_range)
  have c__law_same0 : ∀ (b l0 : Addr) (n : Nat), DefOk l.prog w K mg base (OM.w (⟨b, l0, [(Pt, lamQ "law")], ([("Store", C_Store)] : Ctab)⟩ : OM K)) (n) "_law_same" 2 (w_law_same (OM.w (⟨b, l0, [(Pt, lamQ "law")], ([("Store", C_Store)] : Ctab)⟩ : OM K)) n) [] := fun b l0 n => by
    induction n with
    | zero => exact DefOk.of F__law_same m__law_same B__law_same (fn_bad rfl)
    | succ n ih => exact DefOk.of F__law_same m__law_same B__law_same (ok__law_same (k := n + 0) (by omega) F__law_same ih mb_isinstance mb_bool mb_str mb_int mb_list mb_tuple mb_len mb_all mb_range)
  have c__law_same := fun b l0 => c__law_same0 b l0 6
  have c__law_starts : ∀ b l0 : Addr, DefOk l.prog w K mg base (OM.w (⟨b, l0, [(Pt, lamQ "law")], ([("Store", C_Store)] : Ctab)⟩ : OM K)) 1 "_law_starts" 2 (w_law_starts (OM.w (⟨b, l0, [(Pt, lamQ "law")], ([("Store", C_Store)] : Ctab)⟩ : OM K))) [] := fun b l0 => DefOk.of F__law_starts m__law_starts B__law_starts (ok__law_starts F__law_starts mb_len)
  have c__law_inside : ∀ b l0 : Addr, DefOk l.prog w K mg base (OM.w (⟨b, l0, [(Pt, lamQ "law")], ([("Store", C_Store)] : Ctab)⟩ : OM K)) 2 "_law_inside" 2 (w_law_inside (OM.w (⟨b, l0, [(Pt, lamQ "law")], ([("Store", C_Store)] : Ctab)⟩ : OM K))) [] := fun b l0 => DefOk.of F__law_inside m__law_inside B__law_inside (ok__law_inside F__law_inside (c__law_starts b l0) mb_all mb_zip)
  have mo_Store_over : ∀ b l0 : Addr, MethOk l.prog w K mg base (⟨b, l0, [(Pt, lamQ "law")], ([("Store", C_Store)] : Ctab)⟩ : OM K) 5 "Store" "over" 2 (w_Store_over (⟨b, l0, [(Pt, lamQ "law")], ([("Store", C_Store)] : Ctab)⟩ : OM K)) [] := fun b l0 => MethOk.of (N := (⟨b, l0, [(Pt, lamQ "law")], ([("Store", C_Store)] : Ctab)⟩ : OM K)) rfl a_Store_over f_Store_over k_Store_over B_Store_over (ok_Store_over F_Store_over co (mo_Store_need b l0) (mo_Store_first_over b l0))
  have c__law_store_right : ∀ b l0 : Addr, DefOk l.prog w K mg base (OM.w (⟨b, l0, [(Pt, lamQ "law")], ([("Store", C_Store)] : Ctab)⟩ : OM K)) 7 "_law_store_right" 3 (w_law_store_right (⟨b, l0, [(Pt, lamQ "law")], ([("Store", C_Store)] : Ctab)⟩ : OM K)) [] := fun b l0 => DefOk.of F__law_store_right m__law_store_right B__law_store_right (ok__law_store_right F__law_store_right co (c__law_inside b l0) (mo_Store_boxes b l0) (c__law_same b l0) (mo_Store_over b l0))
  have mo_Store___repr__ : ∀ b l0 : Addr, MethOk l.prog w K mg base (⟨b, l0, [(Pt, lamQ "law")], ([("Store", C_Store)] : Ctab)⟩ : OM K) 1 "Store" "__repr__" 1 (w_Store___repr__ (⟨b, l0, [(Pt, lamQ "law")], ([("Store", C_Store)] : Ctab)⟩ : OM K)) [] := fun b l0 => MethOk.of (N := (⟨b, l0, [(Pt, lamQ "law")], ([("Store", C_Store)] : Ctab)⟩ : OM K)) rfl a_Store___repr__ f_Store___repr__ k_Store___repr__ B_Store___repr__ (ok_Store___repr__ F_Store___repr__ co mb_len)
  have c__law_odd_thing : ∀ b l0 : Addr, DefOk l.prog w K mg base (OM.w (⟨b, l0, [(Pt, lamQ "law")], ([("Store", C_Store)] : Ctab)⟩ : OM K)) 3 "_law_odd_thing" 2 (w_law_odd_thing (OM.w (⟨b, l0, [(Pt, lamQ "law")], ([("Store", C_Store)] : Ctab)⟩ : OM K)) pullS) [] := fun b l0 => DefOk.of F__law_odd_thing m__law_odd_thing B__law_odd_thing (ok__law_odd_thing F__law_odd_thing (c__law_of b l0))
  have mo_Store___len__ : ∀ b l0 : Addr, MethOk l.prog w K mg base (⟨b, l0, [(Pt, lamQ "law")], ([("Store", C_Store)] : Ctab)⟩ : OM K) 1 "Store" "__len__" 1 (w_Store___len__ (⟨b, l0, [(Pt, lamQ "law")], ([("Store", C_Store)] : Ctab)⟩ : OM K)) [] := fun b l0 => MethOk.of (N := (⟨b, l0, [(Pt, lamQ "law")], ([("Store", C_Store)] : Ctab)⟩ : OM K)) rfl a_Store___len__ f_Store___len__ k_Store___len__ B_Store___len__ (ok_Store___len__ F_Store___len__ co mb_len)
  exact law_okW (I := objI K ([("Store", C_Store)] : Ctab)) (T := [(Pt, lamQ "law")]) l_law c_law sc_law rfl rfl rfl (.inl rfl) (by first | exact .inl rfl | exact .inr rfl) (by decide) (by decide) rfl m__law_bag F__law_bag.kp B__law_bag (ok__law_bag F__law_bag mb_list) (by decide) rfl (fun b l0 A outer s H E hr tk => d_law (N := (⟨b, l0, [(Pt, lamQ "law")], ([("Store", C_Store)] : Ctab)⟩ : OM K)) co (c__law_pull b l0) (no_Store___init__ b l0) (c__law_near_box b l0) (c__law_of b l0) (c__law_box b l0) (c__law_inside b l0) (c__law_same b l0) (mo_Store_put b l0) (c__law_store_right b l0) (c__law_odd_thing b l0) (mo_Store_over b l0) (mo_Store_boxes b l0) (mo_Store___len__ b l0) (mo_Store___repr__ b l0) (mo_Store_twin b l0) (mo_Store___eq__ b l0) (c__law_turned_stores b l0) QE_Store mb_range mb_any mb_int mb_len mb_repr mb_str mb_list hT hWd hx (TB (cdl, Pt) (List.mem_singleton.mpr rfl)) (List.mem_singleton.mpr rfl) (fun r hr _ => by rw [List.mem_singleton.mp hr]) hr tk) (begin_obj K ([("Store", C_Store)] : Ctab)) (fun b l0 => al_box (pure_k09 pull_bag rfl))
end VL

open PySem PySem.W PyProof.Rows L2
set_option maxRecDepth 100000 in
set_option maxHeartbeats 0 in
theorem PySem.Challenge.cw_voidquilt_k09_stores_of_boxes_holds : PySem.Challenge.rw_voidquilt_k09_stores_of_boxes.Holds := by
  w_on; o_law; k_head; (case hw => w_witness2)
  k_fill
  refine VQ.walk_tab (l := PySem.Challenge.rw_voidquilt_k09_stores_of_boxes) (n := 63) (k := 11) (x := "_law_script") (CX := fun w => L2.CX PySem.Challenge.rw_voidquilt_k09_stores_of_boxes.prog w) rfl (by decide) rfl ⟨rfl, by decide, by decide⟩ (fun w h Y => by first | exact PySem.W.km_in_of Y | exact PySem.W.kIn_of Y) ?hd ?F (fun w => VQ.cx_none _ w)
  case hd => rfl
  case F =>
    intro w mg fa h KX G hmg hTab
    refine' VL.all_mk KX G hmg hTab ?z_n_Store ?z_pg_Store ?z_hd_Store ?z_po_Store ?z_sa_Store ?z_to_Store ?z_ne_Store ?z_nl_Store ?z_nn_Store ?z_kl_Store ?z_kn_Store ?z_cl_Store ?z_hgC ?z_htC ?z_na_Store_places ?z_na_Store_pile ?z_mk_Store ?z_kc_Store ?z_a__law_bag ?z_l__law_bag ?z_c__law_bag ?z_k__law_bag ?z_a__law_pull ?z_l__law_pull ?z_c__law_pull ?z_k__law_pull ?z_a_Store___init__ ?z_f_Store___init__ ?z_l_Store___init__ ?z_c_Store___init__ ?z_k_Store___init__ ?z_a__law_of ?z_l__law_of ?z_c__law_of ?z_k__law_of ?z_a__law_figs ?z_l__law_figs ?z_c__law_figs ?z_k__law_figs ?z_a__law_worth ?z_l__law_worth ?z_c__law_worth ?z_k__law_worth ?z_a__law_begin ?z_l__law_begin ?z_c__law_begin ?z_k__law_begin ?z_a__law_near_box ?z_l__law_near_box ?z_c__law_near_box ?z_k__law_near_box ?z_a_Store___eq__ ?z_f_Store___eq__ ?z_l_Store___eq__ ?z_c_Store___eq__ ?z_k_Store___eq__ ?z_a_is_beginning ?z_l_is_beginning ?z_c_is_beginning ?z_k_is_beginning ?z_a_is_box ?z_l_is_box ?z_c_is_box ?z_k_is_box ?z_a_Store_need ?z_f_Store_need ?z_l_Store_need ?z_c_Store_need ?z_k_Store_need ?z_a_under ?z_l_under ?z_c_under ?z_k_under ?z_a_Store_first_over ?z_f_Store_first_over ?z_l_Store_first_over ?z_c_Store_first_over ?z_k_Store_first_over ?z_a_Store_put ?z_f_Store_put ?z_l_Store_put ?z_c_Store_put ?z_k_Store_put ?z_a_Store_twin ?z_f_Store_twin ?z_l_Store_twin ?z_c_Store_twin ?z_k_Store_twin ?z_a_Store_boxes ?z_f_Store_boxes ?z_l_Store_boxes ?z_c_Store_boxes ?z_k_Store_boxes ?z_a__law_turned_stores ?z_l__law_turned_stores ?z_c__law_turned_stores ?z_k__law_turned_stores ?z_a__law_box ?z_l__law_box ?z_c__law_box ?z_k__law_box ?z_a__law_same ?z_l__law_same ?z_c__law_same ?z_k__law_same ?z_a__law_starts ?z_l__law_starts ?z_c__law_starts ?z_k__law_starts ?z_a__law_inside ?z_l__law_inside ?z_c__law_inside ?z_k__law_inside ?z_a_Store_over ?z_f_Store_over ?z_l_Store_over ?z_c_Store_over ?z_k_Store_over ?z_a__law_store_right ?z_l__law_store_right ?z_c__law_store_right ?z_k__law_store_right ?z_a_Store___repr__ ?z_f_Store___repr__ ?z_l_Store___repr__ ?z_c_Store___repr__ ?z_k_Store___repr__ ?z_a__law_odd_thing ?z_l__law_odd_thing ?z_c__law_odd_thing ?z_k__law_odd_thing ?z_a__law_tried ?z_l__law_tried ?z_c__law_tried ?z_k__law_tried ?z_a__law_word ?z_l__law_word ?z_c__law_word ?z_k__law_word ?z_a_Store___len__ ?z_f_Store___len__ ?z_l_Store___len__ ?z_c_Store___len__ ?z_k_Store___len__ ?z_a_law ?z_l_law ?z_c_law ?z_k_law ?z_b_len ?z_b_range ?z_b_str ?z_b_tuple ?z_b_isinstance ?z_b_all ?z_b_zip ?z_b_list ?z_b_bool ?z_b_int ?z_b_any ?z_b_repr ?z_g_FIGURES ?z_g_MOST_PLACES ?z_n_Taken ?z_n_NoTable ?z_n_NoRow ?z_n_BadText ?z_n_Unfit ?z_n_Full ?z_n_TooMany ?z_n_QuiltError ?z_n_Nothing ?z_n_BadBox ?z_i_iQuiltError ?z_l_iQuiltError ?z_c_iQuiltError ?z_k_iQuiltError ?z_t_iQuiltError ?z_i_iBadBox ?z_l_iBadBox ?z_c_iBadBox ?z_k_iBadBox ?z_t_iBadBox ?z_q_rd ?z_q_ga ?z_q_at ?z_xL_BadBox ?z_sa_BadBox ?z_ga_BadBox ?z_gg_BadBox ?z_nc_BadBox ?z_kC_BadBox ?z_eC_BadBox ?z_tC_BadBox ?z_hC_BadBox ?z_iC_BadBox ?z_s_BadBox_Taken ?z_s_BadBox_NoTable ?z_s_BadBox_NoRow ?z_s_BadBox_BadText ?z_s_BadBox_Unfit ?z_s_BadBox_Full ?z_s_BadBox_TooMany ?z_s_BadBox_QuiltError ?z_s_BadBox_Nothing ?z_e_Taken ?z_ei_Taken ?z_et_Taken ?z_e_NoTable ?z_ei_NoTable ?z_et_NoTable ?z_e_NoRow ?z_ei_NoRow ?z_et_NoRow ?z_e_BadText ?z_ei_BadText ?z_et_BadText ?z_e_Unfit ?z_ei_Unfit ?z_et_Unfit ?z_e_Full ?z_ei_Full ?z_et_Full ?z_e_TooMany ?z_ei_TooMany ?z_et_TooMany ?z_e_QuiltError ?z_ei_QuiltError ?z_et_QuiltError ?z_e_Nothing ?z_ei_Nothing ?z_et_Nothing ?z_tab ?z_cdlw ?z_noP
    (case z_n_Store => first | k_is | rfl)
    (case z_pg_Store => first | k_is | rfl)
    (case z_hd_Store => first | k_is | rfl)
    (case z_po_Store => first | k_is | rfl)
    (case z_sa_Store => first | k_is | rfl)
    (case z_to_Store => first | k_is | rfl)
    (case z_ne_Store => first | k_is | rfl)
    (case z_nl_Store => first | k_is | rfl)
    (case z_nn_Store => first | k_is | rfl)
    (case z_kl_Store => first | k_is | rfl)
    (case z_kn_Store => first | k_is | rfl)
    (case z_cl_Store => first | k_is | rfl)
    (case z_hgC => first | k_is | rfl)
    (case z_htC => first | k_is | rfl)
    (case z_na_Store_places => first | k_is | rfl)
    (case z_na_Store_pile => first | k_is | rfl)
    (case z_mk_Store => first | k_is | rfl)
    (case z_kc_Store => first | k_is | rfl)
    (case z_a__law_bag => first | k_is | rfl)
    (case z_l__law_bag => first | k_is | rfl)
    (case z_c__law_bag => first | k_is | rfl)
    (case z_k__law_bag => first | k_is | rfl)
    (case z_a__law_pull => first | k_is | rfl)
    (case z_l__law_pull => first | k_is | rfl)
    (case z_c__law_pull => first | k_is | rfl)
    (case z_k__law_pull => first | k_is | rfl)
    (case z_a_Store___init__ => first | k_is | rfl)
    (case z_f_Store___init__ => first | k_is | rfl)
    (case z_l_Store___init__ => first | k_is | rfl)
    (case z_c_Store___init__ => first | k_is | rfl)
    (case z_k_Store___init__ => first | k_is | rfl)
    (case z_a__law_of => first | k_is | rfl)
    (case z_l__law_of => first | k_is | rfl)
    (case z_c__law_of => first | k_is | rfl)
    (case z_k__law_of => first | k_is | rfl)
    (case z_a__law_figs => first | k_is | rfl)
    (case z_l__law_figs => first | k_is | rfl)
    (case z_c__law_figs => first | k_is | rfl)
    (case z_k__law_figs => first | k_is | rfl)
    (case z_a__law_worth => first | k_is | rfl)
    (case z_l__law_worth => first | k_is | rfl)
    (case z_c__law_worth => first | k_is | rfl)
    (case z_k__law_worth => first | k_is | rfl)
    (case z_a__law_begin => first | k_is | rfl)
    (case z_l__law_begin => first | k_is | rfl)
    (case z_c__law_begin => first | k_is | rfl)
    (case z_k__law_begin => first | k_is | rfl)
    (case z_a__law_near_box => first | k_is | rfl)
    (case z_l__law_near_box => first | k_is | rfl)
    (case z_c__law_near_box => first | k_is | rfl)
    (case z_k__law_near_box => first | k_is | rfl)
    (case z_a_Store___eq__ => first | k_is | rfl)
    (case z_f_Store___eq__ => first | k_is | rfl)
    (case z_l_Store___eq__ => first | k_is | rfl)
    (case z_c_Store___eq__ => first | k_is | rfl)
    (case z_k_Store___eq__ => first | k_is | rfl)
    (case z_a_is_beginning => first | k_is | rfl)
    (case z_l_is_beginning => first | k_is | rfl)
    (case z_c_is_beginning => first | k_is | rfl)
    (case z_k_is_beginning => first | k_is | rfl)
    (case z_a_is_box => first | k_is | rfl)
    (case z_l_is_box => first | k_is | rfl)
    (case z_c_is_box => first | k_is | rfl)
    (case z_k_is_box => first | k_is | rfl)
    (case z_a_Store_need => first | k_is | rfl)
    (case z_f_Store_need => first | k_is | rfl)
    (case z_l_Store_need => first | k_is | rfl)
    (case z_c_Store_need => first | k_is | rfl)
    (case z_k_Store_need => first | k_is | rfl)
    (case z_a_under => first | k_is | rfl)
    (case z_l_under => first | k_is | rfl)
    (case z_c_under => first | k_is | rfl)
    (case z_k_under => first | k_is | rfl)
    (case z_a_Store_first_over => first | k_is | rfl)
    (case z_f_Store_first_over => first | k_is | rfl)
    (case z_l_Store_first_over => first | k_is | rfl)
    (case z_c_Store_first_over => first | k_is | rfl)
    (case z_k_Store_first_over => first | k_is | rfl)
    (case z_a_Store_put => first | k_is | rfl)
    (case z_f_Store_put => first | k_is | rfl)
    (case z_l_Store_put => first | k_is | rfl)
    (case z_c_Store_put => first | k_is | rfl)
    (case z_k_Store_put => first | k_is | rfl)
    (case z_a_Store_twin => first | k_is | rfl)
    (case z_f_Store_twin => first | k_is | rfl)
    (case z_l_Store_twin => first | k_is | rfl)
    (case z_c_Store_twin => first | k_is | rfl)
    (case z_k_Store_twin => first | k_is | rfl)
    (case z_a_Store_boxes => first | k_is | rfl)
    (case z_f_Store_boxes => first | k_is | rfl)
    (case z_l_Store_boxes => first | k_is | rfl)
    (case z_c_Store_boxes => first | k_is | rfl)
    (case z_k_Store_boxes => first | k_is | rfl)
    (case z_a__law_turned_stores => first | k_is | rfl)
    (case z_l__law_turned_stores => first | k_is | rfl)
    (case z_c__law_turned_stores => first | k_is | rfl)
    (case z_k__law_turned_stores => first | k_is | rfl)
    (case z_a__law_box => first | k_is | rfl)
    (case z_l__law_box => first | k_is | rfl)
    (case z_c__law_box => first | k_is | rfl)
    (case z_k__law_box => first | k_is | rfl)
    (case z_a__law_same => first | k_is | rfl)
    (case z_l__law_same => first | k_is | rfl)
    (case z_c__law_same => first | k_is | rfl)
    (case z_k__law_same => first | k_is | rfl)
    (case z_a__law_starts => first | k_is | rfl)
    (case z_l__law_starts => first | k_is | rfl)
    (case z_c__law_starts => first | k_is | rfl)
    (case z_k__law_starts => first | k_is | rfl)
    (case z_a__law_inside => first | k_is | rfl)
    (case z_l__law_inside => first | k_is | rfl)
    (case z_c__law_inside => first | k_is | rfl)
    (case z_k__law_inside => first | k_is | rfl)
    (case z_a_Store_over => first | k_is | rfl)
    (case z_f_Store_over => first | k_is | rfl)
    (case z_l_Store_over => first | k_is | rfl)
    (case z_c_Store_over => first | k_is | rfl)
    (case z_k_Store_over => first | k_is | rfl)
    (case z_a__law_store_right => first | k_is | rfl)
    (case z_l__law_store_right => first | k_is | rfl)
    (case z_c__law_store_right => first | k_is | rfl)
    (case z_k__law_store_right => first | k_is | rfl)
    (case z_a_Store___repr__ => first | k_is | rfl)
    (case z_f_Store___repr__ => first | k_is | rfl)
    (case z_l_Store___repr__ => first | k_is | rfl)
    (case z_c_Store___repr__ => first | k_is | rfl)
    (case z_k_Store___repr__ => first | k_is | rfl)
    (case z_a__law_odd_thing => first | k_is | rfl)
    (case z_l__law_odd_thing => first | k_is | rfl)
    (case z_c__law_odd_thing => first | k_is | rfl)
    (case z_k__law_odd_thing => first | k_is | rfl)
    (case z_a__law_tried => first | k_is | rfl)
    (case z_l__law_tried => first | k_is | rfl)
    (case z_c__law_tried => first | k_is | rfl)
    (case z_k__law_tried => first | k_is | rfl)
    (case z_a__law_word => first | k_is | rfl)
    (case z_l__law_word => first | k_is | rfl)
    (case z_c__law_word => first | k_is | rfl)
    (case z_k__law_word => first | k_is | rfl)
    (case z_a_Store___len__ => first | k_is | rfl)
    (case z_f_Store___len__ => first | k_is | rfl)
    (case z_l_Store___len__ => first | k_is | rfl)
    (case z_c_Store___len__ => first | k_is | rfl)
    (case z_k_Store___len__ => first | k_is | rfl)
    (case z_a_law => first | k_is | rfl)
    (case z_l_law => first | k_is | rfl)
    (case z_c_law => first | k_is | rfl)
    (case z_k_law => first | k_is | rfl)
    (case z_b_len => first | k_is | rfl)
    (case z_b_range => first | k_is | rfl)
    (case z_b_str => first | k_is | rfl)
    (case z_b_tuple => first | k_is | rfl)
    (case z_b_isinstance => first | k_is | rfl)
    (case z_b_all => first | k_is | rfl)
    (case z_b_zip => first | k_is | rfl)
    (case z_b_list => first | k_is | rfl)
    (case z_b_bool => first | k_is | rfl)
    (case z_b_int => first | k_is | rfl)
    (case z_b_any => first | k_is | rfl)
    (case z_b_repr => first | k_is | rfl)
    (case z_g_FIGURES => first | k_is | rfl)
    (case z_g_MOST_PLACES => first | k_is | rfl)
    (case z_n_Taken => first | k_is | rfl)
    (case z_n_NoTable => first | k_is | rfl)
    (case z_n_NoRow => first | k_is | rfl)
    (case z_n_BadText => first | k_is | rfl)
    (case z_n_Unfit => first | k_is | rfl)
    (case z_n_Full => first | k_is | rfl)
    (case z_n_TooMany => first | k_is | rfl)
    (case z_n_QuiltError => first | k_is | rfl)
    (case z_n_Nothing => first | k_is | rfl)
    (case z_n_BadBox => first | k_is | rfl)
    (case z_i_iQuiltError => first | k_is | rfl)
    (case z_l_iQuiltError => first | k_is | rfl)
    (case z_c_iQuiltError => first | k_is | rfl)
    (case z_k_iQuiltError => first | k_is | rfl)
    (case z_t_iQuiltError => first | k_is | rfl)
    (case z_i_iBadBox => first | k_is | rfl)
    (case z_l_iBadBox => first | k_is | rfl)
    (case z_c_iBadBox => first | k_is | rfl)
    (case z_k_iBadBox => first | k_is | rfl)
    (case z_t_iBadBox => first | k_is | rfl)
    (case z_q_rd => first | k_is | rfl)
    (case z_q_ga => first | k_is | rfl)
    (case z_q_at => first | k_is | rfl)
    (case z_xL_BadBox => first | k_is | rfl)
    (case z_sa_BadBox => first | k_is | rfl)
    (case z_ga_BadBox => first | k_is | rfl)
    (case z_gg_BadBox => first | k_is | rfl)
    (case z_nc_BadBox => first | k_is | rfl)
    (case z_kC_BadBox => first | k_is | rfl)
    (case z_eC_BadBox => first | k_is | rfl)
    (case z_tC_BadBox => first | k_is | rfl)
    (case z_hC_BadBox => first | k_is | rfl)
    (case z_iC_BadBox => first | k_is | rfl)
    (case z_s_BadBox_Taken => first | k_is | rfl)
    (case z_s_BadBox_NoTable => first | k_is | rfl)
    (case z_s_BadBox_NoRow => first | k_is | rfl)
    (case z_s_BadBox_BadText => first | k_is | rfl)
    (case z_s_BadBox_Unfit => first | k_is | rfl)
    (case z_s_BadBox_Full => first | k_is | rfl)
    (case z_s_BadBox_TooMany => first | k_is | rfl)
    (case z_s_BadBox_QuiltError => first | k_is | rfl)
    (case z_s_BadBox_Nothing => first | k_is | rfl)
    (case z_e_Taken => first | k_is | rfl)
    (case z_ei_Taken => first | k_is | rfl)
    (case z_et_Taken => first | k_is | rfl)
    (case z_e_NoTable => first | k_is | rfl)
    (case z_ei_NoTable => first | k_is | rfl)
    (case z_et_NoTable => first | k_is | rfl)
    (case z_e_NoRow => first | k_is | rfl)
    (case z_ei_NoRow => first | k_is | rfl)
    (case z_et_NoRow => first | k_is | rfl)
    (case z_e_BadText => first | k_is | rfl)
    (case z_ei_BadText => first | k_is | rfl)
    (case z_et_BadText => first | k_is | rfl)
    (case z_e_Unfit => first | k_is | rfl)
    (case z_ei_Unfit => first | k_is | rfl)
    (case z_et_Unfit => first | k_is | rfl)
    (case z_e_Full => first | k_is | rfl)
    (case z_ei_Full => first | k_is | rfl)
    (case z_et_Full => first | k_is | rfl)
    (case z_e_TooMany => first | k_is | rfl)
    (case z_ei_TooMany => first | k_is | rfl)
    (case z_et_TooMany => first | k_is | rfl)
    (case z_e_QuiltError => first | k_is | rfl)
    (case z_ei_QuiltError => first | k_is | rfl)
    (case z_et_QuiltError => first | k_is | rfl)
    (case z_e_Nothing => first | k_is | rfl)
    (case z_ei_Nothing => first | k_is | rfl)
    (case z_et_Nothing => first | k_is | rfl)
    (case z_tab => first | rfl | k_is)
    (case z_cdlw => first | rfl | k_is)
    (case z_noP => first | k_is | rfl | decide +kernel)


