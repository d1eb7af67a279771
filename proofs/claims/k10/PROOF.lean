import PyProof.Rows.All
import Wide.All
import OpenK.AllK
import Wide.FinOn
import HandS.ForMost
import HandS.Lambda
import HandS.ExcInit
import HandS.TryMany
import HandS.TupAny
import HandS.ExcOwn
import HandS.CallSlots
import HandS.WordsExc
import HandS.TupMul
import HandS.Flow
import HandS.Wide
import HandS.IsInst
import HandS.WordsList
import HandS.Deep
import HandS.SortInts
import HandS.Conv
import HandS.Zip
import HandS.RevRange
import KE.GoesZip
import KE.GoesMore
import KE.GoesEnum
import HandS.ClsMeth
import HandS.ExcField
import HandS.EndTab
import HandS.Defaults
import HandS.Words
import HandS.RaiseMore
import KE.KDflt
import KE.IntText
import KE.GoesEnumKw
import KE.KUnpackStar
import HandS.Codes
import HandS.Dict
import HandS.SetFor
import HandS.Style
import PyProof.Rows.RuleC_bool
import HandS.FStr
import OpenK.KOps
import PyProof.InstEq
import HandS.SortKw
import HandS.SetBool
import HandS.Strs
import HandS.Call
import HandS.TupSets
import KE.KSortTupG
import KE.BitLaws
import PySem.Challenge.RW_voidquilt_k10_bare_points
set_option hygiene false
set_option Elab.async false
set_option linter.all false
set_option maxRecDepth 100000
set_option maxHeartbeats 4000000
namespace VQ
end VQ
namespace G
end G
namespace VK
end VK
namespace Al
end Al
namespace ZS
end ZS
namespace VL
end VL
namespace VQ
open PySem PySem.Spec PyProof.Rows L2
def Tup2 (H : Hp) (vs : List V) (Q : VK) : Prop := (∀ a, H a = none → Q (.ref a) (upd H a (.tup vs))) ∨ ∀ (a : Addr) (o : Obj), o.cls = .type "tuple" → o.dict = none → H a = none → Q (.ref a) (upd H a (.frz o (.tup vs)))
def NewT (ho : HO) (vs : List V) : Prop := ∃ o : Obj, ho = .frz o (.tup vs) ∧ o.cls = .type "tuple" ∧ o.dict = none
section
variable {X : Cx} {pins : List (Addr × Obj)} {σ : L2.St} {H : Hp} {s : Shared}
variable {es : List Expr} {t : TA} {pos : Pos}
def tTup2 (t : TA) : TE := fun σ H Q => t σ H fun vs H1 => vs.length ≤ sizeLine ∧ Tup2 H1 vs Q
end
inductive D where
  | non | bl (b : Bool) | int (i : Int) | str (s : List Nat) | tup (xs : List D) | lst (xs : List D)
  | dk (kvs : List (Key × D)) | dt (kvs : List (List Key × D)) | obj (n : Nat) | ty (n : String)
  deriving Inhabited
inductive G (ε α : Type) where
  | ret (a : α) | exc (e : ε) | draw (n : Nat) (k : Nat → G ε α) | bad
namespace G
variable {ε ε' α β γ : Type}
def bind (m : G ε α) (f : α → G ε β) : G ε β :=
  match m with
  | ret a => f a
  | exc e => exc e
  | draw n k => draw n fun r => (k r).bind f
  | bad => bad
def map (f : α → β) (m : G ε α) : G ε β := m.bind fun a => ret (f a)
def exs (g : ε → ε') : G ε α → G ε' α
  | ret a => ret a
  | exc e => exc (g e)
  | draw n k => draw n fun r => (k r).exs g
  | bad => bad
def all (m : G ε α) (Q : α → Prop) (E : ε → Prop) : Prop :=
  match m with
  | ret a => Q a
  | exc e => E e
  | draw n k => 0 < n ∧ ∀ r, r < n → (k r).all Q E
  | bad => False
theorem all_mono {Q Q' : α → Prop} {E E' : ε → Prop} (hQ : ∀ a, Q a → Q' a) (hE : ∀ e, E e → E' e) : ∀ {m : G ε α}, m.all Q E → m.all Q' E'
  | ret a, h => hQ a h
  | exc e, h => hE e h
  | draw n k, h => ⟨h.1, fun r hr => all_mono hQ hE (h.2 r hr)⟩
theorem all_bind {Q : β → Prop} {E : ε → Prop} {f : α → G ε β} : ∀ {m : G ε α}, (m.bind f).all Q E ↔ m.all (fun a => (f a).all Q E) E
  | ret _ => Iff.rfl
  | exc _ => Iff.rfl
  | bad => Iff.rfl
  | draw n k => by
    show (0 < n ∧ ∀ r, r < n → ((k r).bind f).all Q E) ↔ (0 < n ∧ ∀ r, r < n → (k r).all _ E)
    exact ⟨fun h => ⟨h.1, fun r hr => all_bind.mp (h.2 r hr)⟩, fun h => ⟨h.1, fun r hr => all_bind.mpr (h.2 r hr)⟩⟩
theorem all_exs {Q : α → Prop} {E : ε' → Prop} {g : ε → ε'} : ∀ {m : G ε α}, (m.exs g).all Q E ↔ m.all Q (fun e => E (g e))
  | ret _ => Iff.rfl
  | exc _ => Iff.rfl
  | bad => Iff.rfl
  | draw n k => by
    show (0 < n ∧ ∀ r, r < n → ((k r).exs g).all Q E) ↔ (0 < n ∧ ∀ r, r < n → (k r).all Q _)
    exact ⟨fun h => ⟨h.1, fun r hr => all_exs.mp (h.2 r hr)⟩, fun h => ⟨h.1, fun r hr => all_exs.mpr (h.2 r hr)⟩⟩
end G
abbrev Same (H H' : Hp) : Prop := ∀ b o, H b = some o → H' b = some o
theorem Same.rfl' {H : Hp} : Same H H := fun _ _ h => h
theorem Same.tr {H H1 H2 : Hp} (a : Same H H1) (b : Same H1 H2) : Same H H2 := fun c o h => b c o (a c o h)
theorem rd_same {H H' : Hp} {a : Addr} {u : HO} (s : Same H H') (h : Rd H a u) : Rd H' a u := by
  rcases h with h | ⟨o, h⟩
  · exact .inl (s _ _ h)
  · exact .inr ⟨o, s _ _ h⟩
theorem sqT_same {K : PySem.W.Frag} {H H' : Hp} {a : Addr} {xs : List V} (s : Same H H') (h : SqT K H a xs) : SqT K H' a xs := by
  rcases h with (h | ⟨o, h⟩) | h
  · exact .inl (.inl (s _ _ h))
  · exact .inl (.inr ⟨o, s _ _ h⟩)
  · exact .inr h
def ixb : List D → Bool
  | [] => false
  | .str _ :: _ => true
  | _ :: r => ixb r
def NDt (K : PySem.W.Frag) (Hv : Hp) (a : Addr) : Prop := (∃ (o : Obj) (xs : List V), Hv a = some (.frz o (.tup xs)) ∧ o.cls = .type "tuple" ∧ o.dict = none) ∨ ∃ o, K.lookup a = some o ∧ o.cls = .type "tuple" ∧ o.dict = none
theorem NDt.same {K : PySem.W.Frag} {H H' : Hp} {a : Addr} (s : Same H H') (h : NDt K H a) : NDt K H' a := by
  rcases h with ⟨o, xs, h, c, d⟩ | h
  · exact .inl ⟨o, xs, s _ _ h, c, d⟩
  · exact .inr h
section
variable (K : PySem.W.Frag) (ad : Nat → Option Addr) (Hv : Hp)
mutual
def Den : D → V → Prop
  | .non, v => v = .non
  | .bl b, v => v = .bl b
  | .int i, v => v = .int i
  | .str s, v => v = .str ⟨s.toArray⟩
  | .tup ds, v => ∃ a vs, v = .ref a ∧ SqT K Hv a vs ∧ DenL ds vs ∧ (ixb ds = true → NDt K Hv a)
  | .lst ds, v => ∃ a vs, v = .ref a ∧ Hv a = some (.lst vs) ∧ DenL ds vs
  | .dk kds, v => ∃ a kvs, v = .ref a ∧ Rd Hv a (.dK kvs) ∧ DenK kds kvs
  | .dt kds, v => ∃ a kvs, v = .ref a ∧ Rd Hv a (.dT kvs) ∧ DenT kds kvs
  | .obj n, v => ∃ a, ad n = some a ∧ v = .ref a
  | .ty n, v => v = .ty n
def DenL : List D → List V → Prop
  | [], vs => vs = []
  | d :: ds, vs => ∃ v r, vs = v :: r ∧ Den d v ∧ DenL ds r
def DenK : List (Key × D) → List (Key × V) → Prop
  | [], kvs => kvs = []
  | (k, d) :: kds, kvs => ∃ v r, kvs = (k, v) :: r ∧ Den d v ∧ DenK kds r
def DenT : List (List Key × D) → List (List Key × V) → Prop
  | [], kvs => kvs = []
  | (k, d) :: kds, kvs => ∃ v r, kvs = (k, v) :: r ∧ Den d v ∧ DenT kds r
end
end
section
variable {K : PySem.W.Frag} {ad ad' : Nat → Option Addr} {Hv Hv' : Hp}
mutual
theorem Den.mono (hs : Same Hv Hv') (ha : ∀ n a, ad n = some a → ad' n = some a) : ∀ {d : D} {v : V}, Den K ad Hv d v → Den K ad' Hv' d v
  | .non, _, h => h
  | .bl _, _, h => h
  | .int _, _, h => h
  | .str _, _, h => h
  | .tup _, _, ⟨a, vs, e, s, r, n⟩ => ⟨a, vs, e, sqT_same hs s, DenL.mono hs ha r, fun z => (n z).same hs⟩
  | .lst _, _, ⟨a, vs, e, s, r⟩ => ⟨a, vs, e, hs _ _ s, DenL.mono hs ha r⟩
  | .dk _, _, ⟨a, kvs, e, s, r⟩ => ⟨a, kvs, e, rd_same hs s, DenK.mono hs ha r⟩
  | .dt _, _, ⟨a, kvs, e, s, r⟩ => ⟨a, kvs, e, rd_same hs s, DenT.mono hs ha r⟩
  | .obj _, _, ⟨a, e, q⟩ => ⟨a, ha _ _ e, q⟩
  | .ty _, _, h => h
theorem DenL.mono (hs : Same Hv Hv') (ha : ∀ n a, ad n = some a → ad' n = some a) : ∀ {ds : List D} {vs : List V}, DenL K ad Hv ds vs → DenL K ad' Hv' ds vs
  | [], _, h => h
  | _ :: _, _, ⟨v, r, e, h, t⟩ => ⟨v, r, e, Den.mono hs ha h, DenL.mono hs ha t⟩
theorem DenK.mono (hs : Same Hv Hv') (ha : ∀ n a, ad n = some a → ad' n = some a) : ∀ {ds : List (Key × D)} {vs : List (Key × V)}, DenK K ad Hv ds vs → DenK K ad' Hv' ds vs
  | [], _, h => h
  | (_, _) :: _, _, ⟨v, r, e, h, t⟩ => ⟨v, r, e, Den.mono hs ha h, DenK.mono hs ha t⟩
theorem DenT.mono (hs : Same Hv Hv') (ha : ∀ n a, ad n = some a → ad' n = some a) : ∀ {ds : List (List Key × D)} {vs : List (List Key × V)}, DenT K ad Hv ds vs → DenT K ad' Hv' ds vs
  | [], _, h => h
  | (_, _) :: _, _, ⟨v, r, e, h, t⟩ => ⟨v, r, e, Den.mono hs ha h, DenT.mono hs ha t⟩
end
theorem DenL.length : ∀ {ds : List D} {vs : List V}, DenL K ad Hv ds vs → vs.length = ds.length
  | [], _, h => by cases h; rfl
  | _ :: _, _, ⟨_, _, e, _, t⟩ => by cases e; simp [DenL.length t]
theorem DenL.get : ∀ {ds : List D} {vs : List V} {i : Nat} {d : D}, DenL K ad Hv ds vs → ds[i]? = some d → ∃ v, vs[i]? = some v ∧ Den K ad Hv d v
  | [], _, _, _, _, e => by simp at e
  | _ :: _, _, 0, _, ⟨v, _, e, h, _⟩, q => by cases e; simp at q; subst q; exact ⟨v, rfl, h⟩
  | _ :: _, _, i + 1, _, ⟨_, _, e, _, t⟩, q => by
    cases e
    obtain ⟨v, h1, h2⟩ := DenL.get t (by simpa using q)
    exact ⟨v, by simpa using h1, h2⟩
theorem DenL.append : ∀ {ds es : List D} {vs ws : List V}, DenL K ad Hv ds vs → DenL K ad Hv es ws → DenL K ad Hv (ds ++ es) (vs ++ ws)
  | [], _, _, _, h, q => by cases h; exact q
  | _ :: _, _, _, _, ⟨v, r, e, h, t⟩, q => by cases e; exact ⟨v, _, rfl, h, DenL.append t q⟩
theorem DenL.take : ∀ {ds : List D} {vs : List V} (n : Nat), DenL K ad Hv ds vs → DenL K ad Hv (ds.take n) (vs.take n)
  | _, _, 0, _ => by simp [DenL]
  | [], _, _ + 1, h => by cases h; simp [DenL]
  | _ :: _, _, n + 1, ⟨v, r, e, h, t⟩ => by cases e; exact ⟨v, _, rfl, h, DenL.take n t⟩
theorem DenL.drop : ∀ {ds : List D} {vs : List V} (n : Nat), DenL K ad Hv ds vs → DenL K ad Hv (ds.drop n) (vs.drop n)
  | _, _, 0, h => h
  | [], _, _ + 1, h => by cases h; simp [DenL]
  | _ :: _, _, n + 1, ⟨v, r, e, h, t⟩ => by cases e; exact DenL.drop n t
theorem DenL.one {d : D} {v : V} (h : Den K ad Hv d v) : DenL K ad Hv [d] [v] := ⟨v, [], rfl, h, rfl⟩
theorem DenL.nil : DenL K ad Hv [] [] := rfl
theorem DenL.cons {d : D} {v : V} {ds : List D} {vs : List V} (h : Den K ad Hv d v) (t : DenL K ad Hv ds vs) : DenL K ad Hv (d :: ds) (v :: vs) := ⟨v, vs, rfl, h, t⟩
theorem DenL.replicate {ds : List D} {vs : List V} (h : DenL K ad Hv ds vs) : ∀ n : Nat, DenL K ad Hv (List.replicate n ds).flatten (List.replicate n vs).flatten
  | 0 => rfl
  | n + 1 => by rw [List.replicate_succ, List.replicate_succ]; exact h.append (DenL.replicate h n)
end
mutual
def flat : D → Bool
  | .lst _ => false
  | .dk _ => false
  | .dt _ => false
  | .tup ds => flatL ds
  | _ => true
def flatL : List D → Bool
  | [] => true
  | d :: ds => flat d && flatL ds
end
def IsDc : HO → Prop
  | .dK _ => True
  | .dT _ => True
  | _ => False
def IsLd : HO → Prop
  | .lst _ => True
  | .dK _ => True
  | .dT _ => True
  | .frz _ u => IsDc u
  | _ => False
def Less (Hv1 Hv2 : Hp) : Prop := ∀ b o, Hv1 b = some o → Hv2 b = some o ∨ IsLd o
theorem less_tup {K : PySem.W.Frag} {H1 H2 : Hp} {a : Addr} {xs : List V} (l : Less H1 H2) (h : SqT K H1 a xs) : SqT K H2 a xs := by
  rcases h with (h | ⟨o, h⟩) | h
  · rcases l _ _ h with q | q
    · exact .inl (.inl q)
    · exact q.elim
  · rcases l _ _ h with q | q
    · exact .inl (.inr ⟨o, q⟩)
    · exact q.elim
  · exact .inr h
theorem NDt.less {K : PySem.W.Frag} {H1 H2 : Hp} {a : Addr} (l : Less H1 H2) (h : NDt K H1 a) : NDt K H2 a := by
  rcases h with ⟨o, xs, h, c, d⟩ | h
  · rcases l _ _ h with q | q
    · exact .inl ⟨o, xs, q, c, d⟩
    · exact q.elim
  · exact .inr h
section
variable {K : PySem.W.Frag} {ad : Nat → Option Addr} {Hv Hv' : Hp}
mutual
theorem Den.less (l : Less Hv Hv') : ∀ {d : D} {v : V}, flat d = true → Den K ad Hv d v → Den K ad Hv' d v
  | .non, _, _, h => h
  | .bl _, _, _, h => h
  | .int _, _, _, h => h
  | .str _, _, _, h => h
  | .tup _, _, f, ⟨a, vs, e, s, r, n⟩ => ⟨a, vs, e, less_tup l s, DenL.less l f r, fun z => (n z).less l⟩
  | .lst _, _, f, _ => by cases f
  | .dk _, _, f, _ => by cases f
  | .dt _, _, f, _ => by cases f
  | .obj _, _, _, h => h
  | .ty _, _, _, h => h
theorem DenL.less (l : Less Hv Hv') : ∀ {ds : List D} {vs : List V}, flatL ds = true → DenL K ad Hv ds vs → DenL K ad Hv' ds vs
  | [], _, _, h => h
  | d :: ds, _, f, ⟨v, r, e, h, t⟩ => by
    have f' : (flat d && flatL ds) = true := f
    rw [Bool.and_eq_true] at f'
    exact ⟨v, r, e, Den.less l f'.1 h, DenL.less l f'.2 t⟩
end
end
def DLk (o o' : HO) : Prop := o' = o ∨ (IsDc o ∧ ∃ x, o' = .frz x o) ∨ (IsDc o' ∧ ∃ x, o = .frz x o')
def Lck (H H' : Hp) : Prop := ∀ b o, H b = some o → ∃ o', H' b = some o' ∧ DLk o o'
theorem Same.lck {H H' : Hp} (h : Same H H') : Lck H H' := fun b o e => ⟨o, h b o e, .inl rfl⟩
theorem DLk.notup {o o' : HO} (h : DLk o o') (n : ∀ vs, o ≠ .tup vs) : ∀ vs, o' ≠ .tup vs := fun vs z => by
  subst z
  rcases h with h | ⟨h, x, e⟩ | ⟨h, x, e⟩
  · exact n vs h.symm
  · cases e
  · exact h
theorem DLk.eq {o o' : HO} (h : DLk o o') (n : ¬ IsDc o) (n2 : ∀ x u, o = .frz x u → ¬ IsDc u) : o' = o := by
  rcases h with h | ⟨h, _⟩ | ⟨h, x, e⟩
  · exact h
  · exact (n h).elim
  · exact (n2 x o' e h).elim
theorem Lck.at {H H' : Hp} (l : Lck H H') {b : Addr} {o : HO} (e : H b = some o) (n : ¬ IsDc o) (n2 : ∀ x u, o = .frz x u → ¬ IsDc u) : H' b = some o := by
  obtain ⟨o', h1, h2⟩ := l b o e
  rw [← h2.eq n n2]; exact h1
theorem Lck.rd {H H' : Hp} (l : Lck H H') {a : Addr} {u : HO} (d : IsDc u) (h : Rd H a u) : Rd H' a u := by
  rcases h with h | ⟨x, h⟩
  · obtain ⟨o', h1, h2⟩ := l a u h
    rcases h2 with rfl | ⟨_, x, rfl⟩ | ⟨d2, x, rfl⟩
    · exact .inl h1
    · exact .inr ⟨x, h1⟩
    · exact d.elim
  · obtain ⟨o', h1, h2⟩ := l a _ h
    rcases h2 with rfl | ⟨d2, _⟩ | ⟨d2, x', e⟩
    · exact .inr ⟨x, h1⟩
    · exact d2.elim
    · cases e; exact .inl h1
theorem Lck.sqT {K : PySem.W.Frag} {H H' : Hp} (l : Lck H H') {a : Addr} {xs : List V} (h : SqT K H a xs) : SqT K H' a xs := by
  rcases h with (h | ⟨o, h⟩) | h
  · exact .inl (.inl (l.at h (fun z => z) (fun x u z => by cases z)))
  · exact .inl (.inr ⟨o, l.at h (fun z => z) (fun x u z => by cases z; exact fun z => z)⟩)
  · exact .inr h
theorem NDt.lck {K : PySem.W.Frag} {H H' : Hp} {a : Addr} (l : Lck H H') (h : NDt K H a) : NDt K H' a := by
  rcases h with ⟨o, xs, h, c, d⟩ | h
  · exact .inl ⟨o, xs, l.at h (fun z => z) (fun x u z => by cases z; exact fun z => z), c, d⟩
  · exact .inr h
section
variable {K : PySem.W.Frag} {ad : Nat → Option Addr} {Hv Hv' : Hp}
mutual
theorem Den.lck (l : Lck Hv Hv') : ∀ {d : D} {v : V}, Den K ad Hv d v → Den K ad Hv' d v
  | .non, _, h => h
  | .bl _, _, h => h
  | .int _, _, h => h
  | .str _, _, h => h
  | .tup _, _, ⟨a, vs, e, s, r, n⟩ => ⟨a, vs, e, l.sqT s, DenL.lck l r, fun z => (n z).lck l⟩
  | .lst _, _, ⟨a, vs, e, s, r⟩ => ⟨a, vs, e, l.at s (fun z => z) (fun x u z => by cases z), DenL.lck l r⟩
  | .dk _, _, ⟨a, kvs, e, s, r⟩ => ⟨a, kvs, e, l.rd trivial s, DenK.lck l r⟩
  | .dt _, _, ⟨a, kvs, e, s, r⟩ => ⟨a, kvs, e, l.rd trivial s, DenT.lck l r⟩
  | .obj _, _, h => h
  | .ty _, _, h => h
theorem DenL.lck (l : Lck Hv Hv') : ∀ {ds : List D} {vs : List V}, DenL K ad Hv ds vs → DenL K ad Hv' ds vs
  | [], _, h => h
  | _ :: _, _, ⟨v, r, e, h, t⟩ => ⟨v, r, e, Den.lck l h, DenL.lck l t⟩
theorem DenK.lck (l : Lck Hv Hv') : ∀ {ds : List (Key × D)} {vs : List (Key × V)}, DenK K ad Hv ds vs → DenK K ad Hv' ds vs
  | [], _, h => h
  | (_, _) :: _, _, ⟨v, r, e, h, t⟩ => ⟨v, r, e, Den.lck l h, DenK.lck l t⟩
theorem DenT.lck (l : Lck Hv Hv') : ∀ {ds : List (List Key × D)} {vs : List (List Key × V)}, DenT K ad Hv ds vs → DenT K ad Hv' ds vs
  | [], _, h => h
  | (_, _) :: _, _, ⟨v, r, e, h, t⟩ => ⟨v, r, e, Den.lck l h, DenT.lck l t⟩
end
end
def TupHo (ho : HO) (vs : List V) (ds : List D) : Prop := (ho = .tup vs ∧ ixb ds = false) ∨ ∃ o : Obj, ho = .frz o (.tup vs) ∧ o.cls = .type "tuple" ∧ o.dict = none
theorem TupHo.sq {K : PySem.W.Frag} {H : Hp} {a : Addr} {ho : HO} {vs : List V} {ds : List D} (h : TupHo ho vs ds) (e : H a = some ho) : SqT K H a vs := by
  rcases h with ⟨rfl, _⟩ | ⟨o, rfl, _⟩
  · exact .inl (.inl e)
  · exact .inl (.inr ⟨o, e⟩)
theorem TupHo.nd {K : PySem.W.Frag} {H : Hp} {a : Addr} {ho : HO} {vs : List V} {ds : List D} (h : TupHo ho vs ds) (e : H a = some ho) : ixb ds = true → NDt K H a := fun z => by
  rcases h with ⟨_, h⟩ | ⟨o, rfl, c, d⟩
  · rw [h] at z; cases z
  · exact .inl ⟨o, vs, e, c, d⟩
theorem TupHo.den {K : PySem.W.Frag} {ad : Nat → Option Addr} {H : Hp} {a : Addr} {ho : HO} {vs : List V} {ds : List D} (h : TupHo ho vs ds) (e : H a = some ho) (dl : DenL K ad H ds vs) : Den K ad H (.tup ds) (.ref a) := ⟨a, vs, rfl, h.sq e, dl, h.nd e⟩
theorem NewT.ho {ho : HO} {vs : List V} {ds : List D} (h : NewT ho vs) : TupHo ho vs ds := .inr h
structure TabF (F : Addr → Prop) (H : Hp) (P : Addr) (q : Str) : Prop where
  own : F P
  at_ : ∃ ps : Array Value, H P = some (.tbl ps) ∧ PySem.TriplesOk ps.toList ∧ ∀ (pos : Pos) (cv : Value), PySem.codeAmong pos ps.toList = some cv → ∃ c, cv = .ref c ∧ H c = some (LamX.CodeO c q) ∧ F c
structure WM (K : PySem.W.Frag) where
  S : Type
  rep : S → (Nat → Option Addr) → (Addr → Prop) → Hp → Hp → Prop
  flat : S → Bool
  stay : ∀ {s ad F Hv Hv' H H'}, rep s ad F Hv H → Same Hv Hv' → (∀ b o, F b → H b = some o → H' b = some o) → rep s ad F Hv' H'
  less : ∀ {s ad F Hv Hv' H}, flat s = true → rep s ad F Hv H → Less Hv Hv' → rep s ad F Hv' H
  dom : ∀ {s ad F Hv H b}, rep s ad F Hv H → F b → ∃ o, H b = some o ∧ ∀ vs, o ≠ .tup vs
  lck : ∀ {s ad F Hv Hv' H H'}, rep s ad F Hv H → Lck Hv Hv' → (∀ b o, F b → H b = some o → ∃ o', H' b = some o' ∧ DLk o o') → rep s ad F Hv' H'
  T : List (Addr × Str)
  tabs : ∀ {s ad F Hv H}, rep s ad F Hv H → ∀ p ∈ T, TabF F H p.1 p.2
  grow : ∀ {s ad F F' Hv H H'}, rep s ad F Hv H → (∀ x, F x → F' x) → (∀ b o, F b → H b = some o → (∀ ps, o ≠ .tbl ps) → H' b = some o) → (∀ p ∈ T, TabF F' H' p.1 p.2) → (∀ x, F' x → ∃ o, H' x = some o ∧ ∀ vs, o ≠ .tup vs) → rep s ad F' Hv H'
structure Pt {K : PySem.W.Frag} (M : WM K) where
  s : M.S
  F : Addr → Prop
  Hv : Hp
  H : Hp
  ad : Nat → Option Addr
section
variable {K : PySem.W.Frag} {M : WM K}
structure Pt.Ok (p : Pt M) : Prop where
  view : Same p.Hv p.H
  off : ∀ b, p.F b → p.Hv b = none
  rep : M.rep p.s p.ad p.F p.Hv p.H
def TpAt (H : Hp) (b : Addr) : Prop := ∃ vs, H b = some (.tup vs)
structure Ext (p q : Pt M) : Prop where
  view : Same p.Hv q.Hv
  frame : ∀ b o, p.H b = some o → ¬ p.F b → q.H b = some o
  new : ∀ b o, q.Hv b = some o → (∃ o', p.Hv b = some o') ∨ p.H b = none ∨ p.F b ∨ TpAt p.H b
  foot : ∀ b, q.F b → p.F b ∨ p.H b = none
  ad : ∀ n a, p.ad n = some a → q.ad n = some a
theorem Ext.refl (p : Pt M) : Ext p p := ⟨Same.rfl', fun _ _ h _ => h, fun b o h => .inl ⟨o, h⟩, fun _ h => .inl h, fun _ _ h => h⟩
theorem tp_back {p q : Pt M} (fr : ∀ b o, p.H b = some o → ¬ p.F b → q.H b = some o) {b : Addr} (z : TpAt q.H b) : p.H b = none ∨ p.F b ∨ TpAt p.H b := by
  obtain ⟨vs, z⟩ := z
  cases e : p.H b with
  | none => exact .inl rfl
  | some u =>
    by_cases f : p.F b
    · exact .inr (.inl f)
    · have h := fr b u e f
      rw [z] at h
      cases h
      exact .inr (.inr ⟨vs, e⟩)
theorem Ext.trans {p q r : Pt M} (a : Ext p q) (b : Ext q r) : Ext p r where
  view := a.view.tr b.view
  frame := fun c o h n => b.frame c o (a.frame c o h n) fun z => (a.foot c z).elim n fun z' => by rw [h] at z'; cases z'
  new := fun c o h => by
    rcases b.new c o h with ⟨o', h1⟩ | h1 | h1 | h1
    · exact a.new c o' h1
    · cases e : p.H c with
      | none => exact .inr (.inl rfl)
      | some u =>
        refine .inr (.inr (.inl (Classical.byContradiction fun n => ?_)))
        rw [a.frame c u e n] at h1; cases h1
    · rcases a.foot c h1 with z | z
      · exact .inr (.inr (.inl z))
      · exact .inr (.inl z)
    · exact .inr (tp_back a.frame h1)
  foot := fun c h => by
    rcases b.foot c h with z | z
    · exact a.foot c z
    · cases e : p.H c with
      | none => exact .inr rfl
      | some u =>
        refine .inl (Classical.byContradiction fun n => ?_)
        rw [a.frame c u e n] at z; cases z
  ad := fun n a' h => b.ad n a' (a.ad n a' h)
theorem Ext.den {p q : Pt M} (e : Ext p q) {d : D} {v : V} (h : Den K p.ad p.Hv d v) : Den K q.ad q.Hv d v := h.mono e.view e.ad
theorem Pt.Ok.fn {p : Pt M} (ok : p.Ok) {a : Addr} (h : p.H a = none) : ¬ p.F a := fun z => by
  obtain ⟨o, e, _⟩ := M.dom ok.rep z
  rw [h] at e; cases e
inductive R where
  | sh (d : D) | fr (d : D)
def R.d : R → D
  | .sh d => d
  | .fr d => d
def HoDen (K : PySem.W.Frag) (ad : Nat → Option Addr) (Hv : Hp) : HO → D → Prop
  | .lst vs, .lst ds => DenL K ad Hv ds vs
  | .dK vs, .dk ds => DenK K ad Hv ds vs
  | .dT vs, .dt ds => DenT K ad Hv ds vs
  | _, _ => False
theorem HoDen.mono {ad ad' : Nat → Option Addr} {Hv Hv' : Hp} (hs : Same Hv Hv') (ha : ∀ n a, ad n = some a → ad' n = some a) {o : HO} {d : D} (h : HoDen K ad Hv o d) : HoDen K ad' Hv' o d := by
  cases o <;> cases d <;> first | exact False.elim h | exact DenL.mono hs ha h | exact DenK.mono hs ha h | exact DenT.mono hs ha h
theorem HoDen.den {ad : Nat → Option Addr} {Hv : Hp} {a : Addr} {o : HO} {d : D} (h : HoDen K ad Hv o d) (e : Hv a = some o) : Den K ad Hv d (.ref a) := by
  cases o <;> cases d <;> first | exact False.elim h | exact ⟨a, _, rfl, e, h⟩ | exact ⟨a, _, rfl, .inl e, h⟩
def ROk (p q : Pt M) : R → V → Prop
  | .sh d, v => Den K q.ad q.Hv d v
  | .fr d, v => ∃ a o, v = .ref a ∧ q.H a = some o ∧ q.Hv a = none ∧ ¬ q.F a ∧ (p.H a = none ∨ p.F a) ∧ HoDen K q.ad q.Hv o d
structure Exc where
  cls : Str
  fs : List (Str × D)
def XOk (mg : Str → Option Value) (q : Pt M) (x : Exc) (cls : Value) (dd : Option Addr) : Prop :=
  mg x.cls = some cls ∧ ∃ d fv, dd = some d ∧ q.H d = some (.xd fv) ∧ ¬ q.F d ∧ ∀ f y, x.fs.lookup f = some y → ∃ v, fv.lookup f = some v ∧ Den K q.ad q.Hv y v
theorem XOk.ext {mg : Str → Option Value} {q r : Pt M} (e : Ext q r) {x : Exc} {cls : Value} {dd : Option Addr} (h : XOk mg q x cls dd) : XOk mg r x cls dd := by
  obtain ⟨h1, d, fv, h2, h3, h4, h5⟩ := h
  refine ⟨h1, d, fv, h2, e.frame _ _ h3 h4, fun z => ?_, fun f y l => ?_⟩
  · rcases e.foot d z with z | z
    · exact h4 z
    · rw [h3] at z; cases z
  · obtain ⟨v, l1, l2⟩ := h5 f y l
    exact ⟨v, l1, e.den l2⟩
variable (mg : Str → Option Value) (M)
abbrev Sl := List (Option V)
abbrev Dv := List (Option D)
abbrev Gx (α : Type) := G (Exc × M.S) (α × M.S)
abbrev Ev (α : Type) := Dv → M.S → Gx M α
structure EnvD (p : Pt M) (σ : Sl) (ρ : Dv) : Prop where
  len : σ.length = ρ.length
  get : ∀ (i : Nat) (d : D), ρ[i]? = some (some d) → ∃ v, σ[i]? = some (some v) ∧ Den K p.ad p.Hv d v
def XEnd (p : Pt M) (W : WX) (σ : Sl) : Exc × M.S → Prop := fun x => ∀ cls dd (q : Pt M), Ext p q → q.Ok → q.s = x.2 → XOk mg q x.1 cls dd → W cls dd σ q.H
def tG {α : Type} (W : WX) (T : Pt M → α → V → Pt M → Prop) (ee : Ev M α) : TE := fun σ H Q => ∃ (ρ : Dv) (p : Pt M), p.H = H ∧ p.Ok ∧ EnvD M p σ ρ ∧
  (ee ρ p.s).all (fun r => ∀ v (q : Pt M), Ext p q → q.Ok → q.s = r.2 → T p r.1 v q → Q v q.H) (XEnd M mg p W σ)
abbrev tD (W : WX) (ee : Ev M D) : TE := tG M mg W (fun _ d v q => Den K q.ad q.Hv d v) ee
def tB' (W : WX) (ee : Ev M Bool) : TT := fun σ H Q => ∃ (ρ : Dv) (p : Pt M), p.H = H ∧ p.Ok ∧ EnvD M p σ ρ ∧
  (ee ρ p.s).all (fun r => ∀ (q : Pt M), Ext p q → q.Ok → q.s = r.2 → Q r.1 q.H) (XEnd M mg p W σ)
def tA (W : WX) (ee : Ev M (List D)) : TA := fun σ H Q => ∃ (ρ : Dv) (p : Pt M), p.H = H ∧ p.Ok ∧ EnvD M p σ ρ ∧
  (ee ρ p.s).all (fun r => ∀ vs (q : Pt M), Ext p q → q.Ok → q.s = r.2 → DenL K q.ad q.Hv r.1 vs → Q vs q.H) (XEnd M mg p W σ)
def spV (n : Nat) (f : List D → M.S → Gx M R) : Sp := fun vs H Q E => ∃ (ds : List D) (p : Pt M), vs.length = n ∧ p.H = H ∧ p.Ok ∧ DenL K p.ad p.Hv ds vs ∧
  (f ds p.s).all (fun r => ∀ v (q : Pt M), Ext p q → q.Ok → q.s = r.2 → ROk p q r.1 v → Q v q.H) (fun x => ∀ cls dd (q : Pt M), Ext p q → q.Ok → q.s = x.2 → XOk mg q x.1 cls dd → E cls dd q.H)
end
section
variable {K : PySem.W.Frag} {M : WM K} {mg : Str → Option Value}
theorem EnvD.ext {p q : Pt M} {σ : Sl} {ρ : Dv} (e : Ext p q) (h : EnvD M p σ ρ) : EnvD M q σ ρ := ⟨h.len, fun i d hd => by
  obtain ⟨v, h1, h2⟩ := h.get i d hd
  exact ⟨v, h1, e.den h2⟩⟩
theorem XEnd.ext {p q : Pt M} {W : WX} {σ : Sl} {x : Exc × M.S} (e : Ext p q) (h : XEnd M mg p W σ x) : XEnd M mg q W σ x :=
  fun cls dd r e2 ok es xk => h cls dd r (e.trans e2) ok es xk
theorem tG.seq {α β : Type} {W : WX} {T : Pt M → α → V → Pt M → Prop} {ea : Ev M α} {k : α × M.S → Gx M β} {σ : Sl} {ρ : Dv} {p : Pt M} {Q : VK} {Q' : β × M.S → Prop} (ok : p.Ok) (en : EnvD M p σ ρ)
    (h : ((ea ρ p.s).bind k).all Q' (XEnd M mg p W σ))
    (hk : ∀ r v (q : Pt M), Ext p q → q.Ok → q.s = r.2 → T p r.1 v q → (k r).all Q' (XEnd M mg p W σ) → Q v q.H) : tG M mg W T ea σ p.H Q :=
  ⟨ρ, p, rfl, ok, en, G.all_mono (fun r hr v q e ok' es t => hk r v q e ok' es t hr) (fun _ hx => hx) (G.all_bind.mp h)⟩
theorem tA.seq {β : Type} {W : WX} {ea : Ev M (List D)} {k : List D × M.S → Gx M β} {σ : Sl} {ρ : Dv} {p : Pt M} {Q : List V → Hp → Prop} {Q' : β × M.S → Prop} (ok : p.Ok) (en : EnvD M p σ ρ)
    (h : ((ea ρ p.s).bind k).all Q' (XEnd M mg p W σ))
    (hk : ∀ r vs (q : Pt M), Ext p q → q.Ok → q.s = r.2 → DenL K q.ad q.Hv r.1 vs → (k r).all Q' (XEnd M mg p W σ) → Q vs q.H) : tA M mg W ea σ p.H Q :=
  ⟨ρ, p, rfl, ok, en, G.all_mono (fun r hr v q e ok' es t => hk r v q e ok' es t hr) (fun _ hx => hx) (G.all_bind.mp h)⟩
theorem tB'.seq {β : Type} {W : WX} {ea : Ev M Bool} {k : Bool × M.S → Gx M β} {σ : Sl} {ρ : Dv} {p : Pt M} {Q : Bool → Hp → Prop} {Q' : β × M.S → Prop} (ok : p.Ok) (en : EnvD M p σ ρ)
    (h : ((ea ρ p.s).bind k).all Q' (XEnd M mg p W σ))
    (hk : ∀ r (q : Pt M), Ext p q → q.Ok → q.s = r.2 → (k r).all Q' (XEnd M mg p W σ) → Q r.1 q.H) : tB' M mg W ea σ p.H Q :=
  ⟨ρ, p, rfl, ok, en, G.all_mono (fun r hr q e ok' es => hk r q e ok' es hr) (fun _ hx => hx) (G.all_bind.mp h)⟩
end
section
variable {X : Cx} {M : WM X.K} {W : WX} {e a b : Expr} {es rest : List Expr} {pos : Pos} {ea eb : Ev M D} {er : Ev M R} {el : Ev M (List D)}
theorem ROk.tr {K : PySem.W.Frag} {M : WM K} {p q r : Pt M} (e : Ext p q) (e2 : Ext q r) {x : R} {v : V} (h : ROk q r x v) : ROk p r x v := by
  cases x with
  | sh d => exact h
  | fr d =>
    obtain ⟨a, o, h1, h2, h3, h4, h5, h6⟩ := h
    refine ⟨a, o, h1, h2, h3, h4, ?_, h6⟩
    rcases h5 with h5 | h5
    · cases z : p.H a with
      | none => exact .inl rfl
      | some u =>
        refine .inr (Classical.byContradiction fun n => ?_)
        rw [e.frame a u z n] at h5; cases h5
    · exact (e.foot a h5).symm
variable {ta tb tc : Ev M Bool}
structure DefOk (P : Program) (w : World) (K : PySem.W.Frag) (mg : Str → Option Value) (base : Heap) (M : WM K) (k : Nat) (x : Str) (n : Nat) (fs : List D → M.S → Gx M R) (dfl : List D) : Prop where
  ex : ∃ (f : Addr) (fd : FuncData) (ps : List Str) (ds : List Value) (dvs : List V), FnOk P w K mg base (L2.CX P w) k f fd ps (spV M mg n fs) ∧ mg x = some (.ref f) ∧ PySem.W.keepIn K (.ref f) = true ∧ Binds K fd ps ds ∧ Vals dvs ds ∧ ∀ ad Hv, DenL K ad Hv dfl dvs
end
section
variable {K : PySem.W.Frag} {M : WM K}
mutual
def pl : Nat → D → Bool
  | _, .non => true
  | _, .bl _ => true
  | _, .int _ => true
  | _, .str s => s.all fun c => decide (c < 1114112)
  | n + 1, .tup l => plL n l
  | n + 1, .lst l => plL n l
  | _, _ => false
def plL : Nat → List D → Bool
  | _, [] => true
  | n, d :: ds => pl n d && plL n ds
end
end
section
variable {K : PySem.W.Frag} {ad : Nat → Option Addr} {Hv : Hp}
theorem DenL.at_ {ds : List D} {vs : List V} {i : Int} {d : D} (h : DenL K ad Hv ds vs) (e : atI ds i = some d) : ∃ v, atI vs i = some v ∧ Den K ad Hv d v := by
  unfold atI at e ⊢
  rw [h.length]
  cases z : ixN ds.length i with
  | none => rw [z] at e; cases e
  | some j =>
    rw [z] at e
    obtain ⟨v, h1, h2⟩ := h.get (i := j) (d := d) e
    exact ⟨v, h1, h2⟩
theorem den_strs : ∀ l : List (List Nat), DenL K ad Hv (l.map D.str) ((l.map fun l => (⟨l.toArray⟩ : Str)).map V.str)
  | [] => rfl
  | _ :: l => ⟨_, _, rfl, rfl, den_strs l⟩
end
inductive Ty where
  | int | str | bool | list | tuple | dict
  deriving DecidableEq
def Ty.nm : Ty → String
  | .int => "int"
  | .str => "str"
  | .bool => "bool"
  | .list => "list"
  | .tuple => "tuple"
  | .dict => "dict"
inductive VV where
  | sh (d : D) | ow (d : D)
def VV.d : VV → D
  | .sh d => d
  | .ow d => d
abbrev Nv := List (Option VV)
def view1 (m : List Nat) (i : Nat) : Option VV → Option D
  | some (.sh d) => some d
  | some (.ow d) => if m.contains i then some d else none
  | none => none
def viewG (m : List Nat) : Nat → Nv → Dv
  | _, [] => []
  | i, o :: r => view1 m i o :: viewG m (i + 1) r
def view (m : List Nat) (ρ : Nv) : Dv := viewG m 0 ρ
def frz1 (m : List Nat) (i : Nat) : Option VV → Option VV
  | some (.ow d) => if m.contains i then some (.sh d) else some (.ow d)
  | o => o
def frzG (m : List Nat) : Nat → Nv → Nv
  | _, [] => []
  | i, o :: r => frz1 m i o :: frzG m (i + 1) r
def frz (m : List Nat) (ρ : Nv) : Nv := frzG m 0 ρ
section
variable {K : PySem.W.Frag} {M : WM K} {mg : Str → Option Value}
open Classical
structure Rel (en : Pt M) (ρ : Nv) (σ : Sl) (p : Pt M) : Prop where
  ok : p.Ok
  ext : Ext en p
  len : σ.length = ρ.length
  sh : ∀ (i : Nat) d, ρ[i]? = some (some (.sh d)) → ∃ v, σ[i]? = some (some v) ∧ Den K p.ad p.Hv d v
  ow : ∀ (i : Nat) d, ρ[i]? = some (some (.ow d)) → ∃ a o, σ[i]? = some (some (.ref a)) ∧ p.H a = some o ∧ p.Hv a = none ∧ ¬ p.F a ∧ (en.H a = none ∨ en.F a) ∧ HoDen K p.ad p.Hv o d
  dis : ∀ (i j : Nat) d d' a, i ≠ j → ρ[i]? = some (some (.ow d)) → ρ[j]? = some (some (.ow d')) → σ[i]? = some (some (.ref a)) → σ[j]? ≠ some (some (.ref a))
def OwnAt (ρ : Nv) (σ : Sl) (m : List Nat) (a : Addr) : Prop := ∃ (i : Nat) (d : D), i ∈ m ∧ ρ[i]? = some (some (.ow d)) ∧ σ[i]? = some (some (.ref a))
noncomputable def Pt.cls (q : Pt M) (ρ : Nv) (σ : Sl) (m : List Nat) : Pt M := ⟨q.s, q.F, fun b => if OwnAt ρ σ m b then none else q.Hv b, q.H, q.ad⟩
section
variable {en p q : Pt M} {ρ : Nv} {σ : Sl} {m : List Nat} {r : R} {v : V}
theorem Rel.at_ (h : Rel en ρ σ p) {a : Addr} (o : OwnAt ρ σ m a) : ∃ d u, p.H a = some u ∧ p.Hv a = none ∧ ¬ p.F a ∧ (en.H a = none ∨ en.F a) ∧ HoDen K p.ad p.Hv u d := by
  obtain ⟨i, d, _, h1, h2⟩ := o
  obtain ⟨a', u, e, h3⟩ := h.ow i d h1
  rw [h2] at e; cases e
  exact ⟨d, u, h3⟩
def R.vv : R → VV
  | .sh d => .sh d
  | .fr d => .ow d
end
end
inductive Fl where
  | nx (ρ : Nv) | rt (r : R) | bk (ρ : Nv) | ct (ρ : Nv)
section
variable {K : PySem.W.Frag} (M : WM K) (mg : Str → Option Value)
abbrev Xs := Exc × Nv × M.S
abbrev Gs := G (Xs M) (Fl × M.S)
abbrev Sv := Nv → M.S → Gs M
def SEnd (en : Pt M) (Dd : Ends) : Fl × M.S → Prop
  | (.nx ρ, s) => ∀ σ (q : Pt M), Rel en ρ σ q → q.s = s → Dd.nx σ q.H
  | (.bk ρ, s) => ∀ σ (q : Pt M), Rel en ρ σ q → q.s = s → Dd.bk σ q.H
  | (.ct ρ, s) => ∀ σ (q : Pt M), Rel en ρ σ q → q.s = s → Dd.ct σ q.H
  | (.rt r, s) => ∀ v (q : Pt M), Ext en q → q.Ok → q.s = s → ROk en q r v → Dd.rt v q.H
def XSEnd (en : Pt M) (W : WX) : Xs M → Prop := fun x => ∀ cls dd σ (q : Pt M), Rel en x.2.1 σ q → q.s = x.2.2 → XOk mg q x.1 cls dd → W cls dd σ q.H
def tS (W : WX) (ss : Sv M) : TS := fun Dd σ H => ∃ (en : Pt M) (ρ : Nv) (p : Pt M), p.H = H ∧ Rel en ρ σ p ∧ (ss ρ p.s).all (SEnd M en Dd) (XSEnd M mg en W)
variable {M}
def startE (n : Nat) (ds : List D) : Nv := (ds.map fun d => some (.sh d)) ++ List.replicate (n - ds.length) none
def runD (n : Nat) (ss : Sv M) : List D → M.S → Gx M R := fun ds s => (((ss (startE n ds) s).exs fun x => (x.1, x.2.2)).bind fun f => match f with
  | (.nx _, s') => .ret (.sh .non, s')
  | (.rt r, s') => .ret (r, s')
  | _ => .bad)
end
section
variable {X : Cx} {M : WM X.K} {W : WX} {en : Pt M} {e a b : Expr} {es rest : List Expr} {pos : Pos} {ea eb : Ev M D} {er : Ev M R} {ec : Ev M Bool} {el : Ev M (List D)} {m : List Nat}
variable {st : Stmt} {sts : List Stmt} {sa sb : Sv M}
theorem start_rel {N : List Str} {p : Pt M} {ds : List D} {vs : List V} (ok : p.Ok) (h : DenL X.K p.ad p.Hv ds vs) (hl : vs.length ≤ N.length) : Rel p (startE N.length ds) (L2.start N vs) p := by
  have hlen := h.length
  have get : ∀ (i : Nat) vv, (startE N.length ds)[i]? = some (some vv) → ∃ d, ds[i]? = some d ∧ vv = .sh d := fun i vv e => by
    unfold startE at e
    by_cases hi : i < ds.length
    · rw [List.getElem?_append_left (by simpa using hi), List.getElem?_map] at e
      cases z : ds[i]? with
      | none => rw [z] at e; cases e
      | some d => rw [z] at e; cases e; exact ⟨d, rfl, rfl⟩
    · rw [List.getElem?_append_right (by simpa using hi), List.getElem?_replicate] at e
      split at e <;> cases e
  refine ⟨ok, Ext.refl p, ?_, fun i d e => ?_, fun i d e => ?_, fun i j d d' a _ e => ?_⟩
  · unfold L2.start startE; simp [hlen]
  · obtain ⟨d', h1, h2⟩ := get i _ e
    cases h2
    obtain ⟨v, h3, h4⟩ := h.get h1
    refine ⟨v, ?_, h4⟩
    have hi : i < vs.length := (List.getElem?_eq_some_iff.mp h3).1
    unfold L2.start
    rw [List.getElem?_append_left (by simpa using hi), List.getElem?_map, h3]; rfl
  · obtain ⟨_, _, h2⟩ := get i _ e; cases h2
  · obtain ⟨_, _, h2⟩ := get i _ e; cases h2
end
section
variable {P : Program} {w : World} {K : PySem.W.Frag} {mg : Str → Option Value} {base : Heap} {M : WM K}
theorem def_ok {x qual : Str} {st : Stmt} {f : Addr} {fd : FuncData} {N ps : List Str} {k n : Nat} {ss : Sv M} (F : Fun K x qual st f fd) (S : FnScope N ps (defScope st)) (hn : ps.length = n) (hle : n ≤ N.length)
    (hbody : ∀ (cdv : Value) (A : Around) (outer : List Env) (s : Shared) (H : Hp) (E : XK), Room k (A.deeper (envOfC qual (defScope st) s.heap.objs.size f cdv)) →
      Takes (cxOf (L2.CX P w) P w K mg base N qual (defScope st) f cdv A outer s H E) (fun cls d _ H => E cls d H) →
      PSs (cxOf (L2.CX P w) P w K mg base N qual (defScope st) f cdv A outer s H E) (defBody st) (tS M mg (fun cls d _ H => E cls d H) ss)) : FnOk P w K mg base (L2.CX P w) (k + 1) f fd ps (spV M mg n (runD N.length ss)) := by
  refine F.okX S (fun vs H Q E h => ?_) (fun cdv A outer s H vs Q E hr h => ?_)
  · obtain ⟨ds, p, h1, _⟩ := h
    rw [h1, hn]
  · obtain ⟨ds, p, h1, hH, ok, hd, hq⟩ := h
    subst hH
    refine ⟨_, hbody cdv A outer s p.H E hr (takes_of rfl rfl rfl rfl), p, startE N.length ds, p, rfl, ?_, ?_⟩
    · exact start_rel (X := cxOf (L2.CX P w) P w K mg base N qual (defScope st) f cdv A outer s p.H E) (M := M) ok hd (by omega)
    · refine G.all_mono (fun fl hf => ?_) (fun x hx => ?_) (G.all_exs.mp (G.all_bind.mp hq))
      · obtain ⟨fl, s1⟩ := fl
        cases fl with
        | nx ρ => exact fun σ q rl es => hf .non q rl.ext rl.ok es rfl
        | rt r => exact fun v q e ok es rk => hf v q e ok es rk
        | bk ρ => exact hf.elim
        | ct ρ => exact hf.elim
      · exact fun cls dd σ q rl es xk => hx cls dd q rl.ext rl.ok es xk
end
def ItrM (k : Bool) (h : Heap) (it a : Addr) (i : Nat) : Prop := match k with
  | true => h.IsListIter it a i
  | false => h.IsTupleIter it a i
theorem ItrM.keep {k : Bool} {h h' : Heap} {it a : Addr} {i : Nat} (st : ItrM k h it a i) (hk : ∀ o, h.get? it = some o → h'.get? it = some o) : ItrM k h' it a i := by
  cases k with
  | false => exact Heap.IsTupleIter.at st hk
  | true => exact Heap.IsListIter.at st hk
structure BagAt (H : Hp) (b l : Addr) : Prop where
  ne : b ≠ l
  at_ : ∃ (ns : List Int) (c g st k : Int), H b = some (.lst [.ref l, .int c, .int g, .int st, .int k]) ∧ H l = some (.lst (ns.map V.int)) ∧ ns.length ≤ 63 ∧ 0 ≤ c ∧ c ≤ ns.length ∧ 0 ≤ g ∧ 0 ≤ st ∧ st < 2147483629
structure IW (K : PySem.W.Frag) where
  S : Type
  rep : S → (Nat → Option Addr) → (Addr → Prop) → Hp → Hp → Prop
  flat : S → Bool
  stay : ∀ {s ad F Hv Hv' H H'}, rep s ad F Hv H → Same Hv Hv' → (∀ b o, F b → H b = some o → H' b = some o) → rep s ad F Hv' H'
  less : ∀ {s ad F Hv Hv' H}, flat s = true → rep s ad F Hv H → Less Hv Hv' → rep s ad F Hv' H
  nt : ∀ {s ad F Hv H b}, rep s ad F Hv H → F b → ∀ ps, H b ≠ some (.tbl ps)
  lck : ∀ {s ad F Hv Hv' H H'}, rep s ad F Hv H → Lck Hv Hv' → (∀ b o, F b → H b = some o → ∃ o', H' b = some o' ∧ DLk o o') → rep s ad F Hv' H'
structure InnerOk {K : PySem.W.Frag} (I : IW K) (s : I.S) (ad : Nat → Option Addr) (b l : Addr) (F FI : Addr → Prop) (Hv H : Hp) : Prop where
  sub : ∀ x, FI x → F x ∧ x ≠ b ∧ x ≠ l
  rep : I.rep s ad FI Hv H
def bagW (K : PySem.W.Frag) (b l : Addr) (T : List (Addr × Str)) (I : IW K) : WM K where
  S := I.S
  rep := fun s ad F Hv H => ad 0 = some b ∧ F b ∧ F l ∧ (∀ p ∈ T, TabF F H p.1 p.2) ∧ BagAt H b l ∧ (∀ x, F x → ∃ o, H x = some o ∧ ∀ vs, o ≠ .tup vs) ∧ ∃ FI, InnerOk I s ad b l F FI Hv H
  flat := I.flat
  stay := fun {s ad F Hv Hv' H H'} ⟨hb, fb, fl, ht, ⟨ne, ns, c, g, st, k, h2, h3, h4⟩, hd, FI, hi⟩ hs hk => ⟨hb, fb, fl, fun p hp => by
    obtain ⟨o, ps, e1, e2, e3⟩ := ht p hp
    refine ⟨o, ps, hk _ _ o e1, e2, fun pos cv e => ?_⟩
    obtain ⟨c, c1, c2, c3⟩ := e3 pos cv e
    exact ⟨c, c1, hk _ _ c3 c2, c3⟩, ⟨ne, ns, c, g, st, k, hk _ _ fb h2, hk _ _ fl h3, h4⟩, fun x hx => by
    obtain ⟨o, e, n⟩ := hd x hx
    exact ⟨o, hk _ _ hx e, n⟩, FI, hi.sub, I.stay hi.rep hs fun x o hx e => hk x o (hi.sub x hx).1 e⟩
  less := fun hf ⟨hb, fb, fl, ht, hB, hd, FI, hi⟩ hl => ⟨hb, fb, fl, ht, hB, hd, FI, hi.sub, I.less hf hi.rep hl⟩
  dom := fun ⟨_, _, _, _, _, hd, _⟩ hx => hd _ hx
  lck := fun {s ad F Hv Hv' H H'} ⟨hb, fb, fl, ht, ⟨ne, ns, c, g, st, k, h2, h3, h4⟩, hd, FI, hi⟩ hs hk => by
    have keep : ∀ b o, F b → H b = some o → ¬ IsDc o → (∀ x u, o = .frz x u → ¬ IsDc u) → H' b = some o := fun b o fb e n n2 => by
      obtain ⟨o', h1, h2⟩ := hk b o fb e
      rw [← h2.eq n n2]; exact h1
    refine ⟨hb, fb, fl, fun p hp => ?_, ⟨ne, ns, c, g, st, k, keep _ _ fb h2 (fun z => z) (fun x u z => by cases z), keep _ _ fl h3 (fun z => z) (fun x u z => by cases z), h4⟩, fun x hx => ?_, FI, hi.sub, I.lck hi.rep hs fun x o hx e => hk x o (hi.sub x hx).1 e⟩
    · obtain ⟨o, ps, e1, e2, e3⟩ := ht p hp
      refine ⟨o, ps, keep _ _ o e1 (fun z => z) (fun x u z => by cases z), e2, fun pos cv e => ?_⟩
      obtain ⟨c, c1, c2, c3⟩ := e3 pos cv e
      exact ⟨c, c1, keep _ _ c3 c2 (fun z => by unfold LamX.CodeO at z; exact z) (fun x u z => by unfold LamX.CodeO at z; cases z), c3⟩
    · obtain ⟨o, e, n⟩ := hd x hx
      obtain ⟨o', e', d⟩ := hk x o hx e
      exact ⟨o', e', d.notup n⟩
  T := T
  tabs := fun ⟨_, _, _, ht, _⟩ => ht
  grow := fun {s ad F F' Hv H H'} ⟨hb, fb, fl, ht, ⟨ne, ns, c, g, st, k, h2, h3, h4⟩, hd, FI, hi⟩ hF hk hT hD => ⟨hb, hF _ fb, hF _ fl, hT, ⟨ne, ns, c, g, st, k, hk _ _ fb h2 (fun _ z => by cases z), hk _ _ fl h3 (fun _ z => by cases z), h4⟩, hD, FI, fun x hx => ⟨hF _ (hi.sub x hx).1, (hi.sub x hx).2⟩,
    I.stay hi.rep Same.rfl' fun x o hx e => hk x o (hi.sub x hx).1 e fun ps z => I.nt hi.rep hx ps (by rw [e, z])⟩
def pullS {S : Type} : List D → S → G (Exc × S) (R × S)
  | [.obj 0, .int n], s => if 0 < n ∧ n < 1073741824 then .draw n.toNat fun r => .ret (.sh (.int (r : Nat)), s) else .bad
  | _, _ => .bad
section
variable {K : PySem.W.Frag} {b l : Addr} {T : List (Addr × Str)} {I : IW K}
def bagL (l : Addr) (c g st k : Int) : List V := [.ref l, .int c, .int g, .int st, .int k]
structure BagIn (q : Pt (bagW K b l T I)) (ns : List Int) (c g st k : Int) : Prop where
  ok : q.Ok
  hb : q.H b = some (.lst (bagL l c g st k))
  hl : q.H l = some (.lst (ns.map V.int))
  h63 : ns.length ≤ 63
  c0 : 0 ≤ c
  c1 : c ≤ ns.length
  g0 : 0 ≤ g
  s0 : 0 ≤ st
  s1 : st < 2147483629
end
structure OverB (n : String) (bm : List Value) : Prop where
  ob : bm.contains (.type "object") = true
  ps : ∀ self, refuseLoop self "__setattr__" bm = pure ()
  nw : ∃ B i tl, ExcBaseFacts B n i tl ∧ ∀ Y : String, bm.contains (.type Y) = tl.contains (.type Y)
theorem OverB.cons {n : String} {bm : List Value} (h : OverB n bm) (c : Addr) : OverB n (.ref c :: bm) := by
  obtain ⟨B, i, tl, e, t⟩ := h.nw
  refine ⟨?_, fun self => ?_, B, i, tl, e, fun Y => ?_⟩
  · rw [List.contains_cons, h.ob, Bool.or_true]
  · rw [refuseLoop_ref]; exact h.ps self
  · rw [List.contains_cons, t]; rfl
theorem ov_ValueError : OverB "ValueError.__new__" [.type "ValueError", .type "Exception", .type "BaseException", .type "object"] := ⟨by decide +kernel, fun self => F.store_ValueError.passes self, _, _, _, F.excBase_ValueError, fun _ => rfl⟩
structure OexG (K : PySem.W.Frag) (C : Addr) : Prop where
  cls : ∃ n nm q N bs bm sn sub ab col dd k0 k1 k2 k3 k5, K.lookup C = some (excClassObj nm q C N bs bm true sn sub ab col dd k0 k1 k2 k3 k5 n) ∧ OverB n bm
  sa : PySem.W.findIn K (.ref C) "__setattr__" = some (some (.builtin "object.__setattr__"))
  exC : PySem.W.subIn K (.ref C) (.type "BaseException") = some true
  tyC : PySem.W.typeIn K (.ref C) = some (.type "type")
  kC : PySem.W.keepIn K (.ref C) = true
structure CFn (K : PySem.W.Frag) (C : Addr) (mc : Value) (m : Str) (f : Addr) : Prop where
  rd : ClX.CRead K C mc
  at_ : PySem.W.findCls K (.ref C) mc m = some (.val (.ref f))
  kp : PySem.W.keepIn K (.ref f) = true
abbrev FSpec := List (Str × (Nat ⊕ List Nat))
def fV (ys : List V) (p : Str × (Nat ⊕ List Nat)) : Str × V := (p.1, match p.2 with
  | .inl i => (ys[i]?).getD .non
  | .inr s => .str ⟨s.toArray⟩)
def spI (C : Addr) (n : Nat) (fl : FSpec) : Sp := fun vs H Q _ => ∃ a ys, vs = .ref a :: ys ∧ ys.length = n ∧ H a = some (exo a C none) ∧ ∀ dx, H dx = none → dx ≠ a → Q .non (upd (upd H dx (exd dx (fl.map (fV ys)))) a (exo a C (some dx)))
def spA (K : PySem.W.Frag) (ns : List Str) (n : Nat) (fl : FSpec) : Sp := fun vs H Q _ => ∃ a C ys, vs = .ref a :: ys ∧ ys.length = n ∧ OexG K C ∧ (∀ f ∈ ns, PySem.W.findIn K (.ref C) f = some none) ∧ H a = some (exo a C none) ∧
  ∀ dx, H dx = none → dx ≠ a → Q .non (upd (upd H dx (exd dx (fl.map (fV ys)))) a (exo a C (some dx)))
section
variable {X : Cx}
structure XcOk (P : Program) (w : World) (K : PySem.W.Frag) (mg : Str → Option Value) (base : Heap) (k : Nat) (x : Str) (n : Nat) (fl : FSpec) : Prop where
  ex : ∃ C fI fd ps, OexG K C ∧ PySem.W.findIn K (.ref C) "__init__" = some (some (.ref fI)) ∧ PySem.W.typeIn K (.ref fI) = some (.type "function") ∧ FnOk P w K mg base (CX P w) k fI fd ps (spI C n fl) ∧ L2.Binds K fd ps [] ∧ mg x = some (.ref C)
end
def TestOk (X : Cx) (t : Expr) (cs : List Value) : Prop := ∀ (a : Addr) (oe : Obj) (cls : Value) (pn : List (Addr × Obj)) (s : Shared) (σ : L2.St) (H : Hp) (b : Bool) (Q : Bool → Shared → Prop) (E : Value → Shared → Prop), L2.Inv (X.suite a ((a, oe) :: pn)) [] σ H s → s.heap.get? a = some oe → oe.cls = cls → PySem.W.exmAny X.K cls cs = some b →
  (∀ h', (∀ c o, s.heap.get? c = some o → h'.get? c = some o) → L2.Inv (X.suite a ((a, oe) :: pn)) [] σ H { s with heap := h' } → Q b { s with heap := h' }) →
  wpAny (model X.prog X.w) (X.A.mark (some (.ref a))) (eval t X.env) (fun c s1 => wpAny (model X.prog X.w) (X.A.mark (some (.ref a))) (excMatches (.ref a) c) Q E s1) E s
abbrev CTS := Addr → Value → Option Addr → TS
inductive HdsG (X : Cx) (n : Str) : List ExceptHandler → List (List Value × CTS) → Prop
  | nil : HdsG X n [] []
  | cons {t : Expr} {cs : List Value} {ts : CTS} {b₀ : Stmt} {suite : List Stmt} {pos' : Pos} {hds : List ExceptHandler} {l : List (List Value × CTS)} (hc : TestOk X t cs)
      (hsu : ∀ (a : Addr) (oe : Obj) (cls : Value) (d : Option Addr) (pn : List (Addr × Obj)), Zc cls d oe → (∃ vs, oe.data = .fields vs) → PSs (X.suite a ((a, oe) :: pn)) (b₀ :: suite) (ts a cls d)) (r : HdsG X n hds l) :
      HdsG X n (.ExceptHandler (some t) (some n) (b₀ :: suite) pos' :: hds) ((cs, ts) :: l)
def tXg (K : PySem.W.Frag) (a : Addr) (cls : Value) (d : Option Addr) (f : Str) (te : TE) : TE := fun σ H Q => te σ H fun x H1 => x = .ref a ∧ ∃ (C dd : Addr) (fs : List (Str × V)) (v : V), cls = .ref C ∧ XfC K C ∧ PySem.W.findIn K (.ref C) f = some none ∧ d = some dd ∧ H1 dd = some (.xd fs) ∧ fs.lookup f = some v ∧ Q v H1
end VQ
namespace VQ
open PySem PySem.Spec PyProof.Rows L2 LamX
structure LamRun (P : Program) (w : World) (K : PySem.W.Frag) (mg : Str → Option Value) (base : Heap) (fs : List Addr) (H : Hp) (h : Heap) (f c' : Addr) (q : Str) (k : Nat) (tl : XK → Hp → VK → Prop) : Prop where
  at_ : PySem.W.FnAt f h
  fn : H f = none
  ff : f ∉ fs
  run : ∀ (A : Around) (outer : List Env) (s1 : Shared) (HZ : Hp) (Q : VK) (E : XK), Room (k + 1) A → Env0 P w K mg base A outer s1 HZ → Un fs [] H HZ h s1.heap → HZ c' = some (CodeO c' q) → tl E HZ Q → codeAny (model P w) A (.call (.ref f) ⟨[], []⟩) (CR (L2.CX P w) outer P w HZ s1 Q E) s1
abbrev Cl := List (List Value × Option Str)
def tsOf (K : PySem.W.Frag) (g : Option Str) : CTS := fun a cls d => tRet (tTup2 (tCons (tXg K a cls d "called" (tVar 1)) (tCons (match g with
  | some f => tXg K a cls d f (tVar 1)
  | none => tC (.str "")) tNil)))
def clTs (K : PySem.W.Frag) (cl : Cl) : List (List Value × CTS) := cl.map fun p => (p.1, tsOf K p.2)
def MatchAt (K : PySem.W.Frag) (cls : Value) : Cl → Option Str → Prop
  | [], _ => False
  | (cs, g) :: r, f => (PySem.W.exmAny K cls cs = some true ∧ g = f) ∨ (PySem.W.exmAny K cls cs = some false ∧ MatchAt K cls r f)
abbrev Xt := List (Str × Option Str)
structure XtOk (K : PySem.W.Frag) (mg : Str → Option Value) (cl : Cl) (xt : Xt) : Prop where
  at_ : ∀ x f, xt.lookup x = some f → ∃ C, mg x = some (.ref C) ∧ XfC K C ∧ PySem.W.findIn K (.ref C) "called" = some none ∧ (∀ g, f = some g → PySem.W.findIn K (.ref C) g = some none) ∧ MatchAt K (.ref C) cl f
abbrev E00 : XK := fun _ _ _ => False
structure TriedDef (P : Program) (w : World) (K : PySem.W.Frag) (mg : Str → Option Value) (base : Heap) (g : Addr) (cl : Cl) : Prop where
  ex : ∃ (st : Stmt) (fd : FuncData) (h₀ : ExceptHandler) (hds : List ExceptHandler) (j0 j1 : Nat) (p0 p1 p2 p3 p4 p5 : Pos), Fun K "_law_tried" "_law_tried" st g fd ∧ FnScope ["_law_ask", "e"] ["_law_ask"] (defScope st) ∧ L2.Binds K fd ["_law_ask"] [] ∧ (defScope st).names.lookup ("_law_ask" : Str) = some .local ∧ (defScope st).names.lookup ("e" : Str) = some .local ∧
    defBody st = [.Try [.Return (some (.Tuple [.Constant (.str "told") j0 p0, .Call (.Name "_law_ask" p1) [] [] p2] j1 p3)) p4] (h₀ :: hds) [] [] p5] ∧
    ∀ (cdv : Value) (A : Around) (outer : List Env) (s : Shared) (H : Hp), HdsG (cxOf (L2.CX P w) P w K mg base ["_law_ask", "e"] "_law_tried" (defScope st) g cdv A outer s H E00) "e" (h₀ :: hds) (clTs K cl)
  glob : mg "_law_tried" = some (.ref g)
section
variable {P : Program} {w : World} {K : PySem.W.Frag} {mg : Str → Option Value} {base : Heap} {g f c' : Addr} {cl : Cl} {q : Str} {k : Nat} {tl : XK → Hp → VK → Prop}
structure WordDef (P : Program) (w : World) (K : PySem.W.Frag) (mg : Str → Option Value) (base : Heap) (g : Addr) : Prop where
  ex : ∃ (st : Stmt) (fd : FuncData) (j : Nat) (p1 p2 p3 p4 p5 p6 : Pos), Fun K "_law_word" "_law_word" st g fd ∧ FnScope ["_law_ask"] ["_law_ask"] (defScope st) ∧ L2.Binds K fd ["_law_ask"] [] ∧ (defScope st).names.lookup ("_law_ask" : Str) = some .local ∧ (defScope st).names.lookup ("_law_tried" : Str) = some .globalImplicit ∧
    defBody st = [.Return (some (.Subscript (.Call (.Name "_law_tried" p1) [.Name "_law_ask" p2] [] p3) (.Constant (.int 0) j p4) p5)) p6]
  glob : mg "_law_word" = some (.ref g)
end
section
variable {X : Cx} {M : WM X.K} {W : WX} {ee eT : Ev M D}
structure LamIn (X : Cx) (M : WM X.K) : Prop where
  ex : ∃ c P, TabB X.base X.mg c P ∧ X.env.code = .ref c ∧ (P, X.env.qual ++ "<lambda>") ∈ M.T ∧ ∀ r ∈ M.T, r.1 = P → r.2 = X.env.qual ++ "<lambda>"
end
end VQ
namespace VQ
open PySem PySem.Spec PyProof.Rows L2
structure GC (mg : Str → Option Value) (x : Str) (d : D) : Prop where
  ex : ∃ (v : V) (u : Value), mg x = some u ∧ RelV v u ∧ ∀ (K : PySem.W.Frag) (ad : Nat → Option Addr) (Hv : Hp), Den K ad Hv d v
theorem GC.int {mg : Str → Option Value} {x : Str} {i : Int} {t : Tok} (h : mg x = some (.int i t)) : GC mg x (.int i) := ⟨.int i, _, h, ⟨t, rfl⟩, fun _ _ _ => rfl⟩
section
variable {P : Program} {w : World} {K : PySem.W.Frag} {mg : Str → Option Value} {base : Heap} {M : WM K}
theorem DefOk.of {k : Nat} {f : Addr} {fd : FuncData} {ps : List Str} {x qual : Str} {st : Stmt} {n : Nat} {fs : List D → M.S → Gx M R} (F : Fun K x qual st f fd) (hm : mg x = some (.ref f)) (hb : L2.Binds K fd ps []) (h : FnOk P w K mg base (L2.CX P w) k f fd ps (spV M mg n fs)) : DefOk P w K mg base M k x n fs [] :=
  ⟨f, fd, ps, [], [], h, hm, F.kp, hb, .nil, fun _ _ => DenL.nil⟩
end
section
variable {P : Program} {w : World} {K : PySem.W.Frag} {mg : Str → Option Value} {base : Heap}
structure AboveOk (P : Program) (w : World) (K : PySem.W.Frag) (mg : Str → Option Value) (base : Heap) (k : Nat) (x : Str) : Prop where
  ex : ∃ C mc f fd, CFn K C mc "__init__" f ∧ mg x = some (.ref C) ∧ FnOk P w K mg base (L2.CX P w) k f fd ["self", "called"] (spA K ["called"] 1 [("called", .inl 0)]) ∧ L2.Binds K fd ["self", "called"] []
structure AboveOk2 (P : Program) (w : World) (K : PySem.W.Frag) (mg : Str → Option Value) (base : Heap) (k : Nat) (x : Str) : Prop where
  ex : ∃ C mc f fd, CFn K C mc "__init__" f ∧ mg x = some (.ref C) ∧ FnOk P w K mg base (L2.CX P w) k f fd ["self", "called", "name"] (spA K ["called", "name"] 2 [("name", .inl 1), ("called", .inl 0)]) ∧ L2.Binds K fd ["self", "called", "name"] []
end
end VQ
namespace VQ
open PySem PySem.Spec PyProof.Rows L2 LamX
section
variable {K : PySem.W.Frag} {mg : Str → Option Value} {cl : Cl} {xt : Xt}
theorem XtOk.nil : XtOk K mg cl [] := ⟨fun x f h => by cases h⟩
theorem XtOk.cons {x : Str} {f : Option Str} {C : Addr} (h1 : mg x = some (.ref C)) (h2 : XfC K C) (h3 : PySem.W.findIn K (.ref C) "called" = some none) (h4 : ∀ g, f = some g → PySem.W.findIn K (.ref C) g = some none) (h5 : MatchAt K (.ref C) cl f) (r : XtOk K mg cl xt) : XtOk K mg cl ((x, f) :: xt) := ⟨fun y g h => by
  have h' : (match y == x with | true => some f | false => xt.lookup y) = some g := h
  cases z : y == x with
  | true =>
    rw [z] at h'
    cases h'
    have e : y = x := by simpa using z
    rw [e]
    exact ⟨C, h1, h2, h3, h4, h5⟩
  | false => rw [z] at h'; exact r.at_ y g h'⟩
end
theorem walk_tab {l : PySem.W.OpenLaw} {n k : Nat} {q : Program} {loose : List Str} {XP : (Str → Option Value) → Heap → Prop} {YP : World → Heap → Prop} {d : DefRec} {K : Params → PySem.W.Frag} {CX : World → CXT} {x : Str}
    (hn : l.most = some n) (hn2 : n ≤ sizeLine) (hdf : d.params.defaults = []) (hr : Room k callerA) (hY : ∀ (w : World) (h : Heap), YP w h → (K w.params).In h) (hd0 : (PyProof.Rows.recsOf q).find? (fun e => e.name == d.name) = some d)
    (F : ∀ (w : World) (mg : Str → Option Value) (fa : Addr) (h : Heap), (K w.params).In h → h.Ns mainGlobals mg → mg d.name = some (.ref fa) → (∀ c P, PySem.W.tabIn (K w.params) d.name = some (c, P) → PySem.W.CodeHd h c P ∧ h.get? P = some { cls := .none, data := .fields #[] }) → LawAtS l w (K w.params) (CX w) k n x mg fa h)
    (hCX : ∀ (w : World) (H : Hp) (s : Shared) (e : Value) (s' : Shared), CX w [] H s (fun _ _ _ => False) e s' → False) :
    PySem.W.WalkO q loose XP YP l.row.toRowW d [] (fun f vs => PySem.call f vs) := by
  refine Att.attach_callB hn hdf fun w s₀ s₁ mg mb fa o pm cd doc a vs ns G Y ho hd hcd hmg hobj hints hlen hbits hg => ?_
  have KX := hY w _ Y
  obtain ⟨fd, cs, sp, hT, nT, C, hb, hsp, hF⟩ := F w mg fa _ KX G.T.g hmg fun c P ht => PySem.W.tab_of G.T KX hd0 ht
  exact law_callTs KX G.T.g G.T.b G.T.builtins G.T.nolimit hg hT nT C G.T.bmain hobj hints (Nat.le_trans hlen hn2) hr hF hb (fun H hH hS => hsp H a ns hlen hbits hH hS) fun H e s' => hCX w H s₁ e s'
theorem cx_none (P : Program) (w : World) (H : Hp) (s : Shared) (e : Value) (s' : Shared) : L2.CX P w [] H s (fun _ _ _ => False) e s' → False := fun ⟨_, _, _, _, _, _, _, _, _, _, _, _, h⟩ => h
structure Box (p : Prop) : Prop where
  out : p
structure LamS1 (a : Str) (sc scope : Scope) : Prop where
  kind : scope.kind = .function
  co : scope.isCoroutine = false
  gen : scope.isGenerator = false
  own : ∀ y ∈ scope.names, y.2 ≠ .cell ∧ (y.2 = .local → y.1 = a)
  free : ∀ y ∈ scope.names, y.2 = .free → sc.names.lookup y.1 = some .cell ∨ sc.names.lookup y.1 = some .free
  loc : scope.names.lookup a = some .local
end VQ
namespace VQ
open PySem PySem.Spec PyProof.Rows L2
section
variable {X : Cx} {M : WM X.K} {W : WX} {en : Pt M} {e a b : Expr} {pos : Pos} {ea eb : Ev M D} {er er2 : Ev M R} {m : List Nat}
theorem ROk.stay {p q r : Pt M} (e : Ext p q) (e2 : Ext q r) {x : R} {v : V} (h : ROk p q x v) : ROk p r x v := by
  cases x with
  | sh d => exact e2.den h
  | fr d =>
    obtain ⟨a, o, h1, h2, h3, h4, h5, h6⟩ := h
    refine ⟨a, o, h1, e2.frame a o h2 h4, ?_, fun z => ?_, h5, h6.mono e2.view e2.ad⟩
    · cases z : r.Hv a with
      | none => rfl
      | some u =>
        rcases e2.new a u z with ⟨o', z'⟩ | z' | z'
        · rw [h3] at z'; cases z'
        · rw [h2] at z'; cases z'
        · rcases z' with z' | ⟨_, z'⟩
          · exact absurd z' h4
          · rw [h2] at z'; cases z'; cases d <;> exact False.elim h6
    · rcases e2.foot a z with z | z
      · exact h4 z
      · rw [h2] at z; cases z
end
end VQ
namespace VK
abbrev Dfs {K : PySem.W.Frag} (M : VQ.WM K) := List VQ.D → M.S → VQ.Gx M VQ.R
end VK
namespace VQ
open PySem PySem.Spec PyProof.Rows L2 VK
structure Al {ε α : Type} (m : G ε α) (P : α → Prop) (E : ε → Prop) : Prop where
  out : m.all P E
namespace Al
variable {ε ε' α β : Type} {P : α → Prop} {E : ε → Prop}
theorem ret {a : α} (h : P a) : Al (.ret a : G ε α) P E := ⟨h⟩
theorem exc {e : ε} (h : E e) : Al (.exc e : G ε α) P E := ⟨h⟩
theorem draw {n : Nat} {k : Nat → G ε α} (h : 0 < n) (hk : ∀ r, r < n → Al (k r) P E) : Al (.draw n k) P E := ⟨⟨h, fun r hr => (hk r hr).out⟩⟩
theorem bind {m : G ε α} {f : α → G ε β} {P : β → Prop} (h : Al m (fun a => Al (f a) P E) E) : Al (m.bind f) P E := ⟨G.all_bind.mpr (G.all_mono (fun _ h => h.out) (fun _ h => h) h.out)⟩
theorem exs {m : G ε α} {g : ε → ε'} {E : ε' → Prop} (h : Al m P (fun e => E (g e))) : Al (m.exs g) P E := ⟨G.all_exs.mpr h.out⟩
theorem mono {m : G ε α} {P' : α → Prop} {E' : ε → Prop} (h : Al m P E) (hP : ∀ a, P a → P' a) (hE : ∀ e, E e → E' e) : Al m P' E' := ⟨G.all_mono hP hE h.out⟩
end Al
section
variable {K : PySem.W.Frag} {M : WM K} {a b : Sv M} {ρ : Nv} {s : M.S} {P : Fl × M.S → Prop} {E : Xs M → Prop} {er : Ev M R} {ea : Ev M D} {c : Ev M Bool} {i : Nat}
inductive All2 {α β : Type} (T : α → β → Prop) : List α → List β → Prop
  | nil : All2 T [] []
  | cons {a b l m} (h : T a b) (r : All2 T l m) : All2 T (a :: l) (b :: m)
theorem All2.len {α β : Type} {T : α → β → Prop} : ∀ {l : List α} {m : List β}, All2 T l m → m.length = l.length
  | _, _, .nil => rfl
  | _, _, .cons _ r => by simp [r.len]
end
end VQ
namespace VQ
open PySem PySem.Spec PyProof.Rows L2 ZS
def ItrK (k : Bool) (h : Heap) (it a : Addr) (i : Nat) : Prop := match k with
  | true => h.IsListIter it a i
  | false => h.IsTupleIter it a i
theorem ItrK.keep {k : Bool} {h h' : Heap} {it a : Addr} {i : Nat} (st : ItrK k h it a i) (hk : ∀ o, h.get? it = some o → h'.get? it = some o) : ItrK k h' it a i := by
  cases k with
  | false => exact Heap.IsTupleIter.at st hk
  | true => exact Heap.IsListIter.at st hk
end VQ
namespace VK
open PySem PySem.Spec PyProof.Rows L2 VQ
def b5 (i : Int) : List Nat := [48 + (i / 2 / 2 / 2 / 2 % 2).toNat, 48 + (i / 2 / 2 / 2 % 2).toNat, 48 + (i / 2 / 2 % 2).toNat, 48 + (i / 2 % 2).toNat, 48 + (i % 2).toNat]
def isSign (c : Nat) : Bool := c == 48 || c == 49
def beg (l : List Nat) : Bool := decide (l.length ≤ 5) && l.all isSign
end VK
namespace VQ
open PySem PySem.Spec PyProof.Rows L2
structure KwOk (P : Program) (w : World) (K : PySem.W.Frag) (mg : Str → Option Value) (base : Heap) (M : WM K) (k : Nat) (x : Str) (np : Nat) (ks : List Str) (n : Nat) (fs : List D → M.S → Gx M R) (g : List D → List D → List D) : Prop where
  ex : ∃ (f : Addr) (fd : FuncData) (ps : List Str) (gg : List Value → List Value → List Value) (gV : List V → List V → List V), FnOk P w K mg base (L2.CX P w) k f fd ps (spV M mg n fs) ∧ mg x = some (.ref f) ∧ PySem.W.keepIn K (.ref f) = true ∧ KBn K fd ps np ks gg gV ∧
    ∀ ad Hv (ds es : List D) (vs ws : List V), DenL K ad Hv ds vs → DenL K ad Hv es ws → ds.length = np → es.length = ks.length → DenL K ad Hv (g ds es) (gV vs ws)
section
variable {P : Program} {w : World} {K : PySem.W.Frag} {mg : Str → Option Value} {base : Heap} {M : WM K}
theorem KwOk.of {k np n : Nat} {f : Addr} {fd : FuncData} {ps ks : List Str} {x qual : Str} {st : Stmt} {fs : List D → M.S → Gx M R} (F : Fun K x qual st f fd) (hm : mg x = some (.ref f)) (hb : KBn K fd ps np ks (fun us ws => us ++ ws) (fun us ws => us ++ ws)) (h : FnOk P w K mg base (L2.CX P w) k f fd ps (spV M mg n fs)) :
    KwOk P w K mg base M k x np ks n fs (fun us ws => us ++ ws) := ⟨f, fd, ps, _, _, h, hm, F.kp, hb, fun _ _ _ _ _ _ h1 h2 _ _ => h1.append h2⟩
end
theorem GC.str {mg : Str → Option Value} {x z : Str} {l : List Nat} {t : Tok} (h : mg x = some (.str z t)) (hz : z = ⟨l.toArray⟩ := by decide +kernel) : GC mg x (.str l) := ⟨.str z, _, h, ⟨t, rfl⟩, fun _ _ _ => by subst hz; rfl⟩
inductive Cell where
  | ins (x : Str) (fs : List (Str × D))
  | lst (l : List D)
  | dk (l : List (Key × D))
  | dt (l : List (List Key × D))
  deriving Inhabited
abbrev Ost := List (Option Cell)
abbrev Ctab := List (Str × Addr)
def ftab : List (Str × List Str) := [("Store", ["places", "pile"]), ("Walker", ["leaves", "path", "past"]), ("Book", ["tables", "before", "later"]), ("Words", ["found", "spot", "end"]), ("Dive", ["asked", "walkers"]), ("Factor", ["over_names", "counts"]), ("Reader", ["house", "asked", "heard"]), ("Search", ["asked", "let", "chain", "covering"]), ("Keeper", ["asked", "house", "sheet", "stayed"])]
def flOk (x f : Str) : Bool := match ftab.lookup x with
  | some l => l.contains f
  | none => false
section
variable (K : PySem.W.Frag) (CT : Ctab)
def CellAt (ad : Nat → Option Addr) (F : Addr → Prop) (Hv H : Hp) (a : Addr) : Cell → Prop
  | .ins x fs => ∃ C dx fv, CT.lookup x = some C ∧ H a = some (.ins C dx fv) ∧ F dx ∧ H dx = some (.own a) ∧ fv.map (·.1) = fs.map (·.1) ∧ DenL K ad Hv (fs.map (·.2)) (fv.map (·.2)) ∧ ∀ f ∈ fs.map (·.1), flOk x f = true
  | .lst l => ∃ vs, H a = some (.lst vs) ∧ DenL K ad Hv l vs
  | .dk l => ∃ vs, Rd H a (.dK vs) ∧ DenK K ad Hv l vs
  | .dt l => ∃ vs, Rd H a (.dT vs) ∧ DenT K ad Hv l vs
structure ObjRep (s : Ost) (ad : Nat → Option Addr) (F : Addr → Prop) (Hv H : Hp) : Prop where
  lo : ∀ n, n < s.length → ∃ a, ad (n + 1) = some a
  hi : ∀ n, s.length ≤ n → ad (n + 1) = none
  inj : ∀ i j a, (∃ c, s[i]? = some (some c)) → (∃ c, s[j]? = some (some c)) → ad (i + 1) = some a → ad (j + 1) = some a → i = j
  at_ : ∀ n c, s[n]? = some (some c) → ∃ a, ad (n + 1) = some a ∧ F a ∧ CellAt K CT ad F Hv H a c
  nt : ∀ b, F b → ∃ o, H b = some o ∧ ∀ ps, o ≠ .tbl ps
end
mutual
def flatKs : List (Key × D) → Bool
  | [] => true
  | (_, d) :: r => flat d && flatKs r
end
def flatTs : List (List Key × D) → Bool
  | [] => true
  | (_, d) :: r => flat d && flatTs r
def flatC : Option Cell → Bool
  | none => true
  | some (.ins _ fs) => flatL (fs.map (·.2))
  | some (.lst l) => flatL l
  | some (.dk l) => flatKs l
  | some (.dt l) => flatTs l
section
variable {K : PySem.W.Frag} {ad ad' : Nat → Option Addr} {Hv Hv' : Hp}
theorem DenK.less (l : Less Hv Hv') : ∀ {ds : List (Key × D)} {vs : List (Key × V)}, flatKs ds = true → DenK K ad Hv ds vs → DenK K ad Hv' ds vs
  | [], _, _, h => h
  | (k, d) :: ds, _, f, ⟨v, r, e, h, t⟩ => by
    have f' : (flat d && flatKs ds) = true := f
    rw [Bool.and_eq_true] at f'
    exact ⟨v, r, e, Den.less l f'.1 h, DenK.less l f'.2 t⟩
theorem DenT.less (l : Less Hv Hv') : ∀ {ds : List (List Key × D)} {vs : List (List Key × V)}, flatTs ds = true → DenT K ad Hv ds vs → DenT K ad Hv' ds vs
  | [], _, _, h => h
  | (k, d) :: ds, _, f, ⟨v, r, e, h, t⟩ => by
    have f' : (flat d && flatTs ds) = true := f
    rw [Bool.and_eq_true] at f'
    exact ⟨v, r, e, Den.less l f'.1 h, DenT.less l f'.2 t⟩
variable {CT : Ctab} {F F' : Addr → Prop} {H H' : Hp} {a : Addr}
theorem rd_keep {H H' : Hp} {a : Addr} {u : HO} (hk : ∀ o, H a = some o → H' a = some o) (h : Rd H a u) : Rd H' a u := by
  rcases h with h | ⟨x, h⟩
  · exact .inl (hk _ h)
  · exact .inr ⟨x, hk _ h⟩
theorem CellAt.stay (hs : Same Hv Hv') (ha : ∀ n a, ad n = some a → ad' n = some a) (hF : ∀ x, F x → F' x) (fa : F a) (hk : ∀ b o, F b → (b = a ∨ H b = some (.own a)) → H b = some o → H' b = some o) : ∀ {c : Cell}, CellAt K CT ad F Hv H a c → CellAt K CT ad' F' Hv' H' a c
  | .ins x fs, ⟨C, dx, fv, h1, h2, h3, h4, h5, h6, h7⟩ => ⟨C, dx, fv, h1, hk _ _ fa (.inl rfl) h2, hF _ h3, hk _ _ h3 (.inr h4) h4, h5, h6.mono hs ha, h7⟩
  | .lst l, ⟨vs, h1, h2⟩ => ⟨vs, hk _ _ fa (.inl rfl) h1, h2.mono hs ha⟩
  | .dk l, ⟨vs, h1, h2⟩ => ⟨vs, rd_keep (fun o e => hk _ o fa (.inl rfl) e) h1, h2.mono hs ha⟩
  | .dt l, ⟨vs, h1, h2⟩ => ⟨vs, rd_keep (fun o e => hk _ o fa (.inl rfl) e) h1, h2.mono hs ha⟩
theorem rd_lck {H H' : Hp} {a : Addr} {u : HO} (d : IsDc u) (hk : ∀ o, H a = some o → ∃ o', H' a = some o' ∧ DLk o o') (h : Rd H a u) : Rd H' a u := by
  have l : Lck (fun b => if b = a then H a else none) (fun b => if b = a then H' a else none) := fun b o e => by
    by_cases z : b = a
    · subst z
      simp only [if_true] at e ⊢
      exact hk o e
    · simp only [if_neg z] at e; cases e
  have h0 : Rd (fun b => if b = a then H a else none) a u := by
    rcases h with h | ⟨x, h⟩
    · exact .inl (by simpa using h)
    · exact .inr ⟨x, by simpa using h⟩
  rcases l.rd (a := a) d h0 with h | ⟨x, h⟩
  · exact .inl (by simpa using h)
  · exact .inr ⟨x, by simpa using h⟩
theorem CellAt.lck (l : Lck Hv Hv') (fa : F a) (hk : ∀ b o, F b → H b = some o → ∃ o', H' b = some o' ∧ DLk o o') : ∀ {c : Cell}, CellAt K CT ad F Hv H a c → CellAt K CT ad F Hv' H' a c
  | .ins x fs, ⟨C, dx, fv, h1, h2, h3, h4, h5, h6, h7⟩ => by
    obtain ⟨o1, i1, i2⟩ := hk _ _ fa h2
    obtain ⟨o2, j1, j2⟩ := hk _ _ h3 h4
    exact ⟨C, dx, fv, h1, by rw [← i2.eq (fun z => z) (fun x u z => by cases z)]; exact i1, h3, by rw [← j2.eq (fun z => z) (fun x u z => by cases z)]; exact j1, h5, h6.lck l, h7⟩
  | .lst _, ⟨vs, h1, h2⟩ => by
    obtain ⟨o1, i1, i2⟩ := hk _ _ fa h1
    exact ⟨vs, by rw [← i2.eq (fun z => z) (fun x u z => by cases z)]; exact i1, h2.lck l⟩
  | .dk _, ⟨vs, h1, h2⟩ => ⟨vs, rd_lck trivial (fun o e => hk a o fa e) h1, h2.lck l⟩
  | .dt _, ⟨vs, h1, h2⟩ => ⟨vs, rd_lck trivial (fun o e => hk a o fa e) h1, h2.lck l⟩
theorem CellAt.less (hl : Less Hv Hv') : ∀ {c : Cell}, flatC (some c) = true → CellAt K CT ad F Hv H a c → CellAt K CT ad F Hv' H a c
  | .ins x fs, f, ⟨C, dx, fv, h1, h2, h3, h4, h5, h6, h7⟩ => ⟨C, dx, fv, h1, h2, h3, h4, h5, DenL.less hl f h6, h7⟩
  | .lst l, f, ⟨vs, h1, h2⟩ => ⟨vs, h1, DenL.less hl f h2⟩
  | .dk l, f, ⟨vs, h1, h2⟩ => ⟨vs, h1, DenK.less hl f h2⟩
  | .dt l, f, ⟨vs, h1, h2⟩ => ⟨vs, h1, DenT.less hl f h2⟩
end
def objI (K : PySem.W.Frag) (CT : Ctab) : IW K where
  S := Ost
  rep := ObjRep K CT
  flat := fun s => s.all flatC
  stay := fun h hs hk => ⟨h.lo, h.hi, h.inj, fun n c e => by
    obtain ⟨a, h1, h2, h3⟩ := h.at_ n c e
    exact ⟨a, h1, h2, h3.stay hs (fun _ _ z => z) (fun _ z => z) h2 fun b o fb _ z => hk b o fb z⟩, fun b fb => by
    obtain ⟨o, h1, h2⟩ := h.nt b fb
    exact ⟨o, hk _ _ fb h1, h2⟩⟩
  less := fun hf h hl => ⟨h.lo, h.hi, h.inj, fun n c e => by
    obtain ⟨a, h1, h2, h3⟩ := h.at_ n c e
    exact ⟨a, h1, h2, h3.less hl (List.all_eq_true.mp hf _ (List.mem_of_getElem? e))⟩, h.nt⟩
  nt := fun h hb ps z => by
    obtain ⟨o, h1, h2⟩ := h.nt _ hb
    rw [z] at h1; cases h1
    exact h2 ps rfl
  lck := fun h hs hk => ⟨h.lo, h.hi, h.inj, fun n c e => by
    obtain ⟨a, h1, h2, h3⟩ := h.at_ n c e
    exact ⟨a, h1, h2, h3.lck hs h2 hk⟩, fun b fb => by
    obtain ⟨o, h1, h2⟩ := h.nt b fb
    obtain ⟨o', i1, i2⟩ := hk _ _ fb h1
    refine ⟨o', i1, fun ps z => ?_⟩
    rcases i2 with i2 | ⟨_, x, i2⟩ | ⟨i2, _⟩
    · exact h2 ps (i2.symm.trans z)
    · rw [z] at i2; cases i2
    · rw [z] at i2; exact i2⟩
structure OM (K : PySem.W.Frag) where
  b : Addr
  l : Addr
  T : List (Addr × Str)
  CT : Ctab
abbrev OM.w {K : PySem.W.Frag} (M : OM K) : WM K := bagW K M.b M.l M.T (objI K M.CT)
section
variable {K : PySem.W.Frag} {M : WM K}
def HoR (K : PySem.W.Frag) (ad : Nat → Option Addr) (Hv : Hp) (o : HO) (d : D) : Prop := HoDen K ad Hv o d ∨ ∃ x u, o = .frz x u ∧ IsDc u ∧ HoDen K ad Hv u d
theorem HoR.mono {ad ad' : Nat → Option Addr} {Hv Hv' : Hp} (hs : Same Hv Hv') (ha : ∀ n a, ad n = some a → ad' n = some a) {o : HO} {d : D} (h : HoR K ad Hv o d) : HoR K ad' Hv' o d := by
  rcases h with h | ⟨x, u, e, i, h⟩
  · exact .inl (h.mono hs ha)
  · exact .inr ⟨x, u, e, i, h.mono hs ha⟩
theorem HoR.den {ad : Nat → Option Addr} {Hv : Hp} {a : Addr} {o : HO} {d : D} (h : HoR K ad Hv o d) (e : Hv a = some o) : Den K ad Hv d (.ref a) := by
  rcases h with h | ⟨x, u, rfl, i, h⟩
  · exact h.den e
  · cases u <;> cases d <;> first | exact False.elim h | exact False.elim i | exact ⟨a, _, rfl, .inr ⟨x, e⟩, h⟩
end
def CtOk (K : PySem.W.Frag) (CT : Ctab) : Prop := ∀ x C, CT.lookup x = some C → Cls K C ∧ ∀ f, flOk x f = true → NoAttr K C f
def clsAt (s : Ost) : D → Option Str
  | .obj (n + 1) => match s[n]? with
    | some (some (.ins x _)) => some x
    | _ => none
  | _ => none
structure MethOk (P : Program) (w : World) (K : PySem.W.Frag) (mg : Str → Option Value) (base : Heap) (M : OM K) (k : Nat) (x m : Str) (n : Nat) (fs : List D → M.w.S → Gx M.w R) (dfl : List D) : Prop where
  ex : ∃ (C f : Addr) (fd : FuncData) (ps : List Str) (ds : List Value) (dvs : List V), M.CT.lookup x = some C ∧ Meth K C m f ∧ FnOk P w K mg base (L2.CX P w) k f fd ps (spV M.w mg n fs) ∧ L2.Binds K fd ps ds ∧ Vals dvs ds ∧ ∀ ad Hv, DenL K ad Hv dfl dvs
structure NewOk (P : Program) (w : World) (K : PySem.W.Frag) (mg : Str → Option Value) (base : Heap) (M : OM K) (k : Nat) (x : Str) (n : Nat) (fs : List D → M.w.S → Gx M.w R) (dfl : List D) : Prop where
  ex : ∃ (C f : Addr) (fd : FuncData) (ps : List Str) (ds : List Value) (dvs : List V), M.CT.lookup x = some C ∧ mg x = some (.ref C) ∧ Mk K C f ∧ FnOk P w K mg base (L2.CX P w) k f fd ps (spV M.w mg n fs) ∧ L2.Binds K fd ps ds ∧ Vals dvs ds ∧ ∀ ad Hv, DenL K ad Hv dfl dvs
def lstAt (s : Ost) : D → Option (List D)
  | .obj (n + 1) => match s[n]? with
    | some (some (.lst l)) => some l
    | _ => none
  | _ => none
section
variable {K : PySem.W.Frag}
theorem CtOk.nil : CtOk K [] := fun x C h => by cases h
theorem CtOk.cons {x : Str} {C : Addr} {CT : Ctab} {l : List Str} (hl : ftab.lookup x = some l) (c : Cls K C) (h : ∀ f ∈ l, NoAttr K C f) (r : CtOk K CT) : CtOk K ((x, C) :: CT) := fun y D e => by
  have e' : (match y == x with | true => some C | false => CT.lookup y) = some D := e
  cases z : y == x with
  | true =>
    rw [z] at e'
    cases e'
    have := eq_of_beq z
    subst this
    refine ⟨c, fun f hf => h f ?_⟩
    unfold flOk at hf
    rw [hl] at hf
    exact List.contains_iff_mem.mp hf
  | false =>
    rw [z] at e'
    exact r y D e'
theorem na_nil {C : Addr} : ∀ f ∈ ([] : List Str), NoAttr K C f := fun _ h => by cases h
theorem na_cons {C : Addr} {f : Str} {l : List Str} (h : PySem.W.findIn K (.ref C) f = some none) (r : ∀ g ∈ l, NoAttr K C g) : ∀ g ∈ f :: l, NoAttr K C g := fun g hg => by
  rcases List.mem_cons.mp hg with e | e
  · subst e; exact h
  · exact r g e
variable {P : Program} {w : World} {mg : Str → Option Value} {base : Heap} {N : OM K}
theorem MethOk.of {C f : Addr} {fd : FuncData} {ps : List Str} {k n : Nat} {x m : Str} {fs : List D → N.w.S → Gx N.w R} (hC : N.CT.lookup x = some C) (ha : PySem.W.findIn K (.ref C) m = some (some (.ref f))) (hf : PySem.W.isFn K (.ref f) = true) (hk : PySem.W.keepIn K (.ref f) = true)
    (hb : L2.Binds K fd ps []) (F : FnOk P w K mg base (L2.CX P w) k f fd ps (spV N.w mg n fs)) : MethOk P w K mg base N k x m n fs [] :=
  ⟨⟨C, f, fd, ps, [], [], hC, ⟨ha, hf, hk⟩, F, hb, .nil, fun _ _ => rfl⟩⟩
theorem NewOk.of {C f : Addr} {fd : FuncData} {ps : List Str} {k n : Nat} {x : Str} {fs : List D → N.w.S → Gx N.w R} (hC : N.CT.lookup x = some C) (hm : mg x = some (.ref C)) (h1 : PySem.W.makesIn K C = true) (ha : PySem.W.findIn K (.ref C) "__init__" = some (some (.ref f))) (hf : PySem.W.isFn K (.ref f) = true) (hk : PySem.W.keepIn K (.ref C) = true)
    (hb : L2.Binds K fd ps []) (F : FnOk P w K mg base (L2.CX P w) k f fd ps (spV N.w mg n fs)) : NewOk P w K mg base N k x n fs [] :=
  ⟨⟨C, f, fd, ps, [], [], hC, hm, ⟨h1, ha, hf, hk⟩, F, hb, .nil, fun _ _ => rfl⟩⟩
end
section
variable {X : Cx} {M : WM X.K} {W : WX} {e : Expr} {pos : Pos} {ea : Ev M D}
inductive JsOk (X : Cx) (M : WM X.K) (W : WX) : List Expr → List (Ev M D) → Prop where
  | nil : JsOk X M W [] []
  | cons {e : Expr} {ee : Ev M D} {es : List Expr} {ees : List (Ev M D)} (h : PE X e (tD M X.mg W ee)) (r : JsOk X M W es ees) : JsOk X M W (e :: es) (ee :: ees)
end
open PySem.W (findIn isFn InstAt Looks notFirst mroIn)
structure EqOk (K : PySem.W.Frag) (CT : Ctab) (x : Str) : Prop where
  ok : ∀ C, CT.lookup x = some C → findIn K (.ref C) "__ne__" = some (some (.builtin "object.__ne__")) ∧ mroIn K C (.type "object") = some true ∧ notFirst K C (.type "list") = true ∧ notFirst K C (.type "NoneType") = true ∧
    ∀ y C', CT.lookup y = some C' → notFirst K C (.ref C') = true
end VQ
namespace VQ
open PySem PySem.Spec PyProof.Rows L2
open PySem.W (findIn mroIn kitOne)
structure IsOk (K : PySem.W.Frag) (mg : Str → Option Value) (CT : Ctab) (x : Str) : Prop where
  hn : PySem.W.specialIn K (.builtin "object.__class__") "__get__" = some (some (.builtin "getset_descriptor.__get__"))
  htk : PySem.W.takesIn K (.builtin "object.__class__") = some true
  ex : ∃ C, CT.lookup x = some C
  ok : ∀ C, CT.lookup x = some C → mg x = some (.ref C) ∧ kitOne K (.type "list") (.ref C) = some false ∧ kitOne K (.type "NoneType") (.ref C) = some false ∧
    ∀ y C', CT.lookup y = some C' → kitOne K (.ref C') (.ref C) = some (y == x) ∧ findIn K (.ref C') "__class__" = some (some (.builtin "object.__class__")) ∧ mroIn K C' (.type "object") = some true
section
variable {K : PySem.W.Frag} {mg : Str → Option Value} {x : Str} {C : Addr}
theorem ct_one {C' : Addr} {y : Str} (h : ([(x, C)] : Ctab).lookup y = some C') : y = x ∧ C' = C := by
  have h : (match y == x with | true => some C | false => none) = some C' := h
  cases z : y == x with
  | true => rw [z] at h; exact ⟨eq_of_beq z, (Option.some.inj h).symm⟩
  | false => rw [z] at h; cases h
theorem EqOk.one (h1 : findIn K (.ref C) "__ne__" = some (some (.builtin "object.__ne__"))) (h2 : mroIn K C (.type "object") = some true) (h3 : PySem.W.notFirst K C (.type "list") = true) (h4 : PySem.W.notFirst K C (.type "NoneType") = true) : EqOk K [(x, C)] x :=
  ⟨fun C' h => by
    obtain ⟨_, rfl⟩ := ct_one h
    refine ⟨h1, h2, h3, h4, fun y C2 h => ?_⟩
    obtain ⟨_, rfl⟩ := ct_one h
    simp [PySem.W.notFirst]⟩
theorem IsOk.one (hn : PySem.W.specialIn K (.builtin "object.__class__") "__get__" = some (some (.builtin "getset_descriptor.__get__"))) (htk : PySem.W.takesIn K (.builtin "object.__class__") = some true) (h1 : mg x = some (.ref C)) (h2 : kitOne K (.type "list") (.ref C) = some false)
    (h3 : kitOne K (.type "NoneType") (.ref C) = some false) (h4 : findIn K (.ref C) "__class__" = some (some (.builtin "object.__class__"))) (h5 : mroIn K C (.type "object") = some true) : IsOk K mg [(x, C)] x :=
  ⟨hn, htk, ⟨C, by
    show (match x == x with | true => some C | false => none) = some C
    rw [beq_self_eq_true]⟩, fun C' h => by
    obtain ⟨_, rfl⟩ := ct_one h
    refine ⟨h1, h2, h3, fun y C2 h => ?_⟩
    obtain ⟨rfl, rfl⟩ := ct_one h
    refine ⟨?_, h4, h5⟩
    unfold kitOne
    rw [if_pos (beq_self_eq_true _), beq_self_eq_true]⟩
end
end VQ
namespace VQ
open PySem PySem.Spec PyProof.Rows L2
structure GK (K : PySem.W.Frag) (mg : Str → Option Value) (x : Str) (d : D) : Prop where
  ex : ∃ (v : V) (u : Value), mg x = some u ∧ RelV v u ∧ ∀ (ad : Nat → Option Addr) (Hv : Hp), Den K ad Hv d v
theorem GK.tup {K : PySem.W.Frag} {mg : Str → Option Value} {x : Str} {a : Addr} {its : Array Value} {n : Nat} {sl : Array (Option Value)} {ls : List (List Nat)} (h : mg x = some (.ref a)) (hk : K.lookup a = some ⟨.type "tuple", none, .seq its n, sl⟩)
    (hz : its.size ≤ sizeLine) (hv : Vals ((ls.map fun l => (⟨l.toArray⟩ : Str)).map V.str) its.toList) : GK K mg x (.tup (ls.map .str)) :=
  ⟨.ref a, _, h, rfl, fun ad Hv => ⟨a, _, rfl, .inr ⟨_, its, n, hk, rfl, rfl, hz, hv⟩, den_strs ls, fun _ => .inr ⟨_, hk, rfl, rfl⟩⟩⟩
section
variable {P : Program} {w : World} {K : PySem.W.Frag} {mg : Str → Option Value} {base : Heap}
abbrev FBind (x qual : Str) (st : Stmt) (n : Nat) (ps : List Str) : Prop := ∀ (kV doc pm : Value) (an : Option Addr) (cdv ct : Value) (us : List Value), us.length = n → bindArgs (PySem.W.fnOf x qual (defArgs st) (defBody st) (defScope st) .none kV doc pm an cdv ct) ⟨us, []⟩ = pure (ps.zip us)
structure GM (K : PySem.W.Frag) (mg : Str → Option Value) (x : Str) (st : Stmt) : Prop where
  ex : ∃ g fd, mg x = some (.ref g) ∧ Fun K x x st g fd
theorem GM.of {h : Heap} (X : K.In h) (G : h.Ns mainGlobals mg) {x : Str} {st : Stmt} {g : Addr} {oc : Value} {od an : Option Addr} {osl : Array (Option Value)} {kV doc pm cdv ct : Value} (a : PySem.W.nsIn K mainGlobals x = some (some (.ref g))) (l : K.lookup g = some ⟨oc, od, .func (PySem.W.fnOf x x (defArgs st) (defBody st) (defScope st) .none kV doc pm an cdv ct), osl⟩)
    (c : PySem.W.codeIn K cdv x = true) (k : PySem.W.keepIn K (.ref g) = true) : GM K mg x st := ⟨g, _, PySem.W.mg_of X G a, fun_mk l c k⟩
structure MM (K : PySem.W.Frag) (C : Addr) (m qual : Str) (st : Stmt) : Prop where
  ex : ∃ g fd, PySem.W.findIn K (.ref C) m = some (some (.ref g)) ∧ PySem.W.isFn K (.ref g) = true ∧ Fun K m qual st g fd
theorem MM.of {C : Addr} {m qual : Str} {st : Stmt} {g : Addr} {oc : Value} {od an : Option Addr} {osl : Array (Option Value)} {kV doc pm cdv ct : Value} (a : PySem.W.findIn K (.ref C) m = some (some (.ref g))) (f : PySem.W.isFn K (.ref g) = true) (l : K.lookup g = some ⟨oc, od, .func (PySem.W.fnOf m qual (defArgs st) (defBody st) (defScope st) .none kV doc pm an cdv ct), osl⟩)
    (c : PySem.W.codeIn K cdv qual = true) (k : PySem.W.keepIn K (.ref g) = true) : MM K C m qual st := ⟨g, _, a, f, fun_mk l c k⟩
theorem _root_.L2.Fun.bn {x qual : Str} {st : Stmt} {f : Addr} {fd : FuncData} {ps : List Str} {n : Nat} (F : Fun K x qual st f fd) (hl : ps.length = n) (h : FBind x qual st n ps) : L2.Binds K fd ps [] :=
  F.binds (ps := ps) fun kV doc pm an cdv ct us hu => h kV doc pm an cdv ct us (hu.trans hl)
theorem takeL {N : List Str} {n : Nat} (h : n ≤ N.length) : (N.take n).length = n := by rw [List.length_take]; omega
section
variable {M : WM K} {x : Str} {st : Stmt} {N : List Str} {k n : Nat} {ss : Sv M}
abbrev Walked (P : Program) (w : World) (K : PySem.W.Frag) (mg : Str → Option Value) (base : Heap) (M : WM K) (k : Nat) (N : List Str) (qual : Str) (st : Stmt) (ss : Sv M) : Prop :=
  ∀ (nd : N.Nodup) (f : Addr) (cdv : Value) (A : Around) (outer : List Env) (s : Shared) (H : Hp) (E : XK), Room k (A.deeper (envOfC qual (defScope st) s.heap.objs.size f cdv)) →
    Takes (cxOf (L2.CX P w) P w K mg base N qual (defScope st) f cdv A outer s H E) (fun cls d _ H => E cls d H) →
    PSs (cxOf (L2.CX P w) P w K mg base N qual (defScope st) f cdv A outer s H E) (defBody st) (tS M mg (fun cls d _ H => E cls d H) ss)
structure GF (P : Program) (w : World) (K : PySem.W.Frag) (mg : Str → Option Value) (base : Heap) (M : WM K) (k : Nat) (x : Str) (st : Stmt) (ps : List Str) (n : Nat) (fs : List D → M.S → Gx M R) : Prop where
  ex : ∃ g fd, mg x = some (.ref g) ∧ Fun K x x st g fd ∧ FnOk P w K mg base (L2.CX P w) k g fd ps (spV M mg n fs)
theorem GF.of (h : GM K mg x st) (S : FnScope N (N.take n) (defScope st)) (hle : n ≤ N.length) (hbody : Walked P w K mg base M k N x st ss) : GF P w K mg base M (k + 1) x st (N.take n) n (runD N.length ss) := by
  obtain ⟨g, fd, m, F⟩ := h.ex
  exact ⟨g, fd, m, F, def_ok F S (takeL hle) hle (hbody S.nd g)⟩
theorem GF.d {fs : List D → M.S → Gx M R} {ps : List Str} (h : GF P w K mg base M k x st ps n fs) (hl : ps.length = n) (hb : FBind x x st n ps) : DefOk P w K mg base M k x n fs [] := by
  obtain ⟨g, fd, m, F, ok⟩ := h.ex
  exact DefOk.of F m (F.bn hl hb) ok
theorem dk (h : GM K mg x st) (hb : FBind x x st n (N.take n)) (S : FnScope N (N.take n) (defScope st)) (hle : n ≤ N.length) (hbody : Walked P w K mg base M k N x st ss) : DefOk P w K mg base M (k + 1) x n (runD N.length ss) [] :=
  (GF.of h S hle hbody).d (takeL hle) hb
structure GMD (K : PySem.W.Frag) (mg : Str → Option Value) (x : Str) (st : Stmt) (kws : List (Str × V)) : Prop where
  ex : ∃ g fd, mg x = some (.ref g) ∧ Fun K x x st g fd ∧ FunD K x x (defArgs st) (defBody st) (defScope st) [] kws g fd
theorem GMD.of {h : Heap} (X : K.In h) (G : h.Ns mainGlobals mg) {g D : Addr} {oc u : Value} {od an : Option Addr} {osl : Array (Option Value)} {doc pm cdv ct : Value} {y : Str} {v : V} (a : PySem.W.nsIn K mainGlobals x = some (some (.ref g))) (l : K.lookup g = some ⟨oc, od, .func (PySem.W.fnOf x x (defArgs st) (defBody st) (defScope st) .none (.ref D) doc pm an cdv ct), osl⟩)
    (c : PySem.W.codeIn K cdv x = true) (k : PySem.W.keepIn K (.ref g) = true) (kd : PySem.W.nsIn K D y = some (some u)) (r : RelV v u) : GMD K mg x st [(y, v)] :=
  ⟨g, _, PySem.W.mg_of X G a, fun_mk l c k, ⟨⟨_, _, _, _, _, _, _, _, _, _, rfl, l, c, .inl ⟨rfl, rfl⟩, .inr ⟨D, rfl, fun q hq => by rw [List.mem_singleton.mp hq]; exact ⟨_, kd, r⟩⟩⟩, k⟩⟩
end
structure XF (K : PySem.W.Frag) (mg : Str → Option Value) (x q : Str) (st : Stmt) (C : Addr) (fs : List Str) : Prop where
  m : mg x = some (.ref C)
  T : OexG K C
  i : ∃ i fd, PySem.W.findIn K (.ref C) "__init__" = some (some (.ref i)) ∧ PySem.W.typeIn K (.ref i) = some (.type "function") ∧ Fun K "__init__" q st i fd
  nc : PySem.W.findIn K (.ref C) "called" = some none
  nf : ∀ f ∈ fs, PySem.W.findIn K (.ref C) f = some none
theorem XF.of {h : Heap} (X : K.In h) (G : h.Ns mainGlobals mg) {x q : Str} {st : Stmt} {C : Addr} {fs : List Str} {n : String} {nm qn : Str} {N0 : Addr} {bs bm : List Value} {sn : List Str} {sub : List Value} {ab : Bool} {col : Option Bool} {dd : Option Addr} {k0 k1 k2 k3 k5 : Option Value}
    {i : Addr} {oc : Value} {od an : Option Addr} {osl : Array (Option Value)} {kV doc pm cdv ct : Value}
    (m : PySem.W.nsIn K mainGlobals x = some (some (.ref C))) (l : K.lookup C = some (excClassObj nm qn C N0 bs bm true sn sub ab col dd k0 k1 k2 k3 k5 n)) (o : OverB n bm)
    (sa : PySem.W.findIn K (.ref C) "__setattr__" = some (some (.builtin "object.__setattr__"))) (e : PySem.W.subIn K (.ref C) (.type "BaseException") = some true) (t : PySem.W.typeIn K (.ref C) = some (.type "type")) (kc : PySem.W.keepIn K (.ref C) = true)
    (a : PySem.W.findIn K (.ref C) "__init__" = some (some (.ref i))) (li : K.lookup i = some ⟨oc, od, .func (PySem.W.fnOf "__init__" q (defArgs st) (defBody st) (defScope st) .none kV doc pm an cdv ct), osl⟩) (c : PySem.W.codeIn K cdv q = true) (k : PySem.W.keepIn K (.ref i) = true) (ti : PySem.W.typeIn K (.ref i) = some (.type "function"))
    (nc : PySem.W.findIn K (.ref C) "called" = some none) (nf : ∀ f ∈ fs, PySem.W.findIn K (.ref C) f = some none) : XF K mg x q st C fs :=
  ⟨PySem.W.mg_of X G m, ⟨⟨_, _, _, _, _, _, _, _, _, _, _, _, _, _, _, _, l, o⟩, sa, e, t, kc⟩, ⟨i, _, a, ti, fun_mk li c k⟩, nc, nf⟩
theorem xk {x q : Str} {st : Stmt} {C : Addr} {fs ps : List Str} {k n m : Nat} {fl : FSpec} (h : XF K mg x q st C fs) (hl : ps.length = m) (hb : FBind "__init__" q st m ps) (hF : ∀ i fd, Fun K "__init__" q st i fd → FnOk P w K mg base (CX P w) k i fd ps (spI C n fl)) : XcOk P w K mg base k x n fl := by
  obtain ⟨i, fd, a, t, F⟩ := h.i
  exact ⟨⟨C, i, fd, ps, h.T, a, t, hF i fd F, F.bn hl hb, h.m⟩⟩
structure AF (K : PySem.W.Frag) (mg : Str → Option Value) (x q : Str) (st : Stmt) (C : Addr) : Prop where
  ex : ∃ i fd, mg x = some (.ref C) ∧ Fun K "__init__" q st i fd ∧ CFn K C (.type "type") "__init__" i
theorem AF.of {h : Heap} (X : K.In h) (G : h.Ns mainGlobals mg) {x q : Str} {st : Stmt} {C : Addr} {i : Addr} {oc : Value} {od an : Option Addr} {osl : Array (Option Value)} {kV doc pm cdv ct : Value}
    (m : PySem.W.nsIn K mainGlobals x = some (some (.ref C))) (a : PySem.W.findIn K (.ref C) "__init__" = some (some (.ref i))) (li : K.lookup i = some ⟨oc, od, .func (PySem.W.fnOf "__init__" q (defArgs st) (defBody st) (defScope st) .none kV doc pm an cdv ct), osl⟩) (c : PySem.W.codeIn K cdv q = true) (k : PySem.W.keepIn K (.ref i) = true)
    (rd : PySem.W.readsIn K C (.type "type") = true) (ga : PySem.W.specialIn K (.ref C) "__getattribute__" = some (some (.builtin "type.__getattribute__"))) (at_ : PySem.W.findCls K (.ref C) (.type "type") "__init__" = some (.val (.ref i))) : AF K mg x q st C :=
  ⟨i, _, PySem.W.mg_of X G m, fun_mk li c k, ⟨⟨rd, ga⟩, at_, k⟩⟩
theorem AF.ab {x q : Str} {st : Stmt} {C : Addr} {k : Nat} (h : AF K mg x q st C) (hb : FBind "__init__" q st 2 ["self", "called"]) (hF : ∀ i fd, Fun K "__init__" q st i fd → FnOk P w K mg base (CX P w) k i fd ["self", "called"] (spA K ["called"] 1 [("called", .inl 0)])) : AboveOk P w K mg base k x := by
  obtain ⟨i, fd, m, F, c⟩ := h.ex
  exact ⟨⟨C, _, i, _, c, m, hF i fd F, F.bn rfl hb⟩⟩
end
end VQ
namespace VK
open PySem PySem.Spec PyProof.Rows L2 VQ
section
variable {K : PySem.W.Frag} {M : WM K} {s : M.S} {pull : Dfs M}
def hit (w : Int) (l : List Int) (k : Nat) : Bool := l.any fun o => (b5 o).take k == (b5 w).take k
def shortN (w : Int) (l : List Int) : Option Nat := (List.range 6).find? fun k => !hit w l k
def optB (w : Int) : Option Nat → D
  | some k => .str ((b5 w).take k)
  | none => .non
abbrev boxS (b : List (List Nat)) : D := .tup (b.map .str)
def goodB (b : List (List Nat)) : Bool := decide (1 ≤ b.length) && (decide (b.length ≤ 5) && b.all beg)
def vol (b : List (List Nat)) : Nat := (b.map fun l => 5 - l.length).sum
end
abbrev atB (b : List (List Nat)) (k : Nat) : List Nat := b.getD k []
def openB (b : List (List Nat)) (k : Nat) : Bool := decide ((atB b k).length < 5)
def openK (b : List (List Nat)) : Option Nat := (List.range b.length).find? (openB b)
def halfB (b : List (List Nat)) (k c : Nat) : List (List Nat) := b.take k ++ [atB b k ++ [c]] ++ b.drop (k + 1)
section
variable {K : PySem.W.Frag} {N : OM K} {α : Type}
def inB (a b : List (List Nat)) : Bool := (a.zip b).all fun x => x.1.take x.2.length == x.2
abbrev Bx := List (List Nat)
def wholeB (many : Nat) : Bx := List.replicate many []
end
section
def full (many : Nat) (c : Bx) : Prop := c.length = many ∧ ∀ l ∈ c, l.length = 5 ∧ l.all isSign = true
variable {K : PySem.W.Frag} {N : OM K} {α : Type}
structure StA (a p : Nat) (s : Ost) (many : Nat) (pile : List Bx) : Prop where
  ins : s[a]? = some (some (.ins "Store" [("places", .int (many : Nat)), ("pile", .obj (p + 1))]))
  pl : s[p]? = some (some (.lst (pile.map boxS)))
  ne : a ≠ p
section
variable {a p : Nat} {s : Ost} {many : Nat} {pile : List Bx}
theorem scls_of {n : Nat} {x : PySem.Str} {fs : List (PySem.Str × D)} (h : s[n]? = some (some (.ins x fs))) : clsAt s (.obj (n + 1)) = some x := by
  show (match s[n]? with | some (some (.ins x _)) => some x | _ => none) = _
  rw [h]
theorem StA.clsE (h : StA a p s many pile) : clsAt s (.obj (a + 1)) = some ("Store" : PySem.Str) := scls_of h.ins
theorem StA.cls (h : StA a p s many pile) : (clsAt s (.obj (a + 1)) == some ("Store" : PySem.Str)) = true := by rw [h.clsE]; rfl
end
end
section
structure Part (many : Nat) (bs : List Bx) : Prop where
  good : ∀ b ∈ bs, goodB b = true ∧ b.length = many
  one : ∀ c, full many c → bs.countP (inB c) = 1
  vol : (bs.map fun b => 2 ^ vol b).sum = 32 ^ many
inductive Cuts (many : Nat) : List Bx → List (Bx × Bx × Bx) → Prop
  | nil : Cuts many [wholeB many] []
  | snoc {l r : List Bx} {b : Bx} {k : Nat} {cs : List (Bx × Bx × Bx)} (h : Cuts many (l ++ b :: r) cs) (hk : openK b = some k) : Cuts many (l ++ [halfB b k 48, halfB b k 49] ++ r) (cs ++ [(b, halfB b k 48, halfB b k 49)])
variable {K : PySem.W.Frag} {N : OM K} {a p : Nat} {s : N.w.S} {many : Nat} {pile : List Bx}
def goodP5 (many : Nat) (pile : List Bx) : Prop := ∀ q ∈ pile, goodB q = true ∧ q.length = many
end
section
variable {K : PySem.W.Frag} {N : OM K} {s : N.w.S} {many : Nat} {pile : List Bx}
structure Two (s : Ost) (a p a2 p2 many : Nat) (pile pile2 : List Bx) : Prop where
  one : StA a p s many pile
  two : StA a2 p2 s many pile2
  n1 : p ≠ a2
  n2 : p ≠ p2
  n3 : p2 ≠ a
  g1 : goodP5 many pile
  g2 : goodP5 many pile2
  fl : s.all flatC = true
end
section
variable {K : PySem.W.Frag} {N : OM K} {s : N.w.S} {many : Nat} {pile : List Bx} {pull : Dfs N.w} {xt : Xt}
def Oth (s : Ost) (a p many : Nat) (pile : List Bx) (n : Nat) (x5 x6 : Option VV) : Prop :=
  (x5 = some (.sh .non) ∧ x6 = some (.sh (.lst []))) ∨ ∃ a2 p2 lone, x5 = some (.sh (.obj (a2 + 1))) ∧ x6 = some (.ow (.lst (lone.map boxS))) ∧ Two s a p a2 p2 many pile lone ∧ lone.length ≤ n
structure Inv9 (s : Ost) (a p many : Nat) (pile : List Bx) (n m : Nat) (x5 x6 : Option VV) : Prop where
  st : StA a p s many pile
  g : goodP5 many pile
  l : pile.length ≤ n
  f : s.all flatC = true
  o : Oth s a p many pile m x5 x6
end
section
structure Left (bs out qs : List Bx) : Prop where
  sub : out.Sublist bs
  perm : qs.Perm (bs.filter fun b => !out.contains b)
def cp : List Int → List Int → Nat
  | x :: a, y :: b => if x = y then cp a b + 1 else 0
  | _, _ => 0
def firstG (rs : List (List Int)) (p : List Int) : Nat := rs.foldl (fun m r => max m (cp r p)) 0
def hangG (rs : List (List Int)) (p : List Int) (f : Nat) : List Int := (rs.filter fun r => r.take f == p.take f).map fun r => r.getD f 0
def gapG (rs : List (List Int)) (p : List Int) : D :=
  if firstG rs p = p.length then .non
  else .tup ((p.take (firstG rs p)).map (fun i => .str (b5 i)) ++ [optB (p.getD (firstG rs p) 0) (shortN (p.getD (firstG rs p) 0) (hangG rs p (firstG rs p)))] ++ List.replicate (p.length - firstG rs p - 1) (.str []))
def spB (q : List Int) (f n : Nat) (t : List Nat) : Bx := (q.take f).map b5 ++ [t] ++ List.replicate (n - f - 1) []
structure GapF (rs : List (List Int)) (p : List Int) (f k : Nat) : Prop where
  lt : f < p.length
  k5 : k ≤ 5
  eq : gapG rs p = boxS (spB p f p.length ((b5 (p.getD f 0)).take k))
  no : hit (p.getD f 0) (hangG rs p f) k = false
  up : ∀ j, j < k → hit (p.getD f 0) (hangG rs p f) j = true
  row : rs ≠ [] → ∃ r ∈ rs, r.take f = p.take f
  nil : rs = [] → f = 0 ∧ k = 0
structure K3 (t : Ost) (many : Nat) (M : List Bx) : Prop where
  st : StA 0 1 t many M
  ls : lstAt t (.obj 3) = some (M.map boxS)
  fl : t.all flatC = true
  g : goodP5 many M
end
end VK
section HDsec
namespace VL
open PySem PySem.Spec PyProof.Rows L2 VQ LamX
def top (i : Nat) : Stmt := PySem.Challenge.pw_voidquilt_k10_bare_points.main.body.getD i (.Pass ⟨0, 0, 0, 0⟩)
abbrev st__law_bag := top 18
abbrev st_is_beginning := top 7
abbrev st_is_box := top 11
abbrev st_Store_need := inClass (top 16) 4
abbrev st_under := top 13
abbrev st_Store_first_over := inClass (top 16) 5
abbrev st_Store_put := inClass (top 16) 7
abbrev st__law_pull := top 19
abbrev st_Store___init__ := inClass (top 16) 0
abbrev st__law_of := top 20
abbrev st__law_figs := top 23
abbrev st__law_worth := top 22
abbrev st__law_begin := top 24
abbrev st__law_box := top 26
abbrev st_Store_twin := inClass (top 16) 10
abbrev st__law_same := top 21
abbrev st__law_starts := top 27
abbrev st__law_inside := top 28
abbrev st__law_under := top 25
abbrev st__law_bare := top 30
abbrev st_Store_boxes := inClass (top 16) 8
abbrev st_whole := top 12
abbrev st_halves_of := top 14
abbrev st_span := top 8
abbrev st_Store_bare := inClass (top 16) 9
abbrev st__law_box_of := top 29
abbrev st__law_bare_apart := top 31
abbrev st_law := top 32
abbrev st_QuiltError := inClass (top 2) 0
abbrev st_BadBox := inClass (top 4) 0
abbrev st_BadBeginning := inClass (top 3) 0
structure Vx (K : PySem.W.Frag) (w : World) (mg : Str → Option Value) (C_Store C_QuiltError C_BadBox C_BadBeginning : Addr) : Prop where
  n_Store : mg "Store" = some (.ref C_Store) ∧ PySem.W.makesIn K C_Store = true ∧ PySem.W.keepIn K (.ref C_Store) = true
  k_Store : Cls K C_Store
  a_Store : ∀ f ∈ (["places", "pile"] : List PySem.Str), NoAttr K C_Store f
  d__law_bag : GM K mg "_law_bag" st__law_bag
  d_is_beginning : GM K mg "is_beginning" st_is_beginning
  d_is_box : GM K mg "is_box" st_is_box
  d_Store_need : MM K C_Store "need" "Store.need" st_Store_need
  d_under : GM K mg "under" st_under
  d_Store_first_over : MM K C_Store "first_over" "Store.first_over" st_Store_first_over
  d_Store_put : MM K C_Store "put" "Store.put" st_Store_put
  d__law_pull : GM K mg "_law_pull" st__law_pull
  d_Store___init__ : MM K C_Store "__init__" "Store.__init__" st_Store___init__
  d__law_of : GM K mg "_law_of" st__law_of
  d__law_figs : GM K mg "_law_figs" st__law_figs
  d__law_worth : GM K mg "_law_worth" st__law_worth
  d__law_begin : GM K mg "_law_begin" st__law_begin
  d__law_box : GM K mg "_law_box" st__law_box
  d_Store_twin : MM K C_Store "twin" "Store.twin" st_Store_twin
  d__law_same : GM K mg "_law_same" st__law_same
  d__law_starts : GM K mg "_law_starts" st__law_starts
  d__law_inside : GM K mg "_law_inside" st__law_inside
  d__law_under : GM K mg "_law_under" st__law_under
  d__law_bare : GM K mg "_law_bare" st__law_bare
  d_Store_boxes : MM K C_Store "boxes" "Store.boxes" st_Store_boxes
  d_whole : GM K mg "whole" st_whole
  d_halves_of : GM K mg "halves_of" st_halves_of
  d_span : GM K mg "span" st_span
  d_Store_bare : MM K C_Store "bare" "Store.bare" st_Store_bare
  d__law_box_of : GM K mg "_law_box_of" st__law_box_of
  d__law_bare_apart : GM K mg "_law_bare_apart" st__law_bare_apart
  b_isinstance : mg "isinstance" = none
  b_str : mg "str" = none
  b_len : mg "len" = none
  b_all : mg "all" = none
  b_tuple : mg "tuple" = none
  b_zip : mg "zip" = none
  b_range : mg "range" = none
  b_list : mg "list" = none
  b_bool : mg "bool" = none
  b_int : mg "int" = none
  b_any : mg "any" = none
  b_enumerate : mg "enumerate" = none
  g_FIGURES : GC mg "FIGURES" (.int 5)
  g_MOST_PLACES : GC mg "MOST_PLACES" (.int 5)
  A_QuiltError : AF K mg "QuiltError" "QuiltError.__init__" st_QuiltError C_QuiltError
  X_BadBox : XF K mg "BadBox" "BadBox.__init__" st_BadBox C_BadBox []
  X_BadBeginning : XF K mg "BadBeginning" "BadBeginning.__init__" st_BadBeginning C_BadBeginning []
def AllMk : Prop := ∀ {w : World} {K : PySem.W.Frag} {h : Heap} {mg : Str → Option Value} {fa g : Addr} {C_Store C_QuiltError C_BadBox C_BadBeginning : Addr} {od an : Option Addr} {sl : Array (Option Value)} {oc kV dc pm cd ct : Value} (X : K.In h) (G : h.Ns mainGlobals mg) (hfa : mg "law" = some (.ref fa)) (V : Vx K w mg C_Store C_QuiltError C_BadBox C_BadBeginning)
    (a_law : PySem.W.nsIn K mainGlobals "law" = some (some (.ref g))) (l_law : K.lookup g = some ⟨oc, od, .func (PySem.W.fnOf "law" "law" (defArgs st_law) (defBody st_law) (defScope st_law) .none kV dc pm an cd ct), sl⟩) (c_law : PySem.W.codeIn K cd "law" = true), LawAtS PySem.Challenge.rw_voidquilt_k10_bare_points w K (L2.CX PySem.Challenge.rw_voidquilt_k10_bare_points.prog w) 11 63 "_law_script" mg fa h
abbrev dep (_ : AllMk) (p : World → Heap → Prop) : World → Heap → Prop := p
end VL
namespace PySem.W.Fast
theorem tw17383020587296243500 : True := trivial
theorem tw381418145465257928 : True := trivial
theorem tw2203056002278318186 : True := trivial
theorem tw8454914909552635339 : True := trivial
theorem tw17700978234210523248 : True := trivial
theorem tw16448253402698119087 : True := trivial
theorem tw6798675107956322943 : True := trivial
theorem tw9697938407400814610 : True := trivial
theorem tw9215123937835148334 : True := trivial
end PySem.W.Fast
open PySem PySem.W PyProof.Rows L2
local macro_rules | `(tactic| refine $h:ident (q := $q) (loose := $l) (Xt := $x) (XP := $xp) (Yf := $yf) (Ya := $ya) (YP := $f:ident $H) (N := $n) $as*) => `(tactic| refine $h (q := $q) (loose := $l) (Xt := $x) (XP := $xp) (Yf := $yf) (Ya := $ya) (YP := VL.dep AM ($f $H)) (N := $n) $as*)
set_option hygiene true
local macro_rules | `(tactic| walk_at "I") => `(tactic| (first | k_is | rfl | decide +kernel))
local macro_rules | `(tactic| walk_at "GM") => `(tactic| (refine' VQ.GM.of (by assumption) (by assumption) ?a ?l ?c ?k; (case a => walk_at "I"); (case l => walk_at "I"); (case c => walk_at "I"); (case k => walk_at "I")))
local macro_rules | `(tactic| walk_at "MM") => `(tactic| (refine' VQ.MM.of ?a ?f ?l ?c ?k; (case a => walk_at "I"); (case f => walk_at "I"); (case l => walk_at "I"); (case c => walk_at "I"); (case k => walk_at "I")))
local macro_rules | `(tactic| walk_at "NO") => `(tactic| (refine' PySem.W.mg_none_of (by assumption) (by assumption) ?a; (case a => walk_at "I")))
local macro_rules | `(tactic| walk_at "AF") => `(tactic| (refine' VQ.AF.of (by assumption) (by assumption) ?m ?a ?l ?c ?k ?r ?g ?t; (case m => walk_at "I"); (case a => walk_at "I"); (case l => walk_at "I"); (case c => walk_at "I"); (case k => walk_at "I"); (case r => walk_at "I"); (case g => walk_at "I"); (case t => walk_at "I")))
local macro_rules | `(tactic| walk_at "XF") => `(tactic| (refine' VQ.XF.of (by assumption) (by assumption) ?m ?l ?o ?s ?e ?t ?kc ?a ?li ?c ?k ?ti ?n ?nf; (case m => walk_at "I"); (case l => walk_at "I"); (case o => first | exact (VQ.ov_ValueError.cons _)); (case s => walk_at "I"); (case e => walk_at "I"); (case t => walk_at "I"); (case kc => walk_at "I"); (case a => walk_at "I"); (case li => walk_at "I"); (case c => walk_at "I"); (case k => walk_at "I"); (case ti => walk_at "I"); (case n => walk_at "I"); (case nf => first | exact VQ.na_nil | (refine' VQ.na_cons ?x VQ.na_nil; (case x => walk_at "I")))))
set_option maxRecDepth 100000 in
set_option maxHeartbeats 0 in
theorem PySem.Challenge.zh (AM : VL.AllMk) : PySem.Challenge.rw_voidquilt_k10_bare_points.Holds := by
  w_on; o_law; k_head; (case hw => w_witness2)
  k_fill
  refine VQ.walk_tab (l := PySem.Challenge.rw_voidquilt_k10_bare_points) (n := 63) (k := 11) (x := "_law_script") (CX := fun w => L2.CX PySem.Challenge.rw_voidquilt_k10_bare_points.prog w) rfl (by decide) rfl ⟨rfl, by decide, by decide⟩ (fun w h Y => by first | exact PySem.W.km_in_of Y | exact PySem.W.kIn_of Y) ?hd ?F (fun w => VQ.cx_none _ w)
  case hd => rfl
  case F =>
    intro w mg fa h KX G hmg hTab
    refine' AM KX G hmg ⟨?n_Store, ?k_Store, ?a_Store, ?d__law_bag, ?d_is_beginning, ?d_is_box, ?d_Store_need, ?d_under, ?d_Store_first_over, ?d_Store_put, ?d__law_pull, ?d_Store___init__, ?d__law_of, ?d__law_figs, ?d__law_worth, ?d__law_begin, ?d__law_box, ?d_Store_twin, ?d__law_same, ?d__law_starts, ?d__law_inside, ?d__law_under, ?d__law_bare, ?d_Store_boxes, ?d_whole, ?d_halves_of, ?d_span, ?d_Store_bare, ?d__law_box_of, ?d__law_bare_apart, ?b_isinstance, ?b_str, ?b_len, ?b_all, ?b_tuple, ?b_zip, ?b_range, ?b_list, ?b_bool, ?b_int, ?b_any, ?b_enumerate, ?g_FIGURES, ?g_MOST_PLACES, ?A_QuiltError, ?X_BadBox, ?X_BadBeginning⟩ ?ya ?yl ?yc
    (case n_Store => refine' ⟨PySem.W.mg_of KX G ?a_0, ?b_0, ?c_0⟩; (case a_0 => walk_at "I"); (case b_0 => walk_at "I"); (case c_0 => walk_at "I"))
    (case k_Store => refine' ⟨?a_1, ?b_1, ?c_1, ?d_1⟩; (case a_1 => walk_at "I"); (case b_1 => walk_at "I"); (case c_1 => walk_at "I"); (case d_1 => walk_at "I"))
    (case a_Store => refine' (VQ.na_cons ?x1_2 (VQ.na_cons ?x0_2 VQ.na_nil)); (case x0_2 => walk_at "I"); (case x1_2 => walk_at "I"))
    (case d__law_bag => walk_at "GM")
    (case d_is_beginning => walk_at "GM")
    (case d_is_box => walk_at "GM")
    (case d_Store_need => walk_at "MM")
    (case d_under => walk_at "GM")
    (case d_Store_first_over => walk_at "MM")
    (case d_Store_put => walk_at "MM")
    (case d__law_pull => walk_at "GM")
    (case d_Store___init__ => walk_at "MM")
    (case d__law_of => walk_at "GM")
    (case d__law_figs => walk_at "GM")
    (case d__law_worth => walk_at "GM")
    (case d__law_begin => walk_at "GM")
    (case d__law_box => walk_at "GM")
    (case d_Store_twin => walk_at "MM")
    (case d__law_same => walk_at "GM")
    (case d__law_starts => walk_at "GM")
    (case d__law_inside => walk_at "GM")
    (case d__law_under => walk_at "GM")
    (case d__law_bare => walk_at "GM")
    (case d_Store_boxes => walk_at "MM")
    (case d_whole => walk_at "GM")
    (case d_halves_of => walk_at "GM")
    (case d_span => walk_at "GM")
    (case d_Store_bare => walk_at "MM")
    (case d__law_box_of => walk_at "GM")
    (case d__law_bare_apart => walk_at "GM")
    (case b_isinstance => walk_at "NO")
    (case b_str => walk_at "NO")
    (case b_len => walk_at "NO")
    (case b_all => walk_at "NO")
    (case b_tuple => walk_at "NO")
    (case b_zip => walk_at "NO")
    (case b_range => walk_at "NO")
    (case b_list => walk_at "NO")
    (case b_bool => walk_at "NO")
    (case b_int => walk_at "NO")
    (case b_any => walk_at "NO")
    (case b_enumerate => walk_at "NO")
    (case g_FIGURES => refine' VQ.GC.int (PySem.W.mg_of KX G ?a_42); (case a_42 => walk_at "I"))
    (case g_MOST_PLACES => refine' VQ.GC.int (PySem.W.mg_of KX G ?a_43); (case a_43 => walk_at "I"))
    (case A_QuiltError => walk_at "AF")
    (case X_BadBox => walk_at "XF")
    (case X_BadBeginning => walk_at "XF")
    (case ya => walk_at "I"); (case yl => walk_at "I"); (case yc => walk_at "I")
end HDsec
namespace VQ
open PySem PySem.Spec PyProof.Rows L2
section
variable {X : Cx} {pins : List (Addr × Obj)} {σ : L2.St} {H : Hp} {s : Shared}
theorem laid_t2 (I : L2.Inv X pins σ H s) {vs : List V} {us : List Value} {k : Nat} {Q : VK} (r : Vals vs us) (hz : vs.length ≤ sizeLine) (h : Tup2 H vs Q) :
    EP X pins σ Q (.ref s.heap.objs.size) { s with heap := s.heap.push { cls := .type "tuple", data := .seq us.toArray }, toks := k } := by
  have fresh : H s.heap.objs.size = none := I.hok.fresh (Nat.le_refl _)
  have old : ∀ b u, s.heap.get? b = some u → (s.heap.push { cls := .type "tuple", data := .seq us.toArray }).get? b = some u := fun b u e => Heap.get?_push_of_some _ e
  have at_ : (s.heap.push { cls := .type "tuple", data := .seq us.toArray }).get? s.heap.objs.size = some { cls := .type "tuple", data := .seq us.toArray } := Heap.get?_push_size _ rfl
  rcases h with h | h
  · exact ⟨.ref s.heap.objs.size, upd H s.heap.objs.size (.tup vs), I.laid (t' := k) (o := .tup vs) old (Nat.le_refl _) ⟨hz, us, r, _, at_, rfl, _, rfl⟩, rfl, h _ fresh⟩
  · exact ⟨.ref s.heap.objs.size, upd H s.heap.objs.size (.frz { cls := .type "tuple", data := .seq us.toArray } (.tup vs)), I.laid (t' := k) (o := .frz { cls := .type "tuple", data := .seq us.toArray } (.tup vs)) old (Nat.le_refl _) ⟨at_, hz, us, r, _, at_, rfl, _, rfl⟩, rfl, h _ _ rfl rfl fresh⟩
variable {es : List Expr} {t : TA} {pos : Pos}
theorem pe_tup2 {c} (ha : PA X es t) : PE X (.Tuple es c pos) (tTup2 t) := ⟨fun pins s σ H Q I h =>
  wpAny_Tuple_spliced (thn (ha.run pos pins s σ H _ I h) fun us s1 ⟨vs, H1, I1, r, z, q⟩ => ⟨by rw [← r.length]; exact z, laid_t2 I1 r z q⟩)⟩
def rTup2 (K : PySem.W.Frag) : List V → Hp → VK → Prop := fun xs H Q => ∃ p ys, xs = [.ref p] ∧ ((SqL K H p ys ∧ Tup2 H ys Q) ∨ (SqT K H p ys ∧ Q (.ref p) H))
theorem call_tup2 : CallR X (.type "tuple") (rTup2 X.K) := by
  intro pins s σ H xs us Q I r ⟨p, ys, ex, h⟩
  subst ex
  obtain ⟨u, eu, rx⟩ := vals1 r
  subst eu
  cases rx
  rcases h with ⟨hq, q⟩ | ⟨hq, q⟩
  · obtain ⟨its, rv, pl, hz⟩ := I.list hq
    have hlen := rv.length
    refine call_tuple_list pl.isList (fun h2 kp => ?_) (by simp only [List.size_toArray] <;> omega)
    have I1 : L2.Inv X pins σ H { s with heap := h2 } := I.kept (t' := s.toks) kp
    exact laid_t2 (k := s.toks) I1 rv hz q
  · obtain ⟨its, rv, pl, hz⟩ := I.tuple hq
    exact call_tuple_same pl ⟨.ref p, H, I, rfl, q⟩
def rSlT2 (K : PySem.W.Frag) : V → Option Int → Option Int → Hp → VK → Prop := fun x lo hi H Q => ∃ a vs, x = .ref a ∧ SqT K H a vs ∧
  ¬ (HT.sIx vs.length 0 lo = 0 ∧ HT.sIx vs.length vs.length hi = vs.length) ∧ Tup2 H (cutV vs lo hi) Q
theorem sl_tup2 : SlR X (rSlT2 X.K) := by
  intro pins s σ H x v vl vu lo hi sl Q I rx hs pl pu ⟨a, vs, ex, hx, hw, q⟩
  subst ex
  cases rx
  obtain ⟨its, rv, ht, hz⟩ := I.tuple hx
  have hl : its.toArray.size = vs.length := by rw [List.size_toArray]; exact rv.length.symm
  refine ⟨"tuple", _, PyProof.Rows.slot_tuple_getitem.lookup, ht.typeIs, HT.getItem_tuple_cut ht hs pl pu (by rw [hl]; exact hw) ?_ (by rw [hl]; exact hz)⟩
  rw [hl]
  exact laid_t2 (k := s.toks) I ((rv.drop (HT.sIx vs.length 0 lo)).take (HT.sIx vs.length vs.length hi - HT.sIx vs.length 0 lo)) (Nat.le_trans (cutV_length vs lo hi) hz) q
def rCatT2 (K : PySem.W.Frag) : R2 := fun x y H Q => ∃ a b vs ws, x = .ref a ∧ y = .ref b ∧ SqT K H a vs ∧ SqT K H b ws ∧ vs ≠ [] ∧ vs.length + ws.length ≤ sizeLine ∧ (ws = [] → Q (.ref a) H) ∧ (ws ≠ [] → Tup2 H (vs ++ ws) Q)
theorem op_catT2 : OpR X (binaryOp .Add) (rCatT2 X.K) := by
  intro pins s σ H x y v u Q I rx ry ⟨a, b, vs, ws, ex, ey, ha, hb, hx, hz, q1, q2⟩
  subst ex ey
  cases rx
  cases ry
  obtain ⟨its, r1, p1, _⟩ := I.tuple ha
  obtain ⟨jts, r2, p2, _⟩ := I.tuple hb
  refine HT.cat_tup p1 p2 (fun z => hx (r1.nil_iff.mp z)) (fun z => ⟨.ref a, H, I, rfl, q1 (r2.nil_iff.mp z)⟩) (fun z => ?_) (by rw [← r1.length, ← r2.length]; exact hz)
  exact laid_t2 (k := s.toks) I (r1.append r2) (by rw [List.length_append]; exact hz) (q2 fun w => z (r2.nil_iff.mpr w))
def rCatA2 (K : PySem.W.Frag) : R2 := fun x y H Q => ∃ a b vs ws, x = .ref a ∧ y = .ref b ∧ SqT K H a vs ∧ SqT K H b ws ∧ vs.length + ws.length ≤ sizeLine ∧ (vs = [] → Q (.ref b) H) ∧ (vs ≠ [] → ws = [] → Q (.ref a) H) ∧ (vs ≠ [] → ws ≠ [] → Tup2 H (vs ++ ws) Q)
theorem op_catA2 : OpR X (binaryOp .Add) (rCatA2 X.K) := by
  intro pins s σ H x y v u Q I rx ry ⟨a, b, vs, ws, ex, ey, ha, hb, hz, q0, q1, q2⟩
  by_cases hx : vs = []
  · subst hx ex ey
    cases rx
    cases ry
    obtain ⟨its, r1, p1, _⟩ := I.tuple ha
    obtain ⟨jts, r2, p2, _⟩ := I.tuple hb
    cases r1
    exact cat_tup0 p1 p2 ⟨.ref b, H, I, rfl, q0 rfl⟩
  · exact op_catT2 pins s σ H x y v u Q I rx ry ⟨a, b, vs, ws, ex, ey, ha, hb, hx, hz, q1 hx, q2 hx⟩
def rSlA2 (K : PySem.W.Frag) : V → Option Int → Option Int → Hp → VK → Prop := fun x lo hi H Q => ∃ a vs, x = .ref a ∧ SqT K H a vs ∧
  (HT.sIx vs.length 0 lo = 0 ∧ HT.sIx vs.length vs.length hi = vs.length → Q (.ref a) H) ∧ (¬ (HT.sIx vs.length 0 lo = 0 ∧ HT.sIx vs.length vs.length hi = vs.length) → Tup2 H (cutV vs lo hi) Q)
theorem sl_tupA2 : SlR X (rSlA2 X.K) := by
  intro pins s σ H x v vl vu lo hi sl Q I rx hs pl pu ⟨a, vs, ex, hx, q1, q2⟩
  by_cases hw : HT.sIx vs.length 0 lo = 0 ∧ HT.sIx vs.length vs.length hi = vs.length
  · exact sl_tupA pins s σ H x v vl vu lo hi sl Q I rx hs pl pu ⟨a, vs, ex, hx, fun _ => q1 hw, fun z => absurd hw z⟩
  · exact sl_tup2 pins s σ H x v vl vu lo hi sl Q I rx hs pl pu ⟨a, vs, ex, hx, hw, q2 hw⟩
end
namespace G
variable {ε ε' α β γ : Type}
def catch_ (m : G ε α) (f : ε → G ε' α) : G ε' α :=
  match m with
  | ret a => ret a
  | exc e => f e
  | draw n k => draw n fun r => (k r).catch_ f
  | bad => bad
@[simp] theorem bind_ret (a : α) (f : α → G ε β) : (ret a : G ε α).bind f = f a := rfl
@[simp] theorem bind_exc (e : ε) (f : α → G ε β) : (exc e : G ε α).bind f = exc e := rfl
theorem bind_assoc (f : α → G ε β) (g : β → G ε γ) : ∀ m : G ε α, (m.bind f).bind g = m.bind fun a => (f a).bind g
  | ret _ => rfl
  | exc _ => rfl
  | bad => rfl
  | draw n k => congrArg (draw n) (funext fun r => bind_assoc f g (k r))
theorem all_catch {Q : α → Prop} {E : ε' → Prop} {f : ε → G ε' α} : ∀ {m : G ε α}, (m.catch_ f).all Q E ↔ m.all Q (fun e => (f e).all Q E)
  | ret _ => Iff.rfl
  | exc _ => Iff.rfl
  | bad => Iff.rfl
  | draw n k => by
    show (0 < n ∧ ∀ r, r < n → ((k r).catch_ f).all Q E) ↔ (0 < n ∧ ∀ r, r < n → (k r).all Q _)
    exact ⟨fun h => ⟨h.1, fun r hr => all_catch.mp (h.2 r hr)⟩, fun h => ⟨h.1, fun r hr => all_catch.mpr (h.2 r hr)⟩⟩
theorem all_map {Q : β → Prop} {E : ε → Prop} {f : α → β} {m : G ε α} : (m.map f).all Q E ↔ m.all (fun a => Q (f a)) E := all_bind
end G
theorem sqL_same {K : PySem.W.Frag} {H H' : Hp} {a : Addr} {xs : List V} (s : Same H H') (h : SqL K H a xs) : SqL K H' a xs := by
  rcases h with (h | ⟨o, h⟩) | h
  · exact .inl (.inl (s _ _ h))
  · exact .inl (.inr ⟨o, s _ _ h⟩)
  · exact .inr h
section
variable {K : PySem.W.Frag} {ad ad' : Nat → Option Addr} {Hv Hv' : Hp}
theorem DenL.set : ∀ {ds : List D} {vs : List V} (i : Nat) {d : D} {v : V}, DenL K ad Hv ds vs → Den K ad Hv d v → DenL K ad Hv (ds.set i d) (vs.set i v)
  | [], _, _, _, _, h, _ => by cases h; simp [DenL]
  | _ :: _, _, 0, _, _, ⟨v, r, e, h, t⟩, q => by cases e; exact ⟨_, _, rfl, q, t⟩
  | _ :: _, _, i + 1, _, _, ⟨v, r, e, h, t⟩, q => by cases e; exact ⟨v, _, rfl, h, DenL.set i t q⟩
theorem DenL.nil_of {ds : List D} (h : DenL K ad Hv ds []) : ds = [] := by
  have := h.length
  cases ds with
  | nil => rfl
  | cons _ _ => simp at this
end
section
variable {K : PySem.W.Frag} {M : WM K}
theorem Ext.denL {p q : Pt M} (e : Ext p q) {d : List D} {v : List V} (h : DenL K p.ad p.Hv d v) : DenL K q.ad q.Hv d v := h.mono e.view e.ad
def Pt.lay (p : Pt M) (a : Addr) (o : HO) : Pt M := ⟨p.s, p.F, upd p.Hv a o, upd p.H a o, p.ad⟩
def Pt.hid (p : Pt M) (a : Addr) (o : HO) : Pt M := ⟨p.s, p.F, p.Hv, upd p.H a o, p.ad⟩
theorem same_upd {H : Hp} {a : Addr} {o : HO} (h : H a = none) : Same H (upd H a o) := fun b u e => by rw [upd_ne (ne_of_none e h)]; exact e
theorem Pt.Ok.vn {p : Pt M} (ok : p.Ok) {a : Addr} (h : p.H a = none) : p.Hv a = none := by
  cases e : p.Hv a with
  | none => rfl
  | some o => rw [ok.view _ _ e] at h; cases h
theorem ext_lay {p : Pt M} (ok : p.Ok) {a : Addr} {o : HO} (h : p.H a = none) : Ext p (p.lay a o) :=
  ⟨same_upd (ok.vn h), fun b u e _ => same_upd h b u e, fun b u e => by
    by_cases z : b = a
    · subst z; exact .inr (.inl h)
    · exact .inl ⟨u, by rw [← upd_ne (H := p.Hv) (o := o) z]; exact e⟩, fun _ h => .inl h, fun _ _ h => h⟩
theorem ok_lay {p : Pt M} (ok : p.Ok) {a : Addr} {o : HO} (h : p.H a = none) : (p.lay a o).Ok :=
  ⟨fun b u e => by
    by_cases z : b = a
    · subst z
      have e' : upd p.Hv b o b = some u := e
      rw [upd_same] at e'
      show upd p.H b o b = some u
      rw [upd_same]; exact e'
    · have e' : upd p.Hv a o b = some u := e
      rw [upd_ne z] at e'
      show upd p.H a o b = some u
      rw [upd_ne z]; exact ok.view _ _ e', fun b f => by
    have z : b ≠ a := fun z => ok.fn h (z ▸ f)
    show upd p.Hv a o b = none
    rw [upd_ne z]; exact ok.off b f, M.stay ok.rep (same_upd (ok.vn h)) fun b u _ e => same_upd h b u e⟩
theorem ext_hid {p : Pt M} {a : Addr} {o : HO} (h : p.H a = none) : Ext p (p.hid a o) :=
  ⟨Same.rfl', fun b u e _ => same_upd h b u e, fun b u e => .inl ⟨u, e⟩, fun _ h => .inl h, fun _ _ h => h⟩
theorem ok_hid {p : Pt M} (ok : p.Ok) {a : Addr} {o : HO} (h : p.H a = none) : (p.hid a o).Ok :=
  ⟨ok.view.tr (same_upd h), ok.off, M.stay ok.rep Same.rfl' fun b u _ e => same_upd h b u e⟩
def Pt.show' (p : Pt M) (a : Addr) (o : HO) : Pt M := ⟨p.s, p.F, upd p.Hv a o, p.H, p.ad⟩
theorem ok_show {p : Pt M} (ok : p.Ok) {a : Addr} {o : HO} (h : p.H a = some o) (hv : p.Hv a = none) (hf : ¬ p.F a) : (p.show' a o).Ok :=
  ⟨fun b u e => by
    by_cases z : b = a
    · subst z
      have e' : upd p.Hv b o b = some u := e
      rw [upd_same] at e'
      cases e'; exact h
    · have e' : upd p.Hv a o b = some u := e
      rw [upd_ne z] at e'
      exact ok.view _ _ e', fun b f => by
    have z : b ≠ a := fun z => hf (z ▸ f)
    show upd p.Hv a o b = none
    rw [upd_ne z]; exact ok.off b f, M.stay ok.rep (same_upd hv) fun b u _ e => e⟩
theorem ext_show {p q : Pt M} (e : Ext p q) {a : Addr} {o : HO} (hv : q.Hv a = none) (hn : p.H a = none ∨ p.F a) : Ext p (q.show' a o) :=
  ⟨e.view.tr (same_upd hv), e.frame, fun b u r => by
    by_cases z : b = a
    · subst z; exact .inr (hn.elim .inl fun f => .inr (.inl f))
    · have r' : upd q.Hv a o b = some u := r
      rw [upd_ne z] at r'
      exact e.new _ _ r', e.foot, e.ad⟩
theorem ROk.seen {p q : Pt M} (e : Ext p q) (ok : q.Ok) {r : R} {v : V} (h : ROk p q r v) : ∃ q', Ext p q' ∧ q'.Ok ∧ q'.H = q.H ∧ q'.s = q.s ∧ Den K q'.ad q'.Hv r.d v := by
  cases r with
  | sh d => exact ⟨q, e, ok, rfl, rfl, h⟩
  | fr d =>
    obtain ⟨a, o, rfl, h1, h2, h3, h4, h5⟩ := h
    exact ⟨q.show' a o, ext_show e h2 h4, ok_show ok h1 h2 h3, rfl, rfl, (h5.mono (same_upd h2) fun _ _ h => h).den upd_same⟩
variable (mg : Str → Option Value) (M)
abbrev tR (W : WX) (ee : Ev M R) : TE := tG M mg W (fun p r v q => ROk p q r v) ee
end
section
variable {X : Cx}
theorem _root_.L2.PE.con {e : Expr} {t t' : TE} (h : PE X e t) (i : ∀ σ H Q, t' σ H Q → t σ H Q) : PE X e t' := ⟨fun pins s σ H Q I q => h.run pins s σ H Q I (i _ _ _ q)⟩
theorem _root_.L2.PT.con {e : Expr} {t t' : TT} (h : PT X e t) (i : ∀ σ H Q, t' σ H Q → t σ H Q) : PT X e t' := ⟨fun pins s σ H Q I q => h.run pins s σ H Q I (i _ _ _ q)⟩
theorem _root_.L2.PA.con {e : List Expr} {t t' : TA} (h : PA X e t) (i : ∀ σ H Q, t' σ H Q → t σ H Q) : PA X e t' := ⟨fun pos pins s σ H Q I q => h.run pos pins s σ H Q I (i _ _ _ q)⟩
theorem _root_.L2.PS.con {e : Stmt} {t t' : TS} (h : PS X e t) (i : ∀ D σ H, t' D σ H → t D σ H) : PS X e t' := ⟨fun pins s σ H D I q => h.run pins s σ H D I (i _ _ _ q)⟩
theorem _root_.L2.PSs.con {e : List Stmt} {t t' : TS} (h : PSs X e t) (i : ∀ D σ H, t' D σ H → t D σ H) : PSs X e t' := ⟨fun pins s σ H D I q => h.run pins s σ H D I (i _ _ _ q)⟩
end
def big : Nat := 1000000
theorem big_line {n : Nat} (h : n ≤ big) : n ≤ sizeLine := by
  rw [sizeLine_eq]; exact Nat.le_trans h (by decide)
section
variable {K : PySem.W.Frag} {M : WM K} {mg : Str → Option Value}
theorem XEnds {p q : Pt M} {W : WX} {σ : Sl} {α : Type} {g : Gx M α} {Q Q' : α × M.S → Prop} (e : Ext p q) (h : g.all Q (XEnd M mg p W σ)) (hq : ∀ r, Q r → Q' r) : g.all Q' (XEnd M mg q W σ) :=
  G.all_mono hq (fun _ hx => hx.ext e) h
end
def op {ε α σ : Type} (o : Option α) (s : σ) : G ε (α × σ) := match o with
  | some a => .ret (a, s)
  | none => .bad
section
variable {K : PySem.W.Frag} (M : WM K)
def eVar (i : Nat) : Ev M D := fun ρ s => match ρ[i]? with
  | some (some d) => .ret (d, s)
  | _ => .bad
def eC (d : D) : Ev M D := fun _ s => .ret (d, s)
variable {M}
def eSeen (ee : Ev M R) : Ev M D := fun ρ s => (ee ρ s).bind fun r => .ret (r.1.d, r.2)
def eSh (ee : Ev M D) : Ev M R := fun ρ s => (ee ρ s).bind fun r => .ret (.sh r.1, r.2)
def eBin (f : D → D → Option R) (ea eb : Ev M D) : Ev M R := fun ρ s => (ea ρ s).bind fun a => (eb ρ a.2).bind fun b => op (f a.1 b.1) b.2
def eBinD (f : D → D → Option D) (ea eb : Ev M D) : Ev M D := fun ρ s => (ea ρ s).bind fun a => (eb ρ a.2).bind fun b => op (f a.1 b.1) b.2
def eUn (f : D → Option D) (ea : Ev M D) : Ev M D := fun ρ s => (ea ρ s).bind fun a => op (f a.1) a.2
def eTest (f : D → Option Bool) (ea : Ev M D) : Ev M Bool := fun ρ s => (ea ρ s).bind fun a => op (f a.1) a.2
def eNot (ea : Ev M Bool) : Ev M Bool := fun ρ s => (ea ρ s).bind fun a => .ret (!a.1, a.2)
def eAnd (ea eb : Ev M Bool) : Ev M Bool := fun ρ s => (ea ρ s).bind fun a => if a.1 = true then eb ρ a.2 else .ret (false, a.2)
def eOr (ea eb : Ev M Bool) : Ev M Bool := fun ρ s => (ea ρ s).bind fun a => if a.1 = true then .ret (true, a.2) else eb ρ a.2
def eIf {α : Type} (c : Ev M Bool) (ea eb : Ev M α) : Ev M α := fun ρ s => (c ρ s).bind fun b => if b.1 = true then ea ρ b.2 else eb ρ b.2
def eAndV (t : D → Option Bool) (ea eb : Ev M D) : Ev M D := fun ρ s => (ea ρ s).bind fun a => match t a.1 with
  | some true => eb ρ a.2
  | some false => .ret a
  | none => .bad
def eNil : Ev M (List D) := fun _ s => .ret ([], s)
def eCons (ea : Ev M D) (er : Ev M (List D)) : Ev M (List D) := fun ρ s => (ea ρ s).bind fun a => (er ρ a.2).bind fun r => .ret (a.1 :: r.1, r.2)
def eTup (ea : Ev M (List D)) : Ev M D := fun ρ s => (ea ρ s).bind fun a => if a.1.length ≤ big then .ret (.tup a.1, a.2) else .bad
def eLst (ea : Ev M (List D)) : Ev M R := fun ρ s => (ea ρ s).bind fun a => if a.1.length ≤ big then .ret (.fr (.lst a.1), a.2) else .bad
def eFun (f : List D → Option R) (ea : Ev M (List D)) : Ev M R := fun ρ s => (ea ρ s).bind fun a => op (f a.1) a.2
def eCall (n : Nat) (f : List D → M.S → Gx M R) (dfl : List D) (ea : Ev M (List D)) : Ev M R := fun ρ s => (ea ρ s).bind fun a => if (a.1 ++ dfl).length = n then f (a.1 ++ dfl) a.2 else .bad
end
def OpD {K : PySem.W.Frag} (M : WM K) (f : D → D → Option R) (r : R2) : Prop := ∀ (p : Pt M) (x y : V) (d e : D) (res : R) (Q : VK), p.Ok → Den K p.ad p.Hv d x → Den K p.ad p.Hv e y → f d e = some res →
  (∀ v (q : Pt M), Ext p q → q.Ok → q.s = p.s → ROk p q res v → Q v q.H) → r x y p.H Q
def CallD {K : PySem.W.Frag} (M : WM K) (f : List D → Option R) (r : List V → Hp → VK → Prop) : Prop := ∀ (p : Pt M) (xs : List V) (ds : List D) (res : R) (Q : VK), p.Ok → DenL K p.ad p.Hv ds xs → f ds = some res →
  (∀ v (q : Pt M), Ext p q → q.Ok → q.s = p.s → ROk p q res v → Q v q.H) → r xs p.H Q
section
variable {X : Cx} {M : WM X.K} {W : WX} {e a b : Expr} {es rest : List Expr} {pos : Pos} {ea eb : Ev M D} {er : Ev M R} {el : Ev M (List D)}
theorem ev_seen (h : PE X e (tR M X.mg W er)) : PE X e (tD M X.mg W (eSeen er)) := h.con fun σ H Q ⟨ρ, p, hH, ok, en, q⟩ => by
  subst hH
  refine tG.seq ok en q fun r v q' ex ok' es rk hq => ?_
  obtain ⟨q2, e2, ok2, hH, hs, dn⟩ := rk.seen ex ok'
  rw [← hH]
  exact hq v q2 e2 ok2 (hs.trans es) dn
theorem ev_sh (h : PE X e (tD M X.mg W ea)) : PE X e (tR M X.mg W (eSh ea)) := h.con fun σ H Q ⟨ρ, p, hH, ok, en, q⟩ => by
  subst hH
  exact tG.seq ok en q fun r v q' ex ok' es rk hq => hq v q' ex ok' es rk
theorem ev_var (i : Nat) {x : Str} {pos : Pos} (hN : X.N[i]? = some x := by rfl) (hv : Vis X.env.scope x := by first | exact Or.inl rfl | exact Or.inr (Or.inl rfl) | exact Or.inr (Or.inr rfl)) (hd : (x == ("__debug__" : Str)) = false := by decide)
    (hcd : (x == ("__classdict__" : Str)) = false := by decide) : PE X (.Name x pos) (tD M X.mg W (eVar M i)) := (pe_var hN hv hd hcd).con fun σ H Q ⟨ρ, p, hH, ok, en, q⟩ => by
  subst hH
  cases z : ρ[i]? with
  | none => simp only [eVar, z] at q; exact q.elim
  | some o =>
    cases o with
    | none => simp only [eVar, z] at q; exact q.elim
    | some d =>
      obtain ⟨v, h1, h2⟩ := en.get i d z
      simp only [eVar, z] at q
      exact ⟨v, h1, q v p (Ext.refl p) ok rfl h2⟩
theorem ev_const {v : V} {d : D} (h : PE X e (tC v)) (hd : ∀ ad Hv, Den X.K ad Hv d v) : PE X e (tD M X.mg W (eC M d)) := h.con fun σ H Q ⟨ρ, p, hH, ok, en, q⟩ => by
  subst hH
  exact q v p (Ext.refl p) ok rfl (hd _ _)
theorem ev_int {i : Int} {j : Nat} {pos : Pos} : PE X (.Constant (.int i) j pos) (tD M X.mg W (eC M (.int i))) := ev_const pe_int fun _ _ => rfl
theorem ev_bl {i : Bool} {j : Nat} {pos : Pos} : PE X (.Constant (.bool i) j pos) (tD M X.mg W (eC M (.bl i))) := ev_const pe_bl fun _ _ => rfl
theorem ev_non {j : Nat} {pos : Pos} : PE X (.Constant .none j pos) (tD M X.mg W (eC M .non)) := ev_const pe_non fun _ _ => rfl
theorem ev_str {x : Str} {j : Nat} {pos : Pos} (l : List Nat) (h : x = ⟨l.toArray⟩ := by decide +kernel) : PE X (.Constant (.str x) j pos) (tD M X.mg W (eC M (.str l))) := ev_const pe_str fun _ _ => by subst h; rfl
theorem ev_glob {x : Str} {v : V} {u : Value} {d : D} {pos : Pos} (hg : Gl X x) (hm : X.mg x = some u) (r : RelV v u) (hd : ∀ ad Hv, Den X.K ad Hv d v) (hdb : (x == ("__debug__" : Str)) = false := by decide) :
    PE X (.Name x pos) (tD M X.mg W (eC M d)) := ev_const (pe_glob hg hm r hdb) hd
theorem ev_bin {o : Operator} {r : R2} {f : D → D → Option R} (ho : OpR X (binaryOp o) r) (hf : OpD M f r) (ha : PE X a (tD M X.mg W ea)) (hb : PE X b (tD M X.mg W eb)) :
    PE X (.BinOp a o b pos) (tR M X.mg W (eBin f ea eb)) := (pe_op ho ha hb).con fun σ H Q ⟨ρ, p, hH, ok, en, q⟩ => by
  subst hH
  show tD M X.mg W ea σ p.H fun x H1 => tD M X.mg W eb σ H1 fun y H2 => r x y H2 Q
  refine tG.seq ok en q fun r1 x q1 ex1 ok1 es1 dx h1 => ?_
  rw [← es1] at h1
  refine tG.seq ok1 (en.ext ex1) (XEnds ex1 h1 fun _ h => h) fun r2 y q2 ex2 ok2 es2 dy h2 => ?_
  cases z : f r1.1 r2.1 with
  | none => simp only [op, z] at h2; exact h2.elim
  | some res =>
    simp only [op, z] at h2
    exact hf q2 x y _ _ res Q ok2 (ex2.den dx) dy z fun v q3 e3 ok3 es3 rk => h2 v q3 ((ex1.trans ex2).trans e3) ok3 (es3.trans es2) (rk.tr (ex1.trans ex2) e3)
theorem ev_cmp {o : CmpOp} {r : R2} {f : D → D → Option D} (ho : OpR X (compareOp o) r) (hf : OpD M (fun d e => (f d e).map R.sh) r) (ha : PE X a (tD M X.mg W ea)) (hb : PE X b (tD M X.mg W eb)) (hm : behindInMarks o b = false := by rfl) :
    PE X (.Compare a [o] [b] pos) (tD M X.mg W (eBinD f ea eb)) := (pe_cmpR ho ha hb hm).con fun σ H Q ⟨ρ, p, hH, ok, en, q⟩ => by
  subst hH
  show tD M X.mg W ea σ p.H fun x H1 => tD M X.mg W eb σ H1 fun y H2 => r x y H2 Q
  refine tG.seq ok en q fun r1 x q1 ex1 ok1 es1 dx h1 => ?_
  rw [← es1] at h1
  refine tG.seq ok1 (en.ext ex1) (XEnds ex1 h1 fun _ h => h) fun r2 y q2 ex2 ok2 es2 dy h2 => ?_
  cases z : f r1.1 r2.1 with
  | none => simp only [op, z] at h2; exact h2.elim
  | some res =>
    simp only [op, z] at h2
    exact hf q2 x y _ _ (.sh res) Q ok2 (ex2.den dx) dy (by show Option.map R.sh (f r1.1 r2.1) = _; rw [z]; rfl) fun v q3 e3 ok3 es3 rk => h2 v q3 ((ex1.trans ex2).trans e3) ok3 (es3.trans es2) rk
def TrD {K : PySem.W.Frag} (M : WM K) (f : D → Option Bool) : Prop := ∀ (p : Pt M) (x : V) (d : D) (k : Bool), p.Ok → Den K p.ad p.Hv d x → f d = some k → TruV K x p.H k
theorem tt_val {f : D → Option Bool} (hf : TrD M f) (ha : PE X a (tD M X.mg W ea)) (he : ∀ whole, isTrue a X.env whole = (do let v ← whole; standAt a.pos; holding [v] (truthy v)) := by intro _; rfl) :
    PT X a (tB' M X.mg W (eTest f ea)) := (pt_truth ha he).con fun σ H Q ⟨ρ, p, hH, ok, en, q⟩ => by
  subst hH
  show tD M X.mg W ea σ p.H fun x H' => ∃ k, TruV X.K x H' k ∧ Q k H'
  refine tG.seq ok en q fun r1 x q1 ex1 ok1 es1 dx h1 => ?_
  cases z : f r1.1 with
  | none => simp only [op, z] at h1; exact h1.elim
  | some k =>
    simp only [op, z] at h1
    exact ⟨k, hf q1 x _ k ok1 dx z, h1 q1 ex1 ok1 es1⟩
theorem tt_cmp {o : CmpOp} {r : R2} {f : D → D → Option Bool} (ho : OpR X (compareOp o) r) (hf : OpD M (fun d e => (f d e).map fun k => R.sh (.bl k)) r) (ha : PE X a (tD M X.mg W ea)) (hb : PE X b (tD M X.mg W eb)) (hm : behindInMarks o b = false := by rfl) :
    PT X (.Compare a [o] [b] pos) (tB' M X.mg W (fun ρ s => (ea ρ s).bind fun x => (eb ρ x.2).bind fun y => op (f x.1 y.1) y.2)) := (pt_cmpR ho ha hb hm).con fun σ H Q ⟨ρ, p, hH, ok, en, q⟩ => by
  subst hH
  show tD M X.mg W ea σ p.H fun x H1 => tD M X.mg W eb σ H1 fun y H2 => r x y H2 fun x H' => ∃ k, x = .bl k ∧ Q k H'
  refine tG.seq ok en q fun r1 x q1 ex1 ok1 es1 dx h1 => ?_
  rw [← es1] at h1
  refine tG.seq ok1 (en.ext ex1) (XEnds ex1 h1 fun _ h => h) fun r2 y q2 ex2 ok2 es2 dy h2 => ?_
  cases z : f r1.1 r2.1 with
  | none => simp only [op, z] at h2; exact h2.elim
  | some res =>
    simp only [op, z] at h2
    exact hf q2 x y _ _ (.sh (.bl res)) _ ok2 (ex2.den dx) dy (by show Option.map _ (f r1.1 r2.1) = _; rw [z]; rfl) fun v q3 e3 ok3 es3 rk => ⟨res, rk, h2 q3 ((ex1.trans ex2).trans e3) ok3 (es3.trans es2)⟩
variable {ta tb tc : Ev M Bool}
theorem tt_not (ha : PT X a (tB' M X.mg W ta)) : PT X (.UnaryOp .Not a pos) (tB' M X.mg W (eNot ta)) := (pt_not ha).con fun σ H Q ⟨ρ, p, hH, ok, en, q⟩ => by
  subst hH
  show tB' M X.mg W ta σ p.H fun c H1 => Q (!c) H1
  exact tB'.seq ok en q fun r1 q1 ex1 ok1 es1 h1 => h1 q1 ex1 ok1 es1
theorem _root_.L2.PW.con {X : Cx} {e : Expr} {t t' : TT} (h : PW X e t) (i : ∀ σ H Q, t' σ H Q → t σ H Q) : PW X e t' := ⟨fun wh pins s σ H Q I q => h.run wh pins s σ H Q I (i _ _ _ q)⟩
theorem tw_or1 (ha : PT X a (tB' M X.mg W ta)) : PW X (.BoolOp .Or [a] pos) (tB' M X.mg W ta) := pw_or1 ha
theorem tw_or (ha : PT X a (tB' M X.mg W ta)) (hb : PW X (.BoolOp .Or (b :: rest) pos) (tB' M X.mg W tb)) : PW X (.BoolOp .Or (a :: b :: rest) pos) (tB' M X.mg W (eOr ta tb)) := (pw_or ha hb).con fun σ H Q ⟨ρ, p, hH, ok, en, q⟩ => by
  subst hH
  show tB' M X.mg W ta σ p.H fun c H1 => if c = true then Q true H1 else tB' M X.mg W tb σ H1 Q
  refine tB'.seq ok en q fun r1 q1 ex1 ok1 es1 h1 => ?_
  obtain ⟨c, s1⟩ := r1
  cases c with
  | true => exact (show (G.ret (true, s1)).all _ _ from h1) q1 ex1 ok1 es1
  | false =>
    have h1' : (tb ρ s1).all _ (XEnd M X.mg p W σ) := h1
    rw [← show q1.s = s1 from es1] at h1'
    exact ⟨ρ, q1, rfl, ok1, en.ext ex1, XEnds ex1 h1' fun r h q2 e2 ok2 es2 => h q2 (ex1.trans e2) ok2 es2⟩
theorem tt_chain {c : Expr} {o o' : CmpOp} {r r' : R2} {f f' : D → D → Option Bool} {ec : Ev M D} (ho : OpR X (compareOp o) r) (ho' : OpR X (compareOp o') r') (hf : OpD M (fun d e => (f d e).map fun k => R.sh (.bl k)) r) (hf' : OpD M (fun d e => (f' d e).map fun k => R.sh (.bl k)) r')
    (ha : PE X a (tD M X.mg W ea)) (hb : PE X b (tD M X.mg W eb)) (hc : PE X c (tD M X.mg W ec)) (hp : PE X (.Compare a [o, o'] [b, c] pos) (tChain r r' (tD M X.mg W ea) (tD M X.mg W eb) (tD M X.mg W ec))) :
    PE X (.Compare a [o, o'] [b, c] pos) (tD M X.mg W (fun ρ s => (ea ρ s).bind fun x => (eb ρ x.2).bind fun y => (op (f x.1 y.1) y.2).bind fun k => if k.1 = true then (ec ρ k.2).bind fun z => (op (f' y.1 z.1) z.2).bind fun m => .ret (.bl m.1, m.2) else .ret (.bl false, k.2))) := hp.con fun σ H Q ⟨ρ, p, hH, ok, en, q⟩ => by
  subst hH
  show tD M X.mg W ea σ p.H fun x H1 => tD M X.mg W eb σ H1 fun y H2 => r x y H2 fun z H3 => ∃ k, z = .bl k ∧ (if k = true then tD M X.mg W ec σ H3 fun w' H4 => r' y w' H4 Q else Q (.bl false) H3)
  refine tG.seq ok en q fun r1 x q1 ex1 ok1 es1 dx h1 => ?_
  rw [← es1] at h1
  refine tG.seq ok1 (en.ext ex1) (XEnds ex1 h1 fun _ h => h) fun r2 y q2 ex2 ok2 es2 dy h2 => ?_
  cases z : f r1.1 r2.1 with
  | none => simp only [op, z] at h2; exact h2.elim
  | some k =>
    simp only [op, z, G.bind_ret] at h2
    refine hf q2 x y _ _ (.sh (.bl k)) _ ok2 (ex2.den dx) dy (by show Option.map _ (f r1.1 r2.1) = _; rw [z]; rfl) fun v q3 e3 ok3 es3 rk => ⟨k, rk, ?_⟩
    have e13 := (ex1.trans ex2).trans e3
    cases k with
    | false => exact (show (G.ret (D.bl false, r2.2)).all _ _ from h2) (.bl false) q3 e13 ok3 (es3.trans es2) rfl
    | true =>
      have h3 : ((ec ρ r2.2).bind _).all _ (XEnd M X.mg q1 W σ) := h2
      rw [← show q3.s = r2.2 from es3.trans es2] at h3
      show tD M X.mg W ec σ q3.H fun w' H4 => r' y w' H4 Q
      refine tG.seq ok3 (en.ext e13) (XEnds (ex2.trans e3) h3 fun _ h => h) fun r4 w q4 ex4 ok4 es4 dw h4 => ?_
      cases z' : f' r2.1 r4.1 with
      | none => simp only [op, z'] at h4; exact h4.elim
      | some m =>
        simp only [op, z', G.bind_ret] at h4
        exact hf' q4 y w _ _ (.sh (.bl m)) _ ok4 ((e3.trans ex4).den dy) dw (by show Option.map _ (f' r2.1 r4.1) = _; rw [z']; rfl) fun v5 q5 e5 ok5 es5 rk5 => h4 v5 q5 ((e13.trans ex4).trans e5) ok5 (es5.trans es4) rk5
theorem ev_one {o} (h : PE X a (tD M X.mg W ea)) : PE X (.BoolOp o [a] pos) (tD M X.mg W ea) := pe_one h
theorem ev_and {f : D → Option Bool} (hf : TrD M f) (ha : PE X a (tD M X.mg W ea)) (hb : PE X (.BoolOp .And (b :: rest) pos) (tD M X.mg W eb)) : PE X (.BoolOp .And (a :: b :: rest) pos) (tD M X.mg W (eAndV f ea eb)) := (pe_andT ha hb).con fun σ H Q ⟨ρ, p, hH, ok, en, q⟩ => by
  subst hH
  show tD M X.mg W ea σ p.H fun x H1 => ∃ k, TruV X.K x H1 k ∧ if k = true then tD M X.mg W eb σ H1 Q else Q x H1
  refine tG.seq ok en q fun r1 x q1 ex1 ok1 es1 dx h1 => ?_
  cases z : f r1.1 with
  | none => simp only [z] at h1; exact h1.elim
  | some k =>
    refine ⟨k, hf q1 x _ k ok1 dx z, ?_⟩
    cases k with
    | true =>
      simp only [z] at h1
      rw [← es1] at h1
      exact ⟨ρ, q1, rfl, ok1, en.ext ex1, XEnds ex1 h1 fun r h v q2 e2 ok2 es2 => h v q2 (ex1.trans e2) ok2 es2⟩
    | false =>
      simp only [z] at h1
      exact h1 x q1 ex1 ok1 es1 dx
theorem ea_nil : PA X [] (tA M X.mg W (eNil : Ev M (List D))) := pa_nil.con fun σ H Q ⟨ρ, p, hH, ok, en, q⟩ => by
  subst hH
  exact q [] p (Ext.refl p) ok rfl DenL.nil
theorem ea_cons (ha : PE X e (tD M X.mg W ea)) (hr : PA X es (tA M X.mg W el)) (hs : starEach (e :: es) X.env = (false, eval e X.env) :: starEach es X.env := by rfl) : PA X (e :: es) (tA M X.mg W (eCons ea el)) := (pa_cons ha hr hs).con fun σ H Q ⟨ρ, p, hH, ok, en, q⟩ => by
  subst hH
  show tD M X.mg W ea σ p.H fun x H1 => tA M X.mg W el σ H1 fun xs H2 => Q (x :: xs) H2
  refine tG.seq ok en q fun r1 x q1 ex1 ok1 es1 dx h1 => ?_
  rw [← es1] at h1
  refine tA.seq ok1 (en.ext ex1) (XEnds ex1 h1 fun _ h => h) fun r2 ys q2 ex2 ok2 es2 dy h2 => ?_
  exact h2 _ q2 (ex1.trans ex2) ok2 es2 (DenL.cons (ex2.den dx) dy)
theorem den_lay {p : Pt M} (ok : p.Ok) {ds : List D} {vs : List V} {a : Addr} {ho : HO} (h : TupHo ho vs ds) (dl : DenL X.K p.ad p.Hv ds vs) (ha : p.H a = none) : Den X.K (p.lay a ho).ad (p.lay a ho).Hv (.tup ds) (.ref a) := h.den upd_same ((ext_lay (o := ho) ok ha).denL dl)
theorem fin2 {p : Pt M} (ok : p.Ok) {ds : List D} {vs : List V} {Q : VK} (dl : DenL X.K p.ad p.Hv ds vs) (q : ∀ v (q : Pt M), Ext p q → q.Ok → q.s = p.s → Den X.K q.ad q.Hv (.tup ds) v → Q v q.H) : Tup2 p.H vs Q := by
  cases hb : ixb ds with
  | false => exact .inl fun a ha => q (.ref a) (p.lay a (.tup vs)) (ext_lay ok ha) (ok_lay ok ha) rfl (den_lay ok (.inl ⟨rfl, hb⟩) dl ha)
  | true => exact .inr fun a o hc hd ha => q (.ref a) (p.lay a (.frz o (.tup vs))) (ext_lay ok ha) (ok_lay ok ha) rfl (den_lay ok (.inr ⟨o, rfl, hc, hd⟩) dl ha)
theorem ev_tup {x1} (h : PA X es (tA M X.mg W el)) : PE X (.Tuple es x1 pos) (tD M X.mg W (eTup el)) := (pe_tup2 h).con fun σ H Q ⟨ρ, p, hH, ok, en, q⟩ => by
  subst hH
  show tA M X.mg W el σ p.H fun xs H1 => xs.length ≤ sizeLine ∧ Tup2 H1 xs Q
  refine tA.seq ok en q fun r1 xs q1 ex1 ok1 es1 dx h1 => ?_
  by_cases hl : r1.1.length ≤ big
  · rw [if_pos hl] at h1
    exact ⟨by rw [dx.length]; exact big_line hl, fin2 ok1 dx fun v q2 e2 ok2 es2 dv => h1 v q2 (ex1.trans e2) ok2 (es2.trans es1) dv⟩
  · rw [if_neg hl] at h1; exact h1.elim
theorem ev_lst (h : PA X es (tA M X.mg W el)) : PE X (.List es pos) (tR M X.mg W (eLst el)) := (pe_lst h).con fun σ H Q ⟨ρ, p, hH, ok, en, q⟩ => by
  subst hH
  show tA M X.mg W el σ p.H fun xs H1 => xs.length ≤ sizeLine ∧ ∀ p, H1 p = none → Q (.ref p) (upd H1 p (.lst xs))
  refine tA.seq ok en q fun r1 xs q1 ex1 ok1 es1 dx h1 => ?_
  by_cases hl : r1.1.length ≤ big
  · rw [if_pos hl] at h1
    refine ⟨by rw [dx.length]; exact big_line hl, fun a ha => ?_⟩
    refine h1 (.ref a) (q1.hid a (.lst xs)) (ex1.trans (ext_hid ha)) (ok_hid ok1 ha) es1 ⟨a, .lst xs, rfl, upd_same, ok1.vn ha, ok1.fn ha, ?_, dx⟩
    cases z : p.H a with
    | none => exact .inl rfl
    | some u =>
      refine .inr (Classical.byContradiction fun n => ?_)
      rw [ex1.frame a u z n] at ha; cases ha
  · rw [if_neg hl] at h1; exact h1.elim
variable {k j : Nat} {n : Nat} {fs : List D → M.S → Gx M R} {dfl : List D} {x : Str} {pp : Pos}
theorem ev_call (c : DefOk X.prog X.w X.K X.mg X.base M k x n fs dfl) (hr : Room j X.A) (tk : Takes X W) (ha : PA X (e :: es) (tA M X.mg W el)) (hkj : k ≤ j := by decide) (hg : Gl X x := by rfl)
    (hdb : (x == ("__debug__" : Str)) = false := by decide) (he : starEach (e :: es) X.env = (false, eval e X.env) :: starEach es X.env := by rfl)
    (hpl : (backTo pos (starEach es X.env)).any (·.1) = false := by rfl) :
    PE X (.Call (.Name x pp) (e :: es) [] pos) (tR M X.mg W (eCall n fs dfl el)) := by
  obtain ⟨f, fd, ps, ds, dvs, F, hm, hk, hb, hd, hdd⟩ := c.ex
  refine (pe_callSD F (hr.mono hkj) hg hm hk hb hd (passAt tk) ha hdb he hpl).con fun σ H Q ⟨ρ, p, hH, ok, en, q⟩ => ?_
  subst hH
  show tA M X.mg W el σ p.H fun vs H1 => spV M X.mg n fs (vs ++ dvs) H1 Q (WE W σ)
  refine tA.seq ok en q fun r1 xs q1 ex1 ok1 es1 dx h1 => ?_
  have dl : DenL X.K q1.ad q1.Hv (r1.1 ++ dfl) (xs ++ dvs) := dx.append (hdd _ _)
  by_cases hl : (r1.1 ++ dfl).length = n
  · rw [if_pos hl] at h1
    rw [← es1] at h1
    exact ⟨r1.1 ++ dfl, q1, by rw [dl.length]; exact hl, rfl, ok1, dl, G.all_mono (fun r h v q2 e2 ok2 es2 rk => h v q2 (ex1.trans e2) ok2 es2 (rk.tr ex1 e2)) (fun x h cls dd q2 e2 ok2 es2 xk => h cls dd q2 (ex1.trans e2) ok2 es2 xk) h1⟩
  · rw [if_neg hl] at h1; exact h1.elim
theorem ev_fun {id : String} {r : List V → Hp → VK → Prop} {f : List D → Option R} (hc : CallR X (.builtin id) r) (hf : CallD M f r) (hm : X.mg x = none) (hv : bootBuiltins x = some (.builtin id)) (ha : PA X (e :: es) (tA M X.mg W el)) (hg : Gl X x := by rfl) (hn : x ≠ "__name__" := by decide)
    (hdb : (x == ("__debug__" : Str)) = false := by decide) (he : starEach (e :: es) X.env = (false, eval e X.env) :: starEach es X.env := by rfl)
    (hpl : (backTo pos (starEach es X.env)).any (·.1) = false := by rfl) : PE X (.Call (.Name x pp) (e :: es) [] pos) (tR M X.mg W (eFun f el)) := (pe_callB hc hg hm hv ha hn hdb he hpl).con fun σ H Q ⟨ρ, p, hH, ok, en, q⟩ => by
  subst hH
  show tA M X.mg W el σ p.H fun vs H1 => r vs H1 Q
  refine tA.seq ok en q fun r1 xs q1 ex1 ok1 es1 dx h1 => ?_
  cases z : f r1.1 with
  | none => simp only [op, z] at h1; exact h1.elim
  | some res =>
    simp only [op, z] at h1
    exact hf q1 xs _ res Q ok1 dx z fun v q3 e3 ok3 es3 rk => h1 v q3 (ex1.trans e3) ok3 (es3.trans es1) (rk.tr ex1 e3)
theorem ev_typ {id : String} {r : List V → Hp → VK → Prop} {f : List D → Option R} (hc : CallR X (.type id) r) (hf : CallD M f r) (hm : X.mg x = none) (hv : bootBuiltins x = some (.type id)) (ha : PA X (e :: es) (tA M X.mg W el)) (hg : Gl X x := by rfl) (hn : x ≠ "__name__" := by decide)
    (hdb : (x == ("__debug__" : Str)) = false := by decide) (he : starEach (e :: es) X.env = (false, eval e X.env) :: starEach es X.env := by rfl)
    (hpl : (backTo pos (starEach es X.env)).any (·.1) = false := by rfl) : PE X (.Call (.Name x pp) (e :: es) [] pos) (tR M X.mg W (eFun f el)) := (pe_callTy hc hg hm hv ha hn hdb he hpl).con fun σ H Q ⟨ρ, p, hH, ok, en, q⟩ => by
  subst hH
  show tA M X.mg W el σ p.H fun vs H1 => r vs H1 Q
  refine tA.seq ok en q fun r1 xs q1 ex1 ok1 es1 dx h1 => ?_
  cases z : f r1.1 with
  | none => simp only [op, z] at h1; exact h1.elim
  | some res =>
    simp only [op, z] at h1
    exact hf q1 xs _ res Q ok1 dx z fun v q3 e3 ok3 es3 rk => h1 v q3 (ex1.trans e3) ok3 (es3.trans es1) (rk.tr ex1 e3)
end
theorem str_app (a b : List Nat) : (⟨a.toArray⟩ : Str) ++ (⟨b.toArray⟩ : Str) = ⟨(a ++ b).toArray⟩ := by
  show (⟨a.toArray ++ b.toArray⟩ : Str) = _
  simp
theorem str_len (a : List Nat) : (⟨a.toArray⟩ : Str).length = a.length := by simp [Str.length]
theorem str_tl (a : List Nat) : (⟨a.toArray⟩ : Str).cps.toList = a := rfl
theorem str_inj {a b : List Nat} : ((⟨a.toArray⟩ : Str) = ⟨b.toArray⟩) ↔ a = b := by
  constructor
  · intro h
    have := congrArg (fun s : Str => s.cps.toList) h
    simpa using this
  · intro h; rw [h]
section
variable {K : PySem.W.Frag} {M : WM K}
theorem fin_sh {p : Pt M} {d : D} {v : V} {Q : VK} (ok : p.Ok) (q : ∀ v (q : Pt M), Ext p q → q.Ok → q.s = p.s → ROk p q (.sh d) v → Q v q.H) (h : Den K p.ad p.Hv d v) : Q v p.H := q v p (Ext.refl p) ok rfl h
theorem fin_tup {p : Pt M} {ds : List D} {vs : List V} {Q : VK} (ok : p.Ok) (q : ∀ v (q : Pt M), Ext p q → q.Ok → q.s = p.s → ROk p q (.sh (.tup ds)) v → Q v q.H) (h : DenL K p.ad p.Hv ds vs) : Tup2 p.H vs Q := by
  cases hb : ixb ds with
  | false => exact .inl fun a ha => q (.ref a) (p.lay a (.tup vs)) (ext_lay ok ha) (ok_lay ok ha) rfl ((show TupHo (.tup vs) vs ds from .inl ⟨rfl, hb⟩).den upd_same ((ext_lay ok ha).denL h))
  | true => exact .inr fun a o hc hd ha => q (.ref a) (p.lay a (.frz o (.tup vs))) (ext_lay ok ha) (ok_lay ok ha) rfl ((show TupHo (.frz o (.tup vs)) vs ds from .inr ⟨o, rfl, hc, hd⟩).den upd_same ((ext_lay ok ha).denL h))
theorem fin_lst {p : Pt M} {ds : List D} {vs : List V} {a : Addr} {Q : VK} (ok : p.Ok) (q : ∀ v (q : Pt M), Ext p q → q.Ok → q.s = p.s → ROk p q (.fr (.lst ds)) v → Q v q.H) (h : DenL K p.ad p.Hv ds vs) (ha : p.H a = none) : Q (.ref a) (upd p.H a (.lst vs)) :=
  q (.ref a) (p.hid a (.lst vs)) (ext_hid ha) (ok_hid ok ha) rfl ⟨a, .lst vs, rfl, upd_same, ok.vn ha, ok.fn ha, .inl ha, h⟩
theorem sqT_H {p : Pt M} (ok : p.Ok) {a : Addr} {vs : List V} (h : SqT K p.Hv a vs) : SqT K p.H a vs := sqT_same ok.view h
def addD : D → D → Option R
  | .int i, .int j => some (.sh (.int (i + j)))
  | .str a, .str b => if a.length + b.length ≤ big then some (.sh (.str (a ++ b))) else none
  | .tup a, .tup b => if a.length + b.length ≤ big then some (.sh (.tup (a ++ b))) else none
  | .lst a, .lst b => if a.length + b.length ≤ big then some (.fr (.lst (a ++ b))) else none
  | _, _ => none
def rAddD (K : PySem.W.Frag) : R2 := fun x y H Q => (rI0 (fun i j => .int (i + j)) x y H Q) ∨ (∃ i j, x = .str i ∧ y = .str j ∧ i.length + j.length ≤ sizeLine ∧ Q (.str (i ++ j)) H) ∨ rCatA2 K x y H Q ∨ rCat x y H Q
theorem or_add {X : Cx} : OpR X (binaryOp .Add) (rAddD X.K) := op_add.or (op_add_str.or (op_catA2.or op_cat))
theorem od_add : OpD M addD (rAddD K) := fun p x y d e res Q ok hx hy hf q => by
  cases d <;> cases e <;> first | (simp only [addD] at hf; done) | skip
  all_goals try (simp only [addD] at hf; cases hf; done)
  · cases hx; cases hy; cases hf
    exact .inl ⟨_, _, rfl, rfl, fin_sh ok q rfl⟩
  · cases hx; cases hy
    simp only [addD] at hf
    split at hf
    · rename_i hl
      cases hf
      refine .inr (.inl ⟨_, _, rfl, rfl, ?_, ?_⟩)
      · rw [str_len, str_len]; exact big_line hl
      · rw [str_app]; exact fin_sh ok q rfl
    · cases hf
  · simp only [addD] at hf
    split at hf
    · rename_i hl
      cases hf
      obtain ⟨a, vs, rfl, h1, h2, n2⟩ := hx
      obtain ⟨b, ws, rfl, h3, h4, n4⟩ := hy
      refine .inr (.inr (.inl ⟨a, b, vs, ws, rfl, rfl, sqT_H ok h1, sqT_H ok h3, ?_, fun e => ?_, fun _ e => ?_, fun _ _ => ?_⟩))
      · rw [h2.length, h4.length]; exact big_line hl
      · subst e
        have e := h2.nil_of
        subst e
        exact fin_sh ok q ⟨b, ws, rfl, h3, h4, n4⟩
      · subst e
        have e := h4.nil_of
        subst e
        exact fin_sh ok q ⟨a, vs, rfl, h1, by simpa using h2, by simpa using n2⟩
      · exact fin_tup ok q (h2.append h4)
    · cases hf
  · simp only [addD] at hf
    split at hf
    · rename_i hl
      cases hf
      obtain ⟨a, vs, rfl, h1, h2⟩ := hx
      obtain ⟨b, ws, rfl, h3, h4⟩ := hy
      refine .inr (.inr (.inr ⟨a, b, vs, ws, rfl, rfl, ok.view _ _ h1, ok.view _ _ h3, ?_, fun p hp => ?_⟩))
      · rw [h2.length, h4.length]; exact big_line hl
      · exact fin_lst ok q (h2.append h4) hp
    · cases hf
def int2 (C : Int → Int → Bool) (g : Int → Int → Int) : D → D → Option R
  | .int i, .int j => if C i j = true then some (.sh (.int (g i j))) else none
  | _, _ => none
theorem od_int {C : Int → Int → Bool} {C' : Int → Int → Prop} {g : Int → Int → Int} (h : ∀ i j, C i j = true → C' i j) : OpD M (int2 C g) (rI C' fun i j => .int (g i j)) := fun p x y d e res Q ok hx hy hf q => by
  cases d <;> cases e <;> first | (simp only [int2] at hf; done) | skip
  all_goals try (simp only [int2] at hf; cases hf; done)
  cases hx; cases hy
  simp only [int2] at hf
  split at hf
  · rename_i hc
    cases hf
    exact ⟨_, _, rfl, rfl, h _ _ hc, fin_sh ok q rfl⟩
  · cases hf
def int20 (g : Int → Int → Int) : D → D → Option R
  | .int i, .int j => some (.sh (.int (g i j)))
  | _, _ => none
theorem od_int0 {g : Int → Int → Int} : OpD M (int20 g) (rI0 fun i j => .int (g i j)) := fun p x y d e res Q ok hx hy hf q => by
  cases d <;> cases e <;> first | (simp only [int20] at hf; done) | skip
  all_goals try (simp only [int20] at hf; cases hf; done)
  cases hx; cases hy; cases hf
  exact ⟨_, _, rfl, rfl, fin_sh ok q rfl⟩
def subD : D → D → Option R := int20 fun i j => i - j
noncomputable def lk (x : Int) : Int := (Classical.choice ⟨(⟨x, rfl⟩ : {y : Int // y = x})⟩).1
theorem lk_eq (x : Int) : lk x = x := (Classical.choice ⟨(⟨x, rfl⟩ : {y : Int // y = x})⟩).2
noncomputable def small (i : Int) : Bool := decide (-lk (2 ^ 64) < i) && decide (i < lk (2 ^ 64))
theorem small_ok {i : Int} (h : small i = true) : -(2 ^ 64) < i ∧ i < 2 ^ 64 := by
  unfold small at h
  rw [lk_eq, Bool.and_eq_true] at h
  exact ⟨of_decide_eq_true h.1, of_decide_eq_true h.2⟩
theorem small_of {i : Int} (h1 : -(2 ^ 64) < i) (h2 : i < 2 ^ 64) : small i = true := by
  unfold small
  rw [lk_eq, decide_eq_true h1, decide_eq_true h2]; rfl
noncomputable def fdivD : D → D → Option R := int2 (fun _ j => decide (0 < j) && decide (j < lk 1073741824)) fun i j => i / j
def modD : D → D → Option R := int2 (fun _ j => decide (0 < j)) fun i j => i % j
noncomputable def shlD : D → D → Option R := int2 (fun i j => decide (0 ≤ j) && decide (j ≤ lk 1000000) && small i) fun i j => i * 2 ^ j.toNat
theorem od_fdiv : OpD M fdivD (rI CDiv fun i j => .int (i / j)) := od_int fun i j h => by
  rw [lk_eq] at h
  simpa [CDiv] using h
theorem od_mod : OpD M modD (rI (fun _ j => 0 < j) fun i j => .int (i % j)) := od_int fun i j h => by simpa using h
theorem pow_ok {i j : Int} (h : (decide (0 ≤ j) && decide (j ≤ lk 1000000) && small i) = true) : CPow i j := by
  rw [lk_eq] at h
  simp only [Bool.and_eq_true, decide_eq_true_eq] at h
  obtain ⟨⟨h1, h2⟩, h3⟩ := h
  obtain ⟨h4, h5⟩ := small_ok h3
  exact ⟨h1, h2, by omega⟩
theorem od_shl : OpD M shlD (rI CPow fun i j => .int (i * 2 ^ j.toNat)) := od_int fun i j h => pow_ok h
theorem od_sub : OpD M subD (rI0 fun i j => .int (i - j)) := od_int0
def negD : D → Option D
  | .int i => some (.int (-i))
  | _ => none
def truD : D → Option Bool
  | .non => some false
  | .bl b => some b
  | .int i => some (i != 0)
  | .str s => if s.length ≤ big then some (!s.isEmpty) else none
  | .tup l => some (!l.isEmpty)
  | .lst l => some (!l.isEmpty)
  | _ => none
theorem td_tru : TrD M truD := fun p x d k ok hx hf => by
  cases d with
  | non => cases hx; cases hf; rfl
  | bl b => cases hx; cases hf; rfl
  | int i => cases hx; cases hf; rfl
  | str s =>
    cases hx
    simp only [truD] at hf
    split at hf
    · rename_i hl
      cases hf
      refine ⟨by rw [str_len]; exact big_line hl, ?_⟩
      rw [str_len]
      cases s <;> simp
      omega
    · cases hf
  | tup l =>
    cases hf
    obtain ⟨a, vs, rfl, h1, h2, _⟩ := hx
    refine .inr (.inl ⟨vs, sqT_H ok h1, ?_⟩)
    have := h2.length
    cases l <;> cases vs <;> simp_all
  | lst l =>
    cases hf
    obtain ⟨a, vs, rfl, h1, h2⟩ := hx
    refine .inl ⟨vs, SqL.of (ok.view _ _ h1), ?_⟩
    have := h2.length
    cases l <;> cases vs <;> simp_all
  | _ => cases hf
def cmpI (g : Int → Int → Bool) : D → D → Option Bool
  | .int i, .int j => some (g i j)
  | _, _ => none
theorem od_cmpI {g : Int → Int → Bool} : OpD M (fun d e => (cmpI g d e).map fun k => R.sh (.bl k)) (rI0 fun i j => .bl (g i j)) := fun p x y d e res Q ok hx hy hf q => by
  cases d <;> cases e <;> first | (simp [cmpI] at hf; done) | skip
  cases hx; cases hy; cases hf
  exact ⟨_, _, rfl, rfl, fin_sh ok q rfl⟩
def ltD := cmpI fun i j => decide (i < j)
def leD := cmpI fun i j => decide (i ≤ j)
def gtD := cmpI fun i j => decide (j < i)
def geD := cmpI fun i j => decide (j ≤ i)
def blD (f : D → D → Option Bool) : D → D → Option D := fun d e => (f d e).map .bl
theorem od_bl {f : D → D → Option Bool} {r : R2} (h : OpD M (fun d e => (f d e).map fun k => R.sh (.bl k)) r) : OpD M (fun d e => (blD f d e).map R.sh) r := fun p x y d e res Q ok hx hy hf q => h p x y d e res Q ok hx hy (by
  show Option.map _ _ = _
  have hf : Option.map R.sh (Option.map D.bl (f d e)) = some res := hf
  rw [Option.map_map] at hf
  exact hf) q
def isNon : D → Bool
  | .non => true
  | _ => false
theorem den_non {p : Pt M} {d : D} {x : V} (h : Den K p.ad p.Hv d x) : decide (x = .non) = isNon d := by
  cases d with
  | non => cases h; rfl
  | bl _ => cases h; rfl
  | int _ => cases h; rfl
  | str _ => cases h; rfl
  | ty _ => cases h; rfl
  | tup _ => obtain ⟨_, _, rfl, _⟩ := h; rfl
  | lst _ => obtain ⟨_, _, rfl, _⟩ := h; rfl
  | dk _ => obtain ⟨_, _, rfl, _⟩ := h; rfl
  | dt _ => obtain ⟨_, _, rfl, _⟩ := h; rfl
  | obj _ => obtain ⟨_, _, rfl⟩ := h; rfl
def isD : D → D → Option Bool
  | d, .non => some (isNon d)
  | _, _ => none
def isnotD : D → D → Option Bool
  | d, .non => some (!isNon d)
  | _, _ => none
theorem od_is : OpD M (fun d e => (isD d e).map fun k => R.sh (.bl k)) (fun x y H Q => y = .non ∧ Q (.bl (decide (x = .non))) H) := fun p x y d e res Q ok hx hy hf q => by
  cases e <;> first | (simp [isD] at hf; done) | skip
  cases hy; cases hf
  refine ⟨rfl, ?_⟩
  rw [den_non hx]
  exact fin_sh ok q rfl
theorem od_isnot : OpD M (fun d e => (isnotD d e).map fun k => R.sh (.bl k)) (fun x y H Q => y = .non ∧ Q (.bl (!decide (x = .non))) H) := fun p x y d e res Q ok hx hy hf q => by
  cases e <;> first | (simp [isnotD] at hf; done) | skip
  cases hy; cases hf
  refine ⟨rfl, ?_⟩
  rw [den_non hx]
  exact fin_sh ok q rfl
mutual
def eqD : D → D → Bool
  | .non, .non => true
  | .bl a, .bl b => a == b
  | .bl a, .int j => (if a then 1 else 0) == j
  | .int i, .bl b => i == (if b then 1 else 0)
  | .int i, .int j => i == j
  | .str a, .str b => a == b
  | .tup a, .tup b => eqDs a b
  | .lst a, .lst b => eqDs a b
  | _, _ => false
def eqDs : List D → List D → Bool
  | [], [] => true
  | x :: xs, y :: ys => eqD x y && eqDs xs ys
  | _, _ => false
end
mutual
def py : D → PyData
  | .non => .none
  | .bl b => .bool b
  | .int i => .int i
  | .str s => .str ⟨s.toArray⟩
  | .tup l => .tuple (pyL l)
  | .lst l => .list (pyL l)
  | _ => .none
def pyL : List D → List PyData
  | [] => []
  | d :: ds => py d :: pyL ds
end
mutual
theorem eqv_py : ∀ (m n : Nat) (d e : D), pl m d = true → pl n e = true → PyData.eqv (py d) (py e) = eqD d e
  | m, n, d, e, h1, h2 => by
    cases d with
    | non => cases e <;> first | rfl | (cases n <;> cases h2; done) | (cases n <;> simp [py, PyData.eqv, eqD])
    | bl b => cases e <;> first | rfl | (cases n <;> cases h2; done) | (cases n <;> simp [py, PyData.eqv, eqD])
    | int i => cases e <;> first | rfl | (cases n <;> cases h2; done) | (cases n <;> simp [py, PyData.eqv, eqD])
    | str s =>
      cases e with
      | str t =>
        show ((⟨s.toArray⟩ : Str) == ⟨t.toArray⟩) = (s == t)
        by_cases h : s = t
        · subst h; simp
        · have h' : ¬ (⟨s.toArray⟩ : Str) = ⟨t.toArray⟩ := fun q => h (str_inj.mp q)
          rw [beq_eq_false_iff_ne.mpr h, beq_eq_false_iff_ne.mpr h']
      | _ => first | rfl | (cases n <;> cases h2; done) | (cases n <;> simp [py, PyData.eqv, eqD])
    | tup l =>
      cases m with
      | zero => cases h1
      | succ m =>
        cases e with
        | tup l' =>
          cases n with
          | zero => cases h2
          | succ n => exact eqv_pyL m n l l' h1 h2
        | _ => first | rfl | (cases n <;> cases h2; done) | (cases n <;> simp [py, PyData.eqv, eqD])
    | lst l =>
      cases m with
      | zero => cases h1
      | succ m =>
        cases e with
        | lst l' =>
          cases n with
          | zero => cases h2
          | succ n => exact eqv_pyL m n l l' h1 h2
        | _ => first | rfl | (cases n <;> cases h2; done) | (cases n <;> simp [py, PyData.eqv, eqD])
    | _ => cases m <;> cases h1
theorem eqv_pyL : ∀ (m n : Nat) (ds es : List D), plL m ds = true → plL n es = true → PyData.eqvAll (pyL ds) (pyL es) = eqDs ds es
  | m, n, [], [], _, _ => rfl
  | m, n, [], _ :: _, _, _ => rfl
  | m, n, _ :: _, [], _, _ => rfl
  | m, n, d :: ds, e :: es, h1, h2 => by
    have h1' : (pl m d && plL m ds) = true := by cases m <;> exact h1
    have h2' : (pl n e && plL n es) = true := by cases n <;> exact h2
    rw [Bool.and_eq_true] at h1' h2'
    show (PyData.eqv (py d) (py e) && PyData.eqvAll (pyL ds) (pyL es)) = (eqD d e && eqDs ds es)
    rw [eqv_py m n d e h1'.1 h2'.1, eqv_pyL m n ds es h1'.2 h2'.2]
end
mutual
theorem lay_py : ∀ (n : Nat) (d : D), pl n d = true → (py d).canLay0 = true ∧ (py d).depth ≤ n
  | n, d, h => by
    cases d with
    | non => cases n <;> exact ⟨rfl, Nat.zero_le _⟩
    | bl b => cases n <;> exact ⟨rfl, Nat.zero_le _⟩
    | int i => cases n <;> exact ⟨rfl, Nat.zero_le _⟩
    | str s =>
      have h' : (s.all fun c => decide (c < 1114112)) = true := by cases n <;> exact h
      refine ⟨?_, by cases n <;> exact Nat.zero_le _⟩
      show PyData.strOk ⟨s.toArray⟩ = true
      unfold PyData.strOk
      simpa using h'
    | tup l =>
      cases n with
      | zero => cases h
      | succ n =>
        obtain ⟨h1, h2⟩ := lay_pyL n l h
        refine ⟨h1, ?_⟩
        show PyData.depth (.tuple (pyL l)) ≤ n + 1
        first | exact Nat.succ_le_succ h2 | (simp only [PyData.depth]; omega)
    | lst l =>
      cases n with
      | zero => cases h
      | succ n =>
        obtain ⟨h1, h2⟩ := lay_pyL n l h
        refine ⟨h1, ?_⟩
        show PyData.depth (.list (pyL l)) ≤ n + 1
        first | exact Nat.succ_le_succ h2 | (simp only [PyData.depth]; omega)
    | _ => cases n <;> cases h
theorem lay_pyL : ∀ (n : Nat) (ds : List D), plL n ds = true → PyData.canLayAll0 (pyL ds) = true ∧ PyData.depthAll (pyL ds) ≤ n
  | n, [], _ => ⟨rfl, Nat.zero_le _⟩
  | n, d :: ds, h => by
    have h' : (pl n d && plL n ds) = true := by cases n <;> exact h
    rw [Bool.and_eq_true] at h'
    obtain ⟨a1, a2⟩ := lay_py n d h'.1
    obtain ⟨b1, b2⟩ := lay_pyL n ds h'.2
    refine ⟨?_, ?_⟩
    · show ((py d).canLay0 && PyData.canLayAll0 (pyL ds)) = true
      rw [a1, b1]; rfl
    · show PyData.depthAll (py d :: pyL ds) ≤ n
      simp only [PyData.depthAll]
      omega
end
mutual
theorem dp_py {ad : Nat → Option Addr} {Hv : Hp} : ∀ (n : Nat) (d : D) (v : V), pl n d = true → Den K ad Hv d v → Dp K Hv v (py d)
  | n, d, v, h, hd => by
    cases d with
    | non => cases hd; exact .non
    | bl b => cases hd; exact .bl b
    | int i => cases hd; exact .int i
    | str s => cases hd; exact .str _
    | tup l =>
      cases n with
      | zero => cases h
      | succ n =>
        obtain ⟨a, vs, rfl, h1, h2, _⟩ := hd
        exact .tup h1 (dp_pyL n l vs h h2)
    | lst l =>
      cases n with
      | zero => cases h
      | succ n =>
        obtain ⟨a, vs, rfl, h1, h2⟩ := hd
        exact .lst (SqL.of h1) (dp_pyL n l vs h h2)
    | _ => cases n <;> cases h
theorem dp_pyL {ad : Nat → Option Addr} {Hv : Hp} : ∀ (n : Nat) (ds : List D) (vs : List V), plL n ds = true → DenL K ad Hv ds vs → DpAll K Hv vs (pyL ds)
  | n, [], vs, _, h => by cases h; exact .nil
  | n, d :: ds, vs, h, hd => by
    have h' : (pl n d && plL n ds) = true := by cases n <;> exact h
    rw [Bool.and_eq_true] at h'
    obtain ⟨v, r, rfl, h1, h2⟩ := hd
    exact .cons (dp_py n d v h'.1 h1) (dp_pyL n ds r h'.2 h2)
end
def strs2 : D → D → Bool
  | .str _, .str _ => true
  | _, _ => false
def eqO (d e : D) : Option Bool := if (strs2 d e || (pl 40 d && pl 40 e)) = true then some (eqD d e) else none
def neO (d e : D) : Option Bool := (eqO d e).map (!·)
theorem shaped_py {d : D} (h : pl 40 d = true) : SeqAt.shaped (py d) = true := by
  obtain ⟨h1, h2⟩ := lay_py 40 d h
  unfold SeqAt.shaped
  rw [h1, decide_eq_true (Nat.le_trans h2 (by decide))]
  rfl
theorem eqO_cases {d e : D} {k : Bool} (h : eqO d e = some k) : (∃ a b, d = .str a ∧ e = .str b ∧ k = (a == b)) ∨ (pl 40 d = true ∧ pl 40 e = true ∧ k = PyData.eqv (py d) (py e)) := by
  unfold eqO at h
  split at h
  · rename_i hc
    cases h
    rw [Bool.or_eq_true] at hc
    rcases hc with hc | hc
    · cases d <;> cases e <;> first | (cases hc; done) | exact .inl ⟨_, _, rfl, rfl, rfl⟩
    · rw [Bool.and_eq_true] at hc
      exact .inr ⟨hc.1, hc.2, (eqv_py 40 40 d e hc.1 hc.2).symm⟩
  · cases h
theorem same_dp {H H' : Hp} (s : Same H H') : (∀ {v : V} {d : PyData}, Dp K H v d → Dp K H' v d) := by
  intro v d h
  refine Dp.rec (motive_1 := fun v d _ => Dp K H' v d) (motive_2 := fun vs ds _ => DpAll K H' vs ds) .non (fun b => .bl b) (fun i => .int i) (fun x => .str x) (fun h1 _ ih => .lst ?_ ih) (fun h1 _ ih => .tup (sqT_same s h1) ih) .nil (fun _ _ i1 i2 => .cons i1 i2) h
  exact sqL_same s h1
theorem od_eq {K : PySem.W.Frag} {M : WM K} : OpD M (fun d e => (eqO d e).map fun k => R.sh (.bl k)) (fun x y H Q => rEq x y H Q ∨ rEqD K x y H Q) := fun p x y d e res Q ok hx hy hf q => by
  cases z : eqO d e with
  | none => simp only [z] at hf; cases hf
  | some k =>
    simp only [z] at hf; cases hf
    rcases eqO_cases z with ⟨a, b, rfl, rfl, rfl⟩ | ⟨h1, h2, rfl⟩
    · cases hx; cases hy
      refine .inl ⟨rfl, ?_⟩
      have e : decide (V.str ⟨a.toArray⟩ = V.str ⟨b.toArray⟩) = (a == b) := by
        by_cases h : a = b
        · subst h; simp
        · rw [beq_eq_false_iff_ne.mpr h]
          exact decide_eq_false fun q => h (str_inj.mp (V.str.inj q))
      rw [e]
      exact fin_sh ok q rfl
    · exact .inr ⟨_, _, same_dp ok.view (dp_py 40 d x h1 hx), same_dp ok.view (dp_py 40 e y h2 hy), shaped_py h1, shaped_py h2, fin_sh ok q rfl⟩
theorem od_ne {K : PySem.W.Frag} {M : WM K} : OpD M (fun d e => (neO d e).map fun k => R.sh (.bl k)) (fun x y H Q => rNe x y H Q ∨ rNeD K x y H Q) := fun p x y d e res Q ok hx hy hf q => by
  cases z : eqO d e with
  | none => simp only [neO, z] at hf; cases hf
  | some k =>
    simp only [neO, z] at hf; cases hf
    rcases eqO_cases z with ⟨a, b, rfl, rfl, rfl⟩ | ⟨h1, h2, rfl⟩
    · cases hx; cases hy
      refine .inl ⟨rfl, ?_⟩
      have e : decide (V.str ⟨a.toArray⟩ = V.str ⟨b.toArray⟩) = (a == b) := by
        by_cases h : a = b
        · subst h; simp
        · rw [beq_eq_false_iff_ne.mpr h]
          exact decide_eq_false fun q => h (str_inj.mp (V.str.inj q))
      rw [e]
      exact fin_sh ok q rfl
    · exact .inr ⟨_, _, same_dp ok.view (dp_py 40 d x h1 hx), same_dp ok.view (dp_py 40 e y h2 hy), shaped_py h1, shaped_py h2, fin_sh ok q rfl⟩
theorem or_eq {X : Cx} (hu : X.A.units + 64 < cLine) : OpR X (compareOp .Eq) (fun x y H Q => rEq x y H Q ∨ rEqD X.K x y H Q) := op_eq.or (op_eqD hu)
theorem or_ne {X : Cx} (hu : X.A.units + 64 < cLine) : OpR X (compareOp .NotEq) (fun x y H Q => rNe x y H Q ∨ rNeD X.K x y H Q) := op_ne.or (op_neD hu)
end
section
variable {K : PySem.W.Frag} {ad : Nat → Option Addr} {Hv : Hp}
def cutL {α : Type} (l : List α) (lo hi : Option Int) : List α := (l.drop (HT.sIx l.length 0 lo)).take (HT.sIx l.length l.length hi - HT.sIx l.length 0 lo)
theorem DenL.cut {ds : List D} {vs : List V} (h : DenL K ad Hv ds vs) (lo hi : Option Int) : DenL K ad Hv (cutL ds lo hi) (cutV vs lo hi) := by
  unfold cutL cutV
  rw [h.length]
  exact (h.drop _).take _
def blsD : List D → Option (List Bool)
  | [] => some []
  | .bl b :: r => (blsD r).map (b :: ·)
  | _ => none
def intsD : List D → Option (List Int)
  | [] => some []
  | .int b :: r => (intsD r).map (b :: ·)
  | _ => none
theorem blsD_den : ∀ {ds : List D} {vs : List V} {bs : List Bool}, blsD ds = some bs → DenL K ad Hv ds vs → vs = bs.map V.bl
  | [], _, _, e, h => by cases e; cases h; rfl
  | .bl b :: r, _, _, e, ⟨v, vs, e2, h, t⟩ => by
    cases z : blsD r with
    | none => simp [blsD, z] at e
    | some l =>
      simp [blsD, z] at e
      subst e
      cases h; cases e2
      rw [blsD_den z t]; rfl
theorem blsD_map : ∀ l : List Bool, blsD (l.map D.bl) = some l
  | [] => rfl
  | i :: l => by simp [blsD, blsD_map l]
end
section
variable {X : Cx} {M : WM X.K} {W : WX} {e a b : Expr} {es rest : List Expr} {pos : Pos} {ea eb : Ev M D} {er : Ev M R} {el : Ev M (List D)}
def ixD : D → D → Option D
  | .tup l, .int i => atI l i
  | .lst l, .int i => atI l i
  | .str s, .int i => if s.length ≤ big then (atI s i).map fun c => .str [c] else none
  | _, _ => none
theorem od_ix {K : PySem.W.Frag} {M : WM K} : OpD M (fun d e => (ixD d e).map R.sh) (rIx K) := fun p x y d e res Q ok hx hy hf q => by
  cases d <;> cases e <;> first | (simp [ixD] at hf; done) | skip
  · cases hx; cases hy
    simp only [ixD] at hf
    split at hf
    · rename_i s i hl
      cases z : atI s i with
      | none => rw [z] at hf; cases hf
      | some c =>
        rw [z] at hf; cases hf
        exact .inr (.inr ⟨_, _, c, rfl, rfl, by rw [str_len]; exact big_line hl, by rw [str_tl]; exact z, fin_sh ok q rfl⟩)
    · cases hf
  · rename_i l i
    cases hy
    cases z : atI l i with
    | none => simp [ixD, z] at hf
    | some c =>
      simp [ixD, z] at hf; cases hf
      obtain ⟨a, vs, rfl, h1, h2, _⟩ := hx
      obtain ⟨v, h3, h4⟩ := h2.at_ z
      exact .inr (.inl ⟨a, vs, _, v, rfl, rfl, sqT_H ok h1, h3, fin_sh ok q h4⟩)
  · rename_i l i
    cases hy
    cases z : atI l i with
    | none => simp [ixD, z] at hf
    | some c =>
      simp [ixD, z] at hf; cases hf
      obtain ⟨a, vs, rfl, h1, h2⟩ := hx
      obtain ⟨v, h3, h4⟩ := h2.at_ z
      exact .inl ⟨a, vs, _, v, rfl, rfl, SqL.of (ok.view _ _ h1), h3, fin_sh ok q h4⟩
theorem ev_ix (ha : PE X a (tD M X.mg W ea)) (hb : PE X b (tD M X.mg W eb)) (hs : PlainIx b := by intro _ _; rfl) : PE X (.Subscript a b pos) (tD M X.mg W (eBinD ixD ea eb)) := (pe_ix ix_seq ha hb hs).con fun σ H Q ⟨ρ, p, hH, ok, en, q⟩ => by
  subst hH
  show tD M X.mg W ea σ p.H fun x H1 => tD M X.mg W eb σ H1 fun y H2 => rIx X.K x y H2 Q
  refine tG.seq ok en q fun r1 x q1 ex1 ok1 es1 dx h1 => ?_
  rw [← es1] at h1
  refine tG.seq ok1 (en.ext ex1) (XEnds ex1 h1 fun _ h => h) fun r2 y q2 ex2 ok2 es2 dy h2 => ?_
  cases z : ixD r1.1 r2.1 with
  | none => simp only [op, z] at h2; exact h2.elim
  | some res =>
    simp only [op, z] at h2
    exact od_ix q2 x y _ _ (.sh res) Q ok2 (ex2.den dx) dy (by show Option.map R.sh (ixD r1.1 r2.1) = _; rw [z]; rfl) fun v q3 e3 ok3 es3 rk => h2 v q3 ((ex1.trans ex2).trans e3) ok3 (es3.trans es2) rk
def slD (d : D) (lo hi : Option Int) : Option R := match d with
  | .tup l => some (.sh (.tup (cutL l lo hi)))
  | .lst l => some (.fr (.lst (cutL l lo hi)))
  | .str s => if s.length ≤ big then some (.sh (.str (cutL s lo hi))) else none
  | _ => none
def tPt (W : WX) (eo : Ev M (Option Int)) : TO := fun σ H Q => ∃ (ρ : Dv) (p : Pt M), p.H = H ∧ p.Ok ∧ EnvD M p σ ρ ∧ (eo ρ p.s).all (fun r => ∀ (q : Pt M), Ext p q → q.Ok → q.s = r.2 → Q r.1 q.H) (XEnd M X.mg p W σ)
def eNoPt {K : PySem.W.Frag} {M : WM K} : Ev M (Option Int) := fun _ s => .ret (none, s)
def intOf : D → Option Int
  | .int i => some i
  | _ => none
def ePt {K : PySem.W.Frag} {M : WM K} (ea : Ev M D) : Ev M (Option Int) := fun ρ s => (ea ρ s).bind fun a => match intOf a.1 with
  | some i => .ret (some i, a.2)
  | none => .bad
def eSl {K : PySem.W.Frag} {M : WM K} (ea : Ev M D) (el eh : Ev M (Option Int)) : Ev M R := fun ρ s => (ea ρ s).bind fun a => (el ρ a.2).bind fun l => (eh ρ l.2).bind fun h => op (slD a.1 l.1 h.1) h.2
theorem _root_.L2.PO.con {X : Cx} {e : Option Expr} {t t' : TO} (h : PO X e t) (i : ∀ σ H Q, t' σ H Q → t σ H Q) : PO X e t' := ⟨fun pins s σ H Q I q => h.run pins s σ H Q I (i _ _ _ q)⟩
theorem ep_none : PO X none (tPt W (eNoPt : Ev M _)) := po_none.con fun σ H Q ⟨ρ, p, hH, ok, en, q⟩ => by
  subst hH
  exact q p (Ext.refl p) ok rfl
theorem ep_some (ha : PE X a (tD M X.mg W ea)) : PO X (some a) (tPt W (ePt ea)) := (po_some ha).con fun σ H Q ⟨ρ, p, hH, ok, en, q⟩ => by
  subst hH
  show tD M X.mg W ea σ p.H fun x H1 => ∃ i, x = .int i ∧ Q (some i) H1
  refine tG.seq ok en q fun r1 x q1 ex1 ok1 es1 dx h1 => ?_
  obtain ⟨d, s1⟩ := r1
  cases d <;> simp only [intOf] at h1 <;> first | exact h1.elim | skip
  cases dx
  exact ⟨_, rfl, h1 q1 ex1 ok1 es1⟩
theorem ev_sl {lo hi : Option Expr} {p2 : Pos} {eo eh : Ev M (Option Int)} (ha : PE X a (tD M X.mg W ea)) (hl : PO X lo (tPt W eo)) (hh : PO X hi (tPt W eh)) :
    PE X (.Subscript a (.Slice lo hi none p2) pos) (tR M X.mg W (eSl ea eo eh)) := (pe_slice (sl_list.or (sl_tupA2.or sl_str)) ha hl hh).con fun σ H Q ⟨ρ, p, hH, ok, en, q⟩ => by
  subst hH
  unfold tSl
  refine tG.seq ok en q fun r1 x q1 ex1 ok1 es1 dx h1 => ?_
  rw [← es1] at h1
  refine ⟨ρ, q1, rfl, ok1, en.ext ex1, G.all_mono (fun r2 h2 q2 ex2 ok2 es2 => ?_) (fun _ h => h.ext ex1) (G.all_bind.mp h1)⟩
  rw [← es2] at h2
  refine ⟨ρ, q2, rfl, ok2, en.ext (ex1.trans ex2), G.all_mono (fun r3 h3 q3 ex3 ok3 es3 => ?_) (fun _ h => h.ext (ex1.trans ex2)) (G.all_bind.mp h2)⟩
  have e13 := (ex1.trans ex2).trans ex3
  have dx3 := (ex2.trans ex3).den dx
  cases z : slD r1.1 r2.1 r3.1 with
  | none => simp only [op, z] at h3; exact h3.elim
  | some res =>
    simp only [op, z] at h3
    have fin : ∀ v (q4 : Pt M), Ext q3 q4 → q4.Ok → q4.s = q3.s → ROk q3 q4 res v → Q v q4.H := fun v q4 e4 ok4 es4 rk => h3 v q4 (e13.trans e4) ok4 (es4.trans es3) (rk.tr e13 e4)
    cases hd : r1.1 with
    | tup l =>
      rw [hd] at dx3 z
      cases z
      obtain ⟨a, vs, rfl, h1', h2', n2'⟩ := dx3
      refine .inr (.inl ⟨a, vs, rfl, sqT_H ok3 h1', fun hw => ?_, fun _ => fin_tup ok3 fin (h2'.cut _ _)⟩)
      have e : cutL l r2.1 r3.1 = l := by
        unfold cutL
        rw [← h2'.length, hw.1, hw.2, List.drop_zero, Nat.sub_zero, h2'.length, List.take_length]
      rw [e] at fin
      exact fin_sh ok3 fin ⟨a, vs, rfl, h1', h2', n2'⟩
    | lst l =>
      rw [hd] at dx3 z
      cases z
      obtain ⟨a, vs, rfl, h1', h2'⟩ := dx3
      exact .inl ⟨a, vs, rfl, SqL.of (ok3.view _ _ h1'), fun p hp => fin_lst ok3 fin (h2'.cut _ _) hp⟩
    | str l =>
      rw [hd] at dx3 z
      simp only [slD] at z
      split at z
      · rename_i hl
        cases z
        cases dx3
        refine .inr (.inr ⟨_, rfl, by rw [str_len]; exact big_line hl, ?_⟩)
        have e : cutS ⟨l.toArray⟩ r2.1 r3.1 = ⟨(cutL l r2.1 r3.1).toArray⟩ := by
          unfold cutS cutL
          rw [str_len, str_tl]
        rw [e]
        exact fin_sh ok3 fin rfl
      · cases z
    | _ => rw [hd] at z; cases z
def scD : D → Bool
  | .non => true
  | .bl _ => true
  | .int _ => true
  | .str _ => true
  | _ => false
def inD (d : D) : D → Option Bool
  | .str z => match d with
    | .str [c] => some (decide (c ∈ z))
    | _ => none
  | .tup l => if (scD d && l.all scD) = true then some (l.any fun y => eqD y d) else if (pl 40 d && plL 39 l) = true then some (l.any fun y => eqD y d) else none
  | .lst l => if (scD d && l.all scD) = true then some (l.any fun y => eqD y d) else if (pl 40 d && plL 39 l) = true then some (l.any fun y => eqD y d) else none
  | _ => none
theorem den_sc {K : PySem.W.Frag} {ad : Nat → Option Addr} {Hv : Hp} {d : D} {v : V} (h : Den K ad Hv d v) (s : scD d = true) : flatV v = true := by
  cases d <;> first | (cases s; done) | (cases h; rfl)
theorem den_eqV {K : PySem.W.Frag} {ad : Nat → Option Addr} {Hv : Hp} {d e : D} {v w : V} (h : Den K ad Hv d v) (h' : Den K ad Hv e w) (s : scD d = true) (s' : scD e = true) : eqV v w = eqD d e := by
  cases d <;> first | (cases s; done) | skip
  all_goals (cases e <;> first | (cases s'; done) | skip)
  all_goals (cases h; cases h'; first | rfl | skip)
  rename_i a b
  show ((⟨a.toArray⟩ : Str) == ⟨b.toArray⟩) = (a == b)
  by_cases h : a = b
  · subst h; simp
  · rw [beq_eq_false_iff_ne.mpr h, beq_eq_false_iff_ne.mpr fun q => h (str_inj.mp q)]
theorem den_all {K : PySem.W.Frag} {ad : Nat → Option Addr} {Hv : Hp} : ∀ {ds : List D} {vs : List V}, DenL K ad Hv ds vs → ds.all scD = true → vs.all flatV = true
  | [], _, h, _ => by cases h; rfl
  | d :: ds, _, ⟨v, r, e, h, t⟩, s => by
    cases e
    simp only [List.all_cons, Bool.and_eq_true] at s ⊢
    exact ⟨den_sc h s.1, den_all t s.2⟩
theorem den_any {K : PySem.W.Frag} {ad : Nat → Option Addr} {Hv : Hp} {x : D} {xv : V} (hx : Den K ad Hv x xv) (sx : scD x = true) : ∀ {ds : List D} {vs : List V}, DenL K ad Hv ds vs → ds.all scD = true → inV xv vs = ds.any fun y => eqD y x
  | [], _, h, _ => by cases h; rfl
  | d :: ds, _, ⟨v, r, e, h, t⟩, s => by
    cases e
    simp only [List.all_cons, Bool.and_eq_true] at s
    have ih := den_any hx sx t s.2
    unfold inV at ih ⊢
    rw [List.any_cons, List.any_cons, den_eqV h hx s.1 sx, ih]
def rInT (K : PySem.W.Frag) (neg : Bool) : R2 := fun x y H Q => ∃ d ds, Dp K H x d ∧ Dp K H y (.tuple ds) ∧ SeqAt.shaped d = true ∧ SeqAt.shaped (.tuple ds) = true ∧ Q (.bl (if neg then !(ds.any fun z => PyData.eqv z d) else ds.any fun z => PyData.eqv z d)) H
theorem op_inDT {X : Cx} (hu : X.A.units + 65 < cLine) : OpR X (compareOp .In) (rInT X.K false) := by
  intro pins s σ H x y v u Q I rx ry h
  obtain ⟨d, ds, hd, he, sd, se, q⟩ := h
  obtain ⟨as, r1⟩ := Dp.reads I d x v hd rx
  obtain ⟨bs, r2⟩ := Dp.reads I (.tuple ds) y u he ry
  exact SeqAt.in_tuple_reads r2 r1 (SeqAt.canLay_of_shaped se) (SeqAt.canLay_of_shaped sd) (room_in_shaped sd hu) ⟨.bl _, H, I, rfl, q⟩
def rInD (K : PySem.W.Frag) (neg : Bool) : R2 := fun x y H Q => (∃ (c : Nat) (z : Str), x = .str ⟨#[c]⟩ ∧ y = .str z ∧ Q (.bl (if neg then !decide (c ∈ z.cps.toList) else decide (c ∈ z.cps.toList))) H) ∨ rIn K neg x y H Q ∨
  (∃ d ds, Dp K H x d ∧ Dp K H y (.list ds) ∧ SeqAt.shaped d = true ∧ SeqAt.shaped (.list ds) = true ∧ Q (.bl (if neg then !(ds.any fun z => PyData.eqv z d) else ds.any fun z => PyData.eqv z d)) H) ∨ rInT K neg x y H Q
theorem any_py {d : D} (hd : pl 40 d = true) : ∀ {l : List D}, plL 39 l = true → (pyL l).any (fun z => PyData.eqv z (py d)) = l.any fun y => eqD y d
  | [], _ => rfl
  | y :: l, h => by
    have h' : (pl 39 y && plL 39 l) = true := h
    rw [Bool.and_eq_true] at h'
    show (PyData.eqv (py y) (py d) || (pyL l).any _) = (eqD y d || l.any _)
    rw [eqv_py 39 40 y d h'.1 hd, any_py hd h'.2]
theorem or_in (hu : X.A.units + 65 < cLine) : OpR X (compareOp .In) (rInD X.K false) := op_in_sign.or (op_in_seq.or ((op_inD hu).or (op_inDT hu)))
theorem od_inN (neg : Bool) {K : PySem.W.Frag} {M : WM K} : OpD M (fun d e => ((inD d e).map fun k => if neg then !k else k).map fun k => R.sh (.bl k)) (rInD K neg) := fun p x y d e res Q ok hx hy hf q => by
  cases e <;> first | (simp [inD] at hf; done) | skip
  · rename_i z
    cases hy
    cases d <;> first | (simp [inD] at hf; done) | skip
    rename_i s
    cases s with
    | nil => simp [inD] at hf
    | cons c s =>
      cases s with
      | cons _ _ => simp [inD] at hf
      | nil =>
        simp only [inD, Option.map_some, Option.some.injEq] at hf
        subst hf
        cases hx
        exact .inl ⟨c, _, rfl, rfl, fin_sh ok q rfl⟩
  · rename_i l
    by_cases hc : (scD d && l.all scD) = true
    · simp only [inD, if_pos hc, Option.map_some, Option.some.injEq] at hf
      subst hf
      rw [Bool.and_eq_true] at hc
      obtain ⟨a, vs, rfl, h1, h2, _⟩ := hy
      refine .inr (.inl ⟨a, vs, rfl, .inr (sqT_H ok h1), den_sc hx hc.1, den_all h2 hc.2, ?_⟩)
      rw [den_any hx hc.1 h2 hc.2]
      exact fin_sh ok q rfl
    · by_cases hc2 : (pl 40 d && plL 39 l) = true
      · simp only [inD, if_neg hc, if_pos hc2, Option.map_some, Option.some.injEq] at hf
        subst hf
        rw [Bool.and_eq_true] at hc2
        have hl : pl 40 (.tup l) = true := hc2.2
        refine .inr (.inr (.inr ⟨py d, pyL l, same_dp ok.view (dp_py 40 d x hc2.1 hx), same_dp ok.view (dp_py 40 (.tup l) y hl hy), shaped_py hc2.1, shaped_py hl, ?_⟩))
        rw [any_py hc2.1 hc2.2]
        exact fin_sh ok q rfl
      · simp only [inD, if_neg hc, if_neg hc2, Option.map_none] at hf
        cases hf
  · rename_i l
    by_cases hc : (scD d && l.all scD) = true
    · simp only [inD, if_pos hc, Option.map_some, Option.some.injEq] at hf
      subst hf
      rw [Bool.and_eq_true] at hc
      obtain ⟨a, vs, rfl, h1, h2⟩ := hy
      refine .inr (.inl ⟨a, vs, rfl, .inl (SqL.of (ok.view _ _ h1)), den_sc hx hc.1, den_all h2 hc.2, ?_⟩)
      rw [den_any hx hc.1 h2 hc.2]
      exact fin_sh ok q rfl
    · by_cases hc2 : (pl 40 d && plL 39 l) = true
      · simp only [inD, if_neg hc, if_pos hc2, Option.map_some, Option.some.injEq] at hf
        subst hf
        rw [Bool.and_eq_true] at hc2
        have hl : pl 40 (.lst l) = true := hc2.2
        refine .inr (.inr (.inl ⟨py d, pyL l, same_dp ok.view (dp_py 40 d x hc2.1 hx), same_dp ok.view (dp_py 40 (.lst l) y hl hy), shaped_py hc2.1, shaped_py hl, ?_⟩))
        rw [any_py hc2.1 hc2.2]
        exact fin_sh ok q rfl
      · simp only [inD, if_neg hc, if_neg hc2, Option.map_none] at hf
        cases hf
theorem od_in {K : PySem.W.Frag} {M : WM K} : OpD M (fun d e => (inD d e).map fun k => R.sh (.bl k)) (rInD K false) := fun p x y d e res Q ok hx hy hf q => od_inN false p x y d e res Q ok hx hy (by
  simpa using hf) q
def lenD : List D → Option R
  | [.str s] => if s.length ≤ big then some (.sh (.int s.length)) else none
  | [.tup l] => some (.sh (.int l.length))
  | [.lst l] => some (.sh (.int l.length))
  | _ => none
theorem cd_len {K : PySem.W.Frag} {M : WM K} : CallD M lenD (fun xs H Q => ∃ x n, xs = [x] ∧ LenV K x H n ∧ Q (.int n) H) := fun p xs ds res Q ok hx hf q => by
  cases ds with
  | nil => cases hf
  | cons d r =>
    cases r with
    | cons _ _ => cases d <;> cases hf
    | nil =>
      obtain ⟨v, r, rfl, hd, hr⟩ := hx
      cases hr
      cases d <;> first | (cases hf; done) | skip
      · cases hd
        simp only [lenD] at hf
        split at hf
        · rename_i s hl
          cases hf
          exact ⟨_, s.length, rfl, ⟨by rw [str_len]; exact big_line hl, (str_len s).symm⟩, fin_sh ok q rfl⟩
        · cases hf
      · rename_i l
        cases hf
        obtain ⟨a, vs, rfl, h1, h2, _⟩ := hd
        exact ⟨_, l.length, rfl, .inr ⟨vs, sqT_H ok h1, h2.length.symm⟩, fin_sh ok q rfl⟩
      · rename_i l
        cases hf
        obtain ⟨a, vs, rfl, h1, h2⟩ := hd
        exact ⟨_, l.length, rfl, .inl ⟨vs, SqL.of (ok.view _ _ h1), h2.length.symm⟩, fin_sh ok q rfl⟩
def allD : List D → Option R
  | [.lst l] => (blsD l).map fun bs => .sh (.bl (bs.all id))
  | _ => none
def anyD : List D → Option R
  | [.lst l] => (blsD l).map fun bs => .sh (.bl (bs.any id))
  | _ => none
theorem one_lst {K : PySem.W.Frag} {M : WM K} {p : Pt M} {xs : List V} {ds : List D} {f : List D → Option R} {res : R} (h : DenL K p.ad p.Hv ds xs) (hf : f ds = some res) (hs : ∀ d r, f (d :: r) ≠ none → r = [] ∧ ∃ l, d = .lst l) (h0 : f [] = none) :
    ∃ a l vs, ds = [.lst l] ∧ xs = [.ref a] ∧ p.Hv a = some (.lst vs) ∧ DenL K p.ad p.Hv l vs := by
  cases ds with
  | nil => rw [h0] at hf; cases hf
  | cons d r =>
    obtain ⟨rfl, l, rfl⟩ := hs d r (by rw [hf]; simp)
    obtain ⟨v, r, rfl, ⟨a, vs, rfl, h1, h2⟩, hr⟩ := h
    cases hr
    exact ⟨a, l, vs, rfl, rfl, h1, h2⟩
theorem cd_all {K : PySem.W.Frag} {M : WM K} : CallD M allD (rAll K) := fun p xs ds res Q ok hx hf q => by
  obtain ⟨a, l, vs, rfl, rfl, h1, h2⟩ := one_lst hx hf (fun d r h => by cases d <;> cases r <;> first | exact ⟨rfl, _, rfl⟩ | exact absurd rfl h) rfl
  cases z : blsD l with
  | none => simp only [allD, z] at hf; cases hf
  | some bs =>
    simp only [allD, z] at hf; cases hf
    refine ⟨a, bs, rfl, ?_, fin_sh ok q rfl⟩
    rw [← blsD_den z h2]
    exact SqL.of (ok.view _ _ h1)
theorem cd_any {K : PySem.W.Frag} {M : WM K} : CallD M anyD (rAny K) := fun p xs ds res Q ok hx hf q => by
  obtain ⟨a, l, vs, rfl, rfl, h1, h2⟩ := one_lst hx hf (fun d r h => by cases d <;> cases r <;> first | exact ⟨rfl, _, rfl⟩ | exact absurd rfl h) rfl
  cases z : blsD l with
  | none => simp only [anyD, z] at hf; cases hf
  | some bs =>
    simp only [anyD, z] at hf; cases hf
    refine ⟨a, bs, rfl, ?_, fin_sh ok q rfl⟩
    rw [← blsD_den z h2]
    exact SqL.of (ok.view _ _ h1)
def listD : List D → Option R
  | [.lst l] => some (.fr (.lst l))
  | [.tup l] => some (.fr (.lst l))
  | _ => none
def tupleD : List D → Option R
  | [.lst l] => some (.sh (.tup l))
  | [.tup l] => some (.sh (.tup l))
  | _ => none
theorem one_seq {K : PySem.W.Frag} {M : WM K} {p : Pt M} {xs : List V} {ds : List D} {f : List D → Option R} {res : R} (h : DenL K p.ad p.Hv ds xs) (hf : f ds = some res) (hs : ∀ d r, f (d :: r) ≠ none → r = [] ∧ ∃ l, d = .lst l ∨ d = .tup l) (h0 : f [] = none) :
    ∃ a l vs, xs = [.ref a] ∧ ((ds = [.lst l] ∧ p.Hv a = some (.lst vs)) ∨ (ds = [.tup l] ∧ SqT K p.Hv a vs ∧ (ixb l = true → NDt K p.Hv a))) ∧ DenL K p.ad p.Hv l vs := by
  cases ds with
  | nil => rw [h0] at hf; cases hf
  | cons d r =>
    obtain ⟨rfl, l, rfl | rfl⟩ := hs d r (by rw [hf]; simp)
    · obtain ⟨v, r, rfl, ⟨a, vs, rfl, h1, h2⟩, hr⟩ := h
      cases hr
      exact ⟨a, l, vs, rfl, .inl ⟨rfl, h1⟩, h2⟩
    · obtain ⟨v, r, rfl, ⟨a, vs, rfl, h1, h2, n2⟩, hr⟩ := h
      cases hr
      exact ⟨a, l, vs, rfl, .inr ⟨rfl, h1, n2⟩, h2⟩
theorem cd_list {K : PySem.W.Frag} {M : WM K} : CallD M listD (fun xs H Q => ∃ p ys, xs = [.ref p] ∧ (SqL K H p ys ∨ SqT K H p ys) ∧ ∀ l, H l = none → Q (.ref l) (upd H l (.lst ys))) := fun p xs ds res Q ok hx hf q => by
  obtain ⟨a, l, vs, rfl, ⟨rfl, h1⟩ | ⟨rfl, h1, n2⟩, h2⟩ := one_seq hx hf (fun d r h => by cases d <;> cases r <;> first | exact ⟨rfl, _, .inl rfl⟩ | exact ⟨rfl, _, .inr rfl⟩ | exact absurd rfl h) rfl
  · cases hf
    exact ⟨a, vs, rfl, .inl (SqL.of (ok.view _ _ h1)), fun l hl => fin_lst ok q h2 hl⟩
  · cases hf
    exact ⟨a, vs, rfl, .inr (sqT_H ok h1), fun l hl => fin_lst ok q h2 hl⟩
theorem cd_tuple {K : PySem.W.Frag} {M : WM K} : CallD M tupleD (rTup2 K) := fun p xs ds res Q ok hx hf q => by
  obtain ⟨a, l, vs, rfl, ⟨rfl, h1⟩ | ⟨rfl, h1, n2⟩, h2⟩ := one_seq hx hf (fun d r h => by cases d <;> cases r <;> first | exact ⟨rfl, _, .inl rfl⟩ | exact ⟨rfl, _, .inr rfl⟩ | exact absurd rfl h) rfl
  · cases hf
    exact ⟨a, vs, rfl, .inl ⟨SqL.of (ok.view _ _ h1), fin_tup ok q h2⟩⟩
  · cases hf
    exact ⟨a, vs, rfl, .inr ⟨sqT_H ok h1, fin_sh ok q ⟨a, vs, rfl, h1, h2, n2⟩⟩⟩
def figD (i : Int) : List Nat := (Str.ofString (toString i)).cps.toList
def strD : List D → Option R
  | [.int i] => if i.natAbs.log2 < 1920 then some (.sh (.str (figD i))) else none
  | [.str s] => some (.sh (.str s))
  | _ => none
end
def isT : D → Ty → Option Bool
  | .obj _, _ => none
  | .ty _, _ => none
  | .int _, .int => some true
  | .bl _, .int => some true
  | .bl _, .bool => some true
  | .str _, .str => some true
  | .lst _, .list => some true
  | .tup _, .tuple => some true
  | .dt _, _ => none
  | .dk _, .dict => some true
  | _, _ => some false
def isTs (d : D) : List Ty → Option Bool
  | [] => some false
  | t :: ts => match isT d t with
    | some true => some true
    | some false => isTs d ts
    | none => none
def tyS : D → String
  | .non => "NoneType"
  | .bl _ => "bool"
  | .int _ => "int"
  | .str _ => "str"
  | .tup _ => "tuple"
  | .lst _ => "list"
  | _ => "dict"
theorem kit_non (t : Ty) : kitB "NoneType" t.nm = some false := by cases t <;> decide +kernel
theorem kit_bl (t : Ty) : kitB "bool" t.nm = some (t == .int || t == .bool) := by cases t <;> decide +kernel
theorem kit_int (t : Ty) : kitB "int" t.nm = some (t == .int) := by cases t <;> decide +kernel
theorem kit_str (t : Ty) : kitB "str" t.nm = some (t == .str) := by cases t <;> decide +kernel
theorem kit_tup (t : Ty) : kitB "tuple" t.nm = some (t == .tuple) := by cases t <;> decide +kernel
theorem kit_lst (t : Ty) : kitB "list" t.nm = some (t == .list) := by cases t <;> decide +kernel
theorem kit_dct (t : Ty) : kitB "dict" t.nm = some (t == .dict) := by cases t <;> decide +kernel
theorem isT_kit {K : PySem.W.Frag} {d : D} {t : Ty} {b : Bool} (h : isT d t = some b) : PySem.W.kitOne K (.type (tyS d)) (.type t.nm) = some b := by
  refine kit_ty ?_
  cases d with
  | non => refine (kit_non t).trans ?_; rw [← h]; cases t <;> rfl
  | bl _ => refine (kit_bl t).trans ?_; rw [← h]; cases t <;> rfl
  | int _ => refine (kit_int t).trans ?_; rw [← h]; cases t <;> rfl
  | str _ => refine (kit_str t).trans ?_; rw [← h]; cases t <;> rfl
  | tup _ => refine (kit_tup t).trans ?_; rw [← h]; cases t <;> rfl
  | lst _ => refine (kit_lst t).trans ?_; rw [← h]; cases t <;> rfl
  | dk _ => refine (kit_dct t).trans ?_; rw [← h]; cases t <;> rfl
  | dt _ => cases t <;> cases h
  | obj n => cases t <;> cases h
  | ty n => cases t <;> cases h
theorem isTs_kit {K : PySem.W.Frag} {d : D} : ∀ {ts : List Ty} {b : Bool}, isTs d ts = some b → PySem.W.kitAny K (.type (tyS d)) (ts.map fun t => .type t.nm) = some b
  | [], b, h => by cases h; exact kitAny_nil
  | t :: ts, b, h => by
    cases z : isT d t with
    | none => simp only [isTs, z] at h; cases h
    | some c =>
      cases c with
      | true =>
        simp only [isTs, z] at h; cases h
        exact kitAny_cons (r := true) (isT_kit z) (fun q => by cases q) fun _ => rfl
      | false =>
        simp only [isTs, z] at h
        exact kitAny_cons (isT_kit z) (fun _ => isTs_kit h) fun q => by cases q
theorem tyx_den {K : PySem.W.Frag} {M : WM K} {p : Pt M} (ok : p.Ok) {d : D} {x : V} {t : Ty} {b : Bool} (h : Den K p.ad p.Hv d x) (hb : isT d t = some b) : TyX K p.H x (.type (tyS d)) := by
  cases d with
  | non => cases h; exact .base .non
  | bl b => cases h; exact .base (.bl b)
  | int b => cases h; exact .base (.int b)
  | str b => cases h; exact .base (.str _)
  | tup l =>
    obtain ⟨a, vs, rfl, h1, _⟩ := h
    rcases sqT_H ok h1 with (h | ⟨o, h⟩) | ⟨o, its, n, h, hc, _⟩
    · exact .base (.tup h)
    · exact .fTuple h
    · exact .kTuple h hc
  | lst l =>
    obtain ⟨a, vs, rfl, h1, _⟩ := h
    exact .base (.lst (ok.view _ _ h1))
  | dk l =>
    obtain ⟨a, vs, rfl, h1, _⟩ := h
    rcases h1 with h1 | ⟨x, h1⟩
    · exact .base (.dK (ok.view _ _ h1))
    · exact .fDict (ok.view _ _ h1)
  | dt l => cases t <;> cases hb
  | obj n => cases t <;> cases hb
  | ty n => cases t <;> cases hb
section
variable {X : Cx} {M : WM X.K} {W : WX} {e a b : Expr} {es rest : List Expr} {pos : Pos} {ea eb : Ev M D} {er : Ev M R} {el : Ev M (List D)}
theorem ev_isi (t : Ty) {x y : Str} {pp p2 : Pos} (ha : PE X a (tD M X.mg W ea)) (hx : x = "isinstance") (hy : y = (t.nm : Str)) (hm : X.mg x = none) (hm2 : X.mg y = none) (hg : Gl X x := by rfl) (hg2 : Gl X y := by rfl)
    (he : starEach [a, .Name y p2] X.env = (false, eval a X.env) :: starEach [.Name y p2] X.env := by rfl) :
    PE X (.Call (.Name x pp) [a, .Name y p2] [] pos) (tD M X.mg W (eUn (fun d => (isT d t).map .bl) ea)) := by
  subst hx
  have bT : bootBuiltins y = some (.type t.nm) := by subst hy; cases t <;> first | rfl | decide +kernel
  have d1 : y ≠ "__name__" := by subst hy; cases t <;> decide +kernel
  have d2 : (y == ("__debug__" : Str)) = false := by subst hy; cases t <;> decide +kernel
  refine (pe_callB call_isi hg hm (by first | rfl | decide +kernel) (pa_cons ha (pa_cons (pe_bltn hg2 hm2 bT (show RelV (.ty t.nm) (.type t.nm) from rfl) d1 d2) pa_nil (by rfl)) he) (by decide) (by decide) he (by rfl)).con fun σ H Q ⟨ρ, p, hH, ok, en, q⟩ => ?_
  subst hH
  show tD M X.mg W ea σ p.H fun x H1 => rIsi X.K [x, .ty t.nm] H1 Q
  refine tG.seq ok en q fun r1 x q1 ex1 ok1 es1 dx h1 => ?_
  cases z : isT r1.1 t with
  | none => simp only [op, z, Option.map_none] at h1; exact h1.elim
  | some k =>
    simp only [op, z, Option.map_some] at h1
    exact ⟨x, .ty t.nm, .type (tyS r1.1), .type t.nm, k, rfl, .ty _, tyx_den ok1 dx z, isT_kit z, h1 _ q1 ex1 ok1 es1 rfl⟩
theorem ea_ty (t : Ty) {ts : List Ty} {y : Str} {p2 : Pos} (hr : PA X es (fun σ H Q => Q (ts.map fun t => V.ty t.nm) H)) (hy : y = (t.nm : Str)) (hm2 : X.mg y = none) (hg2 : Gl X y := by rfl) (he : starEach (.Name y p2 :: es) X.env = (false, eval (.Name y p2) X.env) :: starEach es X.env := by rfl) :
    PA X (.Name y p2 :: es) (fun σ H Q => Q ((t :: ts).map fun t => V.ty t.nm) H) := by
  have bT : bootBuiltins y = some (.type t.nm) := by subst hy; cases t <;> first | rfl | decide +kernel
  have d1 : y ≠ "__name__" := by subst hy; cases t <;> decide +kernel
  have d2 : (y == ("__debug__" : Str)) = false := by subst hy; cases t <;> decide +kernel
  exact pa_cons (pe_bltn hg2 hm2 bT (show RelV (.ty t.nm) (.type t.nm) from rfl) d1 d2) hr he
theorem ea_ty0 : PA X [] (fun σ H Q => Q (([] : List Ty).map fun t => V.ty t.nm) H) := pa_nil
theorem isTs_some {d : D} {t : Ty} {ts : List Ty} {b : Bool} (h : isTs d (t :: ts) = some b) : ∃ c, isT d t = some c := by
  cases z : isT d t with
  | none => simp only [isTs, z] at h; cases h
  | some c => exact ⟨c, rfl⟩
theorem ev_isiT (t : Ty) (ts : List Ty) {x : Str} {pp p2 : Pos} {k2 : Nat} {ys : List Expr} (ha : PE X a (tD M X.mg W ea)) (hx : x = "isinstance") (hy : PA X ys (fun σ H Q => Q ((t :: ts).map fun t => V.ty t.nm) H)) (hm : X.mg x = none) (hg : Gl X x := by rfl)
    (hl : (t :: ts).length ≤ big := by decide) (he : starEach [a, .Tuple ys k2 p2] X.env = (false, eval a X.env) :: starEach [.Tuple ys k2 p2] X.env := by rfl) :
    PE X (.Call (.Name x pp) [a, .Tuple ys k2 p2] [] pos) (tD M X.mg W (eUn (fun d => (isTs d (t :: ts)).map .bl) ea)) := by
  subst hx
  refine (pe_callB call_isiT hg hm (by first | rfl | decide +kernel) (pa_cons ha (pa_cons (pe_tup hy) pa_nil (by rfl)) he) (by decide) (by decide) he (by rfl)).con fun σ H Q ⟨ρ, p, hH, ok, en, q⟩ => ?_
  subst hH
  show tD M X.mg W ea σ p.H fun x H1 => ((t :: ts).map fun t => V.ty t.nm).length ≤ sizeLine ∧ ∀ p, H1 p = none → rIsiT X.K [x, .ref p] (upd H1 p (.tup ((t :: ts).map fun t => V.ty t.nm))) Q
  refine tG.seq ok en q fun r1 x q1 ex1 ok1 es1 dx h1 => ⟨by rw [List.length_map]; exact big_line hl, fun a ha => ?_⟩
  cases z : isTs r1.1 (t :: ts) with
  | none => simp only [op, z, Option.map_none] at h1; exact h1.elim
  | some k =>
    simp only [op, z, Option.map_some] at h1
    obtain ⟨c, zc⟩ := isTs_some z
    refine ⟨x, a, _, .type (tyS r1.1), (t :: ts).map fun t => .type t.nm, k, rfl, upd_same, ?_, tyx_den (ok_lay ok1 ha) ((ext_lay ok1 ha).den dx) zc, isTs_kit z, h1 _ (q1.lay a _) (ex1.trans (ext_lay ok1 ha)) (ok_lay ok1 ha) es1 rfl⟩
    have all : ∀ l : List Ty, Paired ClsV (l.map fun t => V.ty t.nm) (l.map fun t => Value.type t.nm) := fun l => by
      induction l with
      | nil => exact .nil
      | cons t l ih => exact .cons (.ty _) ih
    exact all _
def MtD {K : PySem.W.Frag} (M : WM K) (f : D → D → Option R) (r : V → List V → Hp → VK → Prop) : Prop := ∀ (p : Pt M) (x y : V) (d e : D) (res : R) (Q : VK), p.Ok → Den K p.ad p.Hv d x → Den K p.ad p.Hv e y → f d e = some res →
  (∀ v (q : Pt M), Ext p q → q.Ok → q.s = p.s → ROk p q res v → Q v q.H) → (∃ a, x = .str a) ∧ r x [y] p.H Q
theorem ev_m1 {id : String} {name : Str} {apos : Pos} {r : V → List V → Hp → VK → Prop} {f : D → D → Option R} (slot : Slot "str" name id) (ty : typeOf (.builtin id) = pure (.type "method_descriptor")) (rule : MtR X id r) (hf : MtD M f r) (ho : PE X a (tD M X.mg W ea)) (he : PE X b (tD M X.mg W eb))
    (hstr : ∀ d e, f d e ≠ none → ∃ s, d = .str s) (hs : starEach [b] X.env = [(false, eval b X.env)] := by rfl) (hbase : attributeBase a name X.env (eval a X.env) = eval a X.env := by rfl) (hline : (apos.endLine == pos.line) = true := by rfl) :
    PE X (.Call (.Attribute a name apos) [b] [] pos) (tR M X.mg W (fun ρ s => (ea ρ s).bind fun x => match x.1 with
      | .str z => (eb ρ x.2).bind fun y => op (f (.str z) y.1) y.2
      | _ => .bad)) := (pe_m1 slot ty rule ho he hs hbase hline).con fun σ H Q ⟨ρ, p, hH, ok, en, q⟩ => by
  subst hH
  show tD M X.mg W ea σ p.H fun x H1 => (∃ a, x = .str a) ∧ tD M X.mg W eb σ H1 fun y H2 => r x [y] H2 Q
  refine tG.seq ok en q fun r1 x q1 ex1 ok1 es1 dx h1 => ?_
  obtain ⟨d, s1⟩ := r1
  cases d <;> first | exact h1.elim | skip
  rename_i z
  have ex : x = .str ⟨z.toArray⟩ := dx
  refine ⟨⟨_, ex⟩, ?_⟩
  have h1' : ((eb ρ s1).bind _).all _ (XEnd M X.mg p W σ) := h1
  rw [← show q1.s = s1 from es1] at h1'
  refine tG.seq ok1 (en.ext ex1) (XEnds ex1 h1' fun _ h => h) fun r2 y q2 ex2 ok2 es2 dy h2 => ?_
  cases z2 : f (.str z) r2.1 with
  | none => simp only [op, z2] at h2; exact h2.elim
  | some res =>
    simp only [op, z2] at h2
    exact (hf q2 x y _ _ res Q ok2 (ex2.den dx) dy z2 fun v q3 e3 ok3 es3 rk => h2 v q3 ((ex1.trans ex2).trans e3) ok3 (es3.trans es2) (rk.tr (ex1.trans ex2) e3)).2
def startsD : D → D → Option R
  | .str s, .str t => some (.sh (.bl (s.take t.length == t)))
  | _, _ => none
theorem starts_str (s t : List Nat) : Txt.startswith ⟨s.toArray⟩ ⟨t.toArray⟩ = (s.take t.length == t) := by
  unfold Txt.startswith
  rw [PySem.StrLaws.subAt_eq, str_len, str_len, str_tl, List.drop_zero]
  cases h : (s.take t.length == t) with
  | false => simp [h]
  | true =>
    have e : s.take t.length = t := by simpa using h
    have : t.length ≤ s.length := by
      have := congrArg List.length e
      rw [List.length_take] at this
      omega
    simp [this, e]
theorem md_starts {K : PySem.W.Frag} {M : WM K} : MtD M startsD (fun x xs H Q => ∃ a b, x = .str a ∧ xs = [.str b] ∧ Q (.bl (Txt.startswith a b)) H) := fun p x y d e res Q ok hx hy hf q => by
  cases d <;> cases e <;> first | (cases hf; done) | skip
  cases hf; cases hx; cases hy
  refine ⟨⟨_, rfl⟩, _, _, rfl, rfl, ?_⟩
  rw [starts_str]
  exact fin_sh ok q rfl
theorem ev_starts {apos : Pos} (ho : PE X a (tD M X.mg W ea)) (he : PE X b (tD M X.mg W eb))
    (hs : starEach [b] X.env = [(false, eval b X.env)] := by rfl) (hbase : attributeBase a "startswith" X.env (eval a X.env) = eval a X.env := by rfl) (hline : (apos.endLine == pos.line) = true := by rfl) :
    PE X (.Call (.Attribute a "startswith" apos) [b] [] pos) (tR M X.mg W (fun ρ s => (ea ρ s).bind fun x => match x.1 with
      | .str z => (eb ρ x.2).bind fun y => op (startsD (.str z) y.1) y.2
      | _ => .bad)) := ev_m1 F.slot_str_startswith F.type_str_startswith mt_startswith md_starts ho he (fun d e h => by cases d <;> first | exact absurd rfl h | exact ⟨_, rfl⟩) hs hbase hline
theorem cd_str {K : PySem.W.Frag} {M : WM K} : CallD M strD (fun xs H Q => (∃ i, xs = [.int i] ∧ i.natAbs.log2 < 1920 ∧ Q (.str (toString i)) H) ∨ ∃ a, xs = [.str a] ∧ Q (.str a) H) := fun p xs ds res Q ok hx hf q => by
  cases ds with
  | nil => cases hf
  | cons d r =>
    cases r with
    | cons _ _ => cases d <;> cases hf
    | nil =>
      obtain ⟨v, r, rfl, hd, hr⟩ := hx
      cases hr
      cases d <;> first | (cases hf; done) | skip
      · cases hd
        simp only [strD] at hf
        split at hf
        · rename_i i hl
          cases hf
          refine .inl ⟨i, rfl, hl, fin_sh ok q ?_⟩
          show V.str _ = V.str _
          unfold figD
          rfl
        · cases hf
      · cases hd
        cases hf
        exact .inr ⟨_, rfl, fin_sh ok q rfl⟩
end
theorem viewG_get (m : List Nat) : ∀ (ρ : Nv) (j i : Nat), (viewG m j ρ)[i]? = (ρ[i]?).map (view1 m (j + i))
  | [], j, i => by simp [viewG]
  | o :: r, j, 0 => by simp [viewG]
  | o :: r, j, i + 1 => by
    simp only [viewG, List.getElem?_cons_succ]
    rw [viewG_get m r (j + 1) i]
    congr 2
    omega
theorem view_get (m : List Nat) (ρ : Nv) (i : Nat) : (view m ρ)[i]? = (ρ[i]?).map (view1 m i) := by
  unfold view; rw [viewG_get, Nat.zero_add]
theorem frzG_get (m : List Nat) : ∀ (ρ : Nv) (j i : Nat), (frzG m j ρ)[i]? = (ρ[i]?).map (frz1 m (j + i))
  | [], j, i => by simp [frzG]
  | o :: r, j, 0 => by simp [frzG]
  | o :: r, j, i + 1 => by
    simp only [frzG, List.getElem?_cons_succ]
    rw [frzG_get m r (j + 1) i]
    congr 2
    omega
theorem frz_get (m : List Nat) (ρ : Nv) (i : Nat) : (frz m ρ)[i]? = (ρ[i]?).map (frz1 m i) := by
  unfold frz; rw [frzG_get, Nat.zero_add]
theorem frzG_len (m : List Nat) : ∀ (ρ : Nv) (j : Nat), (frzG m j ρ).length = ρ.length
  | [], _ => rfl
  | _ :: r, j => by simp [frzG, frzG_len m r (j + 1)]
theorem frz_len (m : List Nat) (ρ : Nv) : (frz m ρ).length = ρ.length := frzG_len m ρ 0
def flatR : R → Bool
  | .sh d => flat d
  | .fr (.lst l) => flatL l
  | .fr _ => false
section
variable {K : PySem.W.Frag} {M : WM K} {mg : Str → Option Value}
open Classical
theorem newOld {p q : Pt M} (e : Ext p q) {a : Addr} (ha : q.H a = none) : p.H a = none ∨ p.F a := by
  cases z : p.H a with
  | none => exact .inl rfl
  | some u =>
    refine .inr (Classical.byContradiction fun n => ?_)
    rw [e.frame a u z n] at ha; cases ha
noncomputable def Pt.opn (p : Pt M) (ρ : Nv) (σ : Sl) (m : List Nat) : Pt M := ⟨p.s, p.F, fun b => if OwnAt ρ σ m b then p.H b else p.Hv b, p.H, p.ad⟩
section
variable {en p q : Pt M} {ρ : Nv} {σ : Sl} {m : List Nat} {r : R} {v : V}
theorem opn_same (h : Rel en ρ σ p) : Same p.Hv (p.opn ρ σ m).Hv := fun b o e => by
  show (if OwnAt ρ σ m b then p.H b else p.Hv b) = some o
  split
  · exact h.ok.view _ _ e
  · exact e
theorem opn_ok (h : Rel en ρ σ p) : (p.opn ρ σ m).Ok where
  view := fun b o e => by
    have e' : (if OwnAt ρ σ m b then p.H b else p.Hv b) = some o := e
    split at e'
    · exact e'
    · exact h.ok.view _ _ e'
  off := fun b f => by
    show (if OwnAt ρ σ m b then p.H b else p.Hv b) = none
    split
    · rename_i o
      obtain ⟨_, _, _, _, nf, _⟩ := h.at_ o
      exact absurd f nf
    · exact h.ok.off b f
  rep := M.stay h.ok.rep (opn_same h) fun _ _ _ e => e
theorem viewG_len (m : List Nat) : ∀ (ρ : Nv) (j : Nat), (viewG m j ρ).length = ρ.length
  | [], _ => rfl
  | _ :: r, j => by simp [viewG, viewG_len m r (j + 1)]
theorem opn_env (h : Rel en ρ σ p) : EnvD M (p.opn ρ σ m) σ (view m ρ) := ⟨by rw [h.len]; exact (viewG_len m ρ 0).symm, fun i d e => by
  rw [view_get] at e
  cases z : ρ[i]? with
  | none => rw [z] at e; cases e
  | some o =>
    rw [z] at e
    cases o with
    | none => simp [view1] at e
    | some vv =>
      cases vv with
      | sh d' =>
        simp only [Option.map_some, view1, Option.some.injEq] at e
        subst e
        obtain ⟨v, h1, h2⟩ := h.sh i d' z
        exact ⟨v, h1, h2.mono (opn_same h) fun _ _ q => q⟩
      | ow d' =>
        simp only [Option.map_some, view1] at e
        split at e
        · rename_i hm
          simp only [Option.some.injEq] at e
          subst e
          obtain ⟨a, u, h1, h2, h3, h4, h5, h6⟩ := h.ow i d' z
          refine ⟨.ref a, h1, (h6.mono (opn_same h) fun _ _ q => q).den ?_⟩
          show (if OwnAt ρ σ m a then p.H a else p.Hv a) = some u
          rw [if_pos ⟨i, d', by simpa using hm, z, h1⟩]; exact h2
        · simp at e⟩
theorem opn_new (h : Rel en ρ σ p) (e : Ext (p.opn ρ σ m) q) {b : Addr} {o : HO} (hb : q.Hv b = some o) (no : ¬ OwnAt ρ σ m b) : (∃ o', p.Hv b = some o') ∨ p.H b = none ∨ p.F b ∨ TpAt p.H b := by
  rcases e.new b o hb with ⟨o', z⟩ | z | z
  · have z' : (if OwnAt ρ σ m b then p.H b else p.Hv b) = some o' := z
    rw [if_neg no] at z'
    exact .inl ⟨o', z'⟩
  · exact .inr (.inl z)
  · exact .inr (.inr z)
theorem own_behind (h : Rel en ρ σ p) (e : Ext (p.opn ρ σ m) q) {i : Nat} {d : D} (hi : ρ[i]? = some (some (.ow d))) : ∃ a u, σ[i]? = some (some (.ref a)) ∧ q.H a = some u ∧ ¬ q.F a ∧ (en.H a = none ∨ en.F a) ∧ HoDen K q.ad p.Hv u d ∧ p.H a = some u ∧ ¬ p.F a ∧ p.Hv a = none := by
  obtain ⟨a, u, h1, h2, h3, h4, h5, h6⟩ := h.ow i d hi
  refine ⟨a, u, h1, e.frame a u h2 h4, fun z => ?_, h5, h6.mono Same.rfl' e.ad, h2, h4, h3⟩
  rcases e.foot a z with z | z
  · exact h4 z
  · have z : p.H a = none := z
    rw [h2] at z; cases z
theorem cls_same (h : Rel en ρ σ p) (e : Ext (p.opn ρ σ m) q) : Same p.Hv (q.cls ρ σ m).Hv := fun b o hb => by
  show (if OwnAt ρ σ m b then none else q.Hv b) = some o
  have no : ¬ OwnAt ρ σ m b := fun z => by
    obtain ⟨_, _, _, hn, _⟩ := h.at_ z
    rw [hb] at hn; cases hn
  rw [if_neg no]
  exact e.view _ _ (opn_same h _ _ hb)
theorem cls_less (h : Rel en ρ σ p) (e : Ext (p.opn ρ σ m) q) : Less q.Hv (q.cls ρ σ m).Hv := fun b o hb => by
  by_cases no : OwnAt ρ σ m b
  · obtain ⟨d, u, h1, _, _, _, h6⟩ := h.at_ no
    have : (p.opn ρ σ m).Hv b = some u := by
      show (if OwnAt ρ σ m b then p.H b else p.Hv b) = some u
      rw [if_pos no]; exact h1
    have := e.view _ _ this
    rw [hb] at this; cases this
    refine .inr ?_
    cases o <;> cases d <;> first | exact False.elim h6 | exact trivial
  · refine .inl ?_
    show (if OwnAt ρ σ m b then none else q.Hv b) = some o
    rw [if_neg no]; exact hb
theorem cls_rel (h : Rel en ρ σ p) (e : Ext (p.opn ρ σ m) q) (ok : q.Ok) (fl : M.flat q.s = true) : Rel en ρ σ (q.cls ρ σ m) := by
  have ex : Ext p (q.cls ρ σ m) := ⟨cls_same h e, e.frame, fun b o hb => by
    have hb' : (if OwnAt ρ σ m b then none else q.Hv b) = some o := hb
    split at hb'
    · cases hb'
    · rename_i no
      exact opn_new h e hb' no, e.foot, e.ad⟩
  refine ⟨⟨fun b o hb => ?_, fun b f => ?_, M.less fl ok.rep (cls_less h e)⟩, h.ext.trans ex, h.len, fun i d hi => ?_, fun i d hi => ?_, h.dis⟩
  · have hb' : (if OwnAt ρ σ m b then none else q.Hv b) = some o := hb
    split at hb'
    · cases hb'
    · exact ok.view _ _ hb'
  · show (if OwnAt ρ σ m b then none else q.Hv b) = none
    split
    · rfl
    · exact ok.off b f
  · obtain ⟨v, h1, h2⟩ := h.sh i d hi
    exact ⟨v, h1, ex.den h2⟩
  · obtain ⟨a, u, h1, h2, h3, h4, h5, h6, h7, h8⟩ := own_behind h e hi
    refine ⟨a, u, h1, h2, ?_, h3, h4, h5.mono (cls_same h e) fun _ _ q => q⟩
    show (if OwnAt ρ σ m a then none else q.Hv a) = none
    split
    · rfl
    · rename_i no
      cases z : q.Hv a with
      | none => rfl
      | some o =>
        rcases opn_new h e z no with ⟨o', z'⟩ | z' | z'
        · rw [h8] at z'; cases z'
        · rw [h6] at z'; cases z'
        · exact (z'.elim (fun z' => absurd z' h7) fun ⟨_, z'⟩ => by have z6 := h6; rw [z'] at z6; cases z6; cases d <;> exact False.elim h5)
theorem frz_rel (h : Rel en ρ σ p) (e : Ext (p.opn ρ σ m) q) (ok : q.Ok) : Rel en (frz m ρ) σ q := by
  have vs : Same p.Hv q.Hv := (opn_same h).tr e.view
  have own : ∀ (i : Nat) d, (frz m ρ)[i]? = some (some (.ow d)) → ρ[i]? = some (some (.ow d)) ∧ i ∉ m := fun i d hi => by
    rw [frz_get] at hi
    cases z : ρ[i]? with
    | none => rw [z] at hi; cases hi
    | some o =>
      rw [z] at hi
      cases o with
      | none => simp [frz1] at hi
      | some vv =>
        cases vv with
        | sh d' => simp [frz1] at hi
        | ow d' =>
          simp only [Option.map_some, frz1] at hi
          split at hi
          · simp at hi
          · rename_i hm
            simp only [Option.some.injEq, VV.ow.injEq] at hi
            subst hi
            exact ⟨rfl, by simpa using hm⟩
  refine ⟨ok, ⟨h.ext.view.tr vs, fun b o hb nf => ?_, fun b o hb => ?_, fun b hb => ?_, fun n a ha => e.ad n a (h.ext.ad n a ha)⟩, by rw [frz_len]; exact h.len, fun i d hi => ?_, fun i d hi => ?_, fun i j d d' a hij hi hj => h.dis i j d d' a hij (own i d hi).1 (own j d' hj).1⟩
  · refine e.frame b o (h.ext.frame b o hb nf) fun z => ?_
    rcases h.ext.foot b z with z | z
    · exact nf z
    · rw [hb] at z; cases z
  · by_cases no : OwnAt ρ σ m b
    · obtain ⟨_, _, _, _, _, hn, _⟩ := h.at_ no
      exact .inr (hn.elim .inl fun f => .inr (.inl f))
    · rcases opn_new h e hb no with ⟨o', z⟩ | z | z | z
      · exact h.ext.new b o' z
      · rcases newOld h.ext z with z | z
        · exact .inr (.inl z)
        · exact .inr (.inr (.inl z))
      · rcases h.ext.foot b z with z | z
        · exact .inr (.inr (.inl z))
        · exact .inr (.inl z)
      · exact .inr (tp_back h.ext.frame z)
  · rcases e.foot b hb with z | z
    · exact h.ext.foot b z
    · rcases newOld h.ext (show p.H b = none from z) with z | z
      · exact .inr z
      · exact .inl z
  · rw [frz_get] at hi
    cases z : ρ[i]? with
    | none => rw [z] at hi; cases hi
    | some o =>
      rw [z] at hi
      cases o with
      | none => simp [frz1] at hi
      | some vv =>
        cases vv with
        | sh d' =>
          simp only [Option.map_some, frz1, Option.some.injEq, VV.sh.injEq] at hi
          subst hi
          obtain ⟨v, h1, h2⟩ := h.sh i d' z
          exact ⟨v, h1, h2.mono vs e.ad⟩
        | ow d' =>
          simp only [Option.map_some, frz1] at hi
          split at hi
          · rename_i hm
            simp only [Option.some.injEq, VV.sh.injEq] at hi
            subst hi
            obtain ⟨a, u, h1, h2, h3, h4, h5, h6⟩ := h.ow i d' z
            refine ⟨.ref a, h1, (h6.mono vs e.ad).den (e.view _ _ ?_)⟩
            show (if OwnAt ρ σ m a then p.H a else p.Hv a) = some u
            rw [if_pos ⟨i, d', by simpa using hm, z, h1⟩]; exact h2
          · simp at hi
  · obtain ⟨hi', nm⟩ := own i d hi
    obtain ⟨a, u, h1, h2, h3, h4, h5, h6, h7, h8⟩ := own_behind h e hi'
    refine ⟨a, u, h1, h2, ?_, h3, h4, h5.mono vs fun _ _ q => q⟩
    have no : ¬ OwnAt ρ σ m a := fun ⟨j, d', hj, hj2, hj3⟩ => by
      by_cases hij : i = j
      · subst hij; exact nm hj
      · exact h.dis i j d d' a hij hi' hj2 h1 hj3
    cases z : q.Hv a with
    | none => rfl
    | some o =>
      rcases opn_new h e z no with ⟨o', z'⟩ | z' | z'
      · rw [h8] at z'; cases z'
      · rw [h6] at z'; cases z'
      · exact (z'.elim (fun z' => absurd z' h7) fun ⟨_, z'⟩ => by have z6 := h6; rw [z'] at z6; cases z6; cases d <;> exact False.elim h5)
def behind (M : WM K) (m : List Nat) (fl : Bool) (s : M.S) (ρ : Nv) : Nv := if (m.isEmpty || (fl && M.flat s)) = true then ρ else frz m ρ
theorem frz_nil (ρ : Nv) : frz [] ρ = ρ := by
  refine List.ext_getElem? fun i => ?_
  rw [frz_get]
  cases ρ[i]? with
  | none => rfl
  | some o =>
    cases o with
    | none => rfl
    | some vv => cases vv <;> rfl
theorem behind_ok (h : Rel en ρ σ p) (e : Ext (p.opn ρ σ m) q) (ok : q.Ok) (rk : ROk (p.opn ρ σ m) q r v) : ∃ q', q'.H = q.H ∧ q'.s = q.s ∧ Rel en (behind M m (flatR r) q.s ρ) σ q' ∧ ROk en q' r v ∧ (∀ a, v = .ref a → (∃ d, r = .fr d) → ∀ (i : Nat) d, ρ[i]? = some (some (.ow d)) → σ[i]? ≠ some (some (.ref a))) := by
  have apart : ∀ a, v = .ref a → (∃ d, r = .fr d) → ∀ (i : Nat) d, ρ[i]? = some (some (.ow d)) → σ[i]? ≠ some (some (.ref a)) := fun a hv ⟨d, hr⟩ i d' hi hs => by
    subst hr
    obtain ⟨a', o, e1, e2, e3, e4, e5, e6⟩ := rk
    rw [hv] at e1; cases e1
    obtain ⟨a2, u, h1, h2, h3, h4, _⟩ := h.ow i d' hi
    rw [hs] at h1; cases h1
    rcases e5 with z | z
    · have z : p.H a = none := z
      rw [h2] at z; cases z
    · exact h4 z
  have isnew : ∀ a, (p.opn ρ σ m).H a = none ∨ (p.opn ρ σ m).F a → en.H a = none ∨ en.F a := fun a z => by
    rcases z with z | z
    · exact newOld h.ext z
    · exact (h.ext.foot a z).symm
  by_cases hf : (flatR r && M.flat q.s) = true
  · have hf' := hf
    rw [Bool.and_eq_true] at hf
    refine ⟨q.cls ρ σ m, rfl, rfl, ?_, ?_, apart⟩
    · unfold behind; rw [hf', Bool.or_true, if_pos rfl]; exact cls_rel h e ok hf.2
    · cases r with
      | sh d => exact Den.less (cls_less h e) hf.1 rk
      | fr d =>
        obtain ⟨a, o, e1, e2, e3, e4, e5, e6⟩ := rk
        refine ⟨a, o, e1, e2, ?_, e4, isnew a e5, ?_⟩
        · show (if OwnAt ρ σ m a then none else q.Hv a) = none
          split
          · rfl
          · exact e3
        · cases d <;> first | (cases hf.1; done) | skip
          cases o <;> first | exact False.elim e6 | skip
          exact DenL.less (cls_less h e) hf.1 e6
  · have rel : Rel en (frz m ρ) σ q := frz_rel h e ok
    have e1 : behind M m (flatR r) q.s ρ = frz m ρ := by
      unfold behind
      cases m with
      | nil => rw [frz_nil]; split <;> rfl
      | cons _ _ => rw [if_neg (by simpa using hf)]
    refine ⟨q, rfl, rfl, by rw [e1]; exact rel, ?_, apart⟩
    cases r with
    | sh d => exact rk
    | fr d =>
      obtain ⟨a, o, e1, e2, e3, e4, e5, e6⟩ := rk
      exact ⟨a, o, e1, e2, e3, e4, isnew a e5, e6⟩
theorem behind_own {fl : Bool} {s : M.S} {i : Nat} {d : D} (h : (behind M m fl s ρ)[i]? = some (some (.ow d))) : ρ[i]? = some (some (.ow d)) := by
  unfold behind at h
  split at h
  · exact h
  · rw [frz_get] at h
    cases z : ρ[i]? with
    | none => rw [z] at h; cases h
    | some o =>
      rw [z] at h
      cases o with
      | none => simp [frz1] at h
      | some vv =>
        cases vv with
        | sh d' => simp [frz1] at h
        | ow d' =>
          simp only [Option.map_some, frz1] at h
          split at h
          · simp at h
          · exact h
theorem set_rel {ρ' : Nv} (h : Rel en ρ' σ p) (rk : ROk en p r v) (ap : ∀ a, v = .ref a → (∃ d, r = .fr d) → ∀ (j : Nat) d, ρ'[j]? = some (some (.ow d)) → σ[j]? ≠ some (some (.ref a))) (i : Nat) (hi : i < ρ'.length) : Rel en (ρ'.set i (some r.vv)) (σ.set i (some v)) p := by
  have hl := h.len
  have hσ : i < σ.length := by omega
  refine ⟨h.ok, h.ext, by simp [hl], fun j d hj => ?_, fun j d hj => ?_, fun j k d d' a hjk hj hk => ?_⟩
  · by_cases e : i = j
    · subst e
      rw [List.getElem?_set_self hi] at hj
      cases r with
      | sh d' => cases hj; exact ⟨v, by rw [List.getElem?_set_self hσ], rk⟩
      | fr d' => cases hj
    · rw [List.getElem?_set_ne e] at hj ⊢
      exact h.sh j d hj
  · by_cases e : i = j
    · subst e
      rw [List.getElem?_set_self hi] at hj
      cases r with
      | sh d' => cases hj
      | fr d' =>
        cases hj
        obtain ⟨a, o, e1, e2, e3, e4, e5, e6⟩ := rk
        exact ⟨a, o, by rw [List.getElem?_set_self hσ, e1], e2, e3, e4, e5, e6⟩
    · rw [List.getElem?_set_ne e] at hj ⊢
      exact h.ow j d hj
  · by_cases e : i = j
    · subst e
      rw [List.getElem?_set_self hi] at hj
      rw [List.getElem?_set_ne hjk] at hk ⊢
      rw [List.getElem?_set_self hσ]
      intro ha
      cases r with
      | sh d' => cases hj
      | fr d' =>
        cases hj
        cases ha
        exact ap a rfl ⟨d, rfl⟩ k d' hk
    · by_cases e2 : i = k
      · subst e2
        rw [List.getElem?_set_self hi] at hk
        rw [List.getElem?_set_ne e] at hj ⊢
        rw [List.getElem?_set_self hσ]
        intro ha hb
        cases r with
        | sh d' => cases hk
        | fr d'' =>
          cases hk
          cases hb
          exact ap a rfl ⟨d', rfl⟩ j d hj ha
      · rw [List.getElem?_set_ne e] at hj ⊢
        rw [List.getElem?_set_ne e2] at hk ⊢
        exact h.dis j k d d' a hjk hj hk
end
end
section
variable {K : PySem.W.Frag} (M : WM K) (mg : Str → Option Value)
variable {M}
def inF {α : Type} (m : List Nat) (ee : Ev M α) : Nv → M.S → G (Xs M) (α × M.S) := fun ρ s => (ee (view m ρ) s).exs fun x => (x.1, frz m ρ, x.2)
def sSet (i : Nat) (m : List Nat) (ee : Ev M R) : Sv M := fun ρ s => (inF m ee ρ s).bind fun r => if i < ρ.length then .ret (.nx ((behind M m (flatR r.1) r.2 ρ).set i (some r.1.vv)), r.2) else .bad
def sRet (m : List Nat) (ee : Ev M R) : Sv M := fun ρ s => (inF m ee ρ s).bind fun r => .ret (.rt r.1, r.2)
def sRetO (i : Nat) : Sv M := fun ρ s => match ρ[i]? with
  | some (some (.ow d)) => .ret (.rt (.fr d), s)
  | some (some (.sh d)) => .ret (.rt (.sh d), s)
  | _ => .bad
def sDrop (m : List Nat) (ee : Ev M R) : Sv M := fun ρ s => (inF m ee ρ s).bind fun r => .ret (.nx (behind M m (flatR r.1) r.2 ρ), r.2)
def sIf (m : List Nat) (c : Ev M Bool) (a b : Sv M) : Sv M := fun ρ s => (inF m c ρ s).bind fun k => if k.1 = true then a (behind M m true k.2 ρ) k.2 else b (behind M m true k.2 ρ) k.2
def sNil : Sv M := fun ρ s => .ret (.nx ρ, s)
def sThen (b : Sv M) : Fl × M.S → Gs M
  | (.nx ρ', s') => b ρ' s'
  | (.rt r, s') => .ret (.rt r, s')
  | (.bk ρ', s') => .ret (.bk ρ', s')
  | (.ct ρ', s') => .ret (.ct ρ', s')
def sSeq (a b : Sv M) : Sv M := fun ρ s => (a ρ s).bind (sThen b)
def sBreak : Sv M := fun ρ s => .ret (.bk ρ, s)
end
section
variable {X : Cx} {M : WM X.K} {W : WX} {en : Pt M} {e a b : Expr} {es rest : List Expr} {pos : Pos} {ea eb : Ev M D} {er : Ev M R} {ec : Ev M Bool} {el : Ev M (List D)} {m : List Nat}
theorem inF_D {ρ : Nv} {σ : Sl} {p : Pt M} {Q : VK} {k : R × M.S → Gs M} {Q' : Fl × M.S → Prop} (h : Rel en ρ σ p) (hq : ((inF m er ρ p.s).bind k).all Q' (XSEnd M X.mg en W))
    (hk : ∀ r v (q : Pt M), Ext (p.opn ρ σ m) q → q.Ok → q.s = r.2 → ROk (p.opn ρ σ m) q r.1 v → (k r).all Q' (XSEnd M X.mg en W) → Q v q.H) : tR M X.mg W er σ p.H Q := by
  refine ⟨view m ρ, p.opn ρ σ m, rfl, opn_ok h, opn_env h, G.all_mono (fun r hr v q e ok es rk => hk r v q e ok es rk hr) (fun x hx cls dd q e ok es xk => ?_) (G.all_exs.mp (G.all_bind.mp hq))⟩
  exact hx cls dd σ q (frz_rel h e ok) es xk
theorem inF_V {ρ : Nv} {σ : Sl} {p : Pt M} {Q : VK} {k : D × M.S → Gs M} {Q' : Fl × M.S → Prop} (h : Rel en ρ σ p) (hq : ((inF m ea ρ p.s).bind k).all Q' (XSEnd M X.mg en W))
    (hk : ∀ r v (q : Pt M), Ext (p.opn ρ σ m) q → q.Ok → q.s = r.2 → Den X.K q.ad q.Hv r.1 v → (k r).all Q' (XSEnd M X.mg en W) → Q v q.H) : tD M X.mg W ea σ p.H Q := by
  refine ⟨view m ρ, p.opn ρ σ m, rfl, opn_ok h, opn_env h, G.all_mono (fun r hr v q e ok es rk => hk r v q e ok es rk hr) (fun x hx cls dd q e ok es xk => ?_) (G.all_exs.mp (G.all_bind.mp hq))⟩
  exact hx cls dd σ q (frz_rel h e ok) es xk
theorem inF_B {ρ : Nv} {σ : Sl} {p : Pt M} {Q : Bool → Hp → Prop} {k : Bool × M.S → Gs M} {Q' : Fl × M.S → Prop} (h : Rel en ρ σ p) (hq : ((inF m ec ρ p.s).bind k).all Q' (XSEnd M X.mg en W))
    (hk : ∀ r (q : Pt M), Ext (p.opn ρ σ m) q → q.Ok → q.s = r.2 → (k r).all Q' (XSEnd M X.mg en W) → Q r.1 q.H) : tB' M X.mg W ec σ p.H Q := by
  refine ⟨view m ρ, p.opn ρ σ m, rfl, opn_ok h, opn_env h, G.all_mono (fun r hr q e ok es => hk r q e ok es hr) (fun x hx cls dd q e ok es xk => ?_) (G.all_exs.mp (G.all_bind.mp hq))⟩
  exact hx cls dd σ q (frz_rel h e ok) es xk
theorem behind_len {fl : Bool} {s : M.S} {ρ : Nv} : (behind M m fl s ρ).length = ρ.length := by
  unfold behind; split
  · rfl
  · exact frz_len m ρ
theorem ss_set (i : Nat) (m : List Nat) {x : Str} {pos' : Pos} (hN : X.N.Nodup) (he : PE X e (tR M X.mg W er)) (hi : X.N[i]? = some x := by rfl) (hx : Loc X.env.scope x := by first | exact Or.inl rfl | exact Or.inr rfl) (hs : swapsWith e (some (.Name x pos')) pos.line X.env = pure false := by rfl)
    (hf : X.fn x = true ∨ X.env.scope.names.lookup x = some .local := by first | exact .inl rfl | exact .inr rfl) : PS X (.Assign [.Name x pos'] e pos) (tS M X.mg W (sSet i m er)) := (ps_set hN hi hx he hs hf).con fun Dd σ H ⟨en, ρ, p, hH, rl, q⟩ => by
  subst hH
  show tR M X.mg W er σ p.H fun x H1 => Dd.nx (σ.set i (some x)) H1
  refine inF_D rl q fun r v q1 e ok es rk hr => ?_
  obtain ⟨q2, eH, eS, rl2, rk2, ap⟩ := behind_ok rl e ok rk
  split at hr
  · rename_i hi
    rw [← eH]
    rw [← es] at hr
    refine hr (σ.set i (some v)) q2 (set_rel rl2 rk2 (fun a ha hd j d hj => ap a ha hd j d (behind_own hj)) i (by rw [behind_len]; exact hi)) eS
  · exact hr.elim
theorem ss_ret (m : List Nat) (he : PE X e (tR M X.mg W er)) : PS X (.Return (some e) pos) (tS M X.mg W (sRet m er)) := (ps_ret he).con fun Dd σ H ⟨en, ρ, p, hH, rl, q⟩ => by
  subst hH
  show tR M X.mg W er σ p.H Dd.rt
  refine inF_D rl q fun r v q1 e ok es rk hr => ?_
  obtain ⟨q2, eH, eS, rl2, rk2, ap⟩ := behind_ok rl e ok rk
  rw [← eH]
  exact hr v q2 rl2.ext rl2.ok (eS.trans es) rk2
theorem ss_drop (m : List Nat) (he : PE X e (tR M X.mg W er)) (hs : swapsWith e none pos.line X.env = pure false := by rfl) : PS X (.Expr e pos) (tS M X.mg W (sDrop m er)) := (ps_expr he hs).con fun Dd σ H ⟨en, ρ, p, hH, rl, q⟩ => by
  subst hH
  show tR M X.mg W er σ p.H fun _ H1 => Dd.nx σ H1
  refine inF_D rl q fun r v q1 e ok es rk hr => ?_
  obtain ⟨q2, eH, eS, rl2, rk2, ap⟩ := behind_ok rl e ok rk
  rw [← eH]
  rw [← es] at hr
  exact hr σ q2 rl2 eS
variable {st : Stmt} {sts : List Stmt} {sa sb : Sv M}
theorem sss_nil : PSs X [] (tS M X.mg W sNil) := pss_nil.con fun Dd σ H ⟨en, ρ, p, hH, rl, q⟩ => by
  subst hH
  exact q σ p rl rfl
theorem SEnd_seq {Dd : Ends} {b : Sv M} {f : Fl × M.S} (h : (sThen b f).all (SEnd M en Dd) (XSEnd M X.mg en W)) : SEnd M en { Dd with nx := tS M X.mg W b Dd } f := by
  obtain ⟨fl, s⟩ := f
  cases fl with
  | nx ρ => exact fun σ q rl es => ⟨en, ρ, q, rfl, rl, by rw [es]; exact h⟩
  | rt r => exact h
  | bk ρ => exact h
  | ct ρ => exact h
theorem sss_cons (h1 : PS X st (tS M X.mg W sa)) (h2 : PSs X sts (tS M X.mg W sb)) : PSs X (st :: sts) (tS M X.mg W (sSeq sa sb)) := (pss_cons h1 h2).con fun Dd σ H ⟨en, ρ, p, hH, rl, q⟩ => by
  subst hH
  exact ⟨en, ρ, p, rfl, rl, G.all_mono (fun f hf => SEnd_seq hf) (fun _ h => h) (G.all_bind.mp q)⟩
theorem sss_one (h1 : PS X st (tS M X.mg W sa)) : PSs X [st] (tS M X.mg W sa) := pss_one h1
theorem ss_break : PS X (.Break pos) (tS M X.mg W sBreak) := ps_break.con fun Dd σ H ⟨en, ρ, p, hH, rl, q⟩ => by
  subst hH
  exact q σ p rl rfl
theorem behind_b {ρ : Nv} {σ : Sl} {p q : Pt M} (h : Rel en ρ σ p) (e : Ext (p.opn ρ σ m) q) (ok : q.Ok) : ∃ q', q'.H = q.H ∧ q'.s = q.s ∧ Rel en (behind M m true q.s ρ) σ q' := by
  obtain ⟨q', h1, h2, h3, _⟩ := behind_ok (r := .sh .non) (v := .non) h e ok rfl
  exact ⟨q', h1, h2, h3⟩
theorem ss_if (m : List Nat) {c : Expr} {ba bb : List Stmt} (hc : PT X c (tB' M X.mg W ec)) (ha : PSs X ba (tS M X.mg W sa)) (hb : PSs X bb (tS M X.mg W sb)) : PS X (.If c ba bb pos) (tS M X.mg W (sIf m ec sa sb)) := (ps_if hc ha hb).con fun Dd σ H ⟨en, ρ, p, hH, rl, q⟩ => by
  subst hH
  show tB' M X.mg W ec σ p.H fun b H1 => if b = true then tS M X.mg W sa Dd σ H1 else tS M X.mg W sb Dd σ H1
  refine inF_B rl q fun r q1 e ok es hr => ?_
  obtain ⟨q2, eH, eS, rl2⟩ := behind_b rl e ok
  obtain ⟨c, s1⟩ := r
  have es2 : q1.s = s1 := es
  rw [← eH]
  cases c with
  | true =>
    have hr' : (sa (behind M m true s1 ρ) s1).all _ _ := hr
    rw [← es2] at hr'
    exact ⟨en, _, q2, rfl, rl2, by rw [eS]; exact hr'⟩
  | false =>
    have hr' : (sb (behind M m true s1 ρ) s1).all _ _ := hr
    rw [← es2] at hr'
    exact ⟨en, _, q2, rfl, rl2, by rw [eS]; exact hr'⟩
end
section
variable {K : PySem.W.Frag} {M : WM K}
def Serves (J : It) (items : List D) (q : Pt M) : Prop := ∀ H', Same q.Hv H' → (∀ (i : Nat), items.length = i → J.stop i H') ∧ ∀ (i : Nat) d, items[i]? = some d → J.go i H' ∧ ∀ x H2, J.yld i H' x H2 →
  (H2 = H' ∧ Den K q.ad q.Hv d x) ∨ (∃ a ho vs ds, H' a = none ∧ x = .ref a ∧ H2 = upd H' a ho ∧ TupHo ho vs ds ∧ d = .tup ds ∧ DenL K q.ad q.Hv ds vs) ∨
  ∃ a ho vs ds b ho2 v0 d0, H' a = none ∧ upd H' a ho b = none ∧ x = .ref b ∧ H2 = upd (upd H' a ho) b ho2 ∧ TupHo ho vs ds ∧ TupHo ho2 [v0, .ref a] [d0, .tup ds] ∧ d = .tup [d0, .tup ds] ∧ DenL K q.ad q.Hv ds vs ∧ Den K q.ad q.Hv d0 v0
theorem rel_lay {en q' : Pt M} {ρ' : Nv} {σ' : Sl} (rl' : Rel en ρ' σ' q') {a : Addr} {ho : HO} (ha : q'.H a = none) : Rel en ρ' σ' (q'.lay a ho) := by
  have el := ext_lay rl'.ok ha (o := ho)
  refine ⟨ok_lay rl'.ok ha, rl'.ext.trans el, rl'.len, fun j d hj => ?_, fun j d hj => ?_, rl'.dis⟩
  · obtain ⟨v, h1, h2⟩ := rl'.sh j d hj
    exact ⟨v, h1, el.den h2⟩
  · obtain ⟨a', o, h1, h2, h3, h4, h5, h6⟩ := rl'.ow j d hj
    have ne : a' ≠ a := ne_of_none h2 ha
    refine ⟨a', o, h1, el.frame _ _ h2 h4, ?_, h4, h5, h6.mono el.view el.ad⟩
    show upd q'.Hv a ho a' = none
    rw [upd_ne ne]; exact h3
def tGt (M : WM K) (g : D → Nv → Option Nv) : TG := fun v σ H Q => ∃ (en : Pt M) (ρ : Nv) (p : Pt M) (d : D) (ρ' : Nv), p.H = H ∧ Rel en ρ σ p ∧ Den K p.ad p.Hv d v ∧ g d ρ = some ρ' ∧ ∀ σ', Rel en ρ' σ' p → Q σ' p.H
def tGts (M : WM K) (g : List D → Nv → Option Nv) : TGs := fun vs σ H Q => ∃ (en : Pt M) (ρ : Nv) (p : Pt M) (ds : List D) (ρ' : Nv), p.H = H ∧ Rel en ρ σ p ∧ DenL K p.ad p.Hv ds vs ∧ g ds ρ = some ρ' ∧ ∀ σ', Rel en ρ' σ' p → Q σ' p.H
def gtName (i : Nat) : D → Nv → Option Nv := fun d ρ => if i < ρ.length then some (ρ.set i (some (.sh d))) else none
def gtNil : List D → Nv → Option Nv := fun ds ρ => match ds with
  | [] => some ρ
  | _ => none
def gtCons (g : D → Nv → Option Nv) (gs : List D → Nv → Option Nv) : List D → Nv → Option Nv := fun ds ρ => match ds with
  | d :: r => (g d ρ).bind (gs r)
  | [] => none
def gtTup (n : Nat) (gs : List D → Nv → Option Nv) : D → Nv → Option Nv := fun d ρ => match d with
  | .tup ds => if ds.length = n then gs ds ρ else none
  | _ => none
def loopG (g : D → Nv → Option Nv) (body : Sv M) : List D → Sv M
  | [], ρ, s => .ret (.nx ρ, s)
  | d :: ds, ρ, s => match g d ρ with
    | none => .bad
    | some ρ1 => (body ρ1 s).bind fun f => match f with
      | (.nx ρ2, s2) => loopG g body ds ρ2 s2
      | (.ct ρ2, s2) => loopG g body ds ρ2 s2
      | (.bk ρ2, s2) => .ret (.nx ρ2, s2)
      | (.rt r, s2) => .ret (.rt r, s2)
def sFor (m : List Nat) (ei : Ev M (List D)) (g : D → Nv → Option Nv) (body : Sv M) : Sv M := fun ρ s => (inF m ei ρ s).bind fun r => loopG g body r.1 (frz m ρ) r.2
end
section
variable {X : Cx} {M : WM X.K} {W : WX} {e a b iter tg : Expr} {es rest : List Expr} {pos : Pos} {ea eb ec : Ev M D} {er : Ev M R} {el ei : Ev M (List D)} {m : List Nat}
def tIt (M : WM X.K) (W : WX) (ei : Ev M (List D)) : TI := fun σ H R => ∃ (ρ : Dv) (p : Pt M), p.H = H ∧ p.Ok ∧ EnvD M p σ ρ ∧ (ei ρ p.s).all (fun r => ∀ (J : It) (q : Pt M), Ext p q → q.Ok → q.s = r.2 → Serves J r.1 q → R J q.H) (XEnd M X.mg p W σ)
theorem _root_.L2.PI.con {X : Cx} {tg e : Expr} {t t' : TI} (h : PI X tg e t) (i : ∀ σ H Q, t' σ H Q → t σ H Q) : PI X tg e t' := ⟨fun pins s σ H Q I q => h.run pins s σ H Q I (i _ _ _ q)⟩
theorem _root_.L2.PG.con {X : Cx} {tg : Expr} {t t' : TG} (h : PG X tg t) (i : ∀ v σ H Q, t' v σ H Q → t v σ H Q) : PG X tg t' := ⟨fun pins s σ H v u Q I r q => h.run pins s σ H v u Q I r (i _ _ _ _ q)⟩
theorem _root_.L2.PGs.con {X : Cx} {tg : List Expr} {t t' : TGs} (h : PGs X tg t) (i : ∀ v σ H Q, t' v σ H Q → t v σ H Q) : PGs X tg t' := ⟨fun pins s σ H v u Q I r q => h.run pins s σ H v u Q I r (i _ _ _ _ q)⟩
theorem tg_name (i : Nat) {x : Str} (hN : X.N.Nodup) (hi : X.N[i]? = some x := by rfl) (hx : Loc X.env.scope x := by first | exact Or.inl rfl | exact Or.inr rfl)
    (hf : X.fn x = true ∨ X.env.scope.names.lookup x = some .local := by first | exact .inl rfl | exact .inr rfl) : PG X (.Name x pos) (tGt M (gtName i)) := (pg_name hN hi hx hf).con fun v σ H Q ⟨en, ρ, p, d, ρ', hH, rl, hd, hg, q⟩ => by
  subst hH
  unfold gtName at hg
  split at hg
  · rename_i hl
    cases hg
    exact q (σ.set i (some v)) (set_rel (r := .sh d) rl hd (fun _ _ ⟨_, h⟩ => by cases h) i hl)
  · cases hg
theorem tgs_nil : PGs X [] (tGts M gtNil) := pgs_nil.con fun v σ H Q ⟨en, ρ, p, ds, ρ', hH, rl, hd, hg, q⟩ => by
  subst hH
  cases ds with
  | nil => cases hg; cases hd; exact ⟨rfl, q σ rl⟩
  | cons _ _ => cases hg
theorem tgs_cons {g : D → Nv → Option Nv} {gs : List D → Nv → Option Nv} (h : PG X e (tGt M g)) (hr : PGs X es (tGts M gs)) (hs : (assignEach (e :: es) X.env).map (·.2) = assign e X.env :: (assignEach es X.env).map (·.2) := by rfl) :
    PGs X (e :: es) (tGts M (gtCons g gs)) := (pgs_cons h hr hs).con fun v σ H Q ⟨en, ρ, p, ds, ρ', hH, rl, hd, hg, q⟩ => by
  subst hH
  cases ds with
  | nil => cases hg
  | cons d r =>
    obtain ⟨x, vs, rfl, h1, h2⟩ := hd
    simp only [gtCons] at hg
    cases z : g d ρ with
    | none => rw [z] at hg; cases hg
    | some ρ1 =>
      rw [z] at hg
      exact ⟨x, vs, rfl, en, ρ, p, d, ρ1, rfl, rl, h1, z, fun σ' rl' => ⟨en, ρ1, p, r, ρ', rfl, rl', h2, hg, q⟩⟩
theorem tg_tup (n : Nat) {gs : List D → Nv → Option Nv} {k : Nat} (hc : X.calm = true) (h : PGs X es (tGts M gs)) (hn : (assignEach es X.env).length = n := by rfl) (hst : (assignEach es X.env).findIdx? (·.1) = none := by rfl) :
    PG X (.Tuple es k pos) (tGt M (gtTup n gs)) := (pg_tup hc h hn hst).con fun v σ H Q ⟨en, ρ, p, d, ρ', hH, rl, hd, hg, q⟩ => by
  subst hH
  cases d <;> first | (cases hg; done) | skip
  obtain ⟨a, vs, rfl, h1, h2, _⟩ := hd
  simp only [gtTup] at hg
  split at hg
  · rename_i hl
    exact ⟨a, vs, rfl, sqT_H rl.ok h1, h2.length.trans hl, en, ρ, p, _, ρ', rfl, rl, h2, hg, q⟩
  · cases hg
open Classical in
noncomputable def reb (q : Pt M) (ρ : Nv) (σ : Sl) : Pt M := ⟨q.s, q.F, q.Hv, fun b => if ∃ (i : Nat) (d : D), ρ[i]? = some (some (.ow d)) ∧ σ[i]? = some (some (.ref b)) then none else q.H b, q.ad⟩
theorem reb_rel {en q : Pt M} {ρ : Nv} {σ : Sl} (h : Rel en ρ σ q) : Rel (reb q ρ σ) ρ σ q where
  ok := h.ok
  ext := ⟨Same.rfl', fun b o e _ => by
    unfold reb at e; dsimp only at e
    split at e
    · cases e
    · exact e, fun b o e => .inl ⟨o, e⟩, fun _ f => .inl f, fun _ _ e => e⟩
  len := h.len
  sh := h.sh
  ow := fun i d hi => by
    obtain ⟨a, o, h1, h2, h3, h4, h5, h6⟩ := h.ow i d hi
    refine ⟨a, o, h1, h2, h3, h4, .inl ?_, h6⟩
    unfold reb; dsimp only
    rw [if_pos ⟨i, d, hi, h1⟩]
  dis := h.dis
section
variable {en q : Pt M} {ρ : Nv} {σ : Sl} (h : Rel en ρ σ q)
include h
theorem reb_own {b : Addr} (o : ∃ (i : Nat) (d : D), ρ[i]? = some (some (.ow d)) ∧ σ[i]? = some (some (.ref b))) : en.H b = none ∨ en.F b := by
  obtain ⟨i, d, h1, h2⟩ := o
  obtain ⟨a, u, e, _, _, _, h5, _⟩ := h.ow i d h1
  rw [h2] at e; cases e
  exact h5
theorem reb_new {b : Addr} (hb : (reb q ρ σ).H b = none ∨ (reb q ρ σ).F b) : en.H b = none ∨ en.F b := by
  rcases hb with hb | hb
  · unfold reb at hb; dsimp only at hb
    split at hb
    · rename_i o; exact reb_own h o
    · exact newOld h.ext hb
  · exact (h.ext.foot b hb).symm
theorem reb_ext {q' : Pt M} (e : Ext (reb q ρ σ) q') : Ext en q' where
  view := h.ext.view.tr e.view
  frame := fun b o hb nf => by
    have h1 := h.ext.frame b o hb nf
    refine e.frame b o ?_ fun z => ?_
    · unfold reb; dsimp only
      rw [if_neg]
      · exact h1
      · intro o'
        rcases reb_own h o' with z | z
        · rw [hb] at z; cases z
        · exact nf z
    · rcases h.ext.foot b z with z | z
      · exact nf z
      · rw [hb] at z; cases z
  new := fun b o hb => by
    have up : ∀ {A B C : Prop}, A ∨ B → A ∨ B ∨ C := fun h => h.elim .inl fun f => .inr (.inl f)
    rcases e.new b o hb with ⟨o', z⟩ | z | z | ⟨vs, z⟩
    · exact h.ext.new b o' z
    · exact .inr (up (reb_new h (.inl z)))
    · exact .inr (up (reb_new h (.inr z)))
    · refine .inr (tp_back h.ext.frame ⟨vs, ?_⟩)
      unfold reb at z; dsimp only at z
      split at z
      · cases z
      · exact z
  foot := fun b hb => by
    rcases e.foot b hb with z | z
    · exact (reb_new h (.inr z)).symm
    · exact (reb_new h (.inl z)).symm
  ad := fun n a ha => e.ad n a (h.ext.ad n a ha)
theorem reb_back {ρ' : Nv} {σ' : Sl} {q' : Pt M} (r : Rel (reb q ρ σ) ρ' σ' q') : Rel en ρ' σ' q' :=
  ⟨r.ok, reb_ext h r.ext, r.len, r.sh, fun i d hi => by
    obtain ⟨a, o, h1, h2, h3, h4, h5, h6⟩ := r.ow i d hi
    exact ⟨a, o, h1, h2, h3, h4, reb_new h h5, h6⟩, r.dis⟩
theorem reb_rok {q' : Pt M} {r : R} {v : V} (rk : ROk (reb q ρ σ) q' r v) : ROk en q' r v := by
  cases r with
  | sh d => exact rk
  | fr d =>
    obtain ⟨a, o, e1, e2, e3, e4, e5, e6⟩ := rk
    exact ⟨a, o, e1, e2, e3, e4, reb_new h e5, e6⟩
theorem reb_xend {W : WX} {x : Xs M} (hx : XSEnd M X.mg en W x) : XSEnd M X.mg (reb q ρ σ) W x := fun cls dd σ' q' rl es xk => hx cls dd σ' q' (reb_back h rl) es xk
end
theorem ss_for (m : List Nat) {g : D → Nv → Option Nv} {body : List Stmt} {sb : Sv M} (hp : PassesOwn (model X.prog X.w) X.A X.env X.xe) (hc : X.calm = true) (hi : PI X tg iter (tIt M W ei)) (hg : PG X tg (tGt M g)) (hb : PSs X body (tS M X.mg W sb))
    (hs : ∀ x, foldedSetIterable iter X.env x = pure x := by intro _; rfl) : PS X (.For tg iter body [] pos) (tS M X.mg W (sFor m ei g sb)) := (ps_for hp hc hi hg hb hs).con fun Dd σ H ⟨en, ρ, p, hH, rl, q⟩ => by
  subst hH
  refine ⟨view m ρ, p.opn ρ σ m, rfl, opn_ok rl, opn_env rl, G.all_mono (fun r hr J q0 e ok es sv => ?_) (fun x hx cls dd q e ok es xk => hx cls dd σ q (frz_rel rl e ok) es xk) (G.all_exs.mp (G.all_bind.mp q))⟩
  have rl0 := frz_rel rl e ok
  have rb := reb_rel rl0
  rw [← es] at hr
  refine ⟨fun i n σ' H' => n = r.1.length - i ∧ i ≤ r.1.length ∧ ∃ (ρ' : Nv) (q' : Pt M), q'.H = H' ∧ Rel (reb q0 (frz m ρ) σ) ρ' σ' q' ∧ (loopG g sb (r.1.drop i) ρ' q'.s).all (SEnd M en Dd) (XSEnd M X.mg en W), ⟨r.1.length, by simp, Nat.zero_le _, frz m ρ, q0, rfl, rb, hr⟩, ?_⟩
  rintro i n σ' H' ⟨rfl, hi, ρ', q', rfl, rl', hl⟩
  have vw : Same q0.Hv q'.H := rl'.ext.view.tr rl'.ok.view
  obtain ⟨s1, s2⟩ := sv q'.H vw
  by_cases hlt : i < r.1.length
  · have hd : r.1[i]? = some r.1[i] := by simp [hlt]
    obtain ⟨g1, g2⟩ := s2 i _ hd
    refine .inr ⟨g1, fun σ2 H2 => ∃ (ρ2 : Nv) (q2 : Pt M), q2.H = H2 ∧ Rel (reb q0 (frz m ρ) σ) ρ2 σ2 q2 ∧ (loopG g sb (r.1.drop (i + 1)) ρ2 q2.s).all (SEnd M en Dd) (XSEnd M X.mg en W), fun σ2 H2 ⟨ρ2, q2, a, b, c⟩ => ⟨r.1.length - (i + 1), by omega, rfl, hlt, ρ2, q2, a, b, c⟩, fun x H2 y => ?_⟩
    have hdrop : r.1.drop i = r.1[i] :: r.1.drop (i + 1) := List.drop_eq_getElem_cons hlt
    rw [hdrop] at hl
    simp only [loopG] at hl
    cases zg : g r.1[i] ρ' with
    | none => rw [zg] at hl; exact hl.elim
    | some ρ1 =>
      rw [zg] at hl
      obtain ⟨q1, eH, eS, rl1, dn⟩ : ∃ q1 : Pt M, q1.H = H2 ∧ q1.s = q'.s ∧ Rel (reb q0 (frz m ρ) σ) ρ' σ' q1 ∧ Den X.K q1.ad q1.Hv r.1[i] x := by
        rcases g2 x H2 y with ⟨rfl, dx⟩ | ⟨a, ho, vs, ds, ha, rfl, rfl, th, ed, dl⟩ | ⟨a, ho, vs, ds, b, ho2, v0, d0, ha, hb, rfl, rfl, th, th2, ed, dl, d1⟩
        · exact ⟨q', rfl, rfl, rl', dx.mono rl'.ext.view rl'.ext.ad⟩
        · have el := ext_lay rl'.ok ha (o := ho)
          refine ⟨q'.lay a ho, rfl, rfl, rel_lay rl' ha, ?_⟩
          rw [ed]
          exact th.den upd_same (dl.mono (rl'.ext.view.tr el.view) rl'.ext.ad)
        · have el := ext_lay rl'.ok ha (o := ho)
          have rl1 := rel_lay rl' (ho := ho) ha
          have el2 := ext_lay rl1.ok (a := b) hb (o := ho2)
          refine ⟨(q'.lay a ho).lay b ho2, rfl, rfl, rel_lay rl1 hb, ?_⟩
          rw [ed]
          have da : Den X.K q'.ad (q'.lay a ho).Hv (.tup ds) (.ref a) := th.den upd_same (dl.mono (rl'.ext.view.tr el.view) rl'.ext.ad)
          have d2 : Den X.K q'.ad (q'.lay a ho).Hv d0 v0 := d1.mono (rl'.ext.view.tr el.view) rl'.ext.ad
          exact th2.den upd_same (DenL.cons (d2.mono el2.view fun _ _ e => e) (DenL.one (da.mono el2.view fun _ _ e => e)))
      rw [← eH]
      refine ⟨_, ρ', q1, _, ρ1, rfl, rl1, dn, zg, fun σ2 rl2 => ?_⟩
      rw [← eS] at hl
      refine ⟨_, ρ1, q1, rfl, rl2, G.all_mono (fun f hf => ?_) (fun x hx => reb_xend rl0 hx) (G.all_bind.mp hl)⟩
      obtain ⟨f, s3⟩ := f
      cases f with
      | nx ρ3 => exact fun σ3 q3 rl3 es3 => ⟨ρ3, q3, rfl, rl3, by rw [es3]; exact hf⟩
      | ct ρ3 => exact fun σ3 q3 rl3 es3 => ⟨ρ3, q3, rfl, rl3, by rw [es3]; exact hf⟩
      | bk ρ3 => exact fun σ3 q3 rl3 es3 => hf σ3 q3 (reb_back rl0 rl3) es3
      | rt r3 => exact fun v q3 e3 ok3 es3 rk3 => hf v q3 (reb_ext rl0 e3) ok3 es3 (reb_rok rl0 rk3)
  · have ei : i = r.1.length := by omega
    subst ei
    rw [List.drop_length] at hl
    exact .inl ⟨s1 _ rfl, hl σ' q' (reb_back rl0 rl') rfl⟩
end
namespace G
variable {ε ε' α : Type}
def noX : G ε α → G ε' α
  | ret a => ret a
  | exc _ => bad
  | draw n k => draw n fun r => (k r).noX
  | bad => bad
theorem all_noX {Q : α → Prop} {E : ε' → Prop} {E' : ε → Prop} : ∀ {m : G ε α}, (m.noX : G ε' α).all Q E → m.all Q E'
  | ret _, h => h
  | exc _, h => h.elim
  | bad, h => h.elim
  | draw _ k, h => ⟨h.1, fun r hr => all_noX (h.2 r hr)⟩
@[simp] theorem noX_ret (a : α) : (ret a : G ε α).noX = (ret a : G ε' α) := rfl
end G
section
variable {K : PySem.W.Frag} {M : WM K}
def wipeD (vs : List Nat) (ρ : Dv) : Dv := vs.foldl (fun ρ i => ρ.set i none) ρ
theorem wipeD_get : ∀ (vs : List Nat) (ρ : Dv) (i : Nat) (d : D), (wipeD vs ρ)[i]? = some (some d) → ρ[i]? = some (some d) ∧ i ∉ vs
  | [], ρ, i, d, h => ⟨h, by simp⟩
  | v :: vs, ρ, i, d, h => by
    obtain ⟨h1, h2⟩ := wipeD_get vs (ρ.set v none) i d h
    by_cases e : v = i
    · subst e
      by_cases hl : v < ρ.length
      · rw [List.getElem?_set_self hl] at h1; cases h1
      · rw [List.getElem?_eq_none_iff.mpr (by simp; omega)] at h1; cases h1
    · rw [List.getElem?_set_ne e] at h1
      exact ⟨h1, by simp [h2]; exact fun q => e q.symm⟩
theorem wipeD_len : ∀ (vs : List Nat) (ρ : Dv), (wipeD vs ρ).length = ρ.length
  | [], _ => rfl
  | v :: vs, ρ => by
    show (wipeD vs (ρ.set v none)).length = _
    rw [wipeD_len vs]; simp
theorem wipe_env {p : Pt M} {σ : Sl} {ρ : Dv} {vs : List Nat} (h : EnvD M p σ ρ) : EnvD M p (wipe σ vs) (wipeD vs ρ) := ⟨by rw [wipe_length, wipeD_len]; exact h.len, fun i d e => by
  obtain ⟨h1, h2⟩ := wipeD_get vs ρ i d e
  obtain ⟨v, h3, h4⟩ := h.get i d h1
  exact ⟨v, by rw [wipe_out h2]; exact h3, h4⟩⟩
def tGd (M : WM K) (vs : List Nat) (g : D → Dv → Option Dv) : TG := fun v σ H Q => ∃ (ρ : Dv) (p : Pt M) (d : D) (ρ' : Dv), p.H = H ∧ EnvD M p σ ρ ∧ p.Ok ∧ Den K p.ad p.Hv d v ∧ g d ρ = some ρ' ∧ ∀ σ', EnvD M p σ' ρ' → wipe σ' vs = wipe σ vs → Q σ' p.H
def tGds (M : WM K) (vs : List Nat) (g : List D → Dv → Option Dv) : TGs := fun v σ H Q => ∃ (ρ : Dv) (p : Pt M) (ds : List D) (ρ' : Dv), p.H = H ∧ EnvD M p σ ρ ∧ p.Ok ∧ DenL K p.ad p.Hv ds v ∧ g ds ρ = some ρ' ∧ ∀ σ', EnvD M p σ' ρ' → wipe σ' vs = wipe σ vs → Q σ' p.H
def gdName (i : Nat) : D → Dv → Option Dv := fun d ρ => if i < ρ.length then some (ρ.set i (some d)) else none
def gdNil : List D → Dv → Option Dv := fun ds ρ => match ds with
  | [] => some ρ
  | _ => none
def gdCons (g : D → Dv → Option Dv) (gs : List D → Dv → Option Dv) : List D → Dv → Option Dv := fun ds ρ => match ds with
  | d :: r => (g d ρ).bind (gs r)
  | [] => none
def gdTup (n : Nat) (gs : List D → Dv → Option Dv) : D → Dv → Option Dv := fun d ρ => match d with
  | .tup ds => if ds.length = n then gs ds ρ else none
  | _ => none
def lcG (g : D → Dv → Option Dv) (et : Ev M Bool) (ee : Ev M D) (ρ : Dv) : List D → List D → M.S → Gx M R
  | [], acc, s => .ret (.fr (.lst acc), s)
  | d :: ds, acc, s => match g d ρ with
    | none => .bad
    | some ρ1 => (et ρ1 s).noX.bind fun b => if b.1 = true then (ee ρ1 b.2).noX.bind fun y => if acc.length < big then lcG g et ee ρ ds (acc ++ [y.1]) y.2 else .bad else lcG g et ee ρ ds acc b.2
def eLc (vs : List Nat) (ei : Ev M (List D)) (g : D → Dv → Option Dv) (et : Ev M Bool) (ee : Ev M D) : Ev M R := fun ρ s => (ei ρ s).bind fun r => lcG g et ee (wipeD vs ρ) r.1 [] r.2
def eYes : Ev M Bool := fun _ s => .ret (true, s)
end
theorem wipe_set {σ : Sl} {i : Nat} {o : Option V} : ∀ {vs : List Nat}, i ∈ vs → wipe (σ.set i o) vs = wipe σ vs := by
  intro vs hi
  refine List.ext_getElem? fun j => ?_
  by_cases hj : j ∈ vs
  · have none_at : ∀ (τ : Sl) (vs : List Nat), j ∈ vs → (wipe τ vs)[j]? = if j < τ.length then some none else none := by
      intro τ vs
      induction vs generalizing τ with
      | nil => intro h; cases h
      | cons v vs ih =>
        intro h
        show ((wipe τ vs).set v none)[j]? = _
        by_cases e : v = j
        · subst e
          by_cases hl : v < τ.length
          · rw [List.getElem?_set_self (by rw [wipe_length]; exact hl), if_pos hl]
          · rw [if_neg hl, List.getElem?_eq_none_iff.mpr (by simp [wipe_length]; omega)]
        · rw [List.getElem?_set_ne e]
          rcases List.mem_cons.mp h with e' | e'
          · exact absurd e'.symm e
          · exact ih τ e'
    rw [none_at _ _ hj, none_at _ _ hj]; simp
  · have : i ≠ j := fun e => hj (e ▸ hi)
    rw [wipe_out hj, wipe_out hj, List.getElem?_set_ne this]
theorem wipe_at {j : Nat} : ∀ (vs : List Nat) (τ : Sl), j ∈ vs → (wipe τ vs)[j]? = if j < τ.length then some none else none
  | [], _, h => by cases h
  | v :: vs, τ, h => by
    show ((wipe τ vs).set v none)[j]? = _
    by_cases e : v = j
    · subst e
      by_cases hl : v < τ.length
      · rw [List.getElem?_set_self (by rw [wipe_length]; exact hl), if_pos hl]
      · rw [if_neg hl, List.getElem?_eq_none_iff.mpr (by simp [wipe_length]; omega)]
    · rw [List.getElem?_set_ne e]
      rcases List.mem_cons.mp h with e' | e'
      · exact absurd e'.symm e
      · exact wipe_at vs τ e'
theorem wipe_idem {σ : Sl} {vs : List Nat} : wipe (wipe σ vs) vs = wipe σ vs := by
  refine List.ext_getElem? fun j => ?_
  by_cases hj : j ∈ vs
  · rw [wipe_at vs _ hj, wipe_at vs _ hj, wipe_length]
  · rw [wipe_out hj]
section
variable {X : Cx} {M : WM X.K} {W : WX} {e a b iter tg elt : Expr} {es rest : List Expr} {pos : Pos} {ea eb ec : Ev M D} {er : Ev M R} {el ei : Ev M (List D)} {vs : List Nat}
theorem cg_name (i : Nat) {x : Str} (hv : i ∈ vs := by decide) (hN : X.N.Nodup) (hi : X.N[i]? = some x := by rfl) (hx : Loc X.env.scope x := by first | exact Or.inl rfl | exact Or.inr rfl)
    (hf : X.fn x = true ∨ X.env.scope.names.lookup x = some .local := by first | exact .inl rfl | exact .inr rfl) : PG X (.Name x pos) (tGd M vs (gdName i)) := (pg_name hN hi hx hf).con fun v σ H Q ⟨ρ, p, d, ρ', hH, en, ok, hd, hg, q⟩ => by
  subst hH
  unfold gdName at hg
  split at hg
  · rename_i hil
    cases hg
    refine q (σ.set i (some v)) ⟨by simp [en.len], fun j d' e => ?_⟩ (wipe_set hv)
    by_cases hj : i = j
    · subst hj
      rw [List.getElem?_set_self hil] at e
      cases e
      exact ⟨v, by rw [List.getElem?_set_self (by rw [en.len]; exact hil)], hd⟩
    · rw [List.getElem?_set_ne hj] at e ⊢
      exact en.get j d' e
  · cases hg
theorem cgs_nil : PGs X [] (tGds M vs gdNil) := pgs_nil.con fun v σ H Q ⟨ρ, p, ds, ρ', hH, en, ok, hd, hg, q⟩ => by
  subst hH
  cases ds with
  | nil => cases hg; cases hd; exact ⟨rfl, q σ en rfl⟩
  | cons _ _ => cases hg
theorem cgs_cons {g : D → Dv → Option Dv} {gs : List D → Dv → Option Dv} (h : PG X e (tGd M vs g)) (hr : PGs X es (tGds M vs gs)) (hs : (assignEach (e :: es) X.env).map (·.2) = assign e X.env :: (assignEach es X.env).map (·.2) := by rfl) :
    PGs X (e :: es) (tGds M vs (gdCons g gs)) := (pgs_cons h hr hs).con fun v σ H Q ⟨ρ, p, ds, ρ', hH, en, ok, hd, hg, q⟩ => by
  subst hH
  cases ds with
  | nil => cases hg
  | cons d r =>
    obtain ⟨x, ws, rfl, h1, h2⟩ := hd
    simp only [gdCons] at hg
    cases z : g d ρ with
    | none => rw [z] at hg; cases hg
    | some ρ1 =>
      rw [z] at hg
      exact ⟨x, ws, rfl, ρ, p, d, ρ1, rfl, en, ok, h1, z, fun σ' en' hw => ⟨ρ1, p, r, ρ', rfl, en', ok, h2, hg, fun σ2 en2 hw2 => q σ2 en2 (hw2.trans hw)⟩⟩
theorem cg_tup (n : Nat) {gs : List D → Dv → Option Dv} {k : Nat} (hc : X.calm = true) (h : PGs X es (tGds M vs gs)) (hn : (assignEach es X.env).length = n := by rfl) (hst : (assignEach es X.env).findIdx? (·.1) = none := by rfl) :
    PG X (.Tuple es k pos) (tGd M vs (gdTup n gs)) := (pg_tup hc h hn hst).con fun v σ H Q ⟨ρ, p, d, ρ', hH, en, ok, hd, hg, q⟩ => by
  subst hH
  cases d <;> first | (cases hg; done) | skip
  obtain ⟨a, ws, rfl, h1, h2, _⟩ := hd
  simp only [gdTup] at hg
  split at hg
  · rename_i hl
    exact ⟨a, ws, rfl, sqT_H ok h1, h2.length.trans hl, ρ, p, _, ρ', rfl, en, ok, h2, hg, q⟩
  · cases hg
theorem _root_.L2.PTs.con {X : Cx} {e : List Expr} {t t' : TT} (h : PTs X e t) (i : ∀ σ H Q, t' σ H Q → t σ H Q) : PTs X e t' := ⟨fun pins s σ H Q I q => h.run pins s σ H Q I (i _ _ _ q)⟩
theorem tts_nil : PTs X [] (tB' M X.mg W eYes) := pts_nil.con fun σ H Q ⟨ρ, p, hH, ok, en, q⟩ => by
  subst hH
  exact q p (Ext.refl p) ok rfl
theorem tts_one {c : Expr} {et : Ev M Bool} (h : PT X c (tB' M X.mg W et)) : PTs X [c] (tB' M X.mg W et) := pts_one h
abbrev W0 : WX := fun _ _ _ _ => False
theorem tLc_of {g : D → Dv → Option Dv} {et : Ev M Bool} {σ : Sl} {H : Hp} {Q : V → Hp → Prop} (h : tR M X.mg W (eLc vs ei g et ea) σ H Q) :
    tLc (tIt M W ei) (tGd M vs g) (tB' M X.mg W0 et) (tD M X.mg W0 ea) vs σ H Q := by
  obtain ⟨ρ, p, hH, okp, en, q⟩ := h
  subst hH
  unfold tLc
  refine ⟨ρ, p, rfl, okp, en, G.all_mono (fun r hr J q0 e0 ok0 es sv D hD => ?_) (fun _ h => h) (G.all_bind.mp q)⟩
  rw [← es] at hr
  have hnew : p.H D = none ∨ p.F D := newOld e0 hD
  have okd := ok_hid ok0 hD (o := .lst [])
  refine ⟨fun i n H' => n = r.1.length - i ∧ i ≤ r.1.length ∧ ∃ (acc : List VQ.D) (av : List V) (q' : Pt M), q'.H = H' ∧ q'.Ok ∧ Ext q0 q' ∧ q'.H D = some (.lst av) ∧ q'.Hv D = none ∧ ¬ q'.F D ∧ DenL X.K q'.ad q'.Hv acc av ∧
    (lcG g et ea (wipeD vs ρ) (r.1.drop i) acc q'.s).all (fun r => ∀ v (q : Pt M), Ext p q → q.Ok → q.s = r.2 → ROk p q r.1 v → Q v q.H) (XEnd M X.mg p W σ),
    ⟨r.1.length, by simp, Nat.zero_le _, [], [], q0.hid D (.lst []), rfl, okd, ext_hid hD, upd_same, ok0.vn hD, ok0.fn hD, DenL.nil, hr⟩, ?_⟩
  rintro i n H' ⟨rfl, hile, acc, av, q', rfl, ok', e', hDl, hDv, hDf, da, hl⟩
  have vw : Same q0.Hv q'.H := e'.view.tr ok'.view
  obtain ⟨s1, s2⟩ := sv q'.H vw
  by_cases hlt : i < r.1.length
  · have hd : r.1[i]? = some r.1[i] := by simp [hlt]
    obtain ⟨g1, g2⟩ := s2 i _ hd
    refine .inr ⟨g1, fun H2 => ∃ (acc : List VQ.D) (av : List V) (q' : Pt M), q'.H = H2 ∧ q'.Ok ∧ Ext q0 q' ∧ q'.H D = some (.lst av) ∧ q'.Hv D = none ∧ ¬ q'.F D ∧ DenL X.K q'.ad q'.Hv acc av ∧
      (lcG g et ea (wipeD vs ρ) (r.1.drop (i + 1)) acc q'.s).all (fun r => ∀ v (q : Pt M), Ext p q → q.Ok → q.s = r.2 → ROk p q r.1 v → Q v q.H) (XEnd M X.mg p W σ), fun H2 ⟨acc, av, q2, a1, a2⟩ => ⟨r.1.length - (i + 1), by omega, rfl, hlt, acc, av, q2, a1, a2⟩, fun x H2 y => ?_⟩
    have hdrop : r.1.drop i = r.1[i] :: r.1.drop (i + 1) := List.drop_eq_getElem_cons hlt
    rw [hdrop] at hl
    simp only [lcG] at hl
    cases zg : g r.1[i] (wipeD vs ρ) with
    | none => rw [zg] at hl; exact hl.elim
    | some ρ1 =>
      rw [zg] at hl
      obtain ⟨q1, eH, eS, e1, ok1, e1', dn⟩ : ∃ q1 : Pt M, q1.H = H2 ∧ q1.s = q'.s ∧ Ext q0 q1 ∧ q1.Ok ∧ Ext q' q1 ∧ Den X.K q1.ad q1.Hv r.1[i] x := by
        rcases g2 x H2 y with ⟨rfl, dx⟩ | ⟨a, ho, vs, ds, ha, rfl, rfl, th, ed, dl⟩ | ⟨a, ho, vs, ds, b, ho2, v0, d0, ha, hb, rfl, rfl, th, th2, ed, dl, d1⟩
        · exact ⟨q', rfl, rfl, e', ok', Ext.refl _, e'.den dx⟩
        · have el := ext_lay ok' ha (o := ho)
          exact ⟨q'.lay a ho, rfl, rfl, e'.trans el, ok_lay ok' ha, el, by rw [ed]; exact th.den upd_same ((e'.trans el).denL dl)⟩
        · have el := ext_lay ok' ha (o := ho)
          have ok2 := ok_lay ok' ha (o := ho)
          have el2 := ext_lay ok2 (a := b) hb (o := ho2)
          have da : Den X.K q'.ad (q'.lay a ho).Hv (.tup ds) (.ref a) := th.den upd_same ((e'.trans el).denL dl)
          have d2 : Den X.K q'.ad (q'.lay a ho).Hv d0 v0 := (e'.trans el).den d1
          exact ⟨(q'.lay a ho).lay b ho2, rfl, rfl, (e'.trans el).trans el2, ok_lay ok2 hb, el.trans el2, by rw [ed]; exact th2.den upd_same (DenL.cons (el2.den d2) (DenL.one (el2.den da)))⟩
      have keepD : ∀ {q2 : Pt M}, Ext q' q2 → q2.H D = some (.lst av) ∧ q2.Hv D = none ∧ ¬ q2.F D := fun {q2} ex => by
        refine ⟨ex.frame D _ hDl hDf, ?_, fun z => ?_⟩
        · cases z : q2.Hv D with
          | none => rfl
          | some o =>
            rcases ex.new D o z with ⟨o', z'⟩ | z' | z'
            · rw [hDv] at z'; cases z'
            · rw [hDl] at z'; cases z'
            · exact (z'.elim (fun z' => absurd z' hDf) fun ⟨_, z'⟩ => by rw [hDl] at z'; cases z')
        · rcases ex.foot D z with z | z
          · exact hDf z
          · rw [hDl] at z; cases z
      rw [← eH]
      refine ⟨wipeD vs ρ, q1, r.1[i], ρ1, rfl, wipe_env (en.ext (e0.trans e1)), ok1, dn, zg, fun σ2 en2 hw => ⟨hw.trans wipe_idem, ?_⟩⟩
      rw [← eS] at hl
      refine ⟨ρ1, q1, rfl, ok1, en2, G.all_mono (fun b hb q2 e2 ok2 es2 => ?_) (fun _ h => h) (G.all_noX (E' := XEnd M X.mg q1 W0 σ2) (G.all_bind.mp hl))⟩
      obtain ⟨b, sb⟩ := b
      have es4 : q2.s = sb := es2
      cases b with
      | true =>
        have hb' : ((ea ρ1 sb).noX.bind _).all _ _ := hb
        rw [← es4] at hb'
        refine ⟨ρ1, q2, rfl, ok2, en2.ext e2, G.all_mono (fun y hy v q3 e3 ok3 es3 dy => ?_) (fun _ h => h) (G.all_noX (E' := XEnd M X.mg q2 W0 σ2) (G.all_bind.mp hb'))⟩
        obtain ⟨k1, k2, k3⟩ := keepD ((e1'.trans e2).trans e3)
        split at hy
        · rename_i hbig
          refine ⟨av, k1, ?_, acc ++ [y.1], av ++ [v], ⟨q3.s, q3.F, q3.Hv, upd q3.H D (.lst (av ++ [v])), q3.ad⟩, rfl, ?_, ?_, upd_same, k2, k3, ?_, by rw [← es3] at hy; exact hy⟩
          · rw [da.length]
            have : big < sizeLine := by rw [sizeLine_eq]; decide
            omega
          · have sm : Same q3.Hv (upd q3.H D (.lst (av ++ [v]))) := fun b o hb => by
              have : b ≠ D := fun z => by rw [z, k2] at hb; cases hb
              rw [upd_ne this]; exact ok3.view _ _ hb
            exact ⟨sm, ok3.off, M.stay ok3.rep Same.rfl' fun b o fb hb => by
              have : b ≠ D := fun z => k3 (z ▸ fb)
              show upd q3.H D (.lst (av ++ [v])) b = some o
              rw [upd_ne this]; exact hb⟩
          · have e13 := ((e1.trans e2).trans e3)
            exact ⟨e13.view, fun b o hb nf => by
              have : b ≠ D := ne_of_none hb hD
              show upd q3.H D _ b = some o
              rw [upd_ne this]; exact e13.frame b o hb nf, e13.new, e13.foot, e13.ad⟩
          · exact (((e1'.trans e2).trans e3).denL da).append (DenL.one dy)
        · exact hy.elim
      | false =>
        have hb' : (lcG g et ea (wipeD vs ρ) (r.1.drop (i + 1)) acc sb).all _ _ := hb
        rw [← es4] at hb'
        obtain ⟨k1, k2, k3⟩ := keepD (e1'.trans e2)
        exact ⟨acc, av, q2, rfl, ok2, e1.trans e2, k1, k2, k3, (e1'.trans e2).denL da, hb'⟩
  · have ei : i = r.1.length := by omega
    subst ei
    rw [List.drop_length] at hl
    exact .inl ⟨s1 _ rfl, hl (.ref D) q' (e0.trans e') ok' rfl ⟨D, .lst av, rfl, hDl, hDv, hDf, hnew, da⟩⟩
theorem ev_lc (own : List (Str × Nat)) {ifs : List Expr} {scope : Scope} {g : D → Dv → Option Dv} {et : Ev M Bool} (hc : X.calm = true) (hN : X.N.Nodup) (hi : PI X tg iter (tIt M W ei)) (ok : BlkOk X.N X.env.scope scope own)
    (hg : ∀ (s : Shared) (H : Hp) (C : Addr) (cl : List (Str × Addr)) (fp : List Addr), PG (X.blk s H scope (compEnvC scope cl C X.env) fp) tg (tGd M (own.map (·.2)) g))
    (ht : ∀ (s : Shared) (H : Hp) (C : Addr) (cl : List (Str × Addr)) (fp : List Addr), PTs (X.blk s H scope (compEnvC scope cl C X.env) fp) ifs (tB' M X.mg W0 et))
    (he : ∀ (s : Shared) (H : Hp) (C : Addr) (cl : List (Str × Addr)) (fp : List Addr), PE (X.blk s H scope (compEnvC scope cl C X.env) fp) elt (tD M X.mg W0 ea)) (hs : ∀ x, foldedSetIterable iter X.env x = pure x := by intro _; rfl)
    : PE X (.ListComp elt [⟨tg, iter, ifs, 0⟩] scope pos) (tR M X.mg W (eLc (own.map (·.2)) ei g et ea)) := (pe_lc hc hN hi ok hg ht he hs).con fun _ _ _ h => tLc_of h
end
def SqM (K : PySem.W.Frag) (k : Bool) (H : Hp) (a : Addr) (xs : List V) : Prop := match k with
  | true => SqL K H a xs
  | false => SqT K H a xs
def IsM (k : Bool) (h : Heap) (a : Addr) (its : Array Value) : Prop := match k with
  | true => h.IsList a its
  | false => h.IsTuple a its
def objM (k : Bool) (a : Addr) : Obj := match k with
  | true => { cls := .type "list_iterator", data := .fields #[.ref a, .int 0 0] }
  | false => { cls := .type "tuple_iterator", data := .fields #[.ref a, .int 0 0] }
theorem drawsM (k : Bool) {prog : Program} {w : World} {A : Around} (hh : A.handled = none) (it l : Addr) (hne : l ≠ it) (items : Array Value) : Draws prog w A it [it, l] items.size (fun i v => items[i]? = some v) (fun i h => ItrM k h it l i ∧ IsM k h l items) := by
  cases k
  · exact Draws.tuple hh it l hne items
  · exact Draws.list hh it l hne items
theorem invM {X : Cx} {pins : List (Addr × Obj)} {σ : L2.St} {H : Hp} {s : Shared} {a : Addr} {xs : List V} (k : Bool) (I : L2.Inv X pins σ H s) (h : SqM X.K k H a xs) : ∃ its : List Value, Vals xs its ∧ IsM k s.heap a its.toArray ∧ a < s.heap.objs.size := by
  cases k
  · obtain ⟨its, rv, p, _⟩ := I.tuple h
    obtain ⟨o, ho, _⟩ := id p
    exact ⟨its, rv, p, Heap.lt_size ho⟩
  · obtain ⟨its, rv, p, _⟩ := I.list h
    exact ⟨its, rv, p.isList, p.lt⟩
theorem sqM_inj {X : Cx} {pins : List (Addr × Obj)} {σ : L2.St} {H : Hp} {s : Shared} {a : Addr} {xs ys : List V} (k : Bool) (I : L2.Inv X pins σ H s) (h : SqM X.K k H a xs) (h' : SqM X.K k H a ys) : xs = ys := by
  cases k
  · exact I.tuple_inj h h'
  · exact I.list_inj h h'
theorem itrM_obj {k : Bool} {h : Heap} {it a : Addr} {i : Nat} (st : ItrM k h it a i) : ∃ o, h.get? it = some o ∧ ∀ v, o.data ≠ .cell v := by
  cases k <;> obtain ⟨o, e, _, d⟩ := st <;> exact ⟨o, e, fun v q => by rw [d] at q; cases q⟩
def Itzm (K : PySem.W.Frag) (k1 k2 : Bool) (a b : Addr) : It :=
  ⟨fun i H => ∃ (xs ys : List V), SqM K k1 H a xs ∧ SqM K k2 H b ys ∧ i < xs.length ∧ i < ys.length,
    fun i H v H' => ∃ T x y o, v = .ref T ∧ H T = none ∧ H' = upd H T (.frz o (.tup [x, y])) ∧ o.cls = .type "tuple" ∧ o.dict = none ∧ (∀ xs, SqM K k1 H a xs → xs[i]? = some x) ∧ ∀ ys, SqM K k2 H b ys → ys[i]? = some y,
    fun i H => ∃ xs ys : List V, SqM K k1 H a xs ∧ SqM K k2 H b ys ∧ i ≤ xs.length ∧ i ≤ ys.length ∧ (i = xs.length ∨ i = ys.length)⟩
theorem turn_zm {P : Program} {w : World} {K : PySem.W.Frag} {elts : List Expr} {kk : Nat} {tpos : Pos} {k1 k2 : Bool} {a b z TI TO i1 i2 : Addr} (S : ZipSep2 z TI TO i1 i2 [i1, a] [i2, b]) (ne1 : a ≠ i1) (ne2 : b ≠ i2) :
    Turn P w K (.Tuple elts kk tpos) (Itzm K k1 k2 a b) [z, TI, TO, i1, i2] z (fun i h => IsZip h z TI TO .none ∧ IsPair h TI (.ref i1) (.ref i2) ∧ (∃ x y, IsPair h TO x y) ∧ ItrM k1 h i1 a i ∧ ItrM k2 h i2 b i) where
  mem := by simp
  obj := fun i h st c hc => by
    obtain ⟨hz, hTI, ⟨x, y, hTO⟩, h1, h2⟩ := st
    simp only [List.mem_cons, List.not_mem_nil, or_false] at hc
    rcases hc with q | q | q | q | q
    · rw [q]; exact ⟨_, hz, fun v q => nomatch q⟩
    · rw [q]; exact ⟨_, hTI, fun v q => nomatch q⟩
    · rw [q]; exact ⟨_, hTO, fun v q => nomatch q⟩
    · rw [q]; exact itrM_obj h1
    · rw [q]; exact itrM_obj h2
  keep := fun i h h' st k => by
    obtain ⟨hz, hTI, ⟨x, y, hTO⟩, h1, h2⟩ := st
    exact ⟨k z (by simp) _ hz, k TI (by simp) _ hTI, ⟨x, y, k TO (by simp) _ hTO⟩, h1.keep fun o q => k i1 (by simp) o q, h2.keep fun o q => k i2 (by simp) o q⟩
  item := by
    intro X hP hw hK hc i pins s σ H E I hf st hg
    subst hP hw hK
    obtain ⟨hz, hTI, ⟨x0, y0, hTO⟩, h1, h2⟩ := st
    obtain ⟨xs, ys, qx, qy, hi, hi2⟩ := hg
    obtain ⟨its, rv, p, pl⟩ := invM k1 I qx
    obtain ⟨its2, rv2, p2, pl2⟩ := invM k2 I qy
    have l1 := rv.length
    have l2 := rv2.length
    have hh : X.A.in1.handled = none := I.ok.hd hc
    have D1 := drawsM k1 (prog := X.prog) (w := X.w) hh i1 a ne1 its.toArray
    have D2 := drawsM k2 (prog := X.prog) (w := X.w) hh i2 b ne2 its2.toArray
    have hzl : z < s.heap.objs.size := Heap.lt_size hz
    refine PySem.wpAny_pyNext_zipD2_item S D1 D2 hz hTI hTO ⟨h1, p⟩ ⟨h2, p2⟩ (by simp; omega) (by simp; omega) fun u u2 h' tk hu hu2 a1 a3 a4 a5 a6 a8 a7 => ⟨_, rfl, wpAny_letOwnedTupleGo_zip (s := { s with heap := h', toks := tk }) a1 fun h'' z'' sb => ?_⟩
    have a2 : IsPair h' TI (.ref i1) (.ref i2) := a7 _ _ S.TIz S.TITO S.TIi1 S.TIi2 hTI
    obtain ⟨x, hx⟩ : ∃ x, xs[i]? = some x := ⟨xs[i], by simp [hi]⟩
    obtain ⟨y, hy⟩ : ∃ y, ys[i]? = some y := ⟨ys[i], by simp [hi2]⟩
    obtain ⟨v, hv, rx⟩ := rv.get hx
    obtain ⟨v2, hv2, ry⟩ := rv2.get hy
    have eu : u = v := by simpa [hv] using hu.symm
    have eu2 : u2 = v2 := by simpa [hv2] using hu2.symm
    subst eu eu2
    have hT2 : h''.get? s.heap.objs.size = some { cls := .type "tuple", data := .seq #[u, u2] } := (sb.2 _ (Nat.ne_of_gt hzl)).trans a6
    have new : ObjOk X.prog X.w (upd H s.heap.objs.size (.frz { cls := .type "tuple", data := .seq #[u, u2] } (.tup [x, y]))) h'' s.heap.objs.size (.frz { cls := .type "tuple", data := .seq #[u, u2] } (.tup [x, y])) := ⟨hT2, by show 2 ≤ sizeLine; decide, [u, u2], .cons rx (.cons ry .nil), ⟨_, hT2, rfl, _, rfl⟩⟩
    have I1 : L2.Inv X pins σ (upd H s.heap.objs.size (.frz { cls := .type "tuple", data := .seq #[u, u2] } (.tup [x, y]))) { s with heap := h'', toks := tk } :=
      I.turnedNew (t' := tk) (ch := [z, TI, TO, i1, i2]) (fun c o hb q => (sb.2 c (fun q' => hb (by simp [q']))).trans (a7 c o (fun q' => hb (by simp [q'])) (fun q' => hb (by simp [q'])) (fun q' => hb (by simp [q'])) (fun q' => hb (by simp [q'])) q)) hf (Nat.le_refl _) new
    refine ⟨.ref s.heap.objs.size, _, I1, rfl, ⟨_, x, y, _, rfl, I.hok.fresh (Nat.le_refl _), rfl, rfl, rfl, fun l hl => by rw [sqM_inj k1 I hl qx]; exact hx, fun l hl => by rw [sqM_inj k2 I hl qy]; exact hy⟩, ⟨z'', ?_, ⟨u, u2, ?_⟩, ?_, ?_⟩, fun c hcm => ?_⟩
    · exact (sb.2 _ S.TIz).trans a2
    · exact (sb.2 _ S.TOz).trans a3
    · exact a4.1.keep fun o q => (sb.2 _ (fun e => S.zf1 (e ▸ S.mem1))).trans q
    · exact a5.1.keep fun o q => (sb.2 _ (fun e => S.zf2 (e ▸ S.mem2))).trans q
    · have hlt : c < s.heap.objs.size := by
        obtain ⟨o1, e1, _⟩ := itrM_obj h1
        obtain ⟨o2, e2, _⟩ := itrM_obj h2
        simp only [List.mem_cons, List.not_mem_nil, or_false] at hcm
        rcases hcm with q | q | q | q | q
        · rw [q]; exact hzl
        · rw [q]; exact Heap.lt_size hTI
        · rw [q]; exact Heap.lt_size hTO
        · rw [q]; exact Heap.lt_size e1
        · rw [q]; exact Heap.lt_size e2
      rw [upd_ne (Nat.ne_of_lt hlt)]
      exact (hf c hcm).1
  done := by
    intro X hP hw hK hc i pins s σ H E I hf st hg
    subst hP hw hK
    obtain ⟨hz, hTI, ⟨x0, y0, hTO⟩, h1, h2⟩ := st
    obtain ⟨xs, ys, qx, qy, e1, e2, e3⟩ := hg
    obtain ⟨its, rv, p, _⟩ := invM k1 I qx
    obtain ⟨its2, rv2, p2, _⟩ := invM k2 I qy
    have l1 := rv.length
    have l2 := rv2.length
    have hh : X.A.in1.handled = none := I.ok.hd hc
    have D1 := drawsM k1 (prog := X.prog) (w := X.w) hh i1 a ne1 its.toArray
    have D2 := drawsM k2 (prog := X.prog) (w := X.w) hh i2 b ne2 its2.toArray
    exact PySem.wpAny_pyNext_zipD2_end S D1 D2 hz hTI hTO ⟨h1, p⟩ ⟨h2, p2⟩ (by simp; omega) (by simp; omega) (by simp; omega) fun h' tk hk => ⟨rfl, I.turnedL (t' := tk) (ch := [z, TI, TO, i1, i2]) (fun c o hb q => hk c o (fun q' => hb (by simp [q'])) (fun q' => hb (by simp [q'])) (fun q' => hb (by simp [q'])) (fun q' => hb (by simp [q'])) q) hf⟩
  self := fun A i s Q E st h => wpAny_pyIter_zip st.1 h
theorem beginsM (k : Bool) (a : Addr) (its : Array Value) : Begins (.ref a) (objM k a) (fun h => IsM k h a its) := by
  cases k
  · exact begins_tuple a its
  · exact begins_list a its
theorem itrM_new (k : Bool) {h : Heap} {it a : Addr} (e : h.get? it = some (objM k a)) : ItrM k h it a 0 := by
  cases k
  · exact ⟨_, e, rfl, rfl⟩
  · exact ⟨_, e, rfl, rfl⟩
def iZm (K : PySem.W.Frag) (ta : TA) : TI := fun σ H R => ta σ H fun vs H1 => ∃ a b k1 k2 xs ys, vs = [.ref a, .ref b] ∧ SqM K k1 H1 a xs ∧ SqM K k2 H1 b ys ∧ R (Itzm K k1 k2 a b) H1
theorem pi_zm {X : Cx} {e e2 : Expr} {ta : TA} {p pos tpos : Pos} {elts : List Expr} {kk : Nat} (gq : Gl X "zip") (mq : X.mg "zip" = none) (aq : PA X [e, e2] ta)
    (sq : starEach [e, e2] X.env = (false, eval e X.env) :: starEach [e2] X.env := by rfl) (lqp : (backTo pos (starEach [e2] X.env)).any (·.1) = false := by rfl) :
    PI X (.Tuple elts kk tpos) (.Call (.Name "zip" p) [e, e2] [] pos) (iZm X.K ta) := by
  refine ⟨fun pins s σ H R I h => ?_⟩
  refine Call_ (ld_blt I gq mq PyProof.Rows.boot_zip (PyProof.Rows.callWith_type1 (thn (aq.run pos pins s σ H _ I h) fun us s1 ⟨vs, H1, I1, r1, q1⟩ => ?_) sq lqp))
  obtain ⟨a, b, k1, k2, xs, ys, ex, hqx, hqy, q⟩ := q1
  subst ex
  cases r1 with
  | cons r rr =>
    cases rr with
    | cons r' rr =>
      cases rr
      cases r
      cases r'
      obtain ⟨its, rv, p1, la⟩ := invM k1 I1 hqx
      obtain ⟨its2, rv2, p2, lb⟩ := invM k2 I1 hqy
      refine PySem.zip_begins2 (beginsM k1 a its.toArray) (beginsM k2 b its2.toArray) p1 p2 fun h' hz hTI hTO h1 h2 _ hk => wpAny_pyIter_zip hz ?_
      have I3 : L2.Inv X pins σ H1 { s1 with heap := h' } := I1.kept (t' := s1.toks) hk
      refine ⟨s1.heap.objs.size + 4, [s1.heap.objs.size + 4, s1.heap.objs.size + 2, s1.heap.objs.size + 3, s1.heap.objs.size, s1.heap.objs.size + 1], _, _, H1, rfl, I3, turn_zm (PySem.zip_sep2 (fun c hc => by rw [List.mem_singleton.mp hc]; exact la) (fun c hc => by rw [List.mem_singleton.mp hc]; exact lb)) (Nat.ne_of_lt la) (Nat.ne_of_lt (Nat.lt_succ_of_lt lb)), ⟨hz, hTI, ⟨_, _, hTO⟩, itrM_new k1 h1, itrM_new k2 h2⟩, fun c hcm => ?_, q⟩
      have hle : s1.heap.objs.size ≤ c := by
        have e' : c = s1.heap.objs.size + 4 ∨ c = s1.heap.objs.size + 2 ∨ c = s1.heap.objs.size + 3 ∨ c = s1.heap.objs.size ∨ c = s1.heap.objs.size + 1 := by simpa using hcm
        rcases e' with z | z | z | z | z <;> rw [z] <;> first | exact Nat.le_add_right _ _ | exact Nat.le_refl _
      exact I1.fpOk hle (I1.hok.fresh hle)
section
variable {X : Cx} {M : WM X.K} {W : WX} {e a b c iter tg elt : Expr} {es rest : List Expr} {pos : Pos} {ea eb ec : Ev M D} {er : Ev M R} {el ei : Ev M (List D)} {m vs : List Nat}
def eItems {K : PySem.W.Frag} {M : WM K} (f : D → Option (List D)) (ea : Ev M D) : Ev M (List D) := fun ρ s => (ea ρ s).bind fun a => op (f a.1) a.2
theorem it_of {f : D → Option (List D)} {wi : TE → TI} (hp : PI X tg e (wi (tD M X.mg W ea))) (h : ∀ {σ : Sl} {H : Hp} {R : It → Hp → Prop}, (tD M X.mg W ea σ H fun x H1 => ∃ (q : Pt M) (d : D) (l : List D), q.H = H1 ∧ q.Ok ∧ Den X.K q.ad q.Hv d x ∧ f d = some l ∧ ∀ J, Serves J l q → R J H1) → wi (tD M X.mg W ea) σ H R) :
    PI X tg e (tIt M W (eItems f ea)) := hp.con fun σ H R ⟨ρ, p, hH, ok, en, q⟩ => by
  subst hH
  refine h (tG.seq ok en q fun r1 x q1 ex1 ok1 es1 dx h1 => ?_)
  cases z : f r1.1 with
  | none => simp only [op, z] at h1; exact h1.elim
  | some l =>
    simp only [op, z] at h1
    exact ⟨q1, r1.1, l, rfl, ok1, dx, z, fun J sv => h1 J q1 ex1 ok1 es1 sv⟩
theorem sv_list {q : Pt M} {a : Addr} {l : List D} {vs : List V} (h : q.Hv a = some (.lst vs)) (d : DenL X.K q.ad q.Hv l vs) : Serves (Itl X.K a) l q := fun H' sm => by
  have hs : SqL X.K H' a vs := SqL.of (sm _ _ h)
  refine ⟨fun i hi => ⟨vs, hs, by rw [d.length]; exact Nat.le_of_eq hi⟩, fun i y hy => ?_⟩
  obtain ⟨v, h1, h2⟩ := d.get hy
  refine ⟨⟨vs, v, hs, h1⟩, fun x H2 ⟨e, z⟩ => .inl ⟨e, ?_⟩⟩
  have := z vs hs
  rw [h1] at this; cases this
  exact h2
theorem sv_tup {q : Pt M} {a : Addr} {l : List D} {vs : List V} (h : SqT X.K q.Hv a vs) (d : DenL X.K q.ad q.Hv l vs) : Serves (Itt X.K a) l q := fun H' sm => by
  have hs : SqT X.K H' a vs := sqT_same sm h
  refine ⟨fun i hi => ⟨vs, hs, by rw [d.length]; exact Nat.le_of_eq hi⟩, fun i y hy => ?_⟩
  obtain ⟨v, h1, h2⟩ := d.get hy
  refine ⟨⟨vs, v, hs, h1⟩, fun x H2 ⟨e, z⟩ => .inl ⟨e, ?_⟩⟩
  have := z vs hs
  rw [h1] at this; cases this
  exact h2
def upTo (lo : Int) (n : Nat) : List D := (List.range n).map fun k => .int (lo + (k : Nat))
noncomputable def in62 (i : Int) : Bool := decide (-lk (2 ^ 62) ≤ i) && decide (i < lk (2 ^ 62))
theorem in62_ok {i : Int} (h : in62 i = true) : -(2 ^ 62) ≤ i ∧ i < 2 ^ 62 := by
  unfold in62 at h
  rw [lk_eq, Bool.and_eq_true] at h
  exact ⟨of_decide_eq_true h.1, of_decide_eq_true h.2⟩
noncomputable def rng1 : D → Option (List D)
  | .int j => if in62 j = true then some (upTo 0 j.toNat) else none
  | _ => none
def eI1 {K : PySem.W.Frag} {M : WM K} (f : D → Option (List D)) (ea : Ev M D) : Ev M (List D) := fun ρ s => (ea ρ s).bind fun a => op (f a.1) a.2
def eI2 {K : PySem.W.Frag} {M : WM K} (f : D → D → Option (List D)) (ea eb : Ev M D) : Ev M (List D) := fun ρ s => (ea ρ s).bind fun a => (eb ρ a.2).bind fun b => op (f a.1 b.1) b.2
theorem map_get {n : Nat} {f : Nat → D} {i : Nat} {y : D} (h : ((List.range n).map f)[i]? = some y) : i < n ∧ y = f i := by
  rw [List.getElem?_map] at h
  cases z : (List.range n)[i]? with
  | none => rw [z] at h; cases h
  | some c =>
    rw [z] at h; cases h
    obtain ⟨h1, h2⟩ := List.getElem?_eq_some_iff.mp z
    exact ⟨by simpa using h1, by simp at h2; rw [h2]⟩
theorem sv_rng {q : Pt M} {lo : Int} {n : Nat} : Serves (Itr lo n) (upTo lo n) q := fun H' sm => by
  refine ⟨fun i hi => ?_, fun i y hy => ?_⟩
  · show n ≤ i
    simpa [upTo] using Nat.le_of_eq hi
  · obtain ⟨h1, rfl⟩ := map_get hy
    exact ⟨h1, fun x H2 ⟨e, h⟩ => .inl ⟨e, h⟩⟩
theorem it_range1 {p pos : Pos} (hm : X.mg "range" = none) (ha : PE X a (tD M X.mg W ea)) (hg : Gl X "range" := by rfl) (hs : starEach [a] X.env = [(false, eval a X.env)] := by rfl) :
    PI X tg (.Call (.Name "range" p) [a] [] pos) (tIt M W (eI1 rng1 ea)) := (pi_range1 hg hm (pa_cons ha pa_nil hs) hs).con fun σ H R ⟨ρ, p, hH, ok, en, q⟩ => by
  subst hH
  show tD M X.mg W ea σ p.H fun x H1 => ∃ j : Int, [x] = [.int j] ∧ -(2 ^ 62) ≤ j ∧ j < 2 ^ 62 ∧ R (Itr 0 j.toNat) H1
  refine tG.seq ok en q fun r1 x q1 ex1 ok1 es1 dx h1 => ?_
  obtain ⟨d, s1⟩ := r1
  cases z : rng1 d with
  | none => simp only [op, z] at h1; exact h1.elim
  | some items =>
    simp only [op, z] at h1
    cases d <;> first | (cases z; done) | skip
    cases dx
    simp only [rng1] at z
    split at z
    · rename_i hb
      cases z
      exact ⟨_, rfl, (in62_ok hb).1, (in62_ok hb).2, h1 _ q1 ex1 ok1 es1 sv_rng⟩
    · cases z
def zipT : List D → List D → List D
  | a :: r, b :: t => .tup [a, b] :: zipT r t
  | _, _ => []
theorem zipT_get : ∀ (l m : List D) (i : Nat) (y : D), (zipT l m)[i]? = some y → ∃ a b, l[i]? = some a ∧ m[i]? = some b ∧ y = .tup [a, b]
  | [], _, _, _, h => by simp [zipT] at h
  | _ :: _, [], _, _, h => by simp [zipT] at h
  | a :: r, b :: t, 0, y, h => by
    simp only [zipT, List.getElem?_cons_zero, Option.some.injEq] at h
    exact ⟨a, b, rfl, rfl, h.symm⟩
  | a :: r, b :: t, i + 1, y, h => by
    simp only [zipT, List.getElem?_cons_succ] at h
    obtain ⟨a', b', h1, h2, h3⟩ := zipT_get r t i y h
    exact ⟨a', b', by simpa using h1, by simpa using h2, h3⟩
theorem zipT_len : ∀ (l m : List D), (zipT l m).length = min l.length m.length
  | [], _ => by simp [zipT]
  | _ :: _, [] => by simp [zipT]
  | a :: r, b :: t => by simp [zipT, zipT_len r t]
def seqM : D → Option (List D)
  | .lst l => some l
  | .tup l => some l
  | _ => none
theorem seqM_at {q : Pt M} (ok : q.Ok) {d : D} {x : V} {l : List D} (z : seqM d = some l) (h : Den X.K q.ad q.Hv d x) : ∃ k a vs, x = .ref a ∧ SqM X.K k q.H a vs ∧ DenL X.K q.ad q.Hv l vs ∧ ∀ H', Same q.Hv H' → SqM X.K k H' a vs := by
  cases d <;> first | (cases z; done) | skip
  · cases z
    obtain ⟨a, vs, rfl, a1, a2, _⟩ := h
    exact ⟨false, a, vs, rfl, sqT_H ok a1, a2, fun H' sm => sqT_same sm a1⟩
  · cases z
    obtain ⟨a, vs, rfl, a1, a2⟩ := h
    exact ⟨true, a, vs, rfl, SqL.of (ok.view _ _ a1), a2, fun H' sm => SqL.of (sm _ _ a1)⟩
def zipOf : D → D → Option (List D)
  | .lst l, .lst m => some (zipT l m)
  | .tup l, .tup m => some (zipT l m)
  | .lst l, .tup m => some (zipT l m)
  | .tup l, .lst m => some (zipT l m)
  | _, _ => none
theorem zipOf_seq {d e : D} {l : List D} (h : zipOf d e = some l) : ∃ ds es, seqM d = some ds ∧ seqM e = some es ∧ l = zipT ds es := by
  cases d <;> cases e <;> first | (cases h; done) | (cases h; exact ⟨_, _, rfl, rfl, rfl⟩)
theorem it_zip {p pos tpos : Pos} {elts : List Expr} {kk : Nat} (hm : X.mg "zip" = none) (ha : PE X a (tD M X.mg W ea)) (hb : PE X b (tD M X.mg W eb)) (hg : Gl X "zip" := by rfl)
    (hs : starEach [a, b] X.env = (false, eval a X.env) :: starEach [b] X.env := by rfl) (hs2 : starEach [b] X.env = (false, eval b X.env) :: starEach [] X.env := by rfl) (hpl : (backTo pos (starEach [b] X.env)).any (·.1) = false := by rfl) :
    PI X (.Tuple elts kk tpos) (.Call (.Name "zip" p) [a, b] [] pos) (tIt M W (eI2 zipOf ea eb)) := (pi_zm hg hm (pa_cons ha (pa_cons hb pa_nil hs2) hs) hs hpl).con fun σ H R ⟨ρ, p, hH, ok, en, q⟩ => by
  subst hH
  show tD M X.mg W ea σ p.H fun x H1 => tD M X.mg W eb σ H1 fun y H2 => ∃ a b k1 k2 xs ys, [x, y] = [.ref a, .ref b] ∧ SqM X.K k1 H2 a xs ∧ SqM X.K k2 H2 b ys ∧ R (Itzm X.K k1 k2 a b) H2
  refine tG.seq ok en q fun r1 x q1 ex1 ok1 es1 dx h1 => ?_
  rw [← es1] at h1
  refine tG.seq ok1 (en.ext ex1) (XEnds ex1 h1 fun _ h => h) fun r2 y q2 ex2 ok2 es2 dy h2 => ?_
  obtain ⟨d, s1⟩ := r1
  obtain ⟨e, s2⟩ := r2
  have dx2 := ex2.den dx
  cases z : zipOf d e with
  | none => simp only [op, z] at h2; exact h2.elim
  | some items =>
    simp only [op, z] at h2
    obtain ⟨ds, es, z1, z2, rfl⟩ := zipOf_seq z
    obtain ⟨k1, a, vs, rfl, a1, a2, a3⟩ := seqM_at (X := X) ok2 z1 dx2
    obtain ⟨k2, b, ws, rfl, b1, b2, b3⟩ := seqM_at (X := X) ok2 z2 dy
    refine ⟨a, b, k1, k2, vs, ws, rfl, a1, b1, h2 _ q2 (ex1.trans ex2) ok2 es2 fun H' sm => ?_⟩
    have ha' := a3 H' sm
    have hb' := b3 H' sm
    have l1 := a2.length
    have l2 := b2.length
    refine ⟨fun i hi => ⟨vs, ws, ha', hb', ?_⟩, fun i y hy => ?_⟩
    · rw [zipT_len] at hi
      omega
    · obtain ⟨d, e, g1, g2, rfl⟩ := zipT_get _ _ _ _ hy
      obtain ⟨v, g3, g4⟩ := a2.get g1
      obtain ⟨w, g5, g6⟩ := b2.get g2
      refine ⟨⟨vs, ws, ha', hb', (List.getElem?_eq_some_iff.mp g3).1, (List.getElem?_eq_some_iff.mp g5).1⟩, fun x H2 ⟨T, x', y', o, e1, e2, e3, c1, c2, e4, e5⟩ => .inr <| .inl ⟨T, _, _, _, e2, e1, e3, .inr ⟨o, rfl, c1, c2⟩, rfl, ?_⟩⟩
      have t1 := e4 vs ha'
      have t2 := e5 ws hb'
      rw [g3] at t1; cases t1
      rw [g5] at t2; cases t2
      exact ⟨_, _, rfl, g4, DenL.one g6⟩
end
section
variable {K : PySem.W.Frag} {b l : Addr} {T : List (Addr × Str)} {I : IW K}
theorem bag_write {p : Pt (bagW K b l T I)} (ok : p.Ok) {c g st k : Int} {ns : List Int} (hl : p.H l = some (.lst (ns.map V.int))) (h63 : ns.length ≤ 63) (h1 : 0 ≤ c) (h2 : c ≤ ns.length) (h3 : 0 ≤ g) (h4 : 0 ≤ st) (h5 : st < 2147483629) :
    Ext p ⟨p.s, p.F, p.Hv, upd p.H b (.lst [.ref l, .int c, .int g, .int st, .int k]), p.ad⟩ ∧ (⟨p.s, p.F, p.Hv, upd p.H b (.lst [.ref l, .int c, .int g, .int st, .int k]), p.ad⟩ : Pt (bagW K b l T I)).Ok := by
  obtain ⟨hb, fb, fl, ht, ⟨ne, ns0, c0, g0, st0, k0, e2, e3, e4⟩, hd, FI, hi⟩ := ok.rep
  have nb : p.Hv b = none := ok.off b fb
  refine ⟨⟨Same.rfl', fun x o hx nf => ?_, fun x o hx => .inl ⟨o, hx⟩, fun _ h => .inl h, fun _ _ h => h⟩, ⟨fun x o hx => ?_, ok.off, ⟨hb, fb, fl, fun q hq => ?_, ⟨ne, ns, c, g, st, k, upd_same, ?_, h63, h1, h2, h3, h4, h5⟩, fun x hx => ?_, FI, hi.sub, I.stay hi.rep Same.rfl' fun x o hx e => by
    show upd p.H b _ x = some o
    rw [upd_ne (hi.sub x hx).2.1]; exact e⟩⟩⟩
  · have : x ≠ b := fun z => nf (z ▸ fb)
    show upd p.H b _ x = some o
    rw [upd_ne this]; exact hx
  · have : x ≠ b := fun z => by rw [z, nb] at hx; cases hx
    show upd p.H b _ x = some o
    rw [upd_ne this]; exact ok.view _ _ hx
  · obtain ⟨o, ps, a1, a2, a3⟩ := ht q hq
    have n1 : q.1 ≠ b := ne_of a1 e2 (by intro z; cases z)
    refine ⟨o, ps, by show upd p.H b _ _ = _; rw [upd_ne n1]; exact a1, a2, fun pos cv e => ?_⟩
    obtain ⟨c, c1, c2, c3⟩ := a3 pos cv e
    have n2 : c ≠ b := ne_of c2 e2 (by intro z; unfold LamX.CodeO at z; cases z)
    exact ⟨c, c1, by show upd p.H b _ _ = _; rw [upd_ne n2]; exact c2, c3⟩
  · show upd p.H b _ l = _
    rw [upd_ne (Ne.symm ne)]; exact hl
  · by_cases z : x = b
    · exact ⟨_, by rw [z]; exact upd_same, fun vs z => by cases z⟩
    · obtain ⟨o, e, n⟩ := hd x hx
      exact ⟨o, by show upd p.H b _ x = _; rw [upd_ne z]; exact e, n⟩
theorem ix5_0 (l c g st k : V) : atI [l, c, g, st, k] 0 = some l := rfl
theorem ix5_1 (l c g st k : V) : atI [l, c, g, st, k] 1 = some c := rfl
theorem ix5_2 (l c g st k : V) : atI [l, c, g, st, k] 2 = some g := rfl
theorem ix5_3 (l c g st k : V) : atI [l, c, g, st, k] 3 = some st := rfl
theorem ix5_4 (l c g st k : V) : atI [l, c, g, st, k] 4 = some k := rfl
end
section
variable (K : PySem.W.Frag)
def pIt (i : Int) : TE := tOp (rIxL K) (tVar 0) (tC (.int i))
def pLt (a b : TE) : TT := tTest (tOp (rI0 fun i j => .bl (decide (i < j))) a b)
def pGe (a b : TE) : TT := tTest (tOp (rI0 fun i j => .bl (decide (j ≤ i))) a b)
def pAdd (a b : TE) : TE := tOp (rI0 fun i j => .int (i + j)) a b
def pSub (a b : TE) : TE := tOp (rI0 fun i j => .int (i - j)) a b
def pMul (a b : TE) : TE := tOp (rI CMul fun i j => .int (i * j)) a b
def pMod (a b : TE) : TE := tOp (rI (fun _ j => 0 < j) fun i j => .int (i % j)) a b
def pDiv (a b : TE) : TE := tOp (rI CDiv fun i j => .int (i / j)) a b
def pPow (a b : TE) : TE := tOp (rI CPow fun i j => .int (i ^ j.toNat)) a b
def pSet (e : TE) (i : Int) : TS := tAsg e (gSub (tVar 0) (tC (.int i)) rSetL)
def pI (i : Int) : TE := tC (.int i)
def pBig : TE := pPow (pI 10) (pI 18)
def tPull3 : TS := tRet (pMod (pDiv (pIt K 3) (pI 19)) (tVar 1))
def tPull2 : TS := tSeq (tIfS (pGe (pIt K 2) (tVar 1))
        (tSeq (tAsg (pMod (pIt K 2) (tVar 1)) (gName 3))
          (tSeq (pSet (pDiv (pIt K 2) (tVar 1)) 2)
            (tRet (tVar 3)))) tNext)
      (tSeq (pSet (pAdd (pIt K 4) (pI 1)) 4)
        (tSeq (pSet (pMod (pAdd (pAdd (pAdd (pPow (pIt K 3) (pI 3)) (pMul (pI 40507) (pIt K 4))) (pDiv (pIt K 3) (pI 101))) (pI 7)) (pI 2147483629)) 3)
          (tPull3 K)))
def tPull1 : TS := pSet (pMod (pAdd (pAdd (pMul (pIt K 3) (pI 69069)) (pMul (tVar 2) (pI 5))) (pIt K 1)) (pI 2147483629)) 3
def tPull0 : TS := tSeq (pSet (tIf (pGe (tVar 2) pBig) (pSub (tVar 2) pBig) (pI 0)) 2) (tPull1 K)
def tPull : TS :=
  tSeq (tIfS (tAnd (pLt (pIt K 2) (tVar 1)) (pLt (pIt K 1) (tCB (fun xs H Q => ∃ x n, xs = [x] ∧ LenV K x H n ∧ Q (.int n) H) (tCons (pIt K 0) tNil))))
      (tSeq (tAsg (tOp (rIxL K) (pIt K 0) (pIt K 1)) (gName 2))
        (tSeq (pSet (pAdd (pIt K 1) (pI 1)) 1) (tPull0 K))) tNext)
    (tPull2 K)
end
section
variable {K : PySem.W.Frag} {b l : Addr} {T : List (Addr × Str)} {I : IW K}
theorem r_it {σ : Sl} {H : Hp} {Q : VK} {i : Int} {xs : List V} {v : V} (h0 : σ[0]? = some (some (.ref b))) (hb : H b = some (.lst xs)) (hi : atI xs i = some v) (h : Q v H) : pIt K i σ H Q :=
  ⟨.ref b, h0, b, xs, i, v, rfl, rfl, SqL.of hb, hi, h⟩
theorem BagIn.put {q : Pt (bagW K b l T I)} {ns : List Int} {c g st k c' g' st' k' : Int} (h : BagIn q ns c g st k) (h1 : 0 ≤ c') (h2 : c' ≤ ns.length) (h3 : 0 ≤ g') (h4 : 0 ≤ st') (h5 : st' < 2147483629) :
    ∃ q' : Pt (bagW K b l T I), q'.H = upd q.H b (.lst (bagL l c' g' st' k')) ∧ Ext q q' ∧ BagIn q' ns c' g' st' k' ∧ q'.s = q.s := by
  obtain ⟨e, o⟩ := bag_write h.ok (k := k') h.hl h.h63 h1 h2 h3 h4 h5
  refine ⟨_, rfl, e, ⟨o, upd_same, ?_, h.h63, h1, h2, h3, h4, h5⟩, rfl⟩
  show upd q.H b _ l = _
  obtain ⟨_, _, _, _, ⟨ne, _⟩, _⟩ := h.ok.rep
  rw [upd_ne (Ne.symm ne)]; exact h.hl
theorem pull_tail {p q : Pt (bagW K b l T I)} (e : Ext p q) (hs : q.s = p.s) {ns : List Int} {c g st k n : Int} (B : BagIn q ns c g st k) (hn : 0 < n) (hn2 : n < 1073741824) {Q : VK} {nx : Sl → Hp → Prop} {x y : Option V}
    (h : ∀ (r : Nat) (q : Pt (bagW K b l T I)), r < n.toNat → Ext p q → q.Ok → q.s = p.s → Q (.int (r : Nat)) q.H) : tPull2 K { nx := nx, rt := Q } [some (.ref b), some (.int n), x, y] q.H := by
  refine r_it rfl B.hb (ix5_2 _ _ _ _ _) ⟨_, rfl, g, n, rfl, rfl, _, rfl, ?_⟩
  by_cases hc : n ≤ g
  · rw [decide_eq_true hc]
    refine iteT ?_
    refine r_it rfl B.hb (ix5_2 _ _ _ _ _) ⟨_, rfl, g, n, rfl, rfl, hn, ?_⟩
    refine r_it rfl B.hb (ix5_2 _ _ _ _ _) ⟨_, rfl, g, n, rfl, rfl, ⟨hn, hn2⟩, .ref b, rfl, b, bagL l c g st k, 2, 2, rfl, rfl, B.hb, rfl, ?_⟩
    have hd : 0 ≤ g / n := Int.ediv_nonneg B.g0 (by omega)
    obtain ⟨q', eH, e', B', s'⟩ := B.put (k' := k) B.c0 B.c1 hd B.s0 B.s1
    have m0 := Int.emod_nonneg g (show n ≠ 0 by omega)
    have m1 := Int.emod_lt_of_pos g hn
    refine ⟨_, rfl, ?_⟩
    have hq := h (g % n).toNat q' (by omega) (e.trans e') B'.ok (s'.trans hs)
    rw [eH] at hq
    have e1 : (((g % n).toNat : Nat) : Int) = g % n := by omega
    rw [e1] at hq
    exact hq
  · rw [decide_eq_false hc]
    refine iteF ?_
    refine r_it rfl B.hb (ix5_4 _ _ _ _ _) ⟨k, 1, rfl, rfl, .ref b, rfl, b, bagL l c g st k, 4, 4, rfl, rfl, B.hb, rfl, ?_⟩
    obtain ⟨q1, eH1, e1, B1, s1'⟩ := B.put (k' := k + 1) B.c0 B.c1 B.g0 B.s0 B.s1
    refine Eq.subst (motive := fun Hx => (tSeq (pSet (pMod (pAdd (pAdd (pAdd (pPow (pIt K 3) (pI 3)) (pMul (pI 40507) (pIt K 4))) (pDiv (pIt K 3) (pI 101))) (pI 7)) (pI 2147483629)) 3) (tPull3 K)) { nx := nx, rt := Q } [some (.ref b), some (.int n), x, y] Hx) eH1 ?_
    refine r_it rfl B1.hb (ix5_3 _ _ _ _ _) ⟨st, 3, rfl, rfl, ⟨by decide, by decide, by have := B.s0; have := B.s1; omega⟩, ?_⟩
    refine r_it rfl B1.hb (ix5_4 _ _ _ _ _) ⟨40507, k + 1, rfl, rfl, .inl ⟨by decide, by decide⟩, _, _, rfl, rfl, ?_⟩
    obtain ⟨z, hz⟩ : ∃ z : Int, z = (st ^ (3 : Int).toNat + 40507 * (k + 1) + st / 101 + 7) % 2147483629 := ⟨_, rfl⟩
    have z0 : 0 ≤ z := by rw [hz]; exact Int.emod_nonneg _ (by decide)
    have z1 : z < 2147483629 := by rw [hz]; exact Int.emod_lt_of_pos _ (by decide)
    obtain ⟨q2, eH2, e2, B2, s2'⟩ := B1.put (st' := z) (k' := k + 1) B1.c0 B1.c1 B1.g0 z0 z1
    rw [hz] at eH2
    refine r_it rfl B1.hb (ix5_3 _ _ _ _ _) ⟨st, 101, rfl, rfl, ⟨by decide, by decide⟩, _, _, rfl, rfl, _, _, rfl, rfl, _, _, rfl, rfl, (by show (0 : Int) < 2147483629; decide), .ref b, rfl, b, bagL l c g st (k + 1), 3, 3, rfl, rfl, B1.hb, rfl, ?_⟩
    refine Eq.subst (motive := fun Hx => (tPull3 K) { nx := nx, rt := Q } [some (.ref b), some (.int n), x, y] Hx) eH2 ?_
    refine r_it rfl B2.hb (ix5_3 _ _ _ _ _) ⟨z, 19, rfl, rfl, ⟨by decide, by decide⟩, _, rfl, _, n, rfl, rfl, hn, ?_⟩
    have m0 := Int.emod_nonneg (z / 19) (show n ≠ 0 by omega)
    have m1 := Int.emod_lt_of_pos (z / 19) hn
    have hq := h (z / 19 % n).toNat q2 (by omega) ((e.trans e1).trans e2) B2.ok (s2'.trans (s1'.trans hs))
    have e3 : (((z / 19 % n).toNat : Nat) : Int) = z / 19 % n := by omega
    rw [e3] at hq
    exact hq
theorem pull_read {p : Pt (bagW K b l T I)} (ok : p.Ok) {n : Int} (hn : 0 < n) (hn2 : n < 1073741824) {Q : VK} {nx : Sl → Hp → Prop}
    (h : ∀ (r : Nat) (q : Pt (bagW K b l T I)), r < n.toNat → Ext p q → q.Ok → q.s = p.s → Q (.int (r : Nat)) q.H) : tPull K { nx := nx, rt := Q } [some (.ref b), some (.int n), none, none] p.H := by
  obtain ⟨_, fb, fl, ht, ⟨ne, ns, c, g, st, k, e2, e3, h63, c0, c1, g0, s0, s1⟩, hd, _⟩ := ok.rep
  have B : BagIn p ns c g st k := ⟨ok, e2, e3, h63, c0, c1, g0, s0, s1⟩
  refine r_it rfl B.hb (ix5_2 _ _ _ _ _) ⟨_, rfl, g, n, rfl, rfl, _, rfl, ?_⟩
  by_cases hc : g < n
  · rw [decide_eq_true hc]
    refine iteT ?_
    refine r_it rfl B.hb (ix5_1 _ _ _ _ _) ?_
    refine r_it rfl B.hb (ix5_0 _ _ _ _ _) ⟨.ref l, ns.length, rfl, .inl ⟨ns.map V.int, SqL.of B.hl, by simp⟩, c, ns.length, rfl, rfl, _, rfl, ?_⟩
    by_cases hc2 : c < ns.length
    · rw [decide_eq_true hc2]
      refine iteT ?_
      obtain ⟨cell, hcell⟩ : ∃ cell, ns[c.toNat]? = some cell := ⟨ns[c.toNat]'(by omega), by simp⟩
      have hat : atI (ns.map V.int) c = some (V.int cell) := by
        have : atI (ns.map V.int) ((c.toNat : Nat) : Int) = some (V.int cell) := atI_nat (by rw [List.getElem?_map, hcell]; rfl)
        rwa [show ((c.toNat : Nat) : Int) = c by omega] at this
      refine r_it rfl B.hb (ix5_0 _ _ _ _ _) ?_
      refine r_it rfl B.hb (ix5_1 _ _ _ _ _) ⟨l, _, c, _, rfl, rfl, SqL.of B.hl, hat, ?_⟩
      refine r_it rfl B.hb (ix5_1 _ _ _ _ _) ⟨c, 1, rfl, rfl, .ref b, rfl, b, bagL l c g st k, 1, 1, rfl, rfl, B.hb, rfl, ?_⟩
      obtain ⟨q1, eH1, e1, B1, s1'⟩ := B.put (c' := c + 1) (k' := k) (by omega) (by omega) B.g0 B.s0 B.s1
      refine Eq.subst (motive := fun Hx => (tPull0 K) { nx := (tPull2 K) { nx := nx, rt := Q }, rt := Q } [some (.ref b), some (.int n), some (.int cell), none] Hx) eH1 ?_
      have rest : ∀ g' : Int, 0 ≤ g' → ∀ q2 : Pt (bagW K b l T I), Ext p q2 → q2.s = p.s → BagIn q2 ns (c + 1) g' st k → (tPull1 K) { nx := (tPull2 K) { nx := nx, rt := Q }, rt := Q } [some (.ref b), some (.int n), some (.int cell), none] q2.H := fun g' hg' q2 e2 hs2 B2 => by
        refine r_it rfl B2.hb (ix5_3 _ _ _ _ _) ⟨st, 69069, rfl, rfl, .inr ⟨by decide, by decide⟩, _, rfl, cell, 5, rfl, rfl, .inr ⟨by decide, by decide⟩, _, _, rfl, rfl, ?_⟩
        obtain ⟨z, hz⟩ : ∃ z : Int, z = (st * 69069 + cell * 5 + (c + 1)) % 2147483629 := ⟨_, rfl⟩
        have z0 : 0 ≤ z := by rw [hz]; exact Int.emod_nonneg _ (by decide)
        have z1 : z < 2147483629 := by rw [hz]; exact Int.emod_lt_of_pos _ (by decide)
        obtain ⟨q3, eH3, e3, B3, s3'⟩ := B2.put (st' := z) (k' := k) B2.c0 B2.c1 B2.g0 z0 z1
        rw [hz] at eH3
        refine r_it rfl B2.hb (ix5_1 _ _ _ _ _) ⟨_, _, rfl, rfl, _, _, rfl, rfl, (by show (0 : Int) < 2147483629; decide), .ref b, rfl, b, bagL l (c + 1) g' st k, 3, 3, rfl, rfl, B2.hb, rfl, ?_⟩
        refine Eq.subst (motive := fun Hx => (tPull2 K) { nx := nx, rt := Q } [some (.ref b), some (.int n), some (.int cell), none] Hx) eH3 ?_
        exact pull_tail (e2.trans e3) (s3'.trans hs2) B3 hn hn2 h
      refine ⟨_, rfl, 10, 18, rfl, rfl, ⟨by decide, by decide, by decide⟩, cell, _, rfl, rfl, _, rfl, ?_⟩
      by_cases hbig : (10 : Int) ^ (18 : Int).toNat ≤ cell
      · rw [decide_eq_true hbig]
        refine iteT ?_
        obtain ⟨q2, eH2, e2, B2, s2'⟩ := B1.put (g' := cell - 10 ^ (18 : Int).toNat) (k' := k) B1.c0 B1.c1 (by omega) B1.s0 B1.s1
        refine ⟨_, rfl, 10, 18, rfl, rfl, ⟨by decide, by decide, by decide⟩, cell, _, rfl, rfl, .ref b, rfl, b, bagL l (c + 1) g st k, 2, 2, rfl, rfl, B1.hb, rfl, ?_⟩
        refine Eq.subst (motive := fun Hx => (tPull1 K) { nx := (tPull2 K) { nx := nx, rt := Q }, rt := Q } [some (.ref b), some (.int n), some (.int cell), none] Hx) eH2 ?_
        exact rest _ (by omega) q2 (e1.trans e2) (s2'.trans s1') B2
      · rw [decide_eq_false hbig]
        refine iteF ?_
        obtain ⟨q2, eH2, e2, B2, s2'⟩ := B1.put (g' := 0) (k' := k) B1.c0 B1.c1 (by omega) B1.s0 B1.s1
        refine ⟨.ref b, rfl, b, bagL l (c + 1) g st k, 2, 2, rfl, rfl, B1.hb, rfl, ?_⟩
        refine Eq.subst (motive := fun Hx => (tPull1 K) { nx := (tPull2 K) { nx := nx, rt := Q }, rt := Q } [some (.ref b), some (.int n), some (.int cell), none] Hx) eH2 ?_
        exact rest _ (by omega) q2 (e1.trans e2) (s2'.trans s1') B2
    · rw [decide_eq_false hc2]
      refine iteF ?_
      exact pull_tail (Ext.refl p) rfl B hn hn2 h
  · rw [decide_eq_false hc]
    refine iteF ?_
    exact pull_tail (Ext.refl p) rfl B hn hn2 h
end
section
open Builtin Builtin.ObjectAttr
variable {P : Program} {w : World} {A : Around} {E : Value → Shared → Prop} {Rs : Result → Shared → Prop} {hp : Heap} {g : Array GenState} {dr : Drawn} {t : Nat} {os : OsState}
theorem osa_first {K : PySem.W.Frag} {nm : Str} {tk : Tok} {v : Value} {x C : Addr} {fv : Array Value} {c : ClassData} {n : String} {bm : List Value} (X : K.In hp) (hx : hp.get? x = some { cls := .ref C, data := .fields fv }) (hcd : PySem.W.clsIn K C = some c) (hmr : c.mro = .ref C :: bm) (hov : OverB n bm) (hh : c.hasDict = true)
    (hno : PySem.W.findIn K (.ref C) nm = some none)
    (hq : ∀ h' tk' dx, (∀ b o, b ≠ x → hp.get? b = some o → h'.get? b = some o) → hp.objs.size ≤ dx → dx ≠ x → h'.get? x = some { cls := .ref C, dict := some dx, data := .fields fv } → h'.Ns1 dx (fun y => if y = nm then some v else none) → Rs (.ok (.ret .none)) ⟨h', g, dr, tk', os⟩) :
    codeAny (model P w) A (.call (.builtin "object.__setattr__") ⟨[.ref x, .str nm tk, v], []⟩) Rs ⟨hp, g, dr, t, os⟩ := by
  have J : PySem.W.InstAt hp x { cls := .ref C, data := .fields fv } C none := ⟨hx, rfl, rfl, trivial⟩
  have S0 := F.store_object
  have hov1 := hov.cons C
  have ne : c.mro.isEmpty = false := by rw [hmr]; rfl
  have hob : c.mro.contains (.type "object") = true := by rw [hmr]; exact hov1.ob
  have nx : x ≠ hp.objs.size := Nat.ne_of_lt (Heap.lt_size hx)
  have si : PySem.W.Looks (model P w) hp (isInstance (.ref x) (.type "object")) true := J.type.andThen (PySem.W.looks_mroIn X (by
    unfold PySem.W.mroIn
    rw [hcd, Option.bind_some, if_neg (by rw [ne]; decide), hob]))
  refine codeAny_call_builtin S0.slot.plain S0.entry (@PySem.W.check_slot (model P w) _ _ ⟨hp, g, dr, t, os⟩ "object.__setattr__" "object" "__setattr__" (.ref x) [.str nm tk, v] [] _ S0.kind S0.split si (S0.args (.ref x) (.str nm tk) v) ?_)
  have lm : PySem.W.Looks (model P w) hp (mroOf (.ref C)) c.mro := (PySem.W.looks_clsIn X hcd).andThen .now
  have ln : PySem.W.Looks (model P w) hp (storeTaker? none) none := .now
  have lc : PySem.W.Looks (model P w) hp (classData C) c := PySem.W.looks_clsIn X hcd
  rw [PySem.W.osa_eq, refuse_eq]
  refine wpAny_bind (wpAny_bind (J.type.at (wpAny_bind (lm.at ?_))))
  rw [hmr, hov1.ps]
  refine wpAny_pure (wpAny_bind (J.type.at (wpAny_bind ((PySem.W.looks_findIn X hno).at (wpAny_bind (ln.at ?_))))))
  show wpAny _ _ (storeInOwnDict (.ref x) (.ref C) (.str nm tk) nm v false) _ _ _
  obtain ⟨c1, c2, c3, c4, c5, c6, c7, c8, c9, c10, c11⟩ := c
  dsimp only at hh
  subst hh
  unfold storeInOwnDict ownDictForStores
  repeat (first | with_reducible refine PySem.HandSPX.store_in_new ?_ ?_ | with_reducible refine wpAny_loadPart_at hx ?_ | with_reducible refine lc.at ?_ | wp_step)
  · exact ⟨_, #[], _, (Heap.get?_update_ne _ _ _ _ nx.symm).trans (Heap.get?_push_at rfl rfl), rfl, (fun e he => absurd he (by simp)), fun _ => rfl⟩
  · intro h' tk' hn' hs
    have hx1 : (hp.push { cls := .type "dict", data := .dict #[] }).get? x = some { cls := .ref C, data := .fields fv } := Heap.get?_push_of_some _ hx
    refine hq h' tk' hp.objs.size (fun b o hb ho => ?_) (Nat.le_refl _) nx.symm ((hs.2 x nx).trans (Heap.get?_update_self _ hx1 rfl)) hn'
    exact (hs.2 b (Nat.ne_of_lt (Heap.lt_size ho))).trans ((Heap.get?_update_ne _ _ _ _ hb).trans (Heap.get?_push_of_some _ ho))
theorem osa_more {K : PySem.W.Frag} {nm : Str} {tk : Tok} {v : Value} {x C dx : Addr} {fv : Array Value} {c : ClassData} {n : String} {bm : List Value} {m0 : Str → Option Value} {nl : List Str} (X : K.In hp) (hx : hp.get? x = some { cls := .ref C, dict := some dx, data := .fields fv }) (hns : hp.Ns1 dx m0) (hw : Within m0 nl) (hz : nl.length ≤ 1000)
    (hcd : PySem.W.clsIn K C = some c) (hmr : c.mro = .ref C :: bm) (hov : OverB n bm) (hh : c.hasDict = true) (hno : PySem.W.findIn K (.ref C) nm = some none)
    (hq : ∀ h' tk', (∀ b o, b ≠ dx → hp.get? b = some o → h'.get? b = some o) → h'.Ns1 dx (fun y => if y = nm then some v else m0 y) → Rs (.ok (.ret .none)) ⟨h', g, dr, tk', os⟩) :
    codeAny (model P w) A (.call (.builtin "object.__setattr__") ⟨[.ref x, .str nm tk, v], []⟩) Rs ⟨hp, g, dr, t, os⟩ := by
  obtain ⟨oD, _, _, hoD, _, _⟩ := hns.count hw
  have J : PySem.W.InstAt hp x { cls := .ref C, dict := some dx, data := .fields fv } C (some oD) := ⟨hx, rfl, rfl, hoD⟩
  have S0 := F.store_object
  have hov1 := hov.cons C
  have ne : c.mro.isEmpty = false := by rw [hmr]; rfl
  have hob : c.mro.contains (.type "object") = true := by rw [hmr]; exact hov1.ob
  have si : PySem.W.Looks (model P w) hp (isInstance (.ref x) (.type "object")) true := J.type.andThen (PySem.W.looks_mroIn X (by
    unfold PySem.W.mroIn
    rw [hcd, Option.bind_some, if_neg (by rw [ne]; decide), hob]))
  refine codeAny_call_builtin S0.slot.plain S0.entry (@PySem.W.check_slot (model P w) _ _ ⟨hp, g, dr, t, os⟩ "object.__setattr__" "object" "__setattr__" (.ref x) [.str nm tk, v] [] _ S0.kind S0.split si (S0.args (.ref x) (.str nm tk) v) ?_)
  have lm : PySem.W.Looks (model P w) hp (mroOf (.ref C)) c.mro := (PySem.W.looks_clsIn X hcd).andThen .now
  have ln : PySem.W.Looks (model P w) hp (storeTaker? none) none := .now
  have lc : PySem.W.Looks (model P w) hp (classData C) c := PySem.W.looks_clsIn X hcd
  rw [PySem.W.osa_eq, refuse_eq]
  refine wpAny_bind (wpAny_bind (J.type.at (wpAny_bind (lm.at ?_))))
  rw [hmr, hov1.ps]
  refine wpAny_pure (wpAny_bind (J.type.at (wpAny_bind ((PySem.W.looks_findIn X hno).at (wpAny_bind (ln.at ?_))))))
  show wpAny _ _ (storeInOwnDict (.ref x) (.ref C) (.str nm tk) nm v false) _ _ _
  obtain ⟨c1, c2, c3, c4, c5, c6, c7, c8, c9, c10, c11⟩ := c
  dsimp only at hh
  subst hh
  unfold storeInOwnDict ownDictForStores
  repeat (first | with_reducible refine PySem.OEX.store_in_old hns hw hz ?_ | with_reducible refine wpAny_loadPart_at hx ?_ | with_reducible refine lc.at ?_ | wp_step)
  intro h' tk' hn' hs
  exact hq h' tk' (fun b o hb ho => (hs.2 b hb).trans ho) hn'
end
section
variable {X : Cx} {pins : List (Addr × Obj)} {σ : L2.St} {H : Hp} {s : Shared} {a C dx : Addr} {f : Str} {y : V} {u : Value} {fs : List (Str × V)} {Q : Unit → Shared → Prop} {E : Value → Shared → Prop} {A : Around}
theorem set_first (T : OexG X.K C) (I : L2.Inv X pins σ H s) (e : H a = some (exo a C none)) (hno : PySem.W.findIn X.K (.ref C) f = some none) (ry : RelV y u)
    (h : ∀ dx s', H dx = none → dx ≠ a → L2.Inv X pins σ (upd (upd H dx (exd dx [(f, y)])) a (exo a C (some dx))) s' → Q () s') : wpAny (model X.prog X.w) A (setAttr (.ref a) f u) Q E s := by
  obtain ⟨n, nm, q, N, bs, bm, sn, sub, ab, col, dd, k0, k1, k2, k3, k5, hC, hov⟩ := T.cls
  have hcl : PySem.W.clsIn X.K C = some { name := nm, bases := bs, mro := .ref C :: bm, ns := N, qualname := q, hasDict := true, slotNames := sn, subclasses := sub, abstract := ab, collection := col, hasDel := false } := by
    unfold PySem.W.clsIn
    rw [hC] <;> rfl
  obtain ⟨t1, ho⟩ := exo_at I.hok e
  obtain ⟨hp, g, dr, t, os⟩ := s
  refine PySem.W.set_plain I.kIn (ox := { cls := .ref C, dict := none, data := .fields #[.ref t1, .none, .none, .none, .bool false, .none] }) (od := none) ⟨ho, rfl, rfl, trivial⟩ T.sa ?_
  refine osa_first I.kIn ho hcl rfl hov rfl hno (fun h' tk' dx k dn dne hx hn => ?_)
  have hnd : H dx = none := I.hok.fresh dn
  have nd : ∀ {b : Addr} {o : Obj}, hp.get? b = some o → b ≠ dx := fun {b o} q => Nat.ne_of_lt (Nat.lt_of_lt_of_le (Heap.lt_size q) dn)
  have na : ∀ {b : Addr}, H b = none → b ≠ a := fun {b} n z => by rw [z, e] at n; cases n
  have U1 : Un X.fs [] H (upd (upd H dx (exd dx [(f, y)])) a (exo a C (some dx))) hp h' :=
   { keep := fun b o q n _ _ => k b o (na n) q
     slot := fun b o q n _ _ => ⟨o.slots, k b o (na n) q⟩
     free := fun b o q n _ => by rw [upd_ne (na n), upd_ne (nd q)]; exact n
     there := fun b o q _ => by
       by_cases z : b = a
       · exact ⟨_, by rw [z]; exact hx⟩
       · exact ⟨o, k b o z q⟩
     tups := fun b xs q => by rw [upd_ne (at_ne e q exo_tup), upd_ne (ne_of_none q hnd)]; exact q
     frzs := fun b o v q => by rw [upd_ne (at_ne e q exo_frz), upd_ne (ne_of_none q hnd)]; exact q
     tbls := fun b ps q => ⟨#[], by rw [upd_ne (at_ne e q exo_tbl), upd_ne (ne_of_none q hnd), q]; simp⟩ }
  refine h dx _ hnd dne (I.un (t' := tk') U1 fun b o q => ?_)
  by_cases z : b = a
  · subst z
    rw [upd_same] at q
    cases q
    exact exo_ok hx
  · rw [upd_ne z] at q
    by_cases zd : b = dx
    · subst zd
      rw [upd_same] at q
      cases q
      exact exd_ok hn (relO_put (fs := []) ry fun g => True.intro)
    · rw [upd_ne zd] at q
      have c1 : ∀ c v, (c = b ∨ H c = some (.own b)) → hp.get? c = some v → h'.get? c = some v := fun c v hc z2 => k c v (by
        rcases hc with hc | hc
        · rw [hc]; exact z
        · exact at_ne e hc exo_own) z2
      exact (I.hok b o q).stay (fun c v hc z2 => c1 c v hc z2) (fun c hc => by rw [upd_ne (at_ne e hc exo_own), upd_ne (ne_of_none hc hnd)]; exact hc) (fun c xs hc => by rw [upd_ne (at_ne e hc exo_tup), upd_ne (ne_of_none hc hnd)]; exact hc)
theorem set_more (T : OexG X.K C) (I : L2.Inv X pins σ H s) (e : H a = some (exo a C (some dx))) (ed : H dx = some (exd dx fs)) (hl : fs.length ≤ 900) (hno : PySem.W.findIn X.K (.ref C) f = some none) (ry : RelV y u)
    (h : ∀ s', L2.Inv X pins σ (upd H dx (exd dx ((f, y) :: fs))) s' → Q () s') : wpAny (model X.prog X.w) A (setAttr (.ref a) f u) Q E s := by
  obtain ⟨n, nm, q, N, bs, bm, sn, sub, ab, col, dd, k0, k1, k2, k3, k5, hC, hov⟩ := T.cls
  have hcl : PySem.W.clsIn X.K C = some { name := nm, bases := bs, mro := .ref C :: bm, ns := N, qualname := q, hasDict := true, slotNames := sn, subclasses := sub, abstract := ab, collection := col, hasDel := false } := by
    unfold PySem.W.clsIn
    rw [hC] <;> rfl
  obtain ⟨t1, ho⟩ := exo_at I.hok e
  obtain ⟨mA, hns, rel⟩ := exd_at I.hok ed
  have hw := within_of rel
  obtain ⟨hp, g, dr, t, os⟩ := s
  obtain ⟨oD, _, _, hoD, _, _⟩ := hns.count hw
  refine PySem.W.set_plain I.kIn (ox := { cls := .ref C, dict := some dx, data := .fields #[.ref t1, .none, .none, .none, .bool false, .none] }) (od := some oD) ⟨ho, rfl, rfl, hoD⟩ T.sa ?_
  refine osa_more I.kIn ho hns hw (by rw [List.length_map]; omega) hcl rfl hov rfl hno (fun h' tk' k hn => ?_)
  obtain ⟨o, es, ep, e', r'⟩ := hn
  exact h _ (I.write (t' := tk') (x := dx) (e := dx) (o := exd dx ((f, y) :: fs)) (by rw [ed]; exact True.intro) (.inl rfl) k ⟨o, e'⟩ (exd_ok ⟨o, es, ep, e', r'⟩ (relO_put ry rel)))
end
def tFst (K : PySem.W.Frag) (f : Str) (to te : TE) : TS := fun D σ H => te σ H fun y H1 => to σ H1 fun x H2 => ∃ a C : Addr, x = .ref a ∧ OexG K C ∧ PySem.W.findIn K (.ref C) f = some none ∧
  ((H2 a = some (exo a C none) ∧ ∀ dx, H2 dx = none → dx ≠ a → D.nx σ (upd (upd H2 dx (exd dx [(f, y)])) a (exo a C (some dx)))) ∨
    ∃ (dx : Addr) (fs : List (Str × V)), H2 a = some (exo a C (some dx)) ∧ H2 dx = some (exd dx fs) ∧ fs.length ≤ 900 ∧ D.nx σ (upd H2 dx (exd dx ((f, y) :: fs))))
theorem ps_fst {X : Cx} {o e : Expr} {to te : TE} {f : Str} {p' pos : Pos} (ho : PE X o to) (he : PE X e te) (hs : swapsWith e (some (.Attribute o f p')) pos.line X.env = pure false := by rfl) : PS X (.Assign [.Attribute o f p'] e pos) (tFst X.K f to te) := by
  refine ⟨fun pins s σ H D I h => ?_⟩
  refine plainObj_wpAny_Assign_Attribute (thn (he.run pins s σ H _ I h) fun v s1 ⟨y, H1, I1, r1, q1⟩ => thn (ho.run pins s1 σ H1 _ I1 q1) fun u s2 ⟨x, H2, I2, r2, a, C, ex, T, hno, q⟩ => ?_) hs
  subst ex
  obtain rfl : u = Value.ref a := r2
  rcases q with ⟨ea, q⟩ | ⟨dx, fs, ea, ed, hl, q⟩
  · exact set_first T I2 ea hno r1 fun dx s' n ne J => ⟨σ, _, J, q dx n ne⟩
  · exact set_more T I2 ea ed hl hno r1 fun s' J => ⟨σ, _, J, q⟩
theorem pe_clscall {X : Cx} {CX : CXT} {k : Nat} {C f : Addr} {mc : Value} {fd : FuncData} {ps : List Str} {sp : Sp} {E : XK} {x m : Str} {p apos pos : Pos} {e : Expr} {es : List Expr} {t : TA} {pl : Sem Bool} (r : CFn X.K C mc m f) (hg : Gl X x) (hm : X.mg x = some (.ref C))
    (F : FnOk X.prog X.w X.K X.mg X.base CX k f fd ps sp) (hr : Room k X.A) (hb : L2.Binds X.K fd ps []) (hx : Passes CX X E) (ha : PA X (e :: es) t) (hdb : (x == ("__debug__" : Str)) = false := by decide)
    (hst : starEach (e :: es) X.env = (false, eval e X.env) :: starEach es X.env := by rfl) (hpl : (backTo pos (starEach es X.env)).any (·.1) = false := by rfl)
    (ht : eval (.Call (.Attribute (.Name x p) m apos) (e :: es) [] pos) X.env = (do
      let ov ← eval (.Name x p) X.env
      standAt apos.atName
      let (f, first) ← holding [ov] (getMethod ov m pl)
      callWith pos f first (backTo pos (starEach (e :: es) X.env)) (backToKw pos (keywordEach [] X.env))) := by rfl) :
    PE X (.Call (.Attribute (.Name x p) m apos) (e :: es) [] pos) (tCall sp [] E t) := by
  refine ⟨fun pins s σ H Q I h => ?_⟩
  refine PySem.W.methodCall_KW (pl := pl) (ld_glob I hg hm ?_ hdb) ht
  refine PySem.W.method_cls I.kIn r.rd.ga (PySem.W.cls_value I.kIn r.rd.rd r.at_ (handed_of (v := .ref f) rfl) ?_)
  exact PySem.W.callWith_K (first := []) (h₀ := X.base) I.ok.mod.kin r.kp (thn (ha.run pos pins _ σ H _ (I.tok _) h) fun us s2 ⟨vs, H2, I2, r2, q2⟩ => ⟨I2.kIn, run_fn (us := us) (vs := vs) F hr hb .nil hx I2 r2 q2⟩) hst hpl
def fD (ys : List D) (p : Str × (Nat ⊕ List Nat)) : Str × D := (p.1, match p.2 with
  | .inl i => (ys[i]?).getD .non
  | .inr s => .str s)
theorem fD_den {K : PySem.W.Frag} {ad : Nat → Option Addr} {Hv : Hp} {ds : List D} {vs : List V} (h : DenL K ad Hv ds vs) : ∀ (fl : FSpec) (f : Str) (y : D), (fl.map (fD ds)).lookup f = some y → ∃ v, (fl.map (fV vs)).lookup f = some v ∧ Den K ad Hv y v
  | [], _, _, e => by cases e
  | (g, k) :: fl, f, y, e => by
    rw [List.map_cons] at e ⊢
    have e' : (match f == g with | true => some (fD ds (g, k)).2 | false => (fl.map (fD ds)).lookup f) = some y := e
    show ∃ v, (match f == g with | true => some (fV vs (g, k)).2 | false => (fl.map (fV vs)).lookup f) = some v ∧ _
    cases z : f == g with
    | false => rw [z] at e'; exact fD_den h fl f y e'
    | true =>
      rw [z] at e'
      refine ⟨_, rfl, ?_⟩
      obtain rfl : (fD ds (g, k)).2 = y := Option.some.inj e'
      cases k with
      | inr s => exact rfl
      | inl i =>
        show Den K ad Hv ((ds[i]?).getD .non) ((vs[i]?).getD .non)
        cases q : ds[i]? with
        | some d =>
          obtain ⟨v, h1, h2⟩ := h.get q
          rw [h1]; exact h2
        | none =>
          have : vs[i]? = none := by
            have := h.length
            simp only [List.getElem?_eq_none_iff] at q ⊢
            omega
          rw [this]; exact rfl
theorem mk_heap {H : Hp} {a d : Addr} {o1 o2 o3 o4 : HO} (ha : H a = none) (hd : d ≠ a) : upd (del (upd (upd (upd H a o1) d o2) a o3) a) d o4 = upd H d o4 := by
  funext b
  by_cases h1 : b = d
  · rw [h1, upd_same, upd_same]
  · rw [upd_ne h1, upd_ne h1]
    by_cases h2 : b = a
    · rw [h2, del_same, ha]
    · rw [del_ne h2, upd_ne h2, upd_ne h1, upd_ne h2]
section
variable {X : Cx}
theorem mk_core {CX : CXT} {pins : List (Addr × Obj)} {σ : L2.St} {H1 : Hp} {s1 : Shared} {C fI : Addr} {k : Nat} {fd : FuncData} {ps : List Str} {n : Nat} {fl : FSpec} {vs : List V} {us : List Value} {Q : XK} (T : OexG X.K C)
    (iC : PySem.W.findIn X.K (.ref C) "__init__" = some (some (.ref fI))) (tI : PySem.W.typeIn X.K (.ref fI) = some (.type "function"))
    (F1 : FnOk X.prog X.w X.K X.mg X.base CX k fI fd ps (spI C n fl)) (hr : Room (k + 1) X.A) (hb : L2.Binds X.K fd ps []) (hx : Passes CX X (fun _ _ _ => False)) (I1 : L2.Inv X pins σ H1 s1) (r1 : Vals vs us) (hn : vs.length = n) (hz : n ≤ 1000)
    (q : ∀ d, H1 d = none → Q (.ref C) (some d) (upd H1 d (.xd (fl.map (fV vs))))) : wpAny (model X.prog X.w) X.A (call (.ref C) us) (MkP X pins σ Q) X.xe s1 := by
  obtain ⟨n0, nm, q0, N, bs, bm, sn, sub, ab, col, dd, k0, k1, k2, k3, k5, hC, hov⟩ := T.cls
  obtain ⟨B0, i0, tl0, eb0, tb0⟩ := hov.nw
  obtain ⟨hp, g, dr, tk, os⟩ := s1
  have hsz : hp.objs.size ≤ hp.objs.size + 1 := Nat.le_succ _
  have hno : H1 (hp.objs.size + 1) = none := I1.hok.fresh hsz
  have kk : ∀ b o, hp.get? b = some o → ((hp.push (PySem.W.kdv_tup us)).push (PySem.HandSPX.excO C hp.objs.size)).get? b = some o := fun b o e => Heap.get?_push_of_some _ (Heap.get?_push_of_some _ e)
  have hget : ((hp.push (PySem.W.kdv_tup us)).push (PySem.HandSPX.excO C hp.objs.size)).get? (hp.objs.size + 1) = some (PySem.HandSPX.excO C hp.objs.size) := by heap_get
  have I2 : L2.Inv X pins σ (upd H1 (hp.objs.size + 1) (exo (hp.objs.size + 1) C none)) ⟨(hp.push (PySem.W.kdv_tup us)).push (PySem.HandSPX.excO C hp.objs.size), g, dr, tk, os⟩ :=
    I1.laid (t' := tk) (a := hp.objs.size + 1) (o := exo (hp.objs.size + 1) C none) (h' := (hp.push (PySem.W.kdv_tup us)).push (PySem.HandSPX.excO C hp.objs.size)) kk hsz (exo_ok hget)
  have r2 : Vals (V.ref (hp.objs.size + 1) :: vs) (Value.ref (hp.objs.size + 1) :: us) := .cons rfl r1
  have hq : spI C n fl (V.ref (hp.objs.size + 1) :: vs) (upd H1 (hp.objs.size + 1) (exo (hp.objs.size + 1) C none))
      (fun v H2 => v = .non ∧ ∃ (d : Addr) (fs : List (Str × V)), H2 (hp.objs.size + 1) = some (exo (hp.objs.size + 1) C (some d)) ∧ H2 d = some (exd d fs) ∧ H1 d = none ∧ Q (.ref C) (some d) (upd (del H2 (hp.objs.size + 1)) d (.xd fs))) (fun _ _ _ => False) := by
    refine ⟨_, vs, rfl, hn, upd_same, fun dx hdx ne => ⟨rfl, dx, fl.map (fV vs), upd_same, ?_, ?_, ?_⟩⟩
    · rw [upd_ne ne, upd_same]
    · rw [upd_ne ne] at hdx; exact hdx
    · rw [mk_heap hno ne]
      rw [upd_ne ne] at hdx
      exact q dx hdx
  have hl : (Value.ref (hp.objs.size + 1) :: us ++ []).length = ps.length := by
    have e := r2.length
    rw [F1.len _ _ _ _ hq] at e
    rw [List.append_nil]
    exact e.symm
  have hus : us.length ≤ sizeLine := by
    have := Paired.length r1
    rw [sizeLine_eq]
    omega
  have b2 := hb _ (Value.ref (hp.objs.size + 1) :: us) I2.kIn hl
  rw [List.append_nil] at b2
  refine wpAny_call (PySem.HandSPX.call_own eb0 tb0 (I1.kIn _ _ hC) (PySem.W.looks_findIn I1.kIn iC) (fun self => PySem.W.bind_fn I1.kIn self tI) hus
    (codeAny_mono (F1.run _ X.stack _ _ ⟨Value.ref (hp.objs.size + 1) :: us, []⟩ (Value.ref (hp.objs.size + 1) :: us) _ _ (fun _ _ _ => False) (hr.make C us []) (I2.env0.make C us []) b2 r2 hq) fun r s' hq' => ?_))
  cases r with
  | error er => exact hx pins σ _ _ er s' I2 hq'
  | ok fl =>
    cases fl with
    | ret u =>
      obtain ⟨v, H2, os2, bare2, un2, hok2, rv, ev, d, fs, ea, ed, hd1, q2⟩ := hq'
      subst ev
      obtain ⟨h2, g2, d2, t2, os'⟩ := s'
      exact ⟨rv, mk_end (raises_own T.exC T.tyC) I1 hsz kk un2 hok2 os2 bare2 ea ed hd1 q2⟩
    | next => exact False.elim hq'
    | brk => exact False.elim hq'
    | cont => exact False.elim hq'
theorem pmk_0 {k n : Nat} {fl : FSpec} {x : Str} {p pos : Pos} {W : WX} (h : XcOk X.prog X.w X.K X.mg X.base k x n fl) (hn : n = 0) {j : Nat} (hr : Room j X.A) (tk : Takes X W) (hj : k + 1 ≤ j) (hg : Gl X x) (hdb : (x == ("__debug__" : Str)) = false := by decide) :
    PMk X (.Call (.Name x p) [] [] pos) (fun _ H1 Q => ∃ C, X.mg x = some (.ref C) ∧ ∀ d, H1 d = none → Q (.ref C) (some d) (upd H1 d (.xd (fl.map (fV []))))) := by
  intro pins s σ H Q I hq
  obtain ⟨C, fI, fd, ps, T, iC, tI, F1, hb, hm⟩ := h.ex
  obtain ⟨C', hm', hq⟩ := hq
  rw [hm] at hm'; cases hm'
  refine wpAny_Call_Name_kw (ld_glob I hg hm ?_ hdb)
  refine PySem.W.callWith_K0 I.kIn T.kC ?_
  show wpAny _ _ (call (.ref C) []) _ _ _
  exact mk_core T iC tI F1 (hr.mono hj) hb (passes_call tk fun _ _ _ _ h => h.elim) I .nil hn.symm (by omega) hq
end
section
variable {K : PySem.W.Frag} {M : WM K}
theorem rel_hid {en p : Pt M} {ρ : Nv} {σ : Sl} (h : Rel en ρ σ p) {a : Addr} {o : HO} (e : p.H a = none) : Rel en ρ σ (p.hid a o) where
  ok := ok_hid h.ok e
  ext := h.ext.trans (ext_hid e)
  len := h.len
  sh := fun i d q => h.sh i d q
  ow := fun i d q => by
    obtain ⟨b, u, h1, h2, h3, h4, h5, h6⟩ := h.ow i d q
    exact ⟨b, u, h1, by show upd p.H a o b = _; rw [upd_ne (ne_of_none h2 e)]; exact h2, h3, h4, h5, h6⟩
  dis := h.dis
def sRaise (x : Str) (n : Nat) (fl : FSpec) (m : List Nat) (el : Ev M (List D)) : Sv M := fun ρ s => (inF m el ρ s).bind fun r => if r.1.length = n then .exc (⟨x, fl.map (fD r.1)⟩, frz m ρ, r.2) else .bad
end
section
variable {X : Cx} {M : WM X.K} {W : WX} {el : Ev M (List D)}
theorem ss_raise0 {k n : Nat} {fl : FSpec} {x : Str} {p p1 pos : Pos} (h : XcOk X.prog X.w X.K X.mg X.base k x n fl) {j : Nat} (hr : Room j X.A) (tk : Takes X W) (hn : n = 0 := by rfl) (hj : k + 1 ≤ j := by decide) (hg : Gl X x := by rfl) (hc : X.calm = true := by rfl) (hdb : (x == ("__debug__" : Str)) = false := by decide) :
    PS X (.Raise (some (.Call (.Name x p) [] [] p1)) none pos) (tS M X.mg W (sRaise x n fl [] eNil)) := (ps_raise hc tk (pmk_0 h hn hr tk hj hg hdb)).con fun Dd σ H ⟨en, ρ, q, hH, rl, hq⟩ => by
  subst hH
  obtain ⟨C, fI, fd, ps, T, iC, tI, F1, hb, hm⟩ := h.ex
  refine ⟨C, hm, fun d hd => ?_⟩
  subst hn
  have hq' : XSEnd M X.mg en W (⟨x, fl.map (fD [])⟩, frz [] ρ, q.s) := hq
  refine hq' (.ref C) (some d) σ (q.hid d (.xd (fl.map (fV [])))) ?_ rfl ⟨hm, d, _, rfl, upd_same, rl.ok.fn hd, fun f y hl => ?_⟩
  · rw [frz_nil]; exact rel_hid rl hd
  · exact fD_den (ds := []) (vs := []) DenL.nil fl f y hl
end
end VQ
namespace VQ
open PySem PySem.Spec PyProof.Rows L2 LamX
def triedX (xt : Xt) (x : Exc) : Option D := match xt.lookup x.cls with
  | some (some f) => match x.fs.lookup ("called" : Str), x.fs.lookup f with
    | some a, some b => some (.tup [a, b])
    | _, _ => none
  | some none => match x.fs.lookup ("called" : Str) with
    | some a => some (.tup [a, .str []])
    | none => none
  | none => none
def sTold : List Nat := [116, 111, 108, 100]
section
variable {K : PySem.W.Frag} {M : WM K}
def eTried (xt : Xt) (ee : Ev M D) : Ev M D := fun ρ s => ((ee ρ s).bind fun r => .ret (.tup [.str sTold, r.1], r.2)).catch_ fun x => match triedX xt x.1 with
  | some d => .ret (d, x.2)
  | none => .bad
end
section
variable {X : Cx} {M : WM X.K} {W : WX} {ee eT : Ev M D}
variable {g g' : Addr} {cl : Cl} {xt : Xt} {k j : Nat} {params : Arguments} {body : Expr} {scope : Scope} {p lpos pos : Pos}
def eFst {K : PySem.W.Frag} {M : WM K} (ea : Ev M D) : Ev M D := fun ρ s => (ea ρ s).bind fun r => match r.1 with
  | .tup (a :: _) => .ret (a, r.2)
  | _ => .bad
end
end VQ
namespace VQ
open PySem PySem.Spec PyProof.Rows L2
section
variable {K : PySem.W.Frag} {M : WM K}
def eCmpT (f : D → D → Option Bool) (ea eb : Ev M D) : Ev M Bool := fun ρ s => (ea ρ s).bind fun x => (eb ρ x.2).bind fun y => op (f x.1 y.1) y.2
def eChain (f f' : D → D → Option Bool) (ea eb ec : Ev M D) : Ev M D := fun ρ s => (ea ρ s).bind fun x => (eb ρ x.2).bind fun y => (op (f x.1 y.1) y.2).bind fun k => if k.1 = true then (ec ρ k.2).bind fun z => (op (f' y.1 z.1) z.2).bind fun m => .ret (.bl m.1, m.2) else .ret (.bl false, k.2)
end
section
variable {X : Cx} {M : WM X.K} {W : WX} {e a b c : Expr} {es rest : List Expr} {pos : Pos} {ea eb ec : Ev M D} {er : Ev M R} {el : Ev M (List D)}
theorem tt_cmp2 {o : CmpOp} {r : R2} {f : D → D → Option Bool} (ho : OpR X (compareOp o) r) (hf : OpD M (fun d e => (f d e).map fun k => R.sh (.bl k)) r) (ha : PE X a (tD M X.mg W ea)) (hb : PE X b (tD M X.mg W eb)) (hm : behindInMarks o b = false := by rfl) :
    PT X (.Compare a [o] [b] pos) (tB' M X.mg W (eCmpT f ea eb)) := tt_cmp ho hf ha hb hm
theorem ev_chain {o o' : CmpOp} {r r' : R2} {f f' : D → D → Option Bool} (ho : OpR X (compareOp o) r) (ho' : OpR X (compareOp o') r') (hf : OpD M (fun d e => (f d e).map fun k => R.sh (.bl k)) r) (hf' : OpD M (fun d e => (f' d e).map fun k => R.sh (.bl k)) r')
    (ha : PE X a (tD M X.mg W ea)) (hb : PE X b (tD M X.mg W eb)) (hc : PE X c (tD M X.mg W ec)) (hm : lastMarks [o, o'] [b, c] = false := by with_unfolding_all rfl) :
    PE X (.Compare a [o, o'] [b, c] pos) (tD M X.mg W (eChain f f' ea eb ec)) := tt_chain ho ho' hf hf' ha hb hc (pe_chain ho ho' ha hb hc hm)
end
theorem ev_gc {X : Cx} {M : WM X.K} {W : WX} {x : Str} {d : D} {pos : Pos} (h : GC X.mg x d) (hg : Gl X x := by rfl) (hdb : (x == ("__debug__" : Str)) = false := by decide) : PE X (.Name x pos) (tD M X.mg W (eC M d)) := by
  obtain ⟨v, u, h1, h2, h3⟩ := h.ex
  exact ev_glob hg h1 h2 (h3 X.K) hdb
section
variable {P : Program} {w : World} {K : PySem.W.Frag} {mg : Str → Option Value} {base : Heap} {M : WM K}
def fBad : List D → M.S → Gx M R := fun _ _ => .bad
theorem fn_bad {k n : Nat} {f : Addr} {fd : FuncData} {ps : List Str} (hn : ps.length = n) : FnOk P w K mg base (L2.CX P w) k f fd ps (spV M mg n fBad) :=
  ⟨fun vs H Q E ⟨ds, p, h, _⟩ => h.trans hn.symm, fun A outer s H args us vs Q E _ _ _ _ ⟨ds, p, _, _, _, _, q⟩ => q.elim⟩
end
section
variable {P : Program} {w : World} {K : PySem.W.Frag} {mg : Str → Option Value} {base : Heap} {b l : Addr} {T : List (Addr × Str)} {I : IW K}
def nPull : List Str := ["_law_bag_here", "_law_size", "_law_cell", "_law_digit"]
theorem pull_inv {S : Type} {ds : List D} {s : S} {Q : R × S → Prop} {E : Exc × S → Prop} (h : (pullS ds s).all Q E) : ∃ n : Int, ds = [.obj 0, .int n] ∧ 0 < n ∧ n < 1073741824 ∧ ∀ r, r < n.toNat → Q (.sh (.int (r : Nat)), s) := by
  match ds, h with
  | [.obj 0, .int n], h =>
    by_cases hn : 0 < n ∧ n < 1073741824
    · have h' : (if 0 < n ∧ n < 1073741824 then (.draw n.toNat fun r => .ret (.sh (.int (r : Nat)), s) : G (Exc × S) (R × S)) else .bad).all Q E := h
      rw [if_pos hn] at h'
      exact ⟨n, rfl, hn.1, hn.2, h'.2⟩
    · have h' : (if 0 < n ∧ n < 1073741824 then (.draw n.toNat fun r => .ret (.sh (.int (r : Nat)), s) : G (Exc × S) (R × S)) else .bad).all Q E := h
      rw [if_neg hn] at h'
      exact h'.elim
theorem pull_ok {x qual : Str} {st : Stmt} {f : Addr} {fd : FuncData} {k : Nat} (F : Fun K x qual st f fd) (S : FnScope nPull ["_law_bag_here", "_law_size"] (defScope st))
    (hbody : ∀ (cdv : Value) (A : Around) (outer : List Env) (s : Shared) (H : Hp) (E : XK), PSs (cxOf (L2.CX P w) P w K mg base nPull qual (defScope st) f cdv A outer s H E) (defBody st) (tPull K)) : FnOk P w K mg base (L2.CX P w) (k + 1) f fd ["_law_bag_here", "_law_size"] (spV (bagW K b l T I) mg 2 pullS) := by
  refine F.okX S (fun vs H Q E ⟨ds, p, h, _⟩ => h) (fun cdv A outer s H vs Q E hr h => ⟨_, hbody cdv A outer s H E, ?_⟩)
  obtain ⟨ds, p, hl, hH, ok, hd, hq⟩ := h
  subst hH
  obtain ⟨n, rfl, h1, h2, hk⟩ := pull_inv hq
  obtain ⟨v1, r1, rfl, d1, v2, r2, rfl, d2, rfl⟩ := hd
  obtain ⟨a, ha, rfl⟩ := d1
  have ha : p.ad 0 = some a := ha
  obtain ⟨hb, _⟩ := ok.rep
  obtain rfl : b = a := Option.some.inj (hb.symm.trans ha)
  cases d2
  exact pull_read (p := p) ok h1 h2 fun r q hr e okq es => hk r hr (.int (r : Nat)) q e okq es rfl
def spBag (K : PySem.W.Frag) : Sp := fun vs H Q _ => ∃ (a : Addr) (ns : List Int), vs = [.ref a] ∧ SqL K H a (ns.map V.int) ∧ ns.length ≤ 63 ∧ ∀ (b l : Addr) (H' : Hp), BagAt H' b l → (∀ x o, H x = some o → H' x = some o) → H b = none → H l = none → Q (.ref b) H'
def tBag (K : PySem.W.Frag) : TS := tRet (tLst (tCons (tCB (fun xs H Q => ∃ p ys, xs = [.ref p] ∧ (SqL K H p ys ∨ SqT K H p ys) ∧ ∀ l, H l = none → Q (.ref l) (upd H l (.lst ys)))
  (tCons (tSl (rSlL K) (tVar 0) tNoPart (tPart (pI 63))) tNil)) (tCons (pI 0) (tCons (pI 0) (tCons (pI 1) (tCons (pI 0) tNil))))))
theorem cut63 {ns : List Int} (h : ns.length ≤ 63) : cutV (ns.map V.int) none (some 63) = ns.map V.int := by
  unfold cutV
  have e1 : HT.sIx (ns.map V.int).length 0 none = 0 := rfl
  have e2 : HT.sIx (ns.map V.int).length (ns.map V.int).length (some 63) = min 63 (ns.map V.int).length := HT.sIx_nat _ _ 63
  rw [e1, e2, List.drop_zero, Nat.sub_zero, List.take_of_length_le (by rw [List.length_map]; omega)]
theorem bag_ok {x qual : Str} {st : Stmt} {f : Addr} {fd : FuncData} {k : Nat} (F : Fun K x qual st f fd) (S : FnScope ["_law_script"] ["_law_script"] (defScope st))
    (hbody : ∀ (cdv : Value) (A : Around) (outer : List Env) (s : Shared) (H : Hp) (E : XK), PSs (cxOf (L2.CX P w) P w K mg base ["_law_script"] qual (defScope st) f cdv A outer s H E) (defBody st) (tBag K)) : FnOk P w K mg base (L2.CX P w) (k + 1) f fd ["_law_script"] (spBag K) := by
  refine F.okX S (fun vs H Q E ⟨a, ns, h, _⟩ => by rw [h]; rfl) (fun cdv A outer s H vs Q E hr h => ⟨_, hbody cdv A outer s H E, ?_⟩)
  obtain ⟨a, ns, rfl, hS, hl, hk⟩ := h
  refine ⟨.ref a, rfl, 63, rfl, a, ns.map V.int, rfl, hS, fun p hp => ⟨p, _, rfl, .inl (SqL.of upd_same), fun l hl2 => ⟨by rw [sizeLine_eq]; show 5 ≤ _; omega, fun b hb => ?_⟩⟩⟩
  have n1 : b ≠ l := fun z => by rw [z, upd_same] at hb; cases hb
  rw [upd_ne n1] at hb
  have n2 : b ≠ p := fun z => by rw [z, upd_same] at hb; cases hb
  rw [upd_ne n2] at hb
  have n3 : l ≠ p := fun z => by rw [z, upd_same] at hl2; cases hl2
  rw [upd_ne n3] at hl2
  refine hk b l _ ⟨n1, ns, 0, 0, 1, 0, upd_same, ?_, hl, by decide, by omega, by decide, by decide, by decide⟩ (fun x o e => ?_) hb hl2
  · rw [upd_ne (Ne.symm n1), upd_same, cut63 hl]
  · rw [upd_ne (ne_of_none e hb), upd_ne (ne_of_none e hl2), upd_ne (ne_of_none e hp)]; exact e
theorem pss_ex {X : Cx} {ι : Type} {sts : List Stmt} {t : ι → TS} (h : ∀ i, PSs X sts (t i)) : PSs X sts (fun D σ H => ∃ i, t i D σ H) := ⟨fun pins s σ H D I ⟨i, q⟩ => (h i).run pins s σ H D I q⟩
def spLaw (K : PySem.W.Frag) (T : List (Addr × Str)) : Sp := fun vs H Q _ => ∃ (a : Addr) (ns : List Int), vs = [.ref a] ∧ SqL K H a (ns.map V.int) ∧ ns.length ≤ 63 ∧ (∀ r ∈ T, H r.1 = some (.tbl #[])) ∧ ∀ H', Q (.bl true) H'
def lawPt (K : PySem.W.Frag) (b l : Addr) (T : List (Addr × Str)) (I : IW K) (s0 : I.S) (H : Hp) : Pt (bagW K b l T I) := ⟨s0, fun x => x = b ∨ x = l ∨ ∃ r ∈ T, x = r.1, fun _ => none, H, fun n => if n = 0 then some b else none⟩
def Begin {K : PySem.W.Frag} (I : IW K) (s0 : I.S) : Prop := ∀ ad H, (∀ n, ad (n + 1) = none) → I.rep s0 ad (fun _ => False) (fun _ => none) H
theorem lawPt_ok {H : Hp} {s0 : I.S} (h0 : Begin I s0) (B : BagAt H b l) (hT : ∀ r ∈ T, H r.1 = some (.tbl #[])) : (lawPt K b l T I s0 H).Ok := by
  refine ⟨(fun _ _ e => by cases e), fun _ _ => rfl, rfl, .inl rfl, .inr (.inl rfl), fun r hr => ⟨.inr (.inr ⟨r, hr, rfl⟩), #[], hT r hr, trivial, fun pos cv e => ?_⟩, B, fun x hx => ?_, fun _ => False, fun _ h => h.elim, h0 _ _ fun n => by show (if n + 1 = 0 then some b else none) = none; simp⟩
  · have z : PySem.codeAmong pos [] = some cv := e
    simp [PySem.codeAmong] at z
  · obtain ⟨ne, ns, c, g, st, k, h2, h3, h4⟩ := B
    rcases hx with h | h | ⟨r, hr, h⟩
    · exact ⟨_, by rw [h]; exact h2, fun _ z => by cases z⟩
    · exact ⟨_, by rw [h]; exact h3, fun _ z => by cases z⟩
    · exact ⟨_, by rw [h]; exact hT r hr, fun _ z => by cases z⟩
theorem law_ok {st : Stmt} {f fb : Addr} {fdb : FuncData} {k kb n : Nat} {oc kV doc pm cdv ct : Value} {od an : Option Addr} {osl : Array (Option Value)} {N : List Str} {x0 x1 : Str} {rest : List Stmt} {p1 p2 p3 p4 p5 : Pos} {ss : (b l : Addr) → Sv (bagW K b l T I)} (lk : K.lookup f = some ⟨oc, od, .func (PySem.W.fnOf "law" "law" (defArgs st) (defBody st) (defScope st) .none kV doc pm an cdv ct), osl⟩) (hcd : PySem.W.codeIn K cdv "law" = true) (S : FnScope N [x0] (defScope st)) (hn : N.length = n + 2) (h0 : N[0]? = some x0) (h1 : N[1]? = some x1)
    (hv0 : Vis (defScope st) x0) (hv1 : Loc (defScope st) x1) (hd0 : (x0 == ("__debug__" : Str)) = false) (hc0 : (x0 == ("__classdict__" : Str)) = false)
    (hg : (defScope st).names.lookup ("_law_bag" : Str) = some .globalImplicit) (hm : mg "_law_bag" = some (.ref fb)) (hk : PySem.W.keepIn K (.ref fb) = true) (hbb : L2.Binds K fdb ["_law_script"] []) (B : FnOk P w K mg base (L2.CX P w) kb fb fdb ["_law_script"] (spBag K)) (hkb : kb ≤ k)
    (hb : defBody st = .Assign [.Name x1 p1] (.Call (.Name "_law_bag" p2) [.Name x0 p3] [] p4) p5 :: rest)
    (hrest : ∀ (b l : Addr) (A : Around) (outer : List Env) (s : Shared) (H : Hp) (E : XK), Room k (A.deeper (envOfC "law" (defScope st) s.heap.objs.size f cdv)) → Takes (cxOf (L2.CX P w) P w K mg base N "law" (defScope st) f cdv A outer s H E) (fun cls d _ H => E cls d H) →
      PSs (cxOf (L2.CX P w) P w K mg base N "law" (defScope st) f cdv A outer s H E) rest (tS (bagW K b l T I) mg (fun cls d _ H => E cls d H) (ss b l)))
    {s0 : I.S} (hI : Begin I s0) (hpure : ∀ b l : Addr, (ss b l (none :: some (.sh (.obj 0)) :: List.replicate n none) s0).all (fun r => r.1 = .rt (.sh (.bl true))) (fun _ => False)) : FnOk P w K mg base (L2.CX P w) (k + 1) f (PySem.W.fnOf "law" "law" (defArgs st) (defBody st) (defScope st) .none kV doc pm an cdv ct) [x0] (spLaw K T) := by
  refine fn_of lk hcd S (fun vs H Q E ⟨a, ns, h, _⟩ => by rw [h]; rfl) (fun A outer s H vs Q E hr h => ?_)
  have tk : Takes (cxOf (L2.CX P w) P w K mg base N "law" (defScope st) f cdv A outer s H E) (fun cls d _ H => E cls d H) := takes_of rfl rfl rfl rfl
  rw [hb]
  refine ⟨_, pss_cons (ps_set (i := 1) S.nd h1 hv1 (pe_callSD (E := WE fun cls d _ H => E cls d H) B (hr.mono hkb) hg hm hk hbb .nil (passAt tk) (pa_cons (pe_var (i := 0) h0 hv0 hd0 hc0) pa_nil)) (by rfl)) (pss_ex (ι := Addr × Addr) fun i => hrest i.1 i.2 A outer s H E hr tk), ?_⟩
  obtain ⟨a, ns, rfl, hS, hl, hT, hq⟩ := h
  have eN : N.length = n + 2 := hn
  refine ⟨.ref a, ?_, a, ns, rfl, hS, hl, fun b l H' hB hs hbn hln => ⟨(b, l), lawPt K b l T I s0 H', none :: some (.sh (.obj 0)) :: List.replicate n none, lawPt K b l T I s0 H', rfl, ?_, G.all_mono (fun r hr => ?_) (fun x hx => hx.elim) (hpure b l)⟩⟩
  · show (L2.start N [V.ref a])[0]? = _
    unfold L2.start; simp
  · have ok := lawPt_ok (K := K) (T := T) hI hB fun r hr => hs _ _ (hT r hr)
    have es : (L2.start N [V.ref a]).set 1 (some (V.ref b)) = some (.ref a) :: some (.ref b) :: List.replicate n none := by
      unfold L2.start
      rw [eN]
      simp [List.replicate_succ]
    show Rel (lawPt K b l T I s0 H') (none :: some (.sh (.obj 0)) :: List.replicate n none) ((L2.start N [V.ref a]).set 1 (some (V.ref b))) (lawPt K b l T I s0 H')
    rw [es]
    have get : ∀ (i : Nat) vv, (none :: some (VV.sh (.obj 0)) :: List.replicate n none : Nv)[i]? = some (some vv) → i = 1 ∧ vv = .sh (.obj 0) := fun i vv e => by
      match i with
      | 0 => simp at e
      | 1 => simp at e; exact ⟨rfl, e.symm⟩
      | i + 2 =>
        simp only [List.getElem?_cons_succ, List.getElem?_replicate] at e
        split at e <;> cases e
    refine ⟨ok, Ext.refl _, by simp, fun i d e => ?_, fun i d e => ?_, fun i j d d' a _ e => ?_⟩
    · obtain ⟨rfl, h2⟩ := get i _ e
      cases h2
      exact ⟨.ref b, rfl, b, rfl, rfl⟩
    · obtain ⟨_, h2⟩ := get i _ e; cases h2
    · obtain ⟨_, h2⟩ := get i _ e; cases h2
  · obtain ⟨fl, s1⟩ := r
    have hr : fl = .rt (.sh (.bl true)) := hr
    subst hr
    intro v q ex okq es rk
    have : v = .bl true := rk
    subst this
    exact hq _
end
section
variable {P : Program} {w : World} {K : PySem.W.Frag} {mg : Str → Option Value} {base : Heap}
theorem base_init {st : Stmt} {q : Str} {f : Addr} {fd : FuncData} {k : Nat} {p1 p2 p3 p4 : Pos} (F : Fun K "__init__" q st f fd) (S : FnScope ["self", "called"] ["self", "called"] (defScope st)) (h1 : (defScope st).names.lookup ("self" : Str) = some .local) (h2 : (defScope st).names.lookup ("called" : Str) = some .local)
    (hb : defBody st = [.Assign [.Attribute (.Name "self" p1) "called" p2] (.Name "called" p3) p4]) : FnOk P w K mg base (L2.CX P w) (k + 1) f fd ["self", "called"] (spA K ["called"] 1 [("called", .inl 0)]) := by
  refine F.okX S (fun vs H Q E ⟨a, C, ys, h, hn, _⟩ => by rw [h, List.length_cons, hn]; rfl) (fun cdv A outer s H vs Q E hr h => ?_)
  obtain ⟨a, C, ys, rfl, hn, T, hno, ha, hq⟩ := h
  match ys, hn with
  | [y], _ =>
    rw [hb]
    refine ⟨_, pss_one (ps_fst (pe_var (i := 0) rfl (.inl h1) (by decide) (by decide)) (pe_var (i := 1) rfl (.inl h2) (by decide) (by decide)) (by rfl)), ?_⟩
    exact ⟨y, rfl, .ref a, rfl, a, C, rfl, T, hno _ (List.mem_cons_self ..), .inl ⟨ha, fun dx hd ne => hq dx hd ne⟩⟩
abbrev tAbove (K : PySem.W.Frag) (nm : Str) : TE := tCall (spA K ["called"] 1 [("called", .inl 0)]) [] (fun _ _ _ => False) (tCons (tVar 0) (tCons (tC (.str nm)) tNil))
theorem pe_above {X : Cx} {k j : Nat} {x nm : Str} {p1 p2 p3 p4 p5 : Pos} {pl : Sem Bool} (A : AboveOk X.prog X.w X.K X.mg X.base k x) (hr : Room k X.A) (hg : Gl X x := by rfl) (hN : X.N[0]? = some ("self" : Str) := by rfl) (hv : Vis X.env.scope "self" := by exact Or.inl rfl) (hdb : (x == ("__debug__" : Str)) = false := by decide)
    (ht : eval (.Call (.Attribute (.Name x p1) "__init__" p2) [.Name "self" p3, .Constant (.str nm) j p4] [] p5) X.env = (do
      let ov ← eval (.Name x p1) X.env
      standAt p2.atName
      let (f, first) ← holding [ov] (getMethod ov "__init__" pl)
      callWith p5 f first (backTo p5 (starEach [.Name "self" p3, .Constant (.str nm) j p4] X.env)) (backToKw p5 (keywordEach [] X.env))) := by rfl) :
    PE X (.Call (.Attribute (.Name x p1) "__init__" p2) [.Name "self" p3, .Constant (.str nm) j p4] [] p5) (tAbove X.K nm) := by
  obtain ⟨B, mc, fB, fdB, hF, hm, hB, hbb⟩ := A.ex
  exact pe_clscall (E := fun _ _ _ => False) hF hg hm hB hr hbb (passes_call (W := fun _ _ _ _ => False) L2.takes0 fun _ _ _ _ h => h) (pa_cons (pe_var (i := 0) hN hv (by decide) (by decide)) (pa_cons pe_str pa_nil)) hdb (by rfl) (by rfl) ht
theorem own_init0 {st : Stmt} {q nm : Str} {l : List Nat} {f C : Addr} {fd : FuncData} {k : Nat} (F : Fun K "__init__" q st f fd) (S : FnScope ["self"] ["self"] (defScope st))
    (hbody : ∀ (cdv : Value) (A : Around) (outer : List Env) (s : Shared) (H : Hp) (E : XK), Room k (A.deeper (envOfC q (defScope st) s.heap.objs.size f cdv)) → PSs (cxOf (L2.CX P w) P w K mg base ["self"] q (defScope st) f cdv A outer s H E) (defBody st) (tDrop (tAbove K nm)))
    (hnm : nm = ⟨l.toArray⟩) (T : OexG K C) (hno : PySem.W.findIn K (.ref C) "called" = some none) : FnOk P w K mg base (L2.CX P w) (k + 1) f fd ["self"] (spI C 0 [("called", .inr l)]) := by
  refine F.okX S (fun vs H Q E ⟨a, ys, h, hn, _⟩ => by rw [h, List.length_cons, hn]; rfl) (fun cdv A outer s H vs Q E hr h => ⟨_, hbody cdv A outer s H E hr, ?_⟩)
  obtain ⟨a, ys, rfl, hn, ha, hq⟩ := h
  match ys, hn with
  | [], _ =>
    refine ⟨.ref a, rfl, a, C, [.str nm], rfl, rfl, T, fun g hg => ?_, ha, fun dx hd ne => ?_⟩
    · rw [List.mem_singleton.mp hg]; exact hno
    · have := hq dx hd ne
      rw [hnm]
      exact this
end
theorem bt_len : bootBuiltins "len" = some (.builtin "len") := by decide +kernel
theorem bt_all : bootBuiltins "all" = some (.builtin "all") := by decide +kernel
theorem bt_any : bootBuiltins "any" = some (.builtin "any") := by decide +kernel
theorem bt_list : bootBuiltins "list" = some (.type "list") := by decide +kernel
theorem bt_tuple : bootBuiltins "tuple" = some (.type "tuple") := by decide +kernel
theorem bt_str : bootBuiltins "str" = some (.type "str") := by decide +kernel
section
variable {K : PySem.W.Frag} {M : WM K}
def eM1 (f : D → D → Option R) (ea eb : Ev M D) : Ev M R := fun ρ s => (ea ρ s).bind fun x => match x.1 with
  | .str z => (eb ρ x.2).bind fun y => op (f (.str z) y.1) y.2
  | _ => .bad
end
section
variable {X : Cx} {M : WM X.K} {W : WX} {a b : Expr} {pos : Pos} {ea eb : Ev M D}
theorem ev_starts2 {apos : Pos} (ho : PE X a (tD M X.mg W ea)) (he : PE X b (tD M X.mg W eb)) (hs : starEach [b] X.env = [(false, eval b X.env)] := by rfl) (hbase : attributeBase a "startswith" X.env (eval a X.env) = eval a X.env := by rfl) (hline : (apos.endLine == pos.line) = true := by rfl) :
    PE X (.Call (.Attribute a "startswith" apos) [b] [] pos) (tR M X.mg W (eM1 startsD ea eb)) := ev_starts ho he hs hbase hline
end
end VQ
namespace VQ
open PySem PySem.Spec PyProof.Rows L2 LamX
section
variable {P : Program} {w : World} {K : PySem.W.Frag} {mg : Str → Option Value} {base : Heap} {T : List (Addr × Str)} {I : IW K}
theorem law_okW {st : Stmt} {f fb : Addr} {fdb : FuncData} {k kb n : Nat} {oc kV doc pm cdv ct : Value} {od an : Option Addr} {osl : Array (Option Value)} {N : List Str} {x0 x1 : Str} {rest : List Stmt} {p1 p2 p3 p4 p5 : Pos} {ss : (b l : Addr) → Sv (bagW K b l T I)} (lk : K.lookup f = some ⟨oc, od, .func (PySem.W.fnOf "law" "law" (defArgs st) (defBody st) (defScope st) .none kV doc pm an cdv ct), osl⟩) (hcd : PySem.W.codeIn K cdv "law" = true) (S : FnScope N [x0] (defScope st)) (hn : N.length = n + 2) (h0 : N[0]? = some x0) (h1 : N[1]? = some x1)
    (hv0 : Vis (defScope st) x0) (hv1 : Loc (defScope st) x1) (hd0 : (x0 == ("__debug__" : Str)) = false) (hc0 : (x0 == ("__classdict__" : Str)) = false)
    (hg : (defScope st).names.lookup ("_law_bag" : Str) = some .globalImplicit) (hm : mg "_law_bag" = some (.ref fb)) (hk : PySem.W.keepIn K (.ref fb) = true) (hbb : L2.Binds K fdb ["_law_script"] []) (B : FnOk P w K mg base (L2.CX P w) kb fb fdb ["_law_script"] (spBag K)) (hkb : kb ≤ k)
    (hb : defBody st = .Assign [.Name x1 p1] (.Call (.Name "_law_bag" p2) [.Name x0 p3] [] p4) p5 :: rest)
    (hrest : ∀ (b l : Addr) (A : Around) (outer : List Env) (s : Shared) (H : Hp) (E : XK), Room k (A.deeper (envOfC "law" (defScope st) s.heap.objs.size f cdv)) → Takes (cxOf (L2.CX P w) P w K mg base N "law" (defScope st) f cdv A outer s H E) (fun cls d _ H => E cls d H) →
      PSs (cxOf (L2.CX P w) P w K mg base N "law" (defScope st) f cdv A outer s H E) rest (tS (bagW K b l T I) mg (fun cls d _ H => E cls d H) (ss b l)))
    {s0 : I.S} (hI : Begin I s0) (hpure : ∀ b l : Addr, Box ((ss b l (none :: some (.sh (.obj 0)) :: List.replicate n none) s0).all (fun r => r.1 = .rt (.sh (.bl true))) (fun _ => False))) : FnOk P w K mg base (L2.CX P w) (k + 1) f (PySem.W.fnOf "law" "law" (defArgs st) (defBody st) (defScope st) .none kV doc pm an cdv ct) [x0] (spLaw K T) :=
  law_ok lk hcd S hn h0 h1 hv0 hv1 hd0 hc0 hg hm hk hbb B hkb hb hrest hI fun b l => (hpure b l).out
end
end VQ
namespace VQ
open PySem PySem.Spec PyProof.Rows L2
open L2 (Inv)
def rRepT2 (K : PySem.W.Frag) : R2 := fun x y H Q => ∃ l k xs, x = .ref l ∧ y = .int k ∧ SqT K H l xs ∧ xs ≠ [] ∧ 2 ≤ k ∧ k ≤ 1000 ∧ xs.length ≤ 1000 ∧ Tup2 H (List.replicate k.toNat xs).flatten Q
theorem op_repT2 {X : Cx} : OpR X (binaryOp .Mult) (rRepT2 X.K) := by
  intro pins s σ H x y v u Q I rx ry h
  obtain ⟨l, k, xs, rfl, rfl, qT, nee, h1, h2, qz, q⟩ := h
  cases rx
  obtain ⟨t, rfl⟩ := ry
  obtain ⟨jts, r, ⟨⟨kls, od, data, sl⟩, qo, cq, n, dq⟩, sq⟩ := I.tuple qT
  simp only at cq dq
  subst cq dq
  have elh : jts.length = xs.length := r.length.symm
  have qn : jts ≠ [] := fun e => nee (by
    rw [e] at elh
    exact List.eq_nil_of_length_eq_zero elh.symm)
  have qi : jts.toArray.isEmpty = false := by
    cases jts with
    | nil => exact absurd rfl qn
    | cons a b => rfl
  have qs0 : jts.toArray.size = xs.length := by rw [List.size_toArray, elh]
  have mq : ((jts.toArray.size : Nat) : Int) * k ≤ 1000000 := by
    rw [qs0]
    have b1 : ((xs.length : Nat) : Int) * k ≤ 1000 * k := Int.mul_le_mul_of_nonneg_right (by omega) (by omega)
    omega
  have fln : (List.replicate k.toNat jts).flatten.length ≤ sizeLine := by
    rw [PyProof.Rows.lm_len_rep_flat, elh, sizeLine_eq]
    have b1 : k.toNat * xs.length ≤ 1000 * 1000 := Nat.mul_le_mul (by omega) qz
    omega
  have k0 : (decide (k < -(2 ^ 63)) || decide (k ≥ 2 ^ 63)) = false := by
    rw [decide_eq_false (by omega), decide_eq_false (by omega)] <;> rfl
  have k1 : (jts.toArray.isEmpty || k == 1) = false := by
    rw [qi, Bool.false_or]
    exact beq_eq_false_iff_ne.mpr (by omega)
  have k2 : (decide (k ≤ 0) || jts.toArray.isEmpty) = false := by
    rw [qi, Bool.or_false]
    exact decide_eq_false (by omega)
  have k4 : Builtin.Tuple.tupleTooMany (((jts.toArray.size : Nat) : Int) * k) = false := by
    unfold Builtin.Tuple.tupleTooMany
    rw [sizeLine_eq]
    exact decide_eq_false (by omega)
  refine wpAny_binaryOp_repeat_ref (T := "tuple") (U := "int") (by decide) ⟨_, qo, rfl⟩ (fun s' => typeIs_int s' k t) noFill_tuple_mul F.fills_int_mul F.slot_int_rmul repeat_tuple F.slot_int_index.lookup
    (call_meets F.slot_int_rmul (typeIs_int s k t) F.entry_int_rmul (F.args_int_rmul_2 _ _) (int_rmul_tuple k t l jts.toArray n od sl)
      ⟨qo, rfl, ⟨_, qo, rfl⟩, call_meets F.slot_tuple_mul ⟨_, qo, rfl⟩ F.entry_tuple_mul (F.args_tuple_mul_2 _ _) (tuple_mulW l jts.toArray n od sl k t k0 k1 k2 (by omega) k4 (by rw [size_rep, List.size_toArray]; exact fln)) ⟨qo, ?_⟩⟩)
  rw [size_rep]
  exact laid_t2 (k := s.toks) I (r.rep k.toNat) (by rw [PyProof.Rows.lm_len_rep_flat, sizeLine_eq]; have b1 : k.toNat * xs.length ≤ 1000 * 1000 := Nat.mul_le_mul (by omega) qz; omega) q
end VQ
namespace VQ
open PySem PySem.Spec PyProof.Rows L2
theorem tup_mul_self (l : Addr) (items : Array Value) (n : Nat) (dd : Option Addr) (sl : Array (Option Value)) (x : Int) (u : Tok) (c0 : (decide (x < -(2 ^ 63)) || decide (x ≥ 2 ^ 63)) = false) (c1 : (items.isEmpty || x == 1) = true) :
    Meets (Builtin.«tuple.__mul__» ⟨[.ref l, .int x u], []⟩) (fun _ R s => s.heap.get? l = some { cls := .type "tuple", dict := dd, data := .seq items n, slots := sl } ∧ R (.ok (.ret (Value.ref l))) s) := .of_wp fun prog w A R s h => by
  obtain ⟨hp, g, d, tk, os⟩ := s
  obtain ⟨hl, h⟩ := h
  have f1 := AutoSeq1.idx_int
  wp_walk using wpAny_loadPart' hl
  repeat (first
    | (refine wpAny_ite_false (decide_eq_false (by rw [c0]; exact Bool.false_ne_true)) ?_; wp_walk using wpAny_loadPart' hl)
    | (refine wpAny_ite_true (decide_eq_true (by rw [c1])) ?_; wp_walk using wpAny_loadPart' hl))
  exact ⟨_, rfl, h⟩
theorem tup_mul_none (l : Addr) (items : Array Value) (n : Nat) (dd : Option Addr) (sl : Array (Option Value)) (x : Int) (u : Tok) (c0 : (decide (x < -(2 ^ 63)) || decide (x ≥ 2 ^ 63)) = false) (c1 : (items.isEmpty || x == 1) = false) (c2 : (decide (x ≤ 0) || items.isEmpty) = true) :
    Meets (Builtin.«tuple.__mul__» ⟨[.ref l, .int x u], []⟩) (fun _ R s => s.heap.get? l = some { cls := .type "tuple", dict := dd, data := .seq items n, slots := sl } ∧
      R (.ok (.ret (Value.ref s.heap.objs.size))) { s with heap := s.heap.push { cls := Value.type "tuple", data := Data.seq #[] }, toks := s.toks }) := .of_wp fun prog w A R s h => by
  obtain ⟨hp, g, d, tk, os⟩ := s
  obtain ⟨hl, h⟩ := h
  have f1 := AutoSeq1.idx_int
  wp_walk using wpAny_loadPart' hl
  repeat (first
    | (refine wpAny_ite_false (decide_eq_false (by rw [c0]; exact Bool.false_ne_true)) ?_; wp_walk using wpAny_loadPart' hl)
    | (refine wpAny_ite_false (decide_eq_false (by rw [c1]; exact Bool.false_ne_true)) ?_; wp_walk using wpAny_loadPart' hl)
    | (refine wpAny_ite_true (decide_eq_true (by rw [c2])) ?_; wp_walk using wpAny_loadPart' hl))
  exact ⟨_, rfl, h⟩
def rRepA (K : PySem.W.Frag) : R2 := fun x y H Q => ∃ l k xs, x = .ref l ∧ y = .int k ∧ SqT K H l xs ∧ k ≤ 1000 ∧ -1000 ≤ k ∧ xs.length ≤ 1000 ∧ (xs = [] ∨ k = 1 → Q x H) ∧ (xs ≠ [] → k ≠ 1 → Tup2 H (List.replicate k.toNat xs).flatten Q)
theorem op_repA {X : Cx} : OpR X (binaryOp .Mult) (rRepA X.K) := by
  intro pins s σ H x y v u Q I rx ry h
  obtain ⟨l, k, xs, rfl, rfl, hT, hk1, hk2, hz, q1, q2⟩ := h
  by_cases hb : xs ≠ [] ∧ 2 ≤ k
  · exact op_repT2 pins s σ H (.ref l) (.int k) v u Q I rx ry ⟨l, k, xs, rfl, rfl, hT, hb.1, hb.2, hk1, hz, q2 hb.1 (by omega)⟩
  · cases rx
    obtain ⟨t, rfl⟩ := ry
    obtain ⟨its, r, ⟨⟨cls, dd, data, sl⟩, ho, hc, n, hd⟩, hs⟩ := I.tuple hT
    simp only at hc hd
    subst hc hd
    have hle : its.length = xs.length := r.length.symm
    have c0 : (decide (k < -(2 ^ 63)) || decide (k ≥ 2 ^ 63)) = false := by
      simp only [Bool.or_eq_false_iff, decide_eq_false_iff_not]
      omega
    have he : its.toArray.isEmpty = decide (xs = []) := by
      cases its with
      | nil =>
        have : xs = [] := List.eq_nil_of_length_eq_zero hle.symm
        simp [this]
      | cons a b =>
        have : xs ≠ [] := fun e => by rw [e] at hle; simp at hle
        simp [this]
    by_cases hz1 : xs = [] ∨ k = 1
    · have c1 : (its.toArray.isEmpty || k == 1) = true := by
        rw [he]
        rcases hz1 with z | z
        · simp [z]
        · simp [z]
      refine wpAny_binaryOp_repeat_ref (T := "tuple") (U := "int") (by decide) ⟨_, ho, rfl⟩ (fun s' => typeIs_int s' k t) noFill_tuple_mul F.fills_int_mul F.slot_int_rmul repeat_tuple F.slot_int_index.lookup
        (call_meets F.slot_int_rmul (typeIs_int s k t) F.entry_int_rmul (F.args_int_rmul_2 _ _) (int_rmul_tuple k t l its.toArray n dd sl)
          ⟨ho, rfl, ⟨_, ho, rfl⟩, call_meets F.slot_tuple_mul ⟨_, ho, rfl⟩ F.entry_tuple_mul (F.args_tuple_mul_2 _ _) (tup_mul_self l its.toArray n dd sl k t c0 c1) ⟨ho, ?_⟩⟩)
      exact ⟨.ref l, H, I, rfl, q1 hz1⟩
    · have hne : xs ≠ [] := fun z => hz1 (.inl z)
      have hk3 : k ≠ 1 := fun z => hz1 (.inr z)
      have hk4 : k ≤ 0 := by
        rcases Classical.em (2 ≤ k) with z | z
        · exact absurd ⟨hne, z⟩ hb
        · omega
      have c1 : (its.toArray.isEmpty || k == 1) = false := by
        rw [he]
        simp [hne, hk3]
      have c2 : (decide (k ≤ 0) || its.toArray.isEmpty) = true := by simp [hk4]
      have e0 : (List.replicate k.toNat xs).flatten = [] := by
        rw [show k.toNat = 0 by omega]; rfl
      rw [e0] at q2
      refine wpAny_binaryOp_repeat_ref (T := "tuple") (U := "int") (by decide) ⟨_, ho, rfl⟩ (fun s' => typeIs_int s' k t) noFill_tuple_mul F.fills_int_mul F.slot_int_rmul repeat_tuple F.slot_int_index.lookup
        (call_meets F.slot_int_rmul (typeIs_int s k t) F.entry_int_rmul (F.args_int_rmul_2 _ _) (int_rmul_tuple k t l its.toArray n dd sl)
          ⟨ho, rfl, ⟨_, ho, rfl⟩, call_meets F.slot_tuple_mul ⟨_, ho, rfl⟩ F.entry_tuple_mul (F.args_tuple_mul_2 _ _) (tup_mul_none l its.toArray n dd sl k t c0 c1 c2) ⟨ho, ?_⟩⟩)
      exact laid_t2 (k := s.toks) (vs := []) (us := []) I .nil (by show 0 ≤ sizeLine; omega) (q2 hne hk3)
section
variable {K : PySem.W.Frag} {M : WM K}
noncomputable def mulD : D → D → Option R
  | .int i, .int j => if i.natAbs.log2 + j.natAbs.log2 < 1000000 then some (.sh (.int (i * j))) else none
  | .lst l, .int k => if -lk 1000 ≤ k ∧ k ≤ lk 1000 ∧ l.length ≤ 1000 then some (.fr (.lst (List.replicate k.toNat l).flatten)) else none
  | .tup l, .int k => if -lk 1000 ≤ k ∧ k ≤ lk 1000 ∧ l.length ≤ 1000 then some (.sh (.tup (List.replicate k.toNat l).flatten)) else none
  | _, _ => none
def rMulD (K : PySem.W.Frag) : R2 := fun x y H Q => rI CMulW (fun i j => .int (i * j)) x y H Q ∨ rRep x y H Q ∨ rRepA K x y H Q
theorem or_mul {X : Cx} : OpR X (binaryOp .Mult) (rMulD X.K) := op_mulW.or (op_rep.or op_repA)
theorem den_rep {ad : Nat → Option Addr} {Hv : Hp} {l : List D} {vs : List V} (h : DenL K ad Hv l vs) (k : Nat) : DenL K ad Hv (List.replicate k l).flatten (List.replicate k vs).flatten := DenL.replicate h k
theorem od_mul : OpD M mulD (rMulD K) := fun p x y d e res Q ok hx hy hf q => by
  cases d <;> cases e <;> first | (simp only [mulD] at hf; done) | skip
  all_goals try (simp only [mulD] at hf; cases hf; done)
  · cases hx; cases hy
    simp only [mulD] at hf
    split at hf
    · rename_i hc
      cases hf
      exact .inl ⟨_, _, rfl, rfl, hc, fin_sh ok q rfl⟩
    · cases hf
  · rename_i l k
    obtain ⟨a, vs, rfl, h1, h2, n2⟩ := hx
    cases hy
    simp only [mulD] at hf
    split at hf
    · rename_i hc
      rw [lk_eq] at hc
      cases hf
      have hl := h2.length
      refine .inr (.inr ⟨a, k, vs, rfl, rfl, sqT_H ok h1, hc.2.1, hc.1, by rw [hl]; exact hc.2.2, fun z => ?_, fun _ _ => fin_tup ok q (den_rep h2 _)⟩)
      rcases z with z | z
      · subst z
        have : l = [] := List.eq_nil_of_length_eq_zero hl.symm
        subst this
        have e0 : (List.replicate k.toNat ([] : List D)).flatten = [] := by simp
        rw [e0] at q
        exact fin_sh ok q ⟨a, [], rfl, h1, h2, n2⟩
      · subst z
        have e0 : (List.replicate (1 : Int).toNat l).flatten = l := by simp
        rw [e0] at q
        exact fin_sh ok q ⟨a, vs, rfl, h1, h2, n2⟩
    · cases hf
  · rename_i l k
    obtain ⟨a, vs, rfl, h1, h2⟩ := hx
    cases hy
    simp only [mulD] at hf
    split at hf
    · rename_i hc
      rw [lk_eq] at hc
      cases hf
      have hl := h2.length
      refine .inr (.inl ⟨a, k, vs, rfl, rfl, ok.view _ _ h1, by omega, by omega, ?_, fun b hb => fin_lst ok q (den_rep h2 _) hb⟩)
      rw [hl, sizeLine_eq]
      have a1 : l.length * k.toNat ≤ 1000 * 1000 := Nat.mul_le_mul hc.2.2 (by omega)
      omega
    · cases hf
theorem mul_small {i j : Int} (h1 : small i = true) (h2 : small j = true) : i.natAbs.log2 + j.natAbs.log2 < 1000000 := by
  obtain ⟨a1, a2⟩ := small_ok h1
  obtain ⟨b1, b2⟩ := small_ok h2
  have lg : ∀ n : Nat, n < 2 ^ 64 → n.log2 < 65 := fun n hn => by
    by_cases z : n = 0
    · subst z; decide
    · exact Nat.lt_trans ((Nat.log2_lt z).mpr hn) (by decide)
  have := lg i.natAbs (by omega)
  have := lg j.natAbs (by omega)
  omega
def intD : List D → Option R
  | [.int i] => some (.sh (.int i))
  | [.bl b] => some (.sh (.int (if b then 1 else 0)))
  | [.str [c]] => if 48 ≤ c ∧ c < 58 then some (.sh (.int ((c : Int) - 48))) else none
  | _ => none
theorem int_sign (c : Nat) (h1 : 48 ≤ c) (h2 : c < 58) : PySem.intText? ⟨#[c]⟩ = some ((c : Int) - 48) := by
  have : c = 48 ∨ c = 49 ∨ c = 50 ∨ c = 51 ∨ c = 52 ∨ c = 53 ∨ c = 54 ∨ c = 55 ∨ c = 56 ∨ c = 57 := by omega
  rcases this with h | h | h | h | h | h | h | h | h | h <;> subst h <;> decide +kernel
def rIntD : List V → Hp → VK → Prop := fun xs H Q => ((∃ i, xs = [.int i] ∧ Q (.int i) H) ∨ ∃ k, xs = [.bl k] ∧ Q (.int (if k then 1 else 0)) H) ∨ ∃ a n, xs = [.str a] ∧ PySem.intText? a = some n ∧ a.length ≤ 640 ∧ Q (.int n) H
theorem call_intD {X : Cx} : CallR X (.type "int") rIntD := call_int1.or call_int_str
theorem cd_int : CallD M intD rIntD := fun p xs ds res Q ok hx hf q => by
  match ds, hf with
  | [.int i], hf =>
    obtain ⟨v, r, rfl, h1, h2⟩ := hx
    cases h1; cases h2; cases hf
    exact .inl (.inl ⟨_, rfl, fin_sh ok q rfl⟩)
  | [.bl b], hf =>
    obtain ⟨v, r, rfl, h1, h2⟩ := hx
    cases h1; cases h2; cases hf
    exact .inl (.inr ⟨_, rfl, fin_sh ok q rfl⟩)
  | [.str [c]], hf =>
    obtain ⟨v, r, rfl, h1, h2⟩ := hx
    cases h1; cases h2
    simp only [intD] at hf
    split at hf
    · rename_i hc
      cases hf
      exact .inr ⟨_, _, rfl, int_sign c hc.1 hc.2, by show [c].toArray.size ≤ 640; simp, fin_sh ok q rfl⟩
    · cases hf
def insI (x : Int) : List Int → List Int
  | [] => [x]
  | y :: r => if x ≤ y then x :: y :: r else y :: insI x r
def sortI : List Int → List Int
  | [] => []
  | x :: r => insI x (sortI r)
end
section
variable {X : Cx} {M : WM X.K} {W : WX} {e a b : Expr} {pos : Pos} {ea eb : Ev M D} {er er2 : Ev M R} {m : List Nat}
def sAppend {K : PySem.W.Frag} {M : WM K} (i : Nat) (m : List Nat) (ee : Ev M D) : Sv M := fun ρ s => match ρ[i]? with
  | some (some (.ow (.lst _))) => (inF m ee ρ s).bind fun r => match (behind M m (flat r.1) r.2 ρ)[i]? with
    | some (some (.ow (.lst l))) => if l.length < big then .ret (.nx ((behind M m (flat r.1) r.2 ρ).set i (some (.ow (.lst (l ++ [r.1]))))), r.2) else .bad
    | _ => .bad
  | _ => .bad
end
section
variable {X : Cx} {M : WM X.K} {W : WX} {en : Pt M} {e a b : Expr} {pos : Pos} {ea eb : Ev M D} {er er2 : Ev M R} {m : List Nat}
theorem un65 {k : Nat} {A : Around} (hr : Room k A) : A.units + 65 < cLine := by have := hr.un; omega
theorem opn0 (p : Pt M) (ρ : Nv) (σ : Sl) : p.opn ρ σ [] = p := by
  obtain ⟨s, F, Hv, H⟩ := p
  unfold Pt.opn
  congr 1
  funext b
  have : ¬ OwnAt ρ σ [] b := fun ⟨i, d, h, _⟩ => by cases h
  simp [this]
def sPar {K : PySem.W.Frag} {M : WM K} (i j : Nat) (ea eb : Ev M R) : Sv M := fun ρ s => (inF [] ea ρ s).bind fun r => (inF [] eb ρ r.2).bind fun t => if i < ρ.length ∧ j < ρ.length then .ret (.nx ((ρ.set i (some r.1.vv)).set j (some t.1.vv)), t.2) else .bad
theorem ss_par (i j : Nat) {x y : Str} {px py pt : Pos} {kt k2 pt2} (hN : X.N.Nodup) (ha : PE X a (tR M X.mg W er)) (hb : PE X b (tR M X.mg W er2)) (hc : X.calm = true := by rfl) (hi : X.N[i]? = some x := by rfl) (hj : X.N[j]? = some y := by rfl) (hij : i ≠ j := by decide)
    (hx : X.env.scope.names.lookup x = some .local := by rfl) (hy : X.env.scope.names.lookup y = some .local := by rfl) (hs1 : starEach [a, b] X.env = (false, eval a X.env) :: starEach [b] X.env := by rfl) (hs2 : starEach [b] X.env = (false, eval b X.env) :: starEach [] X.env := by rfl)
    (hw : swappedStores [.Tuple [.Name x px, .Name y py] kt pt] (.Tuple [a, b] k2 pt2) X.env = pure (some [x, y]) := by rfl)
    (hs : swapsWithSole [.Tuple [.Name x px, .Name y py] kt pt] (.Tuple [a, b] k2 pt2) pos.line X.env = pure false := by rfl) :
    PS X (.Assign [.Tuple [.Name x px, .Name y py] kt pt] (.Tuple [a, b] k2 pt2) pos) (tS M X.mg W (sPar i j er er2)) := (ps_par hc hN hi hj hij hx hy (pa_cons ha (pa_cons hb pa_nil hs2) hs1) hw hs).con fun Dd σ H ⟨en, ρ, p, hH, rl, q⟩ => by
  subst hH
  show tR M X.mg W er σ p.H fun v H1 => tR M X.mg W er2 σ H1 fun w H2 => ∃ v' w', [v, w] = [v', w'] ∧ Dd.nx ((σ.set i (some v')).set j (some w')) H2
  refine inF_D rl q fun r v q1 ex ok es rk hr => ?_
  rw [opn0] at ex rk
  have rl1 : Rel en ρ σ q1 := by
    have := frz_rel (m := []) rl (by rw [opn0]; exact ex) ok
    rwa [frz_nil] at this
  rw [← es] at hr
  refine inF_D rl1 hr fun t w q3 ex3 ok3 es3 rk3 ht => ?_
  rw [opn0] at ex3 rk3
  have rl3 : Rel en ρ σ q3 := by
    have := frz_rel (m := []) rl1 (by rw [opn0]; exact ex3) ok3
    rwa [frz_nil] at this
  refine ⟨v, w, rfl, ?_⟩
  split at ht
  · rename_i hc
    have rkv : ROk en q3 r.1 v := ROk.tr rl.ext (ex.trans ex3) (ROk.stay ex ex3 rk)
    have rkw : ROk en q3 t.1 w := ROk.tr (rl.ext.trans ex) ex3 rk3
    have apO : ∀ {p0 q0 : Pt M} {x : R} {u : V}, Rel en ρ σ p0 → ROk p0 q0 x u → ∀ a, u = .ref a → (∃ d, x = .fr d) → ∀ (k : Nat) d, ρ[k]? = some (some (.ow d)) → σ[k]? ≠ some (some (.ref a)) := fun {p0 q0 x u} rl0 rk0 a hu ⟨d, hx⟩ k d' hk hs => by
      subst hx
      obtain ⟨a', o, e1, e2, e3, e4, e5, e6⟩ := rk0
      rw [hu] at e1; cases e1
      obtain ⟨a2, o2, h1, h2, h3, h4, _⟩ := rl0.ow k d' hk
      rw [hs] at h1; cases h1
      rcases e5 with z | z
      · rw [h2] at z; cases z
      · exact h4 z
    have s1 := set_rel rl3 rkv (apO rl rk) i hc.1
    have s2 := set_rel s1 rkw (fun a hu hx k d hk => ?_) j (by rw [List.length_set]; exact hc.2)
    · exact ht _ q3 s2 es3
    · by_cases hik : i = k
      · subst hik
        rw [List.getElem?_set_self hc.1] at hk
        rw [List.getElem?_set_self (by rw [rl3.len]; exact hc.1)]
        intro hv
        cases hv
        obtain ⟨d2, hx⟩ := hx
        rw [hx] at rk3
        obtain ⟨a', o, e1, e2, e3, e4, e5, e6⟩ := rk3
        rw [hu] at e1; cases e1
        cases hr1 : r.1 with
        | sh d3 => rw [hr1] at hk; cases hk
        | fr d3 =>
          rw [hr1] at rk
          obtain ⟨a3, o3, f1, f2, f3, f4, f5, f6⟩ := rk
          cases f1
          rcases e5 with z | z
          · rw [f2] at z; cases z
          · exact f4 z
      · rw [List.getElem?_set_ne hik] at hk ⊢
        exact apO rl1 rk3 a hu hx k d hk
  · exact ht.elim
def sAug {K : PySem.W.Frag} {M : WM K} (f : Int → Int → Int) (i : Nat) (ee : Ev M D) : Sv M := fun ρ s => match ρ[i]? with
  | some (some (.sh (.int n))) => (inF [] ee ρ s).bind fun r => match r.1 with
    | .int k => .ret (.nx (ρ.set i (some (.sh (.int (f n k))))), r.2)
    | _ => .bad
  | _ => .bad
theorem tR_seen {σ : Sl} {H : Hp} {Q : V → Hp → Prop} (h : tD M X.mg W (eSeen er) σ H Q) : tR M X.mg W er σ H Q := by
  obtain ⟨ρ, p, hH, ok, en, q⟩ := h
  subst hH
  refine tG.seq ok en q fun r v q' ex ok' es rk hq => ?_
  obtain ⟨q2, e2, ok2, hH, hs, dn⟩ := rk.seen ex ok'
  rw [← hH]
  exact hq v q2 e2 ok2 (hs.trans es) dn
theorem tR_sh {σ : Sl} {H : Hp} {Q : V → Hp → Prop} (h : tR M X.mg W (eSh ea) σ H Q) : tD M X.mg W ea σ H Q := by
  obtain ⟨ρ, p, hH, ok, en, q⟩ := h
  subst hH
  exact tG.seq ok en q fun r v q' ex ok' es rk hq => hq v q' ex ok' es rk
theorem ss_setT (i : Nat) (m : List Nat) {x : Str} {pos' : Pos} {te : TE} (hp : PS X (.Assign [.Name x pos'] e pos) (tAsg te (gName i))) (ht : ∀ σ H Q, tR M X.mg W er σ H Q → te σ H Q) :
    PS X (.Assign [.Name x pos'] e pos) (tS M X.mg W (sSet i m er)) := hp.con fun Dd σ H ⟨en, ρ, p, hH, rl, q⟩ => by
  subst hH
  refine ht σ p.H (fun x H1 => Dd.nx (σ.set i (some x)) H1) ?_
  refine inF_D rl q fun r v q1 e ok es rk hr => ?_
  obtain ⟨q2, eH, eS, rl2, rk2, ap⟩ := behind_ok rl e ok rk
  split at hr
  · rename_i hi
    rw [← eH]
    rw [← es] at hr
    refine hr (σ.set i (some v)) q2 (set_rel rl2 rk2 (fun a ha hd j d hj => ap a ha hd j d (behind_own hj)) i (by rw [behind_len]; exact hi)) eS
  · exact hr.elim
def LcP (X : Cx) (M : WM X.K) (W : WX) (e : Expr) (er : Ev M R) : Prop := ∀ (i : Nat) (m : List Nat) (y : Str) (py spos : Pos), X.N[i]? = some y → X.env.scope.names.lookup y = some .local →
  swapsWith e (some (.Name y py)) spos.line X.env = pure true → PS X (.Assign [.Name y py] e spos) (tS M X.mg W (sSet i m er))
theorem lcp_lcS (own : List (Str × Nat)) {ei : Ev M (List D)} {iter tg elt : Expr} {ifs : List Expr} {scope : Scope} {g : D → Dv → Option Dv} {et : Ev M Bool} (hc : X.calm = true) (hN : X.N.Nodup) (hi : PI X tg iter (tIt M W ei)) (ok : BlkOk X.N X.env.scope scope own)
    (hg : ∀ (s : Shared) (H : Hp) (C : Addr) (cl : List (Str × Addr)) (fp : List Addr), PG (X.blk s H scope (compEnvC scope cl C X.env) fp) tg (tGd M (own.map (·.2)) g))
    (ht : ∀ (s : Shared) (H : Hp) (C : Addr) (cl : List (Str × Addr)) (fp : List Addr), PTs (X.blk s H scope (compEnvC scope cl C X.env) fp) ifs (tB' M X.mg W0 et))
    (he : ∀ (s : Shared) (H : Hp) (C : Addr) (cl : List (Str × Addr)) (fp : List Addr), PE (X.blk s H scope (compEnvC scope cl C X.env) fp) elt (tD M X.mg W0 ea)) (hs : ∀ x, foldedSetIterable iter X.env x = pure x := by intro _; rfl)
    : LcP X M W (.ListComp elt [⟨tg, iter, ifs, 0⟩] scope pos) (eSh (eSeen (eLc (own.map (·.2)) ei g et ea))) := fun i m _ _ _ hy hyl hsw => ss_setT i m (ps_setLc hc hN hy hyl hsw hi ok hg ht he hs) fun _ _ _ h => tLc_of (tR_seen (tR_sh h))
theorem ss_setLc (i : Nat) (m : List Nat) {y : Str} {py spos : Pos} (h : LcP X M W e er) (hy : X.N[i]? = some y := by rfl) (hyl : X.env.scope.names.lookup y = some .local := by rfl)
    (hsw : swapsWith e (some (.Name y py)) spos.line X.env = pure true := by exact L2.sw_true rfl rfl (by decide) (by decide)) : PS X (.Assign [.Name y py] e spos) (tS M X.mg W (sSet i m er)) := h i m _ _ _ hy hyl hsw
end
def iAny (K : PySem.W.Frag) (te : TE) : TI := fun σ H R => te σ H fun x H1 => (∃ a, x = .ref a ∧ (∃ xs, SqL K H1 a xs) ∧ R (Itl K a) H1) ∨ (∃ a, x = .ref a ∧ (∃ xs, SqT K H1 a xs) ∧ R (Itt K a) H1) ∨ ∃ t, x = .str t ∧ R (Its t) H1
section
variable {X : Cx} {M : WM X.K} {W : WX} {tg e : Expr} {te : TE} {ea : Ev M D}
theorem pi_any (he : PE X e te) : PI X tg e (iAny X.K te) := ⟨fun pins s σ H R I h => thn (he.run pins s σ H _ I h) fun v s1 ⟨x, H1, I1, r1, q1⟩ => by
  rcases q1 with ⟨a, rfl, ⟨xs, hq⟩, q⟩ | ⟨a, rfl, ⟨xs, hq⟩, q⟩ | ⟨t, rfl, q⟩
  · cases r1
    obtain ⟨its, rv, p, _⟩ := I1.list hq
    exact wpAny_pyIter_list p.isList (pi_one (tk := s1.toks) I1 _ (turn_list a _) ⟨_, Heap.get?_push_size _ rfl, rfl, rfl⟩ q)
  · cases r1
    obtain ⟨its, rv, p, _⟩ := I1.tuple hq
    exact wpAny_pyIter_tuple (show s1.heap.IsTuple a its.toArray from p) (pi_one (tk := s1.toks) I1 _ (turn_tuple a _) ⟨_, Heap.get?_push_size _ rfl, rfl, rfl⟩ q)
  · obtain ⟨u, rfl⟩ := r1
    by_cases hw : t.cps.all (· < 128) = true
    · exact wpAny_pyIter_ascii hw (pi_one (tk := s1.toks) I1 _ (turn_str _ t u "str_ascii_iterator" (.inl rfl)) ⟨_, Heap.get?_push_size _ rfl, rfl, rfl⟩ q)
    · exact wpAny_pyIter_wide (by simpa using hw) (pi_one (tk := s1.toks) I1 _ (turn_str _ t u "str_iterator" (.inr rfl)) ⟨_, Heap.get?_push_size _ rfl, rfl, rfl⟩ q)⟩
def anyOf : D → Option (List D)
  | .lst l => some l
  | .tup l => some l
  | .str s => some (s.map fun c => .str [c])
  | _ => none
theorem sv_str {q : Pt M} (s : List Nat) : Serves (Its ⟨s.toArray⟩) (s.map fun c => D.str [c]) q := fun H' sm => ⟨fun i hi => by
  show (s.toArray).size ≤ i
  simpa using Nat.le_of_eq hi, fun i y hy => by
  rw [List.getElem?_map] at hy
  cases z : s[i]? with
  | none => rw [z] at hy; cases hy
  | some c =>
    rw [z] at hy; cases hy
    have hi : i < s.length := (List.getElem?_eq_some_iff.mp z).1
    refine ⟨by show i < (s.toArray).size; simpa using hi, fun x H2 ⟨e, c', h1, h2⟩ => .inl ⟨e, ?_⟩⟩
    have h1 : s.toArray[i]? = some c' := h1
    rw [List.getElem?_toArray, z] at h1; cases h1
    rw [h2]; rfl⟩
theorem it_any (ha : PE X e (tD M X.mg W ea)) : PI X tg e (tIt M W (eItems anyOf ea)) := it_of (pi_any ha) fun h => by
  obtain ⟨ρ, p, hH, ok, en, q⟩ := h
  refine ⟨ρ, p, hH, ok, en, G.all_mono (fun r hr v q e ok es dn => ?_) (fun _ h => h) q⟩
  obtain ⟨q', d, l, eH, ok', dx, hf, hJ⟩ := hr v q e ok es dn
  cases d <;> first | (cases hf; done) | skip
  · cases hf
    cases dx
    exact .inr (.inr ⟨_, rfl, hJ _ (sv_str _)⟩)
  · cases hf
    obtain ⟨a, vs, rfl, h1, h2, _⟩ := dx
    exact .inr (.inl ⟨a, rfl, ⟨vs, by rw [← eH]; exact sqT_H ok' h1⟩, hJ _ (sv_tup h1 h2)⟩)
  · cases hf
    obtain ⟨a, vs, rfl, h1, h2⟩ := dx
    exact .inl ⟨a, rfl, ⟨vs, SqL.of (by rw [← eH]; exact ok'.view _ _ h1)⟩, hJ _ (sv_list h1 h2)⟩
end
end VQ
namespace VQ
open PySem PySem.Spec PyProof.Rows L2 VK
namespace G
variable {ε ε' ε'' α β γ : Type}
theorem bind_draw (n : Nat) (k : Nat → G ε α) (f : α → G ε β) : (G.draw n k).bind f = G.draw n fun r => (k r).bind f := rfl
theorem exs_draw (n : Nat) (k : Nat → G ε α) (f : ε → ε') : (G.draw n k).exs f = G.draw n fun r => (k r).exs f := rfl
@[simp] theorem exs_ret (a : α) (f : ε → ε') : (ret a : G ε α).exs f = ret a := rfl
@[simp] theorem exs_exc (e : ε) (f : ε → ε') : (exc e : G ε α).exs f = exc (f e) := rfl
theorem exs_bind (g : ε → ε') (f : α → G ε β) : ∀ m : G ε α, (m.bind f).exs g = (m.exs g).bind fun a => (f a).exs g
  | ret _ => rfl
  | exc _ => rfl
  | bad => rfl
  | draw n k => congrArg (draw n) (funext fun r => exs_bind g f (k r))
theorem exs_exs (g : ε → ε') (h : ε' → ε'') : ∀ m : G ε α, (m.exs g).exs h = m.exs fun e => h (g e)
  | ret _ => rfl
  | exc _ => rfl
  | bad => rfl
  | draw n k => congrArg (draw n) (funext fun r => exs_exs g h (k r))
end G
namespace Al
variable {ε ε' α β : Type} {P : α → Prop} {E : ε → Prop}
theorem catch_ {m : G ε α} {f : ε → G ε' α} {E : ε' → Prop} (h : Al m P (fun e => Al (f e) P E)) : Al (m.catch_ f) P E := ⟨G.all_catch.mpr (G.all_mono (fun _ h => h) (fun _ h => h.out) h.out)⟩
theorem to {m : G ε α} {P' : α → Prop} (h : Al m P E) (hP : ∀ a, P a → P' a) : Al m P' E := h.mono hP fun _ h => h
theorem bto0 {m : G ε α} {f : α → G ε β} {Q : β → Prop} (h : Al m P (fun _ => False)) (hP : ∀ a, P a → Al (f a) Q E) : Al (m.bind f) Q E := .bind (h.mono hP fun _ h => h.elim)
theorem btox {m : G ε α} {g : ε → ε'} {f : α → G ε' β} {Q : β → Prop} {E : ε' → Prop} (h : Al m P (fun _ => False)) (hP : ∀ a, P a → Al (f a) Q E) : Al ((m.exs g).bind f) Q E := .bind (.exs (h.mono hP fun _ h => h.elim))
theorem noX {m : G ε α} {E' : ε' → Prop} (h : Al m P (fun _ => False)) : Al (m.noX : G ε' α) P E' := ⟨by
  have aux : ∀ {m : G ε α}, m.all P (fun _ => False) → (m.noX : G ε' α).all P E' := by
    intro m
    induction m with
    | ret a => exact fun h => h
    | exc e => exact fun h => h.elim
    | bad => exact fun h => h
    | draw n k ih => exact fun h => ⟨h.1, fun r hr => ih r (h.2 r hr)⟩
  exact aux h.out⟩
theorem bnoX {m : G ε α} {f : α → G ε' β} {Q : β → Prop} {E : ε' → Prop} (h : Al m P (fun _ => False)) (hP : ∀ a, P a → Al (f a) Q E) : Al ((m.noX : G ε' α).bind f) Q E := .bind ((noX h).to hP)
end Al
section
variable {K : PySem.W.Frag} {M : WM K} {a b : Sv M} {ρ : Nv} {s : M.S} {P : Fl × M.S → Prop} {E : Xs M → Prop} {er : Ev M R} {ea : Ev M D} {c : Ev M Bool} {i : Nat}
theorem al_seq (h : Al (a ρ s) (fun f => Al (sThen b f) P E) E) : Al (sSeq a b ρ s) P E := .bind h
theorem for_eq {ei : Ev M (List D)} {g : D → Nv → Option Nv} {body : Sv M} {ds : List D} {s' : M.S} (he : ei (view [] ρ) s = .ret (ds, s')) : sFor [] ei g body ρ s = loopG g body ds ρ s' := by
  unfold sFor inF
  rw [he, frz_nil]; rfl
theorem lc_al {g : D → Dv → Option Dv} {ee : Ev M D} {ρ : Dv} {Ex : Exc × M.S → Prop} (T : D → D → Prop) (J : M.S → Prop) : ∀ {ds acc : List D} {s : M.S}, J s → (∀ d ∈ ds, ∀ s, J s → ∃ ρ1, g d ρ = some ρ1 ∧ Al (ee ρ1 s) (fun r => T d r.1 ∧ J r.2) (fun _ => False)) → acc.length + ds.length ≤ big → Al (lcG g eYes ee ρ ds acc s) (fun r => ∃ ys, r.1 = .fr (.lst (acc ++ ys)) ∧ All2 T ds ys ∧ J r.2) Ex
  | [], acc, s, hj, _, _ => .ret ⟨[], by simp, .nil, hj⟩
  | d :: ds, acc, s, hj, h, hl => by
    obtain ⟨ρ1, e1, e2⟩ := h d (List.mem_cons_self ..) s hj
    unfold lcG
    rw [e1]
    show Al ((ee ρ1 s).noX.bind _) _ _
    simp only [List.length_cons] at hl
    refine Al.bnoX e2 fun y hy => ?_
    show Al (if acc.length < big then lcG g eYes ee ρ ds (acc ++ [y.1]) y.2 else .bad) _ _
    rw [if_pos (by omega)]
    refine (lc_al T J hy.2 (fun d hd => h d (List.mem_cons_of_mem _ hd)) (by simp; omega)).to fun r hr => ?_
    obtain ⟨ys, h1, h2, h3⟩ := hr
    exact ⟨y.1 :: ys, by rw [h1]; simp, .cons hy.1 h2, h3⟩
def PullOk (pull : Dfs M) : Prop := ∀ (n : Nat), 0 < n → n ≤ 1000000 → ∀ s, pull [.obj 0, .int n] s = .draw n fun r => .ret (.sh (.int (r : Nat)), s)
end
theorem pull_bag {K : PySem.W.Frag} {b l : PySem.Addr} {T : List (PySem.Addr × PySem.Str)} {I : IW K} : PullOk (M := bagW K b l T I) pullS := fun n h h2 s => by
  show (if 0 < (n : Int) ∧ (n : Int) < 1073741824 then (.draw (n : Int).toNat fun r => .ret (.sh (.int (r : Nat)), s) : G (Exc × I.S) (R × I.S)) else .bad) = _
  rw [if_pos ⟨by omega, by omega⟩]
  rfl
end VQ
namespace ZS
open PySem PySem.Spec PyProof.Rows
abbrev IsZs (h : Heap) (z TI TO : Addr) (f0 : Value) : Prop := h.get? z = some { cls := .type "zip", dict := none, data := .fields #[f0, .bool false, .bool true, .ref TI, .ref TO], slots := #[] }
section
variable {prog : Program} {w : World} {A : Around} {E : Value → Shared → Prop} {s : Shared}
theorem stop_raised {α : Type} {Q : α → Shared → Prop} (hh : A.handled = none) (hE : ∀ h' e, (∀ c o, s.heap.get? c = some o → h'.get? c = some o) → (∃ o, h'.get? e = some o ∧ o.cls = .type "StopIteration") → E (.ref e) { s with heap := h' }) :
    wpAny (model prog w) A (Builtin.SmallTypes.stopIteration : Sem α) Q E s := by
  unfold Builtin.SmallTypes.stopIteration
  refine wpAny_bind ?_
  simp only [newExc, newTuple]
  refine wpAny_bind (wpAny_newObj_type ?_ (by size_fits))
  refine wpAny_bind (m := firstArgMember _ _) (wpAny_of_eq (a := Value.none) (by first | rfl | (simp only [firstArgMember]; rfl)) ?_)
  refine wpAny_newObj_type ?_ (by size_fits)
  simp only [raiseNew]
  refine wpAny_bind (wpAny_handled ?_)
  rw [hh]
  exact wpAny_bind (wpAny_pure (wpAny_throw (hE _ _ (fun c o x => Heap.get?_push_of_some _ (Heap.get?_push_of_some _ x)) ⟨_, Heap.get?_push_size _ rfl, rfl⟩)))
theorem noe_item {it : Addr} {fp : List Addr} {n i : Nat} {P : Nat → Value → Prop} {St : Nat → Heap → Prop} {Q : Option Value → Shared → Prop} (D : Draws prog w A it fp n P St) (hi : i < n) (st : St i s.heap)
    (h : ∀ x h' tk, P i x → St (i + 1) h' → Heap.SameBut it s.heap h' → Q (some x) { s with heap := h', toks := tk }) : wpAny (model prog w) A (Builtin.SmallTypes.nextOrEnd (.ref it)) Q E s :=
  wpAny_bind (wpAny_attempt (D.item i s _ _ hi st fun x h' tk hP st' sb => wpAny_pure (h x h' tk hP st' sb)))
theorem noe_end {it : Addr} {fp : List Addr} {n : Nat} {P : Nat → Value → Prop} {St : Nat → Heap → Prop} {Q : Option Value → Shared → Prop} (D : Draws prog w A it fp n P St) (st : St n s.heap)
    (h : ∀ h', Heap.ExtBut it s.heap h' → Q none { s with heap := h' }) : wpAny (model prog w) A (Builtin.SmallTypes.nextOrEnd (.ref it)) Q E s :=
  wpAny_bind (wpAny_attempt (D.done s _ _ st fun h' e hk ⟨o, ho, hc⟩ => wpAny_bind (wpAny_isInstance (T := "StopIteration") (b := true) ⟨o, ho, hc⟩ isSubtype_stop (wpAny_pure (h h' hk)))))
theorem zs_item {z TI TO i1 i2 : Addr} {fp1 fp2 : List Addr} {n i : Nat} {P1 P2 : Nat → Value → Prop} {St1 St2 : Nat → Heap → Prop} {a b : Value} {Q : Value → Shared → Prop} (S : ZipSep2 z TI TO i1 i2 fp1 fp2) (D1 : Draws prog w A i1 fp1 n P1 St1) (D2 : Draws prog w A i2 fp2 n P2 St2)
    (hi : i < n) (hz : IsZs s.heap z TI TO .none) (hTI : IsPair s.heap TI (.ref i1) (.ref i2)) (hTO : IsPair s.heap TO a b) (h1 : St1 i s.heap) (h2 : St2 i s.heap)
    (hQ : ∀ x y h' tk, P1 i x → P2 i y → IsZs h' z TI TO (rawInt s.heap.objs.size) → IsPair h' TI (.ref i1) (.ref i2) → IsPair h' TO x y → St1 (i + 1) h' → St2 (i + 1) h' → IsPair h' s.heap.objs.size x y →
      (∀ c o, c ≠ z → c ≠ TO → c ≠ i1 → c ≠ i2 → s.heap.get? c = some o → h'.get? c = some o) → Q (.ref s.heap.objs.size) { s with heap := h', toks := tk }) :
    wpAny (model prog w) A (Builtin.«zip.__next__» ⟨[.ref z], []⟩) (fun fin s' => ∃ v, fin = .done (.ret v) ∧ Q v s') E s := by
  have n1z : i1 ≠ z := fun e => S.zf1 (e ▸ S.mem1)
  have n2z : i2 ≠ z := fun e => S.zf2 (e ▸ S.mem2)
  have n1T : i1 ≠ TO := fun e => S.Tf1 (e ▸ S.mem1)
  have n2T : i2 ≠ TO := fun e => S.Tf2 (e ▸ S.mem2)
  show wpAny _ _ (field (.ref z) 2 >>= _) _ _ _
  refine wpAny_bind (wpAny_field hz rfl (x := .bool true) rfl ?_)
  show wpAny _ _ (field (.ref z) 3 >>= _) _ _ _
  refine wpAny_bind (wpAny_field hz rfl (x := .ref TI) rfl ?_)
  refine wpAny_bind (wpAny_seqItems hTI rfl ?_)
  show wpAny _ _ (Builtin.SmallTypes.ownedTupleIsFree (.ref z) >>= _) _ _ _
  refine wpAny_bind ?_
  unfold Builtin.SmallTypes.ownedTupleIsFree
  refine wpAny_bind (wpAny_field hz rfl (x := .none) rfl (wpAny_pure ?_))
  simp only [if_true]
  refine wpAny_bind (wpAny_rule ?_)
  refine wpAny_bind (wpAny_field hz rfl (x := .ref TO) rfl ?_)
  refine wpAny_bind (wpAny_setField_rec hz (by simp) fun g1 hz1 b1 => ?_)
  replace hz1 : IsZs g1 z TI TO .ellipsis := hz1
  refine wpAny_bind ?_
  simp only [List.zipIdx_cons, List.zipIdx_nil, List.forIn_cons, List.forIn_nil]
  refine wpAny_bind (wpAny_bind (wpAny_onRaise ?_))
  show wpAny _ _ (Builtin.SmallTypes.nextOrEnd (.ref i1)) _ _ _
  have sv : ∀ {fp : List Addr} {j : Nat} {St : Nat → Heap → Prop} {it : Addr} {P : Nat → Value → Prop} (D : Draws prog w A it fp n P St) {g g' : Heap} {d : Addr}, d ∉ fp → Heap.SameBut d g g' → St j g → St j g' := fun {fp j St it P} D {g g' d} hd hb st => D.frame _ _ _ st fun c hc o e => hb.extBut c o (fun x => hd (x ▸ hc)) e
  refine noe_item D1 hi (sv D1 S.zf1 b1 h1) fun x g2 tk1 hx st1 b2 => ?_
  have hTO2 : IsPair g2 TO a b := b2.extBut _ _ (Ne.symm n1T) (b1.extBut _ _ S.TOz hTO)
  refine wpAny_bind (wpAny_seqItems hTO2 rfl ?_)
  refine wpAny_bind (wpAny_updateSeq_pair hTO2 fun g3 hTO3 b3 => ?_)
  replace hTO3 : IsPair g3 TO x b := hTO3
  refine wpAny_bind (wpAny_letGo (wpAny_pure ?_))
  refine wpAny_bind (wpAny_bind (wpAny_onRaise ?_))
  show wpAny _ _ (Builtin.SmallTypes.nextOrEnd (.ref i2)) _ _ _
  refine noe_item D2 hi (sv D2 S.Tf2 b3 (sv D2 S.sep1_2 b2 (sv D2 S.zf2 b1 h2))) fun y g4 tk2 hy st2 b4 => ?_
  have hTO4 : IsPair g4 TO x b := b4.extBut _ _ (Ne.symm n2T) hTO3
  refine wpAny_bind (wpAny_seqItems hTO4 rfl ?_)
  refine wpAny_bind (wpAny_updateSeq_pair hTO4 fun g5 hTO5 b5 => ?_)
  replace hTO5 : IsPair g5 TO x y := hTO5
  refine wpAny_bind (wpAny_letGo (wpAny_pure (wpAny_pure ?_)))
  refine wpAny_bind (wpAny_seqItems hTO5 rfl ?_)
  refine wpAny_bind (wpAny_newTuple ?_)
  have hsz : g5.objs.size = s.heap.objs.size := by rw [b5.1, b4.1, b3.1, b2.1, b1.1]
  have hz5 : IsZs g5 z TI TO .ellipsis := b5.extBut _ _ (Ne.symm S.TOz) (b4.extBut _ _ (Ne.symm n2z) (b3.extBut _ _ (Ne.symm S.TOz) (b2.extBut _ _ (Ne.symm n1z) hz1)))
  have hk5 : ∀ c o, c ≠ z → c ≠ TO → c ≠ i1 → c ≠ i2 → s.heap.get? c = some o → g5.get? c = some o := fun c o c1 c2 c3 c4 e =>
    b5.extBut _ _ c2 (b4.extBut _ _ c4 (b3.extBut _ _ c2 (b2.extBut _ _ c3 (b1.extBut _ _ c1 e))))
  have hzlt : z < g5.objs.size := Heap.lt_size hz5
  show wpAny _ _ (Builtin.SmallTypes.ownedTupleHandOut (.ref z) (.ref g5.objs.size) >>= _) _ _ _
  refine wpAny_bind ?_
  unfold Builtin.SmallTypes.ownedTupleHandOut
  have hz6 : IsZs (g5.push { cls := .type "tuple", data := .seq #[x, y] }) z TI TO .ellipsis := Heap.get?_push_of_some _ hz5
  refine wpAny_bind (wpAny_setField_rec hz6 (by simp) fun g7 hz7 b7 => ?_)
  replace hz7 : IsZs g7 z TI TO (rawInt g5.objs.size) := hz7
  refine wpAny_setField_rec hz7 (by simp) fun g8 hz8 b8 => ?_
  replace hz8 : IsZs g8 z TI TO (rawInt g5.objs.size) := hz8
  have up : ∀ c o, c ≠ z → g5.get? c = some o → g8.get? c = some o := fun c o c1 e => b8.extBut _ _ c1 (b7.extBut _ _ c1 (Heap.get?_push_of_some _ e))
  have hT8 : IsPair g8 g5.objs.size x y := b8.extBut _ _ (Nat.ne_of_gt hzlt) (b7.extBut _ _ (Nat.ne_of_gt hzlt) (Heap.get?_push_size _ rfl))
  have t1 : St1 (i + 1) g8 := D1.frame _ _ _ (sv D1 S.Tf1 b5 (sv D1 S.sep2_1 b4 (sv D1 S.Tf1 b3 st1))) fun c hc o e => up c o (fun q => S.zf1 (q ▸ hc)) e
  have t2 : St2 (i + 1) g8 := D2.frame _ _ _ (sv D2 S.Tf2 b5 st2) fun c hc o e => up c o (fun q => S.zf2 (q ▸ hc)) e
  rw [hsz] at hz8 hT8
  refine wpAny_pure ⟨_, rfl, ?_⟩
  show Q (.ref g5.objs.size) _
  rw [hsz]
  exact hQ x y g8 _ hx hy hz8 (up _ _ S.TIz (hk5 _ _ S.TIz S.TITO S.TIi1 S.TIi2 hTI)) (up _ _ S.TOz hTO5) t1 t2 hT8 fun c o c1 c2 c3 c4 e => up c o c1 (hk5 c o c1 c2 c3 c4 e)
theorem zs_end {z TI TO i1 i2 : Addr} {fp1 fp2 : List Addr} {n : Nat} {P1 P2 : Nat → Value → Prop} {St1 St2 : Nat → Heap → Prop} {a b : Value} {Q : Fin → Shared → Prop} (hh : A.handled = none) (S : ZipSep2 z TI TO i1 i2 fp1 fp2) (D1 : Draws prog w A i1 fp1 n P1 St1) (D2 : Draws prog w A i2 fp2 n P2 St2)
    (hz : IsZs s.heap z TI TO .none) (hTI : IsPair s.heap TI (.ref i1) (.ref i2)) (hTO : IsPair s.heap TO a b) (h1 : St1 n s.heap) (h2 : St2 n s.heap)
    (hE : ∀ h' e, (∀ c o, c ≠ z → c ≠ TO → c ≠ i1 → c ≠ i2 → s.heap.get? c = some o → h'.get? c = some o) → (∃ o, h'.get? e = some o ∧ o.cls = .type "StopIteration") → E (.ref e) { s with heap := h' }) :
    wpAny (model prog w) A (Builtin.«zip.__next__» ⟨[.ref z], []⟩) Q E s := by
  have n1z : i1 ≠ z := fun e => S.zf1 (e ▸ S.mem1)
  show wpAny _ _ (field (.ref z) 2 >>= _) _ _ _
  refine wpAny_bind (wpAny_field hz rfl (x := .bool true) rfl ?_)
  show wpAny _ _ (field (.ref z) 3 >>= _) _ _ _
  refine wpAny_bind (wpAny_field hz rfl (x := .ref TI) rfl ?_)
  refine wpAny_bind (wpAny_seqItems hTI rfl ?_)
  show wpAny _ _ (Builtin.SmallTypes.ownedTupleIsFree (.ref z) >>= _) _ _ _
  refine wpAny_bind ?_
  unfold Builtin.SmallTypes.ownedTupleIsFree
  refine wpAny_bind (wpAny_field hz rfl (x := .none) rfl (wpAny_pure ?_))
  simp only [if_true]
  refine wpAny_bind (wpAny_rule ?_)
  refine wpAny_bind (wpAny_field hz rfl (x := .ref TO) rfl ?_)
  refine wpAny_bind (wpAny_setField_rec hz (by simp) fun g1 hz1 b1 => ?_)
  replace hz1 : IsZs g1 z TI TO .ellipsis := hz1
  refine wpAny_bind ?_
  simp only [List.zipIdx_cons, List.zipIdx_nil, List.forIn_cons, List.forIn_nil]
  refine wpAny_bind (wpAny_bind (wpAny_onRaise ?_))
  show wpAny _ _ (Builtin.SmallTypes.nextOrEnd (.ref i1)) _ _ _
  refine noe_end D1 (D1.frame _ _ _ h1 fun c hc o e => b1.extBut c o (fun x => S.zf1 (x ▸ hc)) e) fun g2 b2 => ?_
  have hz2 : IsZs g2 z TI TO .ellipsis := b2 _ _ (Ne.symm n1z) hz1
  refine wpAny_bind (wpAny_setField_rec hz2 (by simp) fun g3 hz3 b3 => ?_)
  have k3 : ∀ c o, c ≠ z → c ≠ i1 → s.heap.get? c = some o → g3.get? c = some o := fun c o c1 c2 e => b3.extBut _ _ c1 (b2 _ _ c2 (b1.extBut _ _ c1 e))
  have st2 : St2 n g3 := D2.frame _ _ _ h2 fun c hc o e => k3 c o (fun x => S.zf2 (x ▸ hc)) (fun x => S.sep1_2 (x ▸ hc)) e
  refine wpAny_bind ?_
  show wpAny _ _ (forIn [(Value.ref i2, (1 : Nat))] PUnit.unit _ >>= _) _ _ _
  refine wpAny_bind ?_
  simp only [List.forIn_cons, List.forIn_nil]
  refine wpAny_bind ?_
  show wpAny _ _ (Builtin.SmallTypes.nextOrEnd (.ref i2) >>= _) _ _ _
  refine wpAny_bind (noe_end D2 st2 fun g4 b4 => ?_)
  show wpAny _ _ (pure _) _ _ _
  refine wpAny_pure ?_
  refine wpAny_pure ?_
  refine wpAny_bind (wpAny_rule ?_)
  refine stop_raised hh fun g5 e k5 he => ?_
  exact hE g5 e (fun c o c1 c2 c3 c4 x => k5 _ _ (b4 _ _ c4 (k3 c o c1 c3 x))) he
theorem zs_next_item {z TI TO i1 i2 : Addr} {fp1 fp2 : List Addr} {n i : Nat} {P1 P2 : Nat → Value → Prop} {St1 St2 : Nat → Heap → Prop} {a b : Value} {Q : Option Value → Shared → Prop} (S : ZipSep2 z TI TO i1 i2 fp1 fp2) (D1 : Draws prog w A.in1 i1 fp1 n P1 St1) (D2 : Draws prog w A.in1 i2 fp2 n P2 St2)
    (hi : i < n) (hz : IsZs s.heap z TI TO .none) (hTI : IsPair s.heap TI (.ref i1) (.ref i2)) (hTO : IsPair s.heap TO a b) (h1 : St1 i s.heap) (h2 : St2 i s.heap)
    (hQ : ∀ x y h' tk, P1 i x → P2 i y → IsZs h' z TI TO (rawInt s.heap.objs.size) → IsPair h' TI (.ref i1) (.ref i2) → IsPair h' TO x y → St1 (i + 1) h' → St2 (i + 1) h' → IsPair h' s.heap.objs.size x y →
      (∀ c o, c ≠ z → c ≠ TO → c ≠ i1 → c ≠ i2 → s.heap.get? c = some o → h'.get? c = some o) → Q (some (.ref s.heap.objs.size)) { s with heap := h', toks := tk }) :
    wpAny (model prog w) A (pyNext (.ref z)) Q E s := by
  have hT : s.TypeIs (.ref z) "zip" := ⟨_, hz, rfl⟩
  unfold pyNext
  exact wpAny_bind (wpAny_attempt (wpAny_callSpecial?_slot (name := Str.ofString "__next__") hT F.slot_zip_next
    (wpAny_call_entry F.slot_zip_next hT F.entry_zip_next (zs_item S D1 D2 hi hz hTI hTO h1 h2 fun x y h' tk a1 a2 a3 a4 a5 a6 a7 a8 a9 => wpAny_pure (hQ x y h' tk a1 a2 a3 a4 a5 a6 a7 a8 a9)) (F.args_zip_next_1 _))))
theorem zs_next_end {z TI TO i1 i2 : Addr} {fp1 fp2 : List Addr} {n : Nat} {P1 P2 : Nat → Value → Prop} {St1 St2 : Nat → Heap → Prop} {a b : Value} {Q : Option Value → Shared → Prop} (hh : A.handled = none) (S : ZipSep2 z TI TO i1 i2 fp1 fp2) (D1 : Draws prog w A.in1 i1 fp1 n P1 St1) (D2 : Draws prog w A.in1 i2 fp2 n P2 St2)
    (hz : IsZs s.heap z TI TO .none) (hTI : IsPair s.heap TI (.ref i1) (.ref i2)) (hTO : IsPair s.heap TO a b) (h1 : St1 n s.heap) (h2 : St2 n s.heap)
    (hQ : ∀ h', (∀ c o, c ≠ z → c ≠ TO → c ≠ i1 → c ≠ i2 → s.heap.get? c = some o → h'.get? c = some o) → Q none { s with heap := h' }) : wpAny (model prog w) A (pyNext (.ref z)) Q E s := by
  have hT : s.TypeIs (.ref z) "zip" := ⟨_, hz, rfl⟩
  unfold pyNext
  refine wpAny_bind (wpAny_attempt (wpAny_callSpecial?_slot (name := Str.ofString "__next__") hT F.slot_zip_next
    (wpAny_call_entry F.slot_zip_next hT F.entry_zip_next (zs_end hh S D1 D2 hz hTI hTO h1 h2 fun h' e hk he => ?_) (F.args_zip_next_1 _))))
  obtain ⟨o, ho, hc⟩ := he
  exact wpAny_bind (wpAny_isInstance (T := "StopIteration") (b := true) ⟨o, ho, hc⟩ isSubtype_stop (wpAny_pure (hQ _ hk)))
theorem zs_letgo {elts : List Expr} {x1} {pos : Pos} {z TI TO T : Addr} {Q : Unit → Shared → Prop} (hz : IsZs s.heap z TI TO (rawInt T)) (hQ : ∀ h', IsZs h' z TI TO .none → Heap.SameBut z s.heap h' → Q () { s with heap := h' }) :
    wpAny (model prog w) A (letOwnedTupleGo (.Tuple elts x1 pos) (.ref z) (.ref T)) Q E s := by
  unfold letOwnedTupleGo
  refine wpAny_bind (wpAny_load hz ?_)
  show wpAny _ _ (if (["enumerate", "zip", "dict_itemiterator", "dict_reverseitemiterator", "odict_iterator", "itertools.zip_longest", "itertools.pairwise"].contains "zip" &&
      (#[rawInt T, .bool false, .bool true, .ref TI, .ref TO] : Array Value)[0]? == some (rawInt T)) = true then _ else _) Q E s
  rw [if_pos (by simp)]
  exact wpAny_bind (wpAny_rule (wpAny_setField_rec hz (by simp) hQ))
theorem zs_iter {z TI TO : Addr} {f0 : Value} {Q : Value → Shared → Prop} (hz : IsZs s.heap z TI TO f0) (h : Q (.ref z) s) : wpAny (model prog w) A (pyIter (.ref z)) Q E s := by
  have hT : s.TypeIs (.ref z) "zip" := ⟨_, hz, rfl⟩
  refine wpAny_pyIter_slot hT F.slot_zip_iter (wpAny_call_entry F.slot_zip_iter hT F.entry_zip_iter ?_ (F.args_zip_iter_1 _))
  show wpAny _ _ (ret (.ref z)) _ _ s
  exact wpAny_pure ⟨_, rfl, "zip", _, hT, F.slot_zip_next.lookup, h⟩
end
theorem ct_zs (a b : Value) : checkTypeCall "zip" ⟨[a, b], [(Str.ofString "strict", .bool true)]⟩ = pure () := by kernel_rfl
theorem cn_zs (a b : Value) : checkBuiltinCall "zip.__new__" ⟨[.type "zip", a, b], [(Str.ofString "strict", .bool true)]⟩ = pure () := by kernel_rfl
theorem ai_zs (obj a b : Value) : argsOk "object.__init__" ⟨[obj, a, b], [(Str.ofString "strict", .bool true)]⟩ := by unfold argsOk; kernel_rfl
abbrev zsZ (h : Heap) (o1 o2 : Obj) : Heap := (gzO2 h o1 o2).push { cls := .type "zip", data := .fields #[.none, .bool false, .bool true, .ref ((h.push o1).push o2).objs.size, .ref (gzT2 h o1 o2).objs.size] }
theorem zs_new {v1 v2 : Value} {o1 o2 : Obj} {H1 H2 : Heap → Prop} (B1 : Begins v1 o1 H1) (B2 : Begins v2 o2 H2) :
    Meets (Builtin.«zip.__new__» ⟨[.type "zip", v1, v2], [(Str.ofString "strict", .bool true)]⟩) (fun _ R s => (H1 s.heap ∧ H2 s.heap) ∧ R (.ok (.ret (.ref (gzO2 s.heap o1 o2).objs.size))) { s with heap := zsZ s.heap o1 o2 }) := .of_wp fun prog w A R s h => by
  obtain ⟨hp, g, d, tk, os⟩ := s
  obtain ⟨⟨h1, h2⟩, h⟩ := h
  have hsub := sub_zip
  have q1 : ∀ {A' : Around} {E : Value → Shared → Prop} {Q : Value → Shared → Prop}, Q (.ref hp.objs.size) ⟨(hp.push o1), g, d, tk, os⟩ → wpAny (model prog w) A' (pyIter v1) Q E ⟨hp, g, d, tk, os⟩ := fun q => B1.iter prog w _ _ ⟨hp, g, d, tk, os⟩ _ (B1.keeps _ _ h1 fun b o' e => e) q
  have q2 : ∀ {A' : Around} {E : Value → Shared → Prop} {Q : Value → Shared → Prop}, Q (.ref (hp.push o1).objs.size) ⟨((hp.push o1).push o2), g, d, tk, os⟩ → wpAny (model prog w) A' (pyIter v2) Q E ⟨(hp.push o1), g, d, tk, os⟩ := fun q => B2.iter prog w _ _ ⟨(hp.push o1), g, d, tk, os⟩ _ (B2.keeps _ _ h2 fun b o' e => (Heap.get?_push_of_some _ e)) q
  have e1 : (Str.ofString "strict" == ("strict" : Str)) = true := by decide +kernel
  have e2 : (Str.ofString "strict" != ("strict" : Str)) = false := by decide +kernel
  have e4 : (("strict" : Str) == Str.ofString "strict") = true := by decide +kernel
  wp_walk using q1, q2
  exact ⟨_, rfl, h⟩
section
variable {prog : Program} {w : World} {A : Around} {E : Value → Shared → Prop} {s : Shared}
theorem zs_begins {v1 v2 : Value} {o1 o2 : Obj} {H1 H2 : Heap → Prop} {Q : Value → Shared → Prop} (B1 : Begins v1 o1 H1) (B2 : Begins v2 o2 H2) (h1 : H1 s.heap) (h2 : H2 s.heap)
    (h : ∀ h', IsZs h' (s.heap.objs.size + 4) (s.heap.objs.size + 2) (s.heap.objs.size + 3) .none → IsPair h' (s.heap.objs.size + 2) (.ref s.heap.objs.size) (.ref (s.heap.objs.size + 1)) →
      IsPair h' (s.heap.objs.size + 3) .none .none → h'.get? s.heap.objs.size = some o1 → h'.get? (s.heap.objs.size + 1) = some o2 → (∀ c o, s.heap.get? c = some o → h'.get? c = some o) → Q (.ref (s.heap.objs.size + 4)) { s with heap := h' }) :
    wpAny (model prog w) A (call (.type "zip") [v1, v2] [(Str.ofString "strict", .bool true)]) Q E s := by
  refine callType_newKw F.called_zip (by decide) (ct_zs _ _) (cn_zs _ _) (fun obj => ai_zs obj _ _) F.entry_zip_new (zs_new B1 B2) ⟨⟨h1, h2⟩, ?_⟩
  have z1 : (s.heap.push o1).objs.size = s.heap.objs.size + 1 := by rw [Heap.size_push]
  have z2 : ((s.heap.push o1).push o2).objs.size = s.heap.objs.size + 2 := by rw [Heap.size_push, z1]
  have z3 : (gzT2 s.heap o1 o2).objs.size = s.heap.objs.size + 3 := by rw [Heap.size_push, z2]
  have z4 : (gzO2 s.heap o1 o2).objs.size = s.heap.objs.size + 4 := by rw [Heap.size_push, z3]
  have p5 : ∀ {c o}, (gzO2 s.heap o1 o2).get? c = some o → (zsZ s.heap o1 o2).get? c = some o := fun e => Heap.get?_push_of_some _ e
  have p4 : ∀ {c o}, (gzT2 s.heap o1 o2).get? c = some o → (zsZ s.heap o1 o2).get? c = some o := fun e => p5 (Heap.get?_push_of_some _ e)
  have p3 : ∀ {c o}, ((s.heap.push o1).push o2).get? c = some o → (zsZ s.heap o1 o2).get? c = some o := fun e => p4 (Heap.get?_push_of_some _ e)
  have p2 : ∀ {c o}, (s.heap.push o1).get? c = some o → (zsZ s.heap o1 o2).get? c = some o := fun e => p3 (Heap.get?_push_of_some _ e)
  have e5 : (zsZ s.heap o1 o2).get? (gzO2 s.heap o1 o2).objs.size = some _ := Heap.get?_push_size _ rfl
  have e4 : (zsZ s.heap o1 o2).get? (gzT2 s.heap o1 o2).objs.size = some _ := p5 (Heap.get?_push_size _ rfl)
  have e3 : (zsZ s.heap o1 o2).get? ((s.heap.push o1).push o2).objs.size = some _ := p4 (Heap.get?_push_size _ rfl)
  have e2 : (zsZ s.heap o1 o2).get? (s.heap.push o1).objs.size = some o2 := p3 (Heap.get?_push_size _ B2.free)
  have e1 : (zsZ s.heap o1 o2).get? s.heap.objs.size = some o1 := p2 (Heap.get?_push_size _ B1.free)
  rw [z4, z3, z2] at e5
  rw [z3] at e4
  rw [z2, z1] at e3
  rw [z1] at e2
  show _ ∧ _
  rw [z4]
  exact ⟨⟨_, e5, rfl⟩, h _ e5 e3 e4 e1 e2 fun c o x => p2 (Heap.get?_push_of_some _ x)⟩
end
end ZS
namespace VQ
open PySem PySem.Spec PyProof.Rows L2 ZS
def SqK (K : PySem.W.Frag) (k : Bool) (H : Hp) (a : Addr) (xs : List V) : Prop := match k with
  | true => SqL K H a xs
  | false => SqT K H a xs
def IsK (k : Bool) (h : Heap) (a : Addr) (its : Array Value) : Prop := match k with
  | true => h.IsList a its
  | false => h.IsTuple a its
def objK (k : Bool) (a : Addr) : Obj := match k with
  | true => { cls := .type "list_iterator", data := .fields #[.ref a, .int 0 0] }
  | false => { cls := .type "tuple_iterator", data := .fields #[.ref a, .int 0 0] }
theorem drawsK (k : Bool) {prog : Program} {w : World} {A : Around} (hh : A.handled = none) (it l : Addr) (hne : l ≠ it) (items : Array Value) : Draws prog w A it [it, l] items.size (fun i v => items[i]? = some v) (fun i h => ItrK k h it l i ∧ IsK k h l items) := by
  cases k
  · exact Draws.tuple hh it l hne items
  · exact Draws.list hh it l hne items
theorem invK {X : Cx} {pins : List (Addr × Obj)} {σ : L2.St} {H : Hp} {s : Shared} {a : Addr} {xs : List V} (k : Bool) (I : L2.Inv X pins σ H s) (h : SqK X.K k H a xs) : ∃ its : List Value, Vals xs its ∧ IsK k s.heap a its.toArray ∧ a < s.heap.objs.size := by
  cases k
  · obtain ⟨its, rv, p, _⟩ := I.tuple h
    obtain ⟨o, ho, _⟩ := id p
    exact ⟨its, rv, p, Heap.lt_size ho⟩
  · obtain ⟨its, rv, p, _⟩ := I.list h
    exact ⟨its, rv, p.isList, p.lt⟩
theorem sqK_inj {X : Cx} {pins : List (Addr × Obj)} {σ : L2.St} {H : Hp} {s : Shared} {a : Addr} {xs ys : List V} (k : Bool) (I : L2.Inv X pins σ H s) (h : SqK X.K k H a xs) (h' : SqK X.K k H a ys) : xs = ys := by
  cases k
  · exact I.tuple_inj h h'
  · exact I.list_inj h h'
theorem itrK_obj {k : Bool} {h : Heap} {it a : Addr} {i : Nat} (st : ItrK k h it a i) : ∃ o, h.get? it = some o ∧ ∀ v, o.data ≠ .cell v := by
  cases k <;> obtain ⟨o, e, _, d⟩ := st <;> exact ⟨o, e, fun v q => by rw [d] at q; cases q⟩
def Itzs (K : PySem.W.Frag) (k1 k2 : Bool) (a b : Addr) : It :=
  ⟨fun i H => ∃ (xs ys : List V), SqK K k1 H a xs ∧ SqK K k2 H b ys ∧ xs.length = ys.length ∧ i < xs.length,
    fun i H v H' => ∃ T x y ho, v = .ref T ∧ H T = none ∧ H' = upd H T ho ∧ NewT ho [x, y] ∧ (∀ xs, SqK K k1 H a xs → xs[i]? = some x) ∧ ∀ ys, SqK K k2 H b ys → ys[i]? = some y,
    fun i H => ∃ xs ys : List V, SqK K k1 H a xs ∧ SqK K k2 H b ys ∧ xs.length = i ∧ ys.length = i⟩
theorem turn_zs {P : Program} {w : World} {K : PySem.W.Frag} {elts : List Expr} {kk : Nat} {tpos : Pos} {k1 k2 : Bool} {a b z TI TO i1 i2 : Addr} (S : ZipSep2 z TI TO i1 i2 [i1, a] [i2, b]) (ne1 : a ≠ i1) (ne2 : b ≠ i2) :
    Turn P w K (.Tuple elts kk tpos) (Itzs K k1 k2 a b) [z, TI, TO, i1, i2] z (fun i h => IsZs h z TI TO .none ∧ IsPair h TI (.ref i1) (.ref i2) ∧ (∃ x y, IsPair h TO x y) ∧ ItrK k1 h i1 a i ∧ ItrK k2 h i2 b i) where
  mem := by simp
  obj := fun i h st c hc => by
    obtain ⟨hz, hTI, ⟨x, y, hTO⟩, h1, h2⟩ := st
    simp only [List.mem_cons, List.not_mem_nil, or_false] at hc
    rcases hc with q | q | q | q | q
    · rw [q]; exact ⟨_, hz, fun v q => nomatch q⟩
    · rw [q]; exact ⟨_, hTI, fun v q => nomatch q⟩
    · rw [q]; exact ⟨_, hTO, fun v q => nomatch q⟩
    · rw [q]; exact itrK_obj h1
    · rw [q]; exact itrK_obj h2
  keep := fun i h h' st k => by
    obtain ⟨hz, hTI, ⟨x, y, hTO⟩, h1, h2⟩ := st
    exact ⟨k z (by simp) _ hz, k TI (by simp) _ hTI, ⟨x, y, k TO (by simp) _ hTO⟩, h1.keep fun o q => k i1 (by simp) o q, h2.keep fun o q => k i2 (by simp) o q⟩
  item := by
    intro X hP hw hK hc i pins s σ H E I hf st hg
    subst hP hw hK
    obtain ⟨hz, hTI, ⟨x0, y0, hTO⟩, h1, h2⟩ := st
    obtain ⟨xs, ys, qx, qy, hlen, hi⟩ := hg
    obtain ⟨its, rv, p, pl⟩ := invK k1 I qx
    obtain ⟨its2, rv2, p2, pl2⟩ := invK k2 I qy
    have l1 := rv.length
    have l2 := rv2.length
    have hh : X.A.in1.handled = none := I.ok.hd hc
    have hs2 : its2.toArray.size = its.toArray.size := by simp; omega
    have D1 := drawsK k1 (prog := X.prog) (w := X.w) hh i1 a ne1 its.toArray
    have D2 := drawsK k2 (prog := X.prog) (w := X.w) hh i2 b ne2 its2.toArray
    rw [hs2] at D2
    have hzl : z < s.heap.objs.size := Heap.lt_size hz
    refine zs_next_item S D1 D2 (by simp; omega) hz hTI hTO ⟨h1, p⟩ ⟨h2, p2⟩ fun u u2 h' tk hu hu2 a1 a2 a3 a4 a5 a6 a7 => ⟨_, rfl, zs_letgo (s := { s with heap := h', toks := tk }) a1 fun h'' z'' sb => ?_⟩
    obtain ⟨x, hx⟩ : ∃ x, xs[i]? = some x := ⟨xs[i], by simp [hi]⟩
    obtain ⟨y, hy⟩ : ∃ y, ys[i]? = some y := ⟨ys[i]'(by omega), by simp [show i < ys.length by omega]⟩
    obtain ⟨v, hv, rx⟩ := rv.get hx
    obtain ⟨v2, hv2, ry⟩ := rv2.get hy
    have eu : u = v := by simpa [hv] using hu.symm
    have eu2 : u2 = v2 := by simpa [hv2] using hu2.symm
    subst eu eu2
    have hT2 : h''.get? s.heap.objs.size = some { cls := .type "tuple", data := .seq #[u, u2] } := (sb.2 _ (Nat.ne_of_gt hzl)).trans a6
    have new : ObjOk X.prog X.w (upd H s.heap.objs.size (.frz { cls := .type "tuple", data := .seq #[u, u2] } (.tup [x, y]))) h'' s.heap.objs.size (.frz { cls := .type "tuple", data := .seq #[u, u2] } (.tup [x, y])) := ⟨hT2, by show 2 ≤ sizeLine; decide, [u, u2], .cons rx (.cons ry .nil), ⟨_, hT2, rfl, _, rfl⟩⟩
    have I1 : L2.Inv X pins σ (upd H s.heap.objs.size (.frz { cls := .type "tuple", data := .seq #[u, u2] } (.tup [x, y]))) { s with heap := h'', toks := tk } :=
      I.turnedNew (t' := tk) (ch := [z, TI, TO, i1, i2]) (fun c o hb q => (sb.2 c (fun q' => hb (by simp [q']))).trans (a7 c o (fun q' => hb (by simp [q'])) (fun q' => hb (by simp [q'])) (fun q' => hb (by simp [q'])) (fun q' => hb (by simp [q'])) q)) hf (Nat.le_refl _) new
    refine ⟨.ref s.heap.objs.size, _, I1, rfl, ⟨_, x, y, _, rfl, I.hok.fresh (Nat.le_refl _), rfl, ⟨_, rfl, rfl, rfl⟩, fun l hl => by rw [sqK_inj k1 I hl qx]; exact hx, fun l hl => by rw [sqK_inj k2 I hl qy]; exact hy⟩, ⟨z'', ?_, ⟨u, u2, ?_⟩, ?_, ?_⟩, fun c hcm => ?_⟩
    · exact (sb.2 _ S.TIz).trans a2
    · exact (sb.2 _ S.TOz).trans a3
    · exact a4.1.keep fun o q => (sb.2 _ (fun e => S.zf1 (e ▸ S.mem1))).trans q
    · exact a5.1.keep fun o q => (sb.2 _ (fun e => S.zf2 (e ▸ S.mem2))).trans q
    · have hlt : c < s.heap.objs.size := by
        obtain ⟨o1, e1, _⟩ := itrK_obj h1
        obtain ⟨o2, e2, _⟩ := itrK_obj h2
        simp only [List.mem_cons, List.not_mem_nil, or_false] at hcm
        rcases hcm with q | q | q | q | q
        · rw [q]; exact hzl
        · rw [q]; exact Heap.lt_size hTI
        · rw [q]; exact Heap.lt_size hTO
        · rw [q]; exact Heap.lt_size e1
        · rw [q]; exact Heap.lt_size e2
      rw [upd_ne (Nat.ne_of_lt hlt)]
      exact (hf c hcm).1
  done := by
    intro X hP hw hK hc i pins s σ H E I hf st hg
    subst hP hw hK
    obtain ⟨hz, hTI, ⟨x0, y0, hTO⟩, h1, h2⟩ := st
    obtain ⟨xs, ys, qx, qy, e1, e2⟩ := hg
    obtain ⟨its, rv, p, _⟩ := invK k1 I qx
    obtain ⟨its2, rv2, p2, _⟩ := invK k2 I qy
    have l1 := rv.length
    have l2 := rv2.length
    have hh : X.A.in1.handled = none := I.ok.hd hc
    have D1 := drawsK k1 (prog := X.prog) (w := X.w) hh i1 a ne1 its.toArray
    have D2 := drawsK k2 (prog := X.prog) (w := X.w) hh i2 b ne2 its2.toArray
    have z1 : its.toArray.size = i := by simp; omega
    have z2 : its2.toArray.size = i := by simp; omega
    rw [z1] at D1
    rw [z2] at D2
    exact zs_next_end (I.ok.hd hc) S D1 D2 hz hTI hTO ⟨h1, p⟩ ⟨h2, p2⟩ fun h' hk => ⟨rfl, I.turnedL (t' := s.toks) (ch := [z, TI, TO, i1, i2]) (fun c o hb q => hk c o (fun q' => hb (by simp [q'])) (fun q' => hb (by simp [q'])) (fun q' => hb (by simp [q'])) (fun q' => hb (by simp [q'])) q) hf⟩
  self := fun A i s Q E st h => zs_iter st.1 h
theorem beginsK (k : Bool) (a : Addr) (its : Array Value) : Begins (.ref a) (objK k a) (fun h => IsK k h a its) := by
  cases k
  · exact begins_tuple a its
  · exact begins_list a its
theorem itrK_new (k : Bool) {h : Heap} {it a : Addr} (e : h.get? it = some (objK k a)) : ItrK k h it a 0 := by
  cases k
  · exact ⟨_, e, rfl, rfl⟩
  · exact ⟨_, e, rfl, rfl⟩
def iZs (K : PySem.W.Frag) (ta : TA) : TI := fun σ H R => ta σ H fun vs H1 => ∃ a b k1 k2 xs ys, vs = [.ref a, .ref b] ∧ SqK K k1 H1 a xs ∧ SqK K k2 H1 b ys ∧ xs.length = ys.length ∧ R (Itzs K k1 k2 a b) H1
theorem callWith_tkw {M : Model} {A : Around} {E : Value → Shared → Prop} {s : Shared} {pos : Pos} {T : String} {x : Sem Value} {rest : List (Bool × Sem Value)} {kws : List (Option Str × Sem Value)} {Q : Value → Shared → Prop} (hplain : ((false, x) :: rest).any (·.1) = false) (hall : kws.all (·.1.isSome) = true) (hkw : kws.any (·.1.isNone) = false)
    (h : wpAny M A (spliced ((false, x) :: rest)) (fun vs s₁ => wpAny M A (evalAll (kws.map (·.2))) (fun kvs s₂ => wpAny M A (call (.type T) vs ((kws.filterMap (·.1)).zip kvs)) Q E s₂) E s₁) E s) : wpAny M A (callWith pos (.type T) [] ((false, x) :: rest) kws) Q E s := by
  unfold callWith
  refine wpAny_bind (wpAny_holding (wpAny_mono (evalArgs_kwB (Q := fun a s₁ => wpAny M A (call (.type T) ([] ++ a.pos) a.kw) Q E s₁) hall h) (fun a s₁ h₁ => wpAny_bind (wpAny_standAt ?_)) fun _ _ x => x))
  simp only [hplain, hkw, Bool.or_false]
  refine wpAny_bind (wpAny_pure ?_)
  exact wpAny_bind (wpAny_mono h₁ (fun r s₂ hr => wpAny_bind (wpAny_holding (wpAny_point (wpAny_pure hr)))) fun _ _ x => x)
theorem pi_zs {X : Cx} {e e2 : Expr} {ta : TA} {p pos kp tpos : Pos} {j : Nat} {cp : Pos} {elts : List Expr} {kk : Nat} (hm : X.mg "zip" = none) (ha : PA X [e, e2] ta) (hg : Gl X "zip" := by rfl)
    (hs : starEach [e, e2] X.env = (false, eval e X.env) :: starEach [e2] X.env := by rfl) (hpl : (backTo pos (starEach [e2] X.env)).any (·.1) = false := by rfl) :
    PI X (.Tuple elts kk tpos) (.Call (.Name "zip" p) [e, e2] [⟨some "strict", .Constant (.bool true) j cp, kp⟩] pos) (iZs X.K ta) := by
  refine ⟨fun pins s σ H R I h => ?_⟩
  have hb : backTo pos (starEach [e, e2] X.env) = (false, eval e X.env) :: backTo pos (starEach [e2] X.env) := by rw [hs]; rfl
  refine wpAny_Call_Name_kw (ld_blt I hg hm boot_zip ?_)
  rw [hb]
  refine callWith_tkw (by show (false || (backTo pos (starEach [e2] X.env)).any (·.1)) = false; rw [hpl]; rfl) rfl rfl ?_
  rw [← hb]
  refine thn (ha.run pos pins s σ H _ I h) fun us s1 ⟨vs, H1, I1, r1, q1⟩ => ?_
  obtain ⟨a, b, k1, k2, xs, ys, ex, hqx, hqy, hlen, q⟩ := q1
  subst ex
  refine thn ((pk_cons (nm := some "strict") (kpos := kp) (pe_bl (b := true) (j := j) (pos := cp)) pk_nil).run pos pins s1 σ H1 (fun ws H2 => ws = [.bl true] ∧ H2 = H1) I1 ⟨rfl, rfl⟩) fun ks s2 ⟨ws, H2, I2, r2, e1, e2⟩ => ?_
  subst e1 e2
  cases r2 with
  | cons ra rb =>
    cases rb
    cases ra
    cases r1 with
    | cons r rr =>
      cases rr with
      | cons r' rr =>
        cases rr
        cases r
        cases r'
        obtain ⟨its, rv, p1, la⟩ := invK k1 I2 hqx
        obtain ⟨its2, rv2, p2, lb⟩ := invK k2 I2 hqy
        refine zs_begins (beginsK k1 a its.toArray) (beginsK k2 b its2.toArray) p1 p2 fun h' hz hTI hTO h1 h2 hk => zs_iter hz ?_
        have I3 : L2.Inv X pins σ H2 { s2 with heap := h' } := I2.kept (t' := s2.toks) hk
        refine ⟨s2.heap.objs.size + 4, [s2.heap.objs.size + 4, s2.heap.objs.size + 2, s2.heap.objs.size + 3, s2.heap.objs.size, s2.heap.objs.size + 1], _, _, H2, rfl, I3, turn_zs (PySem.zip_sep2 (fun c hc => by rw [List.mem_singleton.mp hc]; exact la) (fun c hc => by rw [List.mem_singleton.mp hc]; exact lb)) (Nat.ne_of_lt la) (Nat.ne_of_lt (Nat.lt_succ_of_lt lb)), ⟨hz, hTI, ⟨_, _, hTO⟩, itrK_new k1 h1, itrK_new k2 h2⟩, fun c hcm => ?_, q⟩
        have hle : s2.heap.objs.size ≤ c := by
          have e' : c = s2.heap.objs.size + 4 ∨ c = s2.heap.objs.size + 2 ∨ c = s2.heap.objs.size + 3 ∨ c = s2.heap.objs.size ∨ c = s2.heap.objs.size + 1 := by simpa using hcm
          rcases e' with z | z | z | z | z <;> rw [z] <;> first | exact Nat.le_add_right _ _ | exact Nat.le_refl _
        exact I2.fpOk hle (I2.hok.fresh hle)
section
variable {X : Cx} {M : WM X.K} {W : WX} {a b : Expr} {ea eb : Ev M D}
def seqL : D → Option (List D)
  | .lst l => some l
  | .tup l => some l
  | _ => none
def zipS (x y : D) : Option (List D) := match seqL x, seqL y with
  | some l, some m => if l.length = m.length then some (zipT l m) else none
  | _, _ => none
theorem seqL_at {q : Pt M} (ok : q.Ok) {d : D} {x : V} {l : List D} (z : seqL d = some l) (h : Den X.K q.ad q.Hv d x) : ∃ k a vs, x = .ref a ∧ SqK X.K k q.H a vs ∧ DenL X.K q.ad q.Hv l vs ∧ ∀ H', Same q.Hv H' → SqK X.K k H' a vs := by
  cases d <;> first | (cases z; done) | skip
  · cases z
    obtain ⟨a, vs, rfl, a1, a2, _⟩ := h
    exact ⟨false, a, vs, rfl, sqT_H ok a1, a2, fun H' sm => sqT_same sm a1⟩
  · cases z
    obtain ⟨a, vs, rfl, a1, a2⟩ := h
    exact ⟨true, a, vs, rfl, SqL.of (ok.view _ _ a1), a2, fun H' sm => SqL.of (sm _ _ a1)⟩
theorem it_zipS {p pos kp cp tpos : Pos} {j : Nat} {elts : List Expr} {kk : Nat} (hm : X.mg "zip" = none) (ha : PE X a (tD M X.mg W ea)) (hb : PE X b (tD M X.mg W eb)) (hg : Gl X "zip" := by rfl)
    (hs : starEach [a, b] X.env = (false, eval a X.env) :: starEach [b] X.env := by rfl) (hs2 : starEach [b] X.env = (false, eval b X.env) :: starEach [] X.env := by rfl) (hpl : (backTo pos (starEach [b] X.env)).any (·.1) = false := by rfl) :
    PI X (.Tuple elts kk tpos) (.Call (.Name "zip" p) [a, b] [⟨some "strict", .Constant (.bool true) j cp, kp⟩] pos) (tIt M W (eI2 zipS ea eb)) := (pi_zs hm (pa_cons ha (pa_cons hb pa_nil hs2) hs) hg hs hpl).con fun σ H R ⟨ρ, p, hH, ok, en, q⟩ => by
  subst hH
  show tD M X.mg W ea σ p.H fun x H1 => tD M X.mg W eb σ H1 fun y H2 => ∃ a b k1 k2 xs ys, [x, y] = [.ref a, .ref b] ∧ SqK X.K k1 H2 a xs ∧ SqK X.K k2 H2 b ys ∧ xs.length = ys.length ∧ R (Itzs X.K k1 k2 a b) H2
  refine tG.seq ok en q fun r1 x q1 ex1 ok1 es1 dx h1 => ?_
  rw [← es1] at h1
  refine tG.seq ok1 (en.ext ex1) (XEnds ex1 h1 fun _ h => h) fun r2 y q2 ex2 ok2 es2 dy h2 => ?_
  obtain ⟨d, s1⟩ := r1
  obtain ⟨e, s2⟩ := r2
  have dx2 := ex2.den dx
  cases z : zipS d e with
  | none => simp only [op, z] at h2; exact h2.elim
  | some items =>
    simp only [op, z] at h2
    unfold zipS at z
    cases zl : seqL d with
    | none => rw [zl] at z; cases z
    | some l =>
      rw [zl] at z
      cases zm : seqL e with
      | none => rw [zm] at z; cases z
      | some m =>
        rw [zm] at z
        dsimp only at z
        split at z
        · rename_i hlen
          cases z
          obtain ⟨k1, a, vs, rfl, a1, a2, a3⟩ := seqL_at ok2 zl dx2
          obtain ⟨k2, b, ws, rfl, b1, b2, b3⟩ := seqL_at ok2 zm dy
          have hl : vs.length = ws.length := by rw [a2.length, b2.length]; exact hlen
          refine ⟨a, b, k1, k2, vs, ws, rfl, a1, b1, hl, h2 _ q2 (ex1.trans ex2) ok2 es2 fun H' sm => ?_⟩
          refine ⟨fun i hi => ?_, fun i y hy => ?_⟩
          · exact ⟨vs, ws, a3 H' sm, b3 H' sm, by rw [a2.length]; rw [zipT_len] at hi; omega, by rw [b2.length]; rw [zipT_len] at hi; omega⟩
          · obtain ⟨d, e, g1, g2, rfl⟩ := zipT_get _ _ _ _ hy
            obtain ⟨v, g3, g4⟩ := a2.get g1
            obtain ⟨w, g5, g6⟩ := b2.get g2
            have hi : i < vs.length := (List.getElem?_eq_some_iff.mp g3).1
            refine ⟨⟨vs, ws, a3 H' sm, b3 H' sm, hl, hi⟩, fun x H2 ⟨T, x', y', ho, e1, e2, e3, nt, e4, e5⟩ => .inr <| .inl ⟨T, ho, _, _, e2, e1, e3, nt.ho, rfl, ?_⟩⟩
            have t1 := e4 vs (a3 H' sm)
            have t2 := e5 ws (b3 H' sm)
            rw [g3] at t1; cases t1
            rw [g5] at t2; cases t2
            exact ⟨_, _, rfl, g4, DenL.one g6⟩
        · cases z
end
theorem en_new {v : Value} {o : Obj} {Hv : Heap → Prop} (B : Begins v o Hv) : Meets (Builtin.«enumerate.__new__» ⟨[.type "enumerate", v], []⟩) (fun _ R s => Hv s.heap ∧
    R (.ok (.ret (.ref (s.heap.push o).objs.size))) { s with heap := (s.heap.push o).push { cls := .type "enumerate", data := .fields #[.none, .bool false, .ref s.heap.objs.size, rawInt 0, .none, .none] } }) := .of_wp fun prog w A R s h => by
  obtain ⟨hp, g, d, tk, os⟩ := s
  obtain ⟨h1, h⟩ := h
  have hsub := sub_enumerate
  have q1 : ∀ {A' : Around} {E : Value → Shared → Prop} {Q : Value → Shared → Prop}, Q (.ref hp.objs.size) ⟨hp.push o, g, d, tk, os⟩ → wpAny (model prog w) A' (pyIter v) Q E ⟨hp, g, d, tk, os⟩ := fun q => B.iter prog w _ _ ⟨hp, g, d, tk, os⟩ _ h1 q
  wp_walk using q1
  refine wpAny_stack_any fun st => wpAny_pure ?_
  split
  · rename_i c _ _ _ _ _
    cases (c == Value.type "enumerate")
    all_goals
      wp_walk using q1
      exact ⟨_, rfl, h⟩
  · wp_walk using q1
    exact ⟨_, rfl, h⟩
theorem en_begins {prog : Program} {w : World} {A : Around} {E : Value → Shared → Prop} {s : Shared} {v : Value} {o : Obj} {Hv : Heap → Prop} {Q : Value → Shared → Prop} (B : Begins v o Hv) (h1 : Hv s.heap)
    (h : ∀ h', IsEnum h' (s.heap.objs.size + 1) s.heap.objs.size 0 .none → h'.get? s.heap.objs.size = some o → (∀ b x, s.heap.get? b = some x → h'.get? b = some x) → Q (.ref (s.heap.objs.size + 1)) { s with heap := h' }) :
    wpAny (model prog w) A (call (.type "enumerate") [v]) Q E s := by
  refine callType_new F.called_enumerate (by decide) (F.typeCall_enumerate_1 _) (F.newCall_enumerate_1 _) (fun obj => F.args_object_init_2 obj _) F.entry_enumerate_new (en_new B) ⟨h1, ?_⟩
  have z1 : (s.heap.push o).objs.size = s.heap.objs.size + 1 := by rw [Heap.size_push]
  have he : IsEnum ((s.heap.push o).push { cls := .type "enumerate", data := .fields #[.none, .bool false, .ref s.heap.objs.size, rawInt 0, .none, .none] }) (s.heap.objs.size + 1) s.heap.objs.size 0 .none := by
    have := Heap.get?_push_size (s.heap.push o) (o := { cls := .type "enumerate", data := .fields #[.none, .bool false, .ref s.heap.objs.size, rawInt 0, .none, .none] }) rfl
    rwa [z1] at this
  show _ ∧ _
  rw [z1]
  exact ⟨⟨_, he, rfl⟩, h _ he (Heap.get?_push_of_some _ (Heap.get?_push_size _ B.free)) fun b x q => Heap.get?_push_of_some _ (Heap.get?_push_of_some _ q)⟩
def IteK (K : PySem.W.Frag) (k : Bool) (a : Addr) : It :=
  ⟨fun i H => ∃ xs : List V, SqK K k H a xs ∧ i < xs.length, fun i H v H' => ∃ T x ho, v = .ref T ∧ H T = none ∧ H' = upd H T ho ∧ NewT ho [.int (i : Nat), x] ∧ ∀ xs, SqK K k H a xs → xs[i]? = some x, fun i H => ∃ xs : List V, SqK K k H a xs ∧ xs.length = i⟩
theorem turn_enK {P : Program} {w : World} {K : PySem.W.Frag} {elts : List Expr} {kk : Nat} {tpos : Pos} (k : Bool) {a e it : Addr} (hne : e ≠ it) (hea : e ≠ a) (hia : a ≠ it) :
    Turn P w K (.Tuple elts kk tpos) (IteK K k a) [e, it] e (fun i h => (∃ old, IsEnum h e it ((i : Nat) : Int) old) ∧ ItrK k h it a i) where
  mem := by simp
  obj := fun i h st b hb => by
    obtain ⟨⟨old, he⟩, h1⟩ := st
    rcases (show b = e ∨ b = it by simpa using hb) with q | q
    · rw [q]; exact ⟨_, he, fun v q => nomatch q⟩
    · rw [q]; exact itrK_obj h1
  keep := fun i h h' st kp => by
    obtain ⟨⟨old, he⟩, h1⟩ := st
    exact ⟨⟨old, kp e (by simp) _ he⟩, h1.keep fun o q => kp it (by simp) o q⟩
  item := by
    intro X hP hw hK hc i pins s σ H E I hf st hg
    subst hP hw hK
    obtain ⟨⟨old, he⟩, h1⟩ := st
    obtain ⟨xs, qx, hi⟩ := hg
    obtain ⟨its, rv, p, pl⟩ := invK k I qx
    have l1 := rv.length
    have hh : X.A.in1.handled = none := I.ok.hd hc
    have D1 := drawsK k (prog := X.prog) (w := X.w) hh it a hia its.toArray
    have hel : e < s.heap.objs.size := Heap.lt_size he
    refine wpAny_pyNext_enum_itemC D1 he ⟨h1, p⟩ (by simp; omega) hne (by simp [hne, hea]) fun u h' tk hu ho a2 hT hsz hk => ⟨_, rfl, wpAny_letOwnedTupleGo_enum (s := { s with heap := h', toks := tk + 1 }) ho fun h'' he' sb => ?_⟩
    obtain ⟨x, hx⟩ : ∃ x, xs[i]? = some x := ⟨xs[i], by simp [hi]⟩
    obtain ⟨v, hv, rx⟩ := rv.get hx
    have eu : u = v := by simpa [hv] using hu.symm
    subst eu
    have hT2 : h''.get? s.heap.objs.size = some { cls := .type "tuple", data := .seq #[.int i tk, u] } := (sb.2 _ (Nat.ne_of_gt hel)).trans hT
    have new : ObjOk X.prog X.w (upd H s.heap.objs.size (.frz { cls := .type "tuple", data := .seq #[.int i tk, u] } (.tup [.int (i : Nat), x]))) h'' s.heap.objs.size (.frz { cls := .type "tuple", data := .seq #[.int i tk, u] } (.tup [.int (i : Nat), x])) := ⟨hT2, by show 2 ≤ sizeLine; decide, [.int i tk, u], .cons ⟨_, rfl⟩ (.cons rx .nil), ⟨_, hT2, rfl, _, rfl⟩⟩
    have I1 : L2.Inv X pins σ (upd H s.heap.objs.size (.frz { cls := .type "tuple", data := .seq #[.int i tk, u] } (.tup [.int (i : Nat), x]))) { s with heap := h'', toks := tk + 1 } :=
      I.turnedNew (t' := tk + 1) (ch := [e, it]) (fun c o hb q => (sb.2 c (fun q' => hb (by simp [q']))).trans (hk c o (fun q' => hb (by simp [q'])) (fun q' => hb (by simp [q'])) q)) hf (Nat.le_refl _) new
    refine ⟨.ref s.heap.objs.size, _, I1, rfl, ⟨_, x, _, rfl, I.hok.fresh (Nat.le_refl _), rfl, ⟨_, rfl, rfl, rfl⟩, fun l hl => by rw [sqK_inj k I hl qx]; exact hx⟩, ⟨⟨u, ?_⟩, ?_⟩, fun c hcm => ?_⟩
    · rw [show ((i + 1 : Nat) : Int) = (i : Int) + 1 by omega]; exact he'
    · exact a2.1.keep fun o q => (sb.2 _ (Ne.symm hne)).trans q
    · have hlt : c < s.heap.objs.size := by
        obtain ⟨o1, e1, _⟩ := itrK_obj h1
        rcases (show c = e ∨ c = it by simpa using hcm) with q | q
        · rw [q]; exact hel
        · rw [q]; exact Heap.lt_size e1
      rw [upd_ne (Nat.ne_of_lt hlt)]
      exact (hf c hcm).1
  done := by
    intro X hP hw hK hc i pins s σ H E I hf st hg
    subst hP hw hK
    obtain ⟨⟨old, he⟩, h1⟩ := st
    obtain ⟨xs, qx, e1⟩ := hg
    obtain ⟨its, rv, p, _⟩ := invK k I qx
    have l1 := rv.length
    have hh : X.A.in1.handled = none := I.ok.hd hc
    have D1 := drawsK k (prog := X.prog) (w := X.w) hh it a hia its.toArray
    have z1 : its.toArray.size = i := by simp; omega
    rw [z1] at D1
    obtain ⟨f0, f1, f2, f3, f4, f5⟩ := hf it (by simp)
    exact wpAny_pyNext_enum_endD D1 he ⟨h1, p⟩ fun h' eb => ⟨rfl, I.turned (t' := s.toks) (fun b o hb q => eb b o hb q) f0 f1 f3 f4 f5⟩
  self := fun A i s Q E st h => let ⟨⟨_, he⟩, _⟩ := st; wpAny_pyIter_enum he h
def iEnK (K : PySem.W.Frag) (ta : TA) : TI := fun σ H R => ta σ H fun vs H1 => ∃ a k xs, vs = [.ref a] ∧ SqK K k H1 a xs ∧ R (IteK K k a) H1
theorem pi_enK {X : Cx} {e : Expr} {ta : TA} {p pos tpos : Pos} {elts : List Expr} {kk : Nat} (hm : X.mg "enumerate" = none) (ha : PA X [e] ta) (hg : Gl X "enumerate" := by rfl) (hs : starEach [e] X.env = [(false, eval e X.env)] := by rfl) :
    PI X (.Tuple elts kk tpos) (.Call (.Name "enumerate" p) [e] [] pos) (iEnK X.K ta) := by
  refine ⟨fun pins s σ H R I h => ?_⟩
  refine Call_ (ld_blt I hg hm boot_enumerate (PyProof.Rows.callWith_type1 (thn (ha.run pos pins s σ H _ I h) fun us s1 ⟨vs, H1, I1, r1, q1⟩ => ?_) hs rfl))
  obtain ⟨a, k, xs, ex, hq, q⟩ := q1
  subst ex
  cases r1 with
  | cons r rr =>
    cases rr
    cases r
    obtain ⟨its, rv, p1, la⟩ := invK k I1 hq
    refine en_begins (beginsK k a its.toArray) p1 fun h' he hit hk => wpAny_pyIter_enum he ?_
    have I2 : L2.Inv X pins σ H1 { s1 with heap := h' } := I1.kept (t' := s1.toks) hk
    refine ⟨s1.heap.objs.size + 1, [s1.heap.objs.size + 1, s1.heap.objs.size], _, _, H1, rfl, I2, turn_enK k (Nat.succ_ne_self _) (Nat.ne_of_gt (Nat.lt_succ_of_lt la)) (Nat.ne_of_lt la), ⟨⟨.none, he⟩, itrK_new k hit⟩, fun b hb => ?_, q⟩
    have hle : s1.heap.objs.size ≤ b := by
      rcases (show b = s1.heap.objs.size + 1 ∨ b = s1.heap.objs.size by simpa using hb) with z | z <;> rw [z] <;> first | exact Nat.le_add_right _ _ | exact Nat.le_refl _
    exact I1.fpOk hle (I1.hok.fresh hle)
section
variable {X : Cx} {M : WM X.K} {W : WX} {a : Expr} {ea : Ev M D}
def enG : Nat → List D → List D
  | _, [] => []
  | i, d :: r => .tup [.int (i : Nat), d] :: enG (i + 1) r
theorem enG_len : ∀ (i : Nat) (l : List D), (enG i l).length = l.length
  | _, [] => rfl
  | i, _ :: r => by simp [enG, enG_len (i + 1) r]
theorem enG_get : ∀ (j : Nat) (l : List D) (i : Nat) (y : D), (enG j l)[i]? = some y → ∃ d, l[i]? = some d ∧ y = .tup [.int ((j + i : Nat) : Int), d]
  | _, [], _, _, h => by simp [enG] at h
  | j, d :: r, 0, y, h => by
    simp [enG] at h
    exact ⟨d, rfl, h.symm⟩
  | j, d :: r, i + 1, y, h => by
    obtain ⟨e, h1, h2⟩ := enG_get (j + 1) r i y (by simpa [enG] using h)
    exact ⟨e, by simpa using h1, by rw [h2]; congr 4; omega⟩
def enumA (d : D) : Option (List D) := (seqL d).map (enG 0)
theorem it_enumA {p pos tpos : Pos} {elts : List Expr} {kk : Nat} (hm : X.mg "enumerate" = none) (ha : PE X a (tD M X.mg W ea)) (hg : Gl X "enumerate" := by rfl) (hs : starEach [a] X.env = (false, eval a X.env) :: starEach [] X.env := by rfl) :
    PI X (.Tuple elts kk tpos) (.Call (.Name "enumerate" p) [a] [] pos) (tIt M W (eI1 enumA ea)) := (pi_enK hm (pa_cons ha pa_nil hs) hg hs).con fun σ H R ⟨ρ, p, hH, ok, en, q⟩ => by
  subst hH
  show tD M X.mg W ea σ p.H fun x H1 => ∃ a k xs, [x] = [.ref a] ∧ SqK X.K k H1 a xs ∧ R (IteK X.K k a) H1
  refine tG.seq ok en q fun r1 x q1 ex1 ok1 es1 dx h1 => ?_
  obtain ⟨d, s1⟩ := r1
  cases z : seqL d with
  | none => simp only [op, enumA, z, Option.map_none] at h1; exact h1.elim
  | some l =>
    simp only [op, enumA, z, Option.map_some] at h1
    obtain ⟨k, a, vs, rfl, a1, a2, a3⟩ := seqL_at ok1 z dx
    refine ⟨a, k, vs, rfl, a1, h1 _ q1 ex1 ok1 es1 fun H' sm => ⟨fun i hi => ⟨vs, a3 H' sm, by rw [a2.length]; rw [enG_len] at hi; exact hi⟩, fun i y hy => ?_⟩⟩
    obtain ⟨e, g1, rfl⟩ := enG_get 0 _ _ _ hy
    obtain ⟨v, g3, g4⟩ := a2.get g1
    refine ⟨⟨vs, a3 H' sm, (List.getElem?_eq_some_iff.mp g3).1⟩, fun x H2 ⟨T, x', ho, e1, e2, e3, nt, e4⟩ => .inr <| .inl ⟨T, ho, _, _, e2, e1, e3, nt.ho, rfl, ?_⟩⟩
    have t1 := e4 vs (a3 H' sm)
    rw [g3] at t1; cases t1
    rw [Nat.zero_add]
    exact ⟨_, _, rfl, rfl, DenL.one g4⟩
end
end VQ
namespace VK
open PySem PySem.Spec PyProof.Rows L2 VQ
def x_BadBeginning : FSpec := [("called", .inr [66, 97, 100, 66, 101, 103, 105, 110, 110, 105, 110, 103])]
noncomputable section
variable {K : PySem.W.Frag} (M : WM K)
def s_law_of (f__law_pull : Dfs M) : Sv M := (sRet [] (eSh (eBinD ixD (eVar M 1) (eSeen (eCall 2 f__law_pull [] (eCons (eVar M 0) (eCons (eSeen (eFun lenD (eCons (eVar M 1) (eNil)))) (eNil))))))))
def w_law_of (pull : Dfs M) : Dfs M := runD 2 (s_law_of M pull)
def s_law_figs : Sv M := (sSeq (sSet 1 [] (eSh (eC M (.str []))))
    (sSeq (sFor [] (eI1 rng1 (eC M (.int 5))) (gtName 2) (sSeq (sSet 1 [] (eSh (eSeen (eBin addD (eSeen (eFun strD (eCons (eSeen (eBin modD (eVar M 0) (eC M (.int 2)))) (eNil)))) (eVar M 1)))))
    (sSet 0 [] (eSh (eSeen (eBin fdivD (eVar M 0) (eC M (.int 2))))))))
    (sRet [] (eSh (eVar M 1)))))
def w_law_figs : Dfs M := runD 3 (s_law_figs M)
def s_law_worth (f__law_of : Dfs M) (f__law_pull : Dfs M) : Sv M := (sRet [] (eCall 2 f__law_of [] (eCons (eVar M 0) (eCons (eSeen (eLst (eCons (eSeen (eCall 2 f__law_pull [] (eCons (eVar M 0) (eCons (eC M (.int 32)) (eNil))))) (eCons (eSeen (eCall 2 f__law_pull [] (eCons (eVar M 0) (eCons (eC M (.int 32)) (eNil))))) (eCons (eSeen (eCall 2 f__law_pull [] (eCons (eVar M 0) (eCons (eC M (.int 4)) (eNil))))) (eCons (eC M (.int 0)) (eCons (eC M (.int 31)) (eNil)))))))) (eNil)))))
def w_law_worth (pull : Dfs M) : Dfs M := runD 1 (s_law_worth M (w_law_of M pull) pull)
def s_law_begin (f__law_of : Dfs M) (f__law_figs : Dfs M) (f__law_worth : Dfs M) : Sv M := (sSeq (sSet 1 [] (eSh (eSeen (eCall 2 f__law_of [] (eCons (eVar M 0) (eCons (eSeen (eLst (eCons (eC M (.int 0)) (eCons (eC M (.int 0)) (eCons (eC M (.int 1)) (eCons (eC M (.int 2)) (eCons (eC M (.int 3)) (eCons (eC M (.int 4)) (eCons (eC M (.int 5)) (eNil)))))))))) (eNil)))))))
    (sRet [] (eSl (eSeen (eCall 1 f__law_figs [] (eCons (eSeen (eCall 1 f__law_worth [] (eCons (eVar M 0) (eNil)))) (eNil)))) (eNoPt) (ePt (eVar M 1)))))
def w_law_begin (pull : Dfs M) : Dfs M := runD 2 (s_law_begin M (w_law_of M pull) (w_law_figs M) (w_law_worth M pull))
def s_law_under (f__law_figs : Dfs M) : Sv M := (sRet [] (eLc [1] (eI1 rng1 (eC M (.int 32))) (gdName 1) (eCmpT eqO (eSeen (eSl (eSeen (eCall 1 f__law_figs [] (eCons (eVar M 1) (eNil)))) (eNoPt) (ePt (eSeen (eFun lenD (eCons (eVar M 0) (eNil))))))) (eVar M 0)) (eVar M 1)))
def w_law_under : Dfs M := runD 2 (s_law_under M (w_law_figs M))
def s_law_same (f__law_same : Dfs M) : Sv M := (sSeq (sIf [] (eCmpT isD (eVar M 1) (eC M .non)) (sRet [] (eSh (eBinD (blD isD) (eVar M 0) (eC M .non)))) (sNil))
    (sSeq (sIf [] (eOr (eTest truD (eUn (fun d => (isT d .bool).map .bl) (eVar M 1))) (eTest truD (eUn (fun d => (isT d .bool).map .bl) (eVar M 0)))) (sRet [] (eSh (eAndV truD (eUn (fun d => (isT d .bool).map .bl) (eVar M 1)) (eAndV truD (eUn (fun d => (isT d .bool).map .bl) (eVar M 0)) (eBinD (blD eqO) (eVar M 0) (eVar M 1)))))) (sNil))
    (sSeq (sIf [] (eTest truD (eUn (fun d => (isTs d (.int :: [.str])).map .bl) (eVar M 1))) (sRet [] (eSh (eAndV truD (eBinD (blD eqO) (eUn (fun d => (isT d .int).map .bl) (eVar M 0)) (eUn (fun d => (isT d .int).map .bl) (eVar M 1))) (eAndV truD (eUn (fun d => (isTs d (.int :: [.str])).map .bl) (eVar M 0)) (eBinD (blD eqO) (eVar M 0) (eVar M 1)))))) (sNil))
    (sSeq (sIf [] (eOr (eCmpT neO (eUn (fun d => (isT d .list).map .bl) (eVar M 0)) (eUn (fun d => (isT d .list).map .bl) (eVar M 1))) (eCmpT neO (eUn (fun d => (isT d .tuple).map .bl) (eVar M 0)) (eUn (fun d => (isT d .tuple).map .bl) (eVar M 1)))) (sRet [] (eSh (eC M (.bl false)))) (sNil))
    (sRet [] (eSh (eAndV truD (eBinD (blD eqO) (eSeen (eFun lenD (eCons (eVar M 0) (eNil)))) (eSeen (eFun lenD (eCons (eVar M 1) (eNil))))) (eSeen (eFun allD (eCons (eSeen (eLc [2] (eI1 rng1 (eSeen (eFun lenD (eCons (eVar M 1) (eNil))))) (gdName 2) (eYes) (eSeen (eCall 2 f__law_same [] (eCons (eBinD ixD (eVar M 0) (eVar M 2)) (eCons (eBinD ixD (eVar M 1) (eVar M 2)) (eNil))))))) (eNil)))))))))))
def w_law_same : Nat → Dfs M
  | 0 => fBad
  | n + 1 => runD 3 (s_law_same M (w_law_same n))
def s_is_beginning : Sv M := (sRet [] (eSh (eAndV truD (eUn (fun d => (isT d .str).map .bl) (eVar M 0)) (eAndV truD (eBinD (blD leD) (eSeen (eFun lenD (eCons (eVar M 0) (eNil)))) (eC M (.int 5))) (eSeen (eFun allD (eCons (eSeen (eLc [1] (eItems anyOf (eVar M 0)) (gdName 1) (eYes) (eBinD (blD inD) (eVar M 1) (eC M (.str [48, 49]))))) (eNil))))))))
def w_is_beginning : Dfs M := runD 2 (s_is_beginning M)
def s_span (f_is_beginning : Dfs M) : Sv M := (sSeq (sIf [] (eNot (eTest truD (eSeen (eCall 1 f_is_beginning [] (eCons (eVar M 0) (eNil)))))) (sRaise "BadBeginning" 0 x_BadBeginning [] (eNil)) (sNil))
    (sSeq (sSet 1 [] (eSh (eC M (.int 0))))
    (sSeq (sFor [] (eItems anyOf (eVar M 0)) (gtName 2) (sSet 1 [] (eSh (eSeen (eBin addD (eSeen (eBin mulD (eC M (.int 2)) (eVar M 1))) (eSeen (eFun intD (eCons (eVar M 2) (eNil)))))))))
    (sSeq (sSet 3 [] (eSh (eSeen (eBin subD (eC M (.int 5)) (eSeen (eFun lenD (eCons (eVar M 0) (eNil))))))))
    (sRet [] (eSh (eTup (eCons (eSeen (eBin shlD (eVar M 1) (eVar M 3))) (eCons (eSeen (eBin shlD (eSeen (eBin addD (eVar M 1) (eC M (.int 1)))) (eVar M 3))) (eNil))))))))))
def w_span : Dfs M := runD 4 (s_span M (w_is_beginning M))
end
theorem lb0 : (0 ≤ big) = True := eq_true (by decide)
theorem lb1 : (1 ≤ big) = True := eq_true (by decide)
theorem lb2 : (2 ≤ big) = True := eq_true (by decide)
theorem lb3 : (3 ≤ big) = True := eq_true (by decide)
theorem lb4 : (4 ≤ big) = True := eq_true (by decide)
theorem lb5 : (5 ≤ big) = True := eq_true (by decide)
theorem lb6 : (6 ≤ big) = True := eq_true (by decide)
theorem lb7 : (7 ≤ big) = True := eq_true (by decide)
theorem lb8 : (8 ≤ big) = True := eq_true (by decide)
theorem lb10 : (10 ≤ big) = True := eq_true (by decide)
theorem lb14 : (14 ≤ big) = True := eq_true (by decide)
theorem lb15 : (15 ≤ big) = True := eq_true (by decide)
theorem lb19 : (19 ≤ big) = True := eq_true (by decide)
theorem add_ii (i j : Int) : addD (.int i) (.int j) = some (.sh (.int (i + j))) := rfl
theorem add_ss {a b : List Nat} (h : a.length + b.length ≤ big) : addD (.str a) (.str b) = some (.sh (.str (a ++ b))) := by simp [addD, h]
theorem add_tt {a b : List D} (h : a.length + b.length ≤ big) : addD (.tup a) (.tup b) = some (.sh (.tup (a ++ b))) := by simp [addD, h]
theorem add_ll {a b : List D} (h : a.length + b.length ≤ big) : addD (.lst a) (.lst b) = some (.fr (.lst (a ++ b))) := by simp [addD, h]
theorem sub_ii (i j : Int) : subD (.int i) (.int j) = some (.sh (.int (i - j))) := rfl
theorem mul_ok {i j : Int} (h1 : small i = true) (h2 : small j = true) : mulD (.int i) (.int j) = some (.sh (.int (i * j))) := by simp [mulD, mul_small h1 h2]
theorem mul_tk {l : List D} {k : Int} (h1 : -1000 ≤ k) (h2 : k ≤ 1000) (h3 : l.length ≤ 1000) : mulD (.tup l) (.int k) = some (.sh (.tup (List.replicate k.toNat l).flatten)) := by simp [mulD, lk_eq, h1, h2, h3]
theorem int_c {c : Nat} (h1 : 48 ≤ c) (h2 : c < 58) : VQ.intD [.str [c]] = some (.sh (.int ((c : Int) - 48))) := by simp [VQ.intD, h1, h2]
theorem shl_ii {i j : Int} (h : 0 ≤ j) (h2 : j ≤ 1000000) (h3 : small i = true) : shlD (.int i) (.int j) = some (.sh (.int (i * 2 ^ j.toNat))) := by simp [shlD, int2, lk_eq, h, h2, h3]
theorem in62_nat {n : Nat} (h : n ≤ 1000000) : in62 ((n : Nat) : Int) = true := by
  have h1 : -(2 ^ 62) ≤ ((n : Nat) : Int) := by omega
  have h2 : ((n : Nat) : Int) < 2 ^ 62 := by omega
  unfold in62
  rw [lk_eq, decide_eq_true h1, decide_eq_true h2]; rfl
theorem rng1_eq {n : Nat} (h : n ≤ 1000000) : rng1 (.int (n : Nat)) = some ((List.range n).map fun k => .int (0 + (k : Nat))) := by
  have e : rng1 (.int (n : Nat)) = if in62 ((n : Nat) : Int) = true then some (VQ.upTo 0 ((n : Nat) : Int).toNat) else none := rfl
  rw [e, if_pos (in62_nat h), Int.toNat_natCast]; rfl
theorem catch_exc {ε ε' α : Type} (e : ε) (f : ε → G ε' α) : (G.exc e : G ε α).catch_ f = f e := rfl
theorem v1_sh (m : List Nat) (i : Nat) (d : D) : view1 m i (some (.sh d)) = some d := rfl
theorem v1_no (m : List Nat) (i : Nat) : view1 m i none = none := rfl
theorem v1_on (m : List Nat) (i : Nat) (d : D) : view1 m i (some (.ow d)) = if m.contains i = true then some d else none := rfl
theorem f1_sh (m : List Nat) (i : Nat) (d : D) : frz1 m i (some (.sh d)) = some (.sh d) := rfl
theorem f1_no (m : List Nat) (i : Nat) : frz1 m i none = none := rfl
theorem f1_on (m : List Nat) (i : Nat) (d : D) : frz1 m i (some (.ow d)) = if m.contains i = true then some (.sh d) else some (.ow d) := rfl
theorem q_bb (a b : Bool) : eqO (.bl a) (.bl b) = some (a == b) := by cases a <;> cases b <;> rfl
theorem q_ss (a b : List Nat) : eqO (.str a) (.str b) = some (a == b) := rfl
theorem q_ii (a b : Int) : eqO (.int a) (.int b) = some (a == b) := rfl
theorem n_bb (a b : Bool) : neO (.bl a) (.bl b) = some (!(a == b)) := by cases a <;> cases b <;> rfl
theorem n_ss (a b : List Nat) : neO (.str a) (.str b) = some (!(a == b)) := rfl
theorem n_ii (a b : Int) : neO (.int a) (.int b) = some (!(a == b)) := rfl
theorem fig2 (j : Int) : figD (j % 2) = [48 + (j % 2).toNat] := by
  rcases Int.emod_two_eq j with h | h <;> rw [h] <;> decide +kernel
theorem log2ok (j : Int) : (j % 2).natAbs.log2 < 1920 := by
  rcases Int.emod_two_eq j with h | h <;> rw [h] <;> decide
theorem str2 (j : Int) : strD [.int (j % 2)] = some (.sh (.str [48 + (j % 2).toNat])) := by
  show (if (j % 2).natAbs.log2 < 1920 then some (R.sh (.str (figD (j % 2)))) else none) = _
  rw [if_pos (log2ok j), fig2]
def begsN : Nat → List (List Nat)
  | 0 => [[]]
  | n + 1 => [] :: ((begsN n).map (48 :: ·) ++ (begsN n).map (49 :: ·))
theorem begsN_mem : ∀ (n : Nat) (l : List Nat), l.length ≤ n → l.all isSign = true → l ∈ begsN n
  | 0, l, h, _ => by
    have : l = [] := List.eq_nil_of_length_eq_zero (by omega)
    subst this; simp [begsN]
  | n + 1, [], _, _ => by simp [begsN]
  | n + 1, c :: l, h, hs => by
    simp only [List.all_cons, Bool.and_eq_true, isSign, Bool.or_eq_true, beq_iff_eq] at hs
    have := begsN_mem n l (by simpa using h) (by simpa [isSign] using hs.2)
    rcases hs.1 with e | e <;> subst e <;> simp [begsN, this]
theorem beg_mem {l : List Nat} (h : beg l = true) : l ∈ begsN 5 := by
  simp only [beg, Bool.and_eq_true, decide_eq_true_eq] at h
  exact begsN_mem 5 l h.1 h.2
theorem beg_len {l : List Nat} (h : beg l = true) : l.length ≤ 5 := by
  simp only [beg, Bool.and_eq_true, decide_eq_true_eq] at h; exact h.1
theorem beg_take {l : List Nat} (h : beg l = true) (k : Nat) : beg (l.take k) = true := by
  simp only [beg, Bool.and_eq_true, decide_eq_true_eq, List.all_eq_true] at h ⊢
  exact ⟨by rw [List.length_take]; omega, fun x hx => h.2 x (List.mem_of_mem_take hx)⟩
theorem b5_beg (i : Int) : beg (b5 i) = true := by
  have : ∀ j : Int, isSign (48 + (j % 2).toNat) = true := fun j => by
    rcases Int.emod_two_eq j with h | h <;> rw [h] <;> decide
  simp [beg, b5, this]
theorem cut_to {α : Type} (l : List α) (k : Nat) : cutL l none (some (k : Int)) = l.take k := by
  unfold cutL
  rw [HT.sIx_none, HT.sIx_nat]
  simp [List.take_eq_take_iff]
theorem cut_from {α : Type} (l : List α) (k : Nat) : cutL l (some (k : Int)) none = l.drop k := by
  unfold cutL
  rw [HT.sIx_none, HT.sIx_nat]
  by_cases h : k ≤ l.length
  · rw [Nat.min_eq_left h]
    exact List.take_of_length_le (by simp)
  · rw [Nat.min_eq_right (by omega), List.drop_of_length_le (Nat.le_refl _), List.drop_of_length_le (by omega)]; simp
theorem cut_last {α : Type} (l : List α) : cutL l none (some (-1)) = l.dropLast := by
  unfold cutL HT.sIx
  simp only [show ((-1 : Int) < 0) from by decide, if_true, List.drop_zero, Nat.sub_zero]
  rw [List.dropLast_eq_take]
  congr 1
  omega
theorem foldl_fst {α β γ : Type} (f : α → γ → α) (g : γ → β) : ∀ (l : List γ) (t : α × β), (l.foldl (fun t c => (f t.1 c, g c)) t).1 = l.foldl f t.1
  | [], _ => rfl
  | c :: l, t => foldl_fst f g l (f t.1 c, g c)
theorem two_pow5 {k : Nat} (h : k ≤ 5) : (2 : Int) ^ k ≤ 32 := by
  have : k = 0 ∨ k = 1 ∨ k = 2 ∨ k = 3 ∨ k = 4 ∨ k = 5 := by omega
  rcases this with e | e | e | e | e | e <;> subst e <;> decide
def valN (l : List Nat) : Int := l.foldl (fun (a : Int) (c : Nat) => 2 * a + ((c : Int) - 48)) 0
theorem val_aux : ∀ (l : List Nat) (a : Int), l.all isSign = true → 0 ≤ a → 0 ≤ l.foldl (fun (a : Int) (c : Nat) => 2 * a + ((c : Int) - 48)) a ∧ l.foldl (fun (a : Int) (c : Nat) => 2 * a + ((c : Int) - 48)) a < (a + 1) * 2 ^ l.length
  | [], a, _, h => ⟨h, by simp; omega⟩
  | c :: l, a, hs, h => by
    simp only [List.all_cons, Bool.and_eq_true, isSign, Bool.or_eq_true, beq_iff_eq] at hs
    have hc := hs.1
    obtain ⟨v0, v1⟩ := val_aux l (2 * a + ((c : Int) - 48)) (by simpa [isSign] using hs.2) (by omega)
    refine ⟨v0, Int.lt_of_lt_of_le v1 ?_⟩
    rw [List.length_cons, Int.pow_succ, Int.mul_comm _ 2, ← Int.mul_assoc]
    exact Int.mul_le_mul_of_nonneg_right (by omega) (Int.le_of_lt (Int.pow_pos (by decide)))
theorem val_lt {l : List Nat} (hs : l.all isSign = true) (h5 : l.length ≤ 5) : 0 ≤ valN l ∧ valN l < 32 := by
  obtain ⟨a, b⟩ := val_aux l 0 hs (by decide)
  have := two_pow5 h5
  exact ⟨a, by unfold valN; omega⟩
theorem b5_len (i : Int) : (b5 i).length = 5 := rfl
section
variable {K : PySem.W.Frag} {M : WM K} {s s' : M.S} {α : Type}
theorem elc_fil {vs : List Nat} {ei : Ev M (List D)} {g : D → Dv → Option Dv} {et : Ev M Bool} {ee : Ev M D} {ρ : Dv} (xs : List α) (inj : α → D) (p : α → Bool) (F : α → D) (he : ei ρ s = .ret (xs.map inj, s')) (hl : xs.length ≤ big) (h : ∀ x ∈ xs, ∃ ρ1, g (inj x) (wipeD vs ρ) = some ρ1 ∧ et ρ1 s' = .ret (p x, s') ∧ (p x = true → ee ρ1 s' = .ret (F x, s'))) :
    eLc vs ei g et ee ρ s = .ret (.fr (.lst ((xs.filter p).map F)), s') := by
  have aux : ∀ (xs : List α) (acc : List D), acc.length + xs.length ≤ big → (∀ x ∈ xs, ∃ ρ1, g (inj x) (wipeD vs ρ) = some ρ1 ∧ et ρ1 s' = .ret (p x, s') ∧ (p x = true → ee ρ1 s' = .ret (F x, s'))) → lcG g et ee (wipeD vs ρ) (xs.map inj) acc s' = .ret (.fr (.lst (acc ++ (xs.filter p).map F)), s') := by
    intro xs
    induction xs with
    | nil => intro acc _ _; simp [lcG]
    | cons x xs ih =>
      intro acc hl h
      obtain ⟨ρ1, e1, e2, e3⟩ := h x (List.mem_cons_self ..)
      simp only [List.length_cons] at hl
      rw [List.map_cons]
      unfold lcG
      rw [e1]
      show ((et ρ1 s').noX.bind _ : Gx M R) = _
      rw [e2]
      cases hp : p x with
      | false =>
        show lcG g et ee _ _ acc s' = _
        rw [ih acc (by omega) fun y hy => h y (List.mem_cons_of_mem _ hy)]
        simp [hp]
      | true =>
        show ((ee ρ1 s').noX.bind _ : Gx M R) = _
        rw [e3 hp]
        show (if acc.length < big then lcG g et ee _ _ (acc ++ [F x]) s' else .bad) = _
        rw [if_pos (by omega), ih _ (by simp; omega) fun y hy => h y (List.mem_cons_of_mem _ hy)]
        simp [hp]
  unfold eLc
  rw [he]
  show lcG g et ee (wipeD vs ρ) (xs.map inj) [] s' = _
  rw [aux xs [] (by simpa using hl) h]; rfl
theorem elc_map {vs : List Nat} {ei : Ev M (List D)} {g : D → Dv → Option Dv} {ee : Ev M D} {ρ : Dv} (xs : List α) (inj : α → D) (F : α → D) (he : ei ρ s = .ret (xs.map inj, s')) (hl : xs.length ≤ big) (h : ∀ x ∈ xs, ∃ ρ1, g (inj x) (wipeD vs ρ) = some ρ1 ∧ ee ρ1 s' = .ret (F x, s')) :
    eLc vs ei g eYes ee ρ s = .ret (.fr (.lst (xs.map F)), s') := by
  rw [elc_fil xs inj (fun _ => true) F he hl fun x hx => by
    obtain ⟨ρ1, h1, h2⟩ := h x hx
    exact ⟨ρ1, h1, rfl, fun _ => h2⟩]
  rw [List.filter_eq_self.mpr fun _ _ => rfl]
theorem for_pre {τ : Type} {ei : Ev M (List D)} {g : D → Nv → Option Nv} {body : Sv M} {ρ : Nv} (xs : List α) (inj : α → D) (env : τ → Nv) (step : τ → α → τ) (t : τ) (he : ei (view [] ρ) s = .ret (xs.map inj, s')) (hρ : ρ = env t) (h : ∀ pre x post, xs = pre ++ x :: post → ∃ ρ1, g (inj x) (env (pre.foldl step t)) = some ρ1 ∧ body ρ1 s' = .ret (.nx (env (step (pre.foldl step t) x)), s')) :
    sFor [] ei g body ρ s = .ret (.nx (env (xs.foldl step t)), s') := by
  have aux : ∀ (ys pre : List α), xs = pre ++ ys → loopG g body (ys.map inj) (env (pre.foldl step t)) s' = .ret (.nx (env (xs.foldl step t)), s') := by
    intro ys
    induction ys with
    | nil => intro pre e; rw [e, List.append_nil]; rfl
    | cons y ys ih =>
      intro pre e
      obtain ⟨ρ1, e1, e2⟩ := h pre y ys e
      rw [List.map_cons]
      unfold loopG
      rw [e1]
      show (body ρ1 s').bind _ = _
      rw [e2]
      have := ih (pre ++ [y]) (by rw [e]; simp)
      rw [List.foldl_append] at this
      exact this
  rw [for_eq he, hρ]
  exact aux xs [] rfl
theorem for_find {ei : Ev M (List D)} {g : D → Nv → Option Nv} {body : Sv M} {ρ : Nv} (xs : List α) (inj : α → D) (env : Option α → Nv) (p : α → Bool) (r : α → R) (he : ei (view [] ρ) s = .ret (xs.map inj, s')) (hρ : ρ = env none) (h : ∀ o, ∀ x ∈ xs, ∃ ρ1, g (inj x) (env o) = some ρ1 ∧ body ρ1 s' = if p x = true then .ret (.rt (r x), s') else .ret (.nx (env (some x)), s')) :
    sFor [] ei g body ρ s = match xs.find? p with | some x => .ret (.rt (r x), s') | none => .ret (.nx (env xs.getLast?), s') := by
  have aux : ∀ (xs : List α) (o : Option α), (∀ o, ∀ x ∈ xs, ∃ ρ1, g (inj x) (env o) = some ρ1 ∧ body ρ1 s' = if p x = true then .ret (.rt (r x), s') else .ret (.nx (env (some x)), s')) → loopG g body (xs.map inj) (env o) s' = match xs.find? p with | some x => .ret (.rt (r x), s') | none => .ret (.nx (env (xs.getLast?.or o)), s') := by
    intro xs
    induction xs with
    | nil => intro o _; rfl
    | cons x xs ih =>
      intro o h
      obtain ⟨ρ1, e1, e2⟩ := h o x (List.mem_cons_self ..)
      rw [List.map_cons]
      unfold loopG
      rw [e1]
      show (body ρ1 s').bind _ = _
      rw [e2, List.find?_cons]
      cases hp : p x with
      | true => rfl
      | false =>
        show loopG g body (xs.map inj) (env (some x)) s' = _
        rw [ih (some x) fun o y hy => h o y (List.mem_cons_of_mem _ hy)]
        cases hf : xs.find? p with
        | some y => rfl
        | none =>
          simp only
          congr 3
          cases xs with
          | nil => rfl
          | cons y ys => simp [List.getLast?_cons]
  rw [for_eq he, hρ, aux xs none h]
  simp
theorem lc_draw {β : Type} {g : D → Dv → Option Dv} {ee : Ev M D} {ρ : Dv} {ds : List D} {Ex : Exc × M.S → Prop} (inj : β → D) (Q : β → Prop) (hl : ds.length ≤ big) (h : ∀ d ∈ ds, ∃ ρ1, g d ρ = some ρ1 ∧ Al (ee ρ1 s) (fun r => ∃ z, Q z ∧ r = (inj z, s)) (fun _ => False)) :
    Al (lcG g eYes ee ρ ds [] s) (fun r => ∃ zs : List β, zs.length = ds.length ∧ (∀ z ∈ zs, Q z) ∧ r = (.fr (.lst (zs.map inj)), s)) Ex := by
  refine (lc_al (fun _ y => ∃ z, Q z ∧ y = inj z) (fun t => t = s) rfl (fun d hd t ht => ?_) (by simpa using hl)).to fun r hr => ?_
  · subst ht
    obtain ⟨ρ1, e1, e2⟩ := h d hd
    refine ⟨ρ1, e1, e2.to fun r hr => ?_⟩
    obtain ⟨z, hz, e⟩ := hr
    subst e
    exact ⟨⟨z, hz, rfl⟩, rfl⟩
  · obtain ⟨ys, h1, h2, h3⟩ := hr
    have aux : ∀ {ds ys : List D}, All2 (fun _ y => ∃ z, Q z ∧ y = inj z) ds ys → ∃ zs : List β, zs.length = ds.length ∧ (∀ z ∈ zs, Q z) ∧ ys = zs.map inj := by
      intro ds ys h
      induction h with
      | nil => exact ⟨[], rfl, by simp, rfl⟩
      | cons h _ ih =>
        obtain ⟨z, hz, rfl⟩ := h
        obtain ⟨zs, a, b, rfl⟩ := ih
        exact ⟨z :: zs, by simp [a], by simpa using ⟨hz, b⟩, rfl⟩
    obtain ⟨zs, a, b, rfl⟩ := aux h2
    obtain ⟨r1, r2⟩ := r
    cases h1; cases h3
    exact ⟨zs, a, b, rfl⟩
theorem frzG_e : ∀ (i : Nat) (ρ : Nv), frzG [] i ρ = ρ
  | _, [] => rfl
  | i, o :: r => by
    unfold frzG
    rw [frzG_e (i + 1) r]
    cases o with
    | none => rfl
    | some v => cases v <;> rfl
theorem all_map (l : List α) (f : α → Bool) : allD [.lst (l.map fun x => .bl (f x))] = some (.sh (.bl (l.all f))) := by
  have : l.map (fun x => D.bl (f x)) = (l.map f).map D.bl := by simp
  show (blsD _).map _ = _
  rw [this, blsD_map]
  simp [List.all_map]
theorem any_map (l : List α) (f : α → Bool) : anyD [.lst (l.map fun x => .bl (f x))] = some (.sh (.bl (l.any f))) := by
  have : l.map (fun x => D.bl (f x)) = (l.map f).map D.bl := by simp
  show (blsD _).map _ = _
  rw [this, blsD_map]
  simp [List.any_map]
end
end VK
namespace VQ
open PySem PySem.Spec PyProof.Rows L2
def eCallK {K : PySem.W.Frag} {M : WM K} (n np nk : Nat) (f : List D → M.S → Gx M R) (g : List D → List D → List D) (ea ek : Ev M (List D)) : Ev M R := fun ρ s => (ea ρ s).bind fun a => (ek ρ a.2).bind fun b => if a.1.length = np ∧ b.1.length = nk ∧ (g a.1 b.1).length = n then f (g a.1 b.1) b.2 else .bad
section
variable {P : Program} {w : World} {K : PySem.W.Frag} {mg : Str → Option Value} {base : Heap} {M : WM K}
theorem kbn_of {x qual : Str} {st : Stmt} {f : Addr} {fd : FuncData} {ps ks : List Str} {np : Nat} (F : Fun K x qual st f fd)
    (h : ∀ (kV doc pm : Value) (an : Option Addr) (cdv ct : Value) (us ws : List Value), us.length = np → ws.length = ks.length → bindArgs (PySem.W.fnOf x qual (defArgs st) (defBody st) (defScope st) .none kV doc pm an cdv ct) ⟨us, ks.zip ws⟩ = pure (ps.zip (us ++ ws))) : KBn K fd ps np ks (fun us ws => us ++ ws) (fun us ws => us ++ ws) := by
  obtain ⟨oc, od, kV, doc, pm, an, cdv, ct, osl, rfl, lk, hcd⟩ := F.ex
  exact ⟨fun s us ws _ h1 h2 => .of_eq (h kV doc pm an cdv ct us ws h1 h2), fun r1 r2 => r1.append r2⟩
end
noncomputable def wTurns : Nat := (Classical.choice ⟨(⟨2 ^ 62, rfl⟩ : {y : Nat // y = 2 ^ 62})⟩).1
theorem wTurns_eq : wTurns = 2 ^ 62 := (Classical.choice ⟨(⟨2 ^ 62, rfl⟩ : {y : Nat // y = 2 ^ 62})⟩).2
section
variable {K : PySem.W.Frag} {M : WM K}
def whileG (m : List Nat) (c : Ev M Bool) (body : Sv M) : Nat → Sv M
  | 0, _, _ => .bad
  | n + 1, ρ, s => (inF m c ρ s).bind fun k => if k.1 = true then (body (behind M m true k.2 ρ) k.2).bind fun f => match f with
      | (.nx ρ2, s2) => whileG m c body n ρ2 s2
      | (.ct ρ2, s2) => whileG m c body n ρ2 s2
      | (.bk ρ2, s2) => .ret (.nx ρ2, s2)
      | (.rt r, s2) => .ret (.rt r, s2)
    else .ret (.nx (behind M m true k.2 ρ), k.2)
noncomputable def sWhile (m : List Nat) (c : Ev M Bool) (body : Sv M) : Sv M := whileG m c body wTurns
def setVs : List Nat → List V → Sl → Sl
  | i :: is, v :: vs, σ => setVs is vs (σ.set i (some v))
  | _, _, σ => σ
def setRs : List Nat → List R → Nv → Nv
  | i :: is, r :: rs, ρ => setRs is rs (ρ.set i (some r.vv))
  | _, _, ρ => ρ
def starRs (j n : Nat) (ds : List D) : List R := (ds.take j).map .sh ++ .fr (.lst ((ds.drop j).take (ds.length + 1 - n))) :: ((ds.drop j).drop (ds.length + 1 - n)).map .sh
def sStar (is : List Nat) (j : Nat) (m : List Nat) (ee : Ev M D) : Sv M := fun ρ s => (inF m ee ρ s).bind fun r => match r.1 with
  | .lst ds => if is.length ≤ ds.length + 1 ∧ ds.length < big ∧ (is.all fun i => decide (i < ρ.length)) = true then .ret (.nx (setRs is (starRs j is.length ds) (behind M m (flat r.1) r.2 ρ)), r.2) else .bad
  | _ => .bad
end
section
variable {X : Cx} {pos : Pos}
def gNms (is : List Nat) : TGs := fun vs σ H Q => vs.length = is.length ∧ Q (setVs is vs σ) H
theorem nm_nil : PGs X [] (gNms []) := pgs_nil.con fun vs σ H Q ⟨h, q⟩ => ⟨List.length_eq_zero_iff.mp h, by
  have : vs = [] := List.length_eq_zero_iff.mp h
  subst this
  exact q⟩
theorem nm_any {s e : Expr} {es : List Expr} (i : Nat) {is : List Nat} (h1 : PG X e (gName i)) (h2 : PGs X es (gNms is)) (hs : (assignEach (s :: es) X.env).map (·.2) = assign e X.env :: (assignEach es X.env).map (·.2)) : PGs X (s :: es) (gNms (i :: is)) := by
  refine ⟨fun pins st σ H vs us Q I r ⟨hl, q⟩ => ?_⟩
  cases r with
  | nil => cases hl
  | cons r rr =>
    rename_i v vs u us
    rw [hs]
    refine assignInOrder_cons (thn (h1.run pins st σ H _ _ (fun σ' H' => gNms is vs σ' H' Q) I r ⟨Nat.succ.inj hl, q⟩) fun _ s1 ⟨σ1, H1, I1, q1⟩ => ?_)
    exact h2.run pins s1 σ1 H1 _ _ Q I1 rr q1
theorem nm_name (i : Nat) {x : Str} {es : List Expr} {is : List Nat} (hN : X.N.Nodup) (h2 : PGs X es (gNms is)) (hi : X.N[i]? = some x := by rfl) (hx : Loc X.env.scope x := by first | exact Or.inl rfl | exact Or.inr rfl)
    (hf : X.fn x = true ∨ X.env.scope.names.lookup x = some .local := by first | exact .inl rfl | exact .inr rfl) : PGs X (.Name x pos :: es) (gNms (i :: is)) := nm_any i (pg_name hN hi hx hf) h2 rfl
theorem nm_star (i : Nat) {x : Str} {es : List Expr} {is : List Nat} {pos' : Pos} (hN : X.N.Nodup) (h2 : PGs X es (gNms is)) (hi : X.N[i]? = some x := by rfl) (hx : Loc X.env.scope x := by first | exact Or.inl rfl | exact Or.inr rfl)
    (hf : X.fn x = true ∨ X.env.scope.names.lookup x = some .local := by first | exact .inl rfl | exact .inr rfl) : PGs X (.Starred (.Name x pos) pos' :: es) (gNms (i :: is)) := nm_any i (pg_name hN hi hx hf) h2 rfl
def gStar (K : PySem.W.Frag) (n j : Nat) (t : TGs) : TG := fun v σ H Q => ∃ a xs, v = .ref a ∧ SqL K H a xs ∧ j < n ∧ n ≤ xs.length + 1 ∧ xs.length < big ∧
  ∀ b, H b = none → t (xs.take j ++ .ref b :: (xs.drop j).drop (xs.length + 1 - n)) σ (upd H b (.lst ((xs.drop j).take (xs.length + 1 - n)))) Q
theorem star_list {prog : Program} {w : World} {A : Around} {E : Value → Shared → Prop} {s : Shared} {l : Addr} {its : List Value} {n j : Nat} {Q : List Value → Shared → Prop} (hl : s.heap.IsList l its.toArray) (hh : A.handled = none) (hj : j < n) (hn : n ≤ its.length + 1) (hz : its.length ≤ sizeLine)
    (h : ∀ (h' : Heap) tk, (∀ b o, s.heap.get? b = some o → h'.get? b = some o) → Q (its.take j ++ .ref h'.objs.size :: (its.drop j).drop (its.length + 1 - n)) { s with heap := h'.push { cls := .type "list", data := .seq ((its.drop j).take (its.length + 1 - n)).toArray }, toks := tk }) :
    wpAny (model prog w) A (unpackItems (.ref l) n (some j)) Q E s := by
  have hsz : its.toArray.size = its.length := by simp
  have lo : l < s.heap.objs.size := by
    obtain ⟨o, ho, _⟩ := id hl
    exact Heap.lt_size ho
  have lne : l ≠ s.heap.objs.size := Nat.ne_of_lt lo
  have e1 : (its.take j).length = j := by rw [List.length_take]; omega
  have e2 : (its.drop j).length = its.length - j := List.length_drop
  have e3 : (its.drop j).length - (n - 1 - j) = its.length + 1 - n := by omega
  unfold unpackItems notIterableAtAll
  refine wpAny_bind (wpAny_bind (wpAny_specialOf hl.typeIs slot_list_iter.lookup (wpAny_pure ?_)))
  rw [if_neg Bool.false_ne_true]
  refine wpAny_bind (wpAny_holding (wpAny_pyIter_list hl ?_))
  refine wpAny_bind (wpAny_holding (PySem.W.kun_draw lne j 0 _ _ ⟨_, Heap.get?_push_size _ rfl, rfl, rfl⟩ (hl.push _) (by omega) fun h1 it1 sb1 => ?_))
  rw [Nat.zero_add] at it1
  have l1 : h1.IsList l its.toArray := (hl.push _).extBut sb1.extBut lne
  have ⟨_, p1, _⟩ := id it1
  have ⟨_, p2, _⟩ := id l1
  show wpAny _ _ (if (its.take j).length < j then _ else _) _ _ _
  rw [if_neg (by omega)]
  refine wpAny_bind (wpAny_holding (PySem.W.kun_collect (s := { s with heap := h1 }) (T := "list_iterator") (.inr (.inr (.inl rfl))) (Walks.list (A := A.in1) hh s.heap.objs.size l lne its.toArray) (fun _ _ st => st.1.typeIs) (k := j) (by omega) ⟨it1, l1⟩ (Heap.lt_size p1) (Heap.lt_size p2) (fun h2 tk kp => ?_) (by rw [hsz]; exact hz)))
  show wpAny _ _ (if (its.drop j).length < n - 1 - j then _ else newList ((its.drop j).take ((its.drop j).length - (n - 1 - j))) >>= fun d => pure (its.take j ++ [d] ++ (its.drop j).drop ((its.drop j).length - (n - 1 - j)))) _ _ _
  rw [if_neg (by omega), e3]
  refine wpAny_bind (wpAny_newList (wpAny_pure ?_) (by rw [List.length_take, e2]; omega))
  have q := h h2 tk fun b o e => kp b o (Nat.ne_of_lt (Heap.lt_size e)) (sb1.extBut b o (Nat.ne_of_lt (Heap.lt_size e)) (Heap.get?_push_of_some _ e))
  rw [List.append_assoc]
  exact q
theorem vals_take {vs : List V} {us : List Value} (h : Vals vs us) : ∀ n, Vals (vs.take n) (us.take n) := fun n => by
  induction h generalizing n with
  | nil => simp; exact .nil
  | cons r t ih => cases n with
    | zero => exact .nil
    | succ n => exact .cons r (ih n)
theorem vals_drop {vs : List V} {us : List Value} (h : Vals vs us) : ∀ n, Vals (vs.drop n) (us.drop n) := fun n => by
  induction h generalizing n with
  | nil => simp; exact .nil
  | cons r t ih => cases n with
    | zero => exact .cons r t
    | succ n => exact ih n
theorem pg_star (j : Nat) {es : List Expr} {k n : Nat} {t : TGs} (hc : X.calm = true) (h : PGs X es t) (hn : (assignEach es X.env).length = n := by rfl) (hst : (assignEach es X.env).findIdx? (·.1) = some j := by rfl) : PG X (.Tuple es k pos) (gStar X.K n j t) := by
  refine ⟨fun pins s σ H v u Q I r hw => ?_⟩
  obtain ⟨a, xs, e1, hq, hj, hl, hb, hw⟩ := hw
  subst e1
  cases r
  obtain ⟨its, rv, pl, hz⟩ := I.list hq
  have len := rv.length
  rw [PyProof.Rows.assign_Tuple]
  refine wpAny_bind (wpAny_standAt ?_)
  unfold unpack
  rw [hn, hst]
  refine wpAny_bind (wpAny_holding (star_list pl.isList (I.ok.hd hc) hj (by omega) (by rw [← len]; exact hz) fun h' tk kp => ?_))
  have I2 : Inv X pins σ H { s with heap := h', toks := tk } := I.kept kp
  have fr : H h'.objs.size = none := I2.hok.fresh (Nat.le_refl _)
  rw [← len]
  have hlm : ((xs.drop j).take (xs.length + 1 - n)).length ≤ sizeLine := by
    rw [List.length_take, List.length_drop]
    exact Nat.le_trans (Nat.min_le_right _ _) (Nat.le_trans (Nat.sub_le _ _) (big_line (Nat.le_of_lt hb)))
  have I3 := I2.laid (t' := tk) (a := h'.objs.size) (o := .lst ((xs.drop j).take (xs.length + 1 - n))) (h' := h'.push { cls := .type "list", data := .seq ((its.drop j).take (xs.length + 1 - n)).toArray }) (fun b u e => Heap.get?_push_of_some _ e) (Nat.le_refl _) ⟨hlm, _, _, vals_take (vals_drop rv _) _, Heap.get?_push_size _ rfl⟩
  exact h.run pins _ σ _ _ _ Q I3 ((vals_take rv j).append (.cons (show RelV (V.ref h'.objs.size) (.ref h'.objs.size) from rfl) (vals_drop (vals_drop rv j) _))) (hw _ fr)
end
section
variable {X : Cx} {M : WM X.K} {W : WX} {en : Pt M} {e : Expr} {pos : Pos} {ea : Ev M D} {ec : Ev M Bool} {m : List Nat}
theorem ss_while (m : List Nat) {c : Expr} {body : List Stmt} {sb : Sv M} (hp : PassesOwn (model X.prog X.w) X.A X.env X.xe) (hc : PT X c (tB' M X.mg W ec)) (hb : PSs X body (tS M X.mg W sb)) : PS X (.While c body [] pos) (tS M X.mg W (sWhile m ec sb)) := (ps_while hp hc hb).con fun Dd σ H ⟨en, ρ, p, hH, rl, q⟩ => by
  subst hH
  refine ⟨fun n σ' H' => ∃ (ρ' : Nv) (p' : Pt M), p'.H = H' ∧ Rel en ρ' σ' p' ∧ (whileG m ec sb n ρ' p'.s).all (SEnd M en Dd) (XSEnd M X.mg en W), ⟨_, ρ, p, rfl, rl, q⟩, ?_⟩
  rintro n σ1 H1 ⟨ρ1, p1, rfl, rl1, q1⟩
  cases n with
  | zero => exact q1.elim
  | succ n =>
    simp only [whileG] at q1
    refine inF_B rl1 q1 fun r q2 e ok es hr => ?_
    obtain ⟨q3, eH, eS, rl3⟩ := behind_b rl1 e ok
    obtain ⟨c, s1⟩ := r
    have es2 : q2.s = s1 := es
    rw [← eH]
    subst es2
    cases c with
    | true =>
      rw [if_pos rfl]
      have hr' : ((sb (behind M m true q2.s ρ1) q2.s).bind _).all _ _ := hr
      refine ⟨fun σ' H' => ∃ (ρ' : Nv) (p' : Pt M), p'.H = H' ∧ Rel en ρ' σ' p' ∧ (whileG m ec sb n ρ' p'.s).all (SEnd M en Dd) (XSEnd M X.mg en W), fun σ' H' h => ⟨n, Nat.lt_succ_self _, h⟩, en, _, q3, rfl, rl3, ?_⟩
      rw [eS]
      refine G.all_mono (fun f hf => ?_) (fun _ h => h) (G.all_bind.mp hr')
      obtain ⟨f, s2⟩ := f
      cases f with
      | nx ρ2 => exact fun σ2 q4 rl4 es4 => ⟨ρ2, q4, rfl, rl4, by rw [es4]; exact hf⟩
      | ct ρ2 => exact fun σ2 q4 rl4 es4 => ⟨ρ2, q4, rfl, rl4, by rw [es4]; exact hf⟩
      | bk ρ2 => exact hf
      | rt r => exact hf
    | false =>
      rw [if_neg Bool.false_ne_true]
      exact hr σ1 q3 rl3 eS
theorem set_shs {q : Pt M} : ∀ (is : List Nat) (ds : List D) (vs : List V) {ρ : Nv} {σ : Sl}, Rel en ρ σ q → DenL X.K q.ad q.Hv ds vs → (is.all fun i => decide (i < ρ.length)) = true → Rel en (setRs is (ds.map .sh) ρ) (setVs is vs σ) q
  | [], ds, vs, _, _, rl, _, _ => by
    show Rel en (setRs [] (ds.map .sh) _) (setVs [] vs _) q
    exact rl
  | i :: is, [], vs, _, _, rl, h, _ => by
    cases h
    exact rl
  | i :: is, d :: ds, _, ρ, σ, rl, ⟨v, r, e, h1, h2⟩, hi => by
    subst e
    rw [List.all_cons, Bool.and_eq_true] at hi
    refine set_shs is ds r (set_rel (r := .sh d) rl h1 (fun _ _ ⟨_, z⟩ => by cases z) i (of_decide_eq_true hi.1)) h2 ?_
    rw [List.length_set]; exact hi.2
theorem set_star {q : Pt M} : ∀ (j : Nat) (is : List Nat) (ds ls : List D) (l : List D) (vs us : List V) (b : Addr) {ρ : Nv} {σ : Sl}, ds.length = j → Rel en ρ σ q → DenL X.K q.ad q.Hv ds vs → DenL X.K q.ad q.Hv ls us → ROk en q (.fr (.lst l)) (.ref b) → (∀ (i : Nat) d, ρ[i]? = some (some (.ow d)) → σ[i]? ≠ some (some (.ref b))) →
    (is.all fun i => decide (i < ρ.length)) = true → Rel en (setRs is (ds.map .sh ++ .fr (.lst l) :: ls.map .sh) ρ) (setVs is (vs ++ .ref b :: us) σ) q
  | 0, [], ds, ls, l, vs, us, b, ρ, σ, hl, rl, h1, h2, h3, ap, hi => by
    have : ds = [] := List.length_eq_zero_iff.mp hl
    subst this
    cases h1
    exact rl
  | 0, i :: is, ds, ls, l, vs, us, b, ρ, σ, hl, rl, h1, h2, h3, ap, hi => by
    have : ds = [] := List.length_eq_zero_iff.mp hl
    subst this
    cases h1
    rw [List.all_cons, Bool.and_eq_true] at hi
    refine set_shs is ls us (set_rel (r := .fr (.lst l)) rl h3 (fun a ha _ j d hj => by cases ha; exact ap j d hj) i (of_decide_eq_true hi.1)) h2 ?_
    rw [List.length_set]; exact hi.2
  | j + 1, [], ds, ls, l, vs, us, b, ρ, σ, hl, rl, h1, h2, h3, ap, hi => by
    cases ds with
    | nil => cases hl
    | cons d ds =>
      obtain ⟨v, r, e, k1, k2⟩ := h1
      subst e
      exact rl
  | j + 1, i :: is, ds, ls, l, vs, us, b, ρ, σ, hl, rl, h1, h2, h3, ap, hi => by
    cases ds with
    | nil => cases hl
    | cons d ds =>
      obtain ⟨v, r, e, k1, k2⟩ := h1
      subst e
      rw [List.all_cons, Bool.and_eq_true] at hi
      refine set_star j is ds ls l r us b (Nat.succ.inj hl) (set_rel (r := .sh d) rl k1 (fun _ _ ⟨_, z⟩ => by cases z) i (of_decide_eq_true hi.1)) k2 h2 h3 (fun i' d' hi' => ?_) (by rw [List.length_set]; exact hi.2)
      have hi' : (ρ.set i (some (.sh d)))[i']? = some (some (.ow d')) := hi'
      have ne : i ≠ i' := fun z => by
        subst z
        rw [List.getElem?_set_self (of_decide_eq_true hi.1)] at hi'
        cases hi'
      rw [List.getElem?_set_ne ne] at hi' ⊢
      exact ap i' d' hi'
theorem ss_star (is : List Nat) (j : Nat) (m : List Nat) {es : List Expr} {k : Nat} {p1 : Pos} (hc : X.calm = true) (he : PE X e (tD M X.mg W ea)) (hn : PGs X es (gNms is)) (hj : j < is.length := by decide) (hl : (assignEach es X.env).length = is.length := by rfl) (hst : (assignEach es X.env).findIdx? (·.1) = some j := by rfl)
    (hs : swapsWithSole [.Tuple es k p1] e pos.line X.env = pure false := by rfl) (hw : swappedStores [.Tuple es k p1] e X.env = pure none := by rfl) (h1 : (assignEach [.Tuple es k p1] X.env).map (·.2) = [assign (.Tuple es k p1) X.env] := by rfl) :
    PS X (.Assign [.Tuple es k p1] e pos) (tS M X.mg W (sStar is j m ea)) := (ps_asg he (pg_star j hc hn hl hst) hs hw h1).con fun Dd σ H ⟨en, ρ, p, hH, rl, q⟩ => by
  subst hH
  show tD M X.mg W ea σ p.H fun x H1 => gStar X.K is.length j (gNms is) x σ H1 Dd.nx
  refine inF_V rl q fun r v q1 e ok es dv hr => ?_
  obtain ⟨q2, eH, eS, rl2, rk2, _⟩ := behind_ok (r := .sh r.1) rl e ok dv
  obtain ⟨d, s1⟩ := r
  obtain rfl : q1.s = s1 := es
  obtain ⟨ds, rfl⟩ : ∃ ds, d = .lst ds := by
    cases d <;> first | (exact hr.elim) | exact ⟨_, rfl⟩
  simp only at hr
  split at hr
  · rename_i hc
    obtain ⟨a, vs, rfl, k1, k2⟩ := (rk2 : Den X.K q2.ad q2.Hv (.lst ds) v)
    have len := k2.length
    rw [← eH]
    refine ⟨a, vs, rfl, SqL.of (rl2.ok.view _ _ k1), hj, by rw [len]; exact hc.1, by rw [len]; exact hc.2.1, fun b hb => ⟨?_, ?_⟩⟩
    · have := hj
      have := hc.1
      simp only [List.length_append, List.length_cons, List.length_take, List.length_drop, len]
      omega
    · rw [len]
      have dl : ∀ n, DenL X.K q2.ad q2.Hv (ds.take n) (vs.take n) := fun n => k2.take n
      have dr : ∀ n, DenL X.K q2.ad q2.Hv (ds.drop n) (vs.drop n) := fun n => k2.drop n
      have dm : DenL X.K q2.ad q2.Hv ((ds.drop j).take (ds.length + 1 - is.length)) ((vs.drop j).take (ds.length + 1 - is.length)) := (dr j).take _
      have rl3 : Rel en _ σ (q2.hid b (.lst ((vs.drop j).take (ds.length + 1 - is.length)))) := rel_hid rl2 hb
      have lt : (ds.take j).length = j := by
        have := hj
        have := hc.1
        rw [List.length_take]; omega
      have nx : en.H b = none ∨ en.F b := newOld rl2.ext hb
      have := set_star (q := q2.hid b (.lst ((vs.drop j).take (ds.length + 1 - is.length)))) j is (ds.take j) ((ds.drop j).drop (ds.length + 1 - is.length)) ((ds.drop j).take (ds.length + 1 - is.length)) (vs.take j) ((vs.drop j).drop (ds.length + 1 - is.length)) b lt rl3 (dl j) ((dr j).drop _)
        ⟨b, _, rfl, upd_same, rl2.ok.vn hb, rl2.ok.fn hb, nx, dm⟩ (fun i d hi hs => by
          obtain ⟨a', o, h1, h2, _⟩ := rl2.ow i d hi
          rw [hs] at h1; cases h1
          rw [hb] at h2; cases h2) (by rw [behind_len]; exact hc.2.2)
      exact hr _ _ this eS
  · exact hr.elim
end
def maxI (n : Int) (r : List Int) : Int := r.foldl (fun a b => if a ≤ b then b else a) n
theorem begin_obj (K : PySem.W.Frag) (CT : Ctab) : Begin (objI K CT) ([] : Ost) := fun ad H h => ⟨fun n hn => absurd hn (Nat.not_lt_zero n), fun n _ => h n, fun i j a _ _ hi _ => (by rw [h i] at hi; cases hi), fun n c e => (by simp at e), fun b hb => False.elim hb⟩
section
variable {K : PySem.W.Frag} {M : OM K}
abbrev Pt.os {K : PySem.W.Frag} {M : OM K} (p : Pt M.w) : Ost := p.s
theorem obj_rep {p : Pt M.w} (ok : p.Ok) : ∃ FI, InnerOk (objI K M.CT) p.os p.ad M.b M.l p.F FI p.Hv p.H := by
  obtain ⟨_, _, _, _, _, _, h⟩ := ok.rep
  exact h
theorem obj_at {p : Pt M.w} (ok : p.Ok) {n : Nat} {c : Cell} (e : p.os[n]? = some (some c)) : ∃ a, p.ad (n + 1) = some a ∧ p.F a ∧ CellAt K M.CT p.ad p.F p.Hv p.H a c := by
  obtain ⟨FI, h⟩ := obj_rep ok
  obtain ⟨a, h1, h2, h3⟩ := ObjRep.at_ h.rep n c e
  exact ⟨a, h1, (h.sub a h2).1, h3.stay Same.rfl' (fun _ _ z => z) (fun x z => (h.sub x z).1) h2 fun _ _ _ _ z => z⟩
theorem live_set {s : Ost} {n i : Nat} {c : Cell} {o : Option Cell} (e : s[n]? = some (some c)) (h : ∃ d, (s.set n o)[i]? = some (some d)) : ∃ d, s[i]? = some (some d) := by
  obtain ⟨d, hd⟩ := h
  by_cases z : n = i
  · exact ⟨c, by rw [← z]; exact e⟩
  · rw [List.getElem?_set_ne z] at hd
    exact ⟨d, hd⟩
theorem obj_write {p : Pt M.w} (ok : p.Ok) {n : Nat} {c c' : Cell} {a : Addr} {o' : HO} (e : p.os[n]? = some (some c)) (ha : p.ad (n + 1) = some a) (hn : ∀ ps, o' ≠ .tbl ps)
    (h : ∀ F, (∃ o, p.H a = some o) → CellAt K M.CT p.ad F p.Hv p.H a c → CellAt K M.CT p.ad F p.Hv (upd p.H a o') a c') (hd : ∀ b o, p.H b = some o → o ≠ .own b → True) (hno : ∀ x, p.H a ≠ some (.own x)) (hn2 : ∀ vs, o' ≠ .tup vs := by intro _ z; cases z) :
    Ext p (⟨p.os.set n (some c'), p.F, p.Hv, upd p.H a o', p.ad⟩ : Pt M.w) ∧ (⟨p.os.set n (some c'), p.F, p.Hv, upd p.H a o', p.ad⟩ : Pt M.w).Ok := by
  obtain ⟨hb0, fb, fl, ht, ⟨ne, ns, cc, g, st, k, e2, e3, e4⟩, hdm, FI, hi⟩ := ok.rep
  have hrep : ObjRep K M.CT p.os p.ad FI p.Hv p.H := hi.rep
  obtain ⟨a1, i1, i2, i3⟩ := hrep.at_ n c e
  obtain rfl : a1 = a := Option.some.inj (i1.symm.trans ha)
  obtain ⟨fa, na, nl⟩ := hi.sub a1 i2
  have va : p.Hv a1 = none := ok.off a1 fa
  have ex : ∃ o, p.H a1 = some o := let ⟨o, q, _⟩ := hdm _ fa; ⟨o, q⟩
  refine ⟨⟨Same.rfl', fun x o hx nf => ?_, fun x o hx => .inl ⟨o, hx⟩, fun _ h => .inl h, fun _ _ h => h⟩, ⟨fun x o hx => ?_, ok.off, ⟨hb0, fb, fl, fun q hq => ?_, ⟨ne, ns, cc, g, st, k, ?_, ?_, e4⟩, fun x hx => ?_, FI, hi.sub, ⟨fun m hm => ?_, fun m hm => ?_, fun i j b li lj => hrep.inj i j b (live_set e li) (live_set e lj), fun m d hm => ?_, fun x hx => ?_⟩⟩⟩⟩
  · have : x ≠ a1 := fun z => nf (z ▸ fa)
    show upd p.H a1 o' x = some o
    rw [upd_ne this]; exact hx
  · have : x ≠ a1 := fun z => by rw [z, va] at hx; cases hx
    show upd p.H a1 o' x = some o
    rw [upd_ne this]; exact ok.view _ _ hx
  · obtain ⟨f1, ps, f2, f3, f4⟩ := ht q hq
    have n1 : q.1 ≠ a1 := fun z => by
      obtain ⟨o, h1, h2⟩ := hrep.nt a1 i2
      rw [← z, f2] at h1; cases h1
      exact h2 ps rfl
    refine ⟨f1, ps, by show upd p.H a1 o' q.1 = _; rw [upd_ne n1]; exact f2, f3, fun pos cv ev => ?_⟩
    obtain ⟨c0, c1, c2, c3⟩ := f4 pos cv ev
    have n2 : c0 ≠ a1 := fun z => by
      rw [z] at c2
      cases c with
      | ins x fs => obtain ⟨C, dx, fv, _, q, _⟩ := i3; rw [q] at c2; unfold LamX.CodeO at c2; cases c2
      | lst l => obtain ⟨vs, q, _⟩ := i3; rw [q] at c2; unfold LamX.CodeO at c2; cases c2
      | dk l => obtain ⟨vs, q, _⟩ := i3; rcases q with q | ⟨_, q⟩ <;> (rw [q] at c2; unfold LamX.CodeO at c2; cases c2)
      | dt l => obtain ⟨vs, q, _⟩ := i3; rcases q with q | ⟨_, q⟩ <;> (rw [q] at c2; unfold LamX.CodeO at c2; cases c2)
    exact ⟨c0, c1, by show upd p.H a1 o' c0 = _; rw [upd_ne n2]; exact c2, c3⟩
  · show upd p.H a1 o' M.b = _
    rw [upd_ne (Ne.symm na)]; exact e2
  · show upd p.H a1 o' M.l = _
    rw [upd_ne (Ne.symm nl)]; exact e3
  · by_cases z : x = a1
    · exact ⟨o', by rw [z]; exact upd_same, hn2⟩
    · obtain ⟨o, q, n⟩ := hdm x hx
      exact ⟨o, by show upd p.H a1 o' x = _; rw [upd_ne z]; exact q, n⟩
  · have hm : m < (p.os.set n (some c')).length := hm
    rw [List.length_set] at hm
    exact hrep.lo m hm
  · have hm : (p.os.set n (some c')).length ≤ m := hm
    rw [List.length_set] at hm
    exact hrep.hi m hm
  · have hm : (p.os.set n (some c'))[m]? = some (some d) := hm
    have hlt : n < p.os.length := (List.getElem?_eq_some_iff.mp e).1
    by_cases z : n = m
    · subst z
      rw [List.getElem?_set_self hlt] at hm
      obtain rfl : c' = d := Option.some.inj (Option.some.inj hm)
      exact ⟨a1, i1, i2, h FI ex i3⟩
    · rw [List.getElem?_set_ne z] at hm
      obtain ⟨a2, j1, j2, j3⟩ := hrep.at_ m d hm
      refine ⟨a2, j1, j2, j3.stay Same.rfl' (fun _ _ z => z) (fun _ z => z) j2 fun b o fb hb hbo => ?_⟩
      have : b ≠ a1 := fun z2 => by
        rcases hb with hb | hb
        · exact z (hrep.inj n m a1 ⟨_, e⟩ ⟨_, hm⟩ i1 (by rw [← z2, hb]; exact j1))
        · rw [z2] at hb; exact hno _ hb
      show upd p.H a1 o' b = some o
      rw [upd_ne this]; exact hbo
  · by_cases z : x = a1
    · exact ⟨o', by rw [z]; exact upd_same, hn⟩
    · obtain ⟨o, q1, q2⟩ := hrep.nt x hx
      exact ⟨o, by show upd p.H a1 o' x = _; rw [upd_ne z]; exact q1, q2⟩
def adN (ad : Nat → Option Addr) (n : Nat) (a : Addr) : Nat → Option Addr := fun m => if m = n + 1 then some a else ad m
theorem adN_old {ad : Nat → Option Addr} {n : Nat} {a : Addr} (h : ad (n + 1) = none) : ∀ m b, ad m = some b → adN ad n a m = some b := fun m b e => by
  unfold adN
  rw [if_neg]
  · exact e
  · intro z; rw [z, h] at e; cases e
theorem adN_new {ad : Nat → Option Addr} {n : Nat} {a : Addr} : adN ad n a (n + 1) = some a := by unfold adN; rw [if_pos rfl]
theorem obj_more {p0 p : Pt M.w} (ok : p.Ok) (e0 : Ext p0 p) {c : Cell} {a : Addr} {N : Addr → Prop} {H' : Hp} (hk : ∀ b o, p.H b = some o → H' b = some o) (hN : ∀ x, N x → (p0.H x = none ∨ p0.F x) ∧ p.Hv x = none ∧ ¬ p.F x ∧ ∃ o, H' x = some o ∧ (∀ ps, o ≠ .tbl ps) ∧ ∀ vs, o ≠ .tup vs) (na : N a)
    (hc : CellAt K M.CT (adN p.ad p.os.length a) N p.Hv H' a c) : Ext p0 (⟨p.os ++ [some c], fun x => p.F x ∨ N x, p.Hv, H', adN p.ad p.os.length a⟩ : Pt M.w) ∧ (⟨p.os ++ [some c], fun x => p.F x ∨ N x, p.Hv, H', adN p.ad p.os.length a⟩ : Pt M.w).Ok := by
  obtain ⟨hb0, fb, fl, ht, ⟨ne, ns, cc, g, st, k, e2, e3, e4⟩, hdm, FI, hi⟩ := ok.rep
  have hrep : ObjRep K M.CT p.os p.ad FI p.Hv p.H := hi.rep
  have hnew : p.ad (p.os.length + 1) = none := hrep.hi _ (Nat.le_refl _)
  have old := adN_old (a := a) hnew
  have nf : ∀ x, FI x → x ≠ a := fun x fx z => (hN a na).2.2.1 (z ▸ (hi.sub x fx).1)
  refine ⟨⟨e0.view, fun x o hx nfx => hk _ _ (e0.frame x o hx nfx), e0.new, fun x hx => ?_, fun n b hn => old n b (e0.ad n b hn)⟩, ⟨fun x o hx => hk _ _ (ok.view _ _ hx), fun x hx => ?_, old 0 _ hb0, .inl fb, .inl fl, fun q hq => ?_, ⟨ne, ns, cc, g, st, k, hk _ _ e2, hk _ _ e3, e4⟩, fun x hx => ?_, fun x => FI x ∨ N x, fun x hx => ?_, ⟨fun m hm => ?_, fun m hm => ?_, fun i j b hli hlj h1 h2 => ?_, fun m d hm => ?_, fun x hx => ?_⟩⟩⟩
  · rcases hx with hx | hx
    · exact e0.foot x hx
    · exact (hN x hx).1.symm
  · rcases hx with hx | hx
    · exact ok.off x hx
    · exact (hN x hx).2.1
  · obtain ⟨f1, ps, f2, f3, f4⟩ := ht q hq
    refine ⟨.inl f1, ps, hk _ _ f2, f3, fun pos cv ev => ?_⟩
    obtain ⟨c0, c1, c2, c3⟩ := f4 pos cv ev
    exact ⟨c0, c1, hk _ _ c2, .inl c3⟩
  · rcases hx with hx | hx
    · obtain ⟨o, q, n⟩ := hdm x hx
      exact ⟨o, hk _ _ q, n⟩
    · obtain ⟨o, q, _, n⟩ := (hN x hx).2.2.2
      exact ⟨o, q, n⟩
  · rcases hx with hx | hx
    · exact ⟨.inl (hi.sub x hx).1, (hi.sub x hx).2⟩
    · refine ⟨.inr hx, fun z => (hN x hx).2.2.1 (z ▸ fb), fun z => (hN x hx).2.2.1 (z ▸ fl)⟩
  · have hm : m < (p.os ++ [some c]).length := hm
    rw [List.length_append, List.length_singleton] at hm
    by_cases z : m = p.os.length
    · subst z; exact ⟨a, adN_new⟩
    · obtain ⟨b, h1⟩ := hrep.lo m (by omega)
      exact ⟨b, old _ _ h1⟩
  · have hm : (p.os ++ [some c]).length ≤ m := hm
    rw [List.length_append, List.length_singleton] at hm
    show adN p.ad p.os.length a (m + 1) = none
    unfold adN
    rw [if_neg (by omega)]
    exact hrep.hi m (by omega)
  · have h1 : adN p.ad p.os.length a (i + 1) = some b := h1
    have h2 : adN p.ad p.os.length a (j + 1) = some b := h2
    have key : ∀ i, (∃ d, (p.os ++ [some c])[i]? = some (some d)) → adN p.ad p.os.length a (i + 1) = some b → (i = p.os.length ∧ b = a) ∨ (p.ad (i + 1) = some b ∧ b ≠ a ∧ ∃ d, p.os[i]? = some (some d)) := fun i ⟨d, hd⟩ h => by
      unfold adN at h
      split at h
      · exact .inl ⟨by omega, (Option.some.inj h).symm⟩
      · refine .inr ⟨h, ?_⟩
        have hlt : i < p.os.length := Classical.byContradiction fun z => by rw [hrep.hi i (by omega)] at h; cases h
        rw [List.getElem?_append_left hlt] at hd
        obtain ⟨b', q1, q2, _⟩ := hrep.at_ i d hd
        rw [h] at q1; cases q1
        exact ⟨nf _ q2, d, hd⟩
    rcases key i hli h1 with ⟨k1, k2⟩ | ⟨k1, k2, k3⟩ <;> rcases key j hlj h2 with ⟨l1, l2⟩ | ⟨l1, l2, l3⟩
    · omega
    · exact absurd k2 l2
    · exact absurd l2 k2
    · exact hrep.inj i j b k3 l3 k1 l1
  · have hm : (p.os ++ [some c])[m]? = some (some d) := hm
    by_cases z : m < p.os.length
    · rw [List.getElem?_append_left z] at hm
      obtain ⟨b, j1, j2, j3⟩ := hrep.at_ m d hm
      exact ⟨b, old _ _ j1, .inl j2, j3.stay Same.rfl' old (fun _ h => .inl h) j2 fun x o _ _ h => hk _ _ h⟩
    · rw [List.getElem?_append_right (by omega)] at hm
      have z2 : m = p.os.length := by
        cases hh : m - p.os.length with
        | zero => omega
        | succ k => rw [hh] at hm; simp at hm
      subst z2
      simp at hm
      subst hm
      exact ⟨a, adN_new, .inr na, hc.stay Same.rfl' (fun _ _ h => h) (fun _ h => .inr h) na fun _ _ _ _ h => h⟩
  · rcases hx with hx | hx
    · obtain ⟨o, q1, q2⟩ := hrep.nt x hx
      exact ⟨o, hk _ _ q1, q2⟩
    · obtain ⟨o, q1, q2, _⟩ := (hN x hx).2.2.2
      exact ⟨o, q1, q2⟩
def cellOf : D → Option Cell
  | .lst l => some (.lst l)
  | .dk l => some (.dk l)
  | .dt l => some (.dt l)
  | _ => none
theorem obj_adopt {p0 p : Pt M.w} (ok : p.Ok) (e0 : Ext p0 p) {d : D} {c : Cell} {v : V} (h : ROk p0 p (.fr d) v) (hc : cellOf d = some c) : ∃ (q : Pt M.w) (a : Addr), v = .ref a ∧ q.H = p.H ∧ q.s = p.os ++ [some c] ∧ q.Hv = p.Hv ∧ (∀ x, q.F x ↔ p.F x ∨ x = a) ∧ q.ad = adN p.ad p.os.length a ∧ Ext p0 q ∧ q.Ok ∧ Ext p0 p ∧ (∀ m b, p.ad m = some b → q.ad m = some b) := by
  obtain ⟨a, o, rfl, h1, h2, h3, h4, h5⟩ := h
  have hrep : ∃ FI, InnerOk (objI K M.CT) p.os p.ad M.b M.l p.F FI p.Hv p.H := obj_rep ok
  obtain ⟨FI, hi⟩ := hrep
  have hrep : ObjRep K M.CT p.os p.ad FI p.Hv p.H := hi.rep
  have old := adN_old (a := a) (hrep.hi p.os.length (Nat.le_refl _))
  have hnt : ∀ ps, o ≠ .tbl ps := fun ps z => by
    subst z
    cases d <;> exact False.elim h5
  have hnu : ∀ vs, o ≠ .tup vs := fun vs z => by
    subst z
    cases d <;> exact False.elim h5
  have hcell : CellAt K M.CT (adN p.ad p.os.length a) (fun x => x = a) p.Hv p.H a c := by
    cases d <;> cases hc <;> cases o <;> first | exact False.elim h5 | skip
    · exact ⟨_, h1, DenL.mono Same.rfl' old h5⟩
    · exact ⟨_, .inl h1, DenK.mono Same.rfl' old h5⟩
    · exact ⟨_, .inl h1, DenT.mono Same.rfl' old h5⟩
  obtain ⟨m1, m2⟩ := obj_more (p0 := p0) (p := p) ok e0 (c := c) (a := a) (N := fun x => x = a) (H' := p.H) (fun _ _ h => h) (fun x hx => by subst hx; exact ⟨h4, h2, h3, o, h1, hnt, hnu⟩) rfl hcell
  exact ⟨⟨p.os ++ [some c], fun x => p.F x ∨ x = a, p.Hv, p.H, adN p.ad p.os.length a⟩, a, rfl, rfl, rfl, rfl, fun _ => Iff.rfl, rfl, m1, m2, e0, old⟩
end
def noM (K : PySem.W.Frag) (A0 : Nat → Option Addr) : WM K where
  S := Unit
  rep := fun _ ad F _ H => ad = A0 ∧ ∀ x, F x → ∃ o, H x = some o ∧ ∀ vs, o ≠ .tup vs
  flat := fun _ => true
  stay := fun ⟨h1, h2⟩ _ hk => ⟨h1, fun x hx => by
    obtain ⟨o, e, n⟩ := h2 x hx
    exact ⟨o, hk _ _ hx e, n⟩⟩
  less := fun _ h _ => h
  dom := fun h hx => h.2 _ hx
  lck := fun ⟨h1, h2⟩ _ hk => ⟨h1, fun x hx => by
    obtain ⟨o, e, n⟩ := h2 x hx
    obtain ⟨o', e', d⟩ := hk _ _ hx e
    exact ⟨o', e', d.notup n⟩⟩
  T := []
  tabs := fun _ _ h => by cases h
  grow := fun ⟨h1, _⟩ _ _ _ hD => ⟨h1, hD⟩
section
variable {K : PySem.W.Frag} {M : WM K}
abbrev isLD : HO → Prop := IsLd
def DenU (p : Pt M) (d : D) (x : V) : Prop := Den K p.ad p.Hv d x ∨ ∃ a o, x = .ref a ∧ p.F a ∧ p.H a = some o ∧ HoR K p.ad p.Hv o d
def DenUL (p : Pt M) : List D → List V → Prop
  | [], vs => vs = []
  | d :: ds, vs => ∃ v r, vs = v :: r ∧ DenU p d v ∧ DenUL p ds r
noncomputable def Pt.bare (p : Pt M) (O : Addr → Prop) : Pt (noM K p.ad) := by
  classical exact ⟨(), fun _ => False, fun b => if O b then p.H b else p.Hv b, p.H, p.ad⟩
theorem hoDen_ld {ad : Nat → Option Addr} {Hv : Hp} {o : HO} {d : D} (h : HoR K ad Hv o d) : isLD o := by
  rcases h with h | ⟨x, u, rfl, i, h⟩
  · cases o <;> cases d <;> first | exact False.elim h | trivial
  · exact i
theorem bare_same {p : Pt M} (ok : p.Ok) (O : Addr → Prop) : Same p.Hv (p.bare O).Hv := fun b o e => by
  classical
  show (if O b then p.H b else p.Hv b) = some o
  split
  · exact ok.view _ _ e
  · exact e
theorem bare_ok {p : Pt M} (ok : p.Ok) (O : Addr → Prop) : (p.bare O).Ok := by
  classical
  refine ⟨fun b o e => ?_, fun b f => False.elim f, rfl, fun x hx => False.elim hx⟩
  have e' : (if O b then p.H b else p.Hv b) = some o := e
  split at e'
  · exact e'
  · exact ok.view _ _ e'
theorem bare_den {p : Pt M} (ok : p.Ok) {O : Addr → Prop} {d : D} {x : V} (h : DenU p d x) (hO : ∀ a o, x = .ref a → p.F a → p.H a = some o → isLD o → O a) : Den K (p.bare O).ad (p.bare O).Hv d x := by
  classical
  rcases h with h | ⟨a, o, rfl, fa, ha, hd⟩
  · exact h.mono (bare_same ok O) fun _ _ z => z
  · refine HoR.den (hd.mono (bare_same ok O) fun _ _ z => z) ?_
    show (if O a then p.H a else p.Hv a) = some o
    rw [if_pos (hO a o rfl fa ha (hoDen_ld hd))]; exact ha
theorem bare_denL {p : Pt M} (ok : p.Ok) {O : Addr → Prop} : ∀ {ds : List D} {xs : List V}, DenUL p ds xs → (∀ a o, p.F a → p.H a = some o → isLD o → O a) → DenL K (p.bare O).ad (p.bare O).Hv ds xs
  | [], _, h, _ => h
  | d :: ds, _, ⟨v, r, e, h, t⟩, hO => by
    subst e
    exact ⟨v, r, rfl, bare_den ok h fun a o _ => hO a o, bare_denL ok t hO⟩
theorem bare_back {p : Pt M} (ok : p.Ok) {O : Addr → Prop} (hO : ∀ a, O a → p.F a ∧ ∀ o, p.H a = some o → isLD o) {q0 : Pt (noM K p.ad)} (e : Ext (p.bare O) q0) (ok0 : q0.Ok) {res : R} {v : V} (rk : ROk (p.bare O) q0 res v) (hf : flatR res = true) :
    ∃ q : Pt M, q.H = q0.H ∧ q.s = p.s ∧ Ext p q ∧ q.Ok ∧ ROk p q res v := by
  classical
  have had : q0.ad = p.ad := ok0.rep.1
  have hH : Same p.H q0.H := fun b o h => e.frame b o h fun z => z
  have sm : Same p.Hv (fun b => if O b then none else q0.Hv b) := fun b o h => by
    have nb : ¬ O b := fun z => by rw [ok.off b (hO b z).1] at h; cases h
    show (if O b then none else q0.Hv b) = some o
    rw [if_neg nb]
    exact e.view b o (bare_same ok O _ _ h)
  have nw : ∀ b o, (if O b then none else q0.Hv b) = some o → (∃ o', p.Hv b = some o') ∨ p.H b = none ∨ TpAt p.H b := fun b o h => by
    split at h
    · cases h
    · rename_i nb
      rcases e.new b o h with ⟨o', z⟩ | z | z
      · have z' : (if O b then p.H b else p.Hv b) = some o' := z
        rw [if_neg nb] at z'
        exact .inl ⟨o', z'⟩
      · exact .inr (.inl z)
      · exact .inr (.inr (z.elim False.elim fun z => z))
  have ex : Ext p (⟨p.s, p.F, fun b => if O b then none else q0.Hv b, q0.H, p.ad⟩ : Pt M) := ⟨sm, fun b o h _ => hH b o h, fun b o h => by
    rcases nw b o h with z | z | z
    · exact .inl z
    · exact .inr (.inl z)
    · exact .inr (.inr (.inr z)), fun _ h => .inl h, fun _ _ h => h⟩
  have ls : Less q0.Hv (fun b => if O b then none else q0.Hv b) := fun b o h => by
    by_cases z : O b
    · refine .inr ?_
      have h1 := ok0.view b o h
      obtain ⟨fb, ld⟩ := hO b z
      obtain ⟨u, hu, hnt⟩ := M.dom ok.rep fb
      have := hH b u hu
      rw [h1] at this; cases this
      have := ld _ hu
      exact this
    · refine .inl ?_
      show (if O b then none else q0.Hv b) = some o
      rw [if_neg z]; exact h
  refine ⟨⟨p.s, p.F, fun b => if O b then none else q0.Hv b, q0.H, p.ad⟩, rfl, rfl, ex, ⟨fun b o h => ?_, fun b fb => ?_, M.stay ok.rep sm fun b o _ h => hH b o h⟩, ?_⟩
  · have h' : (if O b then none else q0.Hv b) = some o := h
    split at h'
    · cases h'
    · exact ok0.view _ _ h'
  · show (if O b then none else q0.Hv b) = none
    cases z : (if O b then none else q0.Hv b) with
    | none => rfl
    | some o =>
      rcases nw b o z with ⟨o', z'⟩ | z' | ⟨vs, z'⟩
      · rw [ok.off b fb] at z'; cases z'
      · obtain ⟨u, hu, hnt⟩ := M.dom ok.rep fb
        rw [z'] at hu; cases hu
      · obtain ⟨u, hu, hnt⟩ := M.dom ok.rep fb
        rw [z'] at hu; cases hu; exact (hnt vs rfl).elim
  · cases res with
    | sh d =>
      have h1 : Den K q0.ad q0.Hv d v := rk
      rw [had] at h1
      exact Den.less ls hf h1
    | fr d =>
      obtain ⟨a, o, e1, e2, e3, e4, e5, e6⟩ := rk
      have na : p.H a = none := e5.elim (fun z => z) fun z => False.elim z
      refine ⟨a, o, e1, e2, ?_, fun z => ?_, .inl na, ?_⟩
      · show (if O a then none else q0.Hv a) = none
        split
        · rfl
        · exact e3
      · obtain ⟨u, hu, _⟩ := M.dom ok.rep z
        rw [na] at hu; cases hu
      · rw [had] at e6
        cases d <;> first | (cases hf; done) | skip
        cases o <;> first | exact False.elim e6 | skip
        exact DenL.less ls hf e6
def OpU (M : WM K) (f : D → D → Option R) (r : R2) : Prop := ∀ (p : Pt M) (x y : V) (d e : D) (res : R) (Q : VK), p.Ok → DenU p d x → DenU p e y → f d e = some res → flatR res = true →
  (∀ v (q : Pt M), Ext p q → q.Ok → q.s = p.s → ROk p q res v → Q v q.H) → r x y p.H Q
def Pt.LD (p : Pt M) : Addr → Prop := fun a => p.F a ∧ ∀ o, p.H a = some o → isLD o
theorem ld_of {p : Pt M} {a : Addr} {o : HO} (fa : p.F a) (h : p.H a = some o) (l : isLD o) : p.LD a := ⟨fa, fun o' h' => by rw [h] at h'; cases h'; exact l⟩
theorem opU {f : D → D → Option R} {r : R2} (h : ∀ A0, OpD (noM K A0) f r) : OpU M f r := fun p x y d e res Q ok hx hy hf hfl q => by
  refine h p.ad (p.bare p.LD) x y d e res Q (bare_ok ok _) (bare_den ok hx fun a o _ fa ha l => ld_of fa ha l) (bare_den ok hy fun a o _ fa ha l => ld_of fa ha l) hf fun v q0 e0 ok0 _ rk => ?_
  obtain ⟨q1, e1, e2, e3, e4, e5⟩ := bare_back ok (fun a h => h) e0 ok0 rk hfl
  rw [← e1]
  exact q v q1 e3 e4 e2 e5
def CallU (M : WM K) (f : List D → Option R) (r : List V → Hp → VK → Prop) : Prop := ∀ (p : Pt M) (xs : List V) (ds : List D) (res : R) (Q : VK), p.Ok → DenUL p ds xs → f ds = some res → flatR res = true →
  (∀ v (q : Pt M), Ext p q → q.Ok → q.s = p.s → ROk p q res v → Q v q.H) → r xs p.H Q
theorem callU {f : List D → Option R} {r : List V → Hp → VK → Prop} (h : ∀ A0, CallD (noM K A0) f r) : CallU M f r := fun p xs ds res Q ok hx hf hfl q => by
  refine h p.ad (p.bare p.LD) xs ds res Q (bare_ok ok _) (bare_denL ok hx fun a o fa ha l => ld_of fa ha l) hf fun v q0 e0 ok0 _ rk => ?_
  obtain ⟨q1, e1, e2, e3, e4, e5⟩ := bare_back ok (fun a h => h) e0 ok0 rk hfl
  rw [← e1]
  exact q v q1 e3 e4 e2 e5
end
def drf (s : Ost) : D → D
  | .obj (n + 1) => match s[n]? with
    | some (some (.lst l)) => .lst l
    | some (some (.dk l)) => .dk l
    | some (some (.dt l)) => .dt l
    | _ => .obj (n + 1)
  | d => d
section
variable {K : PySem.W.Frag} {M : OM K}
theorem drf_den {p : Pt M.w} (ok : p.Ok) {d : D} {x : V} (h : Den K p.ad p.Hv d x) : DenU p (drf p.os d) x := by
  unfold drf
  split
  · rename_i n
    obtain ⟨a, ha, rfl⟩ := h
    split
    · rename_i l e
      obtain ⟨a', h1, h2, vs, h3, h4⟩ := obj_at ok e
      rw [ha] at h1; cases h1
      first
        | exact .inr ⟨a, _, rfl, h2, h3, .inl h4⟩
        | exact h3.elim (fun h3 => .inr ⟨a, _, rfl, h2, h3, .inl h4⟩) fun ⟨x, h3⟩ => .inr ⟨a, _, rfl, h2, h3, .inr ⟨x, _, rfl, trivial, h4⟩⟩
    · rename_i l e
      obtain ⟨a', h1, h2, vs, h3, h4⟩ := obj_at ok e
      rw [ha] at h1; cases h1
      first
        | exact .inr ⟨a, _, rfl, h2, h3, .inl h4⟩
        | exact h3.elim (fun h3 => .inr ⟨a, _, rfl, h2, h3, .inl h4⟩) fun ⟨x, h3⟩ => .inr ⟨a, _, rfl, h2, h3, .inr ⟨x, _, rfl, trivial, h4⟩⟩
    · rename_i l e
      obtain ⟨a', h1, h2, vs, h3, h4⟩ := obj_at ok e
      rw [ha] at h1; cases h1
      first
        | exact .inr ⟨a, _, rfl, h2, h3, .inl h4⟩
        | exact h3.elim (fun h3 => .inr ⟨a, _, rfl, h2, h3, .inl h4⟩) fun ⟨x, h3⟩ => .inr ⟨a, _, rfl, h2, h3, .inr ⟨x, _, rfl, trivial, h4⟩⟩
    · exact .inl ⟨a, ha, rfl⟩
  · exact .inl h
theorem drf_denL {p : Pt M.w} (ok : p.Ok) : ∀ {ds : List D} {xs : List V}, DenL K p.ad p.Hv ds xs → DenUL p (ds.map (drf p.os)) xs
  | [], _, h => h
  | _ :: _, _, ⟨v, r, e, h, t⟩ => ⟨v, r, e, drf_den ok h, drf_denL ok t⟩
def opF {ε σ : Type} (o : Option R) (s : σ) : G ε (R × σ) := match o with
  | some r => if flatR r = true then .ret (r, s) else .bad
  | none => .bad
theorem opF_inv {ε σ : Type} {o : Option R} {s : σ} {P : R × σ → Prop} {E : ε → Prop} (h : (opF o s : G ε (R × σ)).all P E) : ∃ r, o = some r ∧ flatR r = true ∧ P (r, s) := by
  cases o with
  | none => exact h.elim
  | some r =>
    by_cases hf : flatR r = true
    · have h' : (if flatR r = true then (.ret (r, s) : G ε (R × σ)) else .bad).all P E := h
      rw [if_pos hf] at h'
      exact ⟨r, rfl, hf, h'⟩
    · have h' : (if flatR r = true then (.ret (r, s) : G ε (R × σ)) else .bad).all P E := h
      rw [if_neg hf] at h'
      exact h'.elim
def eBinUD (f : D → D → Option D) (ea eb : Ev M.w D) : Ev M.w D := fun ρ s => (ea ρ s).bind fun a => (eb ρ a.2).bind fun b => (opF ((f (drf (b.2 : Ost) a.1) (drf (b.2 : Ost) b.1)).map R.sh) b.2).bind fun r => .ret (r.1.d, r.2)
def eFunU (f : List D → Option R) (el : Ev M.w (List D)) : Ev M.w R := fun ρ s => (el ρ s).bind fun a => opF (f (a.1.map (drf (a.2 : Ost)))) a.2
end
section
variable {X : Cx} {M : OM X.K} {W : WX} {e a b : Expr} {es rest : List Expr} {pos : Pos} {ea eb : Ev M.w D} {er : Ev M.w R} {el : Ev M.w (List D)}
theorem drf_at {p : Pt M.w} (ok : p.Ok) {s : M.w.S} (hs : p.s = s) {d : D} {x : V} (h : Den X.K p.ad p.Hv d x) : DenU p (drf (s : Ost) d) x := by subst hs; exact drf_den ok h
theorem ev_cmpU {o : CmpOp} {r : R2} {f : D → D → Option D} (ho : OpR X (compareOp o) r) (hf : ∀ A0, OpD (noM X.K A0) (fun d e => (f d e).map R.sh) r) (ha : PE X a (tD M.w X.mg W ea)) (hb : PE X b (tD M.w X.mg W eb)) (hm : behindInMarks o b = false := by rfl) :
    PE X (.Compare a [o] [b] pos) (tD M.w X.mg W (eBinUD f ea eb)) := (pe_cmpR ho ha hb hm).con fun σ H Q ⟨ρ, p, hH, ok, en, q⟩ => by
  subst hH
  show tD M.w X.mg W ea σ p.H fun x H1 => tD M.w X.mg W eb σ H1 fun y H2 => r x y H2 Q
  refine tG.seq ok en q fun r1 x q1 ex1 ok1 es1 dx h1 => ?_
  rw [← es1] at h1
  refine tG.seq ok1 (en.ext ex1) (XEnds ex1 h1 fun _ h => h) fun r2 y q2 ex2 ok2 es2 dy h2 => ?_
  obtain ⟨res, z, fl, h3⟩ := opF_inv (G.all_bind.mp h2)
  cases z0 : f (drf (r2.2 : Ost) r1.1) (drf (r2.2 : Ost) r2.1) with
  | none => rw [z0] at z; cases z
  | some dd =>
    rw [z0] at z
    cases z
    exact opU hf q2 x y _ _ (.sh dd) Q ok2 (drf_at ok2 es2 (ex2.den dx)) (drf_at ok2 es2 dy) (by show Option.map R.sh _ = _; rw [z0]; rfl) fl fun v q3 e3 ok3 es3 rk => h3 v q3 ((ex1.trans ex2).trans e3) ok3 (es3.trans es2) rk
variable {x : Str} {pp : Pos}
theorem drf_atL {p : Pt M.w} (ok : p.Ok) {s : M.w.S} (hs : p.s = s) {ds : List D} {xs : List V} (h : DenL X.K p.ad p.Hv ds xs) : DenUL p (ds.map (drf (s : Ost))) xs := by subst hs; exact drf_denL ok h
theorem ev_typU {id : String} {r : List V → Hp → VK → Prop} {f : List D → Option R} (hc : CallR X (.type id) r) (hf : ∀ A0, CallD (noM X.K A0) f r) (hm : X.mg x = none) (hv : bootBuiltins x = some (.type id)) (ha : PA X (e :: es) (tA M.w X.mg W el)) (hg : Gl X x := by rfl) (hn : x ≠ "__name__" := by decide)
    (hdb : (x == ("__debug__" : Str)) = false := by decide) (he : starEach (e :: es) X.env = (false, eval e X.env) :: starEach es X.env := by rfl)
    (hpl : (backTo pos (starEach es X.env)).any (·.1) = false := by rfl) : PE X (.Call (.Name x pp) (e :: es) [] pos) (tR M.w X.mg W (eFunU f el)) := (pe_callTy hc hg hm hv ha hn hdb he hpl).con fun σ H Q ⟨ρ, p, hH, ok, en, q⟩ => by
  subst hH
  show tA M.w X.mg W el σ p.H fun vs H1 => r vs H1 Q
  refine tA.seq ok en q fun r1 xs q1 ex1 ok1 es1 dx h1 => ?_
  obtain ⟨res, z, fl, h3⟩ := opF_inv h1
  exact callU hf q1 xs _ res Q ok1 (drf_atL ok1 es1 dx) z fl fun v q3 e3 ok3 es3 rk => h3 v q3 (ex1.trans e3) ok3 (es3.trans es1) (rk.tr ex1 e3)
end
def fldAt (s : Ost) (f : Str) : D → Option D
  | .obj (n + 1) => match s[n]? with
    | some (some (.ins _ fs)) => fs.lookup f
    | _ => none
  | _ => none
def putD (f : Str) (d : D) : List (Str × D) → List (Str × D)
  | [] => [(f, d)]
  | (g, x) :: r => if g = f then (g, d) :: r else (g, x) :: putD f d r
section
variable {K : PySem.W.Frag} {ad : Nat → Option Addr} {Hv : Hp}
theorem lookup_den : ∀ {fs : List (Str × D)} {fv : List (Str × V)}, fv.map (·.1) = fs.map (·.1) → DenL K ad Hv (fs.map (·.2)) (fv.map (·.2)) → ∀ {f : Str} {d : D}, fs.lookup f = some d → ∃ v, fv.lookup f = some v ∧ Den K ad Hv d v
  | [], _, _, _, f, d, h => by cases h
  | (g, x) :: fs, [], hk, _, _, _, _ => by simp at hk
  | (g, x) :: fs, (g', y) :: fv, hk, hd, f, d, h => by
    simp only [List.map_cons, List.cons.injEq] at hk
    obtain ⟨rfl, hk⟩ := hk
    obtain ⟨v, r, e, h1, h2⟩ := hd
    simp only [List.map_cons, List.cons.injEq] at e
    obtain ⟨rfl, rfl⟩ := e
    simp only [List.lookup] at h ⊢
    cases z : f == g' with
    | true => simp only [z] at h ⊢; cases h; exact ⟨_, rfl, h1⟩
    | false => simp only [z] at h ⊢; exact lookup_den hk h2 h
theorem lookup_key : ∀ {fs : List (Str × D)} {f : Str} {d : D}, fs.lookup f = some d → f ∈ fs.map (·.1)
  | (g, x) :: fs, f, d, h => by
    simp only [List.lookup] at h
    cases z : f == g with
    | true => rw [eq_of_beq z]; simp
    | false => simp only [z] at h; exact List.mem_cons_of_mem _ (lookup_key h)
theorem lookup_noV {m : Str} : ∀ {fv : List (Str × V)}, m ∉ fv.map (·.1) → fv.lookup m = none
  | [], _ => rfl
  | (g, x) :: fv, h => by
    simp only [List.map_cons, List.mem_cons, not_or] at h
    have : (m == g) = false := beq_eq_false_iff_ne.mpr h.1
    simp only [List.lookup, this]
    exact lookup_noV h.2
theorem put_den {f : Str} {d : D} {v : V} (hv : Den K ad Hv d v) : ∀ {fs : List (Str × D)} {fv : List (Str × V)}, fv.map (·.1) = fs.map (·.1) → DenL K ad Hv (fs.map (·.2)) (fv.map (·.2)) → (putF f v fv).map (·.1) = (putD f d fs).map (·.1) ∧ DenL K ad Hv ((putD f d fs).map (·.2)) ((putF f v fv).map (·.2))
  | [], [], _, _ => ⟨rfl, DenL.one hv⟩
  | [], _ :: _, hk, _ => by simp at hk
  | _ :: _, [], hk, _ => by simp at hk
  | (g, x) :: fs, (g', y) :: fv, hk, hd => by
    simp only [List.map_cons, List.cons.injEq] at hk
    obtain ⟨rfl, hk⟩ := hk
    obtain ⟨w, r, e, h1, h2⟩ := hd
    simp only [List.map_cons, List.cons.injEq] at e
    obtain ⟨rfl, rfl⟩ := e
    simp only [putD, putF]
    by_cases z : g' = f
    · rw [if_pos z, if_pos z]
      exact ⟨by simp [hk], DenL.cons hv h2⟩
    · rw [if_neg z, if_neg z]
      obtain ⟨i1, i2⟩ := put_den hv hk h2
      exact ⟨by simp [i1], DenL.cons h1 i2⟩
theorem putD_keys {f : Str} {d : D} : ∀ {fs : List (Str × D)} {g : Str}, g ∈ (putD f d fs).map (·.1) → g = f ∨ g ∈ fs.map (·.1)
  | [], g, h => by simp [putD] at h; exact .inl h
  | (k, x) :: fs, g, h => by
    simp only [putD] at h
    split at h
    · exact .inr h
    · simp only [List.map_cons, List.mem_cons] at h ⊢
      rcases h with h | h
      · exact .inr (.inl h)
      · rcases putD_keys h with h | h
        · exact .inl h
        · exact .inr (.inr h)
end
section
variable {X : Cx} {M : OM X.K} {W : WX} {e o a b : Expr} {es rest : List Expr} {pos apos : Pos} {ea eb : Ev M.w D} {er : Ev M.w R} {el : Ev M.w (List D)}
def eFld {K : PySem.W.Frag} {M : OM K} (f : Str) (ea : Ev M.w D) : Ev M.w D := fun ρ s => (ea ρ s).bind fun r => op (fldAt (r.2 : Ost) f r.1) r.2
theorem fldAt_inv {s : Ost} {f : Str} {d r : D} (h : fldAt s f d = some r) : ∃ n x fs, d = .obj (n + 1) ∧ s[n]? = some (some (.ins x fs)) ∧ fs.lookup f = some r := by
  unfold fldAt at h
  split at h
  · rename_i n
    split at h
    · rename_i x fs e
      exact ⟨n, x, fs, rfl, e, h⟩
    · cases h
  · cases h
theorem clsAt_inv {s : Ost} {d : D} {x : Str} (h : clsAt s d = some x) : ∃ n fs, d = .obj (n + 1) ∧ s[n]? = some (some (.ins x fs)) := by
  unfold clsAt at h
  split at h
  · rename_i n
    split at h
    · rename_i y fs e
      cases h
      exact ⟨n, fs, rfl, e⟩
    · cases h
  · cases h
theorem ev_fld (co : CtOk X.K M.CT) {f : Str} (ha : PE X e (tD M.w X.mg W ea)) (hb : attributeBase e f X.env (eval e X.env) = eval e X.env := by rfl) : PE X (.Attribute e f pos) (tD M.w X.mg W (eFld f ea)) := (pe_fld ha hb).con fun σ H Q ⟨ρ, p, hH, ok, en, q⟩ => by
  subst hH
  show tD M.w X.mg W ea σ p.H fun x H1 => ∃ a C dx fs v, x = .ref a ∧ H1 a = some (.ins C dx fs) ∧ Cls X.K C ∧ NoAttr X.K C f ∧ fs.lookup f = some v ∧ Q v H1
  refine tG.seq ok en q fun r1 x q1 ex1 ok1 es1 dx h1 => ?_
  cases z : fldAt (r1.2 : Ost) f r1.1 with
  | none => simp only [op, z] at h1; exact h1.elim
  | some d =>
    simp only [op, z] at h1
    obtain ⟨n, cn, fs, e1, e2, e3⟩ := fldAt_inv z
    rw [e1] at dx
    obtain ⟨a, ha, rfl⟩ := dx
    rw [← show q1.os = r1.2 from es1] at e2
    obtain ⟨a', i1, i2, C, dd, fv, j1, j2, j3, j4, j5, j6, j7⟩ := obj_at ok1 e2
    rw [ha] at i1; cases i1
    obtain ⟨v, l1, l2⟩ := lookup_den j5 j6 e3
    obtain ⟨c1, c2⟩ := co _ _ j1
    exact ⟨a, C, dd, fv, v, rfl, j2, c1, c2 f (j7 f (lookup_key e3)), l1, h1 v q1 ex1 ok1 es1 l2⟩
def tMethSD (C : Addr) (m : Str) (sp : Sp) (dvs : List V) (E : L2.St → XK) (ta : TE) (t : TA) : TE := fun σ H Q => ta σ H fun x H1 => ∃ a dx fs, x = .ref a ∧ H1 a = some (.ins C dx fs) ∧ fs.lookup m = none ∧
  t σ H1 fun vs H2 => sp (x :: (vs ++ dvs)) H2 Q (E σ)
section
variable {CX : CXT} {k : Nat} {f C : Addr} {fd : FuncData} {ps : List Str} {sp : Sp} {dvs : List V} {ds : List Value} {E : L2.St → XK} {x m : Str} {p : Pos} {ta : TE} {t : TA}
theorem pe_methSD {pl : Sem Bool} (he : PE X o ta) (c : Cls X.K C) (hm : Meth X.K C m f) (F : FnOk X.prog X.w X.K X.mg X.base CX k f fd ps sp) (hr : Room k X.A) (hb : L2.Binds X.K fd ps ds) (hd : Vals dvs ds) (hx : ∀ σ, PassesAt CX X σ (E σ)) (ha : PA X (e :: es) t)
    (hst : starEach (e :: es) X.env = (false, eval e X.env) :: starEach es X.env := by rfl) (hpl : (backTo pos (starEach es X.env)).any (·.1) = false := by rfl)
    (ht : eval (.Call (.Attribute o m apos) (e :: es) [] pos) X.env = (do
      let ov ← eval o X.env
      standAt apos.atName
      let (f, first) ← holding [ov] (getMethod ov m pl)
      callWith pos f first (backTo pos (starEach (e :: es) X.env)) (backToKw pos (keywordEach [] X.env))) := by rfl) :
    PE X (.Call (.Attribute o m apos) (e :: es) [] pos) (tMethSD C m sp dvs E ta t) := by
  refine ⟨fun pins s σ H Q I h => ?_⟩
  refine PySem.W.methodCall_KW (pl := pl) (thn (he.run pins s σ H _ I h) fun u s1 ⟨x, H1, I1, rx, a, dx, fs, ex, ea, l, q⟩ => ?_) ht
  subst ex
  obtain rfl : u = Value.ref a := rx
  refine getmeth_ok I1 ea c hm l ?_
  refine PySem.W.callWith_K (first := [.ref a]) (h₀ := X.base) I.ok.mod.kin hm.kp (thn (ha.run pos pins s1 σ H1 _ I1 q) fun us s2 ⟨vs, H2, I2, r, q2⟩ => ⟨I2.kIn, ?_⟩) hst hpl
  exact run_fnSD (us := .ref a :: us) (vs := .ref a :: vs) F hr hb hd (hx σ) I2 (.cons rfl r) q2
theorem pe_methSD0 {pl : Sem Bool} (he : PE X o ta) (c : Cls X.K C) (hm : Meth X.K C m f) (F : FnOk X.prog X.w X.K X.mg X.base CX k f fd ps sp) (hr : Room k X.A) (hb : L2.Binds X.K fd ps ds) (hd : Vals dvs ds) (hx : ∀ σ, PassesAt CX X σ (E σ))
    (ht : eval (.Call (.Attribute o m apos) [] [] pos) X.env = (do
      let ov ← eval o X.env
      standAt apos.atName
      let (f, first) ← holding [ov] (getMethod ov m pl)
      callWith pos f first (backTo pos (starEach [] X.env)) (backToKw pos (keywordEach [] X.env))) := by rfl) :
    PE X (.Call (.Attribute o m apos) [] [] pos) (tMethSD C m sp dvs E ta tNil) := by
  refine ⟨fun pins s σ H Q I h => ?_⟩
  refine PySem.W.methodCall_KW (pl := pl) (thn (he.run pins s σ H _ I h) fun u s1 ⟨x, H1, I1, rx, a, dx, fs, ex, ea, l, q⟩ => ?_) ht
  subst ex
  obtain rfl : u = Value.ref a := rx
  refine getmeth_ok I1 ea c hm l ?_
  exact PySem.W.callWith_K0 (first := [.ref a]) I1.kIn hm.kp (run_fnSD (us := [.ref a]) (vs := [.ref a]) F hr hb hd (hx σ) I1 (.cons rfl .nil) q)
def tMakeSD (C : Addr) (sp : Sp) (dvs : List V) (E : L2.St → XK) (t : TA) : TE := fun σ H Q => t σ H fun vs H1 => ∀ x dx, H1 x = none → H1 dx = none → dx ≠ x →
  sp (.ref x :: (vs ++ dvs)) (upd (upd H1 dx (.own x)) x (.ins C dx [])) (fun v H2 => v = .non ∧ Q (.ref x) H2) (E σ)
end
end
section
variable {K : PySem.W.Frag} {M : OM K}
def stAdd (s : Ost) (c : Cell) : Ost := s ++ [some c]
def stSet (s : Ost) (n : Nat) (c : Cell) : Ost := s.set n (some c)
def eMeth (x : Str) (n : Nat) (fs : List D → M.w.S → Gx M.w R) (dfl : List D) (ea : Ev M.w D) (el : Ev M.w (List D)) : Ev M.w R := fun ρ s => (ea ρ s).bind fun a => if (clsAt (a.2 : Ost) a.1 == some x) = true then (el ρ a.2).bind fun l =>
  if (a.1 :: (l.1 ++ dfl)).length = n then fs (a.1 :: (l.1 ++ dfl)) l.2 else .bad else .bad
def nwD (s : Ost) : D := .obj (s.length + 1)
def eNew (x : Str) (n : Nat) (fs : List D → M.w.S → Gx M.w R) (dfl : List D) (el : Ev M.w (List D)) : Ev M.w D := fun ρ s => (el ρ s).bind fun l =>
  if (nwD l.2 :: (l.1 ++ dfl)).length = n then (fs (nwD l.2 :: (l.1 ++ dfl)) (stAdd l.2 (.ins x []))).bind fun r => match r.1 with
    | .sh .non => .ret (nwD l.2, r.2)
    | _ => .bad
  else .bad
end
section
variable {X : Cx} {M : OM X.K} {W : WX} {e o a b : Expr} {es rest : List Expr} {pos apos : Pos} {ea eb : Ev M.w D} {er : Ev M.w R} {el : Ev M.w (List D)} {k j n : Nat} {fs : List D → M.w.S → Gx M.w R} {dfl : List D} {x m : Str} {p1 : Pos}
theorem meth_to (co : CtOk X.K M.CT) {C : Addr} {dvs : List V} (hC : M.CT.lookup x = some C) (hf : flOk x m = false) (hdd : ∀ ad Hv, DenL X.K ad Hv dfl dvs) {σ : Sl} {H : Hp} {Q : VK} (h : tR M.w X.mg W (eMeth x n fs dfl ea el) σ H Q) :
    tMethSD C m (spV M.w X.mg n fs) dvs (WE W) (tD M.w X.mg W ea) (tA M.w X.mg W el) σ H Q := by
  obtain ⟨ρ, p, hH, ok, en, q⟩ := h
  subst hH
  show tD M.w X.mg W ea σ p.H fun v H1 => ∃ a dx fv, v = .ref a ∧ H1 a = some (.ins C dx fv) ∧ fv.lookup m = none ∧ tA M.w X.mg W el σ H1 fun vs H2 => spV M.w X.mg n fs (v :: (vs ++ dvs)) H2 Q (WE W σ)
  refine tG.seq ok en q fun r1 v q1 ex1 ok1 es1 dx h1 => ?_
  by_cases hc : (clsAt (r1.2 : Ost) r1.1 == some x) = true
  · obtain ⟨nn, fs0, e1, e2⟩ := clsAt_inv (eq_of_beq hc)
    have dx0 := dx
    rw [e1] at dx
    obtain ⟨a, ha, rfl⟩ := dx
    rw [← show q1.os = r1.2 from es1] at e2
    obtain ⟨a', i1, i2, C', dd, fv, j1, j2, j3, j4, j5, j6, j7⟩ := obj_at ok1 e2
    rw [ha] at i1; cases i1
    rw [hC] at j1; cases j1
    refine ⟨a, dd, fv, rfl, j2, lookup_noV fun z => ?_, ?_⟩
    · rw [j5] at z
      rw [j7 m z] at hf; cases hf
    · rw [if_pos hc, ← es1] at h1
      refine tA.seq ok1 (en.ext ex1) (XEnds ex1 h1 fun _ h => h) fun r2 vs q2 ex2 ok2 es2 dl h2 => ?_
      by_cases hl : (r1.1 :: (r2.1 ++ dfl)).length = n
      · rw [if_pos hl] at h2
        rw [← es2] at h2
        have dl2 : DenL X.K q2.ad q2.Hv (r1.1 :: (r2.1 ++ dfl)) (.ref a :: (vs ++ dvs)) := DenL.cons (ex2.den dx0) (dl.append (hdd _ _))
        exact ⟨_, q2, by rw [dl2.length]; exact hl, rfl, ok2, dl2, G.all_mono (fun r h v q3 e3 ok3 es3 rk => h v q3 ((ex1.trans ex2).trans e3) ok3 es3 (rk.tr (ex1.trans ex2) e3)) (fun x h cls dd q3 e3 ok3 es3 xk => h cls dd q3 (ex2.trans e3) ok3 es3 xk) h2⟩
      · rw [if_neg hl] at h2; exact h2.elim
  · rw [if_neg hc] at h1; exact h1.elim
variable {pl : Sem Bool}
theorem ev_meth (co : CtOk X.K M.CT) (c : MethOk X.prog X.w X.K X.mg X.base M k x m n fs dfl) (hr : Room j X.A) (tk : Takes X W) (ho : PE X o (tD M.w X.mg W ea)) (ha : PA X (e :: es) (tA M.w X.mg W el)) (hkj : k ≤ j := by decide) (hf : flOk x m = false := by decide +kernel)
    (hst : starEach (e :: es) X.env = (false, eval e X.env) :: starEach es X.env := by rfl) (hpl : (backTo pos (starEach es X.env)).any (·.1) = false := by rfl)
    (ht : eval (.Call (.Attribute o m apos) (e :: es) [] pos) X.env = (do
      let ov ← eval o X.env
      standAt apos.atName
      let (f, first) ← holding [ov] (getMethod ov m pl)
      callWith pos f first (backTo pos (starEach (e :: es) X.env)) (backToKw pos (keywordEach [] X.env))) := by rfl) :
    PE X (.Call (.Attribute o m apos) (e :: es) [] pos) (tR M.w X.mg W (eMeth x n fs dfl ea el)) := by
  obtain ⟨C, f, fd, ps, ds, dvs, hC, hm, F, hb, hd, hdd⟩ := c.ex
  exact (pe_methSD (E := WE W) ho (co _ _ hC).1 hm F (hr.mono hkj) hb hd (passAt tk) ha hst hpl ht).con fun σ H Q h => meth_to co hC hf hdd h
theorem ev_meth0 (co : CtOk X.K M.CT) (c : MethOk X.prog X.w X.K X.mg X.base M k x m n fs dfl) (hr : Room j X.A) (tk : Takes X W) (ho : PE X o (tD M.w X.mg W ea)) (hkj : k ≤ j := by decide) (hf : flOk x m = false := by decide +kernel)
    (ht : eval (.Call (.Attribute o m apos) [] [] pos) X.env = (do
      let ov ← eval o X.env
      standAt apos.atName
      let (f, first) ← holding [ov] (getMethod ov m pl)
      callWith pos f first (backTo pos (starEach [] X.env)) (backToKw pos (keywordEach [] X.env))) := by rfl) :
    PE X (.Call (.Attribute o m apos) [] [] pos) (tR M.w X.mg W (eMeth x n fs dfl ea eNil)) := by
  obtain ⟨C, f, fd, ps, ds, dvs, hC, hm, F, hb, hd, hdd⟩ := c.ex
  refine (pe_methSD0 (E := WE W) ho (co _ _ hC).1 hm F (hr.mono hkj) hb hd (passAt tk) ht).con fun σ H Q h => ?_
  obtain ⟨ρ, p, hH, ok, en, q⟩ := (meth_to co hC hf hdd h : tMethSD C m (spV M.w X.mg n fs) dvs (WE W) (tD M.w X.mg W ea) (tA M.w X.mg W eNil) σ H Q)
  refine ⟨ρ, p, hH, ok, en, G.all_mono (fun r hr v q e ok' es dv => ?_) (fun _ h => h) q⟩
  obtain ⟨a, dx, fv, h1, h2, h3, ρ', p', hH', ok2, en2, q2⟩ := hr v q e ok' es dv
  refine ⟨a, dx, fv, h1, h2, h3, ?_⟩
  have := q2 [] p' (Ext.refl p') ok2 rfl DenL.nil
  rw [hH'] at this
  exact this
section
variable {CX : CXT} {f C : Addr} {fd : FuncData} {ps : List Str} {sp : Sp} {dvs : List V} {ds : List Value} {E : L2.St → XK} {t : TA}
theorem run_makeP {pins : List (Addr × Obj)} {σ : L2.St} {H : Hp} {s : Shared} {Q : VK} {us : List Value} {vs : List V} (M : Mk X.K C f) (F : FnOk X.prog X.w X.K X.mg X.base CX k f fd ps sp) (hr : Room (k + 1) X.A) (hb : L2.Binds X.K fd ps ds) (hd : Vals dvs ds)
    (hx : PassesAt CX X σ (E σ)) (I : L2.Inv X pins σ H s) (r : Vals vs us)
    (h : ∀ x dx, H x = none → H dx = none → dx ≠ x → sp (.ref x :: (vs ++ dvs)) (upd (upd H dx (.own x)) x (.ins C dx [])) (fun v H2 => v = .non ∧ Q (.ref x) H2) (E σ)) :
    wpAny (model X.prog X.w) X.A (call (.ref C) us) (EP X pins σ Q) X.xe s := by
  have hq := h (s.heap.objs.size + 1) s.heap.objs.size (I.hok.fresh (Nat.le_succ _)) (I.hok.fresh (Nat.le_refl _)) (Nat.ne_of_lt (Nat.lt_succ_self _))
  have I2 := Inv.made (C := C) I
  have r2 : Vals (V.ref (s.heap.objs.size + 1) :: (vs ++ dvs)) (Value.ref (s.heap.objs.size + 1) :: (us ++ ds)) := .cons rfl (r.append hd)
  have hl : (Value.ref (s.heap.objs.size + 1) :: us ++ ds).length = ps.length := by
    have e := r2.length
    rw [F.len _ _ _ _ hq] at e
    exact e.symm
  refine wpAny_call (make_map (f := f) I.kIn M.makes M.init (beq_iff_eq.mp M.fn) (codeAny_mono (F.run _ X.stack _ _ ⟨Value.ref (s.heap.objs.size + 1) :: us, []⟩ (Value.ref (s.heap.objs.size + 1) :: (us ++ ds)) _ _ (E σ) (hr.make C us [])
    (I2.env0.make C us []) (hb _ (Value.ref (s.heap.objs.size + 1) :: us) I2.kIn hl) r2 hq) fun r s' hq' => ?_))
  cases r with
  | error e => exact hx pins _ _ e s' I2 hq'
  | ok fl =>
    cases fl with
    | ret u =>
      obtain ⟨v, H', I3, rv, ev, q3⟩ := I2.after hq'
      subst ev
      exact ⟨rv, ⟨V.ref (s.heap.objs.size + 1), H', I3, rfl, q3⟩⟩
    | next => exact False.elim hq'
    | brk => exact False.elim hq'
    | cont => exact False.elim hq'
theorem pe_makeP {p : Pos} (M : Mk X.K C f) (F : FnOk X.prog X.w X.K X.mg X.base CX k f fd ps sp) (hr : Room (k + 1) X.A) (hg : Gl X x) (hm : X.mg x = some (.ref C)) (hb : L2.Binds X.K fd ps ds) (hd : Vals dvs ds) (hx : ∀ σ, PassesAt CX X σ (E σ))
    (ha : PA X (e :: es) t) (hdb : (x == ("__debug__" : Str)) = false := by decide) (he : starEach (e :: es) X.env = (false, eval e X.env) :: starEach es X.env := by rfl) (hpl : (backTo pos (starEach es X.env)).any (·.1) = false := by rfl) :
    PE X (.Call (.Name x p) (e :: es) [] pos) (tMakeSD C sp dvs E t) := by
  refine ⟨fun pins s σ H Q I h => ?_⟩
  refine wpAny_Call_Name_kw (ld_glob I hg hm ?_ hdb)
  refine PySem.W.callWith_K (h₀ := X.base) I.ok.mod.kin M.kp (thn (ha.run pos pins s σ H _ I h) fun us s1 ⟨vs, H1, I1, r, q⟩ => ⟨I1.kIn, ?_⟩) he hpl
  exact run_makeP M F hr hb hd (hx σ) I1 r q
end
theorem new_to {C : Addr} {dvs : List V} (hC : M.CT.lookup x = some C) (hdd : ∀ ad Hv, DenL X.K ad Hv dfl dvs) {σ : Sl} {H : Hp} {Q : VK} (h : tD M.w X.mg W (eNew x n fs dfl el) σ H Q) :
    tMakeSD C (spV M.w X.mg n fs) dvs (WE W) (tA M.w X.mg W el) σ H Q := by
  obtain ⟨ρ, p, hH, ok, en, q⟩ := h
  subst hH
  show tA M.w X.mg W el σ p.H fun vs H1 => ∀ x' dx, H1 x' = none → H1 dx = none → dx ≠ x' → spV M.w X.mg n fs (.ref x' :: (vs ++ dvs)) (upd (upd H1 dx (.own x')) x' (.ins C dx [])) (fun v H2 => v = .non ∧ Q (.ref x') H2) (WE W σ)
  refine tA.seq ok en q fun r1 vs q1 ex1 ok1 es1 dl h1 x' dx hx' hdx hne => ?_
  by_cases hl : (nwD r1.2 :: (r1.1 ++ dfl)).length = n
  · rw [if_pos hl] at h1
    have hk : ∀ b o, q1.H b = some o → upd (upd q1.H dx (.own x')) x' (.ins C dx []) b = some o := fun b o hb => by
      rw [upd_ne (ne_of_none hb hx'), upd_ne (ne_of_none hb hdx)]; exact hb
    have ha1 : upd (upd q1.H dx (.own x')) x' (.ins C dx []) x' = some (.ins C dx []) := upd_same
    have ha2 : upd (upd q1.H dx (.own x')) x' (.ins C dx []) dx = some (.own x') := by rw [upd_ne hne, upd_same]
    obtain ⟨m1, m2⟩ := obj_more (p0 := q1) (p := q1) ok1 (Ext.refl q1) (c := .ins x []) (a := x') (N := fun y => y = x' ∨ y = dx) (H' := upd (upd q1.H dx (.own x')) x' (.ins C dx [])) hk (fun y hy => by
      rcases hy with rfl | rfl
      · exact ⟨.inl hx', ok1.vn hx', ok1.fn hx', _, ha1, (fun _ z => by cases z), (fun _ z => by cases z)⟩
      · exact ⟨.inl hdx, ok1.vn hdx, ok1.fn hdx, _, ha2, (fun _ z => by cases z), (fun _ z => by cases z)⟩) (.inl rfl) ⟨C, dx, [], hC, ha1, .inr rfl, ha2, rfl, rfl, fun f hf => by cases hf⟩
    have hs : stAdd r1.2 (.ins x []) = q1.os ++ [some (.ins x [])] := by rw [show r1.2 = q1.os from es1.symm]; rfl
    have hnw : nwD r1.2 = .obj (q1.os.length + 1) := by rw [show r1.2 = q1.os from es1.symm]; rfl
    rw [hs, hnw] at h1
    have dl2 : DenL X.K (adN q1.ad q1.os.length x') q1.Hv (.obj (q1.os.length + 1) :: (r1.1 ++ dfl)) (.ref x' :: (vs ++ dvs)) := DenL.cons ⟨x', adN_new, rfl⟩ ((m1.denL dl).append (hdd _ _))
    refine ⟨_, ⟨q1.os ++ [some (.ins x [])], fun y => q1.F y ∨ (y = x' ∨ y = dx), q1.Hv, upd (upd q1.H dx (.own x')) x' (.ins C dx []), adN q1.ad q1.os.length x'⟩, by rw [dl2.length, ← hnw]; exact hl, rfl, m2, dl2, ?_⟩
    refine G.all_mono (fun r h v q3 e3 ok3 es3 rk => ?_) (fun y h cls dd q3 e3 ok3 es3 xk => h cls dd q3 ((ex1.trans m1).trans e3) ok3 es3 xk) (G.all_bind.mp h1)
    obtain ⟨r, s3⟩ := r
    cases r with
    | fr d => exact h.elim
    | sh d =>
      cases d <;> first | exact h.elim | skip
      have : v = .non := rk
      refine ⟨this, ?_⟩
      exact h (.ref x') q3 ((ex1.trans m1).trans e3) ok3 es3 ⟨x', e3.ad _ _ adN_new, rfl⟩
  · rw [if_neg hl] at h1; exact h1.elim
theorem ev_new {pp : Pos} (c : NewOk X.prog X.w X.K X.mg X.base M k x n fs dfl) (hr : Room j X.A) (tk : Takes X W) (ha : PA X (e :: es) (tA M.w X.mg W el)) (hkj : k + 1 ≤ j := by decide) (hg : Gl X x := by rfl)
    (hdb : (x == ("__debug__" : Str)) = false := by decide) (he : starEach (e :: es) X.env = (false, eval e X.env) :: starEach es X.env := by rfl) (hpl : (backTo pos (starEach es X.env)).any (·.1) = false := by rfl) :
    PE X (.Call (.Name x pp) (e :: es) [] pos) (tD M.w X.mg W (eNew x n fs dfl el)) := by
  obtain ⟨C, f, fd, ps, ds, dvs, hC, hm, hk, F, hb, hd, hdd⟩ := c.ex
  exact (pe_makeP (E := WE W) hk F (hr.mono hkj) hg hm hb hd (passAt tk) ha hdb he hpl).con fun σ H Q h => new_to hC hdd h
end
section
variable {K : PySem.W.Frag} {M : OM K}
theorem rel_ext {K : PySem.W.Frag} {M : WM K} {en p q : Pt M} {ρ : Nv} {σ : Sl} (h : Rel en ρ σ p) (e : Ext p q) (ok : q.Ok) (hv : ∀ b, p.Hv b = none → q.Hv b = none ∨ p.H b = none) : Rel en ρ σ q := by
  refine ⟨ok, h.ext.trans e, h.len, fun i d hi => ?_, fun i d hi => ?_, h.dis⟩
  · obtain ⟨v, h1, h2⟩ := h.sh i d hi
    exact ⟨v, h1, e.den h2⟩
  · obtain ⟨a, o, h1, h2, h3, h4, h5, h6⟩ := h.ow i d hi
    refine ⟨a, o, h1, e.frame a o h2 h4, ?_, fun z => ?_, h5, h6.mono e.view e.ad⟩
    · rcases hv a h3 with z | z
      · exact z
      · rw [h2] at z; cases z
    · rcases e.foot a z with z | z
      · exact h4 z
      · rw [h2] at z; cases z
theorem rel_adopt {en p : Pt M.w} {ρ : Nv} {σ : Sl} (h : Rel en ρ σ p) {d : D} {c : Cell} {v : V} (rk : ROk en p (.fr d) v) (hc : cellOf d = some c) (ap : ∀ a, v = .ref a → ∀ (i : Nat) d, ρ[i]? = some (some (.ow d)) → σ[i]? ≠ some (some (.ref a))) :
    ∃ q : Pt M.w, q.H = p.H ∧ q.s = stAdd p.os c ∧ Rel en ρ σ q ∧ Den K q.ad q.Hv (nwD p.os) v ∧ (∀ m b, p.ad m = some b → q.ad m = some b) ∧ Same p.Hv q.Hv := by
  obtain ⟨q, a, e1, e2, e3, e4, e5, e6, e7, e8, e9, e10⟩ := obj_adopt h.ok h.ext rk hc
  refine ⟨q, e2, e3, ⟨e8, e7, h.len, fun i d hi => ?_, fun i d hi => ?_, h.dis⟩, ?_, e10, by rw [e4]; exact Same.rfl'⟩
  · obtain ⟨w, h1, h2⟩ := h.sh i d hi
    exact ⟨w, h1, h2.mono (by rw [e4]; exact Same.rfl') e10⟩
  · obtain ⟨b, o, h1, h2, h3, h4, h5, h6⟩ := h.ow i d hi
    refine ⟨b, o, h1, by rw [e2]; exact h2, by rw [e4]; exact h3, fun z => ?_, h5, h6.mono (by rw [e4]; exact Same.rfl') e10⟩
    rcases (e5 b).mp z with z | z
    · exact h4 z
    · exact ap a e1 i d hi (by rw [h1, z])
  · exact ⟨a, by rw [e6]; exact adN_new, e1⟩
def stFld (s : Ost) (n : Nat) (f : Str) : R → Option Ost
  | .sh d => match s[n]? with
    | some (some (.ins x fs)) => if (flOk x f && decide (fs.length < 100)) = true then some (stSet s n (.ins x (putD f d fs))) else none
    | _ => none
  | .fr d => match cellOf d with
    | some c => match s[n]? with
      | some (some (.ins x fs)) => if (flOk x f && decide (fs.length < 100)) = true then some (stSet (stAdd s c) n (.ins x (putD f (nwD s) fs))) else none
      | _ => none
    | none => none
theorem fld_write (co : CtOk K M.CT) {en q : Pt M.w} {ρ : Nv} {σ : Sl} (h : Rel en ρ σ q) {n : Nat} {x f : Str} {fs : List (Str × D)} {d : D} {a : Addr} {y : V} (e : q.os[n]? = some (some (.ins x fs))) (hc : (flOk x f && decide (fs.length < 100)) = true) (ha : q.ad (n + 1) = some a) (hy : Den K q.ad q.Hv d y) :
    ∃ C dx fv, q.H a = some (.ins C dx fv) ∧ Cls K C ∧ NoAttr K C f ∧ fv.length < 1000 ∧ ∃ q' : Pt M.w, q'.H = upd q.H a (.ins C dx (putF f y fv)) ∧ q'.s = stSet q.os n (.ins x (putD f d fs)) ∧ Rel en ρ σ q' := by
  rw [Bool.and_eq_true, decide_eq_true_eq] at hc
  obtain ⟨a', i1, i2, C, dx, fv, j1, j2, j3, j4, j5, j6, j7⟩ := obj_at h.ok e
  obtain rfl : a' = a := Option.some.inj (i1.symm.trans ha)
  obtain ⟨c1, c2⟩ := co _ _ j1
  have hl : fv.length = fs.length := by have := congrArg List.length j5; simpa using this
  obtain ⟨w1, w2⟩ := obj_write (c' := .ins x (putD f d fs)) (o' := .ins C dx (putF f y fv)) h.ok e ha (fun _ z => by cases z) (fun F _ hcell => by
    obtain ⟨C', dx', fv', k1, k2, k3, k4, k5, k6, k7⟩ := hcell
    rw [j2] at k2
    cases k2
    obtain ⟨p1, p2⟩ := put_den (f := f) hy k5 k6
    refine ⟨C, dx, putF f y fv, k1, upd_same, k3, ?_, p1, p2, fun g hg => ?_⟩
    · rw [upd_ne]
      · exact k4
      · intro z; rw [z, j2] at k4; cases k4
    · rcases putD_keys hg with z | z
      · rw [z]; exact hc.1
      · exact k7 g z) (fun _ _ _ _ => trivial) (fun x z => by rw [j2] at z; cases z)
  exact ⟨C, dx, fv, j2, c1, c2 f hc.1, by omega, _, rfl, rfl, rel_ext h w1 w2 fun b hb => .inl hb⟩
def sFldS (i : Nat) (f : Str) (m : List Nat) (er : Ev M.w R) : Sv M.w := fun ρ s => (inF m er ρ s).bind fun r => match (behind M.w m (flatR r.1) r.2 ρ)[i]? with
  | some (some (.sh (.obj (n + 1)))) => match stFld r.2 n f r.1 with
    | some s' => .ret (.nx (behind M.w m (flatR r.1) r.2 ρ), s')
    | none => .bad
  | _ => .bad
end
section
variable {X : Cx} {M : OM X.K} {W : WX} {en : Pt M.w} {e o a b value : Expr} {es rest : List Expr} {pos apos : Pos} {ea eb : Ev M.w D} {er : Ev M.w R} {el : Ev M.w (List D)}
theorem ss_fld (co : CtOk X.K M.CT) (i : Nat) {f : Str} (m : List Nat) {x : Str} {p1 pos' : Pos} (he : PE X e (tR M.w X.mg W er)) (hN : X.N[i]? = some x := by rfl) (hv : Vis X.env.scope x := by first | exact Or.inl rfl | exact Or.inr (Or.inl rfl) | exact Or.inr (Or.inr rfl)) (hd : (x == ("__debug__" : Str)) = false := by decide)
    (hcd : (x == ("__classdict__" : Str)) = false := by decide) (hs : swapsWith e (some (.Attribute (.Name x p1) f pos')) pos.line X.env = pure false := by rfl) : PS X (.Assign [.Attribute (.Name x p1) f pos'] e pos) (tS M.w X.mg W (sFldS i f m er)) := (ps_fld (pe_var hN hv hd hcd) he hs).con fun Dd σ H ⟨en, ρ, p, hH, rl, q⟩ => by
  subst hH
  show tR M.w X.mg W er σ p.H fun y H1 => ∃ v, σ[i]? = some (some v) ∧ ∃ a C dx fs, v = .ref a ∧ H1 a = some (.ins C dx fs) ∧ Cls X.K C ∧ NoAttr X.K C f ∧ fs.length < 1000 ∧ Dd.nx σ (upd H1 a (.ins C dx (putF f y fs)))
  refine inF_D rl q fun r y q1 e ok es rk hr => ?_
  obtain ⟨q2, eH, eS, rl2, rk2, ap⟩ := behind_ok rl e ok rk
  rw [← eH]
  rw [← es] at hr
  obtain ⟨r, s1⟩ := r
  obtain rfl : q1.s = s1 := es
  cases zb : (behind M.w m (flatR r) q1.s ρ)[i]? with
  | none => rw [zb] at hr; exact hr.elim
  | some ob =>
    cases ob with
    | none => rw [zb] at hr; exact hr.elim
    | some vv =>
      cases vv with
      | ow _ => rw [zb] at hr; exact hr.elim
      | sh dd =>
        cases dd with
        | obj n1 =>
          cases n1 with
          | zero => rw [zb] at hr; exact hr.elim
          | succ n =>
            simp only [zb] at hr
            obtain ⟨v, h1, a, ha, rfl⟩ := rl2.sh i _ zb
            have es2 : q2.os = q1.os := eS
            cases r with
            | sh d =>
              cases z : stFld q1.s n f (.sh d) with
              | none => rw [z] at hr; exact hr.elim
              | some s' =>
                rw [z] at hr
                simp only [stFld] at z
                split at z
                · rename_i cn fs ez
                  split at z
                  · rename_i hc
                    cases z
                    obtain ⟨C, dx, fv, k1, k2, k3, k4, q3, k5, k6, k7⟩ := fld_write co rl2 (d := d) (y := y) (by rw [es2]; exact ez) hc ha rk2
                    refine ⟨_, h1, a, C, dx, fv, rfl, k1, k2, k3, k4, ?_⟩
                    rw [← k5]
                    exact hr σ q3 k7 (by rw [k6, es2])
                  · cases z
                · cases z
            | fr d =>
              cases z : stFld q1.s n f (.fr d) with
              | none => rw [z] at hr; exact hr.elim
              | some s' =>
                rw [z] at hr
                simp only [stFld] at z
                cases zc : cellOf d with
                | none => rw [zc] at z; cases z
                | some c =>
                  rw [zc] at z
                  simp only at z
                  split at z
                  · rename_i cn fs ez
                    split at z
                    · rename_i hc
                      cases z
                      obtain ⟨q3, g1, g2, g3, g4, g5, g6⟩ := rel_adopt rl2 rk2 zc (fun a ha i d hj => ap a ha ⟨_, rfl⟩ i d (behind_own hj))
                      have hlt : n < q2.os.length := by rw [es2]; exact (List.getElem?_eq_some_iff.mp ez).1
                      have ez3 : q3.os[n]? = some (some (.ins cn fs)) := by
                        rw [show q3.os = q2.os ++ [some c] from g2, List.getElem?_append_left hlt, es2]; exact ez
                      obtain ⟨C, dx, fv, k1, k2, k3, k4, q4, k5, k6, k7⟩ := fld_write co g3 (d := nwD q2.os) (y := y) ez3 hc (g5 _ _ ha) g4
                      refine ⟨_, h1, a, C, dx, fv, rfl, by rw [← g1]; exact k1, k2, k3, k4, ?_⟩
                      rw [← g1, ← k5]
                      exact hr σ q4 k7 (by rw [k6, show q3.os = stAdd q2.os c from g2, es2])
                    · cases z
                  · cases z
        | _ => rw [zb] at hr; exact hr.elim
end
theorem lstAt_inv {s : Ost} {d : D} {l : List D} (h : lstAt s d = some l) : ∃ n, d = .obj (n + 1) ∧ s[n]? = some (some (.lst l)) := by
  unfold lstAt at h
  split at h
  · rename_i n
    split at h
    · rename_i l' e
      cases h
      exact ⟨n, rfl, e⟩
    · cases h
  · cases h
def setLst (s : Ost) (d : D) (l : List D) : Ost := match d with
  | .obj (n + 1) => stSet s n (.lst l)
  | _ => s
section
variable {K : PySem.W.Frag} {M : OM K}
theorem lst_write {p : Pt M.w} (ok : p.Ok) {n : Nat} {l l' : List D} {a : Addr} {vs' : List V} (e : p.os[n]? = some (some (.lst l))) (ha : p.ad (n + 1) = some a) (hl : DenL K p.ad p.Hv l' vs') :
    Ext p (⟨stSet p.os n (.lst l'), p.F, p.Hv, upd p.H a (.lst vs'), p.ad⟩ : Pt M.w) ∧ (⟨stSet p.os n (.lst l'), p.F, p.Hv, upd p.H a (.lst vs'), p.ad⟩ : Pt M.w).Ok := by
  obtain ⟨a', i1, i2, vs, j1, j2⟩ := obj_at ok e
  obtain rfl : a' = a := Option.some.inj (i1.symm.trans ha)
  exact obj_write (c' := .lst l') (o' := .lst vs') ok e ha (fun _ z => by cases z) (fun F _ _ => ⟨vs', upd_same, hl⟩) (fun _ _ _ _ => trivial) (fun x z => by rw [j1] at z; cases z)
def eAppW (ea ee : Ev M.w D) : Ev M.w D := fun ρ s => (ea ρ s).bind fun a => match lstAt a.2 a.1 with
  | some _ => (ee ρ a.2).bind fun d => match lstAt d.2 a.1 with
    | some l => if l.length < big then .ret (.non, setLst d.2 a.1 (l ++ [d.1])) else .bad
    | none => .bad
  | none => .bad
def loopW (g : D → Nv → Option Nv) (body : Sv M.w) (d : D) : Nat → Nat → Sv M.w
  | 0, _, _, _ => .bad
  | fu + 1, i, ρ, s => match lstAt s d with
    | none => .bad
    | some l => match l[i]? with
      | none => .ret (.nx ρ, s)
      | some x => match g x ρ with
        | none => .bad
        | some ρ1 => (body ρ1 s).bind fun f => match f with
          | (.nx ρ2, s2) => loopW g body d fu (i + 1) ρ2 s2
          | (.ct ρ2, s2) => loopW g body d fu (i + 1) ρ2 s2
          | (.bk ρ2, s2) => .ret (.nx ρ2, s2)
          | (.rt r, s2) => .ret (.rt r, s2)
def sForW (m : List Nat) (ea : Ev M.w D) (g : D → Nv → Option Nv) (body : Sv M.w) : Sv M.w := fun ρ s => (inF m ea ρ s).bind fun r => match lstAt r.2 r.1 with
  | some l => loopW g body r.1 (l.length + 1) 0 (frz m ρ) r.2
  | none => .bad
end
section
variable {X : Cx} {M : OM X.K} {W : WX} {e o a b tg iter : Expr} {es rest : List Expr} {pos apos : Pos} {ea eb : Ev M.w D} {er : Ev M.w R} {el : Ev M.w (List D)} {m : List Nat}
theorem ev_appW (ho : PE X o (tD M.w X.mg W ea)) (he : PE X e (tD M.w X.mg W eb)) (hbase : attributeBase o "append" X.env (eval o X.env) = eval o X.env := by rfl)
    (hfew : ((backTo pos (starEach [e] X.env)).all (fun x => !x.1) && (backToKw pos (keywordEach [] X.env)).all (fun x => x.1.isSome) && decide ([e].length + ([] : List Keyword).length + (if ([] : List Keyword).isEmpty then 0 else 1) < 30)) = true := by rfl)
    (hline : (apos.endLine == pos.line) = true := by rfl) (hst : starEach [e] X.env = (false, eval e X.env) :: starEach [] X.env := by rfl) :
    PE X (.Call (.Attribute o "append" apos) [e] [] pos) (tD M.w X.mg W (eAppW ea eb)) :=
  (pe_bm PySem.F.plainAttrs_list PySem.F.slot_list_append PySem.F.type_list_append mt_append ho (pa_cons he pa_nil hst) hbase hfew hline hst rfl).con fun σ H Q ⟨ρ, p, hH, ok, en, q⟩ => by
  subst hH
  show tD M.w X.mg W ea σ p.H fun v H1 => tyV X.K "list" v H1 ∧ tD M.w X.mg W eb σ H1 fun y H2 => rAppend v [y] H2 Q
  refine tG.seq ok en q fun r1 v q1 ex1 ok1 es1 dv h1 => ?_
  cases z : lstAt r1.2 r1.1 with
  | none => rw [z] at h1; exact h1.elim
  | some l1 =>
    rw [z] at h1
    simp only at h1
    obtain ⟨n, e1, e2⟩ := lstAt_inv z
    have dv0 := dv
    rw [e1] at dv
    obtain ⟨a, ha, rfl⟩ := dv
    rw [← show q1.os = r1.2 from es1] at e2
    obtain ⟨a', i1, i2, vs, j1, j2⟩ := obj_at ok1 e2
    rw [ha] at i1; cases i1
    refine ⟨.inl ⟨rfl, vs, SqL.of j1⟩, ?_⟩
    rw [← es1] at h1
    refine tG.seq ok1 (en.ext ex1) (XEnds ex1 h1 fun _ h => h) fun r2 y q2 ex2 ok2 es2 dy h2 => ?_
    cases z2 : lstAt r2.2 r1.1 with
    | none => rw [z2] at h2; exact h2.elim
    | some l =>
      rw [z2] at h2
      simp only at h2
      split at h2
      · rename_i hb
        obtain ⟨n', f1, f2⟩ := lstAt_inv z2
        rw [e1] at f1
        cases f1
        rw [← show q2.os = r2.2 from es2] at f2
        obtain ⟨a', i1, i2, vs2, j1, j2⟩ := obj_at ok2 f2
        have ha2 := ex2.ad _ _ ha
        rw [ha2] at i1; cases i1
        refine ⟨a, vs2, y, rfl, rfl, j1, by rw [j2.length]; exact Nat.lt_of_lt_of_le hb (big_line (Nat.le_refl _)), ?_⟩
        obtain ⟨w1, w2⟩ := lst_write ok2 f2 ha2 (j2.append (DenL.one dy))
        exact h2 .non _ ((ex1.trans ex2).trans w1) w2 (by rw [e1, ← show q2.os = r2.2 from es2]; rfl) rfl
      · exact h2.elim
theorem ss_forW (m : List Nat) {g : D → Nv → Option Nv} {body : List Stmt} {sb : Sv M.w} (hp : PassesOwn (model X.prog X.w) X.A X.env X.xe) (hc : X.calm = true) (hi : PE X iter (tD M.w X.mg W ea)) (hg : PG X tg (tGt M.w g)) (hb : PSs X body (tS M.w X.mg W sb))
    (hs : ∀ x, foldedSetIterable iter X.env x = pure x := by intro _; rfl) : PS X (.For tg iter body [] pos) (tS M.w X.mg W (sForW m ea g sb)) := (ps_for hp hc (pi_any hi) hg hb hs).con fun Dd σ H ⟨en, ρ, p, hH, rl, q⟩ => by
  subst hH
  refine ⟨view m ρ, p.opn ρ σ m, rfl, opn_ok rl, opn_env rl, G.all_mono (fun r hr v q0 e ok es dv => ?_) (fun x hx cls dd q e ok es xk => hx cls dd σ q (frz_rel rl e ok) es xk) (G.all_exs.mp (G.all_bind.mp q))⟩
  cases z : lstAt r.2 r.1 with
  | none => rw [z] at hr; exact hr.elim
  | some l0 =>
    rw [z] at hr
    simp only at hr
    obtain ⟨n, e1, e2⟩ := lstAt_inv z
    rw [e1] at dv
    obtain ⟨a, ha, rfl⟩ := dv
    rw [← show q0.os = r.2 from es] at e2
    obtain ⟨a', i1, i2, vs, j1, j2⟩ := obj_at ok e2
    rw [ha] at i1; cases i1
    refine .inl ⟨a, rfl, ⟨vs, SqL.of j1⟩, ?_⟩
    have rl0 := frz_rel rl e ok
    have rb := reb_rel rl0
    rw [← es] at hr
    refine ⟨fun i n σ' H' => ∃ (fu : Nat) (ρ' : Nv) (q' : Pt M.w), n = fu ∧ q'.H = H' ∧ Rel (reb q0 (frz m ρ) σ) ρ' σ' q' ∧ (loopW g sb r.1 fu i ρ' q'.s).all (SEnd M.w en Dd) (XSEnd M.w X.mg en W), ⟨_, _, frz m ρ, q0, rfl, rfl, rb, hr⟩, ?_⟩
    rintro i n' σ' H' ⟨fu, ρ', q', rfl, rfl, rl', hl⟩
    cases n' with
    | zero => exact hl.elim
    | succ fu =>
      simp only [loopW] at hl
      cases zl : lstAt q'.s r.1 with
      | none => rw [zl] at hl; exact hl.elim
      | some l =>
        rw [zl] at hl
        simp only at hl
        obtain ⟨n2, f1, f2⟩ := lstAt_inv zl
        rw [e1] at f1
        cases f1
        obtain ⟨a2, i1, i2, vs2, k1, k2⟩ := obj_at rl'.ok (show q'.os[n]? = _ from f2)
        have hax : q'.ad (n + 1) = some a := rl'.ext.ad _ _ ha
        rw [hax] at i1; cases i1
        cases zi : l[i]? with
        | none =>
          rw [zi] at hl
          refine .inl ⟨⟨vs2, SqL.of k1, by rw [k2.length]; exact List.getElem?_eq_none_iff.mp zi⟩, ?_⟩
          exact hl σ' q' (reb_back rl0 rl') rfl
        | some x =>
          rw [zi] at hl
          simp only at hl
          obtain ⟨xv, w1, w2⟩ := k2.get zi
          refine .inr ⟨⟨vs2, xv, SqL.of k1, w1⟩, fun σ2 H2 => ∃ (ρ2 : Nv) (q2 : Pt M.w), q2.H = H2 ∧ Rel (reb q0 (frz m ρ) σ) ρ2 σ2 q2 ∧ (loopW g sb r.1 fu (i + 1) ρ2 q2.s).all (SEnd M.w en Dd) (XSEnd M.w X.mg en W), fun σ2 H2 ⟨ρ2, q2, a, b, c⟩ => ⟨fu, Nat.lt_succ_self _, fu, ρ2, q2, rfl, a, b, c⟩, fun y H2 hy => ?_⟩
          obtain ⟨rfl, hy⟩ := hy
          have hxy := hy vs2 (SqL.of k1)
          rw [w1] at hxy
          cases hxy
          cases zg : g x ρ' with
          | none => rw [zg] at hl; exact hl.elim
          | some ρ1 =>
            rw [zg] at hl
            simp only at hl
            refine ⟨_, ρ', q', _, ρ1, rfl, rl', w2, zg, fun σ2 rl2 => ?_⟩
            refine ⟨_, ρ1, q', rfl, rl2, G.all_mono (fun f hf => ?_) (fun x hx => reb_xend rl0 hx) (G.all_bind.mp hl)⟩
            obtain ⟨f, s3⟩ := f
            cases f with
            | nx ρ3 => exact fun σ3 q3 rl3 es3 => ⟨ρ3, q3, rfl, rl3, by rw [es3]; exact hf⟩
            | ct ρ3 => exact fun σ3 q3 rl3 es3 => ⟨ρ3, q3, rfl, rl3, by rw [es3]; exact hf⟩
            | bk ρ3 => exact fun σ3 q3 rl3 es3 => hf σ3 q3 (reb_back rl0 rl3) es3
            | rt r3 => exact fun v q3 e3 ok3 es3 rk3 => hf v q3 (reb_ext rl0 e3) ok3 es3 (reb_rok rl0 rk3)
end
end VQ
namespace VK
open PySem PySem.Spec PyProof.Rows L2 VQ
section
variable {K : PySem.W.Frag} {M : WM K} {s s' : M.S} {ρ : Nv} {P : Fl × M.S → Prop} {E : Xs M → Prop} {α : Type}
theorem ite_andB {ε S : Type} (p q : Bool) (s : S) : (if p = true then (G.ret (q, s) : VQ.G ε (Bool × S)) else .ret (false, s)) = .ret (p && q, s) := by cases p <;> rfl
theorem ite_orB {ε S : Type} (p q : Bool) (s : S) : (if p = true then (G.ret (true, s) : VQ.G ε (Bool × S)) else .ret (q, s)) = .ret (p || q, s) := by cases p <;> rfl
theorem al_ret_eq {ε α : Type} (a : α) (P : α → Prop) (E : ε → Prop) : Al (.ret a : VQ.G ε α) P E = P a := propext ⟨fun h => h.out, fun h => .ret h⟩
theorem al_seq_eq (a b : Sv M) : Al (sSeq a b ρ s) P E = Al (a ρ s) (fun f => Al (sThen b f) P E) E := propext ⟨fun h => ⟨G.all_mono (fun _ h => ⟨h⟩) (fun _ h => h) (G.all_bind.mp h.out)⟩, fun h => .bind h⟩
theorem al_then_nx (b : Sv M) (ρ : Nv) (s : M.S) : sThen b (.nx ρ, s) = b ρ s := rfl
theorem al_then_bk (b : Sv M) (ρ : Nv) (s : M.S) : sThen b (.bk ρ, s) = .ret (.bk ρ, s) := rfl
theorem al_then_rt (b : Sv M) (r : R) (s : M.S) : sThen b (.rt r, s) = .ret (.rt r, s) := rfl
theorem al_ite {ε α : Type} {c : Prop} [Decidable c] (a b : VQ.G ε α) (P : α → Prop) (E : ε → Prop) : Al (if c then a else b) P E = if c then Al a P E else Al b P E := by split <;> rfl
def retP (P : R × M.S → Prop) : Fl × M.S → Prop
  | (.nx _, s) => P (.sh .non, s)
  | (.rt r, s) => P (r, s)
  | _ => False
theorem retP_rt (P : R × M.S → Prop) (r : R) (s : M.S) : retP P (.rt r, s) = P (r, s) := rfl
theorem al_run_eq {n : Nat} {ss : Sv M} {ds : List D} {P : R × M.S → Prop} {E : Exc × M.S → Prop} : Al (runD n ss ds s) P E = Al (ss (startE n ds) s) (retP P) (fun x => E (x.1, x.2.2)) := by
  refine propext ⟨fun h => ⟨?_⟩, fun h => ?_⟩
  · have h1 := G.all_exs.mp (G.all_bind.mp h.out)
    refine G.all_mono (fun f hf => ?_) (fun _ h => h) h1
    obtain ⟨fl, s1⟩ := f
    cases fl <;> exact hf
  · refine .bind (.exs (h.mono (fun f hf => ?_) fun _ h => h))
    obtain ⟨fl, s1⟩ := f
    cases fl with
    | nx _ => exact .ret hf
    | rt r => exact .ret hf
    | bk _ => exact hf.elim
    | ct _ => exact hf.elim
theorem for_alp {ei : Ev M (List D)} {g : D → Nv → Option Nv} {body : Sv M} (xs : List α) (inj : α → D) (I : List α → Nv → M.S → Prop) (he : ei (view [] ρ) s = .ret (xs.map inj, s')) (hi : I [] ρ s')
    (h : ∀ pre x post, xs = pre ++ x :: post → ∀ ρ s, I pre ρ s → ∃ ρ1, g (inj x) ρ = some ρ1 ∧ Al (body ρ1 s) (fun f => ∃ ρ2, f.1 = .nx ρ2 ∧ I (pre ++ [x]) ρ2 f.2) E) (hk : ∀ ρ2 s2, I xs ρ2 s2 → P (.nx ρ2, s2)) : Al (sFor [] ei g body ρ s) P E := by
  have aux : ∀ (ys pre : List α), xs = pre ++ ys → ∀ ρ s, I pre ρ s → Al (loopG g body (ys.map inj) ρ s) (fun f => ∃ ρ2, f.1 = .nx ρ2 ∧ I xs ρ2 f.2) E := by
    intro ys
    induction ys with
    | nil => intro pre e ρ s hi; rw [List.append_nil] at e; subst e; exact .ret ⟨ρ, rfl, hi⟩
    | cons y ys ih =>
      intro pre e ρ s hi
      obtain ⟨ρ1, e1, hb⟩ := h pre y ys e ρ s hi
      rw [List.map_cons]
      unfold loopG
      rw [e1]
      refine .bind (hb.mono (fun f hf => ?_) fun _ h => h)
      obtain ⟨fl, s2⟩ := f
      obtain ⟨ρ2, hf, hi2⟩ := hf
      have hf : fl = .nx ρ2 := hf
      subst hf
      exact ih (pre ++ [y]) (by rw [e]; simp) ρ2 s2 hi2
  rw [for_eq he]
  refine (aux xs [] rfl ρ s' hi).mono (fun f hf => ?_) fun _ h => h
  obtain ⟨fl, s2⟩ := f
  obtain ⟨ρ2, hf, hi2⟩ := hf
  have hf : fl = .nx ρ2 := hf
  subst hf
  exact hk ρ2 s2 hi2
theorem for_alb {ei : Ev M (List D)} {g : D → Nv → Option Nv} {body : Sv M} (xs : List α) (inj : α → D) (I : List α → Nv → M.S → Prop) (J : Nv → M.S → Prop) (he : ei (view [] ρ) s = .ret (xs.map inj, s')) (hi : I [] ρ s')
    (h : ∀ pre x post, xs = pre ++ x :: post → ∀ ρ s, I pre ρ s → ∃ ρ1, g (inj x) ρ = some ρ1 ∧ Al (body ρ1 s) (fun f => (∃ ρ2, f.1 = .nx ρ2 ∧ I (pre ++ [x]) ρ2 f.2) ∨ ∃ ρ2, f.1 = .bk ρ2 ∧ J ρ2 f.2) E) (hk : ∀ ρ2 s2, I xs ρ2 s2 → P (.nx ρ2, s2)) (hj : ∀ ρ2 s2, J ρ2 s2 → P (.nx ρ2, s2)) : Al (sFor [] ei g body ρ s) P E := by
  have aux : ∀ (ys pre : List α), xs = pre ++ ys → ∀ ρ s, I pre ρ s → Al (loopG g body (ys.map inj) ρ s) P E := by
    intro ys
    induction ys with
    | nil => intro pre e ρ s hi; rw [List.append_nil] at e; subst e; exact .ret (hk _ _ hi)
    | cons y ys ih =>
      intro pre e ρ s hi
      obtain ⟨ρ1, e1, hb⟩ := h pre y ys e ρ s hi
      rw [List.map_cons]
      unfold loopG
      rw [e1]
      refine .bind (hb.mono (fun f hf => ?_) fun _ h => h)
      obtain ⟨fl, s2⟩ := f
      rcases hf with ⟨ρ2, hf, hi2⟩ | ⟨ρ2, hf, hp⟩
      · have hf : fl = .nx ρ2 := hf
        subst hf
        exact ih (pre ++ [y]) (by rw [e]; simp) ρ2 s2 hi2
      · have hf : fl = .bk ρ2 := hf
        subst hf
        exact .ret (hj _ _ hp)
  rw [for_eq he]
  exact aux xs [] rfl ρ s' hi
end
end VK
namespace VQ
open PySem PySem.Spec PyProof.Rows L2
section
variable {K : PySem.W.Frag} {M : OM K}
def lcW (g : D → Dv → Option Dv) (et : Ev M.w Bool) (ee : Ev M.w D) (ρ : Dv) (w : D) : Nat → Nat → List D → M.w.S → Gx M.w R
  | 0, _, _, _ => .bad
  | fu + 1, i, acc, s => match lstAt s w with
    | none => .bad
    | some l => match l[i]? with
      | none => .ret (.fr (.lst acc), s)
      | some d => match g d ρ with
        | none => .bad
        | some ρ1 => (et ρ1 s).noX.bind fun b => if b.1 = true then (ee ρ1 b.2).noX.bind fun y => if acc.length < big then lcW g et ee ρ w fu (i + 1) (acc ++ [y.1]) y.2 else .bad else lcW g et ee ρ w fu (i + 1) acc b.2
def eLcW (vs : List Nat) (ew : Ev M.w D) (g : D → Dv → Option Dv) (et : Ev M.w Bool) (ee : Ev M.w D) : Ev M.w R := fun ρ s => (ew ρ s).bind fun r => match lstAt r.2 r.1 with
  | none => .bad
  | some l => lcW g et ee (wipeD vs ρ) r.1 (l.length + 1) 0 [] r.2
end
section
variable {X : Cx} {M : OM X.K} {W : WX} {iter tg elt : Expr} {pos : Pos} {ea ew : Ev M.w D} {vs : List Nat}
theorem tLcW_of {g : D → Dv → Option Dv} {et : Ev M.w Bool} {σ : Sl} {H : Hp} {Q : V → Hp → Prop} (h : tR M.w X.mg W (eLcW vs ew g et ea) σ H Q) :
    tLc (iAny X.K (tD M.w X.mg W ew)) (tGd M.w vs g) (tB' M.w X.mg W0 et) (tD M.w X.mg W0 ea) vs σ H Q := by
  obtain ⟨ρ, p, hH, okp, en, q⟩ := h
  subst hH
  unfold tLc
  refine ⟨ρ, p, rfl, okp, en, G.all_mono (fun r hr v q0 e0 ok0 es dv => ?_) (fun _ h => h) (G.all_bind.mp q)⟩
  cases z : lstAt r.2 r.1 with
  | none => rw [z] at hr; exact hr.elim
  | some l0 =>
    rw [z] at hr
    simp only at hr
    obtain ⟨n, e1, e2⟩ := lstAt_inv z
    rw [e1] at dv
    obtain ⟨a, ha, rfl⟩ := dv
    rw [← show q0.os = r.2 from es] at e2
    obtain ⟨a', i1, i2, vs0, j1, j2⟩ := obj_at ok0 e2
    rw [ha] at i1; cases i1
    refine .inl ⟨a, rfl, ⟨vs0, SqL.of j1⟩, fun D hD => ?_⟩
    rw [← es] at hr
    have hnew : p.H D = none ∨ p.F D := newOld e0 hD
    have okd := ok_hid ok0 hD (o := .lst [])
    refine ⟨fun i n H' => ∃ (fu : Nat) (acc : List VQ.D) (av : List V) (q' : Pt M.w), n = fu ∧ q'.H = H' ∧ q'.Ok ∧ Ext q0 q' ∧ q'.H D = some (.lst av) ∧ q'.Hv D = none ∧ ¬ q'.F D ∧ DenL X.K q'.ad q'.Hv acc av ∧
      (lcW g et ea (wipeD vs ρ) r.1 fu i acc q'.s).all (fun r => ∀ v (q : Pt M.w), Ext p q → q.Ok → q.s = r.2 → ROk p q r.1 v → Q v q.H) (XEnd M.w X.mg p W σ),
      ⟨_, _, [], [], q0.hid D (.lst []), rfl, rfl, okd, ext_hid hD, upd_same, ok0.vn hD, ok0.fn hD, DenL.nil, hr⟩, ?_⟩
    rintro i n' H' ⟨fu, acc, av, q', rfl, rfl, ok', e', hDl, hDv, hDf, da, hl⟩
    cases n' with
    | zero => exact hl.elim
    | succ fu =>
      simp only [lcW] at hl
      cases zl : lstAt q'.s r.1 with
      | none => rw [zl] at hl; exact hl.elim
      | some l =>
        rw [zl] at hl
        simp only at hl
        obtain ⟨n2, f1, f2⟩ := lstAt_inv zl
        rw [e1] at f1
        cases f1
        obtain ⟨a2, i1, i2, vs2, k1, k2⟩ := obj_at ok' (show q'.os[n]? = _ from f2)
        have hax : q'.ad (n + 1) = some a := e'.ad _ _ ha
        rw [hax] at i1; cases i1
        cases zi : l[i]? with
        | none =>
          rw [zi] at hl
          exact .inl ⟨⟨vs2, SqL.of k1, by rw [k2.length]; exact List.getElem?_eq_none_iff.mp zi⟩, hl (.ref D) q' (e0.trans e') ok' rfl ⟨D, .lst av, rfl, hDl, hDv, hDf, hnew, da⟩⟩
        | some x =>
          rw [zi] at hl
          simp only at hl
          obtain ⟨xv, w1, w2⟩ := k2.get zi
          refine .inr ⟨⟨vs2, xv, SqL.of k1, w1⟩, fun H2 => ∃ (acc : List VQ.D) (av : List V) (q' : Pt M.w), q'.H = H2 ∧ q'.Ok ∧ Ext q0 q' ∧ q'.H D = some (.lst av) ∧ q'.Hv D = none ∧ ¬ q'.F D ∧ DenL X.K q'.ad q'.Hv acc av ∧
            (lcW g et ea (wipeD vs ρ) r.1 fu (i + 1) acc q'.s).all (fun r => ∀ v (q : Pt M.w), Ext p q → q.Ok → q.s = r.2 → ROk p q r.1 v → Q v q.H) (XEnd M.w X.mg p W σ), fun H2 ⟨acc, av, q2, a1, a2⟩ => ⟨fu, Nat.lt_succ_self _, fu, acc, av, q2, rfl, a1, a2⟩, fun y H2 hy => ?_⟩
          obtain ⟨rfl, hy⟩ := hy
          have hxy := hy vs2 (SqL.of k1)
          rw [w1] at hxy
          cases hxy
          cases zg : g x (wipeD vs ρ) with
          | none => rw [zg] at hl; exact hl.elim
          | some ρ1 =>
            rw [zg] at hl
            simp only at hl
            have keepD : ∀ {q2 : Pt M.w}, Ext q' q2 → q2.H D = some (.lst av) ∧ q2.Hv D = none ∧ ¬ q2.F D := fun {q2} ex => by
              refine ⟨ex.frame D _ hDl hDf, ?_, fun z => ?_⟩
              · cases z : q2.Hv D with
                | none => rfl
                | some o =>
                  rcases ex.new D o z with ⟨o', z'⟩ | z' | z'
                  · rw [hDv] at z'; cases z'
                  · rw [hDl] at z'; cases z'
                  · exact (z'.elim (fun z' => absurd z' hDf) fun ⟨_, z'⟩ => by rw [hDl] at z'; cases z')
              · rcases ex.foot D z with z | z
                · exact hDf z
                · rw [hDl] at z; cases z
            refine ⟨wipeD vs ρ, q', x, ρ1, rfl, wipe_env (en.ext (e0.trans e')), ok', w2, zg, fun σ2 en2 hw => ⟨hw.trans wipe_idem, ?_⟩⟩
            refine ⟨ρ1, q', rfl, ok', en2, G.all_mono (fun b hb q2 e2 ok2 es2 => ?_) (fun _ h => h) (G.all_noX (E' := XEnd M.w X.mg q' W0 σ2) (G.all_bind.mp hl))⟩
            obtain ⟨b, sb⟩ := b
            have es4 : q2.s = sb := es2
            cases b with
            | true =>
              have hb' : ((ea ρ1 sb).noX.bind _).all _ _ := hb
              rw [← es4] at hb'
              refine ⟨ρ1, q2, rfl, ok2, en2.ext e2, G.all_mono (fun y hy v q3 e3 ok3 es3 dy => ?_) (fun _ h => h) (G.all_noX (E' := XEnd M.w X.mg q2 W0 σ2) (G.all_bind.mp hb'))⟩
              obtain ⟨k1, k2, k3⟩ := keepD (e2.trans e3)
              split at hy
              · rename_i hbig
                refine ⟨av, k1, ?_, acc ++ [y.1], av ++ [v], ⟨q3.s, q3.F, q3.Hv, upd q3.H D (.lst (av ++ [v])), q3.ad⟩, rfl, ?_, ?_, upd_same, k2, k3, ?_, by rw [← es3] at hy; exact hy⟩
                · rw [da.length]
                  have : big < sizeLine := by rw [sizeLine_eq]; decide
                  omega
                · have sm : Same q3.Hv (upd q3.H D (.lst (av ++ [v]))) := fun b o hb => by
                    have : b ≠ D := fun z => by rw [z, k2] at hb; cases hb
                    rw [upd_ne this]; exact ok3.view _ _ hb
                  exact ⟨sm, ok3.off, M.w.stay ok3.rep Same.rfl' fun b o fb hb => by
                    have : b ≠ D := fun z => k3 (z ▸ fb)
                    show upd q3.H D (.lst (av ++ [v])) b = some o
                    rw [upd_ne this]; exact hb⟩
                · have e13 := ((e'.trans e2).trans e3)
                  exact ⟨e13.view, fun b o hb nf => by
                    have : b ≠ D := ne_of_none hb hD
                    show upd q3.H D _ b = some o
                    rw [upd_ne this]; exact e13.frame b o hb nf, e13.new, e13.foot, e13.ad⟩
                · exact ((e2.trans e3).denL da).append (DenL.one dy)
              · exact hy.elim
            | false =>
              have hb' : (lcW g et ea (wipeD vs ρ) r.1 fu (i + 1) acc sb).all _ _ := hb
              rw [← es4] at hb'
              obtain ⟨k1, k2, k3⟩ := keepD e2
              exact ⟨acc, av, q2, rfl, ok2, e'.trans e2, k1, k2, k3, e2.denL da, hb'⟩
theorem ev_lcW (own : List (Str × Nat)) {ifs : List Expr} {scope : Scope} {g : D → Dv → Option Dv} {et : Ev M.w Bool} (hc : X.calm = true) (hN : X.N.Nodup) (hi : PE X iter (tD M.w X.mg W ew)) (ok : BlkOk X.N X.env.scope scope own)
    (hg : ∀ (s : Shared) (H : Hp) (C : Addr) (cl : List (Str × Addr)) (fp : List Addr), PG (X.blk s H scope (compEnvC scope cl C X.env) fp) tg (tGd M.w (own.map (·.2)) g))
    (ht : ∀ (s : Shared) (H : Hp) (C : Addr) (cl : List (Str × Addr)) (fp : List Addr), PTs (X.blk s H scope (compEnvC scope cl C X.env) fp) ifs (tB' M.w X.mg W0 et))
    (he : ∀ (s : Shared) (H : Hp) (C : Addr) (cl : List (Str × Addr)) (fp : List Addr), PE (X.blk s H scope (compEnvC scope cl C X.env) fp) elt (tD M.w X.mg W0 ea)) (hs : ∀ x, foldedSetIterable iter X.env x = pure x := by intro _; rfl)
    : PE X (.ListComp elt [⟨tg, iter, ifs, 0⟩] scope pos) (tR M.w X.mg W (eLcW (own.map (·.2)) ew g et ea)) := (pe_lc hc hN (pi_any hi) ok hg ht he hs).con fun _ _ _ h => tLcW_of h
end
section
variable {K : PySem.W.Frag} {M : OM K}
def eCell (er : Ev M.w R) : Ev M.w D := fun ρ s => (er ρ s).bind fun r => match r.1 with
  | .fr d => match cellOf d with
    | some c => .ret (nwD r.2, stAdd r.2 c)
    | none => .bad
  | _ => .bad
end
section
variable {X : Cx} {M : OM X.K} {W : WX} {e o : Expr} {apos pos : Pos} {ea : Ev M.w D} {er : Ev M.w R}
theorem ev_cell (he : PE X e (tR M.w X.mg W er)) : PE X e (tD M.w X.mg W (eCell er)) := he.con fun σ H Q ⟨ρ, p, hH, ok, en, q⟩ => by
  refine ⟨ρ, p, hH, ok, en, G.all_mono (fun r hr v q1 e1 ok1 es1 rk => ?_) (fun _ h => h) (G.all_bind.mp q)⟩
  obtain ⟨r, s1⟩ := r
  cases r with
  | sh d => exact hr.elim
  | fr d =>
    cases zc : cellOf d with
    | none => simp only [zc] at hr; exact hr.elim
    | some c =>
      simp only [zc] at hr
      obtain ⟨q2, a, rfl, g1, g2, g3, g4, g5, g6, g7, g8, g9⟩ := obj_adopt ok1 e1 rk zc
      rw [← g1]
      have es : q1.os = s1 := es1
      refine hr (.ref a) q2 g6 g7 (by rw [g2, es]; rfl) ?_
      show Den X.K q2.ad q2.Hv (nwD s1) (.ref a)
      rw [← es]
      exact ⟨a, by rw [g5]; exact adN_new, rfl⟩
end
section
variable {K : PySem.W.Frag} {M : WM K}
theorem rel_owl {p q : Pt M} {ρ : Nv} {σ : Sl} {i : Nat} {lb : List D} (rl2 : Rel p ρ σ q) (zb : ρ[i]? = some (some (.ow (.lst lb)))) : ∃ a vs, σ[i]? = some (some (.ref a)) ∧ q.H a = some (.lst vs) ∧ DenL K q.ad q.Hv lb vs ∧ ∀ l' vs', DenL K q.ad q.Hv l' vs' → Rel p (ρ.set i (some (.ow (.lst l')))) σ (⟨q.s, q.F, q.Hv, upd q.H a (.lst vs'), q.ad⟩ : Pt M) := by
  obtain ⟨a0, o1, k1, j2, j3, j4, j5, j6⟩ := rl2.ow i _ zb
  have ho1 : ∃ vs, o1 = .lst vs := by
    cases o1 <;> first | exact ⟨_, rfl⟩ | exact False.elim j6
  obtain ⟨vs1, rfl⟩ := ho1
  refine ⟨a0, vs1, k1, j2, j6, fun l' vs' dnew => ?_⟩
  refine ⟨⟨fun b o hb => ?_, rl2.ok.off, M.stay rl2.ok.rep Same.rfl' fun b o fb hb => ?_⟩, ⟨rl2.ext.view, fun b o hb nf => ?_, rl2.ext.new, rl2.ext.foot, rl2.ext.ad⟩, by rw [List.length_set]; exact rl2.len, fun j d hj => ?_, fun j d hj => ?_, fun j k d d' a hjk hj hk => ?_⟩
  · have n : b ≠ a0 := fun z => by rw [z, j3] at hb; cases hb
    show upd q.H a0 _ b = some o
    rw [upd_ne n]; exact rl2.ok.view _ _ hb
  · have n : b ≠ a0 := fun z => j4 (z ▸ fb)
    show upd q.H a0 _ b = some o
    rw [upd_ne n]; exact hb
  · have n : b ≠ a0 := fun z => by
      subst z
      rcases j5 with z | z
      · rw [hb] at z; cases z
      · exact nf z
    show upd q.H a0 _ b = some o
    rw [upd_ne n]; exact rl2.ext.frame b o hb nf
  · by_cases hij : i = j
    · subst hij
      rw [List.getElem?_set_self (List.getElem?_eq_some_iff.mp zb).1] at hj
      cases hj
    · rw [List.getElem?_set_ne hij] at hj
      exact rl2.sh j d hj
  · by_cases hij : i = j
    · subst hij
      rw [List.getElem?_set_self (List.getElem?_eq_some_iff.mp zb).1] at hj
      cases hj
      exact ⟨a0, _, k1, upd_same, j3, j4, j5, dnew⟩
    · rw [List.getElem?_set_ne hij] at hj
      obtain ⟨a2, o2, e1, e2, e3, e4, e5, e6⟩ := rl2.ow j d hj
      have n : a2 ≠ a0 := fun z => rl2.dis i j _ d a0 hij zb hj k1 (by rw [e1, z])
      exact ⟨a2, o2, e1, by show upd q.H a0 _ a2 = _; rw [upd_ne n]; exact e2, e3, e4, e5, e6⟩
  · have back : ∀ (j : Nat) d, (ρ.set i (some (.ow (.lst l'))))[j]? = some (some (.ow d)) → ∃ d', ρ[j]? = some (some (.ow d')) := fun j d hj => by
      by_cases hij : i = j
      · subst hij; exact ⟨_, zb⟩
      · rw [List.getElem?_set_ne hij] at hj
        exact ⟨d, hj⟩
    obtain ⟨d1, z1⟩ := back j d hj
    obtain ⟨d2, z2⟩ := back k d' hk
    exact rl2.dis j k d1 d2 a hjk z1 z2
theorem DenL.eraseI {ad : Nat → Option Addr} {Hv : Hp} : ∀ {ds : List D} {vs : List V} (k : Nat), DenL K ad Hv ds vs → DenL K ad Hv (ds.eraseIdx k) (vs.eraseIdx k)
  | [], vs, k, h => by
    have h : vs = [] := h
    subst h; exact DenL.nil
  | d :: ds, vs, k, h => by
    obtain ⟨v, r, rfl, h1, h2⟩ := h
    cases k with
    | zero => exact h2
    | succ k => exact DenL.cons h1 (DenL.eraseI k h2)
theorem seqIx_nat {n k : Nat} (h : k < n) : seqIndex? ((k : Nat) : Int) n = some k := by
  unfold seqIndex?
  simp
  omega
def sLPopS (j i : Nat) (m : List Nat) (ei : Ev M D) : Sv M := fun ρ s => match ρ[i]? with
  | some (some (.ow (.lst _))) => (inF m ei ρ s).bind fun r => match r.1, (behind M m (flat r.1) r.2 ρ)[i]? with
    | .int k, some (some (.ow (.lst l))) => match l[k.toNat]? with
      | some d => if 0 ≤ k ∧ l.length < big ∧ j < ρ.length then .ret (.nx (((behind M m (flat r.1) r.2 ρ).set i (some (.ow (.lst (l.eraseIdx k.toNat))))).set j (some (.sh d))), r.2) else .bad
      | none => .bad
    | _, _ => .bad
  | _ => .bad
end
section
variable {X : Cx} {M : WM X.K} {W : WX} {e a b : Expr} {pos : Pos} {ea eb : Ev M D} {m : List Nat}
theorem ss_lpopS (j i : Nat) (m : List Nat) {y x : Str} {pos' p1 apos pos2 : Pos} (hND : X.N.Nodup) (he : PE X e (tD M X.mg W ea)) (hji : (j == i) = false := by rfl) (hj : X.N[j]? = some y := by rfl) (hx : Loc X.env.scope y := by first | exact Or.inl rfl | exact Or.inr rfl) (hN : X.N[i]? = some x := by rfl) (hv : Vis X.env.scope x := by first | exact Or.inl rfl | exact Or.inr (Or.inl rfl) | exact Or.inr (Or.inr rfl)) (hd : (x == ("__debug__" : Str)) = false := by decide)
    (hcd : (x == ("__classdict__" : Str)) = false := by decide) (hbase : attributeBase (.Name x p1) "pop" X.env (eval (.Name x p1) X.env) = eval (.Name x p1) X.env := by rfl)
    (hfew : ((backTo pos (starEach [e] X.env)).all (fun x => !x.1) && (backToKw pos (keywordEach [] X.env)).all (fun x => x.1.isSome) && decide ([e].length + ([] : List Keyword).length + (if ([] : List Keyword).isEmpty then 0 else 1) < 30)) = true := by rfl)
    (hline : (apos.endLine == pos.line) = true := by rfl) (hst : starEach [e] X.env = (false, eval e X.env) :: starEach [] X.env := by rfl)
    (hs : swapsWith (.Call (.Attribute (.Name x p1) "pop" apos) [e] [] pos) (some (.Name y pos')) pos2.line X.env = pure false := by rfl)
    (hf : X.fn y = true ∨ X.env.scope.names.lookup y = some .local := by first | exact .inl rfl | exact .inr rfl) :
    PS X (.Assign [.Name y pos'] (.Call (.Attribute (.Name x p1) "pop" apos) [e] [] pos) pos2) (tS M X.mg W (sLPopS j i m ea)) :=
  (ps_set hND hj hx (pe_bm PySem.F.plainAttrs_list PySem.F.slot_list_pop PySem.F.type_list_pop mt_popAt (pe_var hN hv hd hcd) (pa_cons he pa_nil hst) hbase hfew hline hst rfl) hs hf).con fun Dd σ H ⟨en, ρ, p, hH, rl, q⟩ => by
  subst hH
  show ∃ v, σ[i]? = some (some v) ∧ tyV X.K "list" v p.H ∧ tD M X.mg W ea σ p.H fun y H2 => rPopAt v [y] H2 fun x H3 => Dd.nx (σ.set j (some x)) H3
  cases z0 : ρ[i]? with
  | none => simp only [sLPopS, z0] at q; exact q.elim
  | some ob0 =>
    cases ob0 with
    | none => simp only [sLPopS, z0] at q; exact q.elim
    | some vv0 =>
     cases vv0 with
     | sh _ => simp only [sLPopS, z0] at q; exact q.elim
     | ow d0 =>
      cases d0 <;> first | (simp only [sLPopS, z0] at q; exact q.elim) | skip
      rename_i l0
      simp only [sLPopS, z0] at q
      obtain ⟨a0, vs0, k1, k2, k3, k4⟩ := rel_owl rl z0
      refine ⟨.ref a0, k1, .inl ⟨rfl, vs0, SqL.of k2⟩, ?_⟩
      refine inF_V rl q fun r y q1 ex ok es dy hr => ?_
      obtain ⟨q2, eH, eS, rl2, rk2, ap⟩ := behind_ok (r := .sh r.1) rl ex ok dy
      rw [← es, show flat r.1 = flatR (.sh r.1) from rfl] at hr
      obtain ⟨rd, rs⟩ := r
      cases rd <;> first | exact hr.elim | skip
      rename_i k
      cases zb : (behind M m (flatR (.sh (.int k))) q1.s ρ)[i]? with
      | none => rw [zb] at hr; exact hr.elim
      | some ob =>
        rw [zb] at hr
        cases ob with
        | none => exact hr.elim
        | some vv =>
          cases vv with
          | sh _ => exact hr.elim
          | ow db =>
            cases db <;> first | exact hr.elim | skip
            rename_i lb
            simp only at hr
            split at hr
            · rename_i d hd2
              split at hr
              · rename_i hc
                obtain ⟨c1, c2, c3⟩ := hc
                obtain ⟨a1, vs1, j1, j2, j3, j4⟩ := rel_owl rl2 zb
                rw [k1] at j1
                cases j1
                have hlen := DenL.length j3
                obtain ⟨n, rfl⟩ : ∃ n : Nat, k = (n : Int) := ⟨k.toNat, by omega⟩
                rw [Int.toNat_natCast] at hr hd2
                have hy : y = .int ((n : Nat) : Int) := dy
                subst hy
                have hbig : big = 1000000 := rfl
                have hnl := (List.getElem?_eq_some_iff.mp hd2).1
                obtain ⟨v, v1, v2⟩ := j3.get hd2
                refine ⟨a0, vs1, ((n : Nat) : Int), n, v, rfl, rfl, by rw [← eH]; exact j2, by omega, by omega, seqIx_nat (by omega), v1, ?_⟩
                rw [← eH]
                exact hr (σ.set j (some v)) _ (set_rel (r := .sh d) (j4 _ _ (DenL.eraseI n j3)) v2 (fun a _ ⟨_, hz⟩ => by cases hz) j (by rw [List.length_set, behind_len]; exact c3)) eS
              · exact hr.elim
            · exact hr.elim
end
def dedI : List Int → List Int
  | [] => []
  | x :: r => if x ∈ r then dedI r else x :: dedI r
def setD : List D → Option R
  | [.lst l] => match intsD l with
    | some ns => if ns.length + 1 < 4096 ∧ (dedI ns).length < 64 then some (.fr (.lst ((sortI (dedI ns)).map .int))) else none
    | none => none
  | _ => none
def eSetS {K : PySem.W.Frag} {M : WM K} (ea : Ev M D) : Ev M R := fun ρ s => (ea ρ s).bind fun x => op (setD [x.1]) x.2
section
variable {X : Cx} {M : WM X.K} {W : WX} {e : Expr} {ea : Ev M D}
def maxDD (i : Int) : D → Option R
  | .lst l => match intsD l with
    | some [] => some (.sh (.int i))
    | some (n :: r) => some (.sh (.int (maxI n r)))
    | none => none
  | _ => none
def eMaxD {K : PySem.W.Frag} {M : WM K} (i : Int) (ea : Ev M D) : Ev M R := fun ρ s => (ea ρ s).bind fun x => op (maxDD i x.1) x.2
end
section
variable {K : PySem.W.Frag} {ad : Nat → Option Addr} {Hv : Hp}
theorem denL_set : ∀ {ds : List D} {vs : List V} {d : D} {v : V}, DenL K ad Hv ds vs → Den K ad Hv d v → ∀ j : Nat, DenL K ad Hv (ds.set j d) (vs.set j v)
  | [], _, _, _, h, _, _ => by cases h; exact DenL.nil
  | _ :: _, _, _, _, ⟨u, r, e, h1, h2⟩, hd, j => by
    subst e
    cases j with
    | zero => exact DenL.cons hd h2
    | succ j => exact DenL.cons h1 (denL_set h2 hd j)
end
section
variable {K : PySem.W.Frag} {M : WM K}
def eP2 (ea ei : Ev M D) : Ev M (D × D) := fun ρ s => (ea ρ s).bind fun x => (ei ρ x.2).bind fun y => .ret ((x.1, y.1), y.2)
def sStore (i : Nat) (m : List Nat) (ea ei : Ev M D) : Sv M := fun ρ s => match ρ[i]? with
  | some (some (.ow (.lst _))) => (inF m (eP2 ea ei) ρ s).bind fun r => match r.1.2 with
    | .int k => match (behind M m (flat r.1.1) r.2 ρ)[i]? with
      | some (some (.ow (.lst l))) => match ixN l.length k with
        | some j => .ret (.nx ((behind M m (flat r.1.1) r.2 ρ).set i (some (.ow (.lst (l.set j r.1.1))))), r.2)
        | none => .bad
      | _ => .bad
    | _ => .bad
  | _ => .bad
end
section
variable {X : Cx} {M : WM X.K} {W : WX} {e ix : Expr} {pos : Pos} {ea ei : Ev M D} {m : List Nat}
theorem ss_store (i : Nat) (m : List Nat) {x : Str} {p1 tpos : Pos} (he : PE X e (tD M X.mg W ea)) (hi : PE X ix (tD M X.mg W ei)) (hN : X.N[i]? = some x := by rfl) (hv : Vis X.env.scope x := by first | exact Or.inl rfl | exact Or.inr (Or.inl rfl) | exact Or.inr (Or.inr rfl)) (hd : (x == ("__debug__" : Str)) = false := by decide)
    (hcd : (x == ("__classdict__" : Str)) = false := by decide) (hs : swapsWithSole [.Subscript (.Name x p1) ix tpos] e pos.line X.env = pure false := by rfl) (hw : swappedStores [.Subscript (.Name x p1) ix tpos] e X.env = pure none := by rfl)
    (h1 : (assignEach [.Subscript (.Name x p1) ix tpos] X.env).map (·.2) = [assign (.Subscript (.Name x p1) ix tpos) X.env] := by rfl)
    (hga : ∀ v, assign (.Subscript (.Name x p1) ix tpos) X.env v = (do
      let ov ← holding [v] (eval (.Name x p1) X.env)
      let iv ← holding [v, ov] (eval ix X.env)
      standAt tpos
      holding [v, ov, iv] (setItem ov iv v)
      release [v, ov, iv] []) := by intro _; rfl) :
    PS X (.Assign [.Subscript (.Name x p1) ix tpos] e pos) (tS M X.mg W (sStore i m ea ei)) :=
  (ps_asg he (pg_sub (pe_var hN hv hd hcd) hi set_list hga) hs hw h1).con fun Dd σ H ⟨en, ρ, p, hH, rl, q⟩ => by
  subst hH
  show tD M X.mg W ea σ p.H fun x H1 => ∃ v, σ[i]? = some (some v) ∧ tD M X.mg W ei σ H1 fun k H2 => rSetL v k x H2 fun H3 => Dd.nx σ H3
  cases z0 : ρ[i]? with
  | none => simp only [sStore, z0] at q; exact q.elim
  | some ob0 =>
    cases ob0 with
    | none => simp only [sStore, z0] at q; exact q.elim
    | some vv0 =>
     cases vv0 with
     | sh _ => simp only [sStore, z0] at q; exact q.elim
     | ow d0 =>
      cases d0 <;> first | (simp only [sStore, z0] at q; exact q.elim) | skip
      rename_i l0
      simp only [sStore, z0] at q
      obtain ⟨a0, o0, k1, k2, k3, k4, k5, k6⟩ := rl.ow i _ z0
      have q1 := G.all_exs.mp (G.all_bind.mp q)
      have q2 := G.all_mono (fun _ h => h) (fun x hx cls dd q e ok es xk => hx cls dd σ q (frz_rel rl e ok) es xk : ∀ x, _ → XEnd M X.mg (p.opn ρ σ m) W σ x) q1
      refine tG.seq (p := p.opn ρ σ m) (opn_ok rl) (opn_env rl) q2 fun r1 x p1 ex1 ok1 es1 dx h1 => ?_
      rw [← es1] at h1
      refine ⟨.ref a0, k1, ?_⟩
      refine tG.seq ok1 ((opn_env rl).ext ex1) (XEnds ex1 h1 fun _ h => h) fun r2 y p2 ex2 ok2 es2 dy h2 => ?_
      have hr := h2
      obtain ⟨q2, eH, eS, rl2, rk2, ap⟩ := behind_ok (r := .sh r1.1) rl (ex1.trans ex2) ok2 (ex2.den dx)
      obtain ⟨r2d, r2s⟩ := r2
      have es2 : p2.s = r2s := es2
      subst es2
      cases r2d <;> first | exact hr.elim | skip
      rename_i kI
      have dyI : y = V.int kI := dy
      have hr : (match (behind M m (flatR (.sh r1.1)) p2.s ρ)[i]? with
        | some (some (.ow (.lst l))) => (match ixN l.length kI with
          | some j => .ret (.nx ((behind M m (flatR (.sh r1.1)) p2.s ρ).set i (some (.ow (.lst (l.set j r1.1))))), p2.s)
          | none => .bad : Gs M)
        | _ => .bad).all (SEnd M en Dd) (XSEnd M X.mg en W) := hr
      cases zb : (behind M m (flatR (.sh r1.1)) p2.s ρ)[i]? with
      | none =>
        rw [zb] at hr
        exact hr.elim
      | some ob =>
        rw [zb] at hr
        cases ob with
        | none => exact hr.elim
        | some vv =>
          cases vv with
          | sh _ => exact hr.elim
          | ow db =>
            cases db with
            | lst lb =>
              simp only at hr
              split at hr
              · rename_i jj hj
                obtain ⟨a1, o1, j1, j2, j3, j4, j5, j6⟩ := rl2.ow i _ zb
                rw [k1] at j1
                cases j1
                have ho1 : ∃ vs, o1 = .lst vs := by
                  cases o1 <;> first | exact ⟨_, rfl⟩ | exact False.elim j6
                obtain ⟨vs1, rfl⟩ := ho1
                have hlen : vs1.length = lb.length := DenL.length j6
                refine ⟨a0, vs1, kI, jj, rfl, dyI, by rw [← eH]; exact j2, by rw [hlen]; exact hj, ?_⟩
                rw [← eH]
                refine hr σ ⟨q2.s, q2.F, q2.Hv, upd q2.H a0 (.lst (vs1.set jj x)), q2.ad⟩ ?_ eS
                have dnew : DenL X.K q2.ad q2.Hv (lb.set jj r1.1) (vs1.set jj x) := denL_set j6 rk2 jj
                refine ⟨⟨fun b o hb => ?_, rl2.ok.off, M.stay rl2.ok.rep Same.rfl' fun b o fb hb => ?_⟩, ⟨rl2.ext.view, fun b o hb nf => ?_, rl2.ext.new, rl2.ext.foot, rl2.ext.ad⟩, by rw [List.length_set]; exact rl2.len, fun j d hj => ?_, fun j d hj => ?_, fun j k d d' a hjk hj hk => ?_⟩
                · have n : b ≠ a0 := fun z => by rw [z, j3] at hb; cases hb
                  show upd q2.H a0 _ b = some o
                  rw [upd_ne n]; exact rl2.ok.view _ _ hb
                · have n : b ≠ a0 := fun z => j4 (z ▸ fb)
                  show upd q2.H a0 _ b = some o
                  rw [upd_ne n]; exact hb
                · have n : b ≠ a0 := fun z => by
                    subst z
                    rcases j5 with z | z
                    · rw [hb] at z; cases z
                    · exact nf z
                  show upd q2.H a0 _ b = some o
                  rw [upd_ne n]; exact rl2.ext.frame b o hb nf
                · by_cases hij : i = j
                  · subst hij
                    rw [List.getElem?_set_self (List.getElem?_eq_some_iff.mp zb).1] at hj
                    cases hj
                  · rw [List.getElem?_set_ne hij] at hj
                    exact rl2.sh j d hj
                · by_cases hij : i = j
                  · subst hij
                    rw [List.getElem?_set_self (List.getElem?_eq_some_iff.mp zb).1] at hj
                    cases hj
                    exact ⟨a0, _, k1, upd_same, j3, j4, j5, dnew⟩
                  · rw [List.getElem?_set_ne hij] at hj
                    obtain ⟨a2, o2, e1, e2, e3, e4, e5, e6⟩ := rl2.ow j d hj
                    have n : a2 ≠ a0 := fun z => rl2.dis i j _ d a0 hij zb hj k1 (by rw [e1, z])
                    exact ⟨a2, o2, e1, by show upd q2.H a0 _ a2 = _; rw [upd_ne n]; exact e2, e3, e4, e5, e6⟩
                · have back : ∀ (j : Nat) d, ((behind M m (flatR (.sh r1.1)) p2.s ρ).set i (some (.ow (.lst (lb.set jj r1.1)))))[j]? = some (some (.ow d)) → ∃ d', (behind M m (flatR (.sh r1.1)) p2.s ρ)[j]? = some (some (.ow d')) := fun j d hj => by
                    by_cases hij : i = j
                    · subst hij; exact ⟨_, zb⟩
                    · rw [List.getElem?_set_ne hij] at hj
                      exact ⟨d, hj⟩
                  obtain ⟨d1, z1⟩ := back j d hj
                  obtain ⟨d2, z2⟩ := back k d' hk
                  exact rl2.dis j k d1 d2 a hjk z1 z2
              · exact hr.elim
            | _ => exact hr.elim
end
section
variable {P : Program} {w : World} {K : PySem.W.Frag} {mg : Str → Option Value} {base : Heap}
section
variable {M : WM K} {x : Str} {st : Stmt} {N : List Str} {k n : Nat} {ss : Sv M}
theorem GF.kw {fs : List D → M.S → Gx M R} {ps ks : List Str} {np : Nat} (h : GF P w K mg base M k x st ps n fs)
    (hb : ∀ (kV doc pm : Value) (an : Option Addr) (cdv ct : Value) (us ws : List Value), us.length = np → ws.length = ks.length → bindArgs (PySem.W.fnOf x x (defArgs st) (defBody st) (defScope st) .none kV doc pm an cdv ct) ⟨us, ks.zip ws⟩ = pure (ps.zip (us ++ ws))) : KwOk P w K mg base M k x np ks n fs (fun us ws => us ++ ws) := by
  obtain ⟨g, fd, m, F, ok⟩ := h.ex
  exact KwOk.of F m (kbn_of F hb) ok
theorem dk0 {ps : List Str} (h : GM K mg x st) (hl : ps.length = n) (hb : FBind x x st n ps) : DefOk P w K mg base M k x n fBad [] := by
  obtain ⟨g, fd, m, F⟩ := h.ex
  exact DefOk.of F m (F.bn hl hb) (fn_bad hl)
end
section
variable {N : OM K} {x m q : Str} {st : Stmt} {L : List Str} {k n : Nat} {ss : Sv N.w} {C : Addr}
theorem mk (h : MM K C m q st) (hC : N.CT.lookup x = some C) (hb : FBind m q st n (L.take n)) (S : FnScope L (L.take n) (defScope st)) (hle : n ≤ L.length) (hbody : Walked P w K mg base N.w k L q st ss) : MethOk P w K mg base N (k + 1) x m n (runD L.length ss) [] := by
  obtain ⟨g, fd, a, f, F⟩ := h.ex
  exact MethOk.of hC a f F.kp (F.bn (takeL hle) hb) (def_ok F S (takeL hle) hle (hbody S.nd g))
theorem nk (h : MM K C "__init__" q st) (c : mg x = some (.ref C) ∧ PySem.W.makesIn K C = true ∧ PySem.W.keepIn K (.ref C) = true) (hC : N.CT.lookup x = some C) (hb : FBind "__init__" q st n (L.take n)) (S : FnScope L (L.take n) (defScope st)) (hle : n ≤ L.length) (hbody : Walked P w K mg base N.w k L q st ss) : NewOk P w K mg base N (k + 1) x n (runD L.length ss) [] := by
  obtain ⟨g, fd, a, f, F⟩ := h.ex
  exact NewOk.of hC c.1 c.2.1 a f c.2.2 (F.bn (takeL hle) hb) (def_ok F S (takeL hle) hle (hbody S.nd g))
end
end
end VQ
local macro_rules | `(tactic| simp! [$xs,*]) => `(tactic| try simp -implicitDefEqProofs only [VQ.startE, VQ.sSet, VQ.sRet, VQ.sDrop, VQ.sNil, VQ.inF, VQ.eVar, VQ.eC, VQ.eSeen, VQ.eSh, VQ.eBin, VQ.eBinD, VQ.eTest, VQ.eNot, VQ.eAndV, VQ.eNil, VQ.eCons, VQ.eTup, VQ.eLst, VQ.eFun, VQ.eCall, VQ.eNoPt, VQ.ePt, VQ.intOf, VQ.eSl, VQ.eCmpT, VQ.eYes, VQ.eI1, VQ.eItems, VQ.view, VQ.viewG, VK.v1_sh, VK.v1_no, VQ.frz, VQ.frzG, VK.f1_sh, VK.f1_no, VQ.behind, VQ.op, VQ.R.d, VQ.R.vv, VQ.G.bind_ret, VQ.G.exs_ret, VQ.G.bind_draw, VQ.G.exs_exs, VQ.G.exs_bind, VQ.G.bind_assoc, VQ.gtName, VQ.gdName, VQ.wipeD, List.foldl, List.map, List.length, List.replicate, List.cons_append, List.nil_append, List.append_nil, List.isEmpty_nil, Bool.true_or, if_true, ↓reduceIte, List.getElem?_cons_zero, List.getElem?_cons_succ, List.set_cons_zero, List.set_cons_succ, Nat.zero_add, Nat.reduceAdd, Nat.reduceSub, Nat.reduceLT, Nat.reduceLeDiff, Nat.reduceEqDiff, VQ.lenD, VK.frzG_e, VQ.ixD, VQ.truD, VQ.blD, VQ.isNon, Option.map_some, Bool.not_true, Bool.not_false, VQ.slD, VK.cut_to, beq_self_eq_true, Bool.or_false, Bool.false_eq_true, Bool.true_and, $xs,*])
local macro_rules | `(tactic| walk_at "U") => `(tactic| simp! [VQ.runD, VQ.sSeq, VQ.sThen, VQ.sIf, VQ.sRaise, VQ.eUn, VQ.eOr, VQ.eIf, VQ.G.bind_exc, VQ.G.exs_exc, VQ.G.exs_draw, ite_self, VK.lb2, VK.lb5, VK.lb7, VK.add_ii, VK.add_ss, VK.sub_ii, VQ.negD, VK.all_map, VQ.isT, VK.cut_last, VK.q_ss, VQ.leD, VQ.cmpI, decide_true, decide_false, Bool.or_true, Bool.and_true, Bool.false_and])
local macro_rules | `(tactic| walk_at "US") => `(tactic| simp! [*, VQ.runD, VQ.sSeq, VQ.sThen, VQ.sIf, VQ.sRaise, VQ.eUn, VQ.eOr, VQ.eIf, VQ.G.bind_exc, VQ.G.exs_exc, VQ.G.exs_draw, ite_self, VK.lb2, VK.lb5, VK.lb7, VK.add_ii, VK.add_ss, VK.sub_ii, VQ.negD, VK.all_map, VQ.isT, VK.cut_last, VK.q_ss, VQ.leD, VQ.cmpI, decide_true, decide_false, Bool.or_true, Bool.and_true, Bool.false_and])
namespace VK
open PySem PySem.Spec PyProof.Rows L2 VQ
section
variable {K : PySem.W.Frag} {M : WM K} {s : M.S} {pull : Dfs M}
theorem of_spec (hp : PullOk pull) {ds : List D} (h0 : 0 < ds.length) (h1 : ds.length ≤ 1000000) : Al (w_law_of M pull [.obj 0, .lst ds] s) (fun r => ∃ d ∈ ds, r = (.sh d, s)) (fun _ => False) := by
  unfold w_law_of s_law_of
  have hpl := hp ds.length h0 h1
  walk_at "US"
  refine .draw h0 fun r hr => ?_
  have e2 : atI ds ((r : Nat) : Int) = some (ds[r]'hr) := atI_nat (by simp [hr])
  rw [e2]
  walk_at "U"
  exact .ret ⟨_, List.getElem_mem hr, rfl⟩
theorem figs_eq (i : Int) : w_law_figs M [.int i] s = .ret (.sh (.str (b5 i)), s) := by
  unfold w_law_figs s_law_figs
  simp [runD, startE, sRet, sFor, inF, eI1, eC, rng1, in62, lk_eq, VQ.upTo, List.range_succ, loopG, gtName, eBin, eSeen, eFun, eCons, eNil, eVar, sSeq, sThen, sSet, eSh, view, viewG, view1, frz, frzG, frz1, modD, fdivD, int2, addD, str2, op, G.exs, G.bind, R.d, R.vv, behind, b5, big]
theorem worth_spec (hp : PullOk pull) : Al (w_law_worth M pull [.obj 0] s) (fun r => ∃ n : Nat, n < 32 ∧ r = (.sh (.int n), s)) (fun _ => False) := by
  unfold w_law_worth s_law_worth
  have h32 : ∀ s, pull [.obj 0, .int 32] s = _ := hp 32 (by decide) (by decide)
  have h4 : ∀ s, pull [.obj 0, .int 4] s = _ := hp 4 (by decide) (by decide)
  walk_at "US"
  refine .draw (by decide) fun a ha => .draw (by decide) fun b hb => .draw (by decide) fun c hc => ?_
  refine Al.btox (of_spec hp (by simp) (by simp)) fun r hr => ?_
  obtain ⟨d, hd, rfl⟩ := hr
  walk_at "U"
  simp only [List.mem_cons, List.not_mem_nil, or_false] at hd
  rcases hd with rfl | rfl | rfl | rfl | rfl
  · exact .ret ⟨a, ha, rfl⟩
  · exact .ret ⟨b, hb, rfl⟩
  · exact .ret ⟨c, by omega, rfl⟩
  · exact .ret ⟨0, by decide, rfl⟩
  · exact .ret ⟨31, by decide, rfl⟩
theorem begin_spec (hp : PullOk pull) : Al (w_law_begin M pull [.obj 0] s) (fun r => ∃ l, beg l = true ∧ r = (.sh (.str l), s)) (fun _ => False) := by
  unfold w_law_begin s_law_begin
  walk_at "U"
  refine Al.btox (of_spec hp (by simp) (by simp)) fun r hr => ?_
  obtain ⟨d, hd, rfl⟩ := hr
  walk_at "U"
  refine Al.btox (worth_spec hp) fun r hr => ?_
  obtain ⟨n, hn, rfl⟩ := hr
  walk_at "U"
  simp only [figs_eq]
  walk_at "U"
  have hk : ∃ k : Nat, d = .int (k : Nat) := by
    simp only [List.mem_cons, List.not_mem_nil, or_false] at hd
    rcases hd with rfl | rfl | rfl | rfl | rfl | rfl | rfl
    all_goals first | exact ⟨0, rfl⟩ | exact ⟨1, rfl⟩ | exact ⟨2, rfl⟩ | exact ⟨3, rfl⟩ | exact ⟨4, rfl⟩ | exact ⟨5, rfl⟩
  obtain ⟨k, rfl⟩ := hk
  walk_at "U"
  simp only [slD, b5_len]
  walk_at "U"
  refine .ret ⟨_, ?_, rfl⟩
  show beg (((b5 n).drop 0).take _) = true
  exact beg_take (b5_beg _) _
theorem under_eq (l : List Nat) (hl : l.length ≤ 1000) : w_law_under M [.str l] s = .ret (.fr (.lst (((List.range 32).filter fun n => (b5 (n : Nat)).take l.length == l).map fun n => .int (n : Nat))), s) := by
  unfold w_law_under s_law_under
  have hb : l.length ≤ big := by unfold big; omega
  walk_at "U"
  rw [elc_fil (List.range 32) (fun n => .int (0 + (n : Nat))) (fun n => (b5 (n : Nat)).take l.length == l) (fun n => .int (n : Nat)) (s' := s)]
  · walk_at "U"
  · have h32 := rng1_eq (n := 32) (by decide)
    rw [show ((32 : Nat) : Int) = 32 from rfl] at h32
    walk_at "U"
    rw [h32]
  · decide
  · intro n hn
    have hb5 : (b5 n).length ≤ big := by simp [b5_len, big]
    refine ⟨_, rfl, ?_, fun _ => ?_⟩
    · walk_at "U"
      simp only [Int.zero_add, figs_eq]
      walk_at "US"
    · walk_at "U"
      rw [Int.zero_add]
theorem isbeg_str (l : List Nat) (hl : l.length ≤ 1000) : w_is_beginning M [.str l] s = .ret (.sh (.bl (beg l)), s) := by
  unfold w_is_beginning s_is_beginning
  have hb : l.length ≤ big := by unfold big; omega
  have hlc : eLc (M := M) [1] (eItems anyOf (eVar M 0)) (gdName 1) eYes (eBinD (blD inD) (eVar M 1) (eC M (.str [48, 49]))) [some (.str l), none] s = .ret (.fr (.lst (l.map fun c => .bl (isSign c))), s) := by
    refine elc_map l (fun c => .str [c]) _ (by walk_at "U"; rfl) hb fun c hc => ⟨_, rfl, ?_⟩
    walk_at "U"
    simp only [inD]
    walk_at "U"
    congr 3
    by_cases h1 : c = 48 <;> by_cases h2 : c = 49 <;> simp [isSign, h1, h2]
  by_cases h5 : l.length ≤ 5
  · have h5i : ((l.length : Nat) : Int) ≤ 5 := by omega
    walk_at "US"
    simp [beg, h5]
  · have h5i : ¬ ((l.length : Nat) : Int) ≤ 5 := by omega
    walk_at "US"
    simp [beg, h5]
theorem span_ok (l : List Nat) (h : beg l = true) : w_span M [.str l] s = .ret (.sh (.tup [.int (valN l * 2 ^ (5 - l.length)), .int ((valN l + 1) * 2 ^ (5 - l.length))]), s) := by
  have hl : l.length ≤ 1000 := by have := beg_len h; omega
  unfold w_span s_span
  walk_at "U"
  simp only [isbeg_str l hl, h]
  walk_at "U"
  have hsg : l.all isSign = true := by
    simp only [beg, Bool.and_eq_true] at h
    exact h.2
  have hsm : ∀ c ∈ l, c = 48 ∨ c = 49 := fun c hc => by
    have := List.all_eq_true.mp hsg c hc
    simpa [isSign] using this
  have h5 : l.length ≤ 5 := beg_len h
  rw [for_pre l (fun c => .str [c]) (fun t => [some (.sh (.str l)), some (.sh (.int t.1)), t.2, none]) (fun (t : Int × Option VV) (c : Nat) => (2 * t.1 + ((c : Int) - 48), some (.sh (.str [c])))) (0, none) (s' := s) ?e ?r ?h]
  case e => walk_at "U"; rfl
  case r => rfl
  case h =>
    intro pre c post hl
    refine ⟨_, rfl, ?_⟩
    have h1 := foldl_fst (fun (a : Int) (c : Nat) => 2 * a + ((c : Int) - 48)) (fun c => some (VV.sh (.str [c]))) pre (0, none)
    generalize hf : List.foldl _ _ pre = t at h1 ⊢
    obtain ⟨t1, t2⟩ := t
    have hpl : pre.length ≤ 5 := by
      have := congrArg List.length hl
      simp at this; omega
    obtain ⟨v0, v1⟩ := val_lt (l := pre) (List.all_eq_true.mpr fun c hc => List.all_eq_true.mp hsg c (by rw [hl]; simp [hc])) hpl
    have h1 : t1 = valN pre := h1
    have hc := hsm c (by rw [hl]; simp)
    have hm := mul_ok (i := 2) (j := t1) (small_of (by decide) (by decide)) (small_of (by omega) (by omega))
    have hi := int_c (c := c) (by omega) (by omega)
    walk_at "U"
    simp only [hm, hi]
    walk_at "U"
  have h1 := foldl_fst (fun (a : Int) (c : Nat) => 2 * a + ((c : Int) - 48)) (fun c => some (VV.sh (.str [c]))) l (0, none)
  generalize hf : List.foldl _ _ l = f at h1 ⊢
  obtain ⟨t1, t2⟩ := f
  have h1 : t1 = valN l := h1
  have hb : l.length ≤ big := by unfold big; omega
  obtain ⟨v0, v1⟩ := val_lt hsg h5
  have e5 : ((5 : Int) - (l.length : Nat)).toNat = 5 - l.length := by omega
  have hs1 := shl_ii (i := t1) (j := 5 - (l.length : Nat)) (by omega) (by omega) (small_of (by omega) (by omega))
  have hs2 := shl_ii (i := t1 + 1) (j := 5 - (l.length : Nat)) (by omega) (by omega) (small_of (by omega) (by omega))
  walk_at "U"
  simp only [hb]
  walk_at "U"
  simp only [hs1, hs2]
  walk_at "U"
  rw [e5, h1]
end
end VK
local macro_rules | `(tactic| walk_at "U") => `(tactic| simp! [VQ.runD, VQ.sSeq, VQ.sThen, VQ.sIf, VQ.eUn, VQ.eOr, ite_self, VK.all_map, VQ.isT, VQ.isTs, VQ.isD, VK.q_ss, VK.q_ii, VK.q_bb, VK.n_bb])
namespace VK
open PySem PySem.Spec PyProof.Rows L2 VQ
section
variable {K : PySem.W.Frag} {M : WM K} {s : M.S} {pull : Dfs M}
mutual
def okS : Nat → D → Bool
  | _ + 1, .non => true
  | _ + 1, .bl _ => true
  | _ + 1, .int _ => true
  | _ + 1, .str _ => true
  | n + 1, .tup l => decide (l.length ≤ 1000) && okSs n l
  | n + 1, .lst l => decide (l.length ≤ 1000) && okSs n l
  | _, _ => false
def okSs : Nat → List D → Bool
  | _, [] => true
  | n, d :: r => okS n d && okSs n r
end
theorem okSs_mem {n : Nat} : ∀ {l : List D}, okSs n l = true → ∀ d ∈ l, okS n d = true
  | [], _, _, h => by cases h
  | d :: r, h, x, hx => by
    simp -implicitDefEqProofs only [okSs, Bool.and_eq_true] at h
    rcases List.mem_cons.mp hx with e | e
    · rw [e]; exact h.1
    · exact okSs_mem h.2 x e
theorem same_seq (n : Nat) (b : Bool) (l : List D) (hl : l.length ≤ 1000) (ih : ∀ d ∈ l, w_law_same M n [d, d] s = .ret (.sh (.bl true), s)) : w_law_same M (n + 1) [if b then .lst l else .tup l, if b then .lst l else .tup l] s = .ret (.sh (.bl true), s) := by
  have hb : l.length ≤ big := by unfold big; omega
  unfold w_law_same s_law_same
  cases b
  all_goals
    simp -implicitDefEqProofs only [Bool.false_eq_true, if_false, if_true]
    walk_at "U"
    rw [elc_map (List.range l.length) (fun k => .int (0 + (k : Nat))) (fun _ => .bl true) (s' := s) ?e ?l ?h]
    case e =>
      walk_at "U"
      simp -implicitDefEqProofs only [rng1_eq (n := l.length) (by omega)]
    case l => rw [List.length_range]; exact hb
    case h =>
      intro k hk
      rw [List.mem_range] at hk
      refine ⟨_, rfl, ?_⟩
      have ha : atI l (0 + (k : Nat)) = some l[k] := by rw [Int.zero_add]; exact atI_nat (by simp [hk])
      walk_at "U"
      simp -implicitDefEqProofs only [ha]
      walk_at "U"
      simp -implicitDefEqProofs only [ih l[k] (List.getElem_mem hk)]
      walk_at "U"
    walk_at "U"
    rw [show (List.range l.length).all (fun _ => true) = true by simp]
theorem same_nil (n : Nat) : w_law_same M (n + 1) [.non, .non] s = .ret (.sh (.bl true), s) := by
  unfold w_law_same s_law_same
  walk_at "U"
theorem same_bl (n : Nat) (b : Bool) : w_law_same M (n + 1) [.bl b, .bl b] s = .ret (.sh (.bl true), s) := by
  unfold w_law_same s_law_same
  walk_at "U"
theorem same_int (n : Nat) (b : Int) : w_law_same M (n + 1) [.int b, .int b] s = .ret (.sh (.bl true), s) := by
  unfold w_law_same s_law_same
  walk_at "U"
theorem same_str (n : Nat) (b : List Nat) : w_law_same M (n + 1) [.str b, .str b] s = .ret (.sh (.bl true), s) := by
  unfold w_law_same s_law_same
  walk_at "U"
theorem same_refl (n : Nat) : ∀ d : D, okS n d = true → w_law_same M n [d, d] s = .ret (.sh (.bl true), s) := by
  induction n with
  | zero => intro d h; cases d <;> simp [okS] at h
  | succ n ih =>
    intro d h
    cases d with
    | non => exact same_nil n
    | bl b => exact same_bl n b
    | int b => exact same_int n b
    | str b => exact same_str n b
    | tup l =>
      simp -implicitDefEqProofs only [okS, Bool.and_eq_true, decide_eq_true_eq] at h
      exact same_seq n false l h.1 fun d hd => ih d (okSs_mem h.2 d hd)
    | lst l =>
      simp -implicitDefEqProofs only [okS, Bool.and_eq_true, decide_eq_true_eq] at h
      exact same_seq n true l h.1 fun d hd => ih d (okSs_mem h.2 d hd)
    | _ => simp [okS] at h
end
def x_BadBox : FSpec := [("called", .inr [66, 97, 100, 66, 111, 120])]
noncomputable section
variable {K : PySem.W.Frag} (M : WM K)
def s_law_box (f__law_begin : Dfs M) : Sv M := (sRet [] (eFun tupleD (eCons (eSeen (eLc [2] (eI1 rng1 (eVar M 1)) (gdName 2) (eYes) (eSeen (eCall 1 f__law_begin [] (eCons (eVar M 0) (eNil)))))) (eNil))))
def w_law_box (pull : Dfs M) : Dfs M := runD 3 (s_law_box M (w_law_begin M pull))
def s_is_box (f_is_beginning : Dfs M) : Sv M := (sRet [] (eSh (eAndV truD (eUn (fun d => (isT d .tuple).map .bl) (eVar M 0)) (eAndV truD (eChain leD leD (eC M (.int 1)) (eSeen (eFun lenD (eCons (eVar M 0) (eNil)))) (eC M (.int 5))) (eSeen (eFun allD (eCons (eSeen (eLc [1] (eItems anyOf (eVar M 0)) (gdName 1) (eYes) (eSeen (eCall 1 f_is_beginning [] (eCons (eVar M 1) (eNil)))))) (eNil))))))))
def w_is_box : Dfs M := runD 2 (s_is_box M (w_is_beginning M))
def s_under : Sv M := (sRet [] (eFun allD (eCons (eSeen (eLc [2, 3] (eI2 zipS (eVar M 0) (eVar M 1)) (gdTup 2 (gdCons (gdName 2) (gdCons (gdName 3) gdNil))) (eYes) (eSeen (eM1 startsD (eVar M 2) (eVar M 3))))) (eNil))))
def w_under : Dfs M := runD 4 (s_under M)
def s_whole : Sv M := (sRet [] (eBin mulD (eTup (eCons (eC M (.str [])) (eNil))) (eVar M 0)))
def w_whole : Dfs M := runD 1 (s_whole M)
def s_law_box_of (f__law_figs : Dfs M) : Sv M := (sRet [] (eFun tupleD (eCons (eSeen (eLc [1] (eItems anyOf (eVar M 0)) (gdName 1) (eYes) (eSeen (eCall 1 f__law_figs [] (eCons (eVar M 1) (eNil)))))) (eNil))))
def w_law_box_of : Dfs M := runD 2 (s_law_box_of M (w_law_figs M))
def s_law_starts : Sv M := (sRet [] (eSh (eBinD (blD eqO) (eSeen (eSl (eVar M 0) (eNoPt) (ePt (eSeen (eFun lenD (eCons (eVar M 1) (eNil))))))) (eVar M 1))))
def w_law_starts : Dfs M := runD 2 (s_law_starts M)
def s_law_inside (f__law_starts : Dfs M) : Sv M := (sRet [] (eFun allD (eCons (eSeen (eLc [2, 3] (eI2 zipOf (eVar M 0) (eVar M 1)) (gdTup 2 (gdCons (gdName 2) (gdCons (gdName 3) gdNil))) (eYes) (eSeen (eCall 2 f__law_starts [] (eCons (eVar M 2) (eCons (eVar M 3) (eNil))))))) (eNil))))
def w_law_inside : Dfs M := runD 4 (s_law_inside M (w_law_starts M))
def s_halves_of : Sv M := (sSeq (sFor [] (eI1 enumA (eVar M 0)) (gtTup 2 (gtCons (gtName 1) (gtCons (gtName 2) gtNil))) (sIf [] (eCmpT ltD (eSeen (eFun lenD (eCons (eVar M 2) (eNil)))) (eC M (.int 5))) (sRet [] (eLc [3] (eItems anyOf (eC M (.str [48, 49]))) (gdName 3) (eYes) (eSeen (eBin addD (eSeen (eBin addD (eSeen (eSl (eVar M 0) (eNoPt) (ePt (eVar M 1)))) (eTup (eCons (eSeen (eBin addD (eVar M 2) (eVar M 3))) (eNil))))) (eSeen (eSl (eVar M 0) (ePt (eSeen (eBin addD (eVar M 1) (eC M (.int 1))))) (eNoPt))))))) (sNil)))
    (sRet [] (eLst (eNil))))
def w_halves_of : Dfs M := runD 4 (s_halves_of M)
end
noncomputable section
variable {K : PySem.W.Frag} (N : OM K)
def s_Store___init__ : Sv N.w := (sSeq (sFldS (M := N) 0 "places" [] (eSh (eVar N.w 1)))
    (sFldS (M := N) 0 "pile" [] (eLst (eNil))))
def w_Store___init__ : Dfs N.w := runD 2 (s_Store___init__ N)
def s_Store_first_over (f_under : Dfs N.w) : Sv N.w := (sSeq (sForW (M := N) [] (eFld (M := N) "pile" (eVar N.w 0)) (gtName 2) (sIf [] (eTest truD (eSeen (eCall 2 f_under [] (eCons (eVar N.w 1) (eCons (eVar N.w 2) (eNil)))))) (sRet [] (eSh (eVar N.w 2))) (sNil)))
    (sRet [] (eSh (eC N.w .non))))
def w_Store_first_over : Dfs N.w := runD 3 (s_Store_first_over N (w_under N.w))
def s_Store_bare (f_whole : Dfs N.w) (f_Store_first_over : Dfs N.w) (f_halves_of : Dfs N.w) (f_span : Dfs N.w) : Sv N.w := (sSeq (sSet 1 [] (eLst (eCons (eSeen (eCall 1 f_whole [] (eCons (eFld (M := N) "places" (eVar N.w 0)) (eNil)))) (eNil))))
    (sSeq (sWhile [1] (eCmpT gtD (eSeen (eFun lenD (eCons (eVar N.w 1) (eNil)))) (eC N.w (.int 0))) (sSeq (sStar [2, 1] 1 [1] (eVar N.w 1))
    (sIf [] (eCmpT isD (eSeen (eMeth (M := N) "Store" 2 f_Store_first_over [] (eVar N.w 0) (eCons (eVar N.w 2) (eNil)))) (eC N.w .non)) (sSeq (sSet 3 [] (eSh (eSeen (eCall 1 f_halves_of [] (eCons (eVar N.w 2) (eNil))))))
    (sSeq (sIf [] (eCmpT eqO (eSeen (eFun lenD (eCons (eVar N.w 3) (eNil)))) (eC N.w (.int 0))) (sRet [] (eFun tupleD (eCons (eSeen (eLc [4] (eItems anyOf (eVar N.w 2)) (gdName 4) (eYes) (eBinD ixD (eSeen (eCall 1 f_span [] (eCons (eVar N.w 4) (eNil)))) (eC N.w (.int 0))))) (eNil)))) (sNil))
    (sSet 1 [1] (eBin addD (eVar N.w 3) (eVar N.w 1))))) (sNil))))
    (sRet [] (eSh (eC N.w .non)))))
def w_Store_bare : Dfs N.w := runD 5 (s_Store_bare N (w_whole N.w) (w_Store_first_over N) (w_halves_of N.w) (w_span N.w))
def s_Store_need (f_is_box : Dfs N.w) : Sv N.w := (sIf [] (eOr (eNot (eTest truD (eSeen (eCall 1 f_is_box [] (eCons (eVar N.w 1) (eNil)))))) (eCmpT neO (eSeen (eFun lenD (eCons (eVar N.w 1) (eNil)))) (eFld (M := N) "places" (eVar N.w 0)))) (sRaise "BadBox" 0 x_BadBox [] (eNil)) (sNil))
def w_Store_need : Dfs N.w := runD 2 (s_Store_need N (w_is_box N.w))
def s_Store_put (f_Store_need : Dfs N.w) (f_Store_first_over : Dfs N.w) : Sv N.w := (sSeq (sDrop [] (eMeth (M := N) "Store" 2 f_Store_need [] (eVar N.w 0) (eCons (eVar N.w 1) (eNil))))
    (sSeq (sIf [] (eCmpT isnotD (eSeen (eMeth (M := N) "Store" 2 f_Store_first_over [] (eVar N.w 0) (eCons (eVar N.w 1) (eNil)))) (eC N.w .non)) (sRet [] (eSh (eC N.w (.bl false)))) (sNil))
    (sSeq (sDrop [] (eSh (eAppW (M := N) (eFld (M := N) "pile" (eVar N.w 0)) (eVar N.w 1))))
    (sRet [] (eSh (eC N.w (.bl true)))))))
def w_Store_put : Dfs N.w := runD 2 (s_Store_put N (w_Store_need N) (w_Store_first_over N))
def s_Store_boxes : Sv N.w := (sRet [] (eFunU (M := N) listD (eCons (eFld (M := N) "pile" (eVar N.w 0)) (eNil))))
def w_Store_boxes : Dfs N.w := runD 1 (s_Store_boxes N)
def s_Store_twin (f_Store___init__ : Dfs N.w) : Sv N.w := (sSeq (sSet 1 [] (eSh (eNew (M := N) "Store" 2 f_Store___init__ [] (eCons (eFld (M := N) "places" (eVar N.w 0)) (eNil)))))
    (sSeq (sFldS (M := N) 1 "pile" [] (eFunU (M := N) listD (eCons (eFld (M := N) "pile" (eVar N.w 0)) (eNil))))
    (sRet [] (eSh (eVar N.w 1)))))
def w_Store_twin : Dfs N.w := runD 2 (s_Store_twin N (w_Store___init__ N))
def s_law_bare_v2 (f__law_inside : Dfs N.w) (f__law_under : Dfs N.w) : Sv N.w := (sSeq (sSet 2 [] (eLst (eCons (eSeen (eBin mulD (eTup (eCons (eC N.w (.str [])) (eNil))) (eVar N.w 1))) (eNil))))
    (sSeq (sWhile [2] (eCmpT neO (eVar N.w 2) (eSeen (eLst (eNil)))) (sSeq (sLPopS 3 2 [] (eC N.w (.int 0)))
    (sIf [] (eNot (eTest truD (eSeen (eFun anyD (eCons (eSeen (eLcW (M := N) [7] (eVar N.w 0) (gdName 7) (eYes) (eSeen (eCall 2 f__law_inside [] (eCons (eVar N.w 3) (eCons (eVar N.w 7) (eNil))))))) (eNil)))))) (sSeq (sSet 4 [] (eSh (eSeen (eLc [5] (eI1 rng1 (eVar N.w 1)) (gdName 5) (eCmpT ltD (eSeen (eFun lenD (eCons (eBinD ixD (eVar N.w 3) (eVar N.w 5)) (eNil)))) (eC N.w (.int 5))) (eVar N.w 5)))))
    (sSeq (sIf [] (eCmpT eqO (eVar N.w 4) (eSeen (eLst (eNil)))) (sRet [] (eFun tupleD (eCons (eSeen (eLc [7] (eItems anyOf (eVar N.w 3)) (gdName 7) (eYes) (eBinD ixD (eSeen (eCall 1 f__law_under [] (eCons (eVar N.w 7) (eNil)))) (eC N.w (.int 0))))) (eNil)))) (sNil))
    (sSeq (sSet 5 [] (eSh (eBinD ixD (eVar N.w 4) (eC N.w (.int 0)))))
    (sSeq (sSet 6 [] (eSh (eSeen (eLc [8] (eItems anyOf (eC N.w (.str [48, 49]))) (gdName 8) (eYes) (eSeen (eBin addD (eSeen (eBin addD (eSeen (eSl (eVar N.w 3) (eNoPt) (ePt (eVar N.w 5)))) (eTup (eCons (eSeen (eBin addD (eBinD ixD (eVar N.w 3) (eVar N.w 5)) (eVar N.w 8))) (eNil))))) (eSeen (eSl (eVar N.w 3) (ePt (eSeen (eBin addD (eVar N.w 5) (eC N.w (.int 1))))) (eNoPt)))))))))
    (sSet 2 [2] (eBin addD (eVar N.w 6) (eVar N.w 2))))))) (sNil))))
    (sRet [] (eSh (eC N.w .non)))))
def w_law_bare_v2 : Dfs N.w := runD 9 (s_law_bare_v2 N (w_law_inside N.w) (w_law_under N.w))
def s_law_bare_apart (f_Store_twin : Dfs N.w) (f__law_pull : Dfs N.w) (f__law_bare : Dfs N.w) (f__law_same : Dfs N.w) (f_Store_bare : Dfs N.w) (f__law_box_of : Dfs N.w) (f_Store_put : Dfs N.w) (f_Store_boxes : Dfs N.w) : Sv N.w := (sSeq (sPar 5 6 (eSh (eSeen (eLst (eCons (eCell (M := N) (eFunU (M := N) listD (eCons (eVar N.w 3) (eNil)))) (eCons (eCell (M := N) (eFunU (M := N) listD (eCons (eVar N.w 3) (eNil)))) (eNil)))))) (eLst (eCons (eVar N.w 1) (eCons (eVar N.w 2) (eNil)))))
    (sSeq (sStore 6 [] (eSeen (eMeth (M := N) "Store" 1 f_Store_twin [] (eVar N.w 1) (eNil))) (eC N.w (.int 1)))
    (sSeq (sFor [] (eI1 rng1 (eC N.w (.int 5))) (gtName 7) (sSeq (sSet 8 [] (eSh (eSeen (eCall 2 f__law_pull [] (eCons (eVar N.w 0) (eCons (eC N.w (.int 2)) (eNil)))))))
    (sSeq (sSet 9 [] (eSh (eSeen (eLc [11] (eItems anyOf (eVar N.w 5)) (gdName 11) (eYes) (eSeen (eCall 2 f__law_bare [] (eCons (eVar N.w 11) (eCons (eVar N.w 4) (eNil)))))))))
    (sSeq (sIf [6] (eNot (eTest truD (eSeen (eCall 2 f__law_same [] (eCons (eSeen (eLst (eCons (eSeen (eMeth (M := N) "Store" 1 f_Store_bare [] (eBinD ixD (eVar N.w 6) (eC N.w (.int 0))) (eNil))) (eCons (eSeen (eMeth (M := N) "Store" 1 f_Store_bare [] (eBinD ixD (eVar N.w 6) (eC N.w (.int 1))) (eNil))) (eCons (eSeen (eMeth (M := N) "Store" 1 f_Store_bare [] (eBinD ixD (eVar N.w 6) (eC N.w (.int 0))) (eNil))) (eNil)))))) (eCons (eSeen (eBin addD (eVar N.w 9) (eSeen (eSl (eVar N.w 9) (eNoPt) (ePt (eC N.w (.int 1))))))) (eNil))))))) (sRet [] (eSh (eC N.w (.bl false)))) (sNil))
    (sIf [] (eCmpT isnotD (eBinD ixD (eVar N.w 9) (eVar N.w 8)) (eC N.w .non)) (sSeq (sSet 10 [] (eSh (eSeen (eFun tupleD (eCons (eSeen (eLc [12] (eItems anyOf (eSeen (eCall 1 f__law_box_of [] (eCons (eBinD ixD (eVar N.w 9) (eVar N.w 8)) (eNil))))) (gdName 12) (eYes) (eSeen (eSl (eVar N.w 12) (eNoPt) (ePt (eSeen (eCall 2 f__law_pull [] (eCons (eVar N.w 0) (eCons (eC N.w (.int 6)) (eNil)))))))))) (eNil))))))
    (sSeq (sIf [6] (eNot (eTest truD (eSeen (eMeth (M := N) "Store" 2 f_Store_put [] (eBinD ixD (eVar N.w 6) (eVar N.w 8)) (eCons (eVar N.w 10) (eNil)))))) (sRet [] (eSh (eC N.w (.bl false)))) (sNil))
    (sDrop [] (eSh (eAppW (M := N) (eBinD ixD (eVar N.w 5) (eVar N.w 8)) (eVar N.w 10)))))) (sNil))))))
    (sRet [] (eSh (eAndV truD (eBinUD (M := N) (blD eqO) (eSeen (eMeth (M := N) "Store" 1 f_Store_boxes [] (eVar N.w 2) (eNil))) (eVar N.w 3)) (eSeen (eCall 2 f__law_same [] (eCons (eSeen (eMeth (M := N) "Store" 1 f_Store_bare [] (eVar N.w 2) (eNil))) (eCons (eSeen (eCall 2 f__law_bare [] (eCons (eVar N.w 3) (eCons (eVar N.w 4) (eNil))))) (eNil)))))))))))
def w_law_bare_apart (pull : Dfs N.w) : Dfs N.w := runD 13 (s_law_bare_apart N (w_Store_twin N) pull (w_law_bare_v2 N) (w_law_same N.w 6) (w_Store_bare N) (w_law_box_of N.w) (w_Store_put N) (w_Store_boxes N))
def s_law_k10 (f__law_pull : Dfs N.w) (f_Store___init__ : Dfs N.w) (f__law_box : Dfs N.w) (f_Store_put : Dfs N.w) (f__law_bare_apart : Dfs N.w) (f_Store_twin : Dfs N.w) (f__law_bare : Dfs N.w) (f__law_same : Dfs N.w) (f_Store_bare : Dfs N.w) (f__law_box_of : Dfs N.w) : Sv N.w := (sSeq (sSet 2 [] (eSh (eSeen (eBin addD (eC N.w (.int 1)) (eSeen (eCall 2 f__law_pull [] (eCons (eVar N.w 1) (eCons (eC N.w (.int 2)) (eNil)))))))))
    (sSeq (sPar 3 4 (eSh (eNew (M := N) "Store" 2 f_Store___init__ [] (eCons (eVar N.w 2) (eNil)))) (eSh (eCell (M := N) (eLst (eNil)))))
    (sSeq (sFor [] (eI1 rng1 (eC N.w (.int 6))) (gtName 5) (sSeq (sSet 6 [] (eSh (eSeen (eCall 2 f__law_box [] (eCons (eVar N.w 1) (eCons (eVar N.w 2) (eNil)))))))
    (sIf [] (eTest truD (eSeen (eMeth (M := N) "Store" 2 f_Store_put [] (eVar N.w 3) (eCons (eVar N.w 6) (eNil))))) (sDrop [] (eSh (eAppW (M := N) (eVar N.w 4) (eVar N.w 6)))) (sNil))))
    (sSeq (sIf [] (eNot (eTest truD (eSeen (eCall 5 f__law_bare_apart [] (eCons (eVar N.w 1) (eCons (eSeen (eMeth (M := N) "Store" 1 f_Store_twin [] (eVar N.w 3) (eNil))) (eCons (eSeen (eMeth (M := N) "Store" 1 f_Store_twin [] (eVar N.w 3) (eNil))) (eCons (eVar N.w 4) (eCons (eVar N.w 2) (eNil)))))))))) (sRet [] (eSh (eC N.w (.bl false)))) (sNil))
    (sSeq (sFor [] (eI1 rng1 (eC N.w (.int 6))) (gtName 5) (sSeq (sSet 7 [] (eSh (eSeen (eCall 2 f__law_bare [] (eCons (eVar N.w 4) (eCons (eVar N.w 2) (eNil)))))))
    (sSeq (sIf [] (eNot (eTest truD (eSeen (eCall 2 f__law_same [] (eCons (eSeen (eLst (eCons (eSeen (eMeth (M := N) "Store" 1 f_Store_bare [] (eVar N.w 3) (eNil))) (eCons (eSeen (eMeth (M := N) "Store" 1 f_Store_bare [] (eVar N.w 3) (eNil))) (eNil))))) (eCons (eSeen (eLst (eCons (eVar N.w 7) (eCons (eVar N.w 7) (eNil))))) (eNil))))))) (sRet [] (eSh (eC N.w (.bl false)))) (sNil))
    (sSeq (sIf [] (eCmpT isD (eVar N.w 7) (eC N.w .non)) (sBreak) (sNil))
    (sSeq (sSet 6 [] (eSh (eSeen (eFun tupleD (eCons (eSeen (eLc [8] (eItems anyOf (eSeen (eCall 1 f__law_box_of [] (eCons (eVar N.w 7) (eNil))))) (gdName 8) (eYes) (eSeen (eSl (eVar N.w 8) (eNoPt) (ePt (eSeen (eCall 2 f__law_pull [] (eCons (eVar N.w 1) (eCons (eC N.w (.int 6)) (eNil)))))))))) (eNil))))))
    (sSeq (sIf [] (eNot (eTest truD (eSeen (eMeth (M := N) "Store" 2 f_Store_put [] (eVar N.w 3) (eCons (eVar N.w 6) (eNil)))))) (sRet [] (eSh (eC N.w (.bl false)))) (sNil))
    (sDrop [] (eSh (eAppW (M := N) (eVar N.w 4) (eVar N.w 6))))))))))
    (sSeq (sDrop [] (eMeth (M := N) "Store" 2 f_Store_put [] (eVar N.w 3) (eCons (eSeen (eBin mulD (eTup (eCons (eC N.w (.str [])) (eNil))) (eVar N.w 2))) (eNil))))
    (sRet [] (eSh (eAndV truD (eBinD (blD isD) (eSeen (eMeth (M := N) "Store" 1 f_Store_bare [] (eVar N.w 3) (eNil))) (eC N.w .non)) (eBinD (blD eqO) (eSeen (eMeth (M := N) "Store" 1 f_Store_bare [] (eNew (M := N) "Store" 2 f_Store___init__ [] (eCons (eVar N.w 2) (eNil))) (eNil))) (eSeen (eBin mulD (eTup (eCons (eC N.w (.int 0)) (eNil))) (eVar N.w 2)))))))))))))
end
section
variable {K : PySem.W.Frag} {M : WM K} {s : M.S} {pull : Dfs M}
def wB (i : Int) : Bool := decide (0 ≤ i) && decide (i < 32)
end
end VK
local macro_rules | `(tactic| walk_at "U") => `(tactic| simp! [VQ.runD, VQ.sSeq, VQ.sThen, VQ.sIf, VQ.sRaise, VQ.eUn, VQ.eChain, VQ.eM1, VQ.startsD, VQ.eI2, VQ.G.bind_exc, VQ.G.exs_exc, VQ.gdTup, VQ.gdCons, VQ.gdNil, VK.lb0, VK.lb1, VK.lb2, VK.lb4, VK.lb5, VK.lb10, VK.lb15, VK.lb19, VK.add_ll, VK.sub_ii, VQ.negD, VK.all_map, VQ.isT, VK.q_ss, VK.n_ii, VQ.leD, VQ.ltD, VQ.cmpI, decide_true, decide_false, Bool.and_false, Bool.false_and])
namespace VK
open PySem PySem.Spec PyProof.Rows L2 VQ
section
variable {K : PySem.W.Frag} {M : WM K} {s : M.S} {pull : Dfs M}
def okE : D → Bool
  | .obj _ => false
  | .ty _ => false
  | .dt _ => false
  | .str l => decide (l.length ≤ 1000)
  | _ => true
def okB : D → Bool
  | .obj _ => false
  | .ty _ => false
  | .dt _ => false
  | .tup l => decide (l.length ≤ 1000) && l.all okE
  | _ => true
def begD : D → Bool
  | .str l => beg l
  | _ => false
def boxD : D → Bool
  | .tup l => decide (1 ≤ l.length) && (decide (l.length ≤ 5) && l.all begD)
  | _ => false
theorem isbeg_any (d : D) (h : okE d = true) : w_is_beginning M [d] s = .ret (.sh (.bl (begD d)), s) := by
  cases d
  case str l => exact isbeg_str l (by simpa [okE] using h)
  case obj => cases h
  case ty => cases h
  case dt => cases h
  all_goals
    unfold w_is_beginning s_is_beginning
    walk_at "U"
    rfl
theorem isbox_any (d : D) (h : okB d = true) : w_is_box M [d] s = .ret (.sh (.bl (boxD d)), s) := by
  cases d
  case tup l =>
    simp only [okB, Bool.and_eq_true, decide_eq_true_eq] at h
    have hb : l.length ≤ big := by unfold big; omega
    have hlc : eLc (M := M) [1] (eItems anyOf (eVar M 0)) (gdName 1) eYes (eSeen (eCall 1 (w_is_beginning M) [] (eCons (eVar M 1) eNil))) [some (.tup l), none] s = .ret (.fr (.lst (l.map fun d => .bl (begD d))), s) := by
      refine elc_map l (fun d => d) _ (by walk_at "U"; simp only [anyOf, List.map_id']; try rfl) hb fun d hd => ⟨_, rfl, ?_⟩
      walk_at "U"
      simp only [isbeg_any d (List.all_eq_true.mp h.2 d hd)]
      walk_at "U"
    unfold w_is_box s_is_box
    walk_at "U"
    by_cases h1 : 1 ≤ l.length
    · have h1i : (1 : Int) ≤ ((l.length : Nat) : Int) := by omega
      by_cases h5 : l.length ≤ 5
      · have h5i : ((l.length : Nat) : Int) ≤ 5 := by omega
        simp only [h1i, h5i]
        walk_at "U"
        simp only [hlc]
        walk_at "U"
        simp [boxD, h1, h5]
      · have h5i : ¬ ((l.length : Nat) : Int) ≤ 5 := by omega
        simp only [h1i, h5i]
        walk_at "U"
        simp [boxD, h1, h5]
    · have h1i : ¬ (1 : Int) ≤ ((l.length : Nat) : Int) := by omega
      simp only [h1i]
      walk_at "U"
      simp [boxD, h1]
  case obj => cases h
  case ty => cases h
  case dt => cases h
  all_goals
    unfold w_is_box s_is_box
    walk_at "U"
    rfl
abbrev ptS (p : List Int) : D := .tup (p.map .int)
def goodP (p : List Int) : Bool := decide (1 ≤ p.length) && (decide (p.length ≤ 5) && p.all wB)
theorem boxD_S {b : List (List Nat)} (h : goodB b = true) : boxD (boxS b) = true := by
  simpa [boxD, goodB, begD, List.all_map, Function.comp_def] using h
theorem okB_B {b : List (List Nat)} (h : goodB b = true) : okB (boxS b) = true := by
  simp only [goodB, Bool.and_eq_true, decide_eq_true_eq] at h
  simp only [okB, Bool.and_eq_true, decide_eq_true_eq, List.length_map, List.all_map]
  refine ⟨by omega, List.all_eq_true.mpr fun l hl => ?_⟩
  have := beg_len (List.all_eq_true.mp h.2.2 l hl)
  simp [okE]; omega
theorem zipT_strs : ∀ (a b : List (List Nat)), zipT (a.map .str) (b.map .str) = (a.zip b).map fun x => .tup [.str x.1, .str x.2]
  | [], _ => rfl
  | _ :: _, [] => rfl
  | x :: a, y :: b => by
    show D.tup [.str x, .str y] :: zipT (a.map .str) (b.map .str) = _
    rw [zipT_strs a b]; rfl
theorem zipS_strs {a b : List (List Nat)} (hl : a.length = b.length) : zipS (boxS a) (boxS b) = some ((a.zip b).map fun x => .tup [.str x.1, .str x.2]) := by
  simp [zipS, seqL, hl, zipT_strs]
theorem under_zip {a b : List (List Nat)} (hl : a.length = b.length) (h : a.length ≤ 1000) : w_under M [boxS a, boxS b] s = .ret (.sh (.bl ((a.zip b).all fun x => x.1.take x.2.length == x.2)), s) := by
  unfold w_under s_under
  have hb : (a.zip b).length ≤ big := by rw [List.length_zip]; unfold big; omega
  walk_at "U"
  rw [elc_map (a.zip b) (fun x => .tup [.str x.1, .str x.2]) (fun x => .bl (x.1.take x.2.length == x.2)) (s' := s) ?e ?l ?h]
  case e => walk_at "U"; rw [zipS_strs hl]
  case l => exact hb
  case h =>
    intro x hx
    refine ⟨_, rfl, ?_⟩
    walk_at "U"
  walk_at "U"
theorem lawStarts_eq (a b : List Nat) (h : a.length ≤ 1000) (h2 : b.length ≤ 1000) : w_law_starts M [.str a, .str b] s = .ret (.sh (.bl (a.take b.length == b)), s) := by
  unfold w_law_starts s_law_starts
  have hb : a.length ≤ big := by unfold big; omega
  have hb2 : b.length ≤ big := by unfold big; omega
  walk_at "U"
  simp only [hb, hb2]
  walk_at "U"
theorem lawInside_eq {a b : List (List Nat)} (h : a.length ≤ 1000) (ha : ∀ l ∈ a, l.length ≤ 1000) (hb2 : ∀ l ∈ b, l.length ≤ 1000) : w_law_inside M [boxS a, boxS b] s = .ret (.sh (.bl ((a.zip b).all fun x => x.1.take x.2.length == x.2)), s) := by
  unfold w_law_inside s_law_inside
  have hb : (a.zip b).length ≤ big := by rw [List.length_zip]; unfold big; omega
  walk_at "U"
  rw [elc_map (a.zip b) (fun x => .tup [.str x.1, .str x.2]) (fun x => .bl (x.1.take x.2.length == x.2)) (s' := s) ?e ?l ?h]
  case e =>
    walk_at "U"
    rw [show zipOf (boxS a) (boxS b) = some (zipT (a.map .str) (b.map .str)) from rfl, zipT_strs]
  case l => exact hb
  case h =>
    intro x hx
    refine ⟨_, rfl, ?_⟩
    walk_at "U"
    simp only [lawStarts_eq x.1 x.2 (ha _ (List.of_mem_zip hx).1) (hb2 _ (List.of_mem_zip hx).2)]
    walk_at "U"
  walk_at "U"
theorem lawBoxOf_eq (p : List Int) (h : p.length ≤ 1000) : w_law_box_of M [ptS p] s = .ret (.sh (boxS (p.map b5)), s) := by
  unfold w_law_box_of s_law_box_of
  have hb : p.length ≤ big := by unfold big; omega
  walk_at "U"
  rw [elc_map p .int (fun i => .str (b5 i)) (s' := s) ?e ?l ?h]
  case e => walk_at "U"; rfl
  case l => exact hb
  case h =>
    intro i hi
    refine ⟨_, rfl, ?_⟩
    walk_at "U"
    simp only [figs_eq]
    walk_at "U"
  walk_at "U"
  simp only [tupleD]
  walk_at "U"
  simp [boxS]
theorem whole_eq (n : Nat) (h : n ≤ 1000) : w_whole M [.int n] s = .ret (.sh (.tup (List.replicate n [D.str []]).flatten), s) := by
  unfold w_whole s_whole
  have hm := mul_tk (l := [.str []]) (k := (n : Nat)) (by omega) (by omega) (by decide)
  walk_at "U"
  simp only [hm]
  walk_at "U"
  rw [Int.toNat_natCast]
theorem vol_le (b : List (List Nat)) : vol b ≤ 5 * b.length := by
  induction b with
  | nil => simp [vol]
  | cons l b ih =>
    simp only [vol, List.map_cons, List.sum_cons, List.length_cons] at ih ⊢
    omega
theorem box_spec (hp : PullOk pull) (n : Nat) (hn : n ≤ 1000) : Al (w_law_box M pull [.obj 0, .int n] s) (fun r => ∃ b : List (List Nat), b.length = n ∧ b.all beg = true ∧ r = (.sh (boxS b), s)) (fun _ => False) := by
  unfold w_law_box s_law_box
  walk_at "U"
  simp only [eLc]
  walk_at "U"
  simp only [rng1_eq (n := n) (by omega)]
  walk_at "U"
  refine Al.btox (lc_draw (D.str) (fun l => beg l = true) (by rw [List.length_map, List.length_range]; unfold big; omega) ?_) fun r hr => ?_
  · intro d2 hd2
    refine ⟨_, rfl, ?_⟩
    walk_at "U"
    refine Al.bto0 (begin_spec hp) fun r hr => ?_
    obtain ⟨l, hl, rfl⟩ := hr
    walk_at "U"
    exact .ret ⟨l, hl, rfl⟩
  obtain ⟨b, h1, h2, rfl⟩ := hr
  rw [List.length_map, List.length_range] at h1
  walk_at "U"
  simp only [tupleD]
  walk_at "U"
  exact .ret ⟨b, h1, List.all_eq_true.mpr h2, rfl⟩
end
end VK
local macro_rules | `(tactic| walk_at "U") => `(tactic| simp! [VQ.runD, VQ.sSeq, VQ.sThen, VQ.sIf, VQ.sRaise, VQ.G.bind_exc, VQ.G.exs_exc, VQ.gtTup, VQ.gtCons, VQ.gtNil, VK.lb0, VK.lb1, VK.add_ii, VK.add_ss, VK.add_tt, VK.cut_from, VQ.ltD, VQ.cmpI, decide_true, decide_false])
namespace VK
open PySem PySem.Spec PyProof.Rows L2 VQ
def halvesL (b : List (List Nat)) : List D := match openK b with
  | some k => [boxS (halfB b k 48), boxS (halfB b k 49)]
  | none => []
theorem enG_strs (b : List (List Nat)) : enG 0 (b.map .str) = (List.range b.length).map fun k => .tup [.int ((k : Nat) : Int), .str (atB b k)] := by
  refine List.ext_getElem? fun i => ?_
  by_cases hi : i < b.length
  · have h1 : i < (enG 0 (b.map D.str)).length := by rw [enG_len, List.length_map]; exact hi
    obtain ⟨e, h2, h3⟩ := enG_get 0 (b.map .str) i _ (List.getElem?_eq_getElem h1)
    rw [List.getElem?_eq_getElem h1, h3, List.getElem?_map, List.getElem?_range hi]
    rw [List.getElem?_map, List.getElem?_eq_getElem hi] at h2
    simp at h2
    simp [atB, hi, ← h2]
  · rw [List.getElem?_eq_none (by rw [enG_len, List.length_map]; omega), List.getElem?_eq_none (by simp; omega)]
theorem half_strs (b : List (List Nat)) (k c : Nat) : (b.map D.str).take k ++ [D.str (atB b k ++ [c])] ++ (b.map D.str).drop (k + 1) = (halfB b k c).map .str := by
  simp [halfB, List.map_take, List.map_drop]
section
variable {K : PySem.W.Frag} {M : WM K} {s : M.S} {pull : Dfs M} {xt : Xt}
theorem halvesOf_eq (b : List (List Nat)) (h : goodB b = true) : w_halves_of M [boxS b] s = .ret (.fr (.lst (halvesL b)), s) := by
  simp only [goodB, Bool.and_eq_true, decide_eq_true_eq] at h
  obtain ⟨h1, h5, hb⟩ := h
  unfold w_halves_of s_halves_of
  walk_at "U"
  rw [for_find (List.range b.length) (fun k => .tup [.int ((k : Nat) : Int), .str (atB b k)]) (fun o => [some (.sh (boxS b)), o.map fun k : Nat => VV.sh (.int ((k : Nat) : Int)), o.map fun k : Nat => VV.sh (.str (atB b k)), none]) (openB b) (fun k => .fr (.lst [boxS (halfB b k 48), boxS (halfB b k 49)])) (s' := s) ?e ?r ?h]
  case e =>
    walk_at "U"
    rw [show enumA (boxS b) = some (enG 0 (b.map .str)) from rfl, enG_strs]
  case r => rfl
  case h =>
    intro o k hk
    rw [List.mem_range] at hk
    have hlb : beg (atB b k) = true := List.all_eq_true.mp hb _ (by simp [atB, hk])
    have hl5 := beg_len hlb
    have hbl : (atB b k).length ≤ big := by unfold big; omega
    refine ⟨_, rfl, ?_⟩
    walk_at "U"
    simp only [hbl]
    walk_at "U"
    by_cases ho : (atB b k).length < 5
    · have hoi : (((atB b k).length : Nat) : Int) < 5 := by omega
      have hop : openB b k = true := decide_eq_true ho
      simp only [hoi, hop]
      walk_at "U"
      rw [elc_map [48, 49] (fun c => .str [c]) (fun c => boxS (halfB b k c)) (s' := s) ?e2 ?l2 ?h2]
      case e2 => walk_at "U"; rfl
      case l2 => decide
      case h2 =>
        intro c hc
        refine ⟨_, rfl, ?_⟩
        have q1 := add_ss (a := atB b k) (b := [c]) (by show _ + 1 ≤ 1000000; omega)
        have q2 := add_tt (a := (b.map D.str).take k) (b := [.str (atB b k ++ [c])]) (by rw [List.length_take, List.length_map]; show _ + 1 ≤ 1000000; omega)
        have q3 := add_tt (a := (b.map D.str).take k ++ [.str (atB b k ++ [c])]) (b := (b.map D.str).drop (k + 1)) (by rw [List.length_append, List.length_take, List.length_drop, List.length_map]; show _ + 1 + _ ≤ 1000000; omega)
        have hc1 : cutL (b.map D.str) (some ((k : Nat) + 1 : Int)) none = (b.map D.str).drop (k + 1) := by
          rw [show ((k : Nat) + 1 : Int) = ((k + 1 : Nat) : Int) by omega, cut_from]
        walk_at "U"
        simp only [q1]
        walk_at "U"
        simp only [q2, hc1]
        walk_at "U"
        simp only [q3]
        walk_at "U"
        rw [half_strs]
      walk_at "U"
    · have hoi : ¬ (((atB b k).length : Nat) : Int) < 5 := by omega
      have hop : openB b k = false := decide_eq_false ho
      simp only [hoi, hop]
      walk_at "U"
  unfold halvesL
  rw [show (List.range b.length).find? (openB b) = openK b from rfl]
  cases openK b
  · walk_at "U"
  · walk_at "U"
end
section
variable {K : PySem.W.Frag} {N : OM K} {α : Type}
theorem loopW_find {g : D → Nv → Option Nv} {body : Sv N.w} {s : Ost} {d : D} (xs : List α) (inj : α → D) (env : Option α → Nv) (p : α → Bool) (r : α → R) (hd : lstAt s d = some (xs.map inj)) (h : ∀ o, ∀ x ∈ xs, ∃ ρ1, g (inj x) (env o) = some ρ1 ∧ body ρ1 s = if p x = true then .ret (.rt (r x), s) else .ret (.nx (env (some x)), s)) :
    ∀ (fu i : Nat) (o : Option α), xs.length + 1 ≤ fu + i → i ≤ xs.length → loopW (M := N) g body d fu i (env o) s = match (xs.drop i).find? p with | some x => .ret (.rt (r x), s) | none => .ret (.nx (env ((xs.drop i).getLast?.or o)), s)
  | 0, i, o, h1, h2 => by omega
  | fu + 1, i, o, h1, h2 => by
    simp only [loopW, hd, List.getElem?_map]
    by_cases hi : i < xs.length
    · rw [List.getElem?_eq_getElem hi]
      simp only [Option.map_some]
      obtain ⟨ρ1, e1, e2⟩ := h o xs[i] (List.getElem_mem hi)
      rw [e1]
      simp only
      rw [e2, List.drop_eq_getElem_cons hi, List.find?_cons]
      cases hp : p xs[i] with
      | true => rfl
      | false =>
        have ih := loopW_find xs inj env p r hd h fu (i + 1) (some xs[i]) (by omega) (by omega)
        show loopW (M := N) g body d fu (i + 1) (env (some xs[i])) s = _
        rw [ih]
        cases hf : (xs.drop (i + 1)).find? p with
        | some y => rfl
        | none =>
          simp only
          congr 3
          cases xs.drop (i + 1) with
          | nil => rfl
          | cons y ys => simp [List.getLast?_cons]
    · have : i = xs.length := by omega
      subst this
      rw [List.getElem?_eq_none (Nat.le_refl _), List.drop_length]
      rfl
def oBx : Option (List (List Nat)) → D
  | some b => boxS b
  | none => .non
end
def pre (b a : List Nat) : Bool := a.take b.length == b
def lg (a b : List Nat) : List Nat := if b.length < a.length then a else b
theorem goodB_len {b : List (List Nat)} (h : goodB b = true) : 1 ≤ b.length ∧ b.length ≤ 5 := by
  simp only [goodB, Bool.and_eq_true, decide_eq_true_eq] at h; exact ⟨h.1, h.2.1⟩
theorem goodB_beg {b : List (List Nat)} (h : goodB b = true) : b.all beg = true := by
  simp only [goodB, Bool.and_eq_true, decide_eq_true_eq] at h; exact h.2.2
theorem goodB_of {b : List (List Nat)} (h1 : 1 ≤ b.length) (h2 : b.length ≤ 5) (h : b.all beg = true) : goodB b = true := by
  simp only [goodB, h, Bool.and_true, Bool.and_eq_true, decide_eq_true_eq]; exact ⟨h1, h2⟩
section
variable {K : PySem.W.Frag} {N : OM K} {α : Type}
theorem flatL_strs : ∀ b : List (List Nat), flatL (b.map .str) = true
  | [] => rfl
  | _ :: r => by simp [flatL, flat, flatL_strs r]
theorem flatL_boxes : ∀ l : List (List (List Nat)), flatL (l.map boxS) = true
  | [] => rfl
  | b :: r => by
    have h1 : flat (boxS b) = true := flatL_strs b
    show (flat (boxS b) && flatL (r.map boxS)) = true
    rw [h1, flatL_boxes r]; rfl
theorem flat_boxes (l : List (List (List Nat))) : flatR (.fr (.lst (l.map boxS))) = true := flatL_boxes l
end
section
variable {K : PySem.W.Frag} {M : WM K} {s s' : M.S} {pull : Dfs M} {xt : Xt} {ρ : Nv} {P : Fl × M.S → Prop} {E : Xs M → Prop} {α : Type}
theorem beg_app {a b : List Nat} (ha : a.all isSign = true) (hb : b.all isSign = true) {k : Nat} (hk : k ≤ 5) : beg ((a ++ b).take k) = true := by
  simp only [beg, Bool.and_eq_true, decide_eq_true_eq, List.all_eq_true, List.length_take] at ha hb ⊢
  refine ⟨by omega, fun c hc => ?_⟩
  rcases List.mem_append.mp (List.mem_of_mem_take hc) with h | h
  · exact ha c h
  · exact hb c h
theorem beg_sign {l : List Nat} (h : beg l = true) : l.all isSign = true := by
  simp only [beg, Bool.and_eq_true] at h; exact h.2
end
theorem openK_some {b : List (List Nat)} {k : Nat} (h : openK b = some k) : k < b.length ∧ (atB b k).length < 5 := by
  unfold openK at h
  refine ⟨List.mem_range.mp (List.mem_of_find?_eq_some h), ?_⟩
  have := List.find?_some h
  simpa [openB] using this
theorem split_at {b : List (List Nat)} {k : Nat} (h : k < b.length) : b = b.take k ++ atB b k :: b.drop (k + 1) := by
  have : atB b k = b[k] := by simp [atB, h]
  rw [this]
  conv => lhs; rw [← List.take_append_drop k b, List.drop_eq_getElem_cons h]
theorem half_facts {b : List (List Nat)} {k : Nat} (hg : goodB b = true) (hk : openK b = some k) (c : Nat) (hc : isSign c = true) : goodB (halfB b k c) = true ∧ (halfB b k c).length = b.length ∧ vol b = vol (halfB b k c) + 1 ∧ ((halfB b k c).zip b).all (fun x => x.1.take x.2.length == x.2) = true := by
  obtain ⟨h1, h2⟩ := openK_some hk
  have hl := goodB_len hg
  have hsp := split_at h1
  have hlen : (halfB b k c).length = b.length := by simp [halfB]; omega
  have hbk : beg (atB b k) = true := List.all_eq_true.mp (goodB_beg hg) _ (by simp [atB, h1])
  obtain ⟨A, hA⟩ : ∃ A, A = atB b k := ⟨_, rfl⟩
  have hH : halfB b k c = b.take k ++ (A ++ [c]) :: b.drop (k + 1) := by rw [hA]; simp [halfB]
  rw [← hA] at hsp hbk h2
  refine ⟨goodB_of (by omega) (by omega) ?_, hlen, ?_, ?_⟩
  · have ha := goodB_beg hg
    rw [hsp, List.all_append, List.all_cons, Bool.and_eq_true, Bool.and_eq_true] at ha
    rw [hH, List.all_append, List.all_cons, ha.1, ha.2.2]
    have : beg (A ++ [c]) = true := by
      have e := beg_app (a := A) (b := [c]) (beg_sign hbk) (by simp [hc]) (k := 5) (by omega)
      rw [List.take_of_length_le (by simp; omega)] at e
      exact e
    rw [this]; rfl
  · have e : vol b = vol (b.take k ++ A :: b.drop (k + 1)) := by rw [← hsp]
    rw [e, hH]
    unfold vol
    simp only [List.map_append, List.map_cons, List.sum_append, List.sum_cons, List.length_append, List.length_singleton]
    omega
  · have hself : ∀ l : List (List Nat), (l.zip l).all (fun x => x.1.take x.2.length == x.2) = true := by
      intro l
      induction l with
      | nil => rfl
      | cons x l ih => simp [ih]
    have e2 : (halfB b k c).zip b = ((b.take k).zip (b.take k)) ++ (A ++ [c], A) :: ((b.drop (k + 1)).zip (b.drop (k + 1))) := by
      have : (halfB b k c).zip b = (b.take k ++ ((A ++ [c]) :: b.drop (k + 1))).zip (b.take k ++ A :: b.drop (k + 1)) := by
        rw [← hsp, hH]
      rw [this, List.zip_append rfl, List.zip_cons_cons]
    rw [e2, List.all_append, List.all_cons, hself, hself]
    simp
section
variable {K : PySem.W.Frag} {M : WM K} {s : M.S} {pull : Dfs M}
theorem at_head {α : Type} (c : α) (r : List α) : atI (c :: r) 0 = some c := atI_nat (xs := c :: r) (j := 0) (v := c) rfl
theorem star_hd (d : D) (r : List D) : starRs 1 2 (d :: r) = [.sh d, .fr (.lst r)] := by
  simp [starRs]
theorem tuple_lst (l : List D) : tupleD [.lst l] = some (.sh (.tup l)) := rfl
theorem flat_lst (l : List D) : flat (.lst l) = false := rfl
end
section
variable {K : PySem.W.Frag} {N : OM K} {α : Type}
def bareF (pile : List Bx) : Nat → List Bx → Option Bx
  | 0, _ => none
  | _ + 1, [] => none
  | n + 1, b :: w => if pile.any (inB b) = true then bareF pile n w else match openK b with
    | none => some b
    | some k => bareF pile n (halfB b k 48 :: halfB b k 49 :: w)
def meas (w : List Bx) : Nat := (w.map fun b => 2 * 2 ^ vol b - 1).sum
theorem meas_cons (b : Bx) (w : List Bx) : meas (b :: w) = (2 * 2 ^ vol b - 1) + meas w := by simp [meas]
theorem meas_pos (b : Bx) : 1 ≤ 2 * 2 ^ vol b - 1 := by
  have : 1 ≤ 2 ^ vol b := Nat.one_le_two_pow
  omega
noncomputable def bareC : Ev N.w Bool := eCmpT gtD (eSeen (eFun lenD (eCons (eVar N.w 1) eNil))) (eC N.w (.int 0))
noncomputable def bareBody : Sv N.w := (sSeq (sStar [2, 1] 1 [1] (eVar N.w 1))
    (sIf [] (eCmpT isD (eSeen (eMeth (M := N) "Store" 2 (w_Store_first_over N) [] (eVar N.w 0) (eCons (eVar N.w 2) eNil))) (eC N.w .non)) (sSeq (sSet 3 [] (eSh (eSeen (eCall 1 (w_halves_of N.w) [] (eCons (eVar N.w 2) eNil)))))
    (sSeq (sIf [] (eCmpT eqO (eSeen (eFun lenD (eCons (eVar N.w 3) eNil))) (eC N.w (.int 0))) (sRet [] (eFun tupleD (eCons (eSeen (eLc [4] (eItems anyOf (eVar N.w 2)) (gdName 4) eYes (eBinD ixD (eSeen (eCall 1 (w_span N.w) [] (eCons (eVar N.w 4) eNil))) (eC N.w (.int 0))))) eNil))) sNil)
    (sSet 1 [1] (eBin addD (eVar N.w 3) (eVar N.w 1))))) sNil))
theorem f1_out {m : List Nat} {i : Nat} (h : m.contains i = false) (o : Option VQ.VV) : frz1 m i o = o := by
  cases o with
  | none => rfl
  | some v => cases v with
    | sh _ => rfl
    | ow _ => simp only [frz1, h]; rfl
theorem openK_no {b : Bx} (gb : goodB b = true) (h : openK b = none) : ∀ l ∈ b, l.length = 5 := fun l hl => by
  obtain ⟨k, hk, e⟩ := List.getElem_of_mem hl
  have := List.find?_eq_none.mp h k (List.mem_range.mpr hk)
  have h5 := beg_len (List.all_eq_true.mp (goodB_beg gb) l hl)
  have e2 : atB b k = l := by
    unfold atB
    rw [List.getD_eq_getElem?_getD, List.getElem?_eq_getElem hk, ← e]; rfl
  unfold openB at this
  rw [e2] at this
  simp at this
  omega
theorem half_meas {b : Bx} {k : Nat} (gb : goodB b = true) (hk : openK b = some k) (w : List Bx) : meas (halfB b k 48 :: halfB b k 49 :: w) + 1 = meas (b :: w) := by
  have h1 := (half_facts gb hk 48 rfl).2.2.1
  have h2 := (half_facts gb hk 49 rfl).2.2.1
  rw [meas_cons, meas_cons, meas_cons, h1, Nat.pow_succ]
  have e : vol (halfB b k 49) = vol (halfB b k 48) := by omega
  rw [e]
  have : 1 ≤ 2 ^ vol (halfB b k 48) := Nat.one_le_two_pow
  omega
def stk : Nat → List Bx → Prop
  | _, [] => True
  | m, b :: w => m ≤ vol b ∧ stk (vol b + 1) w
def inv1 : List Bx → Prop
  | [] => True
  | b :: w => stk (vol b) w
theorem stk_less : ∀ {w : List Bx} {m n : Nat}, n ≤ m → stk m w → stk n w
  | [], _, _, _, _ => trivial
  | b :: w, m, n, h, ⟨h1, h2⟩ => ⟨by omega, h2⟩
theorem stk_len : ∀ {w : List Bx} {m : Nat}, stk m w → (∀ b ∈ w, vol b ≤ 25) → w.length + m ≤ 26 ∨ w = []
  | [], _, _, _ => .inr rfl
  | b :: w, m, ⟨h1, h2⟩, h3 => by
    have hb := h3 b List.mem_cons_self
    rcases stk_len h2 (fun c hc => h3 c (List.mem_cons_of_mem _ hc)) with h | h
    · exact .inl (by simp only [List.length_cons]; omega)
    · subst h; exact .inl (by simp; omega)
theorem vol_25 {b : Bx} (gb : goodB b = true) : vol b ≤ 25 := by
  have := vol_le b
  have := (goodB_len gb).2
  omega
theorem whole_box (many : Nat) : D.tup (List.replicate many [D.str []]).flatten = boxS (wholeB many) := by
  unfold wholeB boxS
  congr 1
  induction many with
  | zero => rfl
  | succ n ih => simp [List.replicate_succ, ih]
theorem whole_good {many : Nat} (h1 : 1 ≤ many) (h5 : many ≤ 5) : goodB (wholeB many) = true := by
  refine goodB_of (by simp [wholeB]; omega) (by simp [wholeB]; omega) ?_
  rw [List.all_eq_true]
  intro l hl
  have := List.eq_of_mem_replicate hl
  rw [this]; rfl
noncomputable def bareR (pile : List Bx) (many : Nat) : Option Bx := bareF pile wTurns [wholeB many]
def oPt : Option Bx → D
  | some b => ptS (b.map valN)
  | none => .non
theorem meas_whole {many : Nat} (h1 : 1 ≤ many) (h5 : many ≤ 5) : meas [wholeB many] < wTurns := by
  have h := vol_25 (whole_good h1 h5)
  have h2 : 2 ^ vol (wholeB many) ≤ 2 ^ 25 := Nat.pow_le_pow_right (by decide) h
  rw [meas_cons, wTurns_eq]
  have e0 : meas [] = 0 := rfl
  rw [e0]
  have : 2 * 2 ^ 25 < 2 ^ 62 := by decide
  omega
end
section
theorem atB_get {b : Bx} {k : Nat} (h : k < b.length) : b[k]? = some (atB b k) := by
  unfold atB
  rw [List.getD_eq_getElem?_getD, List.getElem?_eq_getElem h]; rfl
theorem inB_iff {a b : Bx} (hl : a.length = b.length) : inB a b = true ↔ ∀ k, k < b.length → (atB a k).take (atB b k).length = atB b k := by
  unfold inB
  rw [List.all_eq_true]
  constructor
  · intro h k hk
    have hk' : k < a.length := by omega
    have hz : (a.zip b)[k]? = some (atB a k, atB b k) := by
      rw [List.getElem?_zip_eq_some]
      exact ⟨atB_get hk', atB_get hk⟩
    have := h _ (List.mem_of_getElem? hz)
    exact eq_of_beq this
  · intro h x hx
    obtain ⟨k, hk⟩ := List.mem_iff_getElem?.mp hx
    have hz := List.getElem?_zip_eq_some.mp hk
    have hkb : k < b.length := (List.getElem?_eq_some_iff.mp hz.2).1
    have e1 : x.1 = atB a k := by
      have := hz.1
      rw [atB_get (by omega)] at this
      exact (Option.some.inj this).symm
    have e2 : x.2 = atB b k := by
      have := hz.2
      rw [atB_get hkb] at this
      exact (Option.some.inj this).symm
    rw [e1, e2, h k hkb]
    exact beq_self_eq_true _
theorem take_pre {x y z : List Nat} (h1 : x.take y.length = y) (h2 : y.take z.length = z) : x.take z.length = z := by
  have hz : z.length ≤ y.length := by
    have := congrArg List.length h2
    rw [List.length_take] at this
    omega
  rw [← h1, List.take_take, Nat.min_eq_left hz] at h2
  exact h2
theorem inB_trans {a b c : Bx} (h1 : a.length = b.length) (h2 : b.length = c.length) (hab : inB a b = true) (hbc : inB b c = true) : inB a c = true := by
  rw [inB_iff h1] at hab
  rw [inB_iff h2] at hbc
  rw [inB_iff (h1.trans h2)]
  exact fun k hk => take_pre (hab k (by omega)) (hbc k hk)
theorem bareF_some {pile : List Bx} {many : Nat} : ∀ (n : Nat) (w : List Bx) (b : Bx), (∀ c ∈ w, goodB c = true ∧ c.length = many) → bareF pile n w = some b → goodB b = true ∧ b.length = many ∧ openK b = none ∧ pile.any (inB b) = false
  | 0, _, _, _, h => by cases h
  | n + 1, [], _, _, h => by cases h
  | n + 1, a :: w, b, hg, h => by
    obtain ⟨ga, ha⟩ := hg a List.mem_cons_self
    have hgw : ∀ c ∈ w, goodB c = true ∧ c.length = many := fun c hc => hg c (List.mem_cons_of_mem _ hc)
    unfold bareF at h
    split at h
    · exact bareF_some n w b hgw h
    · rename_i hany
      split at h
      · rename_i hk
        cases h
        exact ⟨ga, ha, hk, by simpa using hany⟩
      · rename_i k hk
        have f1 := half_facts ga hk 48 rfl
        have f2 := half_facts ga hk 49 rfl
        refine bareF_some n _ b (fun c hc => ?_) h
        rcases List.mem_cons.mp hc with rfl | hc
        · exact ⟨f1.1, f1.2.1.trans ha⟩
        · rcases List.mem_cons.mp hc with rfl | hc
          · exact ⟨f2.1, f2.2.1.trans ha⟩
          · exact hgw c hc
theorem bareR_some {pile : List Bx} {many : Nat} {b : Bx} (h1 : 1 ≤ many) (h5 : many ≤ 5) (h : bareR pile many = some b) : goodB b = true ∧ full many b ∧ pile.any (inB b) = false := by
  obtain ⟨g, l, o, a⟩ := bareF_some wTurns [wholeB many] b (fun c hc => by
    have : c = wholeB many := by simpa using hc
    subst this
    exact ⟨whole_good h1 h5, (List.length_replicate : (wholeB many).length = many)⟩) h
  refine ⟨g, ⟨l, fun x hx => ⟨openK_no g o x hx, beg_sign (List.all_eq_true.mp (goodB_beg g) x hx)⟩⟩, a⟩
end
end VK
local macro_rules | `(tactic| walk_at "U") => `(tactic| simp! [VQ.runD, VQ.sSeq, VQ.sThen, VQ.sIf, VQ.sRaise, VQ.eOr, Nat.reduceBEq, VQ.isnotD, VK.n_ii])
namespace VK
open PySem PySem.Spec PyProof.Rows L2 VQ
section
variable {K : PySem.W.Frag} {N : OM K} {α : Type}
section
variable {a p : Nat} {s : Ost} {many : Nat} {pile : List Bx}
theorem sfld_of {n : Nat} {x f : PySem.Str} {fs : List (PySem.Str × D)} (h : s[n]? = some (some (.ins x fs))) : fldAt s f (.obj (n + 1)) = fs.lookup f := by
  show (match s[n]? with | some (some (.ins _ fs)) => fs.lookup f | _ => none) = _
  rw [h]
theorem slst_of {n : Nat} {l : List D} (h : s[n]? = some (some (.lst l))) : lstAt s (.obj (n + 1)) = some l := by
  show (match s[n]? with | some (some (.lst l)) => some l | _ => none) = _
  rw [h]
theorem sdrf_of {n : Nat} {l : List D} (h : s[n]? = some (some (.lst l))) : drf s (.obj (n + 1)) = .lst l := by
  show (match s[n]? with | some (some (.lst l)) => D.lst l | some (some (.dk l)) => .dk l | some (some (.dt l)) => .dt l | _ => .obj (n + 1)) = _
  rw [h]
theorem StA.fpl (h : StA a p s many pile) : fldAt s "places" (.obj (a + 1)) = some (.int (many : Nat)) := (sfld_of h.ins).trans rfl
theorem StA.fpi (h : StA a p s many pile) : fldAt s "pile" (.obj (a + 1)) = some (.obj (p + 1)) := (sfld_of h.ins).trans rfl
theorem StA.ll (h : StA a p s many pile) : lstAt s (.obj (p + 1)) = some (pile.map boxS) := slst_of h.pl
theorem StA.drf (h : StA a p s many pile) : VQ.drf s (.obj (p + 1)) = .lst (pile.map boxS) := sdrf_of h.pl
theorem StA.set (h : StA a p s many pile) (b : Bx) : setLst s (.obj (p + 1)) (pile.map boxS ++ [boxS b]) = stSet s p (.lst ((pile ++ [b]).map boxS)) := by
  rw [List.map_append]; rfl
theorem StA.put (h : StA a p s many pile) (b : Bx) : StA a p (stSet s p (.lst ((pile ++ [b]).map boxS))) many (pile ++ [b]) := by
  have hlt := (List.getElem?_eq_some_iff.mp h.pl).1
  have ne := h.ne
  refine ⟨?_, ?_, ne⟩
  · unfold stSet; rw [List.getElem?_set_ne (fun e => ne e.symm)]; exact h.ins
  · unfold stSet; rw [List.getElem?_set_self hlt]
theorem StA.other {a2 p2 : Nat} {many2 : Nat} {pile2 : List Bx} (h2 : StA a2 p2 s many2 pile2) (n1 : p ≠ a2) (n2 : p ≠ p2) (c : Cell) : StA a2 p2 (stSet s p c) many2 pile2 := by
  refine ⟨?_, ?_, h2.ne⟩
  · unfold stSet; rw [List.getElem?_set_ne n1]; exact h2.ins
  · unfold stSet; rw [List.getElem?_set_ne n2]; exact h2.pl
theorem StA.more (h : StA a p s many pile) (t : Ost) : StA a p (s ++ t) many pile := by
  have h1 := (List.getElem?_eq_some_iff.mp h.ins).1
  have h2 := (List.getElem?_eq_some_iff.mp h.pl).1
  exact ⟨by rw [List.getElem?_append_left h1]; exact h.ins, by rw [List.getElem?_append_left h2]; exact h.pl, h.ne⟩
theorem flat_put (hf : s.all flatC = true) (l : List Bx) : (stSet s p (.lst (l.map boxS))).all flatC = true := by
  rw [List.all_eq_true] at hf ⊢
  intro c hc
  rcases List.mem_or_eq_of_mem_set hc with h | h
  · exact hf c h
  · rw [h]; exact flatL_boxes l
end
theorem firstOver_A {a p : Nat} {s : N.w.S} {many : Nat} {pile : List (List (List Nat))} (hs : StA a p s many pile) (b : List (List Nat)) (hb : b.length = many) (hm : many ≤ 5) (hp : ∀ q ∈ pile, q.length = many) : w_Store_first_over N [.obj (a + 1), boxS b] s = .ret (.sh (oBx (pile.find? (inB b))), s) := by
  unfold w_Store_first_over s_Store_first_over
  walk_at "U"
  simp only [sForW, eFld]
  walk_at "U"
  repeat (simp only [eFld, hs.fpi, hs.ll]; try walk_at "U")
  have hu := fun (q : List (List Nat)) (hq : q.length = many) => under_zip (M := N.w) (s := s) (a := b) (b := q) (by rw [hb, hq]) (by omega)
  have this := loopW_find (N := N) (g := gtName 2) (body := sIf [] (eTest truD (eSeen (eCall 2 (w_under N.w) [] (eCons (eVar N.w 1) (eCons (eVar N.w 2) eNil))))) (sRet [] (eSh (eVar N.w 2))) sNil) pile boxS (fun o => [some (.sh (.obj (a + 1))), some (.sh (boxS b)), o.map fun q => .sh (boxS q)]) (inB b) (fun q => .sh (boxS q)) (hs.ll) (fun o q hq => ⟨_, rfl, by
      walk_at "U"
      simp only [hu q (hp q hq)]
      walk_at "U"
      unfold inB
      cases ((b.zip q).all fun x => x.1.take x.2.length == x.2) <;> rfl⟩) ((pile.map boxS).length + 1) 0 none (by simp) (Nat.zero_le _)
  rw [List.drop_zero, Option.or_none] at this
  cases hf : pile.find? (inB b) with
  | some q =>
    rw [hf] at this
    have hl : loopW (M := N) (gtName 2) (sIf [] (eTest truD (eSeen (eCall 2 (w_under N.w) [] (eCons (eVar N.w 1) (eCons (eVar N.w 2) eNil))))) (sRet [] (eSh (eVar N.w 2))) sNil) (.obj (p + 1)) ((pile.map boxS).length + 1) 0 [some (.sh (.obj (a + 1))), some (.sh (boxS b)), none] s = .ret (.rt (.sh (boxS q)), s) := this
    simp only [hl]
    walk_at "U"
    try rfl
  | none =>
    rw [hf] at this
    have hl : loopW (M := N) (gtName 2) (sIf [] (eTest truD (eSeen (eCall 2 (w_under N.w) [] (eCons (eVar N.w 1) (eCons (eVar N.w 2) eNil))))) (sRet [] (eSh (eVar N.w 2))) sNil) (.obj (p + 1)) ((pile.map boxS).length + 1) 0 [some (.sh (.obj (a + 1))), some (.sh (boxS b)), none] s = .ret (.nx [some (.sh (.obj (a + 1))), some (.sh (boxS b)), (pile.getLast?).map fun q => .sh (boxS q)], s) := this
    simp only [hl]
    walk_at "U"
    try rfl
theorem need_A {a p : Nat} {s : N.w.S} {many : Nat} {pile : List (List (List Nat))} (hs : StA a p s many pile) (b : List (List Nat)) (gb : goodB b = true) (hb : b.length = many) : w_Store_need N [.obj (a + 1), boxS b] s = .ret (.sh .non, s) := by
  unfold w_Store_need s_Store_need
  have hi := fun t => isbox_any (M := N.w) (s := t) (boxS b) (okB_B gb)
  have hbx := boxD_S gb
  have hlen : (b.map D.str).length ≤ big := by
    have := (goodB_len gb).2
    rw [List.length_map]; show _ ≤ 1000000; omega
  have hq : (((b.length : Nat) : Int) == ((many : Nat) : Int)) = true := by simp [hb]
  have hlm : (b.map D.str).length = b.length := List.length_map _
  walk_at "U"
  repeat (simp only [hi, hbx, hlen, eFld, hs.fpl, n_ii, hlm, hq]; try walk_at "U")
theorem put_A {a p : Nat} {s : N.w.S} {many : Nat} {pile : List (List (List Nat))} (hs : StA a p s many pile) (b : List (List Nat)) (gb : goodB b = true) (hb : b.length = many) (hp : ∀ q ∈ pile, q.length = many) (hl : pile.length < 1000) :
    w_Store_put N [.obj (a + 1), boxS b] s = if (pile.any (inB b)) = true then .ret (.sh (.bl false), s) else .ret (.sh (.bl true), (stSet (s : Ost) p (.lst ((pile ++ [b]).map boxS)) : Ost)) := by
  unfold w_Store_put s_Store_put
  have hm5 : many ≤ 5 := by rw [← hb]; exact (goodB_len gb).2
  have hn := need_A hs b gb hb
  have hf := firstOver_A hs b hb hm5 hp
  have hpl : (pile.map boxS).length < big := by rw [List.length_map]; show _ < 1000000; omega
  have hc := hs.cls
  cases hfd : pile.find? (inB b) with
  | some q =>
    rw [hfd] at hf
    have hany : pile.any (inB b) = true := by
      rw [List.any_eq_true]
      exact ⟨q, List.mem_of_find?_eq_some hfd, List.find?_some hfd⟩
    rw [if_pos hany]
    walk_at "U"
    repeat (simp only [eMeth, hc, hn, hf, oBx]; try walk_at "U")
  | none =>
    rw [hfd] at hf
    have hany : pile.any (inB b) = false := by
      rw [List.any_eq_false]
      exact List.find?_eq_none.mp hfd
    rw [hany]
    walk_at "U"
    repeat (simp only [eMeth, hc, hn, hf, oBx, eAppW, eFld, hs.fpi, hs.ll, hpl, hs.set]; try walk_at "U")
theorem boxes_A {a p : Nat} {s : N.w.S} {many : Nat} {pile : List (List (List Nat))} (hs : StA a p s many pile) : w_Store_boxes N [.obj (a + 1)] s = .ret (.fr (.lst (pile.map boxS)), s) := by
  unfold w_Store_boxes s_Store_boxes
  walk_at "U"
  repeat (simp only [eFunU, eFld, hs.fpi, hs.drf, List.map_cons, List.map_nil, listD, opF, flat_boxes]; try walk_at "U")
end
end VK
local macro_rules | `(tactic| walk_at "U") => `(tactic| simp! [VQ.runD, VQ.sSeq, VQ.sThen, VQ.sIf, Nat.reduceBEq, VK.lb0, VK.lb6, VK.lb7, VK.lb14])
namespace VK
open PySem PySem.Spec PyProof.Rows L2 VQ
section
variable {K : PySem.W.Frag} {N : OM K} {a p a2 p2 : Nat} {many many2 : Nat} {pile pile2 : List Bx}
theorem stFld_sh {o : Ost} {n : Nat} {x f : PySem.Str} {fs : List (PySem.Str × D)} {d : D} (h : o[n]? = some (some (.ins x fs))) (hc : (flOk x f && decide (fs.length < 100)) = true) : stFld o n f (.sh d) = some (stSet o n (.ins x (putD f d fs))) := by
  show (match o[n]? with | some (some (.ins x fs)) => _ | _ => none) = _
  rw [h]
  show (if _ then _ else _) = _
  rw [if_pos hc]
theorem stFld_fr {o : Ost} {n : Nat} {x f : PySem.Str} {fs : List (PySem.Str × D)} {l : List D} (h : o[n]? = some (some (.ins x fs))) (hc : (flOk x f && decide (fs.length < 100)) = true) : stFld o n f (.fr (.lst l)) = some (stSet (stAdd o (.lst l)) n (.ins x (putD f (nwD o) fs))) := by
  show (match o[n]? with | some (some (.ins x fs)) => _ | _ => none) = _
  rw [h]
  show (if _ then _ else _) = _
  rw [if_pos hc]
theorem flS : flOk "Store" "pile" = true := by decide +kernel
theorem npp : ¬ ((("places" : PySem.Str)) = "pile") := by decide
def newO (o : Ost) (many : Nat) : Ost := o ++ [some (.ins "Store" [("places", .int (many : Nat)), ("pile", .obj (o.length + 1 + 1))]), some (.lst [])]
theorem init_A (o : Ost) (many : Nat) : w_Store___init__ N [.obj (o.length + 1), .int (many : Nat)] (stAdd o (.ins "Store" []) : Ost) = .ret (.sh .non, (newO o many : Ost)) := by
  have h1 : (stAdd o (.ins "Store" []))[o.length]? = some (some (.ins "Store" [])) := by unfold stAdd; simp
  have e1 : stFld (stAdd o (.ins "Store" [])) o.length "places" (.sh (.int (many : Nat))) = some (o ++ [some (.ins "Store" [("places", .int (many : Nat))])]) := by
    rw [stFld_sh h1 (by decide +kernel)]
    unfold stSet stAdd
    simp [putD]
  have h2 : (o ++ [some (.ins "Store" [("places", .int (many : Nat))])] : Ost)[o.length]? = some (some (.ins "Store" [("places", .int (many : Nat))])) := by simp
  have e2 : stFld (o ++ [some (.ins "Store" [("places", .int (many : Nat))])]) o.length "pile" (.fr (.lst [])) = some (newO o many) := by
    rw [stFld_fr h2 (by rw [flS]; rfl)]
    unfold stSet stAdd newO nwD
    simp [putD, npp]
  unfold w_Store___init__ s_Store___init__
  walk_at "U"
  repeat (simp only [sFldS, e1, e2]; try walk_at "U")
theorem new_A (many : Nat) (o : Ost) (ρ : Dv) (el : Ev N.w (List D)) (s0 : N.w.S) (he : el ρ s0 = .ret ([.int (many : Nat)], (o : Ost))) : eNew (M := N) "Store" 2 (w_Store___init__ N) [] el ρ s0 = .ret (.obj (o.length + 1), (newO o many : Ost)) := by
  have hi := init_A (N := N) o many
  unfold eNew
  rw [he]
  simp only [G.bind_ret]
  have hnw : nwD o = .obj (o.length + 1) := rfl
  rw [if_pos (by rfl)]
  simp only [hnw, List.append_nil]
  rw [hi]
  rfl
theorem newO_st (o : Ost) (many : Nat) : StA o.length (o.length + 1) (newO o many) many [] := by
  unfold newO
  refine ⟨by simp, by simp, by omega⟩
def twinO (o : Ost) (many : Nat) (pile : List Bx) : Ost := o ++ [some (.ins "Store" [("places", .int (many : Nat)), ("pile", .obj (o.length + 2 + 1))]), some (.lst []), some (.lst (pile.map boxS))]
theorem twin_fld (o : Ost) (many : Nat) (pile : List Bx) : stFld (newO o many) o.length "pile" (.fr (.lst (pile.map boxS))) = some (twinO o many pile) := by
  rw [stFld_fr (newO_st o many).ins (by rw [flS]; rfl)]
  unfold stSet stAdd newO nwD twinO
  simp [putD, npp]
theorem twin_A {s : N.w.S} (hs : StA a p s many pile) : w_Store_twin N [.obj (a + 1)] s = .ret (.sh (.obj ((s : Ost).length + 1)), (twinO s many pile : Ost)) := by
  have hn := new_A (N := N) many (s : Ost) [some (.obj (a + 1)), none] (eCons (M := N.w) (eFld (M := N) "places" (eVar N.w 0)) (eNil (M := N.w))) s (by walk_at "U"; repeat (simp only [eFld, hs.fpl]; try walk_at "U"))
  have hs2 : StA a p (newO s many) many pile := hs.more _
  have e2 := twin_fld (s : Ost) many pile
  unfold w_Store_twin s_Store_twin
  generalize hg : eNew (M := N) "Store" 2 (w_Store___init__ N) [] (eCons (M := N.w) (eFld (M := N) "places" (eVar N.w 0)) (eNil (M := N.w))) = g at hn ⊢
  walk_at "U"
  simp only [hn]
  walk_at "U"
  repeat (simp only [sFldS, eFunU, eFld, hs2.fpi, hs2.drf, List.map_cons, List.map_nil, listD, opF, flat_boxes, e2]; try walk_at "U")
end
section
theorem pl_boxS {b : Bx} (gb : goodB b = true) (n : Nat) : pl (n + 2) (boxS b) = true := by
  show plL (n + 1) (b.map .str) = true
  have aux : ∀ l : Bx, l.all beg = true → plL (n + 1) (l.map .str) = true := by
    intro l
    induction l with
    | nil => intro _; rfl
    | cons x l ih =>
      intro h
      rw [List.all_cons, Bool.and_eq_true] at h
      show (pl (n + 1) (.str x) && plL (n + 1) (l.map .str)) = true
      rw [ih h.2, Bool.and_true]
      have hs := beg_sign h.1
      show (x.all fun c => decide (c < 1114112)) = true
      rw [List.all_eq_true] at hs ⊢
      intro c hc
      have := hs c hc
      simp only [isSign, Bool.or_eq_true, beq_iff_eq] at this
      exact decide_eq_true (by omega)
  exact aux b (goodB_beg gb)
variable {K : PySem.W.Frag} {N : OM K} {a p : Nat} {s : N.w.S} {many : Nat} {pile : List Bx}
theorem eqD_strs : ∀ b : Bx, eqDs (b.map .str) (b.map .str) = true
  | [] => rfl
  | x :: b => by
    show ((x == x) && eqDs (b.map .str) (b.map .str)) = true
    rw [eqD_strs b, beq_self_eq_true]; rfl
theorem eqD_pile : ∀ l : List Bx, eqDs (l.map boxS) (l.map boxS) = true
  | [] => rfl
  | b :: l => by
    show (eqDs (b.map .str) (b.map .str) && eqDs (l.map boxS) (l.map boxS)) = true
    rw [eqD_strs b, eqD_pile l]; rfl
theorem pl_pile {l : List Bx} (h : ∀ q ∈ l, goodB q = true) : pl 40 (.lst (l.map boxS)) = true := by
  show plL 39 (l.map boxS) = true
  induction l with
  | nil => rfl
  | cons b l ih =>
    show (pl 39 (boxS b) && plL 39 (l.map boxS)) = true
    rw [ih fun q hq => h q (List.mem_cons_of_mem _ hq), pl_boxS (h b List.mem_cons_self) 37]; rfl
theorem eqO_pile {l m : List Bx} (h : ∀ q ∈ l, goodB q = true) (h2 : ∀ q ∈ m, goodB q = true) : eqO (.lst (l.map boxS)) (.lst (m.map boxS)) = some (eqD (.lst (l.map boxS)) (.lst (m.map boxS))) := by
  unfold eqO
  rw [pl_pile h, pl_pile h2, Bool.and_self, Bool.or_true, if_pos rfl]
def nextP (pile : List Bx) (b : Bx) : List Bx := if pile.any (inB b) = true then pile else pile ++ [b]
theorem nextP_good {b : Bx} (h : goodP5 many pile) (gb : goodB b = true) (hb : b.length = many) : goodP5 many (nextP pile b) := by
  unfold nextP
  split
  · exact h
  · intro q hq
    rcases List.mem_append.mp hq with hq | hq
    · exact h q hq
    · rw [List.mem_singleton.mp hq]; exact ⟨gb, hb⟩
theorem stSet_len (o : Ost) (p : Nat) (c : Cell) : (stSet o p c).length = o.length := by unfold stSet; simp
theorem put_pk (hs : StA a p s many pile) (b : Bx) (gb : goodB b = true) (hb : b.length = many) (hp : goodP5 many pile) (hl : pile.length < 1000) (hf : (s : Ost).all flatC = true) :
    ∃ t : N.w.S, w_Store_put N [.obj (a + 1), boxS b] s = .ret (.sh (.bl (!pile.any (inB b))), t) ∧ StA a p t many (nextP pile b) ∧ (t : Ost).all flatC = true ∧ (t : Ost).length = (s : Ost).length ∧
      ∀ a2 p2 m2 pl2, StA a2 p2 (s : Ost) m2 pl2 → p ≠ a2 → p ≠ p2 → StA a2 p2 (t : Ost) m2 pl2 := by
  have h := put_A hs b gb hb (fun q hq => (hp q hq).2) hl
  unfold nextP
  cases hany : pile.any (inB b) with
  | true =>
    rw [hany, if_pos rfl] at h
    exact ⟨s, h, by rw [if_pos rfl]; exact hs, hf, rfl, fun _ _ _ _ h _ _ => h⟩
  | false =>
    rw [hany, if_neg (by decide)] at h
    exact ⟨(stSet (s : Ost) p (.lst ((pile ++ [b]).map boxS)) : Ost), h, by rw [if_neg (by decide)]; exact hs.put b, flat_put hf _, stSet_len _ _ _, fun _ _ _ _ h n1 n2 => StA.other h n1 n2 _⟩
end
section
variable {K : PySem.W.Frag} {N : OM K} {s : N.w.S} {many : Nat} {pile : List Bx}
theorem newO_flat {o : Ost} (hf : o.all flatC = true) (many : Nat) : (newO o many).all flatC = true := by
  unfold newO
  rw [List.all_append, hf]; rfl
end
section
variable {K : PySem.W.Frag} {N : OM K} {s : N.w.S} {many : Nat} {pile : List Bx} {pull : Dfs N.w} {xt : Xt}
theorem Inv9.more {s : Ost} {a p n m m' : Nat} {x5 x6 : Option VV} (h : Inv9 s a p many pile n m x5 x6) (hm : m ≤ m') : Inv9 s a p many pile n m' x5 x6 := ⟨h.st, h.g, h.l, h.f, by
  rcases h.o with h | ⟨a2, p2, lone, e5, e6, hT, hlo⟩
  · exact .inl h
  · exact .inr ⟨a2, p2, lone, e5, e6, hT, by omega⟩⟩
end
section
theorem b5_val : ∀ l ∈ begsN 5, l.length = 5 → b5 (valN l) = l := by decide +kernel
variable {K : PySem.W.Frag} {N : OM K} {s s' : N.w.S} {α : Type}
theorem elcW_fil {vs : List Nat} {ew : Ev N.w D} {g : D → Dv → Option Dv} {et : Ev N.w Bool} {ee : Ev N.w D} {ρ : Dv} {w : D} (xs : List α) (inj : α → D) (p : α → Bool) (F : α → D) (he : ew ρ s = .ret (w, s')) (hw : lstAt (s' : Ost) w = some (xs.map inj)) (hl : xs.length ≤ big)
    (h : ∀ x ∈ xs, ∃ ρ1, g (inj x) (wipeD vs ρ) = some ρ1 ∧ et ρ1 s' = .ret (p x, s') ∧ (p x = true → ee ρ1 s' = .ret (F x, s'))) : eLcW vs ew g et ee ρ s = .ret (.fr (.lst ((xs.filter p).map F)), s') := by
  have aux : ∀ (ys pre : List α) (fu : Nat), xs = pre ++ ys → ys.length < fu → lcW g et ee (wipeD vs ρ) w fu pre.length ((pre.filter p).map F) s' = .ret (.fr (.lst ((xs.filter p).map F)), s') := by
    intro ys
    induction ys with
    | nil =>
      intro pre fu e hf
      obtain ⟨fu, rfl⟩ : ∃ n, fu = n + 1 := ⟨fu - 1, by omega⟩
      rw [List.append_nil] at e
      subst e
      unfold lcW
      rw [hw]
      simp only [List.getElem?_eq_none_iff.mpr (show (xs.map inj).length ≤ xs.length by simp)]
    | cons y ys ih =>
      intro pre fu e hf
      obtain ⟨fu, rfl⟩ : ∃ n, fu = n + 1 := ⟨fu - 1, by omega⟩
      obtain ⟨ρ1, e1, e2, e3⟩ := h y (by rw [e]; simp)
      have hi : (xs.map inj)[pre.length]? = some (inj y) := by rw [e]; simp
      unfold lcW
      rw [hw]
      simp only [hi, e1, e2]
      show ((G.ret (p y, s') : VQ.G _ _).noX.bind _) = _
      have hlen := congrArg List.length e
      simp at hlen
      have hpl : ((pre.filter p).map F).length < big := by
        have := List.length_filter_le p pre
        rw [List.length_map]
        omega
      have hih := ih (pre ++ [y]) fu (by rw [e]; simp) (by simp at hf; omega)
      rw [List.length_append, List.filter_append, List.map_append] at hih
      cases hp : p y with
      | true =>
        have hf1 : [y].filter p = [y] := by simp [hp]
        rw [hf1] at hih
        show ((ee ρ1 s').noX.bind _) = _
        rw [e3 hp]
        show (if _ then _ else _) = _
        rw [if_pos hpl]
        exact hih
      | false =>
        have hf1 : [y].filter p = [] := by simp [hp]
        rw [hf1, List.map_nil, List.append_nil] at hih
        exact hih
  unfold eLcW
  rw [he]
  show (match lstAt (s' : Ost) w with | none => _ | some l => _) = _
  rw [hw]
  exact aux xs [] _ rfl (by simp)
end
section
theorem full_pt {many : Nat} (h1 : 1 ≤ many) (h5 : many ≤ 5) {c : Bx} (hc : full many c) : goodP (c.map valN) = true ∧ (c.map valN).map b5 = c ∧ (c.map valN).all wB = true := by
  have hmem : ∀ l ∈ c, l ∈ begsN 5 := fun l hl => by have := beg_mem (l := l) (by unfold beg; rw [(hc.2 l hl).1, (hc.2 l hl).2]; decide); exact this
  have hv : ∀ l ∈ begsN 5, l.length = 5 → wB (valN l) = true := by decide +kernel
  have hw : (c.map valN).all wB = true := by
    rw [List.all_map, List.all_eq_true]
    exact fun l hl => hv l (hmem l hl) (hc.2 l hl).1
  refine ⟨?_, ?_, hw⟩
  · unfold goodP
    rw [List.length_map, hc.1, decide_eq_true h1, decide_eq_true h5, hw]; rfl
  · rw [List.map_map]
    conv => rhs; rw [← List.map_id c]
    exact List.map_congr_left fun l hl => b5_val l (hmem l hl) (hc.2 l hl).1
end
end VK
local macro_rules | `(tactic| walk_at "U") => `(tactic| simp! [VQ.runD, VQ.sSeq, VQ.sThen, VQ.sIf, true_and, List.contains_cons, List.contains_nil, Nat.reduceBEq, VK.v1_on, VK.f1_on, VK.lb1, VK.add_ll, VQ.isD, VK.q_ii, VQ.gtD, VQ.cmpI, Bool.or_true, Bool.false_or, Bool.and_true, Bool.and_false, Bool.false_and])
namespace VK
open PySem PySem.Spec PyProof.Rows L2 VQ
section
variable {K : PySem.W.Frag} {N : OM K} {a p : Nat}
theorem bareA_step {s : N.w.S} {many : Nat} {pile : List Bx} (hs : StA a p s many pile) (hp : ∀ q ∈ pile, q.length = many) (b : Bx) (w : List Bx) (gb : goodB b = true) (hb : b.length = many) (hw : w.length ≤ 1000) (x2 x3 x4 : Option VV) :
    bareBody (N := N) [some (.sh (.obj (a + 1))), some (.ow (.lst ((b :: w).map boxS))), x2, x3, x4] s = if pile.any (inB b) = true then .ret (.nx [some (.sh (.obj (a + 1))), some (.ow (.lst (w.map boxS))), some (.sh (boxS b)), x3, x4], s) else match openK b with
      | none => .ret (.rt (.sh (ptS (b.map valN))), s)
      | some k => .ret (.nx [some (.sh (.obj (a + 1))), some (.ow (.lst ((halfB b k 48 :: halfB b k 49 :: w).map boxS))), some (.sh (boxS b)), some (.sh (.lst [boxS (halfB b k 48), boxS (halfB b k 49)])), x4], s) := by
  have hm5 : many ≤ 5 := by rw [← hb]; exact (goodB_len gb).2
  have hst : sStar (M := N.w) [2, 1] 1 [1] (eVar N.w 1) [some (.sh (.obj (a + 1))), some (.ow (.lst (boxS b :: w.map boxS))), x2, x3, x4] s = .ret (.nx [some (.sh (.obj (a + 1))), some (.ow (.lst (w.map boxS))), some (.sh (boxS b)), x3, x4], s) := by
    unfold sStar
    walk_at "U"
    have e := star_hd (boxS b) (w.map boxS)
    have c1 : (w.map boxS).length + 1 < big := by rw [List.length_map]; show _ < 1000000; omega
    rw [if_pos ⟨c1, rfl⟩, e]
    simp only [flat_lst, List.isEmpty_cons, Bool.false_or, Bool.false_and, Bool.false_eq_true, if_false, f1_out (m := [1]) (i := 2) rfl, f1_out (m := [1]) (i := 3) rfl, f1_out (m := [1]) (i := 4) rfl]
    rfl
  have hf := firstOver_A hs b hb hm5 hp
  have hc := hs.cls
  unfold bareBody
  simp only [List.map_cons]
  walk_at "U"
  simp only [hst]
  walk_at "U"
  cases hfd : pile.find? (inB b) with
  | some q =>
    rw [hfd] at hf
    have hany : pile.any (inB b) = true := by
      rw [List.any_eq_true]
      exact ⟨q, List.mem_of_find?_eq_some hfd, List.find?_some hfd⟩
    repeat (simp only [eMeth, hc, hf, oBx]; try walk_at "U")
    rw [if_pos hany]
  | none =>
    rw [hfd] at hf
    have hany : pile.any (inB b) = false := by
      rw [List.any_eq_false]
      exact List.find?_eq_none.mp hfd
    rw [hany]
    have hh := fun t => halvesOf_eq (M := N.w) (s := t) b gb
    cases hk : openK b with
    | none =>
      have hL : halvesL b = [] := by unfold halvesL; rw [hk]
      rw [hL] at hh
      have h5 := openK_no gb hk
      have hbl : b.length ≤ big := by rw [hb]; show _ ≤ 1000000; omega
      have hlc : eLc (M := N.w) [4] (eItems anyOf (eVar N.w 2)) (gdName 4) eYes (eBinD ixD (eSeen (eCall 1 (w_span N.w) [] (eCons (eVar N.w 4) eNil))) (eC N.w (.int 0))) [some (.obj (a + 1)), none, some (boxS b), some (.lst []), view1 [] 4 x4] s = .ret (.fr (.lst (b.map fun l => .int (valN l))), s) := by
        refine elc_map b (fun l => .str l) _ (by walk_at "U"; rfl) hbl fun l hl => ⟨_, rfl, ?_⟩
        have hsp := span_ok (M := N.w) (s := s) l (List.all_eq_true.mp (goodB_beg gb) l hl)
        rw [h5 l hl] at hsp
        simp only [Nat.sub_self, Int.pow_zero, Int.mul_one] at hsp
        have h0 := at_head (D.int (valN l)) [D.int (valN l + 1)]
        walk_at "U"
        repeat (simp only [hsp, h0]; try walk_at "U")
      have hz : (((0 : Nat) : Int) == 0) = true := rfl
      repeat (simp only [eMeth, hc, hf, oBx, hh]; try walk_at "U")
      repeat (simp only [hz, hlc, tuple_lst]; try walk_at "U")
      try simp [ptS, Function.comp_def]
    | some k =>
      have hL : halvesL b = [boxS (halfB b k 48), boxS (halfB b k 49)] := by unfold halvesL; rw [hk]
      rw [hL] at hh
      have hz : (((2 : Nat) : Int) == 0) = false := rfl
      have ha := add_ll (a := [boxS (halfB b k 48), boxS (halfB b k 49)]) (b := w.map boxS) (by rw [List.length_map]; show 2 + _ ≤ 1000000; omega)
      repeat (simp only [eMeth, hc, hf, oBx, hh]; try walk_at "U")
      repeat (simp only [hz]; try walk_at "U")
      cases hfx : N.w.flat s
      all_goals
        repeat (simp only [ha, hfx]; try walk_at "U")
      all_goals
        rw [f1_out (m := [1]) (i := 4) rfl]
        split <;> rfl
theorem bareCA_eq {s : N.w.S} (L : List D) (x2 x3 x4 : Option VQ.VV) (hl : L.length ≤ big) : inF [1] bareC [some (.sh (.obj (a + 1))), some (.ow (.lst L)), x2, x3, x4] s = .ret (decide ((0 : Int) < (L.length : Nat)), s) := by
  unfold bareC
  walk_at "U"
  repeat (simp only [hl]; try walk_at "U")
theorem bareA_while {s : N.w.S} {many : Nat} {pile : List Bx} (hs : StA a p s many pile) (hfl : N.w.flat s = true) (hp : ∀ q ∈ pile, q.length = many) : ∀ (n : Nat) (w : List Bx) (x2 x3 x4 : Option VQ.VV), meas w < n → (∀ b ∈ w, goodB b = true ∧ b.length = many) → inv1 w →
    (∀ b, bareF pile n w = some b → whileG (M := N.w) [1] bareC bareBody n [some (.sh (.obj (a + 1))), some (.ow (.lst (w.map boxS))), x2, x3, x4] s = .ret (.rt (.sh (ptS (b.map valN))), s)) ∧
    (bareF pile n w = none → ∃ ρ', whileG (M := N.w) [1] bareC bareBody n [some (.sh (.obj (a + 1))), some (.ow (.lst (w.map boxS))), x2, x3, x4] s = .ret (.nx ρ', s)) := by
  intro n
  induction n with
  | zero => intro w x2 x3 x4 h; omega
  | succ n ih =>
    intro w x2 x3 x4 hm hg hi
    cases w with
    | nil =>
      refine ⟨fun b h => by simp [bareF] at h, fun _ => ?_⟩
      simp only [whileG, bareCA_eq (N := N) (a := a) (s := s) (([] : List Bx).map boxS) x2 x3 x4 (by decide)]
      exact ⟨_, rfl⟩
    | cons b w =>
      obtain ⟨gb, hb⟩ := hg b List.mem_cons_self
      have hgw : ∀ c ∈ w, goodB c = true ∧ c.length = many := fun c hc => hg c (List.mem_cons_of_mem _ hc)
      have hwl : w.length ≤ 26 := by
        rcases stk_len (w := w) (m := vol b) hi (fun c hc => vol_25 (hgw c hc).1) with h | h
        · omega
        · rw [h]; simp
      have hst := bareA_step hs hp b w gb hb (by omega) x2 x3 x4
      have hlen : ((b :: w).map boxS).length ≤ big := by rw [List.length_map, List.length_cons]; show _ ≤ 1000000; omega
      have hgt : decide ((0 : Int) < ((((b :: w).map boxS).length : Nat) : Int)) = true := decide_eq_true (by rw [List.length_map, List.length_cons]; omega)
      have un : whileG (M := N.w) [1] bareC bareBody (n + 1) [some (.sh (.obj (a + 1))), some (.ow (.lst ((b :: w).map boxS))), x2, x3, x4] s = (bareBody (N := N) [some (.sh (.obj (a + 1))), some (.ow (.lst ((b :: w).map boxS))), x2, x3, x4] s).bind fun f => match f with
        | (.nx ρ2, s2) => whileG (M := N.w) [1] bareC bareBody n ρ2 s2
        | (.ct ρ2, s2) => whileG (M := N.w) [1] bareC bareBody n ρ2 s2
        | (.bk ρ2, s2) => .ret (.nx ρ2, s2)
        | (.rt r, s2) => .ret (.rt r, s2) := by
        generalize hL : (b :: w).map boxS = L at hlen hgt
        simp only [whileG, bareCA_eq (N := N) (a := a) (s := s) L x2 x3 x4 hlen, G.bind_ret, hgt, if_true, behind, hfl, Bool.and_true, Bool.or_true]
        congr 1
        funext f
        obtain ⟨fl, s2⟩ := f
        cases fl <;> rfl
      rw [un, hst]
      by_cases hany : pile.any (inB b) = true
      · have e : bareF pile (n + 1) (b :: w) = bareF pile n w := by show (if _ then _ else _) = _; rw [if_pos hany]
        rw [e, if_pos hany]
        refine ih w (some (.sh (boxS b))) x3 x4 ?_ hgw ?_
        · rw [meas_cons] at hm
          have := meas_pos b
          omega
        · cases w with
          | nil => trivial
          | cons c w => exact stk_less (Nat.le_succ _) hi.2
      · rw [if_neg hany]
        cases hk : openK b with
        | none =>
          have e : bareF pile (n + 1) (b :: w) = some b := by show (if _ then _ else _) = _; rw [if_neg hany, hk]
          rw [e]
          exact ⟨fun c hc => (by cases hc; rfl), fun h => (by cases h)⟩
        | some k =>
          have e : bareF pile (n + 1) (b :: w) = bareF pile n (halfB b k 48 :: halfB b k 49 :: w) := by show (if _ then _ else _) = _; rw [if_neg hany, hk]
          rw [e]
          have hmm := half_meas gb hk w
          have f1 := half_facts gb hk 48 rfl
          have f2 := half_facts gb hk 49 rfl
          refine ih (halfB b k 48 :: halfB b k 49 :: w) _ _ x4 (by omega) (fun c hc => ?_) ?_
          · rcases List.mem_cons.mp hc with rfl | hc
            · exact ⟨f1.1, f1.2.1.trans hb⟩
            · rcases List.mem_cons.mp hc with rfl | hc
              · exact ⟨f2.1, f2.2.1.trans hb⟩
              · exact hgw c hc
          · show vol (halfB b k 48) ≤ vol (halfB b k 49) ∧ stk (vol (halfB b k 49) + 1) w
            refine ⟨by omega, ?_⟩
            rw [← f2.2.2.1]
            exact hi
theorem bareA_eq {s : N.w.S} {many : Nat} {pile : List Bx} (hs : StA a p s many pile) (hfl : N.w.flat s = true) (h1 : 1 ≤ many) (h5 : many ≤ 5) (hp : ∀ q ∈ pile, q.length = many) : w_Store_bare N [.obj (a + 1)] s = .ret (.sh (oPt (bareR pile many)), s) := by
  unfold w_Store_bare s_Store_bare
  have hwh : sWhile (M := N.w) [1] (eCmpT gtD (eSeen (eFun lenD (eCons (eVar N.w 1) eNil))) (eC N.w (.int 0))) (sSeq (sStar [2, 1] 1 [1] (eVar N.w 1))
    (sIf [] (eCmpT isD (eSeen (eMeth (M := N) "Store" 2 (w_Store_first_over N) [] (eVar N.w 0) (eCons (eVar N.w 2) eNil))) (eC N.w .non)) (sSeq (sSet 3 [] (eSh (eSeen (eCall 1 (w_halves_of N.w) [] (eCons (eVar N.w 2) eNil)))))
    (sSeq (sIf [] (eCmpT eqO (eSeen (eFun lenD (eCons (eVar N.w 3) eNil))) (eC N.w (.int 0))) (sRet [] (eFun tupleD (eCons (eSeen (eLc [4] (eItems anyOf (eVar N.w 2)) (gdName 4) eYes (eBinD ixD (eSeen (eCall 1 (w_span N.w) [] (eCons (eVar N.w 4) eNil))) (eC N.w (.int 0))))) eNil))) sNil)
    (sSet 1 [1] (eBin addD (eVar N.w 3) (eVar N.w 1))))) sNil)) = whileG [1] bareC bareBody wTurns := rfl
  rw [hwh]
  clear hwh
  have hw := whole_eq (M := N.w) (s := s) many (by omega)
  rw [whole_box] at hw
  have hb := bareA_while hs hfl hp wTurns [wholeB many] none none none (meas_whole h1 h5) (fun b hb => by
    have : b = wholeB many := by simpa using hb
    subst this
    exact ⟨whole_good h1 h5, by simp [wholeB]⟩) trivial
  walk_at "U"
  repeat (simp only [eFld, hs.fpl, hw]; try walk_at "U")
  unfold bareR
  cases h : bareF pile wTurns [wholeB many] with
  | some b =>
    have e := hb.1 b h
    simp only [List.map_cons, List.map_nil] at e
    simp only [e]
    walk_at "U"
    try rfl
  | none =>
    obtain ⟨ρ', e⟩ := hb.2 h
    simp only [List.map_cons, List.map_nil] at e
    simp only [e]
    walk_at "U"
    try rfl
end
end VK
local macro_rules | `(tactic| walk_at "U") => `(tactic| simp! [VQ.runD, VQ.sSeq, VQ.sThen, VQ.sIf, and_true, true_and, List.contains_cons, List.contains_nil, Nat.reduceBEq, VK.v1_on, VK.f1_on, VK.lb0, VK.lb1, VK.add_ii, VK.add_ss, VK.add_tt, VK.any_map, VK.cut_from, VQ.ltD, VQ.cmpI, Bool.or_true])
local macro_rules | `(tactic| walk_at "A") => `(tactic| simp! [Int.reduceBEq, Int.reduceLT, Int.reduceLE, Int.reduceNeg, Nat.reduceBEq, List.contains_cons, List.contains_nil, VK.al_ret_eq, VK.al_seq_eq, VK.al_then_nx, VK.al_then_rt, VK.retP_rt, VK.al_run_eq, VK.al_ite, VQ.sIf, and_true, true_and, VK.v1_on, VK.f1_on, VK.lb0, VK.lb1, VK.add_ii, VK.add_ss, VK.add_tt, VK.any_map, VK.cut_from, VQ.ltD, VQ.cmpI, Bool.or_true])
namespace VK
open PySem PySem.Spec PyProof.Rows L2 VQ
section
def ixS (i : Nat) : D := .int (i : Nat)
theorem pl_strsG (n : Nat) : ∀ {b : Bx}, b.all beg = true → plL n (b.map .str) = true
  | [], _ => by cases n <;> rfl
  | l :: b, h => by
    rw [List.all_cons, Bool.and_eq_true] at h
    have h1 := beg_sign h.1
    have h2 : l.all (fun c => decide (c < 1114112)) = true := by
      rw [List.all_eq_true] at h1 ⊢
      intro c hc
      have := h1 c hc
      unfold isSign at this
      simp at this
      rcases this with e | e <;> rw [e] <;> rfl
    have h3 := pl_strsG n h.2
    cases n <;> simp only [List.map_cons, plL, pl, Bool.and_eq_true] <;> exact ⟨h2, h3⟩
theorem pl_boxesG (n : Nat) : ∀ {l : List Bx}, (∀ b ∈ l, b.all beg = true) → plL (n + 1) (l.map boxS) = true
  | [], _ => rfl
  | b :: l, h => by
    have h1 := pl_strsG n (h b (List.mem_cons_self ..))
    have h2 := pl_boxesG n (l := l) fun c hc => h c (List.mem_cons_of_mem _ hc)
    simp only [List.map_cons, plL, Bool.and_eq_true]
    exact ⟨h1, h2⟩
theorem pl_ixsG (n : Nat) : ∀ l : List Nat, plL n (l.map ixS) = true
  | [] => by cases n <;> rfl
  | k :: l => by
    have h3 := pl_ixsG n l
    cases n <;> simp only [List.map_cons, plL, ixS, pl, Bool.true_and] <;> exact h3
theorem eq_nilL {l : List D} (h : plL 39 l = true) : eqO (.lst l) (.lst []) = some l.isEmpty := by
  have h1 : pl 40 (.lst l) = true := h
  unfold eqO
  rw [h1]
  cases l <;> rfl
theorem ne_nilL {l : List D} (h : plL 39 l = true) : neO (.lst l) (.lst []) = some !l.isEmpty := by
  unfold neO
  rw [eq_nilL h]; rfl
theorem at_bx {b : Bx} {i : Nat} (h : i < b.length) : atI (b.map D.str) ((i : Nat) : Int) = some (.str (atB b i)) := atI_nat (by
  rw [List.getElem?_map, List.getElem?_eq_getElem h]
  unfold atB
  rw [List.getD_eq_getElem?_getD, List.getElem?_eq_getElem h]; rfl)
theorem atI_hd (x : D) (l : List D) : atI (x :: l) 0 = some x := atI_nat (j := 0) rfl
theorem rng0_eqW {n : Nat} (h : n ≤ 1000000) : rng1 (.int (n : Nat)) = some ((List.range n).map fun (k : Nat) => D.int (k : Nat)) := by
  have e := rng1_eq (n := n) h
  rw [e]
  congr 1
  refine List.map_congr_left fun k _ => ?_
  rw [Int.zero_add]
theorem atB_beg {b : Bx} (hb : b.all beg = true) (i : Nat) : beg (atB b i) = true := by
  unfold atB
  rw [List.getD_eq_getElem?_getD]
  cases h : b[i]? with
  | none => rfl
  | some l => exact List.all_eq_true.mp hb l (List.mem_of_getElem? h)
theorem und5 : ∀ l ∈ begsN 5, l.length = 5 → (List.range 32).filter (fun n => (b5 ((n : Nat) : Int)).take l.length == l) = [(valN l).toNat] ∧ (((valN l).toNat : Nat) : Int) = valN l := by decide +kernel
variable {K : PySem.W.Frag} {M : WM K} {s : M.S}
theorem while_alR {m : List Nat} {c : Ev M Bool} {body : Sv M} {P : Fl × M.S → Prop} {E : Xs M → Prop} (hfl : M.flat s = true) (I : Nat → Nv → Prop)
    (h : ∀ n ρ, I n ρ → ∃ b : Bool, c (view m ρ) s = .ret (b, s) ∧ (b = true → Al (body ρ s) (fun f => (∃ ρ2 k, f = (.nx ρ2, s) ∧ k < n ∧ I k ρ2) ∨ ∃ r, f = (.rt r, s) ∧ P (.rt r, s)) E) ∧ (b = false → P (.nx ρ, s))) :
    ∀ n fuel ρ, n < fuel → I n ρ → Al (whileG m c body fuel ρ s) P E := by
  intro n
  induction n using Nat.strongRecOn with
  | _ n ih =>
    intro fuel ρ hf hi
    obtain ⟨fuel, rfl⟩ : ∃ g, fuel = g + 1 := ⟨fuel - 1, by omega⟩
    obtain ⟨b, hc, h1, h2⟩ := h n ρ hi
    have hb : behind M m true s ρ = ρ := by unfold behind; rw [hfl]; simp
    unfold whileG
    simp only [inF, hc, G.exs_ret, G.bind_ret, hb]
    cases b with
    | false => exact .ret (h2 rfl)
    | true =>
      simp only [if_true]
      refine .bind ((h1 rfl).mono (fun f hf2 => ?_) fun _ h => h)
      rcases hf2 with ⟨ρ2, k, rfl, hk, hi2⟩ | ⟨r, rfl, hr⟩
      · exact ih k hk fuel ρ2 (by omega) hi2
      · exact .ret hr
end
section
variable {K : PySem.W.Frag} {N : OM K} {s : N.w.S}
theorem lawBareW {bs : List Bx} {many c0 : Nat} (h1 : 1 ≤ many) (h5 : many ≤ 5) (hb : ∀ b ∈ bs, b.length = many ∧ b.all beg = true) (hl : bs.length ≤ 900000) (hfl : N.w.flat s = true) (hcl : lstAt (s : Ost) (.obj (c0 + 1)) = some (bs.map boxS)) :
    Al (w_law_bare_v2 N [.obj (c0 + 1), .int (many : Nat)] s) (fun r => r = (.sh (oPt (bareR bs many)), s)) (fun _ => False) := by
  have hv1 : ∀ (m : List Nat) (i : Nat) (x : Option D), view1 m i (x.map VV.sh) = x := fun m i x => by cases x <;> rfl
  have hf1 : ∀ (m : List Nat) (i : Nat) (x : Option D), frz1 m i (x.map VV.sh) = x.map VV.sh := fun m i x => by cases x <;> rfl
  have hanyL : ∀ l : List D, anyOf (.lst l) = some l := fun _ => rfl
  have hmul : mulD (.tup [.str []]) (.int (many : Nat)) = some (.sh (boxS (wholeB many))) := by
    rw [mul_tk (by omega) (by omega) (by simp), Int.toNat_natCast, whole_box]
  have hbl : bs.all (fun b => decide (b.length ≤ 1000)) = true := by
    rw [List.all_eq_true]; intro b hbm; have := (hb b hbm).1; exact decide_eq_true (by omega)
  unfold w_law_bare_v2 s_law_bare_v2
  rw [al_run_eq]
  refine al_seq (Al.to (P := fun f => f = (.nx [some (.sh (.obj (c0 + 1))), some (.sh (.int (many : Nat))), some (.ow (.lst [boxS (wholeB many)])), none, none, none, none, none, none], s)) ?_ ?_)
  · generalize boxS (wholeB many) = BW at *
    walk_at "A"
    repeat (simp only [hmul]; try walk_at "A")
    try rfl
  rintro _ rfl
  rw [al_then_nx]
  obtain ⟨T, hT⟩ : ∃ T, T = bareR bs many := ⟨_, rfl⟩
  rw [← hT]
  have hT0 : bareF bs wTurns [wholeB many] = T := by rw [hT]; rfl
  refine al_seq (Al.to (P := fun f => (T = none ∧ ∃ (x2 : VV) (x3 x4 x5 x6 : Option D), f = (.nx [some (.sh (.obj (c0 + 1))), some (.sh (.int (many : Nat))), some x2, x3.map .sh, x4.map .sh, x5.map .sh, x6.map .sh, none, none], s)) ∨ ∃ b, T = some b ∧ f = (.rt (.sh (ptS (b.map valN))), s)) (while_alR hfl (fun k ρ => ∃ (w : List Bx) (m : Nat) (x3 x4 x5 x6 : Option D), k = meas w ∧ meas w < m ∧ bareF bs m w = T ∧ (∀ b ∈ w, goodB b = true ∧ b.length = many) ∧ inv1 w ∧ ρ = [some (.sh (.obj (c0 + 1))), some (.sh (.int (many : Nat))), some (.ow (.lst (w.map boxS))), x3.map .sh, x4.map .sh, x5.map .sh, x6.map .sh, none, none]) ?h (meas [wholeB many]) wTurns _ (meas_whole h1 h5) ⟨[wholeB many], wTurns, none, none, none, none, rfl, meas_whole h1 h5, hT0, fun b hbm => ?g, trivial, rfl⟩) ?k)
  case g =>
    have : b = wholeB many := by simpa using hbm
    subst this
    exact ⟨whole_good h1 h5, by simp [wholeB]⟩
  case k =>
    rintro _ (⟨hn, x2, x3, x4, x5, x6, rfl⟩ | ⟨b, hb2, rfl⟩)
    · rw [al_then_nx, hn]
      simp only [oPt]
      walk_at "A"
      repeat (simp only [hv1, hf1]; try walk_at "A")
    · rw [hb2]
      simp only [oPt]
      walk_at "A"
  case h =>
    intro n ρ ⟨w, m, x3, x4, x5, x6, hk, hmm0, hTm, hg, hi, hρ⟩
    subst hk hρ
    have hne := ne_nilL (pl_boxesG 38 (l := w) fun b hbm => goodB_beg (hg b hbm).1)
    refine ⟨!(w.map boxS).isEmpty, ?_, fun hb1 => ?_, fun hb0 => .inl ⟨?_, _, x3, x4, x5, x6, rfl⟩⟩
    rotate_left 2
    · cases w with
      | cons b w => cases hb0
      | nil =>
        obtain ⟨m, rfl⟩ : ∃ k, m = k + 1 := ⟨m - 1, by omega⟩
        exact hTm.symm
    · generalize w.map boxS = W at *
      walk_at "U"
      repeat (simp only [hv1, hf1, hne]; try walk_at "U")
    cases w with
    | nil => cases hb1
    | cons b w =>
      obtain ⟨gb, hbn⟩ := hg b (List.mem_cons_self ..)
      obtain ⟨m, rfl⟩ : ∃ k, m = k + 1 := ⟨m - 1, by omega⟩
      have hmp := meas_pos b
      have hmc := meas_cons b w
      have hgw : ∀ c ∈ w, goodB c = true ∧ c.length = many := fun c hc => hg c (List.mem_cons_of_mem _ hc)
      have hwl : w.length ≤ 26 := by
        rcases stk_len (w := w) (m := vol b) hi (fun c hc => vol_25 (hgw c hc).1) with h | h
        · omega
        · rw [h]; simp
      refine al_seq (Al.to (P := fun f => f = (.nx [some (.sh (.obj (c0 + 1))), some (.sh (.int (many : Nat))), some (.ow (.lst (w.map boxS))), some (.sh (boxS b)), x4.map .sh, x5.map .sh, x6.map .sh, none, none], s)) ?_ ?_)
      · have hlen : (boxS b :: w.map boxS).length < big := by rw [List.length_cons, List.length_map]; show _ < 1000000; omega
        simp only [List.map_cons]
        generalize w.map boxS = W at *
        generalize boxS b = B at *
        unfold sLPopS
        walk_at "A"
        have e1 : behind N.w [] (flat (.int 0)) s = fun ρ => ρ := rfl
        have e2 : (B :: W)[Int.toNat 0]? = some B := rfl
        have e3 : (B :: W).eraseIdx (Int.toNat 0) = W := rfl
        have e4 : W.length + 1 < big := hlen
        repeat (simp only [e1, e2, e3, e4]; try walk_at "A")
        try rfl
      rintro _ rfl
      rw [al_then_nx]
      have hin : ∀ y2 y4 y5 y6, eLcW (M := N) [7] (eVar N.w 0) (gdName 7) (eYes (M := N.w)) (eSeen (M := N.w) (eCall (M := N.w) 2 (w_law_inside N.w) [] (eCons (M := N.w) (eVar N.w 3) (eCons (M := N.w) (eVar N.w 7) (eNil (M := N.w)))))) [some (.obj (c0 + 1)), some (.int (many : Nat)), y2, some (boxS b), y4, y5, y6, none, none] s = .ret (.fr (.lst (bs.map fun c => .bl (inB b c))), s) := by
        intro y2 y4 y5 y6
        have hh := elcW_fil (N := N) (s := s) (s' := s) (vs := [7]) (ew := eVar N.w 0) (g := gdName 7) (et := eYes (M := N.w)) (ee := eSeen (M := N.w) (eCall (M := N.w) 2 (w_law_inside N.w) [] (eCons (M := N.w) (eVar N.w 3) (eCons (M := N.w) (eVar N.w 7) (eNil (M := N.w)))))) (ρ := [some (.obj (c0 + 1)), some (.int (many : Nat)), y2, some (boxS b), y4, y5, y6, none, none]) (w := .obj (c0 + 1)) bs boxS (fun _ => true) (fun c => .bl (inB b c)) rfl hcl (by show _ ≤ 1000000; omega) fun c hcm => ⟨_, rfl, rfl, fun _ => ?_⟩
        · rw [hh, List.filter_eq_self.mpr (fun _ _ => rfl)]
        · have hi1 := lawInside_eq (M := N.w) (s := s) (a := b) (b := c) (by omega) (fun l hlm => by
            have := beg_len (List.all_eq_true.mp (goodB_beg gb) l hlm); omega) (fun l hlm => by
            have := beg_len (List.all_eq_true.mp (hb c hcm).2 l hlm); omega)
          have hi2 : w_law_inside N.w [boxS b, boxS c] s = .ret (.sh (.bl (inB b c)), s) := hi1
          walk_at "U"
          repeat (simp only [hi2]; try walk_at "U")
      by_cases hany : bs.any (inB b) = true
      · refine Al.to (P := fun f => f = (.nx [some (.sh (.obj (c0 + 1))), some (.sh (.int (many : Nat))), some (.ow (.lst (w.map boxS))), some (.sh (boxS b)), x4.map .sh, x5.map .sh, x6.map .sh, none, none], s)) ?_ ?_
        · generalize eLcW (M := N) [7] (eVar N.w 0) _ _ _ = L7 at hin ⊢
          walk_at "A"
          repeat (simp only [hv1, hf1, hin, any_map, hany]; try walk_at "A")
          try rfl
        · rintro _ rfl
          have hTm2 : bareF bs m w = T := by
            have e : bareF bs (m + 1) (b :: w) = bareF bs m w := by show (if _ then _ else _) = _; rw [if_pos hany]
            rw [← e]; exact hTm
          refine .inl ⟨_, meas w, rfl, ?_, w, m, some (boxS b), x4, x5, x6, rfl, by omega, hTm2, hgw, ?_, rfl⟩
          · omega
          · cases w with
            | nil => trivial
            | cons c w => exact stk_less (Nat.le_succ _) hi.2
      · cases hok : openK b with
        | none =>
          have hTb : T = some b := by
            have e : bareF bs (m + 1) (b :: w) = some b := by show (if _ then _ else _) = _; rw [if_neg hany, hok]
            rw [← hTm, e]
          have h5l := openK_no gb hok
          refine Al.to (P := fun f => f = (.rt (.sh (ptS (b.map valN))), s)) ?_ (by
            rintro _ rfl
            exact .inr ⟨_, rfl, .inr ⟨b, hTb, rfl⟩⟩)
          have hgb := goodB_beg gb
          have hr1 := rng0_eqW (n := many) (by omega)
          have hroom : ∀ y2 y4 y5 y6, eLc (M := N.w) [5] (eI1 (M := N.w) rng1 (eVar N.w 1)) (gdName 5) (eCmpT (M := N.w) ltD (eSeen (M := N.w) (eFun (M := N.w) lenD (eCons (M := N.w) (eBinD (M := N.w) ixD (eVar N.w 3) (eVar N.w 5)) (eNil (M := N.w))))) (eC N.w (.int 5))) (eVar N.w 5) [some (.obj (c0 + 1)), some (.int (many : Nat)), y2, some (boxS b), y4, y5, y6, none, none] s = .ret (.fr (.lst []), s) := by
            intro y2 y4 y5 y6
            have hh := elc_fil (M := N.w) (s := s) (s' := s) (vs := [5]) (ei := eI1 (M := N.w) rng1 (eVar N.w 1)) (g := gdName 5) (et := eCmpT (M := N.w) ltD (eSeen (M := N.w) (eFun (M := N.w) lenD (eCons (M := N.w) (eBinD (M := N.w) ixD (eVar N.w 3) (eVar N.w 5)) (eNil (M := N.w))))) (eC N.w (.int 5))) (ee := eVar N.w 5) (ρ := [some (.obj (c0 + 1)), some (.int (many : Nat)), y2, some (boxS b), y4, y5, y6, none, none]) (List.range many) ixS (fun _ => false) ixS ?_ (by rw [List.length_range]; show _ ≤ 1000000; omega) fun j hj => ⟨_, rfl, ?_, fun h => by cases h⟩
            · rw [hh, List.filter_eq_nil_iff.mpr (fun _ _ h => by cases h)]; rfl
            · walk_at "U"
              repeat (simp only [hr1]; try walk_at "U")
              rfl
            · rw [List.mem_range] at hj
              have ha : atI (b.map D.str) ((j : Nat) : Int) = some (.str (atB b j)) := at_bx (by omega)
              have h5' : (atB b j).length = 5 := by
                have hjb : j < b.length := by omega
                have e2 : atB b j = b[j] := by
                  unfold atB
                  rw [List.getD_eq_getElem?_getD, List.getElem?_eq_getElem hjb]; rfl
                rw [e2]; exact h5l _ (List.getElem_mem hjb)
              have hbl : (atB b j).length ≤ big := by show _ ≤ 1000000; omega
              have hd : decide ((((atB b j).length : Nat) : Int) < 5) = false := decide_eq_false (by omega)
              simp only [boxS, ixS]
              walk_at "U"
              repeat (simp only [ha, hbl, hd]; try walk_at "U")
          have hpts : ∀ y2 y4 y5 y6, eLc (M := N.w) [7] (eItems (M := N.w) anyOf (eVar N.w 3)) (gdName 7) (eYes (M := N.w)) (eBinD (M := N.w) ixD (eSeen (M := N.w) (eCall (M := N.w) 1 (w_law_under N.w) [] (eCons (M := N.w) (eVar N.w 7) (eNil (M := N.w))))) (eC N.w (.int 0))) [some (.obj (c0 + 1)), some (.int (many : Nat)), y2, some (boxS b), y4, y5, y6, none, none] s = .ret (.fr (.lst (b.map fun l => .int (valN l))), s) := by
            intro y2 y4 y5 y6
            refine elc_map (M := N.w) b D.str (fun l => .int (valN l)) ?_ (by show _ ≤ 1000000; omega) fun l hlm => ⟨_, rfl, ?_⟩
            · walk_at "U"
              rfl
            · have hm5 : l ∈ begsN 5 := beg_mem (List.all_eq_true.mp hgb l hlm)
              obtain ⟨u1, u2⟩ := und5 l hm5 (h5l l hlm)
              have hu := under_eq (M := N.w) (s := s) l (by rw [h5l l hlm]; decide)
              rw [u1] at hu
              have hu2 : w_law_under N.w [.str l] s = .ret (.fr (.lst [.int (valN l)]), s) := by rw [hu]; simp only [List.map_cons, List.map_nil, u2]
              have h0 := at_head (D.int (valN l)) []
              walk_at "U"
              repeat (simp only [hu2, h0]; try walk_at "U")
          have htu : ptS (b.map valN) = .tup (b.map fun l => .int (valN l)) := by
            unfold ptS
            rw [List.map_map]; rfl
          have heq0 : eqO (.lst []) (.lst []) = some true := rfl
          rw [Bool.not_eq_true] at hany
          rw [htu]
          generalize eLcW (M := N) [7] (eVar N.w 0) _ _ _ = L7 at hin ⊢
          generalize eLc (M := N.w) [5] _ _ _ _ = L5 at hroom ⊢
          generalize eLc (M := N.w) [7] _ _ _ _ = L8 at hpts ⊢
          walk_at "A"
          repeat (simp only [hv1, hf1, hin, hroom, hpts, any_map, hany, heq0, tuple_lst]; try walk_at "A")
          try rfl
        | some k =>
          have hmm := half_meas gb hok w
          have f1 := half_facts gb hok 48 rfl
          have f2 := half_facts gb hok 49 rfl
          refine Al.to (P := fun f => ∃ y4 y5 y6 : Option D, f = (.nx [some (.sh (.obj (c0 + 1))), some (.sh (.int (many : Nat))), some (.ow (.lst ((halfB b k 48 :: halfB b k 49 :: w).map boxS))), some (.sh (boxS b)), y4.map .sh, y5.map .sh, y6.map .sh, none, none], s)) ?_ ?_
          · have hgb := goodB_beg gb
            have hr1 := rng0_eqW (n := many) (by omega)
            have hroom : ∀ y2 y4 y5 y6, eLc (M := N.w) [5] (eI1 (M := N.w) rng1 (eVar N.w 1)) (gdName 5) (eCmpT (M := N.w) ltD (eSeen (M := N.w) (eFun (M := N.w) lenD (eCons (M := N.w) (eBinD (M := N.w) ixD (eVar N.w 3) (eVar N.w 5)) (eNil (M := N.w))))) (eC N.w (.int 5))) (eVar N.w 5) [some (.obj (c0 + 1)), some (.int (many : Nat)), y2, some (boxS b), y4, y5, y6, none, none] s = .ret (.fr (.lst (((List.range many).filter (openB b)).map ixS)), s) := by
              intro y2 y4 y5 y6
              refine elc_fil (M := N.w) (List.range many) ixS (openB b) ixS ?_ (by rw [List.length_range]; show _ ≤ 1000000; omega) fun j hj => ⟨_, rfl, ?_, fun _ => ?_⟩
              · walk_at "U"
                repeat (simp only [hr1]; try walk_at "U")
                rfl
              · rw [List.mem_range] at hj
                have ha : atI (b.map D.str) ((j : Nat) : Int) = some (.str (atB b j)) := at_bx (by omega)
                have h5' := beg_len (atB_beg hgb j)
                have hbl : (atB b j).length ≤ big := by show _ ≤ 1000000; omega
                have hd : decide ((((atB b j).length : Nat) : Int) < 5) = openB b j := by
                  unfold openB
                  by_cases ho : (atB b j).length < 5
                  · rw [decide_eq_true ho, decide_eq_true (by omega)]
                  · rw [decide_eq_false ho, decide_eq_false (by omega)]
                simp only [boxS, ixS]
                walk_at "U"
                repeat (simp only [ha, hbl, hd]; try walk_at "U")
              · walk_at "U"
            obtain ⟨rest, hrest⟩ : ∃ rest, (List.range many).filter (openB b) = k :: rest := by
              have e : ((List.range many).filter (openB b)).head? = some k := by
                rw [List.head?_filter, ← hbn]; exact hok
              cases hfl2 : (List.range many).filter (openB b) with
              | nil => rw [hfl2] at e; cases e
              | cons a r => rw [hfl2] at e; cases e; exact ⟨r, rfl⟩
            rw [hrest] at hroom
            have hkm : k < many := by
              have : k ∈ (List.range many).filter (openB b) := by rw [hrest]; exact List.mem_cons_self ..
              exact List.mem_range.mp (List.mem_filter.mp this).1
            have hpr : plL 39 ((k :: rest).map ixS) = true := pl_ixsG 39 _
            have heq := eq_nilL hpr
            have hhalf : ∀ y2 y4 y6, eLc (M := N.w) [8] (eItems (M := N.w) anyOf (eC N.w (.str [48, 49]))) (gdName 8) (eYes (M := N.w)) (eSeen (M := N.w) (eBin (M := N.w) addD (eSeen (M := N.w) (eBin (M := N.w) addD (eSeen (M := N.w) (eSl (M := N.w) (eVar N.w 3) (eNoPt (M := N.w)) (ePt (M := N.w) (eVar N.w 5)))) (eTup (M := N.w) (eCons (M := N.w) (eSeen (M := N.w) (eBin (M := N.w) addD (eBinD (M := N.w) ixD (eVar N.w 3) (eVar N.w 5)) (eVar N.w 8))) (eNil (M := N.w)))))) (eSeen (M := N.w) (eSl (M := N.w) (eVar N.w 3) (ePt (M := N.w) (eSeen (M := N.w) (eBin (M := N.w) addD (eVar N.w 5) (eC N.w (.int 1))))) (eNoPt (M := N.w)))))) [some (.obj (c0 + 1)), some (.int (many : Nat)), y2, some (boxS b), y4, some (ixS k), y6, none, none] s = .ret (.fr (.lst [boxS (halfB b k 48), boxS (halfB b k 49)]), s) := by
              intro y2 y4 y6
              refine elc_map (M := N.w) [48, 49] (fun c => .str [c]) (fun c => boxS (halfB b k c)) ?_ (by decide) fun c hcm => ⟨_, rfl, ?_⟩
              · walk_at "U"
                rfl
              · have hlk : (atB b k).length ≤ 5 := beg_len (atB_beg hgb k)
                have q1 := add_ss (a := atB b k) (b := [c]) (by show _ + 1 ≤ 1000000; omega)
                have q2 := add_tt (a := (b.map D.str).take k) (b := [.str (atB b k ++ [c])]) (by rw [List.length_take, List.length_map]; show _ + 1 ≤ 1000000; omega)
                have q3 := add_tt (a := (b.map D.str).take k ++ [.str (atB b k ++ [c])]) (b := (b.map D.str).drop (k + 1)) (by rw [List.length_append, List.length_take, List.length_drop, List.length_map]; show _ + 1 + _ ≤ 1000000; omega)
                have hc1 : cutL (b.map D.str) (some ((k : Nat) + 1 : Int)) none = (b.map D.str).drop (k + 1) := by
                  rw [show ((k : Nat) + 1 : Int) = ((k + 1 : Nat) : Int) by omega, cut_from]
                have ha : atI (b.map D.str) ((k : Nat) : Int) = some (.str (atB b k)) := at_bx (by omega)
                simp only [boxS, ixS]
                walk_at "U"
                repeat (simp only [ha, q1, q2, q3, hc1]; try walk_at "U")
                rw [half_strs]
            have hadd : addD (.lst [boxS (halfB b k 48), boxS (halfB b k 49)]) (.lst (w.map boxS)) = some (.fr (.lst ((halfB b k 48 :: halfB b k 49 :: w).map boxS))) := by
              have : (halfB b k 48 :: halfB b k 49 :: w).map boxS = [boxS (halfB b k 48), boxS (halfB b k 49)] ++ w.map boxS := rfl
              rw [this]
              show (if _ then _ else _) = _
              rw [if_pos (by rw [List.length_map]; show 2 + w.length ≤ 1000000; omega)]
            have hk0 : atI ((k :: rest).map ixS) 0 = some (ixS k) := atI_hd _ _
            rw [Bool.not_eq_true] at hany
            have hflt : flatR (.fr (.lst (boxS (halfB b k 48) :: boxS (halfB b k 49) :: w.map boxS))) = true := flatL_boxes (halfB b k 48 :: halfB b k 49 :: w)
            have hset : ∀ (a b c d e f g h i j : Option VV), [a, b, c, d, e, f, g, h, i].set 2 j = [a, b, j, d, e, f, g, h, i] := fun _ _ _ _ _ _ _ _ _ _ => rfl
            have hemp : ((k :: rest).map ixS).isEmpty = false := rfl
            generalize eLcW (M := N) [7] (eVar N.w 0) _ _ _ = L7 at hin ⊢
            generalize eLc (M := N.w) [5] _ _ _ _ = L5 at hroom ⊢
            generalize eLc (M := N.w) [8] _ _ _ _ = L8 at hhalf ⊢
            generalize (k :: rest).map ixS = RK at *
            walk_at "A"
            repeat (simp only [hv1, hf1, hin, hroom, hhalf, any_map, hany, hadd, hk0, heq, hemp]; try walk_at "A")
            simp only [hflt, hfl, Bool.and_self, Bool.or_true, if_true, hset]
            exact ⟨some (.lst RK), some (ixS k), some (.lst [boxS (halfB b k 48), boxS (halfB b k 49)]), rfl⟩
          · rintro _ ⟨y4, y5, y6, rfl⟩
            have hTm2 : bareF bs m (halfB b k 48 :: halfB b k 49 :: w) = T := by
              have e : bareF bs (m + 1) (b :: w) = bareF bs m (halfB b k 48 :: halfB b k 49 :: w) := by show (if _ then _ else _) = _; rw [if_neg hany, hok]
              rw [← e]; exact hTm
            refine .inl ⟨_, meas (halfB b k 48 :: halfB b k 49 :: w), rfl, by omega, halfB b k 48 :: halfB b k 49 :: w, m, some (boxS b), y4, y5, y6, rfl, by omega, hTm2, fun c hcm => ?_, ?_, rfl⟩
            · rcases List.mem_cons.mp hcm with e | hcm
              · rw [e]; exact ⟨f1.1, f1.2.1.trans hbn⟩
              rcases List.mem_cons.mp hcm with e | hcm
              · rw [e]; exact ⟨f2.1, f2.2.1.trans hbn⟩
              exact hgw c hcm
            · show vol (halfB b k 48) ≤ vol (halfB b k 49) ∧ stk (vol (halfB b k 49) + 1) w
              refine ⟨by omega, ?_⟩
              rw [← f2.2.2.1]
              exact hi
end
section
variable {K : PySem.W.Frag} {M : WM K} {s : M.S}
theorem lc_alX {α β : Type} {g : D → Dv → Option Dv} {ee : Ev M D} {ρ : Dv} {Ex : Exc × M.S → Prop} (inj : α → D) (G : β → D) (Q : α → β → Prop) : ∀ (xs : List α) (acc : List β), acc.length + xs.length ≤ big → (∀ x ∈ xs, ∃ ρ1, g (inj x) ρ = some ρ1 ∧ Al (ee ρ1 s) (fun r => ∃ y, Q x y ∧ r = (G y, s)) (fun _ => False)) → Al (lcG g eYes ee ρ (xs.map inj) (acc.map G) s) (fun r => ∃ ys : List β, ys.length = xs.length ∧ (∀ z ∈ xs.zip ys, Q z.1 z.2) ∧ r = (.fr (.lst ((acc ++ ys).map G)), s)) Ex
  | [], acc, _, _ => .ret ⟨[], rfl, fun z hz => (by cases hz), by rw [List.append_nil]⟩
  | x :: xs, acc, hl, h => by
    obtain ⟨ρ1, e1, e2⟩ := h x (List.mem_cons_self ..)
    have hb : (acc.map G).length < big := by rw [List.length_map]; rw [List.length_cons] at hl; omega
    rw [List.map_cons]
    unfold lcG
    rw [e1]
    show Al ((ee ρ1 s).noX.bind fun y => if (acc.map G).length < big then lcG g eYes ee ρ (xs.map inj) ((acc.map G) ++ [y.1]) y.2 else .bad) _ _
    refine Al.bnoX (P := fun r => ∃ y, Q x y ∧ r = (G y, s)) e2 fun r hr => ?_
    obtain ⟨y, hQ, hr⟩ := hr
    subst hr
    show Al (if (acc.map G).length < big then lcG g eYes ee ρ (xs.map inj) ((acc.map G) ++ [G y]) s else .bad) _ _
    rw [if_pos hb, show acc.map G ++ [G y] = (acc ++ [y]).map G by simp]
    refine (lc_alX inj G Q xs (acc ++ [y]) (by rw [List.length_append]; rw [List.length_cons] at hl; simp; omega) fun z hz => h z (List.mem_cons_of_mem _ hz)).to fun r hr => ?_
    obtain ⟨ys, k1, k2, e⟩ := hr
    refine ⟨y :: ys, by rw [List.length_cons, List.length_cons, k1], fun z hz => ?_, by rw [e]; simp⟩
    rw [List.zip_cons_cons] at hz
    rcases List.mem_cons.mp hz with e | hz
    · rw [e]; exact hQ
    · exact k2 z hz
theorem elc_alX {α β : Type} {vs : List Nat} {ei : Ev M (List D)} {g : D → Dv → Option Dv} {ee : Ev M D} {ρ : Dv} {s' : M.S} {Ex : Exc × M.S → Prop} (xs : List α) (inj : α → D) (G : β → D) (Q : α → β → Prop) (he : ei ρ s' = .ret (xs.map inj, s)) (hl : xs.length ≤ big) (h : ∀ x ∈ xs, ∃ ρ1, g (inj x) (wipeD vs ρ) = some ρ1 ∧ Al (ee ρ1 s) (fun r => ∃ y, Q x y ∧ r = (G y, s)) (fun _ => False)) : Al (eLc vs ei g eYes ee ρ s') (fun r => ∃ ys : List β, ys.length = xs.length ∧ (∀ z ∈ xs.zip ys, Q z.1 z.2) ∧ r = (.fr (.lst (ys.map G)), s)) Ex := by
  unfold eLc
  rw [he]
  exact (lc_alX inj G Q xs [] (by simpa using hl) h).to fun r hr => hr
end
section
theorem zip_take {b ys : List (List Nat)} (h : ∀ z ∈ b.zip ys, ∃ k : Nat, z.2 = z.1.take k) : (b.zip ys).all (fun x => x.1.take x.2.length == x.2) = true := by
  rw [List.all_eq_true]
  intro z hz
  obtain ⟨k, e⟩ := h z hz
  rw [e, List.length_take, beq_iff_eq]
  by_cases hk : k ≤ z.1.length
  · rw [Nat.min_eq_left hk]
  · rw [Nat.min_eq_right (by omega), List.take_of_length_le (Nat.le_refl _), List.take_of_length_le (by omega)]
theorem zip_sub {b ys : List (List Nat)} (hl : ys.length = b.length) (h : ∀ z ∈ b.zip ys, ∃ k : Nat, z.2 = z.1.take k) : ∀ y ∈ ys, ∃ l ∈ b, ∃ k : Nat, y = l.take k := fun y hy => by
  obtain ⟨i, hi, e⟩ := List.mem_iff_getElem.mp hy
  have hib : i < b.length := by omega
  have hz : (b.zip ys)[i]? = some (b[i], ys[i]) := by
    rw [List.getElem?_zip_eq_some]
    exact ⟨List.getElem?_eq_getElem hib, List.getElem?_eq_getElem hi⟩
  obtain ⟨k, hk⟩ := h _ (List.mem_of_getElem? hz)
  exact ⟨b[i], List.getElem_mem hib, k, by rw [← e]; exact hk⟩
theorem pref_box {many : Nat} (h1 : 1 ≤ many) (h5 : many ≤ 5) {pile : List Bx} (hg : goodP5 many pile) {b ys : Bx} (gb : goodB b = true) (hf : full many b) (hn : pile.any (inB b) = false) (hl : ys.length = b.length) (h : ∀ z ∈ b.zip ys, ∃ k : Nat, z.2 = z.1.take k) :
    goodB ys = true ∧ ys.length = many ∧ pile.any (inB ys) = false := by
  have hym : ys.length = many := by rw [hl]; exact hf.1
  have hb : ys.all beg = true := by
    rw [List.all_eq_true]
    intro y hy
    obtain ⟨l, hlm, k, e⟩ := zip_sub hl h y hy
    rw [e]
    exact beg_take (List.all_eq_true.mp (goodB_beg gb) l hlm) k
  refine ⟨goodB_of (by omega) (by omega) hb, hym, ?_⟩
  rw [Bool.eq_false_iff]
  intro ha
  obtain ⟨q, hq, hi⟩ := List.any_eq_true.mp ha
  have : pile.any (inB b) = true := List.any_eq_true.mpr ⟨q, hq, inB_trans hl.symm (by rw [hym, (hg q hq).2]) (zip_take h) hi⟩
  rw [hn] at this
  cases this
def insD (many q : Nat) : Option Cell := some (.ins "Store" [("places", .int (many : Nat)), ("pile", .obj q)])
def lsC (l : List Bx) : Option Cell := some (.lst (l.map boxS))
def S9 (many : Nat) (pile : List Bx) : Ost := [insD many 2, lsC pile, lsC pile, insD many 6, some (.lst []), lsC pile, insD many 9, some (.lst []), lsC pile]
def S14 (many : Nat) (pile p1 p2 : List Bx) : Ost := [insD many 2, lsC pile, lsC pile, insD many 6, some (.lst []), lsC p1, insD many 9, some (.lst []), lsC pile, lsC p1, lsC p2, insD many 14, some (.lst []), lsC p2]
theorem lsC_flat (l : List Bx) : flatC (lsC l) = true := flatL_boxes l
theorem S14_flat (many : Nat) (pile p1 p2 : List Bx) : (S14 many pile p1 p2).all flatC = true := by
  have h := lsC_flat
  have hi : ∀ q, flatC (insD many q) = true := fun _ => rfl
  have h0 : flatC (some (.lst [])) = true := rfl
  simp only [S14, List.all_cons, List.all_nil, h, hi, h0, Bool.and_true]
theorem okS_oPt (o : Option Bx) (h : ∀ b, o = some b → b.length ≤ 1000) : okS 5 (oPt o) = true := by
  cases o with
  | none => rfl
  | some b =>
    show (decide (((b.map valN).map D.int).length ≤ 1000) && okSs 4 ((b.map valN).map .int)) = true
    rw [List.length_map, List.length_map, decide_eq_true (h b rfl), Bool.true_and]
    generalize b.map valN = l
    induction l with
    | nil => rfl
    | cons x l ih => exact ih
end
end VK
local macro_rules | `(tactic| walk_at "U") => `(tactic| simp! [VQ.runD, VQ.sSeq, VQ.sThen, VQ.sIf, List.contains_cons, List.contains_nil, Nat.reduceBEq, VK.v1_on, VK.f1_on, VQ.isnotD, Bool.false_or])
local macro_rules | `(tactic| walk_at "A") => `(tactic| simp! [Int.reduceBEq, Int.reduceLT, Int.reduceLE, Int.reduceNeg, Nat.reduceBEq, List.contains_cons, List.contains_nil, VK.al_ret_eq, VK.al_seq_eq, VK.al_then_nx, VQ.sIf, VK.v1_on, VK.f1_on, VQ.isnotD, Bool.false_or])
namespace VK
open PySem PySem.Spec PyProof.Rows L2 VQ
section
variable {K : PySem.W.Frag} {N : OM K} {s : N.w.S} {pull : Dfs N.w}
def S11 (many : Nat) (pile : List Bx) : Ost := [insD many 2, lsC pile, lsC pile, insD many 6, some (.lst []), lsC pile, insD many 9, some (.lst []), lsC pile, lsC pile, lsC pile]
def frA (many : Nat) (x7 x8 x9 x10 : Option D) : Nv := [some (.sh (.obj 0)), some (.sh (.obj 4)), some (.sh (.obj 7)), some (.sh (.obj 3)), some (.sh (.int (many : Nat))), some (.sh (.lst [.obj 10, .obj 11])), some (.ow (.lst [.obj 4, .obj 12])), x7.map .sh, x8.map .sh, x9.map .sh, x10.map .sh, none, none]
theorem cellLst {ρ : Dv} {t : N.w.S} {i : Nat} {d : D} {l : List D} {n : D} (h1 : eVar N.w i ρ s = .ret (d, s)) (h2 : drf (s : Ost) d = .lst l) (hf : flatL l = true) (h3 : stAdd (s : Ost) (.lst l) = t) (h4 : nwD (s : Ost) = n) : eCell (M := N) (eFunU (M := N) listD (eCons (M := N.w) (eVar N.w i) (eNil (M := N.w)))) ρ s = .ret (n, t) := by
  have hl : listD [.lst l] = some (.fr (.lst l)) := rfl
  have hfr : flatR (.fr (.lst l)) = true := hf
  unfold eCell eFunU
  simp only [eCons, eNil, h1, G.bind_ret, List.map_cons, List.map_nil, h2, hl, opF, hfr, if_true, VQ.cellOf, h3, h4]
theorem stepD10 (hp : PullOk pull) {many : Nat} (h1 : 1 ≤ many) (h2 : many ≤ 2) {k a p c : Nat} {pk : List Bx} {DU : List D} (hg : goodP5 many pk) (hl : pk.length < 900) (hfl : N.w.flat s = true)
    (hrow : atI [D.obj 10, D.obj 11] ((k : Nat) : Int) = some (.obj (c + 1))) (hsto : atI [D.obj 4, D.obj 12] ((k : Nat) : Int) = some (.obj (a + 1))) (hdu : atI DU ((k : Nat) : Int) = some (oPt (bareR pk many))) (hst : StA a p (s : Ost) many pk)
    (hls : ∀ l : List Bx, lstAt (stSet (s : Ost) p (.lst (l.map boxS))) (.obj (c + 1)) = some (pk.map boxS)) (x7 x10 : Option D) :
    Al ((sIf (M := N.w) [] (eCmpT (M := N.w) isnotD (eBinD (M := N.w) ixD (eVar N.w 9) (eVar N.w 8)) (eC N.w .non)) (sSeq (M := N.w) (sSet (M := N.w) 10 [] (eSh (M := N.w) (eSeen (M := N.w) (eFun (M := N.w) tupleD (eCons (M := N.w) (eSeen (M := N.w) (eLc (M := N.w) [12] (eItems (M := N.w) anyOf (eSeen (M := N.w) (eCall (M := N.w) 1 (w_law_box_of N.w) [] (eCons (M := N.w) (eBinD (M := N.w) ixD (eVar N.w 9) (eVar N.w 8)) (eNil (M := N.w)))))) (gdName 12) (eYes (M := N.w)) (eSeen (M := N.w) (eSl (M := N.w) (eVar N.w 12) (eNoPt (M := N.w)) (ePt (M := N.w) (eSeen (M := N.w) (eCall (M := N.w) 2 pull [] (eCons (M := N.w) (eVar N.w 0) (eCons (M := N.w) (eC N.w (.int 6)) (eNil (M := N.w))))))))))) (eNil (M := N.w)))))))
    (sSeq (M := N.w) (sIf (M := N.w) [6] (eNot (M := N.w) (eTest (M := N.w) truD (eSeen (M := N.w) (eMeth (M := N) "Store" 2 (w_Store_put N) [] (eBinD (M := N.w) ixD (eVar N.w 6) (eVar N.w 8)) (eCons (M := N.w) (eVar N.w 10) (eNil (M := N.w))))))) (sRet (M := N.w) [] (eSh (M := N.w) (eC N.w (.bl false)))) (sNil (M := N.w)))
    (sDrop (M := N.w) [] (eSh (M := N.w) (eAppW (M := N) (eBinD (M := N.w) ixD (eVar N.w 5) (eVar N.w 8)) (eVar N.w 10)))))) (sNil (M := N.w))) (frA many x7 (some (.int (k : Nat))) (some (.lst DU)) x10) s)
      (fun f => f = (.nx (frA many x7 (some (.int (k : Nat))) (some (.lst DU)) x10), s) ∨ ∃ (ys : Bx) (t : N.w.S), goodB ys = true ∧ ys.length = many ∧ (t : Ost) = setLst (stSet (s : Ost) p (.lst ((pk ++ [ys]).map boxS))) (.obj (c + 1)) ((pk ++ [ys]).map boxS) ∧ f = (.nx (frA many x7 (some (.int (k : Nat))) (some (.lst DU)) (some (boxS ys))), t)) (fun _ => False) := by
  have hv1 : ∀ (m : List Nat) (i : Nat) (x : Option D), view1 m i (x.map VV.sh) = x := fun m i x => by cases x <;> rfl
  have hf1 : ∀ (m : List Nat) (i : Nat) (x : Option D), frz1 m i (x.map VV.sh) = x.map VV.sh := fun m i x => by cases x <;> rfl
  have h6p : ∀ s, pull [.obj 0, .int 6] s = _ := hp 6 (by decide) (by decide)
  cases hb : bareR pk many with
  | none =>
    rw [hb] at hdu
    have hdu2 : atI DU ((k : Nat) : Int) = some .non := hdu
    have hnn : isnotD .non .non = some false := rfl
    unfold frA
    walk_at "A"
    repeat (simp only [hv1, hf1, hdu2, hnn]; try walk_at "A")
    first | exact .inl rfl | exact .inl trivial
  | some b =>
    rw [hb] at hdu
    obtain ⟨gb, hfull, hnone⟩ := bareR_some h1 (by omega) hb
    have hdu2 : atI DU ((k : Nat) : Int) = some (ptS (b.map valN)) := hdu
    have hnn : isnotD (ptS (b.map valN)) .non = some true := rfl
    have hbo := lawBoxOf_eq (M := N.w) (s := s) (b.map valN) (by rw [List.length_map, hfull.1]; omega)
    rw [(full_pt h1 (by omega) hfull).2.1] at hbo
    have hany : anyOf (boxS b) = some (b.map D.str) := rfl
    have hbl : b.length ≤ 5 := by rw [hfull.1]; omega
    have hlc : ∀ (y1 y2 y3 y4 y5 y6 y7 y10 y11 : Option D), Al (eLc (M := N.w) [12] (eItems (M := N.w) anyOf (eSeen (M := N.w) (eCall (M := N.w) 1 (w_law_box_of N.w) [] (eCons (M := N.w) (eBinD (M := N.w) ixD (eVar N.w 9) (eVar N.w 8)) (eNil (M := N.w)))))) (gdName 12) (eYes (M := N.w)) (eSeen (M := N.w) (eSl (M := N.w) (eVar N.w 12) (eNoPt (M := N.w)) (ePt (M := N.w) (eSeen (M := N.w) (eCall (M := N.w) 2 pull [] (eCons (M := N.w) (eVar N.w 0) (eCons (M := N.w) (eC N.w (.int 6)) (eNil (M := N.w))))))))) [some (.obj 0), y1, y2, y3, y4, y5, y6, y7, some (.int (k : Nat)), some (.lst DU), y10, y11, none] s) (fun r => ∃ ys : List (List Nat), ys.length = b.length ∧ (∀ z ∈ b.zip ys, ∃ n : Nat, z.2 = z.1.take n) ∧ r = (.fr (.lst (ys.map D.str)), s)) (fun _ => False) := by
      intro y1 y2 y3 y4 y5 y6 y7 y10 y11
      refine elc_alX (M := N.w) (s := s) (s' := s) b D.str D.str (fun l y => ∃ n : Nat, y = l.take n) ?_ (by show _ ≤ 1000000; omega) fun l hlm => ⟨_, rfl, ?_⟩
      · walk_at "U"
        repeat (simp only [hdu2, hbo, hany]; try walk_at "U")
      · have h5l := (hfull.2 l hlm).1
        walk_at "A"
        repeat (simp only [h6p]; try walk_at "A")
        refine .draw (by decide) fun n hn => ?_
        have hct : cutL l none (some ((n : Nat) : Int)) = l.take n := cut_to l n
        try walk_at "A"
        have hlb : l.length ≤ big := by rw [h5l]; show 5 ≤ 1000000; decide
        repeat (simp only [hct, hlb, if_true]; try walk_at "A")
        exact ⟨l.take n, ⟨n, rfl⟩, rfl⟩
    generalize eLc (M := N.w) [12] (eItems (M := N.w) anyOf (eSeen (M := N.w) (eCall (M := N.w) 1 (w_law_box_of N.w) [] (eCons (M := N.w) (eBinD (M := N.w) ixD (eVar N.w 9) (eVar N.w 8)) (eNil (M := N.w)))))) (gdName 12) (eYes (M := N.w)) (eSeen (M := N.w) (eSl (M := N.w) (eVar N.w 12) (eNoPt (M := N.w)) (ePt (M := N.w) (eSeen (M := N.w) (eCall (M := N.w) 2 pull [] (eCons (M := N.w) (eVar N.w 0) (eCons (M := N.w) (eC N.w (.int 6)) (eNil (M := N.w))))))))) = LC at hlc ⊢
    have hcs := hst.cls
    unfold frA
    walk_at "A"
    repeat (simp only [hv1, hf1, hdu2, hnn]; try walk_at "A")
    refine Al.btox (hlc _ _ _ _ _ _ _ _ _) fun r hr => ?_
    obtain ⟨ys, k1, k2, e⟩ := hr
    subst e
    obtain ⟨gy, hym, hyn⟩ := pref_box h1 (by omega) hg gb hfull hnone k1 k2
    have hput := put_A hst ys gy hym (fun q hq => (hg q hq).2) (by omega)
    rw [hyn, if_neg (by decide)] at hput
    have hyS : D.tup (ys.map D.str) = boxS ys := rfl
    have hps : (pk.map boxS).length < big := by rw [List.length_map]; show _ < 1000000; omega
    obtain ⟨t1, ht1⟩ : ∃ t1 : N.w.S, t1 = (stSet (s : Ost) p (.lst ((pk ++ [ys]).map boxS)) : Ost) := ⟨_, rfl⟩
    obtain ⟨t2, ht2⟩ : ∃ t2 : N.w.S, t2 = (setLst (stSet (s : Ost) p (.lst ((pk ++ [ys]).map boxS))) (.obj (c + 1)) ((pk ++ [ys]).map boxS) : Ost) := ⟨_, rfl⟩
    have hput1 : w_Store_put N [.obj (a + 1), boxS ys] s = .ret (.sh (.bl true), t1) := by rw [ht1]; exact hput
    have hfl1 : N.w.flat t1 = true := by rw [ht1]; exact flat_put hfl _
    have hls2 : lstAt (t1 : Ost) (.obj (c + 1)) = some (pk.map boxS) := by rw [ht1]; exact hls _
    have hset : setLst (t1 : Ost) (.obj (c + 1)) (pk.map boxS ++ [boxS ys]) = t2 := by rw [ht1, ht2, List.map_append]; rfl
    walk_at "A"
    simp only [tuple_lst, hyS]
    walk_at "A"
    repeat (simp only [hv1, hf1, hsto, hrow, eMeth, hcs, hput1, eAppW, hls2, hps, hfl, hfl1, hset, tuple_lst, hyS, List.isEmpty_cons, Bool.false_or, if_true]; try walk_at "A")
    exact .inr ⟨ys, t2, gy, hym, ht2, rfl⟩
end
end VK
local macro_rules | `(tactic| walk_at "U") => `(tactic| simp! [VQ.runD, VQ.sSeq, VQ.sThen, VQ.sIf, VQ.sPar, and_self, true_and, List.contains_cons, List.contains_nil, Nat.reduceBEq, VK.v1_on, VK.f1_on, VQ.G.exs_draw, VK.lb2, VK.lb3, VK.add_ll, VQ.isnotD, Bool.false_or])
local macro_rules | `(tactic| walk_at "A") => `(tactic| simp! [Int.reduceBEq, Int.reduceLT, Int.reduceLE, Int.reduceNeg, Nat.reduceBEq, List.contains_cons, List.contains_nil, VK.al_ret_eq, VK.al_then_nx, VK.retP_rt, VK.al_run_eq, VQ.sIf, VQ.sPar, and_self, true_and, VK.v1_on, VK.f1_on, VQ.G.exs_draw, VK.lb2, VK.lb3, VK.add_ll, VQ.isnotD, Bool.false_or])
namespace VK
open PySem PySem.Spec PyProof.Rows L2 VQ
section
theorem good_snoc {many : Nat} {pile : List Bx} {b : Bx} (h : goodP5 many pile) (gb : goodB b = true) (hb : b.length = many) : goodP5 many (pile ++ [b]) := fun q hq => by
  rcases List.mem_append.mp hq with h2 | h2
  · exact h q h2
  · rw [List.mem_singleton.mp h2]; exact ⟨gb, hb⟩
theorem ne_pile_refl {l : List Bx} (h : ∀ q ∈ l, goodB q = true) : eqO (.lst (l.map boxS)) (.lst (l.map boxS)) = some true := by
  rw [eqO_pile h h, show eqD (.lst (l.map boxS)) (.lst (l.map boxS)) = true from eqD_pile l]
theorem okS_oPtN (n : Nat) (o : Option Bx) (h : ∀ b, o = some b → b.length ≤ 1000) : okS (n + 2) (oPt o) = true := by
  cases o with
  | none => rfl
  | some b =>
    show (decide (((b.map valN).map D.int).length ≤ 1000) && okSs (n + 1) ((b.map valN).map .int)) = true
    rw [List.length_map, List.length_map, decide_eq_true (h b rfl), Bool.true_and]
    generalize b.map valN = l
    induction l with
    | nil => rfl
    | cons x l ih => exact ih
variable {K : PySem.W.Frag} {N : OM K} {s : N.w.S} {pull : Dfs N.w}
theorem apart_al (hp : PullOk pull) {many : Nat} (h1 : 1 ≤ many) (h2 : many ≤ 2) {pile : List Bx} (hg : goodP5 many pile) (hl : pile.length ≤ 6) (hs : s = ((S9 many pile) : Ost)) : Al (w_law_bare_apart N pull [.obj 0, .obj 4, .obj 7, .obj 3, .int (many : Nat)] s) (fun r => r.1 = .sh (.bl true) ∧ ∃ p1 p2, (r.2 : Ost) = S14 many pile p1 p2) (fun _ => False) := by
  have hv1 : ∀ (m : List Nat) (i : Nat) (x : Option D), view1 m i (x.map VV.sh) = x := fun m i x => by cases x <;> rfl
  have hf1 : ∀ (m : List Nat) (i : Nat) (x : Option D), frz1 m i (x.map VV.sh) = x.map VV.sh := fun m i x => by cases x <;> rfl
  have hr5 : rng1 (.int 5) = some ((List.range 5).map fun (k : Nat) => D.int (k : Nat)) := rng0_eqW (n := 5) (by decide)
  obtain ⟨t1, ht1⟩ : ∃ t1 : N.w.S, t1 = (S9 many pile ++ [lsC pile] : Ost) := ⟨_, rfl⟩
  obtain ⟨t2, ht2⟩ : ∃ t2 : N.w.S, t2 = ((S11 many pile) : Ost) := ⟨_, rfl⟩
  have hd9 : drf (s : Ost) (.obj 3) = .lst (pile.map boxS) := by rw [hs]; rfl
  have hd10 : drf (t1 : Ost) (.obj 3) = .lst (pile.map boxS) := by rw [ht1]; rfl
  have hlst : listD [.lst (pile.map boxS)] = some (.fr (.lst (pile.map boxS))) := rfl
  have hfl0 : flatR (.fr (.lst (pile.map boxS))) = true := flatL_boxes pile
  unfold w_law_bare_apart s_law_bare_apart
  rw [al_run_eq]
  refine al_seq (Al.to (P := fun f => f = (.nx [some (.sh (.obj 0)), some (.sh (.obj 4)), some (.sh (.obj 7)), some (.sh (.obj 3)), some (.sh (.int (many : Nat))), some (.sh (.lst [.obj 10, .obj 11])), some (.ow (.lst [.obj 4, .obj 7])), none, none, none, none, none, none], t2)) ?_ ?_)
  · have hst1 : stAdd (s : Ost) (.lst (pile.map boxS)) = t1 := by rw [hs, ht1]; rfl
    have hst2 : stAdd (t1 : Ost) (.lst (pile.map boxS)) = t2 := by rw [ht1, ht2]; rfl
    have hn1 : nwD (s : Ost) = .obj 10 := by rw [hs]; rfl
    have hn2 : nwD (t1 : Ost) = .obj 11 := by rw [ht1]; rfl
    walk_at "A"
    rw [cellLst (t := t1) (n := .obj 10) rfl hd9 (flatL_boxes pile) hst1 hn1]
    walk_at "A"
    rw [cellLst (t := t2) (n := .obj 11) rfl hd10 (flatL_boxes pile) hst2 hn2]
    walk_at "A"
    repeat (simp only [hd9, hd10, hlst, hfl0, opF, VQ.cellOf, hst1, hst2, hn1, hn2, List.map_cons, List.map_nil, if_true]; try walk_at "A")
    try rfl
  rintro _ rfl
  rw [al_then_nx]
  obtain ⟨t3, ht3⟩ : ∃ t3 : N.w.S, t3 = ((S14 many pile pile pile) : Ost) := ⟨_, rfl⟩
  have hst0 : StA 3 5 (t2 : Ost) many pile := by rw [ht2]; exact ⟨rfl, rfl, by decide⟩
  have htw : w_Store_twin N [.obj 4] t2 = .ret (.sh (.obj 12), t3) := (twin_A (N := N) (s := t2) hst0).trans (by rw [ht3, ht2]; rfl)
  refine al_seq (Al.to (P := fun f => f = (.nx (frA many none none none none), t3)) ?_ ?_)
  · have hcl := hst0.cls
    have hix : ixN 2 1 = some 1 := rfl
    unfold sStore eP2
    walk_at "A"
    repeat (simp only [eMeth, hcl, htw, hix]; try walk_at "A")
    try rfl
  rintro _ rfl
  rw [al_then_nx]
  refine al_seq (Al.to (P := fun f => ∃ (x7 x8 x9 x10 : Option D) (p1 p2 : List Bx), f.1 = .nx (frA many x7 x8 x9 x10) ∧ (f.2 : Ost) = S14 many pile p1 p2) (for_alp (s' := t3) (List.range 5) (fun j => .int (j : Nat)) (fun pr ρ t' => ∃ (x7 x8 x9 x10 : Option D) (p1 p2 : List Bx), (t' : Ost) = S14 many pile p1 p2 ∧ goodP5 many p1 ∧ goodP5 many p2 ∧ p1.length ≤ 6 + pr.length ∧ p2.length ≤ 6 + pr.length ∧ ρ = frA many x7 x8 x9 x10) ?e ⟨none, none, none, none, pile, pile, ht3, hg, hg, by simpa using hl, by simpa using hl, rfl⟩ ?h ?k0) ?k)
  case e =>
    unfold frA
    walk_at "U"
    repeat (simp only [hr5]; try walk_at "U")
  case k0 =>
    rintro ρ t' ⟨x7, x8, x9, x10, p1, p2, e, _, _, _, _, hρ⟩
    exact ⟨x7, x8, x9, x10, p1, p2, by rw [hρ], e⟩
  case k =>
    rintro ⟨f1, t4⟩ ⟨x7, x8, x9, x10, p1, p2, e, ht4⟩
    have e : f1 = _ := e
    subst e
    have ht4 : (t4 : Ost) = S14 many pile p1 p2 := ht4
    rw [al_then_nx]
    have hso : StA 6 8 (t4 : Ost) many pile := by rw [ht4]; exact ⟨rfl, rfl, by decide⟩
    have hfl : N.w.flat t4 = true := by rw [ht4]; exact S14_flat _ _ _ _
    have hcl := hso.cls
    have hbx := boxes_A (N := N) (s := t4) hso
    have hba := bareA_eq (N := N) (s := t4) hso hfl h1 (by omega) (fun q hq => (hg q hq).2)
    have hlk : lstAt (t4 : Ost) (.obj (2 + 1)) = some (pile.map boxS) := by rw [ht4]; rfl
    have hlb := lawBareW (N := N) (s := t4) (bs := pile) (many := many) (c0 := 2) h1 (by omega) (fun b hb => ⟨(hg b hb).2, goodB_beg (hg b hb).1⟩) (by omega) hfl hlk
    have hd1 : drf (t4 : Ost) (.lst (pile.map boxS)) = .lst (pile.map boxS) := rfl
    have hd2 : drf (t4 : Ost) (.obj 3) = .lst (pile.map boxS) := by rw [ht4]; rfl
    have heq : eqO (.lst (pile.map boxS)) (.lst (pile.map boxS)) = some true := by
      have := ne_pile_refl (fun q hq => (hg q hq).1)
      exact this
    have hok : okS 6 (oPt (bareR pile many)) = true := okS_oPtN 4 _ fun b hb => by
      have := (bareR_some h1 (by omega) hb).2.1.1
      omega
    have hsm := same_refl (M := N.w) (s := t4) 6 (oPt (bareR pile many)) hok
    generalize oPt (bareR pile many) = OB at *
    unfold frA
    walk_at "A"
    have hfb : flatR (.sh (.bl true)) = true := rfl
    have hcl7 : (clsAt (t4 : Ost) (.obj 7) == some ("Store" : PySem.Str)) = true := hcl
    have hba7 : w_Store_bare N [.obj 7] t4 = .ret (.sh OB, t4) := hba
    have hbx7 : w_Store_boxes N [.obj 7] t4 = .ret (.fr (.lst (pile.map boxS)), t4) := hbx
    repeat (simp only [hv1, hf1, eMeth, hcl7, hbx7, hba7, eBinUD, hd1, hd2, blD, heq, opF, hfb, if_true]; try walk_at "A")
    refine Al.btox hlb fun r hr => ?_
    subst hr
    walk_at "A"
    repeat (simp only [hv1, hf1, hsm]; try walk_at "A")
    exact ⟨p1, p2, ht4⟩
  case h =>
    rintro pr j post hpr ρ t' ⟨x7, x8, x9, x10, p1, p2, ht', g1, g2, l1, l2, hρ⟩
    subst hρ
    have hprl : pr.length < 5 := by have := congrArg List.length hpr; simp at this; omega
    refine ⟨frA many (some (.int (j : Nat))) x8 x9 x10, rfl, ?_⟩
    have h2p : ∀ s, pull [.obj 0, .int 2] s = _ := hp 2 (by decide) (by decide)
    have hfl : N.w.flat t' = true := by rw [ht']; exact S14_flat _ _ _ _
    have hs1 : StA 3 5 (t' : Ost) many p1 := by rw [ht']; exact ⟨rfl, rfl, by decide⟩
    have hs2 : StA 11 13 (t' : Ost) many p2 := by rw [ht']; exact ⟨rfl, rfl, by decide⟩
    refine al_seq (Al.to (P := fun f => ∃ k : Nat, k < 2 ∧ f = (.nx (frA many (some (.int (j : Nat))) (some (.int (k : Nat))) x9 x10), t')) ?_ ?_)
    · unfold frA
      walk_at "A"
      repeat (simp only [hv1, hf1, h2p]; try walk_at "A")
      refine .draw (by decide) fun k hk => ?_
      try walk_at "A"
      repeat (simp only [hv1, hf1]; try walk_at "A")
      exact ⟨k, hk, rfl⟩
    rintro _ ⟨k, hk, rfl⟩
    rw [al_then_nx]
    have hb1 := bareA_eq (N := N) (s := t') hs1 hfl h1 (by omega) (fun q hq => (g1 q hq).2)
    have hb2 := bareA_eq (N := N) (s := t') hs2 hfl h1 (by omega) (fun q hq => (g2 q hq).2)
    have hk1 : lstAt (t' : Ost) (.obj (9 + 1)) = some (p1.map boxS) := by rw [ht']; rfl
    have hk2 : lstAt (t' : Ost) (.obj (10 + 1)) = some (p2.map boxS) := by rw [ht']; rfl
    have hw1 := lawBareW (N := N) (s := t') (bs := p1) (many := many) (c0 := 9) h1 (by omega) (fun b hb => ⟨(g1 b hb).2, goodB_beg (g1 b hb).1⟩) (by omega) hfl hk1
    have hw2 := lawBareW (N := N) (s := t') (bs := p2) (many := many) (c0 := 10) h1 (by omega) (fun b hb => ⟨(g2 b hb).2, goodB_beg (g2 b hb).1⟩) (by omega) hfl hk2
    have ho1 : okS 5 (oPt (bareR p1 many)) = true := okS_oPt _ fun b hb => by
      have := (bareR_some h1 (by omega) hb).2.1.1
      omega
    have ho2 : okS 5 (oPt (bareR p2 many)) = true := okS_oPt _ fun b hb => by
      have := (bareR_some h1 (by omega) hb).2.1.1
      omega
    obtain ⟨B1, hB1⟩ : ∃ B1, B1 = oPt (bareR p1 many) := ⟨_, rfl⟩
    obtain ⟨B2, hB2⟩ : ∃ B2, B2 = oPt (bareR p2 many) := ⟨_, rfl⟩
    rw [← hB1] at hb1 hw1 ho1
    rw [← hB2] at hb2 hw2 ho2
    refine al_seq (Al.to (P := fun f => f = (.nx (frA many (some (.int (j : Nat))) (some (.int (k : Nat))) (some (.lst [B1, B2])) x10), t')) ?_ ?_)
    · have hany : ∀ l : List D, anyOf (.lst l) = some l := fun _ => rfl
      have hlc : ∀ (y0 y1 y2 y3 y6 y7 y8 y9 y10 y12 : Option D), Al (eLc (M := N.w) [11] (eItems (M := N.w) anyOf (eVar N.w 5)) (gdName 11) (eYes (M := N.w)) (eSeen (M := N.w) (eCall (M := N.w) 2 (w_law_bare_v2 N) [] (eCons (M := N.w) (eVar N.w 11) (eCons (M := N.w) (eVar N.w 4) (eNil (M := N.w)))))) [y0, y1, y2, y3, some (.int (many : Nat)), some (.lst [.obj 10, .obj 11]), y6, y7, y8, y9, y10, none, y12] t') (fun r => r = (.fr (.lst [B1, B2]), t')) (fun _ => False) := by
        intro y0 y1 y2 y3 y6 y7 y8 y9 y10 y12
        refine (elc_alX (M := N.w) (s := t') (s' := t') [(9, B1), (10, B2)] (fun x : Nat × D => .obj (x.1 + 1)) (fun d : D => d) (fun x d => d = x.2) ?_ (by show 2 ≤ 1000000; decide) fun x hx => ⟨_, rfl, ?_⟩).to fun r hr => ?_
        · walk_at "U"
          repeat (simp only [hany]; try walk_at "U")
        · simp only [List.mem_cons, List.not_mem_nil, or_false] at hx
          rcases hx with rfl | rfl
          · walk_at "A"
            refine Al.bto0 hw1 fun r hr => ?_
            subst hr
            walk_at "A"
            exact ⟨_, rfl, rfl⟩
          · walk_at "A"
            refine Al.bto0 hw2 fun r hr => ?_
            subst hr
            walk_at "A"
            exact ⟨_, rfl, rfl⟩
        · obtain ⟨ys, k1, k2, e⟩ := hr
          match ys, k1, k2 with
          | [d1, d2], _, k2 =>
            have e1 := k2 ((9, B1), d1) (by simp)
            have e2 := k2 ((10, B2), d2) (by simp)
            have e1 : d1 = B1 := e1
            have e2 : d2 = B2 := e2
            rw [e, e1, e2]; rfl
      generalize eLc (M := N.w) [11] (eItems (M := N.w) anyOf (eVar N.w 5)) (gdName 11) (eYes (M := N.w)) (eSeen (M := N.w) (eCall (M := N.w) 2 (w_law_bare_v2 N) [] (eCons (M := N.w) (eVar N.w 11) (eCons (M := N.w) (eVar N.w 4) (eNil (M := N.w)))))) = LC at hlc ⊢
      unfold frA
      walk_at "A"
      repeat (simp only [hv1, hf1]; try walk_at "A")
      refine Al.btox (hlc _ _ _ _ _ _ _ _ _ _) fun r hr => ?_
      subst hr
      walk_at "A"
      repeat (simp only [hv1, hf1]; try walk_at "A")
      try rfl
    rintro _ rfl
    rw [al_then_nx]
    refine al_seq (Al.to (P := fun f => f = (.nx (frA many (some (.int (j : Nat))) (some (.int (k : Nat))) (some (.lst [B1, B2])) x10), t')) ?_ ?_)
    · have hc1 := hs1.cls
      have hc2 := hs2.cls
      have i0 : atI [D.obj 4, D.obj 12] 0 = some (.obj 4) := rfl
      have i1 : atI [D.obj 4, D.obj 12] 1 = some (.obj 12) := rfl
      have hct : cutL [B1, B2] none (some (1 : Int)) = [B1] := cut_to [B1, B2] 1
      have had : addD (.lst [B1, B2]) (.lst [B1]) = some (.fr (.lst [B1, B2, B1])) := add_ll (by show 3 ≤ 1000000; decide)
      have hok : okS 6 (.lst [B1, B2, B1]) = true := by
        show (true && (okS 5 B1 && (okS 5 B2 && (okS 5 B1 && true)))) = true
        rw [ho1, ho2]; rfl
      have hsm := same_refl (M := N.w) (s := t') 6 (.lst [B1, B2, B1]) hok
      unfold frA
      walk_at "A"
      repeat (simp only [hv1, hf1, eMeth, hc1, hc2, i0, i1, hb1, hb2, hct, had, hsm, hfl, List.isEmpty_cons, Bool.false_or, if_true]; try walk_at "A")
      try rfl
    rintro _ rfl
    rw [al_then_nx]
    rcases (show k = 0 ∨ k = 1 by omega) with rfl | rfl
    · refine (stepD10 (N := N) (s := t') hp h1 h2 (k := 0) (a := 3) (p := 5) (c := 9) (pk := p1) (DU := [B1, B2]) g1 (by omega) hfl rfl rfl (by rw [hB1]; rfl) hs1 (fun l => by rw [ht']; rfl) (some (.int (j : Nat))) x10).to fun f hf => ?_
      rcases hf with rfl | ⟨ys, t5, gy, hy, ht5, rfl⟩
      · exact ⟨_, rfl, _, _, _, _, p1, p2, ht', g1, g2, by rw [List.length_append]; omega, by rw [List.length_append]; omega, rfl⟩
      · exact ⟨_, rfl, _, _, _, _, p1 ++ [ys], p2, by rw [ht5, ht']; rfl, good_snoc g1 gy hy, g2, by rw [List.length_append, List.length_append, List.length_singleton, List.length_singleton]; omega, by rw [List.length_append]; omega, rfl⟩
    · refine (stepD10 (N := N) (s := t') hp h1 h2 (k := 1) (a := 11) (p := 13) (c := 10) (pk := p2) (DU := [B1, B2]) g2 (by omega) hfl rfl rfl (by rw [hB2]; rfl) hs2 (fun l => by rw [ht']; rfl) (some (.int (j : Nat))) x10).to fun f hf => ?_
      rcases hf with rfl | ⟨ys, t5, gy, hy, ht5, rfl⟩
      · exact ⟨_, rfl, _, _, _, _, p1, p2, ht', g1, g2, by rw [List.length_append]; omega, by rw [List.length_append]; omega, rfl⟩
      · exact ⟨_, rfl, _, _, _, _, p1, p2 ++ [ys], by rw [ht5, ht']; rfl, g1, good_snoc g2 gy hy, by rw [List.length_append]; omega, by rw [List.length_append, List.length_append, List.length_singleton, List.length_singleton]; omega, rfl⟩
end
end VK
local macro_rules | `(tactic| walk_at "U") => `(tactic| simp! [VQ.runD, VQ.sSeq, VQ.sThen, VQ.sIf, VQ.sBreak, Nat.reduceBEq, VK.lb2, VQ.isD])
local macro_rules | `(tactic| walk_at "A") => `(tactic| simp! [Int.reduceBEq, Int.reduceLT, Int.reduceLE, Int.reduceNeg, Nat.reduceBEq, VK.al_ret_eq, VK.al_seq_eq, VK.al_then_nx, VK.al_then_bk, VQ.sIf, VQ.sBreak, VK.lb2, VQ.isD])
namespace VK
open PySem PySem.Spec PyProof.Rows L2 VQ
section
theorem lst_put {t : Ost} {l : List D} (h : lstAt t (.obj 3) = some l) (c : Cell) : lstAt (stSet t 1 c) (.obj 3) = some l := by
  have e : lstAt (stSet t 1 c) (.obj 3) = lstAt t (.obj 3) := by
    show (match (stSet t 1 c)[2]? with | some (some (Cell.lst l)) => some l | _ => none) = (match t[2]? with | some (some (Cell.lst l)) => some l | _ => none)
    unfold stSet
    rw [List.getElem?_set_ne (by decide)]
  exact e.trans h
theorem lst_lt {t : Ost} {l : List D} (h : lstAt t (.obj 3) = some l) : 2 < t.length := by
  by_cases hn : 2 < t.length
  · exact hn
  · exfalso
    have e : t[2]? = none := List.getElem?_eq_none (by omega)
    have h' : (match t[2]? with | some (some (Cell.lst l)) => some l | _ => none) = some l := h
    rw [e] at h'
    cases h'
theorem K3.put {t : Ost} {many : Nat} {M : List Bx} (h : K3 t many M) {b : Bx} (gb : goodB b = true) (hb : b.length = many) : K3 (setLst (stSet t 1 (.lst ((M ++ [b]).map boxS))) (.obj 3) ((M ++ [b]).map boxS)) many (M ++ [b]) := by
  have h1 := h.st.put b
  have h2 := lst_put h.ls (.lst ((M ++ [b]).map boxS))
  have h3 : (stSet t 1 (.lst ((M ++ [b]).map boxS))).all flatC = true := flat_put h.fl _
  have hlt := lst_lt h2
  have e : setLst (stSet t 1 (.lst ((M ++ [b]).map boxS))) (.obj 3) ((M ++ [b]).map boxS) = stSet (stSet t 1 (.lst ((M ++ [b]).map boxS))) 2 (.lst ((M ++ [b]).map boxS)) := rfl
  rw [e]
  refine ⟨StA.other h1 (by decide) (by decide) _, ?_, flat_put h3 _, good_snoc h.g gb hb⟩
  generalize stSet t 1 (.lst ((M ++ [b]).map boxS)) = t1 at *
  show (match (stSet t1 2 (.lst ((M ++ [b]).map boxS)))[2]? with | some (some (Cell.lst l)) => some l | _ => none) = some ((M ++ [b]).map boxS)
  unfold stSet
  rw [List.getElem?_set_self hlt]
theorem bare_whole {many : Nat} {M : List Bx} (h : M.any (inB (wholeB many)) = true) : bareR M many = none := by
  unfold bareR
  obtain ⟨k, hk⟩ : ∃ k, wTurns = k + 2 := ⟨wTurns - 2, by rw [wTurns_eq]⟩
  rw [hk]
  show (if M.any (inB (wholeB many)) = true then bareF M (k + 1) [] else _) = none
  rw [if_pos h]; rfl
theorem bare_none1 : bareR [] 1 = some [[48, 48, 48, 48, 48]] := by
  unfold bareR
  obtain ⟨k, hk⟩ : ∃ k, wTurns = k + 12 := ⟨wTurns - 12, by rw [wTurns_eq]⟩
  rw [hk]; rfl
theorem bare_none2 : bareR [] 2 = some [[48, 48, 48, 48, 48], [48, 48, 48, 48, 48]] := by
  unfold bareR
  obtain ⟨k, hk⟩ : ∃ k, wTurns = k + 14 := ⟨wTurns - 14, by rw [wTurns_eq]⟩
  rw [hk]; rfl
variable {K : PySem.W.Frag} {N : OM K} {s : N.w.S} {pull : Dfs N.w}
def fr10 (many : Nat) (x5 x6 x7 : Option D) : Nv := [none, some (.sh (.obj 0)), some (.sh (.int (many : Nat))), some (.sh (.obj 1)), some (.sh (.obj 3)), x5.map .sh, x6.map .sh, x7.map .sh, none]
theorem turn10 (hp : PullOk pull) {many : Nat} (h1 : 1 ≤ many) (h2 : many ≤ 2) {M : List Bx} (h : K3 (s : Ost) many M) (hl : M.length < 900) (x5 x6 x7 : Option D) :
    Al ((sSeq (M := N.w) (sSet (M := N.w) 7 [] (eSh (M := N.w) (eSeen (M := N.w) (eCall (M := N.w) 2 (w_law_bare_v2 N) [] (eCons (M := N.w) (eVar N.w 4) (eCons (M := N.w) (eVar N.w 2) (eNil (M := N.w))))))))
    (sSeq (M := N.w) (sIf (M := N.w) [] (eNot (M := N.w) (eTest (M := N.w) truD (eSeen (M := N.w) (eCall (M := N.w) 2 (w_law_same N.w 6) [] (eCons (M := N.w) (eSeen (M := N.w) (eLst (M := N.w) (eCons (M := N.w) (eSeen (M := N.w) (eMeth (M := N) "Store" 1 (w_Store_bare N) [] (eVar N.w 3) (eNil (M := N.w)))) (eCons (M := N.w) (eSeen (M := N.w) (eMeth (M := N) "Store" 1 (w_Store_bare N) [] (eVar N.w 3) (eNil (M := N.w)))) (eNil (M := N.w)))))) (eCons (M := N.w) (eSeen (M := N.w) (eLst (M := N.w) (eCons (M := N.w) (eVar N.w 7) (eCons (M := N.w) (eVar N.w 7) (eNil (M := N.w)))))) (eNil (M := N.w)))))))) (sRet (M := N.w) [] (eSh (M := N.w) (eC N.w (.bl false)))) (sNil (M := N.w)))
    (sSeq (M := N.w) (sIf (M := N.w) [] (eCmpT (M := N.w) isD (eVar N.w 7) (eC N.w .non)) (sBreak (M := N.w)) (sNil (M := N.w)))
    (sSeq (M := N.w) (sSet (M := N.w) 6 [] (eSh (M := N.w) (eSeen (M := N.w) (eFun (M := N.w) tupleD (eCons (M := N.w) (eSeen (M := N.w) (eLc (M := N.w) [8] (eItems (M := N.w) anyOf (eSeen (M := N.w) (eCall (M := N.w) 1 (w_law_box_of N.w) [] (eCons (M := N.w) (eVar N.w 7) (eNil (M := N.w)))))) (gdName 8) (eYes (M := N.w)) (eSeen (M := N.w) (eSl (M := N.w) (eVar N.w 8) (eNoPt (M := N.w)) (ePt (M := N.w) (eSeen (M := N.w) (eCall (M := N.w) 2 pull [] (eCons (M := N.w) (eVar N.w 1) (eCons (M := N.w) (eC N.w (.int 6)) (eNil (M := N.w))))))))))) (eNil (M := N.w)))))))
    (sSeq (M := N.w) (sIf (M := N.w) [] (eNot (M := N.w) (eTest (M := N.w) truD (eSeen (M := N.w) (eMeth (M := N) "Store" 2 (w_Store_put N) [] (eVar N.w 3) (eCons (M := N.w) (eVar N.w 6) (eNil (M := N.w))))))) (sRet (M := N.w) [] (eSh (M := N.w) (eC N.w (.bl false)))) (sNil (M := N.w)))
    (sDrop (M := N.w) [] (eSh (M := N.w) (eAppW (M := N) (eVar N.w 4) (eVar N.w 6))))))))) (fr10 many x5 x6 x7) s)
      (fun f => (∃ (x6 x7 : Option D) (b : Bx) (t : N.w.S), f = (.nx (fr10 many x5 x6 x7), t) ∧ K3 (t : Ost) many (M ++ [b])) ∨ ∃ x6 x7 : Option D, f = (.bk (fr10 many x5 x6 x7), s)) (fun _ => False) := by
  have hv1 : ∀ (m : List Nat) (i : Nat) (x : Option D), view1 m i (x.map VV.sh) = x := fun m i x => by cases x <;> rfl
  have hf1 : ∀ (m : List Nat) (i : Nat) (x : Option D), frz1 m i (x.map VV.sh) = x.map VV.sh := fun m i x => by cases x <;> rfl
  have h6p : ∀ s, pull [.obj 0, .int 6] s = _ := hp 6 (by decide) (by decide)
  have hfl : N.w.flat s = true := h.fl
  have hg := h.g
  have hbr := bareA_eq (N := N) (s := s) h.st hfl h1 (by omega) (fun q hq => (hg q hq).2)
  have hbr1 : w_Store_bare N [.obj 1] s = .ret (.sh (oPt (bareR M many)), s) := hbr
  have hlb := lawBareW (N := N) (s := s) (bs := M) (many := many) (c0 := 2) h1 (by omega) (fun b hb => ⟨(hg b hb).2, goodB_beg (hg b hb).1⟩) (by omega) hfl h.ls
  have hlb1 : Al (w_law_bare_v2 N [.obj 3, .int (many : Nat)] s) (fun r => r = (.sh (oPt (bareR M many)), s)) (fun _ => False) := hlb
  have hcs := h.st.cls
  have hcs1 : (clsAt (s : Ost) (.obj 1) == some ("Store" : PySem.Str)) = true := hcs
  have ho5 : okS 5 (oPt (bareR M many)) = true := okS_oPt _ fun b hb => by
    have := (bareR_some h1 (by omega) hb).2.1.1
    omega
  have hok : okS 6 (.lst [oPt (bareR M many), oPt (bareR M many)]) = true := by
    show (true && (okS 5 (oPt (bareR M many)) && (okS 5 (oPt (bareR M many)) && true))) = true
    rw [ho5]; rfl
  have hsm := same_refl (M := N.w) (s := s) 6 (.lst [oPt (bareR M many), oPt (bareR M many)]) hok
  cases hb : bareR M many with
  | none =>
    rw [hb] at hbr1 hlb1 hsm
    have hnn : isD .non .non = some true := rfl
    simp only [oPt] at hbr1 hlb1 hsm
    unfold fr10
    walk_at "A"
    repeat (simp only [hv1, hf1]; try walk_at "A")
    refine Al.btox hlb1 fun r hr => ?_
    subst hr
    walk_at "A"
    repeat (simp only [hv1, hf1, eMeth, hcs1, hbr1, hsm, hnn]; try walk_at "A")
    first | exact .inr ⟨_, some .non, rfl⟩ | exact .inr ⟨x6, some .non, rfl⟩ | trace_state
  | some b =>
    obtain ⟨gb, hfull, hnone⟩ := bareR_some h1 (by omega) hb
    rw [hb] at hbr1 hlb1 hsm
    have hpe : oPt (some b) = ptS (b.map valN) := rfl
    rw [hpe] at hbr1 hlb1 hsm
    have hnn : isD (ptS (b.map valN)) .non = some false := rfl
    have hbo := lawBoxOf_eq (M := N.w) (s := s) (b.map valN) (by rw [List.length_map, hfull.1]; omega)
    rw [(full_pt h1 (by omega) hfull).2.1] at hbo
    have hany : anyOf (boxS b) = some (b.map D.str) := rfl
    have hbl : b.length ≤ 5 := by rw [hfull.1]; omega
    have hpt : ptS (b.map valN) = .tup ((b.map valN).map .int) := rfl
    rw [hpt] at hbr1 hlb1 hsm hbo hnn
    generalize (b.map valN).map D.int = PL at *
    have hlc : ∀ (y0 y2 y3 y4 y5 y6 : Option D), Al (eLc (M := N.w) [8] (eItems (M := N.w) anyOf (eSeen (M := N.w) (eCall (M := N.w) 1 (w_law_box_of N.w) [] (eCons (M := N.w) (eVar N.w 7) (eNil (M := N.w)))))) (gdName 8) (eYes (M := N.w)) (eSeen (M := N.w) (eSl (M := N.w) (eVar N.w 8) (eNoPt (M := N.w)) (ePt (M := N.w) (eSeen (M := N.w) (eCall (M := N.w) 2 pull [] (eCons (M := N.w) (eVar N.w 1) (eCons (M := N.w) (eC N.w (.int 6)) (eNil (M := N.w))))))))) [y0, some (.obj 0), y2, y3, y4, y5, y6, some (D.tup PL), none] s) (fun r => ∃ ys : List (List Nat), ys.length = b.length ∧ (∀ z ∈ b.zip ys, ∃ n : Nat, z.2 = z.1.take n) ∧ r = (.fr (.lst (ys.map D.str)), s)) (fun _ => False) := by
      intro y0 y2 y3 y4 y5 y6
      refine elc_alX (M := N.w) (s := s) (s' := s) b D.str D.str (fun l y => ∃ n : Nat, y = l.take n) ?_ (by show _ ≤ 1000000; omega) fun l hlm => ⟨_, rfl, ?_⟩
      · walk_at "U"
        repeat (simp only [hbo, hany]; try walk_at "U")
      · have h5l := (hfull.2 l hlm).1
        walk_at "A"
        repeat (simp only [h6p]; try walk_at "A")
        refine .draw (by decide) fun n hn => ?_
        have hct : cutL l none (some ((n : Nat) : Int)) = l.take n := cut_to l n
        have hlb : l.length ≤ big := by rw [h5l]; show 5 ≤ 1000000; decide
        try walk_at "A"
        repeat (simp only [hct, hlb, if_true]; try walk_at "A")
        exact ⟨l.take n, ⟨n, rfl⟩, rfl⟩
    generalize eLc (M := N.w) [8] (eItems (M := N.w) anyOf (eSeen (M := N.w) (eCall (M := N.w) 1 (w_law_box_of N.w) [] (eCons (M := N.w) (eVar N.w 7) (eNil (M := N.w)))))) (gdName 8) (eYes (M := N.w)) (eSeen (M := N.w) (eSl (M := N.w) (eVar N.w 8) (eNoPt (M := N.w)) (ePt (M := N.w) (eSeen (M := N.w) (eCall (M := N.w) 2 pull [] (eCons (M := N.w) (eVar N.w 1) (eCons (M := N.w) (eC N.w (.int 6)) (eNil (M := N.w))))))))) = LC at hlc ⊢
    unfold fr10
    walk_at "A"
    repeat (simp only [hv1, hf1]; try walk_at "A")
    refine Al.btox hlb1 fun r hr => ?_
    subst hr
    walk_at "A"
    repeat (simp only [hv1, hf1, eMeth, hcs1, hbr1, hsm, hnn]; try walk_at "A")
    refine Al.btox (hlc _ _ _ _ _ _) fun r hr => ?_
    obtain ⟨ys, k1, k2, e⟩ := hr
    subst e
    obtain ⟨gy, hym, hyn⟩ := pref_box h1 (by omega) hg gb hfull hnone k1 k2
    have hput := put_A h.st ys gy hym (fun q hq => (hg q hq).2) (by omega)
    rw [hyn, if_neg (by decide)] at hput
    have hyS : D.tup (ys.map D.str) = boxS ys := rfl
    have hps : (M.map boxS).length < big := by rw [List.length_map]; show _ < 1000000; omega
    obtain ⟨t1, ht1⟩ : ∃ t1 : N.w.S, t1 = (stSet (s : Ost) 1 (.lst ((M ++ [ys]).map boxS)) : Ost) := ⟨_, rfl⟩
    obtain ⟨t2, ht2⟩ : ∃ t2 : N.w.S, t2 = (setLst (stSet (s : Ost) 1 (.lst ((M ++ [ys]).map boxS))) (.obj 3) ((M ++ [ys]).map boxS) : Ost) := ⟨_, rfl⟩
    have hput1 : w_Store_put N [.obj 1, boxS ys] s = .ret (.sh (.bl true), t1) := by rw [ht1]; exact hput
    have hfl1 : N.w.flat t1 = true := by rw [ht1]; exact flat_put hfl _
    have hls2 : lstAt (t1 : Ost) (.obj 3) = some (M.map boxS) := by rw [ht1]; exact lst_put h.ls _
    have hset : setLst (t1 : Ost) (.obj 3) (M.map boxS ++ [boxS ys]) = t2 := by rw [ht1, ht2, List.map_append]; rfl
    have hK : K3 (t2 : Ost) many (M ++ [ys]) := by rw [ht2]; exact h.put gy hym
    walk_at "A"
    simp only [tuple_lst, hyS]
    walk_at "A"
    repeat (simp only [hv1, hf1, eMeth, hcs1, hput1, eAppW, hls2, hps, hfl, hfl1, hset, tuple_lst, hyS, if_true]; try walk_at "A")
    exact .inl ⟨some (boxS ys), some (D.tup PL), ys, t2, rfl, hK⟩
end
end VK
local macro_rules | `(tactic| walk_at "U") => `(tactic| simp! [VQ.runD, VQ.sSeq, VQ.sThen, VQ.sIf, VQ.sBreak, VQ.sPar, and_self, and_true, Nat.reduceBEq, VQ.G.exs_draw, VK.lb1, VK.add_ii, VQ.isD, Option.map_none, Bool.or_true, Bool.and_true])
local macro_rules | `(tactic| walk_at "A") => `(tactic| simp! [Int.reduceBEq, Int.reduceLT, Int.reduceLE, Int.reduceNeg, Nat.reduceBEq, VK.al_ret_eq, VK.al_then_nx, VQ.sIf, VQ.sBreak, VQ.sPar, and_self, and_true, VQ.G.exs_draw, VK.lb1, VK.add_ii, VQ.isD, Option.map_none, Bool.or_true, Bool.and_true])
namespace VK
open PySem PySem.Spec PyProof.Rows L2 VQ
section
theorem any_whole {many : Nat} (h1 : 1 ≤ many) (h2 : many ≤ 2) (M : List Bx) : (nextP M (wholeB many)).any (inB (wholeB many)) = true := by
  unfold nextP
  by_cases h : M.any (inB (wholeB many)) = true
  · rw [if_pos h]; exact h
  · rw [if_neg h, List.any_append]
    have : inB (wholeB many) (wholeB many) = true := by
      rcases (show many = 1 ∨ many = 2 by omega) with rfl | rfl <;> rfl
    simp [this]
theorem zero_pt {many : Nat} (h1 : 1 ≤ many) (h2 : many ≤ 2) : oPt (bareR [] many) = .tup (List.replicate many (D.int 0)) := by
  rcases (show many = 1 ∨ many = 2 by omega) with rfl | rfl
  · rw [bare_none1]; rfl
  · rw [bare_none2]; rfl
theorem zero_mul {many : Nat} (h1 : 1 ≤ many) (h2 : many ≤ 2) : mulD (.tup [.int 0]) (.int (many : Nat)) = some (.sh (.tup (List.replicate many (D.int 0)))) := by
  rw [mul_tk (by omega) (by omega) (by decide), Int.toNat_natCast]
  rcases (show many = 1 ∨ many = 2 by omega) with rfl | rfl <;> rfl
theorem zero_eq {many : Nat} (h1 : 1 ≤ many) (h2 : many ≤ 2) : eqO (.tup (List.replicate many (D.int 0))) (.tup (List.replicate many (D.int 0))) = some true := by
  rcases (show many = 1 ∨ many = 2 by omega) with rfl | rfl <;> rfl
def S3 (many : Nat) (M : List Bx) : Ost := [insD many 2, lsC M, lsC M]
theorem S3_k {many : Nat} {M : List Bx} (g : goodP5 many M) : K3 (S3 many M) many M := ⟨⟨rfl, rfl, by decide⟩, rfl, by
  have h := lsC_flat
  have hi : ∀ q, flatC (insD many q) = true := fun _ => rfl
  simp only [S3, List.all_cons, List.all_nil, h, hi, Bool.and_true], g⟩
variable {K : PySem.W.Frag} {N : OM K} {s : N.w.S} {pull : Dfs N.w}
theorem cellNil (ρ : Dv) : eCell (M := N) (eLst (M := N.w) (eNil (M := N.w))) ρ s = .ret (nwD (s : Ost), (stAdd (s : Ost) (.lst []) : Ost)) := by
  have hb : ([] : List D).length ≤ big := by show 0 ≤ 1000000; decide
  unfold eCell
  simp only [eLst, eNil, G.bind_ret, VQ.cellOf, if_pos hb]
theorem pure_k10a (hs0 : s = ([] : Ost)) (hp : PullOk pull) : Al (s_law_k10 N pull (w_Store___init__ N) (w_law_box N.w pull) (w_Store_put N) (w_law_bare_apart N pull) (w_Store_twin N) (w_law_bare_v2 N) (w_law_same N.w 6) (w_Store_bare N) (w_law_box_of N.w) (none :: some (.sh (.obj 0)) :: List.replicate 7 none) s) (fun r => r.1 = .rt (.sh (.bl true))) (fun _ => False) := by
  have hv1 : ∀ (m : List Nat) (i : Nat) (x : Option D), view1 m i (x.map VV.sh) = x := fun m i x => by cases x <;> rfl
  have hf1 : ∀ (m : List Nat) (i : Nat) (x : Option D), frz1 m i (x.map VV.sh) = x.map VV.sh := fun m i x => by cases x <;> rfl
  have h2p : ∀ s, pull [.obj 0, .int 2] s = _ := hp 2 (by decide) (by decide)
  have hr6 : rng1 (.int 6) = some ((List.range 6).map fun (k : Nat) => D.int (k : Nat)) := rng0_eqW (n := 6) (by decide)
  unfold s_law_k10
  refine al_seq (Al.to (P := fun f => ∃ many : Nat, 1 ≤ many ∧ many ≤ 2 ∧ f = (.nx [none, some (.sh (.obj 0)), some (.sh (.int (many : Nat))), none, none, none, none, none, none], s)) ?_ ?_)
  · walk_at "A"
    repeat (simp only [h2p]; try walk_at "A")
    refine .draw (by decide) fun k hk => ?_
    have hk2 : k < 2 := hk
    try walk_at "A"
    have e : (1 : Int) + ((k : Nat) : Int) = ((k + 1 : Nat) : Int) := by omega
    rw [e]
    exact ⟨k + 1, by omega, by omega, rfl⟩
  rintro _ ⟨many, h1, h2, rfl⟩
  rw [al_then_nx]
  obtain ⟨t1, ht1⟩ : ∃ t1 : N.w.S, t1 = (newO [] many : Ost) := ⟨_, rfl⟩
  obtain ⟨t2, ht2⟩ : ∃ t2 : N.w.S, t2 = (S3 many [] : Ost) := ⟨_, rfl⟩
  refine al_seq (Al.to (P := fun f => f = (.nx (fr10 many none none none), t2)) ?_ ?_)
  · have he : (eCons (M := N.w) (eVar N.w 2) (eNil (M := N.w))) [none, some (.obj 0), some (.int (many : Nat)), none, none, none, none, none, none] s = .ret ([.int (many : Nat)], s) := rfl
    have hnew : eNew (M := N) "Store" 2 (w_Store___init__ N) [] (eCons (M := N.w) (eVar N.w 2) (eNil (M := N.w))) [none, some (.obj 0), some (.int (many : Nat)), none, none, none, none, none, none] s = .ret (.obj 1, t1) :=
      (new_A (N := N) many ([] : Ost) _ _ s (he.trans (by rw [hs0]))).trans (by rw [ht1]; rfl)
    have hc : eCell (M := N) (eLst (M := N.w) (eNil (M := N.w))) [none, some (.obj 0), some (.int (many : Nat)), none, none, none, none, none, none] t1 = .ret (.obj 3, t2) := (cellNil _).trans (by rw [ht1, ht2]; rfl)
    generalize eNew (M := N) "Store" 2 (w_Store___init__ N) [] (eCons (M := N.w) (eVar N.w 2) (eNil (M := N.w))) = NW at hnew ⊢
    generalize eCell (M := N) (eLst (M := N.w) (eNil (M := N.w))) = CN at hc ⊢
    walk_at "A"
    repeat (simp only [hnew, hc]; try walk_at "A")
    try rfl
  rintro _ rfl
  rw [al_then_nx]
  refine al_seq (Al.to (P := fun f => ∃ (M : List Bx) (x5 x6 : Option D), goodP5 many M ∧ M.length ≤ 6 ∧ (f.2 : Ost) = S3 many M ∧ f.1 = .nx (fr10 many x5 x6 none)) (for_alp (s' := t2) (List.range 6) (fun j => .int (j : Nat)) (fun pr ρ t' => ∃ (M : List Bx) (x5 x6 : Option D), goodP5 many M ∧ M.length ≤ pr.length ∧ (t' : Ost) = S3 many M ∧ ρ = fr10 many x5 x6 none) ?e1 ⟨[], none, none, fun _ h => (by cases h), Nat.le_refl _, ht2, rfl⟩ ?h1 ?k01) ?k1)
  case e1 =>
    unfold fr10
    walk_at "U"
    repeat (simp only [hr6]; try walk_at "U")
  case k01 =>
    rintro ρ t' ⟨M, x5, x6, g, hl, e, hρ⟩
    exact ⟨M, x5, x6, g, by simpa using hl, e, by rw [hρ]⟩
  case h1 =>
    rintro pr j post hpr ρ t' ⟨M, x5, x6, g, hl, ht', hρ⟩
    subst hρ
    have hprl : pr.length < 6 := by have := congrArg List.length hpr; simp at this; omega
    refine ⟨fr10 many (some (.int (j : Nat))) x6 none, rfl, ?_⟩
    have hK : K3 (t' : Ost) many M := by rw [ht']; exact S3_k g
    have hbs := box_spec (M := N.w) (s := t') hp many (by omega)
    refine al_seq (Al.to (P := fun f => ∃ b : Bx, b.length = many ∧ b.all beg = true ∧ f = (.nx (fr10 many (some (.int (j : Nat))) (some (boxS b)) none), t')) ?_ ?_)
    · unfold fr10
      walk_at "A"
      repeat (simp only [hv1, hf1]; try walk_at "A")
      refine Al.btox hbs fun r hr => ?_
      obtain ⟨b, b1, b2, e⟩ := hr
      subst e
      walk_at "A"
      repeat (simp only [hv1, hf1]; try walk_at "A")
      exact ⟨b, b1, b2, rfl⟩
    rintro _ ⟨b, b1, b2, rfl⟩
    rw [al_then_nx]
    have gb : goodB b = true := goodB_of (by omega) (by omega) b2
    have hcs : (clsAt (t' : Ost) (.obj 1) == some ("Store" : PySem.Str)) = true := hK.st.cls
    have hput := put_A hK.st b gb b1 (fun q hq => (g q hq).2) (by omega)
    by_cases hany : M.any (inB b) = true
    · rw [if_pos hany] at hput
      have hput1 : w_Store_put N [.obj 1, boxS b] t' = .ret (.sh (.bl false), t') := hput
      refine Al.to (P := fun f => f = (.nx (fr10 many (some (.int (j : Nat))) (some (boxS b)) none), t')) ?_ (by
        rintro _ rfl
        exact ⟨_, rfl, M, _, _, g, by rw [List.length_append]; omega, ht', rfl⟩)
      generalize boxS b = BB at *
      unfold fr10
      walk_at "A"
      repeat (simp only [hv1, hf1, eMeth, hcs, hput1]; try walk_at "A")
      try rfl
    · rw [if_neg hany] at hput
      obtain ⟨u1, hu1⟩ : ∃ u1 : N.w.S, u1 = (stSet (t' : Ost) 1 (.lst ((M ++ [b]).map boxS)) : Ost) := ⟨_, rfl⟩
      obtain ⟨u2, hu2⟩ : ∃ u2 : N.w.S, u2 = (S3 many (M ++ [b]) : Ost) := ⟨_, rfl⟩
      have hput1 : w_Store_put N [.obj 1, boxS b] t' = .ret (.sh (.bl true), u1) := by rw [hu1]; exact hput
      have hls2 : lstAt (u1 : Ost) (.obj 3) = some (M.map boxS) := by rw [hu1]; exact lst_put hK.ls _
      have hset : setLst (u1 : Ost) (.obj 3) (M.map boxS ++ [boxS b]) = u2 := by
        have e : M.map boxS ++ [boxS b] = (M ++ [b]).map boxS := by rw [List.map_append]; rfl
        rw [hu1, hu2, ht', e]; rfl
      have hps : (M.map boxS).length < big := by rw [List.length_map]; show _ < 1000000; omega
      refine Al.to (P := fun f => f = (.nx (fr10 many (some (.int (j : Nat))) (some (boxS b)) none), u2)) ?_ (by
        rintro _ rfl
        exact ⟨_, rfl, M ++ [b], _, _, good_snoc g gb b1, by rw [List.length_append, List.length_append]; simp; omega, hu2, rfl⟩)
      generalize boxS b = BB at *
      unfold fr10
      walk_at "A"
      repeat (simp only [hv1, hf1, eMeth, hcs, hput1, eAppW, hls2, hps, hset, if_true]; try walk_at "A")
      try rfl
  case k1 =>
  rintro ⟨f1, t3⟩ ⟨M, x5, x6, g, hl, ht3, e⟩
  have e : f1 = _ := e
  subst e
  have ht3 : (t3 : Ost) = S3 many M := ht3
  rw [al_then_nx]
  refine al_seq (Al.to (P := fun f => ∃ p1 p2, (f.2 : Ost) = S14 many M p1 p2 ∧ f.1 = .nx (fr10 many x5 x6 none)) ?_ ?_)
  · obtain ⟨u1, hu1⟩ : ∃ u1 : N.w.S, u1 = (twinO (S3 many M) many M : Ost) := ⟨_, rfl⟩
    obtain ⟨u2, hu2⟩ : ∃ u2 : N.w.S, u2 = ((S9 many M) : Ost) := ⟨_, rfl⟩
    have hK : K3 (t3 : Ost) many M := by rw [ht3]; exact S3_k g
    have hst1 : StA 0 1 (u1 : Ost) many M := by rw [hu1]; exact ⟨rfl, rfl, by decide⟩
    have hc0 : (clsAt (t3 : Ost) (.obj 1) == some ("Store" : PySem.Str)) = true := hK.st.cls
    have hc1 : (clsAt (u1 : Ost) (.obj 1) == some ("Store" : PySem.Str)) = true := hst1.cls
    have w1 : w_Store_twin N [.obj 1] t3 = .ret (.sh (.obj 4), u1) := (twin_A (N := N) (s := t3) hK.st).trans (by rw [hu1, ht3]; rfl)
    have w2 : w_Store_twin N [.obj 1] u1 = .ret (.sh (.obj 7), u2) := (twin_A (N := N) (s := u1) hst1).trans (by rw [hu2, hu1]; rfl)
    have hap := apart_al (N := N) (s := u2) hp h1 h2 g hl hu2
    unfold fr10
    walk_at "A"
    repeat (simp only [hv1, hf1, eMeth, hc0, hc1, w1, w2, if_true]; try walk_at "A")
    refine Al.btox hap fun r hr => ?_
    obtain ⟨r1, r2⟩ := r
    obtain ⟨e, p1, p2, e2⟩ := hr
    have e : r1 = _ := e
    subst e
    walk_at "A"
    repeat (simp only [hv1, hf1]; try walk_at "A")
    first | exact ⟨p1, p2, e2, rfl⟩ | exact ⟨p1, p2, e2⟩
  rintro ⟨f1, t4⟩ ⟨p1, p2, ht4, e⟩
  have e : f1 = _ := e
  subst e
  have ht4 : (t4 : Ost) = S14 many M p1 p2 := ht4
  rw [al_then_nx]
  have hK4 : K3 (t4 : Ost) many M := by rw [ht4]; exact ⟨⟨rfl, rfl, by decide⟩, rfl, S14_flat _ _ _ _, g⟩
  refine al_seq (Al.to (P := fun f => ∃ (M : List Bx) (x5 x6 x7 : Option D), K3 (f.2 : Ost) many M ∧ M.length ≤ 12 ∧ f.1 = .nx (fr10 many x5 x6 x7)) (for_alb (s' := t4) (List.range 6) (fun j => .int (j : Nat)) (fun pr ρ t' => ∃ (M : List Bx) (x5 x6 x7 : Option D), K3 (t' : Ost) many M ∧ M.length ≤ 6 + pr.length ∧ ρ = fr10 many x5 x6 x7) (fun ρ t' => ∃ (M : List Bx) (x5 x6 x7 : Option D), K3 (t' : Ost) many M ∧ M.length ≤ 12 ∧ ρ = fr10 many x5 x6 x7) ?e2 ⟨M, x5, x6, none, hK4, by simpa using hl, rfl⟩ ?h2 ?k02 ?j2) ?k2)
  case e2 =>
    unfold fr10
    walk_at "U"
    repeat (simp only [hr6]; try walk_at "U")
  case k02 =>
    rintro ρ t' ⟨M, x5, x6, x7, hK, hl, hρ⟩
    exact ⟨M, x5, x6, x7, hK, by simpa using hl, by rw [hρ]⟩
  case j2 =>
    rintro ρ t' ⟨M, x5, x6, x7, hK, hl, hρ⟩
    exact ⟨M, x5, x6, x7, hK, hl, by rw [hρ]⟩
  case h2 =>
    rintro pr j post hpr ρ t' ⟨M, x5, x6, x7, hK, hl, hρ⟩
    subst hρ
    have hprl : pr.length < 6 := by have := congrArg List.length hpr; simp at this; omega
    refine ⟨fr10 many (some (.int (j : Nat))) x6 x7, rfl, ?_⟩
    refine (turn10 (N := N) (s := t') hp h1 h2 hK (by omega) (some (.int (j : Nat))) x6 x7).to fun f hf => ?_
    rcases hf with ⟨y6, y7, b, t5, rfl, hK5⟩ | ⟨y6, y7, rfl⟩
    · exact .inl ⟨_, rfl, M ++ [b], _, _, _, hK5, by rw [List.length_append, List.length_append, List.length_singleton, List.length_singleton]; omega, rfl⟩
    · exact .inr ⟨_, rfl, M, _, _, _, hK, by omega, rfl⟩
  case k2 =>
  rintro ⟨f1, t5⟩ ⟨M5, x5, x6, x7, hK5, hl5, e⟩
  have e : f1 = _ := e
  subst e
  have hK5 : K3 (t5 : Ost) many M5 := hK5
  rw [al_then_nx]
  have hwl : (wholeB many).length = many := by unfold wholeB; rw [List.length_replicate]
  obtain ⟨t6, hput, hs6, hf6, _, _⟩ := put_pk hK5.st (wholeB many) (whole_good h1 (by omega)) hwl hK5.g (by omega) hK5.fl
  have hmul : mulD (.tup [.str []]) (.int (many : Nat)) = some (.sh (boxS (wholeB many))) := by
    rw [mul_tk (by omega) (by omega) (by simp), Int.toNat_natCast, whole_box]
  refine al_seq (Al.to (P := fun f => f = (.nx (fr10 many x5 x6 x7), t6)) ?_ ?_)
  · have hcs : (clsAt (t5 : Ost) (.obj 1) == some ("Store" : PySem.Str)) = true := hK5.st.cls
    have hput1 : w_Store_put N [.obj 1, boxS (wholeB many)] t5 = .ret (.sh (.bl (!M5.any (inB (wholeB many)))), t6) := hput
    generalize boxS (wholeB many) = BW at *
    generalize (!M5.any (inB (wholeB many))) = bb at *
    unfold fr10
    walk_at "A"
    repeat (simp only [hv1, hf1, hmul, eMeth, hcs, hput1, if_true]; try walk_at "A")
    try rfl
  rintro _ rfl
  rw [al_then_nx]
  have hfl6 : N.w.flat t6 = true := hf6
  have hg6 := nextP_good hK5.g (whole_good h1 (by omega)) hwl
  have hcs : (clsAt (t6 : Ost) (.obj 1) == some ("Store" : PySem.Str)) = true := hs6.cls
  have hb6 := bareA_eq (N := N) (s := t6) hs6 hfl6 h1 (by omega) (fun q hq => (hg6 q hq).2)
  rw [bare_whole (any_whole h1 h2 M5)] at hb6
  have hb61 : w_Store_bare N [.obj 1] t6 = .ret (.sh .non, t6) := hb6
  obtain ⟨t7, ht7⟩ : ∃ t7 : N.w.S, t7 = (newO (t6 : Ost) many : Ost) := ⟨_, rfl⟩
  have hs7 : StA (t6 : Ost).length ((t6 : Ost).length + 1) (t7 : Ost) many [] := by rw [ht7]; exact newO_st _ _
  have hfl7 : N.w.flat t7 = true := by rw [ht7]; exact newO_flat hf6 _
  have hb7 := bareA_eq (N := N) (s := t7) hs7 hfl7 h1 (by omega) (fun q hq => (by cases hq))
  rw [zero_pt h1 h2] at hb7
  have hc7 := hs7.cls
  have he : (eCons (M := N.w) (eVar N.w 2) (eNil (M := N.w))) [none, some (.obj 0), some (.int (many : Nat)), some (.obj 1), some (.obj 3), x5, x6, x7, none] t6 = .ret ([.int (many : Nat)], t6) := rfl
  have hnew : eNew (M := N) "Store" 2 (w_Store___init__ N) [] (eCons (M := N.w) (eVar N.w 2) (eNil (M := N.w))) [none, some (.obj 0), some (.int (many : Nat)), some (.obj 1), some (.obj 3), x5, x6, x7, none] t6 = .ret (.obj ((t6 : Ost).length + 1), t7) :=
    (new_A (N := N) many (t6 : Ost) _ _ t6 he).trans (by rw [ht7])
  have hzm := zero_mul h1 h2
  have hze := zero_eq h1 h2
  generalize (t6 : Ost).length = LN at *
  generalize List.replicate many (D.int 0) = ZL at *
  generalize eNew (M := N) "Store" 2 (w_Store___init__ N) [] (eCons (M := N.w) (eVar N.w 2) (eNil (M := N.w))) = NW at hnew ⊢
  unfold fr10
  walk_at "A"
  repeat (simp only [hv1, hf1, hmul, eMeth, hcs, hb61, hnew, hc7, hb7, hzm, hze, if_true]; try walk_at "A")
theorem pure_k10 (hp : PullOk pull) : Al (s_law_k10 N pull (w_Store___init__ N) (w_law_box N.w pull) (w_Store_put N) (w_law_bare_apart N pull) (w_Store_twin N) (w_law_bare_v2 N) (w_law_same N.w 6) (w_Store_bare N) (w_law_box_of N.w) (none :: some (.sh (.obj 0)) :: List.replicate 7 none) ([] : Ost)) (fun r => r.1 = .rt (.sh (.bl true))) (fun _ => False) := pure_k10a (s := ([] : Ost)) rfl hp
end
end VK
set_option hygiene false
set_option hygiene false
namespace VL
open PySem PySem.Spec PyProof.Rows L2 VQ VK LamX
abbrev N__law_bag : List Str := ["_law_script"]
abbrev N_is_beginning : List Str := ["thing", "sign"]
abbrev N_is_box : List Str := ["thing", "one"]
abbrev N_Store_need : List Str := ["self", "box"]
abbrev N_under : List Str := ["inner", "outer", "one", "other"]
abbrev N_Store_first_over : List Str := ["self", "box", "one"]
abbrev N_Store_put : List Str := ["self", "box"]
abbrev N__law_pull : List Str := ["_law_bag_here", "_law_size", "_law_cell", "_law_digit"]
abbrev N_Store___init__ : List Str := ["self", "many"]
abbrev N__law_of : List Str := ["_law_bag_here", "_law_some"]
abbrev N__law_figs : List Str := ["_law_worth_here", "_law_found", "_law_at"]
abbrev N__law_worth : List Str := ["_law_bag_here"]
abbrev N__law_begin : List Str := ["_law_bag_here", "_law_size"]
abbrev N__law_box : List Str := ["_law_bag_here", "_law_many", "_law_k"]
abbrev N_Store_twin : List Str := ["self", "other"]
abbrev N__law_same : List Str := ["_law_found", "_law_due", "_law_at"]
abbrev N__law_starts : List Str := ["_law_one", "_law_other"]
abbrev N__law_inside : List Str := ["_law_one", "_law_other", "_law_a", "_law_b"]
abbrev N__law_under : List Str := ["_law_beginning", "_law_worth_here"]
abbrev N__law_bare : List Str := ["_law_boxes", "_law_many", "_law_waiting", "_law_box_here", "_law_spots", "_law_k", "_law_halved", "_law_one", "_law_sign"]
abbrev N_Store_boxes : List Str := ["self"]
abbrev N_whole : List Str := ["many"]
abbrev N_halves_of : List Str := ["box", "at", "beginning", "sign"]
abbrev N_span : List Str := ["beginning", "low", "sign", "left"]
abbrev N_Store_bare : List Str := ["self", "waiting", "box", "parts", "beginning"]
abbrev N__law_box_of : List Str := ["_law_point", "_law_worth_here"]
abbrev N__law_bare_apart : List Str := ["_law_bag_here", "_law_one", "_law_other", "_law_kept", "_law_many", "_law_rows", "_law_stores", "_law_turn", "_law_at", "_law_dues", "_law_box_here", "_law_row", "_law_own"]
abbrev N_law : List Str := ["_law_script", "_law_bag_here", "_law_many", "_law_store", "_law_kept", "_law_turn", "_law_box_here", "_law_due", "_law_one"]
local macro_rules | `('1') => `(fun _ _ _ _ _ _ us hl => match us, hl with | [_], _ => rfl)
local macro_rules | `('2') => `(fun _ _ _ _ _ _ us hl => match us, hl with | [_, _], _ => rfl)
local macro_rules | `('3') => `(fun _ _ _ _ _ _ us hl => match us, hl with | [_, _, _], _ => rfl)
local macro_rules | `('4') => `(fun _ _ _ _ _ _ us hl => match us, hl with | [_, _, _, _], _ => rfl)
local macro_rules | `('5') => `(fun _ _ _ _ _ _ us hl => match us, hl with | [_, _, _, _, _], _ => rfl)
local macro_rules | `('s') => `(⟨rfl, rfl, rfl, by decide +kernel, rfl, by decide +kernel, by decide +kernel⟩)
local macro_rules | `(tactic| delta $n:ident $s:ident) => `(tactic| first | (show blkC $n (defScope $s) _ _ = true; decide +kernel) | rfl)
structure EnvZ (P : Program) (w : World) (K : PySem.W.Frag) (mg : Str → Option Value) (base : Heap) (N : OM K) (C_Store C_QuiltError C_BadBox C_BadBeginning : Addr) : Prop extends Vx K w mg C_Store C_QuiltError C_BadBox C_BadBeginning where
  pl : DefOk P w K mg base N.w 1 "_law_pull" 2 pullS []
  co : CtOk K N.CT
  l_Store : N.CT.lookup ("Store" : PySem.Str) = some C_Store
section
variable {P : Program} {w : World} {K : PySem.W.Frag} {mg : Str → Option Value} {base : Heap} {b l : Addr} {T : List (Addr × Str)} {I : IW K}
theorem sc__law_pull : FnScope N__law_pull (N__law_pull.take 2) (defScope st__law_pull) := 's'
theorem sc__law_bag : FnScope N__law_bag (N__law_bag.take 1) (defScope st__law_bag) := 's'
theorem pit {X : Cx} {x : Str} {i : Int} {j : Nat} {p1 p2 p3 : Pos} (hN : X.N[0]? = some x := by rfl) (hv : Vis X.env.scope x := by exact Or.inl rfl) (hd : (x == ("__debug__" : Str)) = false := by decide)
    (hcd : (x == ("__classdict__" : Str)) = false := by decide) : PE X (.Subscript (.Name x p1) (.Constant (.int i) j p2) p3) (pIt X.K i) := pe_ix ix_list (pe_var hN hv hd hcd) pe_int (by intro _ _; rfl)
theorem ok__law_pull {f : Addr} {fd : FuncData} (F : Fun K "_law_pull" "_law_pull" st__law_pull f fd) (b_len : mg "len" = none) : FnOk P w K mg base (L2.CX P w) 1 f fd ["_law_bag_here", "_law_size"] (spV (bagW K b l T I) mg 2 pullS) :=
  pull_ok F sc__law_pull fun cdv A outer s H E =>
    pss_cons (ps_if (L2.PW.pt (pw_and (pt_cmpR op_lt pit (pv 1) rfl) (pw_and1 (pt_cmpR op_lt pit (pe_callB call_len rfl b_len bt_len (pa_cons pit pa_nil)) rfl))))
      (pss_cons (ps_asg (pe_ix ix_list pit pit (by intro _ _; rfl)) (pg_name sc__law_pull.nd rfl (.inl rfl)))
        (pss_cons (ps_asg (pe_op op_add pit pe_int) (pg_sub (pv 0) pe_int set_list))
          (pss_cons (ps_asg (pe_ifExp (pt_cmpR op_ge (pv 2) (pe_op op_pow pe_int pe_int) rfl) (pe_op op_sub (pv 2) (pe_op op_pow pe_int pe_int)) pe_int) (pg_sub (pv 0) pe_int set_list))
            (pss_one (ps_asg (pe_op op_mod (pe_op op_add (pe_op op_add (pe_op op_mul pit pe_int) (pe_op op_mul (pv 2) pe_int)) pit) pe_int) (pg_sub (pv 0) pe_int set_list)))))) pss_nil)
    (pss_cons (ps_if (pt_cmpR op_ge pit (pv 1) rfl)
      (pss_cons (ps_asg (pe_op op_mod pit (pv 1)) (pg_name sc__law_pull.nd rfl (.inl rfl)))
        (pss_cons (ps_asg (pe_op op_fdiv pit (pv 1)) (pg_sub (pv 0) pe_int set_list))
          (pss_one (ps_ret (pv 3))))) pss_nil)
    (pss_cons (ps_asg (pe_op op_add pit pe_int) (pg_sub (pv 0) pe_int set_list))
    (pss_cons (ps_asg (pe_op op_mod (pe_op op_add (pe_op op_add (pe_op op_add (pe_op op_pow pit pe_int) (pe_op op_mul pe_int pit)) (pe_op op_fdiv pit pe_int)) pe_int) pe_int) (pg_sub (pv 0) pe_int set_list))
    (pss_one (ps_ret (pe_op op_mod (pe_op op_fdiv pit pe_int) (pv 1)))))))
theorem ok__law_bag {f : Addr} {fd : FuncData} (F : Fun K "_law_bag" "_law_bag" st__law_bag f fd) (b_list : mg "list" = none) : FnOk P w K mg base (L2.CX P w) 1 f fd ["_law_script"] (spBag K) :=
  bag_ok F sc__law_bag fun cdv A outer s H E =>
    pss_one (ps_ret (pe_lst (pa_cons (pe_callTy call_list_of rfl b_list bt_list (pa_cons (pe_slice sl_list (pv 0) po_none (po_some pe_int)) pa_nil)) (pa_cons pe_int (pa_cons pe_int (pa_cons pe_int (pa_cons pe_int pa_nil)))))))
end
section
variable {P : Program} {w : World} {K : PySem.W.Frag} {mg : Str → Option Value} {base : Heap} {N : OM K} {C_Store C_QuiltError C_BadBox C_BadBeginning : Addr} (V : EnvZ P w K mg base N C_Store C_QuiltError C_BadBox C_BadBeginning)
include V
theorem ab_QuiltError : AboveOk P w K mg base 1 "QuiltError" := V.A_QuiltError.ab '2' fun i fd F => base_init F 's' rfl rfl rfl
theorem e_BadBox : XcOk P w K mg base 2 "BadBox" 0 x_BadBox := xk V.X_BadBox (ps := ["self"]) rfl '1' fun i fd F => own_init0 (nm := "BadBox") F 's' (fun cdv A2 outer s H E hr => pss_one (ps_expr (pe_above (ab_QuiltError V) hr))) (by decide +kernel) V.X_BadBox.T V.X_BadBox.nc
theorem e_BadBeginning : XcOk P w K mg base 2 "BadBeginning" 0 x_BadBeginning := xk V.X_BadBeginning (ps := ["self"]) rfl '1' fun i fd F => own_init0 (nm := "BadBeginning") F 's' (fun cdv A2 outer s H E hr => pss_one (ps_expr (pe_above (ab_QuiltError V) hr))) (by decide +kernel) V.X_BadBeginning.T V.X_BadBeginning.nc
theorem c_is_beginning : DefOk P w K mg base N.w 1 "is_beginning" 1 (w_is_beginning N.w) [] :=
  dk (N := N_is_beginning) V.d_is_beginning '1' 's' (by decide) fun nd f cdv A outer s H E hr tk => (sss_one (ss_ret [] (ev_sh (ev_and td_tru (ev_isi .str (ev_var 0) rfl rfl V.b_isinstance V.b_str) (ev_and td_tru (ev_cmp op_le (od_bl od_cmpI) (ev_seen (ev_fun call_len cd_len V.b_len bt_len (ea_cons (ev_var 0) ea_nil))) (ev_gc V.g_FIGURES)) (ev_one (ev_seen (ev_fun (cr_all rfl) cd_all V.b_all bt_all (ea_cons (ev_seen (ev_lc [("sign", 1)] rfl nd (it_any (ev_var 0)) (blkOk_by (by delta N_is_beginning st_is_beginning)) (fun _ _ _ _ _ => (cg_name 1 (by decide) nd)) (fun _ _ _ _ _ => tts_nil) (fun _ _ _ _ _ => (ev_cmp (or_in (un65 hr)) (od_bl od_in) (ev_var 1) (ev_str [48, 49]))))) ea_nil)))))))))
theorem c_is_box : DefOk P w K mg base N.w 2 "is_box" 1 (w_is_box N.w) [] :=
  dk (N := N_is_box) V.d_is_box '1' 's' (by decide) fun nd f cdv A outer s H E hr tk => (sss_one (ss_ret [] (ev_sh (ev_and td_tru (ev_isi .tuple (ev_var 0) rfl rfl V.b_isinstance V.b_tuple) (ev_and td_tru (ev_chain op_le op_le od_cmpI od_cmpI ev_int (ev_seen (ev_fun call_len cd_len V.b_len bt_len (ea_cons (ev_var 0) ea_nil))) (ev_gc V.g_MOST_PLACES)) (ev_one (ev_seen (ev_fun (cr_all rfl) cd_all V.b_all bt_all (ea_cons (ev_seen (ev_lc [("one", 1)] rfl nd (it_any (ev_var 0)) (blkOk_by (by delta N_is_box st_is_box)) (fun _ _ _ _ _ => (cg_name 1 (by decide) nd)) (fun _ _ _ _ _ => tts_nil) (fun _ _ _ _ _ => (ev_seen (ev_call (c_is_beginning V) hr L2.takes0 (ea_cons (ev_var 1) ea_nil)))))) ea_nil)))))))))
theorem m_Store_need : MethOk P w K mg base N 4 "Store" "need" 2 (w_Store_need N) [] :=
  mk (L := N_Store_need) V.d_Store_need V.l_Store '2' 's' (by decide) fun nd f cdv A outer s H E hr tk => (sss_one (ss_if [] (L2.PW.pt (tw_or (tt_not (tt_val td_tru (ev_seen (ev_call (c_is_box V) hr tk (ea_cons (ev_var 1) ea_nil))))) (tw_or1 (tt_cmp2 (or_ne hr.units) od_ne (ev_seen (ev_fun call_len cd_len V.b_len bt_len (ea_cons (ev_var 1) ea_nil))) (ev_fld V.co (ev_var 0)))))) (sss_one (ss_raise0 (e_BadBox V) hr tk)) sss_nil))
theorem c_under : DefOk P w K mg base N.w 1 "under" 2 (w_under N.w) [] :=
  dk (N := N_under) V.d_under '2' 's' (by decide) fun nd f cdv A outer s H E hr tk => (sss_one (ss_ret [] (ev_fun (cr_all rfl) cd_all V.b_all bt_all (ea_cons (ev_seen (ev_lc [("one", 2), ("other", 3)] rfl nd (it_zipS V.b_zip (ev_var 0) (ev_var 1)) (blkOk_by (by delta N_under st_under)) (fun _ _ _ _ _ => (cg_tup 2 rfl (cgs_cons (cg_name 2 (by decide) nd) (cgs_cons (cg_name 3 (by decide) nd) cgs_nil)))) (fun _ _ _ _ _ => tts_nil) (fun _ _ _ _ _ => (ev_seen (ev_starts2 (ev_var 2) (ev_var 3)))))) ea_nil))))
theorem m_Store_first_over : MethOk P w K mg base N 2 "Store" "first_over" 2 (w_Store_first_over N) [] :=
  mk (L := N_Store_first_over) V.d_Store_first_over V.l_Store '2' 's' (by decide) fun nd f cdv A outer s H E hr tk => (sss_cons (ss_forW [] (passes_of rfl) rfl (ev_fld V.co (ev_var 0)) (tg_name 2 nd) (sss_one (ss_if [] (tt_val td_tru (ev_seen (ev_call (c_under V) hr tk (ea_cons (ev_var 1) (ea_cons (ev_var 2) ea_nil))))) (sss_one (ss_ret [] (ev_sh (ev_var 2)))) sss_nil)))
    (sss_one (ss_ret [] (ev_sh ev_non))))
theorem m_Store_put : MethOk P w K mg base N 5 "Store" "put" 2 (w_Store_put N) [] :=
  mk (L := N_Store_put) V.d_Store_put V.l_Store '2' 's' (by decide) fun nd f cdv A outer s H E hr tk => (sss_cons (ss_drop [] (ev_meth V.co (m_Store_need V) hr tk (ev_var 0) (ea_cons (ev_var 1) ea_nil)))
    (sss_cons (ss_if [] (tt_cmp2 op_notN od_isnot (ev_seen (ev_meth V.co (m_Store_first_over V) hr tk (ev_var 0) (ea_cons (ev_var 1) ea_nil))) ev_non) (sss_one (ss_ret [] (ev_sh ev_bl))) sss_nil)
    (sss_cons (ss_drop [] (ev_sh (ev_appW (ev_fld V.co (ev_var 0)) (ev_var 1))))
    (sss_one (ss_ret [] (ev_sh ev_bl))))))
theorem n_Store___init__ : NewOk P w K mg base N 1 "Store" 2 (w_Store___init__ N) [] :=
  nk (L := N_Store___init__) V.d_Store___init__ V.n_Store V.l_Store '2' 's' (by decide) fun nd f cdv A outer s H E hr tk => (sss_cons (ss_fld V.co 0 [] (ev_sh (ev_var 1)))
    (sss_one (ss_fld V.co 0 [] (ev_lst ea_nil))))
theorem c__law_of : DefOk P w K mg base N.w 2 "_law_of" 2 (w_law_of N.w pullS) [] :=
  dk (N := N__law_of) V.d__law_of '2' 's' (by decide) fun nd f cdv A outer s H E hr tk => (sss_one (ss_ret [] (ev_sh (ev_ix (ev_var 1) (ev_seen (ev_call V.pl hr tk (ea_cons (ev_var 0) (ea_cons (ev_seen (ev_fun call_len cd_len V.b_len bt_len (ea_cons (ev_var 1) ea_nil))) ea_nil))))))))
theorem c__law_figs : DefOk P w K mg base N.w 1 "_law_figs" 1 (w_law_figs N.w) [] :=
  dk (N := N__law_figs) V.d__law_figs '1' 's' (by decide) fun nd f cdv A outer s H E hr tk => (sss_cons (ss_set 1 [] nd (ev_sh (ev_str [])))
    (sss_cons (ss_for [] (passes_of rfl) rfl (it_range1 V.b_range ev_int) (tg_name 2 nd) (sss_cons (ss_set 1 [] nd (ev_sh (ev_seen (ev_bin or_add od_add (ev_seen (ev_typ (call_str_int.or SkE.call_str_str) cd_str V.b_str bt_str (ea_cons (ev_seen (ev_bin op_mod od_mod (ev_var 0) ev_int)) ea_nil))) (ev_var 1)))))
    (sss_one (ss_set 0 [] nd (ev_sh (ev_seen (ev_bin op_fdiv od_fdiv (ev_var 0) ev_int)))))))
    (sss_one (ss_ret [] (ev_sh (ev_var 1))))))
theorem c__law_worth : DefOk P w K mg base N.w 3 "_law_worth" 1 (w_law_worth N.w pullS) [] :=
  dk (N := N__law_worth) V.d__law_worth '1' 's' (by decide) fun nd f cdv A outer s H E hr tk => (sss_one (ss_ret [] (ev_call (c__law_of V) hr tk (ea_cons (ev_var 0) (ea_cons (ev_seen (ev_lst (ea_cons (ev_seen (ev_call V.pl hr tk (ea_cons (ev_var 0) (ea_cons ev_int ea_nil)))) (ea_cons (ev_seen (ev_call V.pl hr tk (ea_cons (ev_var 0) (ea_cons ev_int ea_nil)))) (ea_cons (ev_seen (ev_call V.pl hr tk (ea_cons (ev_var 0) (ea_cons ev_int ea_nil)))) (ea_cons ev_int (ea_cons ev_int ea_nil))))))) ea_nil)))))
theorem c__law_begin : DefOk P w K mg base N.w 4 "_law_begin" 1 (w_law_begin N.w pullS) [] :=
  dk (N := N__law_begin) V.d__law_begin '1' 's' (by decide) fun nd f cdv A outer s H E hr tk => (sss_cons (ss_set 1 [] nd (ev_sh (ev_seen (ev_call (c__law_of V) hr tk (ea_cons (ev_var 0) (ea_cons (ev_seen (ev_lst (ea_cons ev_int (ea_cons ev_int (ea_cons ev_int (ea_cons ev_int (ea_cons ev_int (ea_cons ev_int (ea_cons ev_int ea_nil))))))))) ea_nil))))))
    (sss_one (ss_ret [] (ev_sl (ev_seen (ev_call (c__law_figs V) hr tk (ea_cons (ev_seen (ev_call (c__law_worth V) hr tk (ea_cons (ev_var 0) ea_nil))) ea_nil))) ep_none (ep_some (ev_var 1))))))
theorem c__law_box : DefOk P w K mg base N.w 5 "_law_box" 2 (w_law_box N.w pullS) [] :=
  dk (N := N__law_box) V.d__law_box '2' 's' (by decide) fun nd f cdv A outer s H E hr tk => (sss_one (ss_ret [] (ev_typ call_tup2 cd_tuple V.b_tuple bt_tuple (ea_cons (ev_seen (ev_lc [("_law_k", 2)] rfl nd (it_range1 V.b_range (ev_var 1)) (blkOk_by (by delta N__law_box st__law_box)) (fun _ _ _ _ _ => (cg_name 2 (by decide) nd)) (fun _ _ _ _ _ => tts_nil) (fun _ _ _ _ _ => (ev_seen (ev_call (c__law_begin V) hr L2.takes0 (ea_cons (ev_var 0) ea_nil)))))) ea_nil))))
theorem m_Store_twin : MethOk P w K mg base N 3 "Store" "twin" 1 (w_Store_twin N) [] :=
  mk (L := N_Store_twin) V.d_Store_twin V.l_Store '1' 's' (by decide) fun nd f cdv A outer s H E hr tk => (sss_cons (ss_set 1 [] nd (ev_sh (ev_new (n_Store___init__ V) hr tk (ea_cons (ev_fld V.co (ev_var 0)) ea_nil))))
    (sss_cons (ss_fld V.co 1 [] (ev_typU call_list_of (fun _ => cd_list) V.b_list bt_list (ea_cons (ev_fld V.co (ev_var 0)) ea_nil)))
    (sss_one (ss_ret [] (ev_sh (ev_var 1))))))
theorem c__law_same0 : ∀ n : Nat, DefOk P w K mg base N.w (n + 0) "_law_same" 2 (w_law_same N.w n) []
  | 0 => dk0 (ps := N__law_same.take 2) V.d__law_same rfl '2'
  | n + 1 => dk (k := n + 0) (N := N__law_same) V.d__law_same '2' 's' (by decide) fun nd f cdv A outer s H E hr tk => (sss_cons (ss_if [] (tt_cmp2 op_isN od_is (ev_var 1) ev_non) (sss_one (ss_ret [] (ev_sh (ev_cmp op_isN (od_bl od_is) (ev_var 0) ev_non)))) sss_nil)
    (sss_cons (ss_if [] (L2.PW.pt (tw_or (tt_val td_tru (ev_isi .bool (ev_var 1) rfl rfl V.b_isinstance V.b_bool)) (tw_or1 (tt_val td_tru (ev_isi .bool (ev_var 0) rfl rfl V.b_isinstance V.b_bool))))) (sss_one (ss_ret [] (ev_sh (ev_and td_tru (ev_isi .bool (ev_var 1) rfl rfl V.b_isinstance V.b_bool) (ev_and td_tru (ev_isi .bool (ev_var 0) rfl rfl V.b_isinstance V.b_bool) (ev_one (ev_cmp (or_eq hr.units) (od_bl od_eq) (ev_var 0) (ev_var 1)))))))) sss_nil)
    (sss_cons (ss_if [] (tt_val td_tru (ev_isiT .int [.str] (ev_var 1) rfl (ea_ty .int (ea_ty .str ea_ty0 rfl V.b_str) rfl V.b_int) V.b_isinstance)) (sss_one (ss_ret [] (ev_sh (ev_and td_tru (ev_cmp (or_eq hr.units) (od_bl od_eq) (ev_isi .int (ev_var 0) rfl rfl V.b_isinstance V.b_int) (ev_isi .int (ev_var 1) rfl rfl V.b_isinstance V.b_int)) (ev_and td_tru (ev_isiT .int [.str] (ev_var 0) rfl (ea_ty .int (ea_ty .str ea_ty0 rfl V.b_str) rfl V.b_int) V.b_isinstance) (ev_one (ev_cmp (or_eq hr.units) (od_bl od_eq) (ev_var 0) (ev_var 1)))))))) sss_nil)
    (sss_cons (ss_if [] (L2.PW.pt (tw_or (tt_cmp2 (or_ne hr.units) od_ne (ev_isi .list (ev_var 0) rfl rfl V.b_isinstance V.b_list) (ev_isi .list (ev_var 1) rfl rfl V.b_isinstance V.b_list)) (tw_or1 (tt_cmp2 (or_ne hr.units) od_ne (ev_isi .tuple (ev_var 0) rfl rfl V.b_isinstance V.b_tuple) (ev_isi .tuple (ev_var 1) rfl rfl V.b_isinstance V.b_tuple))))) (sss_one (ss_ret [] (ev_sh ev_bl))) sss_nil)
    (sss_one (ss_ret [] (ev_sh (ev_and td_tru (ev_cmp (or_eq hr.units) (od_bl od_eq) (ev_seen (ev_fun call_len cd_len V.b_len bt_len (ea_cons (ev_var 0) ea_nil))) (ev_seen (ev_fun call_len cd_len V.b_len bt_len (ea_cons (ev_var 1) ea_nil)))) (ev_one (ev_seen (ev_fun (cr_all rfl) cd_all V.b_all bt_all (ea_cons (ev_seen (ev_lc [("_law_at", 2)] rfl nd (it_range1 V.b_range (ev_seen (ev_fun call_len cd_len V.b_len bt_len (ea_cons (ev_var 1) ea_nil)))) (blkOk_by (by delta N__law_same st__law_same)) (fun _ _ _ _ _ => (cg_name 2 (by decide) nd)) (fun _ _ _ _ _ => tts_nil) (fun _ _ _ _ _ => (ev_seen (ev_call (hkj := Nat.le_refl _) (c__law_same0 n) hr L2.takes0 (ea_cons (ev_ix (ev_var 0) (ev_var 2)) (ea_cons (ev_ix (ev_var 1) (ev_var 2)) ea_nil))))))) ea_nil))))))))))))
theorem c__law_same : DefOk P w K mg base N.w 6 "_law_same" 2 (w_law_same N.w 6) [] := c__law_same0 V 6
theorem c__law_starts : DefOk P w K mg base N.w 1 "_law_starts" 2 (w_law_starts N.w) [] :=
  dk (N := N__law_starts) V.d__law_starts '2' 's' (by decide) fun nd f cdv A outer s H E hr tk => (sss_one (ss_ret [] (ev_sh (ev_cmp (or_eq hr.units) (od_bl od_eq) (ev_seen (ev_sl (ev_var 0) ep_none (ep_some (ev_seen (ev_fun call_len cd_len V.b_len bt_len (ea_cons (ev_var 1) ea_nil)))))) (ev_var 1)))))
theorem c__law_inside : DefOk P w K mg base N.w 2 "_law_inside" 2 (w_law_inside N.w) [] :=
  dk (N := N__law_inside) V.d__law_inside '2' 's' (by decide) fun nd f cdv A outer s H E hr tk => (sss_one (ss_ret [] (ev_fun (cr_all rfl) cd_all V.b_all bt_all (ea_cons (ev_seen (ev_lc [("_law_a", 2), ("_law_b", 3)] rfl nd (it_zip V.b_zip (ev_var 0) (ev_var 1)) (blkOk_by (by delta N__law_inside st__law_inside)) (fun _ _ _ _ _ => (cg_tup 2 rfl (cgs_cons (cg_name 2 (by decide) nd) (cgs_cons (cg_name 3 (by decide) nd) cgs_nil)))) (fun _ _ _ _ _ => tts_nil) (fun _ _ _ _ _ => (ev_seen (ev_call (c__law_starts V) hr L2.takes0 (ea_cons (ev_var 2) (ea_cons (ev_var 3) ea_nil))))))) ea_nil))))
theorem c__law_under : DefOk P w K mg base N.w 2 "_law_under" 1 (w_law_under N.w) [] :=
  dk (N := N__law_under) V.d__law_under '1' 's' (by decide) fun nd f cdv A outer s H E hr tk => (sss_one (ss_ret [] (ev_lc [("_law_worth_here", 1)] rfl nd (it_range1 V.b_range ev_int) (blkOk_by (by delta N__law_under st__law_under)) (fun _ _ _ _ _ => (cg_name 1 (by decide) nd)) (fun _ _ _ _ _ => (tts_one (tt_cmp2 (or_eq hr.units) od_eq (ev_seen (ev_sl (ev_seen (ev_call (c__law_figs V) hr L2.takes0 (ea_cons (ev_var 1) ea_nil))) ep_none (ep_some (ev_seen (ev_fun call_len cd_len V.b_len bt_len (ea_cons (ev_var 0) ea_nil)))))) (ev_var 0)))) (fun _ _ _ _ _ => (ev_var 1)))))
theorem c__law_bare : DefOk P w K mg base N.w 3 "_law_bare" 2 (w_law_bare_v2 N) [] :=
  dk (N := N__law_bare) V.d__law_bare '2' 's' (by decide) fun nd f cdv A outer s H E hr tk => (sss_cons (ss_set 2 [] nd (ev_lst (ea_cons (ev_seen (ev_bin or_mul od_mul (ev_tup (ea_cons (ev_str []) ea_nil)) (ev_var 1))) ea_nil)))
    (sss_cons (ss_while [2] (passes_of rfl) (tt_cmp2 (or_ne hr.units) od_ne (ev_var 2) (ev_seen (ev_lst ea_nil))) (sss_cons (ss_lpopS 3 2 [] nd ev_int)
    (sss_one (ss_if [] (tt_not (tt_val td_tru (ev_seen (ev_fun (cr_any rfl) cd_any V.b_any bt_any (ea_cons (ev_seen (ev_lcW [("_law_one", 7)] rfl nd (ev_var 0) (blkOk_by (by delta N__law_bare st__law_bare)) (fun _ _ _ _ _ => (cg_name 7 (by decide) nd)) (fun _ _ _ _ _ => tts_nil) (fun _ _ _ _ _ => (ev_seen (ev_call (c__law_inside V) hr L2.takes0 (ea_cons (ev_var 3) (ea_cons (ev_var 7) ea_nil))))))) ea_nil))))) (sss_cons (ss_setLc 4 [] (lcp_lcS [("_law_k", 5)] rfl nd (it_range1 V.b_range (ev_var 1)) (blkOk_by (by delta N__law_bare st__law_bare)) (fun _ _ _ _ _ => (cg_name 5 (by decide) nd)) (fun _ _ _ _ _ => (tts_one (tt_cmp2 op_lt od_cmpI (ev_seen (ev_fun call_len cd_len V.b_len bt_len (ea_cons (ev_ix (ev_var 3) (ev_var 5)) ea_nil))) ev_int))) (fun _ _ _ _ _ => (ev_var 5))))
    (sss_cons (ss_if [] (tt_cmp2 (or_eq hr.units) od_eq (ev_var 4) (ev_seen (ev_lst ea_nil))) (sss_one (ss_ret [] (ev_typ call_tup2 cd_tuple V.b_tuple bt_tuple (ea_cons (ev_seen (ev_lc [("_law_one", 7)] rfl nd (it_any (ev_var 3)) (blkOk_by (by delta N__law_bare st__law_bare)) (fun _ _ _ _ _ => (cg_name 7 (by decide) nd)) (fun _ _ _ _ _ => tts_nil) (fun _ _ _ _ _ => (ev_ix (ev_seen (ev_call (c__law_under V) hr L2.takes0 (ea_cons (ev_var 7) ea_nil))) ev_int)))) ea_nil)))) sss_nil)
    (sss_cons (ss_set 5 [] nd (ev_sh (ev_ix (ev_var 4) ev_int)))
    (sss_cons (ss_setLc 6 [] (lcp_lcS [("_law_sign", 8)] rfl nd (it_any (ev_str [48, 49])) (blkOk_by (by delta N__law_bare st__law_bare)) (fun _ _ _ _ _ => (cg_name 8 (by decide) nd)) (fun _ _ _ _ _ => tts_nil) (fun _ _ _ _ _ => (ev_seen (ev_bin or_add od_add (ev_seen (ev_bin or_add od_add (ev_seen (ev_sl (ev_var 3) ep_none (ep_some (ev_var 5)))) (ev_tup (ea_cons (ev_seen (ev_bin or_add od_add (ev_ix (ev_var 3) (ev_var 5)) (ev_var 8))) ea_nil)))) (ev_seen (ev_sl (ev_var 3) (ep_some (ev_seen (ev_bin or_add od_add (ev_var 5) ev_int))) ep_none)))))))
    (sss_one (ss_set 2 [2] nd (ev_bin or_add od_add (ev_var 6) (ev_var 2)))))))) sss_nil))))
    (sss_one (ss_ret [] (ev_sh ev_non)))))
theorem m_Store_boxes : MethOk P w K mg base N 1 "Store" "boxes" 1 (w_Store_boxes N) [] :=
  mk (L := N_Store_boxes) V.d_Store_boxes V.l_Store '1' 's' (by decide) fun nd f cdv A outer s H E hr tk => (sss_one (ss_ret [] (ev_typU call_list_of (fun _ => cd_list) V.b_list bt_list (ea_cons (ev_fld V.co (ev_var 0)) ea_nil))))
theorem c_whole : DefOk P w K mg base N.w 1 "whole" 1 (w_whole N.w) [] :=
  dk (N := N_whole) V.d_whole '1' 's' (by decide) fun nd f cdv A outer s H E hr tk => (sss_one (ss_ret [] (ev_bin or_mul od_mul (ev_tup (ea_cons (ev_str []) ea_nil)) (ev_var 0))))
theorem c_halves_of : DefOk P w K mg base N.w 1 "halves_of" 1 (w_halves_of N.w) [] :=
  dk (N := N_halves_of) V.d_halves_of '1' 's' (by decide) fun nd f cdv A outer s H E hr tk => (sss_cons (ss_for [] (passes_of rfl) rfl (it_enumA V.b_enumerate (ev_var 0)) (tg_tup 2 rfl (tgs_cons (tg_name 1 nd) (tgs_cons (tg_name 2 nd) tgs_nil))) (sss_one (ss_if [] (tt_cmp2 op_lt od_cmpI (ev_seen (ev_fun call_len cd_len V.b_len bt_len (ea_cons (ev_var 2) ea_nil))) (ev_gc V.g_FIGURES)) (sss_one (ss_ret [] (ev_lc [("sign", 3)] rfl nd (it_any (ev_str [48, 49])) (blkOk_by (by delta N_halves_of st_halves_of)) (fun _ _ _ _ _ => (cg_name 3 (by decide) nd)) (fun _ _ _ _ _ => tts_nil) (fun _ _ _ _ _ => (ev_seen (ev_bin or_add od_add (ev_seen (ev_bin or_add od_add (ev_seen (ev_sl (ev_var 0) ep_none (ep_some (ev_var 1)))) (ev_tup (ea_cons (ev_seen (ev_bin or_add od_add (ev_var 2) (ev_var 3))) ea_nil)))) (ev_seen (ev_sl (ev_var 0) (ep_some (ev_seen (ev_bin or_add od_add (ev_var 1) ev_int))) ep_none)))))))) sss_nil)))
    (sss_one (ss_ret [] (ev_lst ea_nil))))
theorem c_span : DefOk P w K mg base N.w 4 "span" 1 (w_span N.w) [] :=
  dk (N := N_span) V.d_span '1' 's' (by decide) fun nd f cdv A outer s H E hr tk => (sss_cons (ss_if [] (tt_not (tt_val td_tru (ev_seen (ev_call (c_is_beginning V) hr tk (ea_cons (ev_var 0) ea_nil))))) (sss_one (ss_raise0 (e_BadBeginning V) hr tk)) sss_nil)
    (sss_cons (ss_set 1 [] nd (ev_sh ev_int))
    (sss_cons (ss_for [] (passes_of rfl) rfl (it_any (ev_var 0)) (tg_name 2 nd) (sss_one (ss_set 1 [] nd (ev_sh (ev_seen (ev_bin or_add od_add (ev_seen (ev_bin or_mul od_mul ev_int (ev_var 1))) (ev_seen (ev_typ call_intD cd_int V.b_int (by decide +kernel) (ea_cons (ev_var 2) ea_nil)))))))))
    (sss_cons (ss_set 3 [] nd (ev_sh (ev_seen (ev_bin op_sub od_sub (ev_gc V.g_FIGURES) (ev_seen (ev_fun call_len cd_len V.b_len bt_len (ea_cons (ev_var 0) ea_nil)))))))
    (sss_one (ss_ret [] (ev_sh (ev_tup (ea_cons (ev_seen (ev_bin op_shl od_shl (ev_var 1) (ev_var 3))) (ea_cons (ev_seen (ev_bin op_shl od_shl (ev_seen (ev_bin or_add od_add (ev_var 1) ev_int)) (ev_var 3))) ea_nil))))))))))
theorem m_Store_bare : MethOk P w K mg base N 5 "Store" "bare" 1 (w_Store_bare N) [] :=
  mk (L := N_Store_bare) V.d_Store_bare V.l_Store '1' 's' (by decide) fun nd f cdv A outer s H E hr tk => (sss_cons (ss_set 1 [] nd (ev_lst (ea_cons (ev_seen (ev_call (c_whole V) hr tk (ea_cons (ev_fld V.co (ev_var 0)) ea_nil))) ea_nil)))
    (sss_cons (ss_while [1] (passes_of rfl) (tt_cmp2 op_gt od_cmpI (ev_seen (ev_fun call_len cd_len V.b_len bt_len (ea_cons (ev_var 1) ea_nil))) ev_int) (sss_cons (ss_star [2, 1] 1 [1] rfl (ev_var 1) (nm_name 2 nd (nm_star 1 nd nm_nil)))
    (sss_one (ss_if [] (tt_cmp2 op_isN od_is (ev_seen (ev_meth V.co (m_Store_first_over V) hr tk (ev_var 0) (ea_cons (ev_var 2) ea_nil))) ev_non) (sss_cons (ss_set 3 [] nd (ev_sh (ev_seen (ev_call (c_halves_of V) hr tk (ea_cons (ev_var 2) ea_nil)))))
    (sss_cons (ss_if [] (tt_cmp2 (or_eq hr.units) od_eq (ev_seen (ev_fun call_len cd_len V.b_len bt_len (ea_cons (ev_var 3) ea_nil))) ev_int) (sss_one (ss_ret [] (ev_typ call_tup2 cd_tuple V.b_tuple bt_tuple (ea_cons (ev_seen (ev_lc [("beginning", 4)] rfl nd (it_any (ev_var 2)) (blkOk_by (by delta N_Store_bare st_Store_bare)) (fun _ _ _ _ _ => (cg_name 4 (by decide) nd)) (fun _ _ _ _ _ => tts_nil) (fun _ _ _ _ _ => (ev_ix (ev_seen (ev_call (c_span V) hr L2.takes0 (ea_cons (ev_var 4) ea_nil))) ev_int)))) ea_nil)))) sss_nil)
    (sss_one (ss_set 1 [1] nd (ev_bin or_add od_add (ev_var 3) (ev_var 1)))))) sss_nil))))
    (sss_one (ss_ret [] (ev_sh ev_non)))))
theorem c__law_box_of : DefOk P w K mg base N.w 2 "_law_box_of" 1 (w_law_box_of N.w) [] :=
  dk (N := N__law_box_of) V.d__law_box_of '1' 's' (by decide) fun nd f cdv A outer s H E hr tk => (sss_one (ss_ret [] (ev_typ call_tup2 cd_tuple V.b_tuple bt_tuple (ea_cons (ev_seen (ev_lc [("_law_worth_here", 1)] rfl nd (it_any (ev_var 0)) (blkOk_by (by delta N__law_box_of st__law_box_of)) (fun _ _ _ _ _ => (cg_name 1 (by decide) nd)) (fun _ _ _ _ _ => tts_nil) (fun _ _ _ _ _ => (ev_seen (ev_call (c__law_figs V) hr L2.takes0 (ea_cons (ev_var 1) ea_nil)))))) ea_nil))))
theorem c__law_bare_apart : DefOk P w K mg base N.w 7 "_law_bare_apart" 5 (w_law_bare_apart N pullS) [] :=
  dk (N := N__law_bare_apart) V.d__law_bare_apart '5' 's' (by decide) fun nd f cdv A outer s H E hr tk => (sss_cons (ss_par 5 6 nd (ev_sh (ev_seen (ev_lst (ea_cons (ev_cell (ev_typU call_list_of (fun _ => cd_list) V.b_list bt_list (ea_cons (ev_var 3) ea_nil))) (ea_cons (ev_cell (ev_typU call_list_of (fun _ => cd_list) V.b_list bt_list (ea_cons (ev_var 3) ea_nil))) ea_nil))))) (ev_lst (ea_cons (ev_var 1) (ea_cons (ev_var 2) ea_nil))))
    (sss_cons (ss_store 6 [] (ev_seen (ev_meth0 V.co (m_Store_twin V) hr tk (ev_var 1))) ev_int)
    (sss_cons (ss_for [] (passes_of rfl) rfl (it_range1 V.b_range ev_int) (tg_name 7 nd) (sss_cons (ss_set 8 [] nd (ev_sh (ev_seen (ev_call V.pl hr tk (ea_cons (ev_var 0) (ea_cons ev_int ea_nil))))))
    (sss_cons (ss_setLc 9 [] (lcp_lcS [("_law_row", 11)] rfl nd (it_any (ev_var 5)) (blkOk_by (by delta N__law_bare_apart st__law_bare_apart)) (fun _ _ _ _ _ => (cg_name 11 (by decide) nd)) (fun _ _ _ _ _ => tts_nil) (fun _ _ _ _ _ => (ev_seen (ev_call (c__law_bare V) hr L2.takes0 (ea_cons (ev_var 11) (ea_cons (ev_var 4) ea_nil)))))))
    (sss_cons (ss_if [6] (tt_not (tt_val td_tru (ev_seen (ev_call (c__law_same V) hr tk (ea_cons (ev_seen (ev_lst (ea_cons (ev_seen (ev_meth0 V.co (m_Store_bare V) hr tk (ev_ix (ev_var 6) ev_int))) (ea_cons (ev_seen (ev_meth0 V.co (m_Store_bare V) hr tk (ev_ix (ev_var 6) ev_int))) (ea_cons (ev_seen (ev_meth0 V.co (m_Store_bare V) hr tk (ev_ix (ev_var 6) ev_int))) ea_nil))))) (ea_cons (ev_seen (ev_bin or_add od_add (ev_var 9) (ev_seen (ev_sl (ev_var 9) ep_none (ep_some ev_int))))) ea_nil)))))) (sss_one (ss_ret [] (ev_sh ev_bl))) sss_nil)
    (sss_one (ss_if [] (tt_cmp2 op_notN od_isnot (ev_ix (ev_var 9) (ev_var 8)) ev_non) (sss_cons (ss_set 10 [] nd (ev_sh (ev_seen (ev_typ call_tup2 cd_tuple V.b_tuple bt_tuple (ea_cons (ev_seen (ev_lc [("_law_own", 12)] rfl nd (it_any (ev_seen (ev_call (c__law_box_of V) hr tk (ea_cons (ev_ix (ev_var 9) (ev_var 8)) ea_nil)))) (blkOk_by (by delta N__law_bare_apart st__law_bare_apart)) (fun _ _ _ _ _ => (cg_name 12 (by decide) nd)) (fun _ _ _ _ _ => tts_nil) (fun _ _ _ _ _ => (ev_seen (ev_sl (ev_var 12) ep_none (ep_some (ev_seen (ev_call V.pl hr L2.takes0 (ea_cons (ev_var 0) (ea_cons ev_int ea_nil)))))))))) ea_nil)))))
    (sss_cons (ss_if [6] (tt_not (tt_val td_tru (ev_seen (ev_meth V.co (m_Store_put V) hr tk (ev_ix (ev_var 6) (ev_var 8)) (ea_cons (ev_var 10) ea_nil))))) (sss_one (ss_ret [] (ev_sh ev_bl))) sss_nil)
    (sss_one (ss_drop [] (ev_sh (ev_appW (ev_ix (ev_var 5) (ev_var 8)) (ev_var 10))))))) sss_nil))))))
    (sss_one (ss_ret [] (ev_sh (ev_and td_tru (ev_cmpU (or_eq hr.units) (fun _ => od_bl od_eq) (ev_seen (ev_meth0 V.co (m_Store_boxes V) hr tk (ev_var 2))) (ev_var 3)) (ev_one (ev_seen (ev_call (c__law_same V) hr tk (ea_cons (ev_seen (ev_meth0 V.co (m_Store_bare V) hr tk (ev_var 2))) (ea_cons (ev_seen (ev_call (c__law_bare V) hr tk (ea_cons (ev_var 3) (ea_cons (ev_var 4) ea_nil)))) ea_nil))))))))))))
theorem d_law {f : Addr} {cdv : Value} {A : Around} {outer : List PySem.Env} {s : Shared} {H : Hp} {E : XK} (nd : N_law.Nodup) (hr : Room 10 (A.deeper (envOfC "law" (defScope st_law) s.heap.objs.size f cdv))) (tk : Takes (cxOf (L2.CX P w) P w K mg base N_law "law" (defScope st_law) f cdv A outer s H E) (fun cls d _ H => E cls d H)) :
    PSs (cxOf (L2.CX P w) P w K mg base N_law "law" (defScope st_law) f cdv A outer s H E) (defBody st_law).tail (tS N.w mg (fun cls d _ H => E cls d H) (s_law_k10 N pullS (w_Store___init__ N) (w_law_box N.w pullS) (w_Store_put N) (w_law_bare_apart N pullS) (w_Store_twin N) (w_law_bare_v2 N) (w_law_same N.w 6) (w_Store_bare N) (w_law_box_of N.w))) :=
  (sss_cons (ss_set 2 [] nd (ev_sh (ev_seen (ev_bin or_add od_add ev_int (ev_seen (ev_call V.pl hr tk (ea_cons (ev_var 1) (ea_cons ev_int ea_nil))))))))
    (sss_cons (ss_par 3 4 nd (ev_sh (ev_new (n_Store___init__ V) hr tk (ea_cons (ev_var 2) ea_nil))) (ev_sh (ev_cell (ev_lst ea_nil))))
    (sss_cons (ss_for [] (passes_of rfl) rfl (it_range1 V.b_range ev_int) (tg_name 5 nd) (sss_cons (ss_set 6 [] nd (ev_sh (ev_seen (ev_call (c__law_box V) hr tk (ea_cons (ev_var 1) (ea_cons (ev_var 2) ea_nil))))))
    (sss_one (ss_if [] (tt_val td_tru (ev_seen (ev_meth V.co (m_Store_put V) hr tk (ev_var 3) (ea_cons (ev_var 6) ea_nil)))) (sss_one (ss_drop [] (ev_sh (ev_appW (ev_var 4) (ev_var 6))))) sss_nil))))
    (sss_cons (ss_if [] (tt_not (tt_val td_tru (ev_seen (ev_call (c__law_bare_apart V) hr tk (ea_cons (ev_var 1) (ea_cons (ev_seen (ev_meth0 V.co (m_Store_twin V) hr tk (ev_var 3))) (ea_cons (ev_seen (ev_meth0 V.co (m_Store_twin V) hr tk (ev_var 3))) (ea_cons (ev_var 4) (ea_cons (ev_var 2) ea_nil))))))))) (sss_one (ss_ret [] (ev_sh ev_bl))) sss_nil)
    (sss_cons (ss_for [] (passes_of rfl) rfl (it_range1 V.b_range ev_int) (tg_name 5 nd) (sss_cons (ss_set 7 [] nd (ev_sh (ev_seen (ev_call (c__law_bare V) hr tk (ea_cons (ev_var 4) (ea_cons (ev_var 2) ea_nil))))))
    (sss_cons (ss_if [] (tt_not (tt_val td_tru (ev_seen (ev_call (c__law_same V) hr tk (ea_cons (ev_seen (ev_lst (ea_cons (ev_seen (ev_meth0 V.co (m_Store_bare V) hr tk (ev_var 3))) (ea_cons (ev_seen (ev_meth0 V.co (m_Store_bare V) hr tk (ev_var 3))) ea_nil)))) (ea_cons (ev_seen (ev_lst (ea_cons (ev_var 7) (ea_cons (ev_var 7) ea_nil)))) ea_nil)))))) (sss_one (ss_ret [] (ev_sh ev_bl))) sss_nil)
    (sss_cons (ss_if [] (tt_cmp2 op_isN od_is (ev_var 7) ev_non) (sss_one ss_break) sss_nil)
    (sss_cons (ss_set 6 [] nd (ev_sh (ev_seen (ev_typ call_tup2 cd_tuple V.b_tuple bt_tuple (ea_cons (ev_seen (ev_lc [("_law_one", 8)] rfl nd (it_any (ev_seen (ev_call (c__law_box_of V) hr tk (ea_cons (ev_var 7) ea_nil)))) (blkOk_by (by delta N_law st_law)) (fun _ _ _ _ _ => (cg_name 8 (by decide) nd)) (fun _ _ _ _ _ => tts_nil) (fun _ _ _ _ _ => (ev_seen (ev_sl (ev_var 8) ep_none (ep_some (ev_seen (ev_call V.pl hr L2.takes0 (ea_cons (ev_var 1) (ea_cons ev_int ea_nil)))))))))) ea_nil)))))
    (sss_cons (ss_if [] (tt_not (tt_val td_tru (ev_seen (ev_meth V.co (m_Store_put V) hr tk (ev_var 3) (ea_cons (ev_var 6) ea_nil))))) (sss_one (ss_ret [] (ev_sh ev_bl))) sss_nil)
    (sss_one (ss_drop [] (ev_sh (ev_appW (ev_var 4) (ev_var 6)))))))))))
    (sss_cons (ss_drop [] (ev_meth V.co (m_Store_put V) hr tk (ev_var 3) (ea_cons (ev_seen (ev_bin or_mul od_mul (ev_tup (ea_cons (ev_str []) ea_nil)) (ev_var 2))) ea_nil)))
    (sss_one (ss_ret [] (ev_sh (ev_and td_tru (ev_cmp op_isN (od_bl od_is) (ev_seen (ev_meth0 V.co (m_Store_bare V) hr tk (ev_var 3))) ev_non) (ev_one (ev_cmp (or_eq hr.units) (od_bl od_eq) (ev_seen (ev_meth0 V.co (m_Store_bare V) hr tk (ev_new (n_Store___init__ V) hr tk (ea_cons (ev_var 2) ea_nil)))) (ev_seen (ev_bin or_mul od_mul (ev_tup (ea_cons ev_int ea_nil)) (ev_var 2)))))))))))))))
end
theorem al_box {ε α : Type} {m : G ε α} {P : α → Prop} {E : ε → Prop} (h : Al m P E) : Box (m.all P E) := ⟨h.out⟩
theorem fin : AllMk := by
  intro w K h mg fa g C_Store C_QuiltError C_BadBox C_BadBeginning od an sl oc kV dc pm cd ct X G hfa V a_law l_law c_law
  have e := hfa.symm.trans (PySem.W.mg_of X G a_law)
  cases e
  refine ⟨PySem.W.fnOf "law" "law" (defArgs st_law) (defBody st_law) (defScope st_law) .none kV dc pm an cd ct, [], spLaw K [], fun r hr => (by cases hr), fun r hr => (by cases hr), fun r hr => (by cases hr), fun s u => .of_eq rfl, fun H a ns hl _ hT hS => ⟨a, ns, rfl, hS, hl, fun r hr => (by cases hr), fun _ => rfl⟩, fun base KB GB TB => ?_⟩
  obtain ⟨gp, fp, mp, Fp⟩ := V.d__law_pull.ex
  obtain ⟨gb, fb, mb, Fb⟩ := V.d__law_bag.ex
  have V1 : ∀ b l0 : Addr, EnvZ PySem.Challenge.rw_voidquilt_k10_bare_points.prog w K mg base (⟨b, l0, [], ([("Store", C_Store)] : Ctab)⟩ : OM K) C_Store C_QuiltError C_BadBox C_BadBeginning := fun b l0 => ⟨V, DefOk.of Fp mp (Fp.bn rfl '2') (ok__law_pull Fp V.b_len), (CtOk.cons rfl V.k_Store V.a_Store CtOk.nil), rfl⟩
  exact law_okW (I := objI K ([("Store", C_Store)] : Ctab)) (T := []) l_law c_law (N := N_law) 's' rfl rfl rfl (.inl rfl) (by first | exact .inl rfl | exact .inr rfl) (by decide) (by decide) rfl mb Fb.kp (Fb.bn rfl  '1') (ok__law_bag Fb V.b_list) (by decide) rfl (fun b l0 A outer s H E hr tk => d_law (V1 b l0) (by decide) hr tk) (begin_obj K ([("Store", C_Store)] : Ctab)) (fun b l0 => al_box (pure_k10 pull_bag))
end VL
open PySem PySem.W PyProof.Rows L2
theorem PySem.Challenge.cw_voidquilt_k10_bare_points_holds : PySem.Challenge.rw_voidquilt_k10_bare_points.Holds :=
  PySem.Challenge.zh VL.fin
