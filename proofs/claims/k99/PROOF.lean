import PyProof.Rows.All
import Wide.All
import OpenK.AllK
import Wide.FinOn
import HandS.ForMost
import HandS.ForExc
import HandS.Wide
import HandS.CallSlots
import HandS.ExcOwn
import HandS.WordsExc
import HandS.Lambda
import HandS.EndTab
import HandS.ExcIs
import HandS.Style
import HandS.TupAny
import HandS.TupMul
import HandS.WideBits
import HandS.Deep
import HandS.IsInst
import HandS.Conv
import KE.DataMinMax
import KE.SortData
import HandS.More
import PyProof.ListStr
import HandS.WordsDict
import HandS.DictComp
import HandS.Zip
import HandS.Rev
import KE.GoesEnum
import HandS.RevRange
import HandS.Iter
import HandS.SetFor
import HandS.HeadWalk
import KE.BitLaws
import PySem.Challenge.RW_stuckloses_k99_whole_chances_and_turns
set_option Elab.async false
set_option linter.all false
set_option maxRecDepth 100000
set_option maxHeartbeats 1000000
namespace Py
open PySem PySem.Spec PyProof.Rows L2

/-- a value -/
inductive D where
  | non | bl (b : Bool) | int (i : Int) | str (s : Str) | tup (ds : List D) | ref (n : Nat) | gl (x : Str) | adr (a : Addr) | kt (ds : List D) | kl (ds : List D)
/-- an object -/
inductive O where
  | lst (ds : List D)
  | frz (ds : List D)
  | dict (kvs : List (D × D))
  | ins (c : Str) (fs : List (Str × D))
abbrev Store := List O
abbrev Loc := List (Option D)
inductive R (α : Type) where
  | ok (a : α) (st : Store)
  | ex (c : Str) (pl : List (Str × D)) (st : Store)
  | stuck
def R.bind {α β : Type} (r : R α) (f : α → Store → R β) : R β :=
  match r with
  | .ok a st => f a st
  | .ex c p st => .ex c p st
  | .stuck => .stuck
@[simp] theorem R.bind_ok {α β : Type} (a : α) (st : Store) (f : α → Store → R β) : (R.ok a st).bind f = f a st := rfl
@[simp] theorem R.bind_ex {α β : Type} (c : Str) (p : List (Str × D)) (st : Store) (f : α → Store → R β) : (R.ex c p st : R α).bind f = .ex c p st := rfl
@[simp] theorem R.bind_stuck {α β : Type} (f : α → Store → R β) : (R.stuck : R α).bind f = .stuck := rfl

def keyD : D → Option Key
  | .int i => some (.inl i)
  | .str s => some (.inr s)
  | _ => none
def keyDs : List D → Option (List Key)
  | [] => some []
  | d :: ds => match keyD d, keyDs ds with | some k, some ks => some (k :: ks) | _, _ => none
def keyT : D → Option (List Key)
  | .tup ds => keyDs ds
  | _ => none

section
variable (K : PySem.W.Frag) (mg : Str → Option Value)
mutual
def RD (ρ : List Addr) (H : Hp) : D → V → Prop
  | .non, v => v = .non
  | .bl b, v => v = .bl b
  | .int i, v => v = .int i
  | .str s, v => v = .str s
  | .tup ds, v => ∃ a xs, v = .ref a ∧ H a = some (.tup xs) ∧ RDs ρ H ds xs
  | .kt ds, v => ∃ (a : Addr) (xs : List V) (o : Obj) (its : Array Value) (n : Nat), v = .ref a ∧ (K.lookup a = some o ∧ o.cls = .type "tuple" ∧ o.data = .seq its n ∧ its.size ≤ sizeLine ∧ Vals xs its.toList) ∧ RDs ρ H ds xs
  | .kl ds, v => ∃ (a : Addr) (xs : List V) (o : Obj) (its : Array Value) (n : Nat), v = .ref a ∧ (K.lookup a = some o ∧ o.cls = .type "list" ∧ o.dict = none ∧ o.data = .seq its n ∧ its.size ≤ sizeLine ∧ Vals xs its.toList) ∧ RDs ρ H ds xs
  | .ref n, v => ∃ a, v = .ref a ∧ ρ[n]? = some a
  | .gl x, v => ∃ u, mg x = some u ∧ RelV v u
  | .adr a, v => v = .ref a
def RDs (ρ : List Addr) (H : Hp) : List D → List V → Prop
  | [], vs => vs = []
  | d :: ds, vs => ∃ x xs, vs = x :: xs ∧ RD ρ H d x ∧ RDs ρ H ds xs
end
/-- the tables of code objects that the text's lambdas and inner defs write -/
class Tb where
  T : List (Addr × Str)
def Pl (u : HO) : Prop := (∀ ps, u ≠ .tbl ps) ∧ ∀ c q, u ≠ LamX.CodeO c q
theorem Pl.lst {vs : List V} : Pl (.lst vs) := ⟨(fun _ z => nomatch z), fun c q z => by unfold LamX.CodeO at z; cases z⟩
theorem Pl.dK {vs : List (Key × V)} : Pl (.dK vs) := ⟨(fun _ z => nomatch z), fun c q z => by unfold LamX.CodeO at z; cases z⟩
theorem Pl.dT {vs : List (List Key × V)} : Pl (.dT vs) := ⟨(fun _ z => nomatch z), fun c q z => by unfold LamX.CodeO at z; cases z⟩
theorem Pl.frz {o : Obj} {u : HO} : Pl (.frz o u) := ⟨(fun _ z => nomatch z), fun c q z => by unfold LamX.CodeO at z; cases z⟩
theorem Pl.ins {C : Addr} {dx : Addr} {vs : List (Str × V)} : Pl (.ins C dx vs) := ⟨(fun _ z => nomatch z), fun c q z => by unfold LamX.CodeO at z; cases z⟩
theorem tabs_upd {T : List (Addr × Str)} {H : Hp} {a : Addr} {u ho : HO} (e : H a = some u) (p : Pl u) (h : LamX.Tabs T H) : LamX.Tabs T (upd H a ho) := fun x hx => by
  obtain ⟨ps, h1, h2, h3⟩ := h x hx
  have n1 : x.1 ≠ a := fun z => by
    rw [z, e] at h1
    exact p.1 ps (Option.some.inj h1)
  refine ⟨ps, by rw [upd_ne n1]; exact h1, h2, fun pos cv hc => ?_⟩
  obtain ⟨c, e1, e2⟩ := h3 pos cv hc
  have n2 : c ≠ a := fun z => by
    rw [z, e] at e2
    exact p.2 a x.2 (Option.some.inj e2)
  exact ⟨c, e1, by rw [upd_ne n2]; exact e2⟩
theorem tabs_new {T : List (Addr × Str)} {H : Hp} {a : Addr} {ho : HO} (e : H a = none) (h : LamX.Tabs T H) : LamX.Tabs T (upd H a ho) := h.ext fun b o q => by rw [upd_ne (ne_of_none q e)]; exact q
structure Ext (_K : PySem.W.Frag) (ρ : List Addr) (H : Hp) (ρ' : List Addr) (H' : Hp) : Prop where
  pre : ∀ (n : Nat) (a : Addr), ρ[n]? = some a → ρ'[n]? = some a
  tup : ∀ (a : Addr) (xs : List V), H a = some (.tup xs) → H' a = some (.tup xs)
  frm' : ∀ (a : Addr) (u : HO), H a = some u → a ∉ ρ → (∀ ps, u ≠ .tbl ps) → H' a = some u
  new_ : ∀ (a : Addr), a ∈ ρ' → a ∉ ρ → H a = none ∨ ∃ ps, H a = some (.tbl ps)
def RKV (ρ : List Addr) (H : Hp) : List (D × D) → List (Key × V) → Prop := Paired fun p q => keyD p.1 = some q.1 ∧ RD K mg ρ H p.2 q.2
def RKT (ρ : List Addr) (H : Hp) : List (D × D) → List (List Key × V) → Prop := Paired fun p q => keyT p.1 = some q.1 ∧ RD K mg ρ H p.2 q.2
def RFS (ρ : List Addr) (H : Hp) : List (Str × D) → List (Str × V) → Prop := Paired fun p q => p.1 = q.1 ∧ RD K mg ρ H p.2 q.2
def RO (ρ : List Addr) (H : Hp) (a : Addr) : O → Prop
  | .lst ds => ∃ vs, H a = some (.lst vs) ∧ RDs K mg ρ H ds vs
  | .frz ds => ∃ o vs, H a = some (.frz o (.lst vs)) ∧ RDs K mg ρ H ds vs
  | .dict kvs => (∃ ks, H a = some (.dK ks) ∧ RKV K mg ρ H kvs ks) ∨ (∃ ks, H a = some (.dT ks) ∧ RKT K mg ρ H kvs ks) ∧ kvs ≠ []
  | .ins c fs => ∃ C dx vs, mg c = some (.ref C) ∧ H a = some (.ins C dx vs) ∧ RFS K mg ρ H fs vs
structure RS [Tb] (ρ : List Addr) (H : Hp) (st : Store) : Prop where
  len : ρ.length = st.length
  nd : ρ.Nodup
  ob : ∀ (n : Nat) (a : Addr) (o : O), ρ[n]? = some a → st[n]? = some o → RO K mg ρ H a o
  tb : LamX.Tabs Tb.T H
structure RE (ρ : List Addr) (H : Hp) (σ : L2.St) (e : Loc) : Prop where
  len : σ.length = e.length
  at_ : ∀ (i : Nat) (d : D), e[i]? = some (some d) → ∃ v, σ[i]? = some (some v) ∧ RD K mg ρ H d v
def RX (ρ : List Addr) (H : Hp) (c : Str) (pl : List (Str × D)) (cls : Value) (dd : Option Addr) : Prop :=
  ∃ C, mg c = some (.ref C) ∧ cls = .ref C ∧ ((pl = [] ∧ dd = none) ∨ ∃ d fs, dd = some d ∧ H d = some (.xd fs) ∧ RFS K mg ρ H pl fs ∧ pl ≠ [])
end

section
variable {K : PySem.W.Frag} {mg : Str → Option Value} {ρ ρ' ρ'' : List Addr} {H H' H'' : Hp}
theorem Ext.refl : Ext K ρ H ρ H := ⟨fun _ _ h => h, fun _ _ h => h, fun _ _ h _ _ => h, fun _ h n => absurd h n⟩
theorem Ext.frm (x : Ext K ρ H ρ' H') (a : Addr) (u : HO) (h : H a = some u) (n : a ∉ ρ) (p : ∀ ps, u ≠ .tbl ps := by intro _ z; cases z) : H' a = some u := x.frm' a u h n p
theorem Ext.trans (a : Ext K ρ H ρ' H') (b : Ext K ρ' H' ρ'' H'') : Ext K ρ H ρ'' H'' := ⟨fun n x h => b.pre n x (a.pre n x h), fun x xs h => b.tup x xs (a.tup x xs h),
  fun x u h n p => b.frm' x u (a.frm' x u h n p) (fun hm => by
    rcases a.new_ x hm n with q | ⟨ps, q⟩
    · rw [h] at q; cases q
    · rw [h] at q; exact p ps (Option.some.inj q)) p,
  fun x hx n => by
    by_cases hm : x ∈ ρ'
    · exact a.new_ x hm n
    · cases q : H x with
      | none => exact .inl rfl
      | some u =>
        by_cases p : ∀ ps, u ≠ .tbl ps
        · have e := a.frm' x u q n p
          rcases b.new_ x hx hm with z | ⟨ps, z⟩
          · rw [e] at z; cases z
          · rw [e] at z; exact absurd (Option.some.inj z) (p ps)
        · obtain ⟨ps, hp⟩ := Classical.not_forall.mp p
          exact .inr ⟨ps, by rw [Classical.not_not.mp hp]⟩⟩
/-- the part of Ext that values ask -/
structure Wk (K : PySem.W.Frag) (ρ : List Addr) (H : Hp) (ρ' : List Addr) (H' : Hp) : Prop where
  pre : ∀ (n : Nat) (a : Addr), ρ[n]? = some a → ρ'[n]? = some a
  tup : ∀ (a : Addr) (xs : List V), H a = some (.tup xs) → H' a = some (.tup xs)
theorem Ext.wk (x : Ext K ρ H ρ' H') : Wk K ρ H ρ' H' := ⟨x.pre, x.tup⟩
theorem Wk.refl : Wk K ρ H ρ H := ⟨fun _ _ h => h, fun _ _ h => h⟩
theorem Wk.trans (a : Wk K ρ H ρ' H') (b : Wk K ρ' H' ρ'' H'') : Wk K ρ H ρ'' H'' := ⟨fun n x h => b.pre n x (a.pre n x h), fun x xs h => b.tup x xs (a.tup x xs h)⟩
mutual
theorem RD.mo (x : Wk K ρ H ρ' H') : ∀ {d : D} {v : V}, RD K mg ρ H d v → RD K mg ρ' H' d v
  | .non, _, h => by simp only [RD] at h ⊢; exact h
  | .bl _, _, h => by simp only [RD] at h ⊢; exact h
  | .int _, _, h => by simp only [RD] at h ⊢; exact h
  | .str _, _, h => by simp only [RD] at h ⊢; exact h
  | .tup ds, _, h => by
    simp only [RD] at h ⊢
    obtain ⟨a, xs, e, s, r⟩ := h
    exact ⟨a, xs, e, x.tup _ _ s, RDs.mo x r⟩
  | .kt ds, _, h => by
    simp only [RD] at h ⊢
    obtain ⟨a, xs, o, its, n, e, s, r⟩ := h
    exact ⟨a, xs, o, its, n, e, s, RDs.mo x r⟩
  | .kl ds, _, h => by
    simp only [RD] at h ⊢
    obtain ⟨a, xs, o, its, n, e, s, r⟩ := h
    exact ⟨a, xs, o, its, n, e, s, RDs.mo x r⟩
  | .ref _, _, h => by
    simp only [RD] at h ⊢
    obtain ⟨a, e, s⟩ := h
    exact ⟨a, e, x.pre _ _ s⟩
  | .gl _, _, h => by simp only [RD] at h ⊢; exact h
  | .adr _, _, h => by simp only [RD] at h ⊢; exact h
theorem RDs.mo (x : Wk K ρ H ρ' H') : ∀ {ds : List D} {vs : List V}, RDs K mg ρ H ds vs → RDs K mg ρ' H' ds vs
  | [], _, h => by simp only [RDs] at h ⊢; exact h
  | d :: ds, _, h => by
    simp only [RDs] at h ⊢
    obtain ⟨y, ys, e, h1, h2⟩ := h
    exact ⟨y, ys, e, RD.mo x h1, RDs.mo x h2⟩
end
theorem RD.mono (x : Ext K ρ H ρ' H') {d : D} {v : V} (h : RD K mg ρ H d v) : RD K mg ρ' H' d v := h.mo x.wk
theorem RDs.mono (x : Ext K ρ H ρ' H') {d : List D} {v : List V} (h : RDs K mg ρ H d v) : RDs K mg ρ' H' d v := h.mo x.wk
theorem RDs.length : ∀ {ds : List D} {vs : List V}, RDs K mg ρ H ds vs → ds.length = vs.length
  | [], _, h => by simp only [RDs] at h; rw [h]; rfl
  | d :: ds, _, h => by
    simp only [RDs] at h
    obtain ⟨y, ys, e, h1, h2⟩ := h
    rw [e, List.length_cons, List.length_cons, RDs.length h2]
theorem RDs.get : ∀ {ds : List D} {vs : List V} {i : Nat} {d : D}, RDs K mg ρ H ds vs → ds[i]? = some d → ∃ v, vs[i]? = some v ∧ RD K mg ρ H d v
  | [], _, _, _, _, e => by simp at e
  | d :: ds, _, i, x, h, e => by
    simp only [RDs] at h
    obtain ⟨y, ys, rfl, h1, h2⟩ := h
    cases i with
    | zero => simp at e; subst e; exact ⟨y, rfl, h1⟩
    | succ i =>
      obtain ⟨v, a, b⟩ := RDs.get (i := i) h2 (by simpa using e)
      exact ⟨v, by simpa using a, b⟩
theorem RDs.get' : ∀ {ds : List D} {vs : List V} {i : Nat} {v : V}, RDs K mg ρ H ds vs → vs[i]? = some v → ∃ d, ds[i]? = some d ∧ RD K mg ρ H d v
  | [], _, _, _, h, e => by simp only [RDs] at h; subst h; simp at e
  | d :: ds, _, i, x, h, e => by
    simp only [RDs] at h
    obtain ⟨y, ys, rfl, h1, h2⟩ := h
    cases i with
    | zero => simp at e; subst e; exact ⟨d, rfl, h1⟩
    | succ i =>
      obtain ⟨v, a, b⟩ := RDs.get' (i := i) h2 (by simpa using e)
      exact ⟨v, by simpa using a, b⟩
theorem RDs.append : ∀ {ds es : List D} {vs us : List V}, RDs K mg ρ H ds vs → RDs K mg ρ H es us → RDs K mg ρ H (ds ++ es) (vs ++ us)
  | [], _, _, _, h, q => by simp only [RDs] at h; subst h; exact q
  | d :: ds, _, _, _, h, q => by
    simp only [RDs] at h
    obtain ⟨y, ys, rfl, h1, h2⟩ := h
    show RDs K mg ρ H (d :: (ds ++ _)) (y :: (ys ++ _))
    simp only [RDs]
    exact ⟨y, _, rfl, h1, RDs.append h2 q⟩
theorem RDs.nil : RDs K mg ρ H [] [] := by simp only [RDs]
theorem RDs.cons {d : D} {ds : List D} {v : V} {vs : List V} (h : RD K mg ρ H d v) (t : RDs K mg ρ H ds vs) : RDs K mg ρ H (d :: ds) (v :: vs) := by
  simp only [RDs]; exact ⟨v, vs, rfl, h, t⟩
theorem RDs.uncons {d : D} {ds : List D} {vs : List V} (h : RDs K mg ρ H (d :: ds) vs) : ∃ x xs, vs = x :: xs ∧ RD K mg ρ H d x ∧ RDs K mg ρ H ds xs := by
  simpa only [RDs] using h
theorem RDs.take : ∀ {ds : List D} {vs : List V} (n : Nat), RDs K mg ρ H ds vs → RDs K mg ρ H (ds.take n) (vs.take n)
  | _, _, 0, _ => .nil
  | [], _, _ + 1, h => by simp only [RDs] at h; subst h; exact .nil
  | d :: ds, _, n + 1, h => by
    obtain ⟨y, ys, rfl, h1, h2⟩ := h.uncons
    exact .cons h1 (RDs.take n h2)
theorem RDs.drop : ∀ {ds : List D} {vs : List V} (n : Nat), RDs K mg ρ H ds vs → RDs K mg ρ H (ds.drop n) (vs.drop n)
  | _, _, 0, h => h
  | [], _, _ + 1, h => by simp only [RDs] at h; subst h; exact .nil
  | d :: ds, _, n + 1, h => by
    obtain ⟨y, ys, rfl, h1, h2⟩ := h.uncons
    exact RDs.drop n h2
theorem RDs.set {d : D} {v : V} (r : RD K mg ρ H d v) : ∀ {ds : List D} {vs : List V} (n : Nat), RDs K mg ρ H ds vs → RDs K mg ρ H (ds.set n d) (vs.set n v)
  | [], _, _, h => by simp only [RDs] at h; subst h; exact .nil
  | _ :: ds, _, n, h => by
    obtain ⟨y, ys, rfl, h1, h2⟩ := h.uncons
    cases n with
    | zero => exact .cons r h2
    | succ n => exact .cons h1 (RDs.set r n h2)
theorem Paired.imp {α β : Type} {F G : α → β → Prop} (f : ∀ a b, F a b → G a b) : ∀ {l₁ : List α} {l₂ : List β}, Paired F l₁ l₂ → Paired G l₁ l₂
  | _, _, .nil => .nil
  | _, _, .cons r t => .cons (f _ _ r) (Paired.imp f t)
theorem RO.mo {a : Addr} {o : O} (x : Wk K ρ H ρ' H') (h : RO K mg ρ H a o) (k : ∀ u, H a = some u → H' a = some u) : RO K mg ρ' H' a o := by
  cases o with
  | lst ds => obtain ⟨vs, e, r⟩ := h; exact ⟨vs, k _ e, r.mo x⟩
  | frz ds => obtain ⟨o, vs, e, r⟩ := h; exact ⟨o, vs, k _ e, r.mo x⟩
  | dict kvs =>
    rcases h with ⟨ks, e, r⟩ | ⟨⟨ks, e, r⟩, ne⟩
    · exact .inl ⟨ks, k _ e, Paired.imp (fun _ _ q => ⟨q.1, q.2.mo x⟩) r⟩
    · exact .inr ⟨⟨ks, k _ e, Paired.imp (fun _ _ q => ⟨q.1, q.2.mo x⟩) r⟩, ne⟩
  | ins c fs => obtain ⟨C, dx, vs, m, e, r⟩ := h; exact ⟨C, dx, vs, m, k _ e, Paired.imp (fun _ _ q => ⟨q.1, q.2.mo x⟩) r⟩
theorem RO.mono {a : Addr} {o : O} (x : Ext K ρ H ρ' H') (h : RO K mg ρ H a o) (k : ∀ u, H a = some u → H' a = some u) : RO K mg ρ' H' a o := h.mo x.wk k
theorem RO.is {a : Addr} {o : O} (h : RO K mg ρ H a o) : ∃ u, H a = some u ∧ ∀ xs, H a ≠ some (.tup xs) := by
  have aux : ∀ u, H a = some u → (∀ xs, u ≠ .tup xs) → ∃ u, H a = some u ∧ ∀ xs, H a ≠ some (.tup xs) := fun u e h1 => ⟨u, e, fun xs r => by rw [e] at r; exact h1 xs (Option.some.inj r)⟩
  cases o with
  | lst ds => obtain ⟨vs, e, r⟩ := h; exact aux _ e (fun _ z => nomatch z)
  | frz ds => obtain ⟨o, vs, e, r⟩ := h; exact aux _ e (fun _ z => nomatch z)
  | dict kvs =>
    rcases h with ⟨ks, e, r⟩ | ⟨⟨ks, e, r⟩, ne⟩
    · exact aux _ e (fun _ z => nomatch z)
    · exact aux _ e (fun _ z => nomatch z)
  | ins c fs => obtain ⟨C, dx, vs, m, e, r⟩ := h; exact aux _ e (fun _ z => nomatch z)
theorem RO.pl {a : Addr} {o : O} (h : RO K mg ρ H a o) : ∃ u, H a = some u ∧ Pl u := by
  cases o with
  | lst ds => obtain ⟨vs, e, r⟩ := h; exact ⟨_, e, .lst⟩
  | frz ds => obtain ⟨o, vs, e, r⟩ := h; exact ⟨_, e, .frz⟩
  | dict kvs =>
    rcases h with ⟨ks, e, r⟩ | ⟨⟨ks, e, r⟩, ne⟩
    · exact ⟨_, e, .dK⟩
    · exact ⟨_, e, .dT⟩
  | ins c fs => obtain ⟨C, dx, vs, m, e, r⟩ := h; exact ⟨_, e, .ins⟩
variable [Tb]
theorem RS.at_ {st : Store} {n : Nat} {o : O} (h : RS K mg ρ H st) (e : st[n]? = some o) : ∃ a, ρ[n]? = some a ∧ RO K mg ρ H a o := by
  have hn : n < ρ.length := by rw [h.len]; exact (List.getElem?_eq_some_iff.mp e).1
  exact ⟨ρ[n], List.getElem?_eq_getElem hn, h.ob n _ _ (List.getElem?_eq_getElem hn) e⟩
theorem RS.of_ {st : Store} {n : Nat} {a : Addr} (h : RS K mg ρ H st) (e : ρ[n]? = some a) : ∃ o, st[n]? = some o ∧ RO K mg ρ H a o := by
  have hn : n < st.length := by rw [← h.len]; exact (List.getElem?_eq_some_iff.mp e).1
  exact ⟨st[n], List.getElem?_eq_getElem hn, h.ob n _ _ e (List.getElem?_eq_getElem hn)⟩
omit [Tb] in
omit [Tb] in
theorem tup_new {p : Addr} {ho : HO} {a : Addr} {xs : List V} (hp : H p = none) (h : H a = some (.tup xs)) : (upd H p ho) a = some (.tup xs) := by
  rw [upd_ne (ne_of_none h hp)]; exact h
omit [Tb] in
omit [Tb] in
theorem Ext.new {p : Addr} {ho : HO} (hp : H p = none) : Ext K ρ H ρ (upd H p ho) := ⟨fun _ _ h => h, fun _ _ h => tup_new hp h, fun a u h _ _ => by rw [upd_ne (ne_of_none h hp)]; exact h, fun _ h n => absurd h n⟩
omit [Tb] in
omit [Tb] in
theorem Ext.push {p : Addr} {ho : HO} (hp : H p = none) : Ext K ρ H (ρ ++ [p]) (upd H p ho) := ⟨fun n a h => by
  rw [List.getElem?_append_left (List.getElem?_eq_some_iff.mp h).1]; exact h, fun _ _ h => tup_new hp h, fun a u h _ _ => by rw [upd_ne (ne_of_none h hp)]; exact h, fun a h n => by
    rcases List.mem_append.mp h with h | h
    · exact absurd h n
    · simp at h; subst h; exact .inl hp⟩
/-- a new tuple -/
theorem RS.tupnew {st : Store} {p : Addr} {ho : HO} (h : RS K mg ρ H st) (hp : H p = none) : RS K mg ρ (upd H p ho) st :=
  ⟨h.len, h.nd, fun n a o e1 e2 => (h.ob n a o e1 e2).mono (Ext.new hp) fun u e => by rw [upd_ne (ne_of_none e hp)]; exact e, tabs_new hp h.tb⟩
theorem RS.fresh {st : Store} {p : Addr} (h : RS K mg ρ H st) (hp : H p = none) : p ∉ ρ := fun hm => by
  obtain ⟨n, hn, e⟩ := List.getElem_of_mem hm
  obtain ⟨o, _, r⟩ := h.of_ (n := n) (a := p) (by rw [List.getElem?_eq_getElem hn, e])
  obtain ⟨u, e2, _⟩ := r.is
  rw [hp] at e2; cases e2
/-- a new object -/
theorem RS.push {st : Store} {p : Addr} {ho : HO} {o : O} (h : RS K mg ρ H st) (hp : H p = none) (new : RO K mg (ρ ++ [p]) (upd H p ho) p o) : RS K mg (ρ ++ [p]) (upd H p ho) (st ++ [o]) := by
  refine ⟨by simp [h.len], List.nodup_append.mpr ⟨h.nd, by simp, fun a ha b hb => by simp at hb; subst hb; intro z; subst z; exact h.fresh hp ha⟩, fun n a u e1 e2 => ?_, tabs_new hp h.tb⟩
  by_cases hn : n < ρ.length
  · rw [List.getElem?_append_left hn] at e1
    rw [List.getElem?_append_left (by rw [← h.len]; exact hn)] at e2
    exact (h.ob n a u e1 e2).mono (Ext.push hp) fun w e => by rw [upd_ne (ne_of_none e hp)]; exact e
  · have hn' : n = ρ.length := by
      have := (List.getElem?_eq_some_iff.mp e1).1
      simp at this
      omega
    subst hn'
    simp at e1
    rw [h.len] at e2
    simp at e2
    subst e1; subst e2
    exact new
omit [Tb] in
omit [Tb] in
theorem Wk.write {a : Addr} {ho : HO} (hm : ∀ xs, H a ≠ some (.tup xs)) : Wk K ρ H ρ (upd H a ho) := ⟨fun _ _ h => h, fun b xs h => by
  have nb : b ≠ a := fun z => hm xs (by rw [← z]; exact h)
  rw [upd_ne nb]; exact h⟩
/-- an object that is not told is changed -/
theorem RS.beside {st : Store} {a : Addr} {ho : HO} (h : RS K mg ρ H st) (ha : a ∉ ρ) (hm : ∀ xs, H a ≠ some (.tup xs)) (pl : ∃ u, H a = some u ∧ Pl u) : RS K mg ρ (upd H a ho) st :=
  ⟨h.len, h.nd, fun n b o e1 e2 => (h.ob n b o e1 e2).mo (Wk.write hm) fun u q => by
    rw [upd_ne (fun z => ha (by rw [← z]; exact List.mem_of_getElem? e1))]; exact q, let ⟨_, e, p⟩ := pl; tabs_upd e p h.tb⟩
theorem Ext.beside {a : Addr} {ho : HO} (x : Ext K ρ H ρ' H') (h0 : H a = none) (hm : ∀ xs, H' a ≠ some (.tup xs)) : Ext K ρ H ρ' (upd H' a ho) :=
  ⟨x.pre, fun b xs s => (Wk.write (ρ := ρ) (K := K) hm).tup b xs (x.tup b xs s), fun b u e n p => by rw [upd_ne (ne_of_none e h0)]; exact x.frm' b u e n p, x.new_⟩
theorem Ext.write {a : Addr} {ho : HO} (ha : a ∈ ρ) (hm : ∀ xs, H a ≠ some (.tup xs)) (pl : ∃ u, H a = some u ∧ Pl u) : Ext K ρ H ρ (upd H a ho) := ⟨fun _ _ h => h, (Wk.write (ρ := ρ) (K := K) hm).tup, fun b u h n _ => by rw [upd_ne (fun z => n (by rw [z]; exact ha))]; exact h, fun _ h n => absurd h n⟩
/-- an object is changed -/
theorem RS.write {st : Store} {n : Nat} {a : Addr} {ho : HO} {o : O} (h : RS K mg ρ H st) (e : ρ[n]? = .some a) (new : RO K mg ρ (upd H a ho) a o) : RS K mg ρ (upd H a ho) (st.set n o) ∧ Ext K ρ H ρ (upd H a ho) := by
  obtain ⟨u, eu, ru⟩ := h.of_ e
  obtain ⟨w, ew, hm⟩ := ru.is
  have hn : n < st.length := (List.getElem?_eq_some_iff.mp eu).1
  have ha : a ∈ ρ := List.mem_of_getElem? e
  refine ⟨⟨by simp [h.len], h.nd, fun m b x e1 e2 => ?_, let ⟨_, e, p⟩ := ru.pl; tabs_upd e p h.tb⟩, Ext.write ha hm ru.pl⟩
  by_cases hmn : m = n
  · subst hmn
    rw [e] at e1; cases e1
    rw [List.getElem?_set_self hn] at e2; cases e2
    exact new
  · rw [List.getElem?_set_ne (Ne.symm hmn)] at e2
    have nb : b ≠ a := fun z => by
      subst z
      have i1 := List.getElem?_eq_some_iff.mp e1
      have i2 := List.getElem?_eq_some_iff.mp e
      obtain ⟨l1, q1⟩ := i1
      obtain ⟨l2, q2⟩ := i2
      exact hmn ((List.getElem_inj h.nd).mp (q1.trans q2.symm))
    exact (h.ob m b x e1 e2).mono (Ext.write ha hm ru.pl) fun w e => by rw [upd_ne nb]; exact e
theorem RE.mono {σ : L2.St} {e : Loc} (h : RE K mg ρ H σ e) (x : Ext K ρ H ρ' H') : RE K mg ρ' H' σ e := ⟨h.len, fun i d q => by
  obtain ⟨v, a, b⟩ := h.at_ i d q
  exact ⟨v, a, b.mono x⟩⟩
theorem RE.set {σ : L2.St} {e : Loc} {i : Nat} {d : D} {v : V} (h : RE K mg ρ H σ e) (r : RD K mg ρ H d v) : RE K mg ρ H (σ.set i (.some v)) (e.set i (.some d)) := ⟨by simp [h.len], fun j x q => by
  by_cases hj : i = j
  · subst hj
    have hl : i < e.length := by
      have := (List.getElem?_eq_some_iff.mp q).1
      simpa using this
    rw [List.getElem?_set_self hl] at q
    cases q
    exact ⟨v, by rw [List.getElem?_set_self (by rw [h.len]; exact hl)], r⟩
  · rw [List.getElem?_set_ne hj] at q ⊢
    exact h.at_ j x q⟩
end
end Py

set_option Elab.async false
set_option linter.all false
set_option maxRecDepth 100000
set_option maxHeartbeats 1000000
namespace Py
open PySem PySem.Spec PyProof.Rows L2
variable [Tb]

section
variable {K : PySem.W.Frag} {mg : Str → Option Value} {ρ ρ' ρ'' : List Addr} {H H' H'' : Hp}

/-- what is wanted of an outcome -/
def Post {α β : Type} (K : PySem.W.Frag) (mg : Str → Option Value) (Rel : List Addr → Hp → α → β → Prop) (W : WX) (σ : L2.St) (Q : β → Hp → Prop) (ρ : List Addr) (H : Hp) : R α → Prop
  | .ok a st' => ∀ ρ' H' v, Ext K ρ H ρ' H' → RS K mg ρ' H' st' → Rel ρ' H' a v → Q v H'
  | .ex c pl st' => ∀ ρ' H' cls dd, Ext K ρ H ρ' H' → RS K mg ρ' H' st' → RX K mg ρ' H' c pl cls dd → W cls dd σ H'
  | .stuck => False
variable {α β γ δ : Type} {Rel : List Addr → Hp → α → β → Prop} {Rel2 : List Addr → Hp → γ → δ → Prop} {W : WX} {σ : L2.St} {Q Q' : β → Hp → Prop}
theorem Post.rebase {r : R α} (h : Post K mg Rel W σ Q ρ H r) (x : Ext K ρ H ρ' H') : Post K mg Rel W σ Q ρ' H' r := by
  cases r with
  | ok a st => exact fun ρ2 H2 v e => h ρ2 H2 v (x.trans e)
  | ex c pl st => exact fun ρ2 H2 cls dd e => h ρ2 H2 cls dd (x.trans e)
  | stuck => exact h
theorem Post.imp {r : R α} (h : Post K mg Rel W σ Q ρ H r) (f : ∀ v H', Q v H' → Q' v H') : Post K mg Rel W σ Q' ρ H r := by
  cases r with
  | ok a st => exact fun ρ2 H2 v e s q => f _ _ (h ρ2 H2 v e s q)
  | ex c pl st => exact h
  | stuck => exact h
theorem Post.bind {r : R α} {f : α → Store → R γ} {Q2 : δ → Hp → Prop} (h : Post K mg Rel2 W σ Q2 ρ H (r.bind f)) :
    Post K mg Rel W σ (fun x H1 => ∃ a ρ1 st1, Ext K ρ H ρ1 H1 ∧ RS K mg ρ1 H1 st1 ∧ Rel ρ1 H1 a x ∧ Post K mg Rel2 W σ Q2 ρ1 H1 (f a st1)) ρ H r := by
  cases r with
  | ok a st => exact fun ρ1 H1 v e s q => ⟨a, ρ1, st, e, s, q, h.rebase e⟩
  | ex c pl st => exact h
  | stuck => exact h
/-- the reading of a meaning -/
def tG (K : PySem.W.Frag) (mg : Str → Option Value) {α β : Type} (Rel : List Addr → Hp → α → β → Prop) (W : WX) (m : Loc → Store → R α) : L2.St → Hp → (β → Hp → Prop) → Prop :=
  fun σ H Q => ∃ ρ e st, RS K mg ρ H st ∧ RE K mg ρ H σ e ∧ Post K mg Rel W σ Q ρ H (m e st)
omit [Tb] in
omit [Tb] in
abbrev RB : List Addr → Hp → Bool → Bool → Prop := fun _ _ a b => a = b
/-- a pure operation's outcome -/
def PostO (K : PySem.W.Frag) (mg : Str → Option Value) (Q : VK) (ρ : List Addr) (H : Hp) : Option (D × Store) → Prop
  | some (d, st') => ∀ ρ' H' v, Ext K ρ H ρ' H' → RS K mg ρ' H' st' → RD K mg ρ' H' d v → Q v H'
  | none => False
omit [Tb] in
omit [Tb] in
def ofO : Option (D × Store) → R D
  | some (d, st) => .ok d st
  | none => .stuck
omit [Tb] in
omit [Tb] in
@[simp] theorem ofO_some (d : D) (st : Store) : ofO (some (d, st)) = .ok d st := rfl
@[simp] theorem ofO_none : ofO none = .stuck := rfl
theorem Post.toO {o : Option (D × Store)} {Q : VK} (h : Post K mg (RD K mg) W σ Q ρ H (ofO o)) : PostO K mg Q ρ H o := by
  cases o with
  | none => exact h
  | some p => exact h
def r2 (K : PySem.W.Frag) (mg : Str → Option Value) (f : D → D → Store → Option (D × Store)) : R2 := fun x y H Q => ∃ ρ st d1 d2, RS K mg ρ H st ∧ RD K mg ρ H d1 x ∧ RD K mg ρ H d2 y ∧ PostO K mg Q ρ H (f d1 d2 st)
def r1 (K : PySem.W.Frag) (mg : Str → Option Value) (f : D → Store → Option (D × Store)) : V → Hp → VK → Prop := fun x H Q => ∃ ρ st d1, RS K mg ρ H st ∧ RD K mg ρ H d1 x ∧ PostO K mg Q ρ H (f d1 st)
def rN (K : PySem.W.Frag) (mg : Str → Option Value) (f : List D → Store → Option (D × Store)) : List V → Hp → VK → Prop := fun xs H Q => ∃ ρ st ds, RS K mg ρ H st ∧ RDs K mg ρ H ds xs ∧ PostO K mg Q ρ H (f ds st)
def rM (K : PySem.W.Frag) (mg : Str → Option Value) (f : D → List D → Store → Option (D × Store)) : V → List V → Hp → VK → Prop := fun x xs H Q => ∃ ρ st d ds, RS K mg ρ H st ∧ RD K mg ρ H d x ∧ RDs K mg ρ H ds xs ∧ PostO K mg Q ρ H (f d ds st)
end

omit [Tb] in
omit [Tb] in
theorem PE.imp {X : Cx} {e : Expr} {t t' : TE} (h : PE X e t) (f : ∀ σ H Q, t' σ H Q → t σ H Q) : PE X e t' := ⟨fun pins s σ H Q I q => h.run pins s σ H Q I (f _ _ _ q)⟩
omit [Tb] in
omit [Tb] in
theorem PT.imp {X : Cx} {e : Expr} {t t' : TT} (h : PT X e t) (f : ∀ σ H Q, t' σ H Q → t σ H Q) : PT X e t' := ⟨fun pins s σ H Q I q => h.run pins s σ H Q I (f _ _ _ q)⟩
omit [Tb] in
omit [Tb] in
theorem PW.imp {X : Cx} {e : Expr} {t t' : TT} (h : PW X e t) (f : ∀ σ H Q, t' σ H Q → t σ H Q) : PW X e t' := ⟨fun wh pins s σ H Q I q => h.run wh pins s σ H Q I (f _ _ _ q)⟩
omit [Tb] in
omit [Tb] in
theorem PA.imp {X : Cx} {e : List Expr} {t t' : TA} (h : PA X e t) (f : ∀ σ H Q, t' σ H Q → t σ H Q) : PA X e t' := ⟨fun p pins s σ H Q I q => h.run p pins s σ H Q I (f _ _ _ q)⟩
omit [Tb] in
omit [Tb] in
theorem PS.imp {X : Cx} {e : Stmt} {t t' : TS} (h : PS X e t) (f : ∀ D σ H, t' D σ H → t D σ H) : PS X e t' := ⟨fun pins s σ H Q I q => h.run pins s σ H Q I (f _ _ _ q)⟩
omit [Tb] in
omit [Tb] in
theorem PSs.imp {X : Cx} {e : List Stmt} {t t' : TS} (h : PSs X e t) (f : ∀ D σ H, t' D σ H → t D σ H) : PSs X e t' := ⟨fun pins s σ H Q I q => h.run pins s σ H Q I (f _ _ _ q)⟩
omit [Tb] in
omit [Tb] in
theorem OpR.imp {X : Cx} {f : Value → Value → Sem Value} {r r' : R2} (h : OpR X f r) (g : ∀ x y H Q, r' x y H Q → r x y H Q) : OpR X f r' := fun pins s σ H x y v u Q I rx ry q => h pins s σ H x y v u Q I rx ry (g _ _ _ _ q)
omit [Tb] in
omit [Tb] in
theorem UnR.imp {X : Cx} {f : Value → Sem Value} {r r' : V → Hp → VK → Prop} (h : UnR X f r) (g : ∀ x H Q, r' x H Q → r x H Q) : UnR X f r' := fun pins s σ H x v Q I rx q => h pins s σ H x v Q I rx (g _ _ _ q)
omit [Tb] in
omit [Tb] in
theorem CallR.imp {X : Cx} {f : Value} {r r' : List V → Hp → VK → Prop} (h : CallR X f r) (g : ∀ x H Q, r' x H Q → r x H Q) : CallR X f r' := fun pins s σ H x v Q I rx q => h pins s σ H x v Q I rx (g _ _ _ q)
omit [Tb] in
omit [Tb] in
theorem CallR.or {X : Cx} {f : Value} {r r' : List V → Hp → VK → Prop} (h : CallR X f r) (h' : CallR X f r') : CallR X f (fun x H Q => r x H Q ∨ r' x H Q) := fun pins s σ H x v Q I rx q => by
  rcases q with q | q
  · exact h pins s σ H x v Q I rx q
  · exact h' pins s σ H x v Q I rx q
omit [Tb] in
omit [Tb] in
theorem MtR.imp {X : Cx} {f : String} {r r' : V → List V → Hp → VK → Prop} (h : MtR X f r) (g : ∀ x xs H Q, r' x xs H Q → r x xs H Q) : MtR X f r' := fun pins s σ H x xs v us Q I rx rs q => h pins s σ H x xs v us Q I rx rs (g _ _ _ _ q)

/-! ### expressions -/
section
variable {X : Cx} {W : WX}
/-- e means m -/
abbrev SE (X : Cx) (W : WX) (e : Expr) (m : Loc → Store → R D) : Prop := PE X e (tG X.K X.mg (RD X.K X.mg) W m)
abbrev ST (X : Cx) (W : WX) (e : Expr) (m : Loc → Store → R Bool) : Prop := PT X e (tG X.K X.mg RB W m)
abbrev SW (X : Cx) (W : WX) (e : Expr) (m : Loc → Store → R Bool) : Prop := PW X e (tG X.K X.mg RB W m)
abbrev SA (X : Cx) (W : WX) (es : List Expr) (m : Loc → Store → R (List D)) : Prop := PA X es (tG X.K X.mg (RDs X.K X.mg) W m)
variable {a b c e : Expr} {es : List Expr} {pos : Pos} {ma mb mc : Loc → Store → R D}

omit [Tb] in
omit [Tb] in
def mVar (i : Nat) : Loc → Store → R D := fun e st => match e[i]? with | some (some d) => .ok d st | _ => .stuck
theorem se_var {i : Nat} {x : Str} (hN : X.N[i]? = some x) (hv : Vis X.env.scope x) (hd : (x == ("__debug__" : Str)) = false) (hcd : (x == ("__classdict__" : Str)) = false) : SE X W (.Name x pos) (mVar i) :=
  PE.imp (pe_var hN hv hd hcd) fun σ H Q ⟨ρ, e, st, rs, re, p⟩ => by
    unfold mVar at p
    split at p
    · rename_i d hd
      obtain ⟨v, e1, r⟩ := re.at_ i d hd
      exact ⟨v, e1, p ρ H v .refl rs r⟩
    · exact p.elim
omit [Tb] in
omit [Tb] in
def mC (d : D) : Loc → Store → R D := fun _ st => .ok d st
theorem se_const {t : TE} {d : D} {v : V} (h : PE X e (tC v)) (r : ∀ ρ H, RD X.K X.mg ρ H d v) : SE X W e (mC d) :=
  PE.imp h fun σ H Q ⟨ρ, e, st, rs, re, p⟩ => p ρ H v .refl rs (r ρ H)
theorem se_int {i j} : SE X W (.Constant (.int i) j pos) (mC (.int i)) := PE.imp pe_int fun σ H Q ⟨ρ, e, st, rs, re, p⟩ => p ρ H _ .refl rs (by simp only [RD])
theorem se_bl {i j} : SE X W (.Constant (.bool i) j pos) (mC (.bl i)) := PE.imp pe_bl fun σ H Q ⟨ρ, e, st, rs, re, p⟩ => p ρ H _ .refl rs (by simp only [RD])
theorem se_str {i j} : SE X W (.Constant (.str i) j pos) (mC (.str i)) := PE.imp pe_str fun σ H Q ⟨ρ, e, st, rs, re, p⟩ => p ρ H _ .refl rs (by simp only [RD])
theorem se_non {j} : SE X W (.Constant .none j pos) (mC .non) := PE.imp pe_non fun σ H Q ⟨ρ, e, st, rs, re, p⟩ => p ρ H _ .refl rs (by simp only [RD])

omit [Tb] in
omit [Tb] in
def mOp2 (f : D → D → Store → Option (D × Store)) (ma mb : Loc → Store → R D) : Loc → Store → R D := fun e st => (ma e st).bind fun x st => (mb e st).bind fun y st => ofO (f x y st)
theorem tOp_of {r : R2} {f : D → D → Store → Option (D × Store)} (hr : ∀ x y H Q, r2 X.K X.mg f x y H Q → r x y H Q) (σ : L2.St) (H : Hp) (Q : VK) (h : tG X.K X.mg (RD X.K X.mg) W (mOp2 f ma mb) σ H Q) :
    tOp r (tG X.K X.mg (RD X.K X.mg) W ma) (tG X.K X.mg (RD X.K X.mg) W mb) σ H Q := by
  obtain ⟨ρ, e, st, rs, re, p⟩ := h
  refine ⟨ρ, e, st, rs, re, (Post.bind p).imp fun x H1 ⟨d, ρ1, st1, x1, rs1, rd1, p1⟩ => ?_⟩
  refine ⟨ρ1, e, st1, rs1, re.mono x1, (Post.bind p1).imp fun y H2 ⟨d2, ρ2, st2, x2, rs2, rd2, p2⟩ => ?_⟩
  exact hr _ _ _ _ ⟨ρ2, st2, d, d2, rs2, rd1.mono x2, rd2, p2.toO⟩
theorem se_op {op : Operator} {f : D → D → Store → Option (D × Store)} (ho : OpR X (binaryOp op) (r2 X.K X.mg f)) (ha : SE X W a ma) (hb : SE X W b mb) : SE X W (.BinOp a op b pos) (mOp2 f ma mb) :=
  PE.imp (pe_op ho ha hb) (tOp_of fun _ _ _ _ h => h)
theorem se_cmp {op : CmpOp} {f : D → D → Store → Option (D × Store)} (ho : OpR X (compareOp op) (r2 X.K X.mg f)) (ha : SE X W a ma) (hb : SE X W b mb) (hm : behindInMarks op b = false) : SE X W (.Compare a [op] [b] pos) (mOp2 f ma mb) :=
  PE.imp (pe_cmpR ho ha hb hm) (tOp_of fun _ _ _ _ h => h)
omit [Tb] in
omit [Tb] in
def asB (m : Loc → Store → R D) : Loc → Store → R Bool := fun e st => (m e st).bind fun d st => match d with | .bl b => .ok b st | _ => .stuck
theorem asB_of {m : Loc → Store → R D} (σ : L2.St) (H : Hp) (Q : Bool → Hp → Prop) (h : tG X.K X.mg RB W (asB m) σ H Q) : tG X.K X.mg (RD X.K X.mg) W m σ H (fun x H' => ∃ k, x = .bl k ∧ Q k H') := by
  obtain ⟨ρ, e, st, rs, re, p⟩ := h
  refine ⟨ρ, e, st, rs, re, (Post.bind p).imp fun x H1 ⟨d, ρ1, st1, x1, rs1, rd1, p1⟩ => ?_⟩
  cases d with
  | bl b =>
    simp only [RD] at rd1
    exact ⟨b, rd1, p1 ρ1 H1 b .refl rs1 rfl⟩
  | _ => exact p1.elim
theorem st_cmp {op : CmpOp} {f : D → D → Store → Option (D × Store)} (ho : OpR X (compareOp op) (r2 X.K X.mg f)) (ha : SE X W a ma) (hb : SE X W b mb) (hm : behindInMarks op b = false) : ST X W (.Compare a [op] [b] pos) (asB (mOp2 f ma mb)) :=
  PT.imp (pt_cmpR ho ha hb hm) fun σ H Q h => tOp_of (fun _ _ _ _ h => h) σ H _ (asB_of σ H Q h)
omit [Tb] in
omit [Tb] in
/-- shapes whose truth is asked of their value -/
def plainT : Expr → Bool
  | .UnaryOp .Not _ _ => false
  | .BoolOp .. => false
  | .IfExp .. => false
  | .Compare .. => false
  | _ => true
omit [Tb] in
omit [Tb] in
theorem plainT_ok {e : Expr} (h : plainT e = true) (env : PySem.Env) (whole : Sem Value) : isTrue e env whole = (do let v ← whole; standAt e.pos; holding [v] (truthy v)) := by
  cases e with
  | UnaryOp op x p => cases op <;> first | rfl | (exact absurd h (by simp [plainT]))
  | BoolOp => exact absurd h (by simp [plainT])
  | IfExp => exact absurd h (by simp [plainT])
  | Compare => exact absurd h (by simp [plainT])
  | _ => rfl
theorem st_val (h : SE X W e ma) (hp : plainT e = true) : ST X W e (asB ma) :=
  PT.imp (pt_val h fun whole => plainT_ok hp _ _) fun σ H Q q => asB_of σ H Q q

/-! and, or, not, if -/
omit [Tb] in
omit [Tb] in
def mAnd (ma mb : Loc → Store → R Bool) : Loc → Store → R Bool := fun e st => (ma e st).bind fun c st => if c = true then mb e st else .ok false st
omit [Tb] in
omit [Tb] in
def mOr (ma mb : Loc → Store → R Bool) : Loc → Store → R Bool := fun e st => (ma e st).bind fun c st => if c = true then .ok true st else mb e st
omit [Tb] in
omit [Tb] in
def mNot (ma : Loc → Store → R Bool) : Loc → Store → R Bool := fun e st => (ma e st).bind fun c st => .ok (!c) st
variable {ta tb : Loc → Store → R Bool} {rest : List Expr}
theorem sw_and1 (h : ST X W a ta) : SW X W (.BoolOp .And [a] pos) ta := pw_and1 h
theorem sw_or1 (h : ST X W a ta) : SW X W (.BoolOp .Or [a] pos) ta := pw_or1 h
theorem sw_and (ha : ST X W a ta) (hb : SW X W (.BoolOp .And (b :: rest) pos) tb) : SW X W (.BoolOp .And (a :: b :: rest) pos) (mAnd ta tb) :=
  PW.imp (pw_and ha hb) fun σ H Q ⟨ρ, e, st, rs, re, p⟩ => by
    refine ⟨ρ, e, st, rs, re, (Post.bind p).imp fun x H1 ⟨d, ρ1, st1, x1, rs1, rd1, p1⟩ => ?_⟩
    cases rd1
    cases x with
    | true => exact ⟨ρ1, e, st1, rs1, re.mono x1, p1⟩
    | false => exact p1 ρ1 H1 false .refl rs1 rfl
theorem sw_or (ha : ST X W a ta) (hb : SW X W (.BoolOp .Or (b :: rest) pos) tb) : SW X W (.BoolOp .Or (a :: b :: rest) pos) (mOr ta tb) :=
  PW.imp (pw_or ha hb) fun σ H Q ⟨ρ, e, st, rs, re, p⟩ => by
    refine ⟨ρ, e, st, rs, re, (Post.bind p).imp fun x H1 ⟨d, ρ1, st1, x1, rs1, rd1, p1⟩ => ?_⟩
    cases rd1
    cases x with
    | true => exact p1 ρ1 H1 true .refl rs1 rfl
    | false => exact ⟨ρ1, e, st1, rs1, re.mono x1, p1⟩
theorem st_not (ha : ST X W a ta) : ST X W (.UnaryOp .Not a pos) (mNot ta) :=
  PT.imp (pt_not ha) fun σ H Q ⟨ρ, e, st, rs, re, p⟩ => by
    refine ⟨ρ, e, st, rs, re, (Post.bind p).imp fun x H1 ⟨d, ρ1, st1, x1, rs1, rd1, p1⟩ => ?_⟩
    cases rd1
    exact p1 ρ1 H1 _ .refl rs1 rfl
omit [Tb] in
omit [Tb] in
def mAndV (ma mb : Loc → Store → R D) : Loc → Store → R D := fun e st => (ma e st).bind fun d st => match d with | .bl true => mb e st | .bl false => .ok (.bl false) st | _ => .stuck
omit [Tb] in
omit [Tb] in
def mOrV (ma mb : Loc → Store → R D) : Loc → Store → R D := fun e st => (ma e st).bind fun d st => match d with | .bl true => .ok (.bl true) st | .bl false => mb e st | _ => .stuck
omit [Tb] in
omit [Tb] in
def mNotV (ma : Loc → Store → R D) : Loc → Store → R D := fun e st => (ma e st).bind fun d st => match d with | .bl b => .ok (.bl (!b)) st | _ => .stuck
theorem se_and (ha : SE X W a ma) (hb : SE X W (.BoolOp .And (b :: rest) pos) mb) : SE X W (.BoolOp .And (a :: b :: rest) pos) (mAndV ma mb) :=
  PE.imp (pe_and ha hb) fun σ H Q ⟨ρ, e, st, rs, re, p⟩ => by
    refine ⟨ρ, e, st, rs, re, (Post.bind p).imp fun x H1 ⟨d, ρ1, st1, x1, rs1, rd1, p1⟩ => ?_⟩
    cases d with
    | bl c =>
      simp only [RD] at rd1
      refine ⟨c, rd1, ?_⟩
      cases c with
      | true => exact ⟨ρ1, e, st1, rs1, re.mono x1, p1⟩
      | false => exact p1 ρ1 H1 _ .refl rs1 (by simp only [RD])
    | _ => exact p1.elim
theorem se_or (ha : SE X W a ma) (hb : SE X W (.BoolOp .Or (b :: rest) pos) mb) : SE X W (.BoolOp .Or (a :: b :: rest) pos) (mOrV ma mb) :=
  PE.imp (pe_or ha hb) fun σ H Q ⟨ρ, e, st, rs, re, p⟩ => by
    refine ⟨ρ, e, st, rs, re, (Post.bind p).imp fun x H1 ⟨d, ρ1, st1, x1, rs1, rd1, p1⟩ => ?_⟩
    cases d with
    | bl c =>
      simp only [RD] at rd1
      refine ⟨c, rd1, ?_⟩
      cases c with
      | false => exact ⟨ρ1, e, st1, rs1, re.mono x1, p1⟩
      | true => exact p1 ρ1 H1 _ .refl rs1 (by simp only [RD])
    | _ => exact p1.elim
theorem se_one {op} (h : SE X W a ma) : SE X W (.BoolOp op [a] pos) ma := pe_one h
theorem se_not (ha : SE X W a ma) : SE X W (.UnaryOp .Not a pos) (mNotV ma) :=
  PE.imp (pe_not ha) fun σ H Q ⟨ρ, e, st, rs, re, p⟩ => by
    refine ⟨ρ, e, st, rs, re, (Post.bind p).imp fun x H1 ⟨d, ρ1, st1, x1, rs1, rd1, p1⟩ => ?_⟩
    cases d with
    | bl c =>
      simp only [RD] at rd1
      exact ⟨c, rd1, p1 ρ1 H1 _ .refl rs1 (by simp only [RD])⟩
    | _ => exact p1.elim
omit [Tb] in
omit [Tb] in
def mIf (mt : Loc → Store → R Bool) (ma mb : Loc → Store → R D) : Loc → Store → R D := fun e st => (mt e st).bind fun c st => if c = true then ma e st else mb e st
theorem se_ifExp (hc : ST X W c ta) (ha : SE X W a ma) (hb : SE X W b mb) : SE X W (.IfExp c a b pos) (mIf ta ma mb) :=
  PE.imp (pe_ifExp hc ha hb) fun σ H Q ⟨ρ, e, st, rs, re, p⟩ => by
    refine ⟨ρ, e, st, rs, re, (Post.bind p).imp fun x H1 ⟨d, ρ1, st1, x1, rs1, rd1, p1⟩ => ?_⟩
    cases rd1
    cases x with
    | true => exact ⟨ρ1, e, st1, rs1, re.mono x1, p1⟩
    | false => exact ⟨ρ1, e, st1, rs1, re.mono x1, p1⟩
omit [Tb] in
omit [Tb] in
/-- a chain of two comparisons -/
def mChain (f g : D → D → Store → Option (D × Store)) (ma mb mc : Loc → Store → R D) : Loc → Store → R D := fun e st =>
  (ma e st).bind fun x st => (mb e st).bind fun y st => (ofO (f x y st)).bind fun z st => match z with | .bl true => (mc e st).bind fun w st => ofO (g y w st) | .bl false => .ok (.bl false) st | _ => .stuck
theorem PostO.bind {o : Option (D × Store)} {f : D → Store → R D} {ρ : List Addr} {H : Hp} {σ : L2.St} {Q2 : VK} (h : Post X.K X.mg (RD X.K X.mg) W σ Q2 ρ H ((ofO o).bind f)) :
    PostO X.K X.mg (fun x H1 => ∃ a ρ1 st1, Ext X.K ρ H ρ1 H1 ∧ RS X.K X.mg ρ1 H1 st1 ∧ RD X.K X.mg ρ1 H1 a x ∧ Post X.K X.mg (RD X.K X.mg) W σ Q2 ρ1 H1 (f a st1)) ρ H o := (Post.bind h).toO
theorem tChain_of {r r' : R2} {f g : D → D → Store → Option (D × Store)} (hr : ∀ x y H Q, r2 X.K X.mg f x y H Q → r x y H Q) (hr' : ∀ x y H Q, r2 X.K X.mg g x y H Q → r' x y H Q) (σ : L2.St) (H : Hp) (Q : VK)
    (h : tG X.K X.mg (RD X.K X.mg) W (mChain f g ma mb mc) σ H Q) : tChain r r' (tG X.K X.mg (RD X.K X.mg) W ma) (tG X.K X.mg (RD X.K X.mg) W mb) (tG X.K X.mg (RD X.K X.mg) W mc) σ H Q := by
  obtain ⟨ρ, e, st, rs, re, p⟩ := h
  refine ⟨ρ, e, st, rs, re, (Post.bind p).imp fun x H1 ⟨d, ρ1, st1, x1, rs1, rd1, p1⟩ => ?_⟩
  refine ⟨ρ1, e, st1, rs1, re.mono x1, (Post.bind p1).imp fun y H2 ⟨d2, ρ2, st2, x2, rs2, rd2, p2⟩ => ?_⟩
  refine hr _ _ _ _ ⟨ρ2, st2, d, d2, rs2, rd1.mono x2, rd2, ?_⟩
  have p3 := PostO.bind p2
  revert p3
  cases f d d2 st2 with
  | none => exact fun h => h
  | some q =>
    obtain ⟨z, st3⟩ := q
    intro p3 ρ3 H3 v x3 rs3 rd3
    obtain ⟨z', ρ4, st4, x4, rs4, rd4, p4⟩ := p3 ρ3 H3 v x3 rs3 rd3
    cases z' with
    | bl k =>
      simp only [RD] at rd4
      refine ⟨k, rd4, ?_⟩
      cases k with
      | true =>
        have xx : Ext X.K ρ H ρ4 H3 := x1.trans (x2.trans x4)
        refine ⟨ρ4, e, st4, rs4, re.mono xx, (Post.bind p4).imp fun w H5 ⟨d5, ρ5, st5, x5, rs5, rd5, p5⟩ => ?_⟩
        exact hr' _ _ _ _ ⟨ρ5, st5, d2, d5, rs5, rd2.mono (x4.trans x5), rd5, p5.toO⟩
      | false => exact p4 ρ4 H3 _ .refl rs4 (by simp only [RD])
    | _ => exact p4.elim
theorem se_chain {op op' : CmpOp} {f g : D → D → Store → Option (D × Store)} (ho : OpR X (compareOp op) (r2 X.K X.mg f)) (ho' : OpR X (compareOp op') (r2 X.K X.mg g)) (ha : SE X W a ma) (hb : SE X W b mb) (hc : SE X W c mc) (hm : lastMarks [op, op'] [b, c] = false) :
    SE X W (.Compare a [op, op'] [b, c] pos) (mChain f g ma mb mc) := PE.imp (pe_chain ho ho' ha hb hc hm) (tChain_of (fun _ _ _ _ h => h) (fun _ _ _ _ h => h))
theorem st_chain {op op' : CmpOp} {f g : D → D → Store → Option (D × Store)} (ho : OpR X (compareOp op) (r2 X.K X.mg f)) (ho' : OpR X (compareOp op') (r2 X.K X.mg g)) (ha : SE X W a ma) (hb : SE X W b mb) (hc : SE X W c mc) (hm : lastMarks [op, op'] [b, c] = false) :
    ST X W (.Compare a [op, op'] [b, c] pos) (asB (mChain f g ma mb mc)) := PT.imp (pt_chain ho ho' ha hb hc hm) fun σ H Q h => tChain_of (fun _ _ _ _ h => h) (fun _ _ _ _ h => h) σ H _ (asB_of σ H Q h)
/-! unary -/
omit [Tb] in
omit [Tb] in
def mOp1 (f : D → Store → Option (D × Store)) (ma : Loc → Store → R D) : Loc → Store → R D := fun e st => (ma e st).bind fun x st => ofO (f x st)
theorem se_un {op : UnaryOp} {f : D → Store → Option (D × Store)} (ho : UnR X (unaryOp op) (r1 X.K X.mg f)) (ha : SE X W a ma) : SE X W (.UnaryOp op a pos) (mOp1 f ma) :=
  PE.imp (pe_un ho ha) fun σ H Q ⟨ρ, e, st, rs, re, p⟩ => ⟨ρ, e, st, rs, re, (Post.bind p).imp fun x H1 ⟨d, ρ1, st1, x1, rs1, rd1, p1⟩ => ⟨ρ1, st1, d, rs1, rd1, p1.toO⟩⟩
/-! argument lists, displays -/
omit [Tb] in
omit [Tb] in
def noStar : Expr → Bool
  | .Starred .. => false
  | _ => true
omit [Tb] in
omit [Tb] in
theorem noStar_ok {e : Expr} (h : noStar e = true) (es : List Expr) (env : PySem.Env) : starEach (e :: es) env = (false, eval e env) :: starEach es env := by
  cases e with
  | Starred => exact absurd h (by simp [noStar])
  | _ => rfl
theorem noStars_ok : ∀ {es : List Expr}, es.all noStar = true → ∀ (pos : Pos) (env : PySem.Env), (backTo pos (starEach es env)).any (·.1) = false
  | [], _, _, _ => rfl
  | e :: es, h, pos, env => by
    simp only [List.all_cons, Bool.and_eq_true] at h
    rw [noStar_ok h.1]
    have ih := noStars_ok h.2 pos env
    simpa [backTo] using ih
omit [Tb] in
omit [Tb] in
def mNil : Loc → Store → R (List D) := fun _ st => .ok [] st
omit [Tb] in
omit [Tb] in
def mCons (ma : Loc → Store → R D) (mr : Loc → Store → R (List D)) : Loc → Store → R (List D) := fun e st => (ma e st).bind fun x st => (mr e st).bind fun xs st => .ok (x :: xs) st
theorem sa_nil : SA X W [] mNil := PA.imp pa_nil fun σ H Q ⟨ρ, e, st, rs, re, p⟩ => p ρ H [] .refl rs .nil
theorem sa_cons {mr : Loc → Store → R (List D)} (ha : SE X W e ma) (hr : SA X W es mr) (hs : noStar e = true) : SA X W (e :: es) (mCons ma mr) :=
  PA.imp (pa_cons ha hr (noStar_ok hs _ _)) fun σ H Q ⟨ρ, e, st, rs, re, p⟩ => by
    refine ⟨ρ, e, st, rs, re, (Post.bind p).imp fun x H1 ⟨d, ρ1, st1, x1, rs1, rd1, p1⟩ => ?_⟩
    refine ⟨ρ1, e, st1, rs1, re.mono x1, (Post.bind p1).imp fun y H2 ⟨d2, ρ2, st2, x2, rs2, rd2, p2⟩ => ?_⟩
    exact p2 ρ2 H2 _ .refl rs2 (.cons (rd1.mono x2) rd2)
omit [Tb] in
omit [Tb] in
noncomputable def mTup (m : Loc → Store → R (List D)) : Loc → Store → R D := fun e st => (m e st).bind fun ds st => if ds.length ≤ sizeLine then .ok (.tup ds) st else .stuck
omit [Tb] in
omit [Tb] in
noncomputable def mLst (m : Loc → Store → R (List D)) : Loc → Store → R D := fun e st => (m e st).bind fun ds st => if ds.length ≤ sizeLine then .ok (.ref st.length) (st ++ [.lst ds]) else .stuck
theorem newLst {ρ : List Addr} {H : Hp} {st : Store} {ds : List D} {vs : List V} {p : Addr} (rs : RS X.K X.mg ρ H st) (r : RDs X.K X.mg ρ H ds vs) (hp : H p = none) :
    RS X.K X.mg (ρ ++ [p]) (upd H p (.lst vs)) (st ++ [.lst ds]) ∧ RD X.K X.mg (ρ ++ [p]) (upd H p (.lst vs)) (.ref st.length) (.ref p) := by
  refine ⟨rs.push hp ⟨vs, upd_same, r.mono (Ext.push hp)⟩, ?_⟩
  simp only [RD]
  exact ⟨p, rfl, by rw [← rs.len]; simp⟩
theorem newTup {ρ : List Addr} {H : Hp} {st : Store} {ds : List D} {vs : List V} {p : Addr} (rs : RS X.K X.mg ρ H st) (r : RDs X.K X.mg ρ H ds vs) (hp : H p = none) :
    RS X.K X.mg ρ (upd H p (.tup vs)) st ∧ RD X.K X.mg ρ (upd H p (.tup vs)) (.tup ds) (.ref p) := by
  refine ⟨rs.tupnew hp, ?_⟩
  simp only [RD]
  exact ⟨p, vs, rfl, upd_same, r.mono (Ext.new hp)⟩
theorem se_tup {k : Nat} {m : Loc → Store → R (List D)} (h : SA X W es m) : SE X W (.Tuple es k pos) (mTup m) :=
  PE.imp (pe_tup h) fun σ H Q ⟨ρ, e, st, rs, re, p⟩ => by
    refine ⟨ρ, e, st, rs, re, (Post.bind p).imp fun x H1 ⟨ds, ρ1, st1, x1, rs1, rd1, p1⟩ => ?_⟩
    by_cases hl : ds.length ≤ sizeLine
    · rw [if_pos hl] at p1
      refine ⟨by rw [← rd1.length]; exact hl, fun q hq => ?_⟩
      obtain ⟨a1, a2⟩ := newTup rs1 rd1 hq
      exact p1 _ _ _ (Ext.new hq) a1 a2
    · rw [if_neg hl] at p1; exact p1.elim
theorem se_lst {m : Loc → Store → R (List D)} (h : SA X W es m) : SE X W (.List es pos) (mLst m) :=
  PE.imp (pe_lst h) fun σ H Q ⟨ρ, e, st, rs, re, p⟩ => by
    refine ⟨ρ, e, st, rs, re, (Post.bind p).imp fun x H1 ⟨ds, ρ1, st1, x1, rs1, rd1, p1⟩ => ?_⟩
    by_cases hl : ds.length ≤ sizeLine
    · rw [if_pos hl] at p1
      refine ⟨by rw [← rd1.length]; exact hl, fun q hq => ?_⟩
      obtain ⟨a1, a2⟩ := newLst rs1 rd1 hq
      exact p1 _ _ _ (Ext.push hq) a1 a2
    · rw [if_neg hl] at p1; exact p1.elim
/-! subscripts -/
omit [Tb] in
omit [Tb] in
def plainIx : Expr → Bool
  | .Slice .. => false
  | _ => true
omit [Tb] in
omit [Tb] in
theorem plainIx_ok {b : Expr} (h : plainIx b = true) : PlainIx b := fun o i => by
  cases b with
  | Slice => exact absurd h (by simp [plainIx])
  | _ => rfl
theorem se_ix {f : D → D → Store → Option (D × Store)} (ho : IxR X (r2 X.K X.mg f)) (ha : SE X W a ma) (hb : SE X W b mb) (hp : plainIx b = true) : SE X W (.Subscript a b pos) (mOp2 f ma mb) :=
  PE.imp (pe_ix ho ha hb (plainIx_ok hp)) (tOp_of fun _ _ _ _ h => h)
/-! built-ins, methods by values -/
omit [Tb] in
omit [Tb] in
def mOpN (f : List D → Store → Option (D × Store)) (m : Loc → Store → R (List D)) : Loc → Store → R D := fun e st => (m e st).bind fun xs st => ofO (f xs st)
theorem tCB_of {f : List D → Store → Option (D × Store)} {m : Loc → Store → R (List D)} (σ : L2.St) (H : Hp) (Q : VK) (h : tG X.K X.mg (RD X.K X.mg) W (mOpN f m) σ H Q) : tCB (rN X.K X.mg f) (tG X.K X.mg (RDs X.K X.mg) W m) σ H Q := by
  obtain ⟨ρ, e, st, rs, re, p⟩ := h
  exact ⟨ρ, e, st, rs, re, (Post.bind p).imp fun x H1 ⟨d, ρ1, st1, x1, rs1, rd1, p1⟩ => ⟨ρ1, st1, d, rs1, rd1, p1.toO⟩⟩
theorem se_callB {x : Str} {id : String} {p : Pos} {f : List D → Store → Option (D × Store)} {m : Loc → Store → R (List D)} (hc : CallR X (.builtin id) (rN X.K X.mg f)) (hg : Gl X x) (hm : X.mg x = none) (hv : bootBuiltins x = some (.builtin id)) (ha : SA X W (e :: es) m)
    (hn : x ≠ "__name__") (hdb : (x == ("__debug__" : Str)) = false) (hs : (e :: es).all noStar = true) : SE X W (.Call (.Name x p) (e :: es) [] pos) (mOpN f m) := by
  simp only [List.all_cons, Bool.and_eq_true] at hs
  exact PE.imp (pe_callB hc hg hm hv ha hn hdb (noStar_ok hs.1 _ _) (noStars_ok hs.2 _ _)) tCB_of
theorem se_callTy {x : Str} {T : String} {p : Pos} {f : List D → Store → Option (D × Store)} {m : Loc → Store → R (List D)} (hc : CallR X (.type T) (rN X.K X.mg f)) (hg : Gl X x) (hm : X.mg x = none) (hv : bootBuiltins x = some (.type T)) (ha : SA X W (e :: es) m)
    (hn : x ≠ "__name__") (hdb : (x == ("__debug__" : Str)) = false) (hs : (e :: es).all noStar = true) : SE X W (.Call (.Name x p) (e :: es) [] pos) (mOpN f m) := by
  simp only [List.all_cons, Bool.and_eq_true] at hs
  exact PE.imp (pe_callTy hc hg hm hv ha hn hdb (noStar_ok hs.1 _ _) (noStars_ok hs.2 _ _)) tCB_of
end
end Py

set_option Elab.async false
set_option linter.all false
set_option maxRecDepth 100000
set_option maxHeartbeats 1000000
namespace Py
open PySem PySem.Spec PyProof.Rows L2
variable [Tb]

/-- where a statement ends -/
inductive Fl where
  | nx (e : Py.Loc) (st : Store)
  | rt (d : D) (st : Store)
  | bk (e : Py.Loc) (st : Store)
  | ct (e : Py.Loc) (st : Store)
  | ex (c : Str) (pl : List (Str × D)) (e : Py.Loc) (st : Store)
  | stuck
omit [Tb] in
omit [Tb] in
def Fl.seq (r : Fl) (f : Loc → Store → Fl) : Fl :=
  match r with
  | .nx e st => f e st
  | .rt d st => .rt d st
  | .bk e st => .bk e st
  | .ct e st => .ct e st
  | .ex c p e st => .ex c p e st
  | .stuck => .stuck
omit [Tb] in
omit [Tb] in
def R.to {α : Type} (r : R α) (e : Py.Loc) (f : α → Store → Fl) : Fl :=
  match r with
  | .ok a st => f a st
  | .ex c p st => .ex c p e st
  | .stuck => .stuck
@[simp] theorem Fl.seq_nx (e : Py.Loc) (st : Store) (f : Loc → Store → Fl) : (Fl.nx e st).seq f = f e st := rfl
@[simp] theorem Fl.seq_rt (e : D) (st : Store) (f : Loc → Store → Fl) : (Fl.rt e st).seq f = .rt e st := rfl
@[simp] theorem Fl.seq_bk (e : Py.Loc) (st : Store) (f : Loc → Store → Fl) : (Fl.bk e st).seq f = .bk e st := rfl
@[simp] theorem Fl.seq_ct (e : Py.Loc) (st : Store) (f : Loc → Store → Fl) : (Fl.ct e st).seq f = .ct e st := rfl
@[simp] theorem Fl.seq_ex (c p) (e : Py.Loc) (st : Store) (f : Loc → Store → Fl) : (Fl.ex c p e st).seq f = .ex c p e st := rfl
@[simp] theorem Fl.seq_stuck (f : Loc → Store → Fl) : Fl.stuck.seq f = .stuck := rfl
@[simp] theorem R.to_ok {α : Type} (a : α) (st : Store) (e : Py.Loc) (f : α → Store → Fl) : (R.ok a st).to e f = f a st := rfl
@[simp] theorem R.to_ex {α : Type} (c p) (st : Store) (e : Py.Loc) (f : α → Store → Fl) : (R.ex c p st : R α).to e f = .ex c p e st := rfl
@[simp] theorem R.to_stuck {α : Type} (e : Py.Loc) (f : α → Store → Fl) : (R.stuck : R α).to e f = .stuck := rfl

section
variable {K : PySem.W.Frag} {mg : Str → Option Value} {ρ ρ' ρ'' : List Addr} {H H' H'' : Hp} {W : WX} {σ : L2.St} {Dn Dn' : Ends}
def PostS (K : PySem.W.Frag) (mg : Str → Option Value) (W : WX) (Dn : Ends) (ρ : List Addr) (H : Hp) : Fl → Prop
  | .nx e' st' => ∀ ρ' H' σ', Ext K ρ H ρ' H' → RS K mg ρ' H' st' → RE K mg ρ' H' σ' e' → Dn.nx σ' H'
  | .rt d st' => ∀ ρ' H' v, Ext K ρ H ρ' H' → RS K mg ρ' H' st' → RD K mg ρ' H' d v → Dn.rt v H'
  | .bk e' st' => ∀ ρ' H' σ', Ext K ρ H ρ' H' → RS K mg ρ' H' st' → RE K mg ρ' H' σ' e' → Dn.bk σ' H'
  | .ct e' st' => ∀ ρ' H' σ', Ext K ρ H ρ' H' → RS K mg ρ' H' st' → RE K mg ρ' H' σ' e' → Dn.ct σ' H'
  | .ex c pl e' st' => ∀ ρ' H' σ' cls dd, Ext K ρ H ρ' H' → RS K mg ρ' H' st' → RE K mg ρ' H' σ' e' → RX K mg ρ' H' c pl cls dd → W cls dd σ' H'
  | .stuck => False
theorem PostS.rebase {r : Fl} (h : PostS K mg W Dn ρ H r) (x : Ext K ρ H ρ' H') : PostS K mg W Dn ρ' H' r := by
  cases r with
  | nx e st => exact fun ρ2 H2 v q => h ρ2 H2 v (x.trans q)
  | rt e st => exact fun ρ2 H2 v q => h ρ2 H2 v (x.trans q)
  | bk e st => exact fun ρ2 H2 v q => h ρ2 H2 v (x.trans q)
  | ct e st => exact fun ρ2 H2 v q => h ρ2 H2 v (x.trans q)
  | ex c pl e st => exact fun ρ2 H2 v cls dd q => h ρ2 H2 v cls dd (x.trans q)
  | stuck => exact h
theorem PostS.seq {r : Fl} {f : Loc → Store → Fl} (h : PostS K mg W Dn ρ H (r.seq f)) :
    PostS K mg W { Dn with nx := fun σ' H' => ∃ ρ1 e1 st1, Ext K ρ H ρ1 H' ∧ RS K mg ρ1 H' st1 ∧ RE K mg ρ1 H' σ' e1 ∧ PostS K mg W Dn ρ1 H' (f e1 st1) } ρ H r := by
  cases r with
  | nx e st => exact fun ρ2 H2 v q a b => ⟨ρ2, e, st, q, a, b, h.rebase q⟩
  | rt e st => exact h
  | bk e st => exact h
  | ct e st => exact h
  | ex c pl e st => exact h
  | stuck => exact h
theorem PostS.to {α β : Type} {Rel : List Addr → Hp → α → β → Prop} {r : R α} {e : Py.Loc} {f : α → Store → Fl} (h : PostS K mg W Dn ρ H (r.to e f)) (re : RE K mg ρ H σ e) :
    Post K mg Rel W σ (fun x H1 => ∃ a ρ1 st1, Ext K ρ H ρ1 H1 ∧ RS K mg ρ1 H1 st1 ∧ Rel ρ1 H1 a x ∧ PostS K mg W Dn ρ1 H1 (f a st1)) ρ H r := by
  cases r with
  | ok a st => exact fun ρ1 H1 v q s rl => ⟨a, ρ1, st, q, s, rl, h.rebase q⟩
  | ex c pl st => exact fun ρ1 H1 cls dd q s x => h ρ1 H1 σ cls dd q s (re.mono q) x
  | stuck => exact h
def tS (K : PySem.W.Frag) (mg : Str → Option Value) (W : WX) (m : Loc → Store → Fl) : TS := fun Dn σ H => ∃ ρ e st, RS K mg ρ H st ∧ RE K mg ρ H σ e ∧ PostS K mg W Dn ρ H (m e st)
omit [Tb] in
omit [Tb] in
/-- a target -/
def nxOnly (Q : L2.St → Hp → Prop) : Ends := { nx := Q, rt := fun _ _ => False }
def tT (K : PySem.W.Frag) (mg : Str → Option Value) (W : WX) (m : D → Loc → Store → Fl) : TG := fun v σ H Q => ∃ ρ e st d, RS K mg ρ H st ∧ RE K mg ρ H σ e ∧ RD K mg ρ H d v ∧ PostS K mg W (nxOnly Q) ρ H (m d e st)
def tTs (K : PySem.W.Frag) (mg : Str → Option Value) (W : WX) (m : List D → Loc → Store → Fl) : TGs := fun v σ H Q => ∃ ρ e st d, RS K mg ρ H st ∧ RE K mg ρ H σ e ∧ RDs K mg ρ H d v ∧ PostS K mg W (nxOnly Q) ρ H (m d e st)
end
section
variable {X : Cx} {W : WX}
abbrev SS (X : Cx) (W : WX) (s : Stmt) (m : Loc → Store → Fl) : Prop := PS X s (tS X.K X.mg W m)
abbrev SSs (X : Cx) (W : WX) (s : List Stmt) (m : Loc → Store → Fl) : Prop := PSs X s (tS X.K X.mg W m)
abbrev SG (X : Cx) (W : WX) (tg : Expr) (m : D → Loc → Store → Fl) : Prop := PG X tg (tT X.K X.mg W m)
abbrev SGs (X : Cx) (W : WX) (tg : List Expr) (m : List D → Loc → Store → Fl) : Prop := PGs X tg (tTs X.K X.mg W m)
omit [Tb] in
omit [Tb] in
theorem PG.imp {tg : Expr} {t t' : TG} (h : PG X tg t) (f : ∀ v σ H Q, t' v σ H Q → t v σ H Q) : PG X tg t' := ⟨fun pins s σ H x v Q I r q => h.run pins s σ H x v Q I r (f _ _ _ _ q)⟩
end
end Py

set_option Elab.async false
set_option linter.all false
set_option maxRecDepth 100000
set_option maxHeartbeats 1000000
namespace Py
open PySem PySem.Spec PyProof.Rows L2
variable [Tb]
section
variable {X : Cx} {W : WX} {pos : Pos} {e : Expr} {es : List Expr} {ma mb : Py.Loc → Store → R D}
/-! targets -/
omit [Tb] in
omit [Tb] in
def gN (i : Nat) : D → Py.Loc → Store → Fl := fun d e st => .nx (e.set i (some d)) st
theorem sg_name {i : Nat} {x : Str} (hN : X.N.Nodup) (hi : X.N[i]? = some x) (hx : L2.Loc X.env.scope x) (hf : X.fn x = true ∨ X.env.scope.names.lookup x = some .local) : SG X W (.Name x pos) (gN i) :=
  PG.imp (pg_name hN hi hx hf) fun v σ H Q ⟨ρ, e, st, d, rs, re, rd, p⟩ => p ρ H _ .refl rs (re.set rd)
omit [Tb] in
omit [Tb] in
def gNl : List D → Py.Loc → Store → Fl := fun ds e st => match ds with | [] => .nx e st | _ => .stuck
omit [Tb] in
omit [Tb] in
def gCn (g : D → Py.Loc → Store → Fl) (gs : List D → Py.Loc → Store → Fl) : List D → Py.Loc → Store → Fl := fun ds e st => match ds with | d :: ds => (g d e st).seq fun e st => gs ds e st | [] => .stuck
omit [Tb] in
omit [Tb] in
theorem PGs.imp {tg : List Expr} {t t' : TGs} (h : PGs X tg t) (f : ∀ v σ H Q, t' v σ H Q → t v σ H Q) : PGs X tg t' := ⟨fun pins s σ H x v Q I r q => h.run pins s σ H x v Q I r (f _ _ _ _ q)⟩
theorem sgs_nil : SGs X W [] gNl := PGs.imp pgs_nil fun v σ H Q ⟨ρ, e, st, d, rs, re, rd, p⟩ => by
  cases d with
  | nil => simp only [RDs] at rd; exact ⟨rd, p ρ H _ .refl rs re⟩
  | cons _ _ => exact p.elim
omit [Tb] in
omit [Tb] in
theorem assignEach_cons (e : Expr) (es : List Expr) (env : PySem.Env) (h : noStar e = true) : (assignEach (e :: es) env).map (·.2) = assign e env :: (assignEach es env).map (·.2) := by
  cases e with
  | Starred => exact absurd h (by simp [noStar])
  | _ => rfl
omit [Tb] in
omit [Tb] in
theorem assignEach_len : ∀ (es : List Expr) (env : PySem.Env), (assignEach es env).length = es.length
  | [], _ => rfl
  | e :: es, env => by
    have ih := assignEach_len es env
    cases e <;> (show (_ :: assignEach es env).length = _; simp [ih])
theorem assignEach_star : ∀ (es : List Expr) (env : PySem.Env), es.all noStar = true → (assignEach es env).findIdx? (·.1) = none
  | [], _, _ => rfl
  | e :: es, env, h => by
    simp only [List.all_cons, Bool.and_eq_true] at h
    have ih := assignEach_star es env h.2
    have aux : ∀ x : Sem Value → Sem Value, True := fun _ => trivial
    cases e with
    | Starred => exact absurd h.1 (by simp [noStar])
    | _ =>
      show List.findIdx? _ ((false, _) :: assignEach es env) = none
      rw [List.findIdx?_cons]
      simp [ih]
theorem sgs_cons {g : D → Py.Loc → Store → Fl} {gs : List D → Py.Loc → Store → Fl} (h1 : SG X W e g) (h2 : SGs X W es gs) (hs : noStar e = true) : SGs X W (e :: es) (gCn g gs) :=
  PGs.imp (pgs_cons h1 h2 (assignEach_cons e es _ hs)) fun v σ H Q ⟨ρ, e, st, d, rs, re, rd, p⟩ => by
    cases d with
    | nil => exact p.elim
    | cons d ds =>
      obtain ⟨x, xs, rfl, r1, r2⟩ := rd.uncons
      refine ⟨x, xs, rfl, ρ, e, st, d, rs, re, r1, ?_⟩
      have q := PostS.seq p
      revert q
      cases g d e st with
      | nx e1 st1 =>
        intro q ρ1 H1 σ1 x1 rs1 re1
        obtain ⟨ρ2, e2, st2, x2, rs2, re2, p2⟩ := q ρ1 H1 σ1 x1 rs1 re1
        exact ⟨ρ2, e2, st2, ds, rs2, re2, r2.mono x2, p2⟩
      | rt _ _ => exact fun q => q
      | bk _ _ => exact fun q => q
      | ct _ _ => exact fun q => q
      | ex _ _ _ _ => exact fun q => q
      | stuck => exact fun q => q
omit [Tb] in
omit [Tb] in
def gTp (n : Nat) (gs : List D → Py.Loc → Store → Fl) : D → Py.Loc → Store → Fl := fun d e st => match d with | .tup ds => if ds.length = n then gs ds e st else .stuck | _ => .stuck
theorem sg_tup {k : Nat} {gs : List D → Py.Loc → Store → Fl} (hc : X.calm = true) (h : SGs X W es gs) (hs : es.all noStar = true) : SG X W (.Tuple es k pos) (gTp es.length gs) :=
  PG.imp (pg_tup (n := es.length) hc h (assignEach_len es _) (assignEach_star es _ hs)) fun v σ H Q ⟨ρ, e, st, d, rs, re, rd, p⟩ => by
    cases d with
    | tup ds =>
      simp only [RD] at rd
      obtain ⟨a, xs, rfl, hq, r⟩ := rd
      simp only [gTp] at p
      split at p
      · rename_i hl
        exact ⟨a, xs, rfl, .of hq, by rw [← r.length]; exact hl, ρ, e, st, ds, rs, re, r, p⟩
      · exact p.elim
    | _ => exact p.elim
/-- o[i] = v by values -/
def rSt (K : PySem.W.Frag) (mg : Str → Option Value) (f : D → D → D → Store → Option Store) : TSet := fun o i v H Q => ∃ ρ st d1 d2 d3, RS K mg ρ H st ∧ RD K mg ρ H d1 o ∧ RD K mg ρ H d2 i ∧ RD K mg ρ H d3 v ∧
  match f d1 d2 d3 st with | some st' => ∀ ρ' H', Ext K ρ H ρ' H' → RS K mg ρ' H' st' → Q H' | none => False
omit [Tb] in
omit [Tb] in
def gSb (f : D → D → D → Store → Option Store) (mo mi : Py.Loc → Store → R D) : D → Py.Loc → Store → Fl := fun d e st => (mo e st).to e fun o st => (mi e st).to e fun i st => match f o i d st with | some st => .nx e st | none => .stuck
theorem sg_sub {o i : Expr} {mo mi : Py.Loc → Store → R D} {f : D → D → D → Store → Option Store} (hf : PSet X (rSt X.K X.mg f)) (ho : SE X W o mo) (hi : SE X W i mi) (hp : plainIx i = true) : SG X W (.Subscript o i pos) (gSb f mo mi) :=
  PG.imp (pg_sub ho hi hf (fun _ => by cases i <;> first | rfl | exact absurd hp (by simp [plainIx]))) fun v σ H Q ⟨ρ, e, st, d, rs, re, rd, p⟩ => by
    refine ⟨ρ, e, st, rs, re, (PostS.to p re).imp fun x H1 ⟨d1, ρ1, st1, x1, rs1, rd1, p1⟩ => ?_⟩
    refine ⟨ρ1, e, st1, rs1, re.mono x1, (PostS.to p1 (re.mono x1)).imp fun y H2 ⟨d2, ρ2, st2, x2, rs2, rd2, p2⟩ => ?_⟩
    refine ⟨ρ2, st2, d1, d2, d, rs2, rd1.mono x2, rd2, rd.mono (x1.trans x2), ?_⟩
    revert p2
    cases f d1 d2 d st2 with
    | none => exact fun q => q
    | some st3 => exact fun q ρ3 H3 x3 rs3 => q ρ3 H3 σ x3 rs3 (re.mono (x1.trans (x2.trans x3)))

/-! statements -/
theorem ss_pass : SS X W (.Pass pos) (fun e st => .nx e st) := PS.imp ps_pass fun Dn σ H ⟨ρ, e, st, rs, re, p⟩ => p ρ H σ .refl rs re
theorem ss_break : SS X W (.Break pos) (fun e st => .bk e st) := PS.imp ps_break fun Dn σ H ⟨ρ, e, st, rs, re, p⟩ => p ρ H σ .refl rs re
theorem ss_cont : SS X W (.Continue pos) (fun e st => .ct e st) := PS.imp ps_continue fun Dn σ H ⟨ρ, e, st, rs, re, p⟩ => p ρ H σ .refl rs re
omit [Tb] in
omit [Tb] in
def noComp : Expr → Bool
  | .ListComp .. => false
  | .SetComp .. => false
  | .DictComp .. => false
  | _ => true
omit [Tb] in
omit [Tb] in
theorem noComp_ok {e : Expr} (h : noComp e = true) (t : Option Expr) (l : Nat) (env : PySem.Env) : swapsWith e t l env = pure false := by
  cases e with
  | ListComp => exact absurd h (by simp [noComp])
  | SetComp => exact absurd h (by simp [noComp])
  | DictComp => exact absurd h (by simp [noComp])
  | _ => rfl
omit [Tb] in
omit [Tb] in
def sExp (ma : Py.Loc → Store → R D) : Py.Loc → Store → Fl := fun e st => (ma e st).to e fun _ st => .nx e st
theorem ss_expr (he : SE X W e ma) (hs : noComp e = true) : SS X W (.Expr e pos) (sExp ma) := PS.imp (ps_expr he (noComp_ok hs _ _ _)) fun Dn σ H ⟨ρ, e, st, rs, re, p⟩ =>
  ⟨ρ, e, st, rs, re, (PostS.to p re).imp fun x H1 ⟨d, ρ1, st1, x1, rs1, rd1, p1⟩ => p1 ρ1 H1 σ .refl rs1 (re.mono x1)⟩
omit [Tb] in
omit [Tb] in
def sRet (ma : Py.Loc → Store → R D) : Py.Loc → Store → Fl := fun e st => (ma e st).to e fun d st => .rt d st
theorem ss_ret (he : SE X W e ma) : SS X W (.Return (some e) pos) (sRet ma) := PS.imp (ps_ret he) fun Dn σ H ⟨ρ, e, st, rs, re, p⟩ =>
  ⟨ρ, e, st, rs, re, (PostS.to p re).imp fun x H1 ⟨d, ρ1, st1, x1, rs1, rd1, p1⟩ => p1 ρ1 H1 x .refl rs1 rd1⟩
theorem ss_retN : SS X W (.Return none pos) (fun e st => .rt .non st) := PS.imp ps_retN fun Dn σ H ⟨ρ, e, st, rs, re, p⟩ => p ρ H .non .refl rs (by simp only [RD])
omit [Tb] in
omit [Tb] in
def sIf (mc : Py.Loc → Store → R Bool) (m1 m2 : Py.Loc → Store → Fl) : Py.Loc → Store → Fl := fun e st => (mc e st).to e fun c st => if c = true then m1 e st else m2 e st
theorem ss_if {c : Expr} {a b : List Stmt} {mc : Py.Loc → Store → R Bool} {m1 m2 : Py.Loc → Store → Fl} (hc : ST X W c mc) (ha : SSs X W a m1) (hb : SSs X W b m2) : SS X W (.If c a b pos) (sIf mc m1 m2) :=
  PS.imp (ps_if hc ha hb) fun Dn σ H ⟨ρ, e, st, rs, re, p⟩ => by
    refine ⟨ρ, e, st, rs, re, (PostS.to p re).imp fun x H1 ⟨d, ρ1, st1, x1, rs1, rd1, p1⟩ => ?_⟩
    cases rd1
    cases x with
    | true => exact ⟨ρ1, e, st1, rs1, re.mono x1, p1⟩
    | false => exact ⟨ρ1, e, st1, rs1, re.mono x1, p1⟩
theorem ss_never {s : Stmt} : SS X W s (fun _ _ => .stuck) := PS.imp ps_never fun Dn σ H ⟨ρ, e, st, rs, re, p⟩ => p.elim
theorem sss_nil : SSs X W [] (fun e st => .nx e st) := PSs.imp pss_nil fun Dn σ H ⟨ρ, e, st, rs, re, p⟩ => p ρ H σ .refl rs re
omit [Tb] in
omit [Tb] in
def sSeq (m1 m2 : Py.Loc → Store → Fl) : Py.Loc → Store → Fl := fun e st => (m1 e st).seq m2
theorem sss_cons {s : Stmt} {r : List Stmt} {m1 m2 : Py.Loc → Store → Fl} (h1 : SS X W s m1) (h2 : SSs X W r m2) : SSs X W (s :: r) (sSeq m1 m2) :=
  PSs.imp (pss_cons h1 h2) fun Dn σ H ⟨ρ, e, st, rs, re, p⟩ => by
    refine ⟨ρ, e, st, rs, re, ?_⟩
    have q := PostS.seq p
    revert q
    cases m1 e st with
    | nx e1 st1 =>
      intro q ρ1 H1 σ1 x1 rs1 re1
      obtain ⟨ρ2, e2, st2, x2, rs2, re2, p2⟩ := q ρ1 H1 σ1 x1 rs1 re1
      exact ⟨ρ2, e2, st2, rs2, re2, p2⟩
    | rt _ _ => exact fun q => q
    | bk _ _ => exact fun q => q
    | ct _ _ => exact fun q => q
    | ex _ _ _ _ => exact fun q => q
    | stuck => exact fun q => q
omit [Tb] in
omit [Tb] in
/-- targets: x = e; (a, b) = e; o[i] = e -/
def sAsg (ma : Py.Loc → Store → R D) (g : D → Py.Loc → Store → Fl) : Py.Loc → Store → Fl := fun e st => (ma e st).to e fun d st => (g d e st).seq fun e st => .nx e st
omit [Tb] in
omit [Tb] in
def Fl.tg : Fl → Bool
  | .nx _ _ => true
  | .ex _ _ _ _ => true
  | .stuck => true
  | _ => false
theorem tT_of {m : D → Py.Loc → Store → Fl} {Dn : Ends} {ρ : List Addr} {H : Hp} {σ : L2.St} {e : Py.Loc} {st : Store} {d : D} {x : V} (rs : RS X.K X.mg ρ H st) (re : RE X.K X.mg ρ H σ e) (rd : RD X.K X.mg ρ H d x)
    (nr : (m d e st).tg = true) (p : PostS X.K X.mg W Dn ρ H (m d e st)) : tT X.K X.mg W m x σ H Dn.nx := by
  refine ⟨ρ, e, st, d, rs, re, rd, ?_⟩
  revert p nr
  cases m d e st with
  | nx e1 st1 => exact fun _ p => p
  | rt _ _ => exact fun q => by cases q
  | bk _ _ => exact fun q => by cases q
  | ct _ _ => exact fun q => by cases q
  | ex _ _ _ _ => exact fun _ p => p
  | stuck => exact fun _ p => p
omit [Tb] in
omit [Tb] in
/-- a target's meaning does not return, break or go on -/
def Tgt (g : D → Py.Loc → Store → Fl) : Prop := ∀ d e st, (g d e st).tg = true
omit [Tb] in
omit [Tb] in
def Tgts (g : List D → Py.Loc → Store → Fl) : Prop := ∀ d e st, (g d e st).tg = true
omit [Tb] in
omit [Tb] in
theorem tgt_name (i : Nat) : Tgt (gN i) := fun d e st => rfl
omit [Tb] in
omit [Tb] in
theorem tgts_nil : Tgts gNl := fun d e st => by cases d <;> rfl
theorem tgts_cons {g : D → Py.Loc → Store → Fl} {gs : List D → Py.Loc → Store → Fl} (h1 : Tgt g) (h2 : Tgts gs) : Tgts (gCn g gs) := fun d e st => by
  cases d with
  | nil => rfl
  | cons d ds =>
    have a := h1 d e st
    simp only [gCn]
    revert a
    cases g d e st with
    | nx e1 st1 => exact fun _ => h2 ds e1 st1
    | rt _ _ => exact fun q => by cases q
    | bk _ _ => exact fun q => by cases q
    | ct _ _ => exact fun q => by cases q
    | ex _ _ _ _ => exact fun _ => rfl
    | stuck => exact fun _ => rfl
omit [Tb] in
omit [Tb] in
theorem tgt_tup {n : Nat} {gs : List D → Py.Loc → Store → Fl} (h : Tgts gs) : Tgt (gTp n gs) := fun d e st => by
  cases d with
  | tup ds =>
    simp only [gTp]
    split
    · exact h ds e st
    · rfl
  | _ => rfl
theorem tgt_sub {f : D → D → D → Store → Option Store} {mo mi : Py.Loc → Store → R D} : Tgt (gSb f mo mi) := fun d e st => by
  simp only [gSb]
  cases mo e st with
  | ok o st1 =>
    simp only [R.to_ok]
    cases mi e st1 with
    | ok i st2 =>
      simp only [R.to_ok]
      cases f o i d st2 <;> rfl
    | ex _ _ _ => rfl
    | stuck => rfl
  | ex _ _ _ => rfl
  | stuck => rfl
theorem Fl.seq_self (r : Fl) : (r.seq fun e st => .nx e st) = r := by cases r <;> rfl
theorem tAsg_of {g : D → Py.Loc → Store → Fl} (hg : Tgt g) (Dn : Ends) (σ : L2.St) (H : Hp) (h : tS X.K X.mg W (sAsg ma g) Dn σ H) : tAsg (tG X.K X.mg (RD X.K X.mg) W ma) (tT X.K X.mg W g) Dn σ H := by
  obtain ⟨ρ, e, st, rs, re, p⟩ := h
  refine ⟨ρ, e, st, rs, re, (PostS.to p re).imp fun x H1 ⟨d, ρ1, st1, x1, rs1, rd1, p1⟩ => ?_⟩
  rw [Fl.seq_self] at p1
  exact tT_of rs1 (re.mono x1) rd1 (hg d e st1) p1
omit [Tb] in
omit [Tb] in
/-- an assignment that is not the exchanged form -/
def swS (sc : Scope) (targets : List Expr) (value : Expr) : Option (Option (List Str)) :=
  match targets, value with
  | [.Tuple ts _ _], .Tuple vs _ _ =>
    if (!(ts.length == 2 || ts.length == 3) || vs.length != ts.length) = true then some none
    else if (vs.any fun | .Starred .. => true | _ => false) = true then some none
    else
      let line := (ts.head?.map (·.pos.line)).getD 0
      let names := ts.filterMap fun
        | .Name id pos => if sc.names.lookup id == some .local && pos.line == line then some id else none
        | _ => none
      if (names.length != ts.length || names.eraseDups.length != names.length) = true then some none
      else if vs.all (foldedForSure 8) = true then some none
      else if vs.all (constantsAlone 8) = true then none
      else some (some names)
  | [.List ts _], .Tuple vs _ _ => none
  | [.Name _ _], _ => some none
  | [.Subscript _ _ _], _ => some none
  | [.Tuple _ _ _], .Starred _ _ => none
  | [.Tuple _ _ _], _ => some none
  | _, _ => none
theorem swS_ok {env : PySem.Env} {ts : List Expr} {v : Expr} {r : Option (List Str)} (hk : env.scope.kind = .function) (h : swS env.scope ts v = some r) : swappedStores ts v env = pure r := by
  have hb : (env.blockKind != ScopeKind.function) = false := by
    unfold Env.blockKind
    rw [hk]
    rfl
  unfold swS at h
  split at h
  · rename_i ts vs _ _ _ _
    unfold swappedStores
    simp only [hb, Bool.or_false]
    split at h
    · rename_i c
      cases h
      exact if_pos c
    · rename_i c
      refine Eq.trans (if_neg c) ?_
      split at h
      · rename_i c2
        cases h
        exact if_pos c2
      · rename_i c2
        refine Eq.trans (if_neg c2) ?_
        dsimp only at h
        split at h
        · rename_i c3
          cases h
          exact if_pos c3
        · rename_i c3
          refine Eq.trans (if_neg c3) ?_
          split at h
          · rename_i c4
            cases h
            exact if_pos c4
          · rename_i c4
            refine Eq.trans (if_neg c4) ?_
            split at h
            · cases h
            · rename_i c5
              cases h
              exact if_neg c5
  · cases h
  · cases h; rfl
  · cases h; rfl
  · cases h
  · rename_i hne1 hne2
    cases h
    unfold swappedStores
    cases v <;> first | rfl | (exact absurd rfl (hne1 _ _ _)) | (exact absurd rfl (hne2 _ _))
  · cases h
end
end Py

set_option Elab.async false
set_option linter.all false
set_option maxRecDepth 100000
set_option maxHeartbeats 1000000
namespace Py
open PySem PySem.Spec PyProof.Rows L2
variable [Tb]
section
variable {X : Cx} {W : WX} {pos : Pos} {e : Expr} {es : List Expr} {ma mb : Py.Loc → Store → R D}
theorem ss_asg {tg : Expr} {g : D → Py.Loc → Store → Fl} (he : SE X W e ma) (hg : SG X W tg g) (ht : Tgt g) (hk : X.env.scope.kind = .function) (hs : noComp e = true) (hw : swS X.env.scope [tg] e = some none) (hn : noStar tg = true) : SS X W (.Assign [tg] e pos) (sAsg ma g) :=
  PS.imp (ps_asg he hg (noComp_ok hs _ _ _) (swS_ok hk hw) (assignEach_cons tg [] _ hn)) (tAsg_of ht)
theorem ss_set {i : Nat} {x : Str} {pos' : Pos} (hN : X.N.Nodup) (hi : X.N[i]? = some x) (hx : L2.Loc X.env.scope x) (he : SE X W e ma) (hs : swapsWith e (some (.Name x pos')) pos.line X.env = pure false) (hf : X.fn x = true ∨ X.env.scope.names.lookup x = some .local) : SS X W (.Assign [.Name x pos'] e pos) (sAsg ma (gN i)) :=
  PS.imp (ps_set hN hi hx he hs hf) fun Dn σ H h => by
    obtain ⟨ρ, e, st, rs, re, p⟩ := h
    refine ⟨ρ, e, st, rs, re, (PostS.to p re).imp fun x H1 ⟨d, ρ1, st1, x1, rs1, rd1, p1⟩ => ?_⟩
    exact p1 ρ1 H1 _ .refl rs1 ((re.mono x1).set rd1)
omit [Tb] in
omit [Tb] in
def sPar2 (i j : Nat) (m : Py.Loc → Store → R (List D)) : Py.Loc → Store → Fl := fun e st => (m e st).to e fun ds st => match ds with | [a, b] => .nx ((e.set i (some a)).set j (some b)) st | _ => .stuck
omit [Tb] in
omit [Tb] in
def sPar3 (i j l : Nat) (m : Py.Loc → Store → R (List D)) : Py.Loc → Store → Fl := fun e st => (m e st).to e fun ds st => match ds with | [a, b, c] => .nx (((e.set i (some a)).set j (some b)).set l (some c)) st | _ => .stuck
theorem ss_par2 {i j : Nat} {x y : Str} {a b : Expr} {m : Py.Loc → Store → R (List D)} {px py pt : Pos} {kt k2 pt2} (hk : X.env.scope.kind = .function) (hc : X.calm = true) (hN : X.N.Nodup) (hi : X.N[i]? = some x) (hj : X.N[j]? = some y) (hij : i ≠ j)
    (hx : X.env.scope.names.lookup x = some .local) (hy : X.env.scope.names.lookup y = some .local) (ha : SA X W [a, b] m)
    (hw : swS X.env.scope [.Tuple [.Name x px, .Name y py] kt pt] (.Tuple [a, b] k2 pt2) = some (some [x, y])) :
    SS X W (.Assign [.Tuple [.Name x px, .Name y py] kt pt] (.Tuple [a, b] k2 pt2) pos) (sPar2 i j m) :=
  PS.imp (ps_par hc hN hi hj hij hx hy ha (swS_ok hk hw)) fun Dn σ H ⟨ρ, e, st, rs, re, p⟩ => by
    refine ⟨ρ, e, st, rs, re, (PostS.to p re).imp fun x H1 ⟨d, ρ1, st1, x1, rs1, rd1, p1⟩ => ?_⟩
    match d, rd1, p1 with
    | [a, b], rd1, p1 =>
      obtain ⟨u, us, rfl, r1, rd2⟩ := rd1.uncons
      obtain ⟨v, vs, rfl, r2, rd3⟩ := rd2.uncons
      simp only [RDs] at rd3
      subst rd3
      exact ⟨u, v, rfl, p1 ρ1 H1 _ .refl rs1 (((re.mono x1).set r1).set r2)⟩
    | [], _, p1 => exact p1.elim
    | [_], _, p1 => exact p1.elim
    | _ :: _ :: _ :: _, _, p1 => exact p1.elim
theorem ss_par3 {i j l : Nat} {x y z : Str} {a b c : Expr} {m : Py.Loc → Store → R (List D)} {px py pz pt : Pos} {kt k2 pt2} (hk : X.env.scope.kind = .function) (hc : X.calm = true) (hN : X.N.Nodup) (hi : X.N[i]? = some x) (hj : X.N[j]? = some y) (hl : X.N[l]? = some z) (hij : i ≠ j) (hil : i ≠ l) (hjl : j ≠ l)
    (hx : X.env.scope.names.lookup x = some .local) (hy : X.env.scope.names.lookup y = some .local) (hz : X.env.scope.names.lookup z = some .local) (ha : SA X W [a, b, c] m)
    (hw : swS X.env.scope [.Tuple [.Name x px, .Name y py, .Name z pz] kt pt] (.Tuple [a, b, c] k2 pt2) = some (some [x, y, z])) :
    SS X W (.Assign [.Tuple [.Name x px, .Name y py, .Name z pz] kt pt] (.Tuple [a, b, c] k2 pt2) pos) (sPar3 i j l m) :=
  PS.imp (ps_par3 hc hN hi hj hl hij hil hjl hx hy hz ha (swS_ok hk hw)) fun Dn σ H ⟨ρ, e, st, rs, re, p⟩ => by
    refine ⟨ρ, e, st, rs, re, (PostS.to p re).imp fun x H1 ⟨d, ρ1, st1, x1, rs1, rd1, p1⟩ => ?_⟩
    match d, rd1, p1 with
    | [a, b, c], rd1, p1 =>
      obtain ⟨u, us, rfl, r1, rd2⟩ := rd1.uncons
      obtain ⟨v, vs, rfl, r2, rd3⟩ := rd2.uncons
      obtain ⟨w, ws, rfl, r3, rd4⟩ := rd3.uncons
      simp only [RDs] at rd4
      subst rd4
      exact ⟨u, v, w, rfl, p1 ρ1 H1 _ .refl rs1 ((((re.mono x1).set r1).set r2).set r3)⟩
    | [], _, p1 => exact p1.elim
    | [_], _, p1 => exact p1.elim
    | [_, _], _, p1 => exact p1.elim
    | _ :: _ :: _ :: _ :: _, _, p1 => exact p1.elim

/-! ### what is walked -/
/-- the items of a walk, and what must stand meanwhile -/
structure Iter where
  items : List D
  still : Store → Prop
def RI (K : PySem.W.Frag) (mg : Str → Option Value) (ρ : List Addr) (H : Hp) (it : Iter) (J : It) : Prop :=
  ∀ ρ' H' st', Wk K ρ H ρ' H' → RS K mg ρ' H' st' → it.still st' → ∀ i : Nat,
    (∀ d, it.items[i]? = some d → J.go i H' ∧ ∀ x H'', J.yld i H' x H'' → Ext K ρ' H' ρ' H'' ∧ RS K mg ρ' H'' st' ∧ RD K mg ρ' H'' d x) ∧
    (it.items[i]? = none → J.stop i H')
theorem RI.mono {K : PySem.W.Frag} {mg : Str → Option Value} {ρ ρ' : List Addr} {H H' : Hp} {it : Iter} {J : It} (h : RI K mg ρ H it J) (x : Ext K ρ H ρ' H') : RI K mg ρ' H' it J :=
  fun ρ2 H2 st2 x2 => h ρ2 H2 st2 (x.wk.trans x2)
abbrev SI (X : Cx) (W : WX) (tg iter : Expr) (m : Py.Loc → Store → R Iter) : Prop := PI X tg iter (tG X.K X.mg (RI X.K X.mg) W m)
omit [Tb] in
omit [Tb] in
open Classical in
noncomputable def forL (still : Store → Prop) (b : D → Py.Loc → Store → Fl) : List D → Py.Loc → Store → Fl
  | [], e, st => if still st then .nx e st else .stuck
  | d :: ds, e, st => if still st then (match b d e st with
      | .nx e st => forL still b ds e st
      | .ct e st => forL still b ds e st
      | .bk e st => .nx e st
      | .rt d st => .rt d st
      | .ex c p e st => .ex c p e st
      | .stuck => .stuck) else .stuck
omit [Tb] in
omit [Tb] in
noncomputable def sFor (mi : Py.Loc → Store → R Iter) (g : D → Py.Loc → Store → Fl) (b : Py.Loc → Store → Fl) : Py.Loc → Store → Fl :=
  fun e st => (mi e st).to e fun it st => forL it.still (fun d e st => (g d e st).seq b) it.items e st
omit [Tb] in
omit [Tb] in
theorem PI.imp {tg it : Expr} {t t' : TI} (h : PI X tg it t) (f : ∀ σ H Q, t' σ H Q → t σ H Q) : PI X tg it t' := ⟨fun pins s σ H Q I q => h.run pins s σ H Q I (f _ _ _ q)⟩
theorem sFor_turn {K : PySem.W.Frag} {mg : Str → Option Value} {g : D → Py.Loc → Store → Fl} {b : Py.Loc → Store → Fl} (hg : Tgt g) {Dn : Ends} {N : L2.St → Hp → Prop} {ρ : List Addr} {H : Hp} {σ : L2.St} {e : Py.Loc} {st : Store} {d : D} {x : V}
    (rs : RS K mg ρ H st) (re : RE K mg ρ H σ e) (rd : RD K mg ρ H d x) (p : PostS K mg W { Dn with nx := N, ct := N, bk := Dn.nx } ρ H ((g d e st).seq b)) :
    tT K mg W g x σ H fun σ2 H2 => tS K mg W b { Dn with nx := N, ct := N, bk := Dn.nx } σ2 H2 := by
  refine ⟨ρ, e, st, d, rs, re, rd, ?_⟩
  have q := PostS.seq p
  have t := hg d e st
  revert q t
  cases g d e st with
  | nx e1 st1 =>
    intro q _ ρ1 H1 σ1 x1 rs1 re1
    obtain ⟨ρ2, e2, st2, x2, rs2, re2, p2⟩ := q ρ1 H1 σ1 x1 rs1 re1
    exact ⟨ρ2, e2, st2, rs2, re2, p2⟩
  | rt _ _ => exact fun _ q => by cases q
  | bk _ _ => exact fun _ q => by cases q
  | ct _ _ => exact fun _ q => by cases q
  | ex _ _ _ _ => exact fun q _ => q
  | stuck => exact fun q _ => q
theorem ss_for {tg iter : Expr} {body : List Stmt} {mi : Py.Loc → Store → R Iter} {g : D → Py.Loc → Store → Fl} {b : Py.Loc → Store → Fl} (hp : PassesOwn (model X.prog X.w) X.A X.env X.xe) (hc : X.calm = true) (hi : SI X W tg iter mi) (hg : SG X W tg g) (ht : Tgt g) (hb : SSs X W body b)
    (hs : ∀ x, foldedSetIterable iter X.env x = pure x) : SS X W (.For tg iter body [] pos) (sFor mi g b) :=
  PS.imp (ps_for hp hc hi hg hb hs) fun Dn σ H ⟨ρ, e, st, rs, re, p⟩ => by
    refine ⟨ρ, e, st, rs, re, (PostS.to p re).imp fun J H1 ⟨it, ρ1, st1, x1, rs1, ri, p1⟩ => ?_⟩
    refine ⟨fun i m σ2 H2 => i + m = it.items.length ∧ ∃ ρ2 e2 st2, Ext X.K ρ1 H1 ρ2 H2 ∧ RS X.K X.mg ρ2 H2 st2 ∧ RE X.K X.mg ρ2 H2 σ2 e2 ∧ PostS X.K X.mg W Dn ρ2 H2 (forL it.still (fun d e st => (g d e st).seq b) (it.items.drop i) e2 st2),
      ⟨it.items.length, by omega, ρ1, e, st1, .refl, rs1, re.mono x1, p1⟩, fun i m σ2 H2 hW => ?_⟩
    obtain ⟨him, ρ2, e2, st2, x2, rs2, re2, p2⟩ := hW
    by_cases hil : i < it.items.length
    · refine .inr ?_
      obtain ⟨d, hd⟩ : ∃ d, it.items[i]? = some d := ⟨_, List.getElem?_eq_getElem hil⟩
      rw [List.drop_eq_getElem_cons hil] at p2
      have ed : it.items[i] = d := by rw [List.getElem?_eq_getElem hil] at hd; exact Option.some.inj hd
      rw [ed] at p2
      unfold forL at p2
      by_cases hst : it.still st2
      · rw [if_pos hst] at p2
        obtain ⟨a1, _⟩ := ri ρ2 H2 st2 x2.wk rs2 hst i
        obtain ⟨hgo, hy⟩ := a1 d hd
        refine ⟨hgo, fun σ3 H3 => ∃ ρ3 e3 st3, Ext X.K ρ1 H1 ρ3 H3 ∧ RS X.K X.mg ρ3 H3 st3 ∧ RE X.K X.mg ρ3 H3 σ3 e3 ∧ PostS X.K X.mg W Dn ρ3 H3 (forL it.still (fun d e st => (g d e st).seq b) (it.items.drop (i + 1)) e3 st3),
          fun σ3 H3 hN => ⟨m - 1, by omega, by omega, hN⟩, fun x H3 hyl => ?_⟩
        obtain ⟨xa, rsa, rda⟩ := hy x H3 hyl
        have rea := re2.mono xa
        have p3 := p2.rebase xa
        refine sFor_turn ht rsa rea rda ?_
        revert p3
        cases (g d e2 st2).seq b with
        | nx e4 st4 => exact fun p3 ρ4 H4 σ4 x4 rs4 re4 => ⟨ρ4, e4, st4, x2.trans (xa.trans x4), rs4, re4, p3.rebase x4⟩
        | ct e4 st4 => exact fun p3 ρ4 H4 σ4 x4 rs4 re4 => ⟨ρ4, e4, st4, x2.trans (xa.trans x4), rs4, re4, p3.rebase x4⟩
        | bk e4 st4 => exact fun p3 => p3
        | rt _ _ => exact fun p3 => p3
        | ex _ _ _ _ => exact fun p3 => p3
        | stuck => exact fun p3 => p3
      · rw [if_neg hst] at p2; exact p2.elim
    · refine .inl ?_
      rw [List.drop_of_length_le (by omega)] at p2
      unfold forL at p2
      by_cases hst : it.still st2
      · rw [if_pos hst] at p2
        obtain ⟨_, a2⟩ := ri ρ2 H2 st2 x2.wk rs2 hst i
        exact ⟨a2 (List.getElem?_eq_none (by omega)), p2 ρ2 H2 σ2 .refl rs2 re2⟩
      · rw [if_neg hst] at p2; exact p2.elim

/-! ### while -/
omit [Tb] in
omit [Tb] in
/-- n turns at most -/
def whN (c : Py.Loc → Store → R Bool) (b : Py.Loc → Store → Fl) : Nat → Py.Loc → Store → Option Fl
  | 0, _, _ => none
  | n + 1, e, st =>
    match c e st with
    | .ok false st => some (.nx e st)
    | .ok true st => match b e st with
      | .nx e st => whN c b n e st
      | .ct e st => whN c b n e st
      | .bk e st => some (.nx e st)
      | .rt d st => some (.rt d st)
      | .ex c p e st => some (.ex c p e st)
      | .stuck => some .stuck
    | .ex c p st => some (.ex c p e st)
    | .stuck => some .stuck
omit [Tb] in
omit [Tb] in
open Classical in
noncomputable def sWh (c : Py.Loc → Store → R Bool) (b : Py.Loc → Store → Fl) : Py.Loc → Store → Fl := fun e st =>
  if h : ∃ n r, whN c b n e st = some r then (Classical.choose (Classical.choose_spec h)) else .stuck
theorem whN_mono {c : Py.Loc → Store → R Bool} {b : Py.Loc → Store → Fl} : ∀ {n : Nat} {e : Py.Loc} {st : Store} {r : Fl} {m : Nat}, whN c b n e st = some r → n ≤ m → whN c b m e st = some r
  | 0, _, _, _, _, h, _ => by cases h
  | n + 1, e, st, r, 0, _, h => by omega
  | n + 1, e, st, r, m + 1, h, hm => by
    unfold whN at h ⊢
    cases hc : c e st with
    | ok k st1 =>
      rw [hc] at h
      cases k with
      | false => exact h
      | true =>
        simp only at h ⊢
        cases hb : b e st1 with
        | nx e2 st2 => rw [hb] at h; exact whN_mono h (by omega)
        | ct e2 st2 => rw [hb] at h; exact whN_mono h (by omega)
        | bk _ _ => rw [hb] at h; exact h
        | rt _ _ => rw [hb] at h; exact h
        | ex _ _ _ _ => rw [hb] at h; exact h
        | stuck => rw [hb] at h; exact h
    | ex _ _ _ => rw [hc] at h; exact h
    | stuck => rw [hc] at h; exact h
theorem sWh_of {c : Py.Loc → Store → R Bool} {b : Py.Loc → Store → Fl} {n : Nat} {e : Py.Loc} {st : Store} {r : Fl} (h : whN c b n e st = some r) : sWh c b e st = r := by
  have ex : ∃ n r, whN c b n e st = some r := ⟨n, r, h⟩
  unfold sWh
  rw [dif_pos ex]
  have h2 := Classical.choose_spec (Classical.choose_spec ex)
  have a := whN_mono h (Nat.le_max_left n (Classical.choose ex))
  have b := whN_mono h2 (Nat.le_max_right n (Classical.choose ex))
  rw [a] at b
  exact (Option.some.inj b).symm
theorem sWh_unf (c : Py.Loc → Store → R Bool) (b : Py.Loc → Store → Fl) (e : Py.Loc) (st : Store) : sWh c b e st = match c e st with
    | .ok false st => .nx e st
    | .ok true st => (match b e st with
      | .nx e st => sWh c b e st
      | .ct e st => sWh c b e st
      | .bk e st => .nx e st
      | .rt d st => .rt d st
      | .ex c p e st => .ex c p e st
      | .stuck => .stuck)
    | .ex c p st => .ex c p e st
    | .stuck => .stuck := by
  have key : ∀ e1 st1, (∀ n, whN c b (n + 1) e st = whN c b n e1 st1) → sWh c b e st = sWh c b e1 st1 := fun e1 st1 hk => by
    by_cases ex : ∃ n r, whN c b n e1 st1 = some r
    · obtain ⟨n, r, h⟩ := ex
      rw [sWh_of h, sWh_of (n := n + 1) (by rw [hk]; exact h)]
    · have ex2 : ¬ ∃ n r, whN c b n e st = some r := fun ⟨n, r, h⟩ => by
        cases n with
        | zero => cases h
        | succ n => exact ex ⟨n, r, by rw [← hk]; exact h⟩
      unfold sWh
      rw [dif_neg ex, dif_neg ex2]
  cases hc : c e st with
  | ok k st1 =>
    cases k with
    | false => exact sWh_of (n := 1) (by unfold whN; rw [hc])
    | true =>
      simp only
      cases hb : b e st1 with
      | nx e2 st2 => exact key e2 st2 fun n => by rw [whN, hc]; simp only [hb]
      | ct e2 st2 => exact key e2 st2 fun n => by rw [whN, hc]; simp only [hb]
      | bk _ _ => exact sWh_of (n := 1) (by unfold whN; rw [hc]; simp only [hb])
      | rt _ _ => exact sWh_of (n := 1) (by unfold whN; rw [hc]; simp only [hb])
      | ex _ _ _ _ => exact sWh_of (n := 1) (by unfold whN; rw [hc]; simp only [hb])
      | stuck => exact sWh_of (n := 1) (by unfold whN; rw [hc]; simp only [hb])
  | ex _ _ _ => exact sWh_of (n := 1) (by unfold whN; rw [hc])
  | stuck => exact sWh_of (n := 1) (by unfold whN; rw [hc])
theorem ss_while {c : Expr} {body : List Stmt} {mc : Py.Loc → Store → R Bool} {b : Py.Loc → Store → Fl} (hp : PassesOwn (model X.prog X.w) X.A X.env X.xe) (hc : ST X W c mc) (hb : SSs X W body b) : SS X W (.While c body [] pos) (sWh mc b) :=
  PS.imp (ps_while hp hc hb) fun Dn σ H ⟨ρ, e, st, rs, re, p⟩ => by
    have ex : ∃ n r, whN mc b n e st = some r := by
      by_cases ex : ∃ n r, whN mc b n e st = some r
      · exact ex
      · unfold sWh at p; rw [dif_neg ex] at p; exact p.elim
    obtain ⟨n, r, hr⟩ := ex
    rw [sWh_of hr] at p
    refine ⟨fun m σ2 H2 => ∃ ρ2 e2 st2 r2, RS X.K X.mg ρ2 H2 st2 ∧ RE X.K X.mg ρ2 H2 σ2 e2 ∧ whN mc b m e2 st2 = some r2 ∧ PostS X.K X.mg W Dn ρ2 H2 r2, ⟨n, ρ, e, st, r, rs, re, hr, p⟩, fun m σ2 H2 hW => ?_⟩
    obtain ⟨ρ2, e2, st2, r2, rs2, re2, h2, p2⟩ := hW
    cases m with
    | zero => cases h2
    | succ m =>
      unfold whN at h2
      refine ⟨ρ2, e2, st2, rs2, re2, ?_⟩
      cases hc : mc e2 st2 with
      | ok k st3 =>
        rw [hc] at h2
        intro ρ3 H3 k' x3 rs3 hk
        cases hk
        cases k with
        | false =>
          simp only at h2
          rw [if_neg (by decide)]
          cases h2
          exact p2 ρ3 H3 σ2 x3 rs3 (re2.mono x3)
        | true =>
          simp only at h2
          rw [if_pos rfl]
          refine ⟨fun σ4 H4 => ∃ ρ4 e4 st4 r4, RS X.K X.mg ρ4 H4 st4 ∧ RE X.K X.mg ρ4 H4 σ4 e4 ∧ whN mc b m e4 st4 = some r4 ∧ PostS X.K X.mg W Dn ρ4 H4 r4, fun σ4 H4 hN => ⟨m, Nat.lt_succ_self m, hN⟩, ρ3, e2, st3, rs3, re2.mono x3, ?_⟩
          have p3 := p2.rebase x3
          cases hb : b e2 st3 with
          | nx e4 st4 => rw [hb] at h2; exact fun ρ4 H4 σ4 x4 rs4 re4 => ⟨ρ4, e4, st4, r2, rs4, re4, h2, p3.rebase x4⟩
          | ct e4 st4 => rw [hb] at h2; exact fun ρ4 H4 σ4 x4 rs4 re4 => ⟨ρ4, e4, st4, r2, rs4, re4, h2, p3.rebase x4⟩
          | bk e4 st4 => rw [hb] at h2; cases h2; exact p3
          | rt _ _ => rw [hb] at h2; cases h2; exact p3
          | ex _ _ _ _ => rw [hb] at h2; cases h2; exact p3
          | stuck => rw [hb] at h2; cases h2; exact p3
      | ex c' pl st3 =>
        rw [hc] at h2
        cases h2
        exact fun ρ3 H3 cls dd x3 rs3 rx => p2 ρ3 H3 σ2 cls dd x3 rs3 (re2.mono x3) rx
      | stuck => rw [hc] at h2; cases h2; exact p2
end
end Py

set_option Elab.async false
set_option linter.all false
set_option maxRecDepth 100000
set_option maxHeartbeats 1000000
namespace Py
open PySem PySem.Spec PyProof.Rows L2
variable [Tb]
/-! ### dropping what nobody sees -/
omit [Tb] in
omit [Tb] in
mutual
def lowD (L : Nat) : D → Bool
  | .tup ds => lowDs L ds
  | .kt ds => lowDs L ds
  | .kl ds => lowDs L ds
  | .ref n => decide (n < L)
  | _ => true
def lowDs (L : Nat) : List D → Bool
  | [] => true
  | d :: ds => lowD L d && lowDs L ds
end
omit [Tb] in
omit [Tb] in
def lowO (L : Nat) : O → Bool
  | .lst ds => lowDs L ds
  | .frz ds => lowDs L ds
  | .dict kvs => lowDs L (kvs.map (·.2))
  | .ins _ fs => lowDs L (fs.map (·.2))
omit [Tb] in
omit [Tb] in
open Classical in
noncomputable def gc (st : Store) (d : D) (st' : Store) : D × Store :=
  if ∀ i, i < st.length → (st'[i]? = st[i]? ∨ ∃ o, st'[i]? = some o ∧ lowO st.length o = true) then
    if lowD st.length d = true then (d, st'.take st.length)
    else match d with
      | .ref n => (match st'[n]? with
        | some o => if st.length ≤ n ∧ lowO st.length o = true then (.ref st.length, st'.take st.length ++ [o]) else (d, st')
        | none => (d, st'))
      | _ => (d, st')
  else (d, st')
section
variable {K : PySem.W.Frag} {mg : Str → Option Value} {ρ ρ' ρ'' : List Addr} {H H' H'' : Hp}
mutual
theorem RD.low : ∀ {d : D} {v : V}, RD K mg ρ H d v → lowD ρ.length d = true
  | .non, _, _ => rfl
  | .bl _, _, _ => rfl
  | .int _, _, _ => rfl
  | .str _, _, _ => rfl
  | .gl _, _, _ => rfl
  | .adr _, _, _ => rfl
  | .ref n, _, h => by
    simp only [RD] at h
    obtain ⟨a, _, e⟩ := h
    simp only [lowD, decide_eq_true_eq]
    exact (List.getElem?_eq_some_iff.mp e).1
  | .tup ds, _, h => by
    simp only [RD] at h
    obtain ⟨a, xs, _, _, r⟩ := h
    simp only [lowD]
    exact RDs.low r
  | .kt ds, _, h => by
    simp only [RD] at h
    obtain ⟨a, xs, _, _, _, _, _, r⟩ := h
    simp only [lowD]
    exact RDs.low r
  | .kl ds, _, h => by
    simp only [RD] at h
    obtain ⟨a, xs, _, _, _, _, _, r⟩ := h
    simp only [lowD]
    exact RDs.low r
theorem RDs.low : ∀ {ds : List D} {vs : List V}, RDs K mg ρ H ds vs → lowDs ρ.length ds = true
  | [], _, _ => rfl
  | d :: ds, _, h => by
    obtain ⟨x, xs, rfl, h1, h2⟩ := h.uncons
    simp only [lowDs, Bool.and_eq_true]
    exact ⟨RD.low h1, RDs.low h2⟩
end
mutual
theorem RD.cut {L : Nat} : ∀ {d : D} {v : V}, RD K mg ρ H d v → lowD L d = true → ∀ {ρ2 : List Addr}, (∀ n, n < L → ρ2[n]? = ρ[n]?) → RD K mg ρ2 H d v
  | .non, _, h, _, _, _ => by simp only [RD] at h ⊢; exact h
  | .bl _, _, h, _, _, _ => by simp only [RD] at h ⊢; exact h
  | .int _, _, h, _, _, _ => by simp only [RD] at h ⊢; exact h
  | .str _, _, h, _, _, _ => by simp only [RD] at h ⊢; exact h
  | .gl _, _, h, _, _, _ => by simp only [RD] at h ⊢; exact h
  | .adr _, _, h, _, _, _ => by simp only [RD] at h ⊢; exact h
  | .ref n, _, h, l, _, e => by
    simp only [RD] at h ⊢
    obtain ⟨a, r, q⟩ := h
    exact ⟨a, r, by rw [e n (by simpa [lowD] using l)]; exact q⟩
  | .tup ds, _, h, l, _, e => by
    simp only [RD] at h ⊢
    obtain ⟨a, xs, r, q, z⟩ := h
    exact ⟨a, xs, r, q, RDs.cut z (by simpa [lowD] using l) e⟩
  | .kt ds, _, h, l, _, e => by
    simp only [RD] at h ⊢
    obtain ⟨a, xs, o, its, n, r, q, z⟩ := h
    exact ⟨a, xs, o, its, n, r, q, RDs.cut z (by simpa [lowD] using l) e⟩
  | .kl ds, _, h, l, _, e => by
    simp only [RD] at h ⊢
    obtain ⟨a, xs, o, its, n, r, q, z⟩ := h
    exact ⟨a, xs, o, its, n, r, q, RDs.cut z (by simpa [lowD] using l) e⟩
theorem RDs.cut {L : Nat} : ∀ {ds : List D} {vs : List V}, RDs K mg ρ H ds vs → lowDs L ds = true → ∀ {ρ2 : List Addr}, (∀ n, n < L → ρ2[n]? = ρ[n]?) → RDs K mg ρ2 H ds vs
  | [], _, h, _, _, _ => by simp only [RDs] at h ⊢; exact h
  | d :: ds, _, h, l, _, e => by
    obtain ⟨x, xs, rfl, h1, h2⟩ := h.uncons
    simp only [lowDs, Bool.and_eq_true] at l
    exact .cons (RD.cut h1 l.1 e) (RDs.cut h2 l.2 e)
end
theorem RKV.lowv : ∀ {kvs : List (D × D)} {ks : List (Key × V)}, RKV K mg ρ H kvs ks → lowDs ρ.length (kvs.map (·.2)) = true
  | _, _, .nil => rfl
  | _, _, .cons r t => by simp only [List.map_cons, lowDs, Bool.and_eq_true]; exact ⟨r.2.low, RKV.lowv t⟩
theorem RKT.lowv : ∀ {kvs : List (D × D)} {ks : List (List Key × V)}, RKT K mg ρ H kvs ks → lowDs ρ.length (kvs.map (·.2)) = true
  | _, _, .nil => rfl
  | _, _, .cons r t => by simp only [List.map_cons, lowDs, Bool.and_eq_true]; exact ⟨r.2.low, RKT.lowv t⟩
theorem RFS.lowv : ∀ {kvs : List (Str × D)} {ks : List (Str × V)}, RFS K mg ρ H kvs ks → lowDs ρ.length (kvs.map (·.2)) = true
  | _, _, .nil => rfl
  | _, _, .cons r t => by simp only [List.map_cons, lowDs, Bool.and_eq_true]; exact ⟨r.2.low, RFS.lowv t⟩
theorem RKV.cut {L : Nat} {ρ2 : List Addr} (e : ∀ n, n < L → ρ2[n]? = ρ[n]?) : ∀ {kvs : List (D × D)} {ks : List (Key × V)}, RKV K mg ρ H kvs ks → lowDs L (kvs.map (·.2)) = true → RKV K mg ρ2 H kvs ks
  | _, _, .nil, _ => .nil
  | _, _, .cons r t, l => by simp only [List.map_cons, lowDs, Bool.and_eq_true] at l; exact .cons ⟨r.1, r.2.cut l.1 e⟩ (RKV.cut e t l.2)
theorem RKT.cut {L : Nat} {ρ2 : List Addr} (e : ∀ n, n < L → ρ2[n]? = ρ[n]?) : ∀ {kvs : List (D × D)} {ks : List (List Key × V)}, RKT K mg ρ H kvs ks → lowDs L (kvs.map (·.2)) = true → RKT K mg ρ2 H kvs ks
  | _, _, .nil, _ => .nil
  | _, _, .cons r t, l => by simp only [List.map_cons, lowDs, Bool.and_eq_true] at l; exact .cons ⟨r.1, r.2.cut l.1 e⟩ (RKT.cut e t l.2)
theorem RFS.cut {L : Nat} {ρ2 : List Addr} (e : ∀ n, n < L → ρ2[n]? = ρ[n]?) : ∀ {kvs : List (Str × D)} {ks : List (Str × V)}, RFS K mg ρ H kvs ks → lowDs L (kvs.map (·.2)) = true → RFS K mg ρ2 H kvs ks
  | _, _, .nil, _ => .nil
  | _, _, .cons r t, l => by simp only [List.map_cons, lowDs, Bool.and_eq_true] at l; exact .cons ⟨r.1, r.2.cut l.1 e⟩ (RFS.cut e t l.2)
theorem RO.low {a : Addr} {o : O} (h : RO K mg ρ H a o) : lowO ρ.length o = true := by
  cases o with
  | lst ds => obtain ⟨vs, e, r⟩ := h; exact r.low
  | frz ds => obtain ⟨o, vs, e, r⟩ := h; exact r.low
  | dict kvs => rcases h with ⟨ks, e, r⟩ | ⟨⟨ks, e, r⟩, _⟩ <;> exact r.lowv
  | ins c fs => obtain ⟨C, dx, vs, m, e, r⟩ := h; exact r.lowv
theorem RO.cut {L : Nat} {a : Addr} {o : O} (h : RO K mg ρ H a o) (l : lowO L o = true) {ρ2 : List Addr} (e : ∀ n, n < L → ρ2[n]? = ρ[n]?) : RO K mg ρ2 H a o := by
  cases o with
  | lst ds => obtain ⟨vs, q, r⟩ := h; exact ⟨vs, q, r.cut l e⟩
  | frz ds => obtain ⟨o, vs, q, r⟩ := h; exact ⟨o, vs, q, r.cut l e⟩
  | dict kvs =>
    rcases h with ⟨ks, q, r⟩ | ⟨⟨ks, q, r⟩, ne⟩
    · exact .inl ⟨ks, q, RKV.cut e r l⟩
    · exact .inr ⟨⟨ks, q, RKT.cut e r l⟩, ne⟩
  | ins c fs => obtain ⟨C, dx, vs, m, q, r⟩ := h; exact ⟨C, dx, vs, m, q, RFS.cut e r l⟩
theorem gc_sound {st st' : Store} {d : D} {v : V} (rs : RS K mg ρ H st) (x : Ext K ρ H ρ' H') (rs' : RS K mg ρ' H' st') (rd : RD K mg ρ' H' d v) :
    ∃ ρ'', Ext K ρ H ρ'' H' ∧ RS K mg ρ'' H' (gc st d st').2 ∧ RD K mg ρ'' H' (gc st d st').1 v ∧ (∀ c w, RD K mg ρ' H' c w → lowD st.length c = true → RD K mg ρ'' H' c w) := by
  unfold gc
  by_cases hc : ∀ i, i < st.length → (st'[i]? = st[i]? ∨ ∃ o, st'[i]? = some o ∧ lowO st.length o = true)
  · rw [if_pos hc]
    have hlow : ∀ (i : Nat) o, i < st.length → st'[i]? = some o → lowO st.length o = true := fun i o hi ho => by
      rcases hc i hi with h | ⟨o', h, l⟩
      · obtain ⟨a, _, r⟩ := rs.at_ (n := i) (o := o) (by rw [← h]; exact ho)
        rw [← rs.len]
        exact r.low
      · rw [ho] at h; cases h; exact l
    have hlen : ρ.length ≤ ρ'.length := by
      by_cases h0 : ρ.length = 0
      · omega
      · have := x.pre (ρ.length - 1) (ρ[ρ.length - 1]'(by omega)) (List.getElem?_eq_getElem (by omega))
        have := (List.getElem?_eq_some_iff.mp this).1
        omega
    have ht : ∀ n, n < st.length → (ρ'.take st.length)[n]? = ρ'[n]? := fun n hn => by rw [List.getElem?_take, if_pos hn]
    have e1 : Ext K ρ H (ρ'.take st.length) H' := ⟨fun n a h => by
      have hn : n < st.length := by rw [← rs.len]; exact (List.getElem?_eq_some_iff.mp h).1
      rw [ht n hn]; exact x.pre n a h, x.tup, x.frm', fun a h n => x.new_ a (List.mem_of_mem_take h) n⟩
    have s1 : RS K mg (ρ'.take st.length) H' (st'.take st.length) := ⟨by rw [List.length_take, List.length_take, rs'.len], rs'.nd.sublist (List.take_sublist _ _), fun n a o h1 h2 => by
      have hn : n < st.length := by have := (List.getElem?_eq_some_iff.mp h2).1; rw [List.length_take] at this; omega
      rw [ht n hn] at h1
      rw [List.getElem?_take, if_pos hn] at h2
      exact (rs'.ob n a o h1 h2).cut (hlow n o hn h2) (fun m hm => ht m hm), rs'.tb⟩
    by_cases hd : lowD st.length d = true
    · rw [if_pos hd]
      exact ⟨_, e1, s1, rd.cut hd ht, fun c w r l => r.cut l ht⟩
    · rw [if_neg hd]
      cases d with
      | ref n =>
        simp only
        cases ho : st'[n]? with
        | none => exact ⟨ρ', x, rs', rd, fun c w r _ => r⟩
        | some o =>
          simp only
          by_cases hl : st.length ≤ n ∧ lowO st.length o = true
          · rw [if_pos hl]
            simp only [RD] at rd
            obtain ⟨a, rfl, ha⟩ := rd
            have hnew : a ∉ ρ'.take st.length := fun hm => by
              obtain ⟨m, hm1, e⟩ := List.getElem_of_mem hm
              have hm2 : m < st.length := by rw [List.length_take] at hm1; omega
              have q : ρ'[m]? = some a := by rw [← ht m hm2, List.getElem?_eq_getElem hm1, e]
              obtain ⟨l1, q1⟩ := List.getElem?_eq_some_iff.mp q
              obtain ⟨l2, q2⟩ := List.getElem?_eq_some_iff.mp ha
              have := (List.getElem_inj rs'.nd).mp (q1.trans q2.symm)
              omega
            have hL : (ρ'.take st.length).length = st.length := by rw [List.length_take]; have := rs.len; omega
            have hL2 : (st'.take st.length).length = st.length := by rw [← s1.len, hL]
            have ht2 : ∀ m, m < st.length → (ρ'.take st.length ++ [a])[m]? = ρ'[m]? := fun m hm => by rw [List.getElem?_append_left (by rw [hL]; exact hm), ht m hm]
            refine ⟨ρ'.take st.length ++ [a], ⟨fun m b h => ?_, x.tup, x.frm', fun b h nb => ?_⟩, ⟨?_, ?_, fun m b u h1 h2 => ?_, rs'.tb⟩, ?_, fun c w r l => r.cut l ht2⟩
            · have hm : m < st.length := by rw [← rs.len]; exact (List.getElem?_eq_some_iff.mp h).1
              rw [ht2 m hm]; exact x.pre m b h
            · rcases List.mem_append.mp h with h | h
              · exact x.new_ b (List.mem_of_mem_take h) nb
              · simp at h; subst h
                exact x.new_ b (List.mem_of_getElem? ha) nb
            · simp [hL, hL2]
            · refine List.nodup_append.mpr ⟨rs'.nd.sublist (List.take_sublist _ _), by simp, fun b hb c hc => ?_⟩
              simp at hc; subst hc
              intro z; subst z; exact hnew hb
            · by_cases hm : m < st.length
              · rw [ht2 m hm] at h1
                rw [List.getElem?_append_left (by rw [hL2]; exact hm), List.getElem?_take, if_pos hm] at h2
                exact (rs'.ob m b u h1 h2).cut (hlow m u hm h2) ht2
              · have hm' : m = st.length := by
                  have := (List.getElem?_eq_some_iff.mp h2).1
                  simp [hL2] at this
                  omega
                subst hm'
                rw [List.getElem?_append_right (by rw [hL]; exact Nat.le_refl _), hL] at h1
                rw [List.getElem?_append_right (by rw [hL2]; exact Nat.le_refl _), hL2] at h2
                simp at h1 h2
                subst h1; subst h2
                exact (rs'.ob n a o ha ho).cut hl.2 ht2
            · simp only [RD]
              exact ⟨a, rfl, by rw [List.getElem?_append_right (by rw [hL]; exact Nat.le_refl _), hL]; simp⟩
          · rw [if_neg hl]
            exact ⟨ρ', x, rs', rd, fun c w r _ => r⟩
      | _ => exact ⟨ρ', x, rs', rd, fun c w r _ => r⟩
  · rw [if_neg hc]
    exact ⟨ρ', x, rs', rd, fun c w r _ => r⟩
/-- an object that stands untold is told -/
theorem RS.adopt {st : Store} {p : Addr} {vs : List V} {ds : List D} (h : RS K mg ρ H st) (hp : p ∉ ρ) (e : H p = some (.lst vs)) (r : RDs K mg ρ H ds vs) : RS K mg (ρ ++ [p]) H (st ++ [.lst ds]) := by
  have mono : ∀ {d : D} {v : V}, RD K mg ρ H d v → RD K mg (ρ ++ [p]) H d v := fun {d v} q => q.cut q.low fun n hn => List.getElem?_append_left hn
  refine ⟨by simp [h.len], List.nodup_append.mpr ⟨h.nd, by simp, fun a ha b hb => by simp at hb; subst hb; intro z; subst z; exact hp ha⟩, fun n a u e1 e2 => ?_, h.tb⟩
  by_cases hn : n < ρ.length
  · rw [List.getElem?_append_left hn] at e1
    rw [List.getElem?_append_left (by rw [← h.len]; exact hn)] at e2
    have q := h.ob n a u e1 e2
    exact q.cut q.low fun m hm => List.getElem?_append_left hm
  · have hn' : n = ρ.length := by
      have := (List.getElem?_eq_some_iff.mp e1).1
      simp at this
      omega
    subst hn'
    simp at e1
    rw [h.len] at e2
    simp at e2
    subst e1; subst e2
    exact ⟨vs, e, r.cut r.low fun m hm => List.getElem?_append_left hm⟩
end
/-! ### comprehensions -/
/-- a comprehension's target: a name, a tuple of names -/
inductive Tg where
  | nm (i : Nat)
  | tp (is : List Nat)
omit [Tb] in
omit [Tb] in
def setE : Py.Loc → List Nat → List D → Py.Loc
  | e, i :: is, d :: ds => setE (e.set i (some d)) is ds
  | e, _, _ => e
omit [Tb] in
omit [Tb] in
def setV : L2.St → List Nat → List V → L2.St
  | e, i :: is, d :: ds => setV (e.set i (some d)) is ds
  | e, _, _ => e
omit [Tb] in
omit [Tb] in
def bindE : Tg → D → Py.Loc → Option Py.Loc
  | .nm i, d, e => some (e.set i (some d))
  | .tp is, .tup ds, e => if ds.length = is.length then some (setE e is ds) else none
  | _, _, _ => none
omit [Tb] in
omit [Tb] in
def wipeE (e : Py.Loc) : List Nat → Py.Loc
  | [] => e
  | v :: vs => (wipeE e vs).set v none
omit [Tb] in
omit [Tb] in
def Tg.slots : Tg → List Nat
  | .nm i => [i]
  | .tp is => is
omit [Tb] in
omit [Tb] in
def gTg (K : PySem.W.Frag) : Tg → TG
  | .nm i => gName i
  | .tp is => gTup K is.length (fun vs σ H Q => vs.length = is.length ∧ Q (setV σ is vs) H)
section
variable {X : Cx} {W : WX} {pos : Pos}
omit [Tb] in
omit [Tb] in
def namesIx (N : List Str) : List Expr → List Nat → Bool
  | [], [] => true
  | .Name x _ :: es, i :: is => decide (N[i]? = some x) && namesIx N es is
  | _, _ => false
omit [Tb] in
omit [Tb] in
def namesOk (fnb : Str → Bool) (sc : Scope) : List Expr → Bool
  | [] => true
  | .Name x _ :: es => (decide (sc.names.lookup x = some .local) || (fnb x && decide (sc.names.lookup x = some .cell))) && namesOk fnb sc es
  | _ => false
theorem sg_names (hN : X.N.Nodup) : ∀ {es : List Expr} {is : List Nat}, namesIx X.N es is = true → namesOk X.fn X.env.scope es = true → PGs X es (fun vs σ H Q => vs.length = is.length ∧ Q (setV σ is vs) H) ∧ es.all noStar = true ∧ es.length = is.length
  | [], [], _, _ => ⟨⟨fun pins s σ H vs us Q I r h => pgs_nil.run pins s σ H vs us Q I r (by
      obtain ⟨h1, h2⟩ := h
      cases vs with
      | nil => exact ⟨rfl, h2⟩
      | cons _ _ => cases h1)⟩, rfl, rfl⟩
  | [], _ :: _, h, _ => by cases h
  | e :: es, [], h, k => by cases e <;> cases h
  | e :: es, i :: is, h, k => by
    cases e with
    | Name x p =>
      simp only [namesIx, Bool.and_eq_true, decide_eq_true_eq] at h
      simp only [namesOk, Bool.and_eq_true, Bool.or_eq_true, decide_eq_true_eq] at k
      obtain ⟨ih, ih2, ih3⟩ := sg_names hN (es := es) (is := is) h.2 k.2
      have hl : L2.Loc X.env.scope x := k.1.elim .inl fun z => .inr z.2
      have hf : X.fn x = true ∨ X.env.scope.names.lookup x = some .local := k.1.elim .inr fun z => .inl z.1
      refine ⟨⟨fun pins s σ H vs us Q I r q => (pgs_cons (pg_name hN h.1 hl hf) ih (assignEach_cons _ _ _ rfl)).run pins s σ H vs us Q I r ?_⟩, by simpa [noStar] using ih2, by simp [ih3]⟩
      obtain ⟨h1, h2⟩ := q
      cases vs with
      | nil => cases h1
      | cons v vs => exact ⟨v, vs, rfl, by simpa using h1, h2⟩
    | _ => cases k
omit [Tb] in
omit [Tb] in
def tgOk (N : List Str) (fnb : Str → Bool) (sc : Scope) : Expr → Tg → Bool
  | .Name x _, .nm i => decide (N[i]? = some x) && (decide (sc.names.lookup x = some .local) || (fnb x && decide (sc.names.lookup x = some .cell)))
  | .Tuple es _ _, .tp is => namesIx N es is && namesOk fnb sc es
  | _, _ => false
theorem sg_tg (hN : X.N.Nodup) (hc : X.calm = true) {tg : Expr} {t : Tg} (h : tgOk X.N X.fn X.env.scope tg t = true) : PG X tg (gTg X.K t) := by
  cases t with
  | nm i =>
    cases tg with
    | Name x p =>
      simp only [tgOk, Bool.and_eq_true, Bool.or_eq_true, decide_eq_true_eq] at h
      exact pg_name hN h.1 (h.2.elim .inl fun z => .inr z.2) (h.2.elim .inr fun z => .inl z.1)
    | _ => cases h
  | tp is =>
    cases tg with
    | Tuple es k p =>
      simp only [tgOk, Bool.and_eq_true] at h
      obtain ⟨a, b, c⟩ := sg_names hN h.1 h.2
      exact pg_tup hc a (by rw [assignEach_len, c]) (assignEach_star es _ b)
    | _ => cases h
theorem RE.setAll {K : PySem.W.Frag} {mg : Str → Option Value} {ρ : List Addr} {H : Hp} : ∀ {is : List Nat} {ds : List D} {vs : List V} {σ : L2.St} {e : Py.Loc}, RE K mg ρ H σ e → RDs K mg ρ H ds vs → RE K mg ρ H (setV σ is vs) (setE e is ds)
  | [], _, _, _, _, h, _ => by simp only [setV, setE]; exact h
  | i :: is, [], _, _, _, h, r => by simp only [RDs] at r; subst r; exact h
  | i :: is, d :: ds, _, σ, e, h, r => by
    obtain ⟨x, xs, rfl, h1, h2⟩ := r.uncons
    show RE K mg ρ H (setV (σ.set i (some x)) is xs) (setE (e.set i (some d)) is ds)
    exact RE.setAll (RE.set h h1) h2
theorem RE.wipe {K : PySem.W.Frag} {mg : Str → Option Value} {ρ : List Addr} {H : Hp} {σ : L2.St} {e : Py.Loc} (h : RE K mg ρ H σ e) : ∀ vs : List Nat, RE K mg ρ H (wipe σ vs) (wipeE e vs)
  | [] => h
  | v :: vs => by
    have ih := RE.wipe h vs
    refine ⟨by simp [L2.wipe, wipeE, ih.len], fun i d q => ?_⟩
    unfold wipeE at q
    by_cases hi : v = i
    · subst hi
      have hl : v < (wipeE e vs).length := by have := (List.getElem?_eq_some_iff.mp q).1; simpa using this
      rw [List.getElem?_set_self hl] at q; cases q
    · rw [List.getElem?_set_ne hi] at q
      obtain ⟨v', a, b⟩ := ih.at_ i d q
      exact ⟨v', by unfold L2.wipe; rw [List.getElem?_set_ne hi]; exact a, b⟩
theorem wipe_ext {σ σ' : L2.St} : ∀ {vs : List Nat}, (∀ i, i ∉ vs → σ[i]? = σ'[i]?) → σ.length = σ'.length → wipe σ vs = wipe σ' vs := fun {vs} h hl => by
  refine List.ext_getElem? fun i => ?_
  by_cases hi : i ∈ vs
  · have : ∀ (τ : L2.St) (vs : List Nat), i ∈ vs → (wipe τ vs)[i]? = if i < τ.length then some none else none := by
      intro τ vs hi
      induction vs with
      | nil => cases hi
      | cons v vs ih =>
        unfold L2.wipe
        by_cases hv : v = i
        · subst hv
          rw [List.getElem?_set]
          simp [wipe_length]
        · rw [List.getElem?_set_ne hv]
          exact ih ((List.mem_cons.mp hi).resolve_left (Ne.symm hv))
    rw [this σ vs hi, this σ' vs hi, hl]
  · rw [wipe_out hi, wipe_out hi]; exact h i hi
omit [Tb] in
omit [Tb] in
theorem setV_out : ∀ {is : List Nat} {vs : List V} {σ : L2.St} {i : Nat}, i ∉ is → (setV σ is vs)[i]? = σ[i]?
  | [], _, _, _, _ => rfl
  | j :: is, [], _, _, _ => rfl
  | j :: is, v :: vs, σ, i, h => by
    unfold setV
    rw [setV_out (fun z => h (List.mem_cons_of_mem _ z)), List.getElem?_set_ne (fun z => h (by rw [z]; exact List.mem_cons_self))]
omit [Tb] in
omit [Tb] in
theorem setV_len : ∀ {is : List Nat} {vs : List V} {σ : L2.St}, (setV σ is vs).length = σ.length
  | [], _, _ => rfl
  | j :: is, [], _ => rfl
  | j :: is, v :: vs, σ => by unfold setV; rw [setV_len]; simp
theorem wipe_wipe (σ : L2.St) (vs : List Nat) : wipe (wipe σ vs) vs = wipe σ vs := wipe_ext (fun i hi => wipe_out hi) (wipe_length _ _)
omit [Tb] in
omit [Tb] in
/-- one item of a comprehension -/
noncomputable def lcB (tg : Tg) (mt : Py.Loc → Store → R Bool) (me : Py.Loc → Store → R D) (d : D) (e : Py.Loc) (st : Store) : R (Option D) :=
  match bindE tg d e with
  | none => .stuck
  | some e1 => match mt e1 st with
    | .ok false st1 => .ok none (gc st .non st1).2
    | .ok true st1 => (match me e1 st1 with
      | .ok y st2 => .ok (some (gc st y st2).1) (gc st y st2).2
      | _ => .stuck)
    | _ => .stuck
omit [Tb] in
omit [Tb] in
open Classical in
noncomputable def lcL (still : Store → Prop) (b : D → Store → R (Option D)) : List D → Store → R (List D)
  | [], st => if still st then .ok [] st else .stuck
  | d :: ds, st => if still st then (b d st).bind fun o st => (lcL still b ds st).bind fun r st => .ok (o.toList ++ r) st else .stuck
omit [Tb] in
omit [Tb] in
noncomputable def mLc (mi : Py.Loc → Store → R Iter) (tg : Tg) (mt : Py.Loc → Store → R Bool) (me : Py.Loc → Store → R D) (vs : List Nat) : Py.Loc → Store → R D := fun e st =>
  (mi e st).bind fun it st => if it.items.length ≤ sizeLine then (lcL it.still (fun d st => lcB tg mt me d (wipeE e vs) st) it.items st).bind fun ds st => .ok (.ref st.length) (st ++ [.lst ds]) else .stuck
omit [Tb] in
omit [Tb] in
abbrev W0 : WX := fun _ _ _ _ => False
theorem gTg_of {K : PySem.W.Frag} {mg : Str → Option Value} {ρ : List Addr} {H : Hp} {t : Tg} {vs : List Nat} {σ : L2.St} {e e1 : Py.Loc} {d : D} {x : V} {Q : L2.St → Hp → Prop} (hs : ∀ i ∈ t.slots, i ∈ vs) (re : RE K mg ρ H σ e) (rd : RD K mg ρ H d x) (hb : bindE t d e = some e1)
    (h : ∀ σ', RE K mg ρ H σ' e1 → wipe σ' vs = wipe σ vs → Q σ' H) : gTg K t x σ H Q := by
  cases t with
  | nm i =>
    simp only [bindE, Option.some.injEq] at hb
    subst hb
    refine h _ (re.set rd) (wipe_ext (fun j hj => ?_) (by simp))
    rw [List.getElem?_set_ne (fun z => hj (by rw [← z]; exact hs i (by simp [Tg.slots])))]
  | tp is =>
    cases d with
    | tup ds =>
      simp only [bindE] at hb
      split at hb
      · rename_i hl
        simp only [Option.some.injEq] at hb
        subst hb
        simp only [RD] at rd
        obtain ⟨a, xs, rfl, hq, r⟩ := rd
        refine ⟨a, xs, rfl, .of hq, by rw [← r.length]; exact hl, by rw [← r.length]; exact hl, h _ (re.setAll r) (wipe_ext (fun j hj => setV_out fun z => hj (hs j z)) setV_len)⟩
      · cases hb
    | _ => cases hb
theorem lc_of {mi : Py.Loc → Store → R Iter} {tg : Tg} {mt : Py.Loc → Store → R Bool} {me : Py.Loc → Store → R D} {vs : List Nat} (hs : ∀ i ∈ tg.slots, i ∈ vs) (σ : L2.St) (H : Hp) (Q : VK) (h : tG X.K X.mg (RD X.K X.mg) W (mLc mi tg mt me vs) σ H Q) :
    tLc (tG X.K X.mg (RI X.K X.mg) W mi) (gTg X.K tg) (tG X.K X.mg RB W0 mt) (tG X.K X.mg (RD X.K X.mg) W0 me) vs σ H Q := by
  obtain ⟨ρ, e, st, rs, re, p⟩ := h
  refine ⟨ρ, e, st, rs, re, (Post.bind p).imp fun J H1 ⟨it, ρ1, st1, x1, rs1, ri, p1⟩ => ?_⟩
  split at p1
  rotate_left
  · exact p1.elim
  rename_i hsz
  intro Dd hD
  have rew : RE X.K X.mg ρ1 H1 (wipe σ vs) (wipeE e vs) := (re.mono x1).wipe vs
  have hDn : Dd ∉ ρ1 := rs1.fresh hD
  generalize hbb : (fun d st => lcB tg mt me d (wipeE e vs) st) = bb at p1
  refine ⟨fun i m H2 => i + m = it.items.length ∧ ∃ ρ2 st2 acc av, Ext X.K ρ1 H1 ρ2 H2 ∧ Dd ∉ ρ2 ∧ H2 Dd = some (.lst av) ∧ RDs X.K X.mg ρ2 H2 acc av ∧ acc.length ≤ i ∧ RS X.K X.mg ρ2 H2 st2 ∧
      Post X.K X.mg (RD X.K X.mg) W σ Q ρ1 H1 ((lcL it.still bb (it.items.drop i) st2).bind fun ds st => .ok (.ref st.length) (st ++ [.lst (acc ++ ds)])),
    ⟨it.items.length, by omega, ρ1, st1, [], [], Ext.new hD, hDn, upd_same, .nil, Nat.le_refl _, rs1.tupnew hD, by simpa using p1⟩, fun i m H2 hW => ?_⟩
  obtain ⟨him, ρ2, st2, acc, av, x2, hd2, eD, ra, la, rs2, p2⟩ := hW
  have xb : Ext X.K ρ1 H1 ρ2 H2 := x2
  by_cases hil : i < it.items.length
  · refine .inr ?_
    obtain ⟨d, hd⟩ : ∃ d, it.items[i]? = some d := ⟨_, List.getElem?_eq_getElem hil⟩
    rw [List.drop_eq_getElem_cons hil] at p2
    have ed : it.items[i] = d := by rw [List.getElem?_eq_getElem hil] at hd; exact Option.some.inj hd
    rw [ed] at p2
    unfold lcL at p2
    by_cases hst : it.still st2
    · rw [if_pos hst] at p2
      obtain ⟨a1, _⟩ := ri ρ2 H2 st2 xb.wk rs2 hst i
      obtain ⟨hgo, hy⟩ := a1 d hd
      refine ⟨hgo, fun H3 => ∃ ρ3 st3 acc' av', Ext X.K ρ1 H1 ρ3 H3 ∧ Dd ∉ ρ3 ∧ H3 Dd = some (.lst av') ∧ RDs X.K X.mg ρ3 H3 acc' av' ∧ acc'.length ≤ i + 1 ∧ RS X.K X.mg ρ3 H3 st3 ∧
          Post X.K X.mg (RD X.K X.mg) W σ Q ρ1 H1 ((lcL it.still bb (it.items.drop (i + 1)) st3).bind fun ds st => .ok (.ref st.length) (st ++ [.lst (acc' ++ ds)])),
        fun H3 hN => ⟨m - 1, by omega, by omega, hN⟩, fun x H3 hyl => ?_⟩
      obtain ⟨xa, rsa, rda⟩ := hy x H3 hyl
      have eD3 : H3 Dd = some (.lst av) := xa.frm _ _ eD hd2
      rw [← hbb] at p2
      simp only [lcB] at p2
      cases hbd : bindE tg d (wipeE e vs) with
      | none => rw [hbd] at p2; exact p2.elim
      | some e1 =>
        rw [hbd] at p2
        simp only at p2
        have rew3 : RE X.K X.mg ρ2 H3 (wipe σ vs) (wipeE e vs) := (rew.mono xb).mono xa
        refine gTg_of hs rew3 rda hbd fun σ2 re2 hw2 => ⟨by rw [hw2]; exact wipe_wipe σ vs, ?_⟩
        refine ⟨ρ2, e1, st2, rsa, re2, ?_⟩
        cases hmt : mt e1 st2 with
        | ok k st4 =>
          rw [hmt] at p2
          intro ρ4 H4 k' x4 rs4 hk
          cases hk
          have hD4 : Dd ∉ ρ4 := fun hm => by rcases x4.new_ Dd hm hd2 with this | ⟨_, this⟩ <;> rw [eD3] at this <;> cases this
          have eD4 : H4 Dd = some (.lst av) := x4.frm _ _ eD3 hd2
          cases k with
          | false =>
            rw [if_neg (by decide)]
            simp only at p2
            obtain ⟨ρ5, x5, rs5, _, _⟩ := gc_sound rsa x4 rs4 (d := .non) (v := .non) (by simp only [RD])
            have hD5 : Dd ∉ ρ5 := fun hm => by rcases x5.new_ Dd hm hd2 with this | ⟨_, this⟩ <;> rw [eD3] at this <;> cases this
            refine ⟨ρ5, _, acc, av, x2.trans (xa.trans x5), hD5, eD4, ra.mono (xa.trans x5), by omega, rs5, ?_⟩
            simp only [R.bind_ok, Option.toList_none, List.nil_append] at p2
            rw [← hbb]
            have idb : ∀ r : R (List D), (r.bind fun r st => R.ok r st) = r := fun r => by cases r <;> rfl
            rw [idb] at p2
            exact p2
          | true =>
            rw [if_pos rfl]
            simp only at p2
            refine ⟨ρ4, e1, st4, rs4, re2.mono x4, ?_⟩
            cases hme : me e1 st4 with
            | ok y st5 =>
              rw [hme] at p2
              intro ρ5 H5 v x5 rs5 rd5
              obtain ⟨ρ6, x6, rs6, rd6, _⟩ := gc_sound rsa (x4.trans x5) rs5 rd5
              have eD5 : H5 Dd = some (.lst av) := (x4.trans x5).frm _ _ eD3 hd2
              have hD6 : Dd ∉ ρ6 := fun hm => by rcases x6.new_ Dd hm hd2 with this | ⟨_, this⟩ <;> rw [eD3] at this <;> cases this
              refine ⟨av, eD5, by rw [← ra.length]; omega, ?_⟩
              have hm : ∀ xs, H5 Dd ≠ some (.tup xs) := fun xs r => by rw [eD5] at r; cases r
              refine ⟨ρ6, _, acc ++ [(gc st2 y st5).1], av ++ [v], (x2.trans (xa.trans x6)).beside hD hm, hD6, upd_same, ?_, by simp; omega, rs6.beside hD6 hm ⟨_, eD5, .lst⟩, ?_⟩
              · exact ((ra.mono (xa.trans x6)).append (.cons rd6 .nil)).mo (Wk.write hm)
              · rw [← hbb]
                have idb : ∀ (r : R (List D)), ((r.bind fun r st => R.ok ((some (gc st2 y st5).1).toList ++ r) st).bind fun ds st => R.ok (D.ref st.length) (st ++ [O.lst (acc ++ ds)])) = r.bind fun ds st => R.ok (D.ref st.length) (st ++ [O.lst (acc ++ [(gc st2 y st5).1] ++ ds)]) := fun r => by
                  cases r with
                  | ok a st => simp
                  | _ => rfl
                rw [← idb]
                exact p2
            | _ => rw [hme] at p2; exact p2.elim
        | _ => rw [hmt] at p2; exact p2.elim
    · rw [if_neg hst] at p2; exact p2.elim
  · refine .inl ?_
    rw [List.drop_of_length_le (by omega)] at p2
    unfold lcL at p2
    by_cases hst : it.still st2
    · rw [if_pos hst] at p2
      obtain ⟨_, a2⟩ := ri ρ2 H2 st2 xb.wk rs2 hst i
      refine ⟨a2 (List.getElem?_eq_none (by omega)), ?_⟩
      simp only [R.bind_ok, List.append_nil] at p2
      refine p2 (ρ2 ++ [Dd]) H2 (.ref Dd) ⟨fun n a q => by rw [List.getElem?_append_left (List.getElem?_eq_some_iff.mp (xb.pre n a q)).1]; exact xb.pre n a q, xb.tup, xb.frm', fun a ha na => ?_⟩ (rs2.adopt hd2 eD ra) ?_
      · rcases List.mem_append.mp ha with ha | ha
        · exact xb.new_ a ha na
        · simp at ha; subst ha; exact .inl hD
      · simp only [RD]
        exact ⟨Dd, rfl, by rw [← rs2.len]; simp⟩
    · rw [if_neg hst] at p2; exact p2.elim
end
end Py

set_option Elab.async false
set_option linter.all false
set_option maxRecDepth 100000
set_option maxHeartbeats 1000000
namespace Py
open PySem PySem.Spec PyProof.Rows L2
variable [Tb]
omit [Tb] in
omit [Tb] in
abbrev Mean := List D → Store → R D
section
variable {K : PySem.W.Frag} {mg : Str → Option Value}
/-- what a def promises: its meaning -/
def spD (K : PySem.W.Frag) (mg : Str → Option Value) (n : Nat) (m : Mean) : Sp := fun vs H Q E => vs.length = n ∧ ∃ ρ st ds, RS K mg ρ H st ∧ RDs K mg ρ H ds vs ∧ Post K mg (RD K mg) (fun cls dd _ H => E cls dd H) [] Q ρ H (m ds st)
theorem Post.wish {α β : Type} {Rel : List Addr → Hp → α → β → Prop} {W W' : WX} {σ σ' : L2.St} {Q : β → Hp → Prop} {ρ : List Addr} {H : Hp} {r : R α} (h : Post K mg Rel W σ Q ρ H r) (f : ∀ c d H, W c d σ H → W' c d σ' H) : Post K mg Rel W' σ' Q ρ H r := by
  cases r with
  | ok a st => exact h
  | ex c pl st => exact fun ρ2 H2 cls dd e s x => f _ _ _ (h ρ2 H2 cls dd e s x)
  | stuck => exact h
end
/-- the module's def x, with n parameters, means m -/
structure FnD (P : Program) (w : World) (K : PySem.W.Frag) (mg : Str → Option Value) (base : Heap) (k : Nat) (x : Str) (n : Nat) (m : Mean) : Prop where
  ex : ∃ f fd ps, mg x = some (.ref f) ∧ PySem.W.keepIn K (.ref f) = true ∧ Binds K fd ps [] ∧ ps.length = n ∧ FnOk P w K mg base (L2.CX P w) k f fd ps (spD K mg n m)
theorem FnD.mono {P : Program} {w : World} {K : PySem.W.Frag} {mg : Str → Option Value} {base : Heap} {j k : Nat} {x : Str} {n : Nat} {m : Mean} (h : FnD P w K mg base j x n m) (l : j ≤ k) : FnD P w K mg base k x n m := by
  obtain ⟨f, fd, ps, a, b, c, d, e⟩ := h.ex
  exact ⟨f, fd, ps, a, b, c, d, e.mono l⟩
omit [Tb] in
omit [Tb] in
def mCall (m : Mean) (ma : Py.Loc → Store → R (List D)) : Py.Loc → Store → R D := fun e st => (ma e st).bind m
section
variable {X : Cx} {W : WX} {pos : Pos} {e : Expr} {es : List Expr}
theorem se_call {k n : Nat} {x : Str} {p : Pos} {m : Mean} {ma : Py.Loc → Store → R (List D)} (F : FnD X.prog X.w X.K X.mg X.base k x n m) (hr : Room k X.A) (tk : Takes X W) (hg : Gl X x) (ha : SA X W (e :: es) ma) (hn : (e :: es).length = n) (hdb : (x == ("__debug__" : Str)) = false)
    (hs : (e :: es).all noStar = true) (hl : ∀ e st ds st', ma e st = .ok ds st' → ds.length = n) : SE X W (.Call (.Name x p) (e :: es) [] pos) (mCall m ma) := by
  obtain ⟨f, fd, ps, a, b, c, d, F⟩ := F.ex
  simp only [List.all_cons, Bool.and_eq_true] at hs
  refine PE.imp (pe_callSD (E := WE W) (dvs := []) (ds := []) F hr hg a b c .nil (passAt tk) ha hdb (noStar_ok hs.1 _ _) (noStars_ok hs.2 _ _)) fun σ H Q ⟨ρ, e, st, rs, re, p⟩ => ?_
  refine ⟨ρ, e, st, rs, re, ?_⟩
  have q := Post.bind (Rel := RDs X.K X.mg) p
  revert q
  cases h : ma e st with
  | ok ds st1 =>
    intro q ρ1 H1 vs x1 rs1 rd1
    obtain ⟨ds', ρ2, st2, x2, rs2, rd2, p2⟩ := q ρ1 H1 vs x1 rs1 rd1
    have hlen : vs.length = n := by rw [← rd1.length]; exact hl _ _ _ _ h
    refine ⟨by rw [List.append_nil]; exact hlen, ρ2, st2, ds', rs2, by rw [List.append_nil]; exact rd2, p2.wish fun _ _ _ h => h⟩
  | ex c pl st1 => exact fun q => q
  | stuck => exact fun q => q
end
/-! ### a def -/
omit [Tb] in
omit [Tb] in
def startE (N : List Str) (ds : List D) : Py.Loc := ds.map some ++ List.replicate (N.length - ds.length) none
omit [Tb] in
omit [Tb] in
open Classical in
noncomputable def gcX (st : Store) (pl : List (Str × D)) (st' : Store) : Store := if lowDs st.length (pl.map (·.2)) = true then (gc st .non st').2 else st'
omit [Tb] in
omit [Tb] in
noncomputable def runD (N : List Str) (mb : Py.Loc → Store → Fl) : Mean := fun ds st => match mb (startE N ds) st with
  | .nx _ st' => .ok .non (gc st .non st').2
  | .rt d st' => .ok (gc st d st').1 (gc st d st').2
  | .ex c pl _ st' => .ex c pl (gcX st pl st')
  | _ => .stuck
omit [Tb] in
omit [Tb] in
theorem gc_non (st st' : Store) : (gc st .non st').1 = .non := by
  unfold gc
  split
  · simp [lowD]
  · rfl
section
variable {K : PySem.W.Frag} {mg : Str → Option Value}
omit [Tb] in
omit [Tb] in
theorem RE.start {N : List Str} {ρ : List Addr} {H : Hp} {ds : List D} {vs : List V} (h : RDs K mg ρ H ds vs) : RE K mg ρ H (L2.start N vs) (startE N ds) := by
  refine ⟨by simp [L2.start, startE, h.length], fun i d q => ?_⟩
  unfold startE at q
  by_cases hi : i < ds.length
  · rw [List.getElem?_append_left (by simpa using hi), List.getElem?_map] at q
    cases hd : ds[i]? with
    | none => rw [hd] at q; cases q
    | some d' =>
      rw [hd] at q
      simp at q
      subst q
      obtain ⟨v, hv, r⟩ := h.get hd
      refine ⟨v, ?_, r⟩
      unfold L2.start
      rw [List.getElem?_append_left (by rw [List.length_map, ← h.length]; exact hi), List.getElem?_map, hv]
      rfl
  · rw [List.getElem?_append_right (by simpa using hi), List.getElem?_replicate] at q
    split at q <;> cases q
omit [Tb] in
omit [Tb] in
theorem RFS.cutAll {ρ ρ2 : List Addr} {H : Hp} {L : Nat} (f : ∀ c w, RD K mg ρ H c w → lowD L c = true → RD K mg ρ2 H c w) : ∀ {kvs : List (Str × D)} {ks : List (Str × V)}, RFS K mg ρ H kvs ks → lowDs L (kvs.map (·.2)) = true → RFS K mg ρ2 H kvs ks
  | _, _, .nil, _ => .nil
  | _, _, .cons r t, l => by simp only [List.map_cons, lowDs, Bool.and_eq_true] at l; exact .cons ⟨r.1, f _ _ r.2 l.1⟩ (RFS.cutAll f t l.2)
end
section
variable {P : Program} {w : World} {K : PySem.W.Frag} {mg : Str → Option Value} {base : Heap}
theorem fn_sound {x qual : Str} {st : Stmt} {f : Addr} {fd : FuncData} {N ps : List Str} {k : Nat} {mb : Py.Loc → Store → Fl} (F : L2.Fun K x qual st f fd) (S : FnScope N ps (defScope st))
    (hb : ∀ (X : Cx) (W : WX), X.prog = P → X.w = w → X.K = K → X.mg = mg → X.base = base → X.N = N → X.env.scope = defScope st → (X.fn = fun _ => true) → X.calm = true → X.stack = X.env :: X.outer → X.env.frame = some X.env.locals →
      Room k X.A → Takes X W → PassesOwn (model X.prog X.w) X.A X.env X.xe → SSs X W (defBody st) mb) :
    FnOk P w K mg base (L2.CX P w) (k + 1) f fd ps (spD K mg ps.length (runD N mb)) := by
  refine F.okX S (fun vs H Q E h => h.1) (fun cdv A outer s H vs Q E hr h => ?_)
  obtain ⟨hl, ρ, st0, ds, rs, rd, p⟩ := h
  refine ⟨_, hb (cxOf (L2.CX P w) P w K mg base N qual (defScope st) f cdv A outer s H E) (fun cls d _ H => E cls d H) rfl rfl rfl rfl rfl rfl rfl rfl rfl rfl rfl hr (takes_of rfl rfl rfl rfl) (passes_of rfl), ρ, startE N ds, st0, rs, .start rd, ?_⟩
  revert p
  simp only [runD]
  show Post K mg (RD K mg) _ [] Q ρ H _ → PostS K mg _ _ ρ H (mb (startE N ds) st0)
  cases mb (startE N ds) st0 with
  | nx e1 st1 =>
    intro p ρ1 H1 σ1 x1 rs1 re1
    obtain ⟨ρ2, x2, rs2, rd2, _⟩ := gc_sound rs x1 rs1 (d := .non) (v := .non) (by simp only [RD])
    exact p ρ2 H1 .non x2 rs2 (by simp only [RD])
  | rt d st1 =>
    intro p ρ1 H1 v x1 rs1 rd1
    obtain ⟨ρ2, x2, rs2, rd2, _⟩ := gc_sound rs x1 rs1 rd1
    exact p ρ2 H1 v x2 rs2 rd2
  | bk _ _ => exact fun p => p.elim
  | ct _ _ => exact fun p => p.elim
  | ex c pl e1 st1 =>
    intro p ρ1 H1 σ1 cls dd x1 rs1 re1 rx
    have p' : ∀ ρ' H' cls dd, Ext K ρ H ρ' H' → RS K mg ρ' H' (gcX st0 pl st1) → RX K mg ρ' H' c pl cls dd → E cls dd H' := p
    by_cases hlow : lowDs st0.length (pl.map (·.2)) = true
    · obtain ⟨ρ2, x2, rs2, rd2, cut⟩ := gc_sound rs x1 rs1 (d := .non) (v := .non) (by simp only [RD])
      refine p' ρ2 H1 cls dd x2 (by unfold gcX; rw [if_pos hlow]; exact rs2) ?_
      obtain ⟨C, hC, rfl, h⟩ := rx
      refine ⟨C, hC, rfl, ?_⟩
      rcases h with h | ⟨d, fs, h1, h2, h3, h4⟩
      · exact .inl h
      · exact .inr ⟨d, fs, h1, h2, RFS.cutAll cut h3 hlow, h4⟩
    · exact p' ρ1 H1 cls dd x1 (by unfold gcX; rw [if_neg hlow]; exact rs1) rx
  | stuck => exact fun p => p.elim
theorem fnD_of {x qual : Str} {st : Stmt} {f : Addr} {fd : FuncData} {N ps : List Str} {k : Nat} {mb : Py.Loc → Store → Fl} (F : L2.Fun K x qual st f fd) (hm : mg x = some (.ref f)) (b : Binds K fd ps []) (S : FnScope N ps (defScope st))
    (hb : ∀ (X : Cx) (W : WX), X.prog = P → X.w = w → X.K = K → X.mg = mg → X.base = base → X.N = N → X.env.scope = defScope st → (X.fn = fun _ => true) → X.calm = true → X.stack = X.env :: X.outer → X.env.frame = some X.env.locals →
      Room k X.A → Takes X W → PassesOwn (model X.prog X.w) X.A X.env X.xe → SSs X W (defBody st) mb) : FnD P w K mg base (k + 1) x ps.length (runD N mb) :=
  ⟨f, fd, ps, hm, F.kp, b, rfl, fn_sound F S hb⟩
end
end Py

set_option Elab.async false
set_option linter.all false
set_option maxRecDepth 100000
set_option maxHeartbeats 1000000
namespace Py
open PySem PySem.Spec PyProof.Rows L2
variable [Tb]
/-! ### reading -/
omit [Tb] in
omit [Tb] in
def getL (st : Store) (n : Nat) : Option (List D) := match st[n]? with | some (.lst ds) => some ds | some (.frz ds) => some ds | _ => none
omit [Tb] in
omit [Tb] in
def getT : D → Option (List D) | .tup ds => some ds | .kt ds => some ds | _ => none
section
variable {K : PySem.W.Frag} {mg : Str → Option Value} {ρ : List Addr} {H : Hp} {st : Store}
theorem lst_at {n : Nat} {v : V} {ds : List D} (rs : RS K mg ρ H st) (h : RD K mg ρ H (.ref n) v) (e : st[n]? = some (.lst ds)) : ∃ a vs, v = .ref a ∧ ρ[n]? = some a ∧ H a = some (.lst vs) ∧ RDs K mg ρ H ds vs := by
  simp only [RD] at h
  obtain ⟨a, rfl, ha⟩ := h
  obtain ⟨vs, h1, h2⟩ := rs.ob n a _ ha e
  exact ⟨a, vs, rfl, ha, h1, h2⟩
theorem seq_at {n : Nat} {v : V} {ds : List D} (rs : RS K mg ρ H st) (h : RD K mg ρ H (.ref n) v) (e : getL st n = some ds) : ∃ a vs, v = .ref a ∧ ρ[n]? = some a ∧ SqL K H a vs ∧ RDs K mg ρ H ds vs := by
  simp only [RD] at h
  obtain ⟨a, rfl, ha⟩ := h
  unfold getL at e
  split at e
  · rename_i ds' h'
    cases e
    obtain ⟨vs, h1, h2⟩ := rs.ob n a _ ha h'
    exact ⟨a, vs, rfl, ha, .of h1, h2⟩
  · rename_i ds' h'
    cases e
    obtain ⟨o, vs, h1, h2⟩ := rs.ob n a _ ha h'
    exact ⟨a, vs, rfl, ha, .inl (.inr ⟨o, h1⟩), h2⟩
  · cases e
omit [Tb] in
omit [Tb] in
theorem kl_at {v : V} {ds : List D} (h : RD K mg ρ H (.kl ds) v) : ∃ a vs, v = .ref a ∧ (∀ H', SqL K H' a vs) ∧ RDs K mg ρ H ds vs := by
  simp only [RD] at h
  obtain ⟨a, xs, o, its, n, rfl, h1, h2⟩ := h
  exact ⟨a, xs, rfl, fun _ => .inr ⟨o, its, n, h1⟩, h2⟩
omit [Tb] in
omit [Tb] in
theorem tup_at {d : D} {v : V} {ds : List D} (h : RD K mg ρ H d v) (e : getT d = some ds) : ∃ a vs, v = .ref a ∧ SqT K H a vs ∧ RDs K mg ρ H ds vs := by
  cases d with
  | tup es =>
    cases e
    simp only [RD] at h
    obtain ⟨a, xs, rfl, h1, h2⟩ := h
    exact ⟨a, xs, rfl, .of h1, h2⟩
  | kt es =>
    cases e
    simp only [RD] at h
    obtain ⟨a, xs, o, its, n, rfl, h1, h2⟩ := h
    exact ⟨a, xs, rfl, .inr ⟨o, its, n, h1⟩, h2⟩
  | _ => cases e
end
/-! ### arithmetic -/
omit [Tb] in
omit [Tb] in
open Classical in
noncomputable def guard (p : Prop) (x : D) (st : Store) : Option (D × Store) := if p then some (x, st) else none
theorem guard_pos {p : Prop} {x : D} {st : Store} (h : p) : guard p x st = some (x, st) := if_pos h
section
variable {X : Cx}
theorem PostO.guard {p : Prop} {x : D} {st : Store} {ρ : List Addr} {H : Hp} {Q : VK} {K : PySem.W.Frag} {mg : Str → Option Value} (h : PostO K mg Q ρ H (Py.guard p x st)) : p ∧ PostO K mg Q ρ H (some (x, st)) := by
  unfold Py.guard at h
  split at h
  · rename_i hp; exact ⟨hp, h⟩
  · exact h.elim
theorem PostO.here {x : D} {v : V} {st : Store} {ρ : List Addr} {H : Hp} {Q : VK} {K : PySem.W.Frag} {mg : Str → Option Value} (h : PostO K mg Q ρ H (some (x, st))) (rs : RS K mg ρ H st) (r : RD K mg ρ H x v) : Q v H := h ρ H v .refl rs r
theorem rd_int {K : PySem.W.Frag} {mg : Str → Option Value} {ρ : List Addr} {H : Hp} {i : Int} : RD K mg ρ H (.int i) (.int i) := by simp only [RD]
omit [Tb] in
omit [Tb] in
theorem rd_bl {K : PySem.W.Frag} {mg : Str → Option Value} {ρ : List Addr} {H : Hp} {i : Bool} : RD K mg ρ H (.bl i) (.bl i) := by simp only [RD]
omit [Tb] in
omit [Tb] in
theorem rd_str {K : PySem.W.Frag} {mg : Str → Option Value} {ρ : List Addr} {H : Hp} {i : Str} : RD K mg ρ H (.str i) (.str i) := by simp only [RD]
omit [Tb] in
omit [Tb] in
theorem rd_non {K : PySem.W.Frag} {mg : Str → Option Value} {ρ : List Addr} {H : Hp} : RD K mg ρ H .non .non := by simp only [RD]
omit [Tb] in
omit [Tb] in
/-- two ints, a condition, a result -/
noncomputable def intO (C : Int → Int → Prop) (g : Int → Int → D) : D → D → Store → Option (D × Store)
  | .int i, .int j, st => guard (C i j) (g i j) st
  | _, _, _ => none
omit [Tb] in
omit [Tb] in
def VofD : D → V
  | .int i => .int i
  | .bl b => .bl b
  | .str s => .str s
  | _ => .non
theorem intO_ok {f : Value → Value → Sem Value} {C : Int → Int → Prop} {g : Int → Int → D} {g' : Int → Int → V} (h : OpR X f (rI C g')) (hg : ∀ (ρ : List Addr) (H : Hp) i j, RD X.K X.mg ρ H (g i j) (g' i j)) : OpR X f (r2 X.K X.mg (intO C g)) :=
  OpR.imp h fun x y H Q ⟨ρ, st, d1, d2, rs, h1, h2, p⟩ => by
    cases d1 with
    | int i =>
      cases d2 with
      | int j =>
        simp only [RD] at h1 h2
        obtain ⟨c, p⟩ := PostO.guard p
        exact ⟨i, j, h1, h2, c, p.here rs (hg ρ H i j)⟩
      | _ => exact p.elim
    | _ => exact p.elim
theorem rI_of0 {f : Value → Value → Sem Value} {g' : Int → Int → V} (h : OpR X f (rI0 g')) : OpR X f (rI (fun _ _ => True) g') := OpR.imp h fun x y H Q ⟨i, j, a, b, _, q⟩ => ⟨i, j, a, b, q⟩
omit [Tb] in
omit [Tb] in
def MulOk (i j : Int) : Prop := CMul i j ∨ CMulW i j ∨ CMulX i j
theorem op_mulAny : OpR X (binaryOp .Mult) (rI MulOk fun i j => .int (i * j)) := OpR.imp ((op_mul.or op_mulW).or op_mulX) fun x y H Q ⟨i, j, a, b, c, q⟩ => by
  rcases c with c | c | c
  · exact .inl (.inl ⟨i, j, a, b, c, q⟩)
  · exact .inl (.inr ⟨i, j, a, b, c, q⟩)
  · exact .inr ⟨i, j, a, b, c, q⟩
omit [Tb] in
omit [Tb] in
def DivOk (_ j : Int) : Prop := j ≠ 0 ∧ j.natAbs.log2 < 9000
theorem op_fdivAny : OpR X (binaryOp .FloorDiv) (rI DivOk fun i j => .int (i.fdiv j)) := opI fun i j _ _ _ _ _ hc q => floordiv_int hc.1 q (.inl (PyProof.noPylong_of_log2 hc.2))
omit [Tb] in
omit [Tb] in
noncomputable def subD := intO (fun _ _ => True) fun i j => .int (i - j)
omit [Tb] in
omit [Tb] in
noncomputable def fdivD := intO DivOk fun i j => .int (i.fdiv j)
omit [Tb] in
omit [Tb] in
noncomputable def modD := intO (fun _ j => j ≠ 0) fun i j => .int (i.fmod j)
omit [Tb] in
omit [Tb] in
noncomputable def powD := intO CPow fun i j => .int (i ^ j.toNat)
omit [Tb] in
omit [Tb] in
noncomputable def shlD := intO CShl fun i j => .int (i * 2 ^ j.toNat)
omit [Tb] in
omit [Tb] in
noncomputable def shrD := intO (fun _ j => 0 ≤ j) fun i j => .int (i / 2 ^ j.toNat)
omit [Tb] in
omit [Tb] in
noncomputable def andD := intO (fun _ _ => True) fun i j => .int (Builtin.bitAnd i j)
omit [Tb] in
omit [Tb] in
noncomputable def orD := intO (fun _ _ => True) fun i j => .int (Builtin.bitOr i j)
omit [Tb] in
omit [Tb] in
noncomputable def xorD := intO (fun _ _ => True) fun i j => .int (Builtin.bitXor i j)
theorem ok_sub : OpR X (binaryOp .Sub) (r2 X.K X.mg subD) := intO_ok (rI_of0 op_sub) fun _ _ _ _ => rd_int
theorem ok_fdiv : OpR X (binaryOp .FloorDiv) (r2 X.K X.mg fdivD) := intO_ok op_fdivAny fun _ _ _ _ => rd_int
theorem ok_mod : OpR X (binaryOp .Mod) (r2 X.K X.mg modD) := intO_ok op_modN fun _ _ _ _ => rd_int
theorem ok_pow : OpR X (binaryOp .Pow) (r2 X.K X.mg powD) := intO_ok op_pow fun _ _ _ _ => rd_int
theorem ok_shl : OpR X (binaryOp .LShift) (r2 X.K X.mg shlD) := intO_ok op_shlW fun _ _ _ _ => rd_int
theorem ok_shr : OpR X (binaryOp .RShift) (r2 X.K X.mg shrD) := intO_ok op_shr fun _ _ _ _ => rd_int
theorem ok_and : OpR X (binaryOp .BitAnd) (r2 X.K X.mg andD) := intO_ok (rI_of0 op_and) fun _ _ _ _ => rd_int
theorem ok_or : OpR X (binaryOp .BitOr) (r2 X.K X.mg orD) := intO_ok (rI_of0 op_or) fun _ _ _ _ => rd_int
theorem ok_xor : OpR X (binaryOp .BitXor) (r2 X.K X.mg xorD) := intO_ok (rI_of0 op_xor) fun _ _ _ _ => rd_int
omit [Tb] in
omit [Tb] in
/-- + -/
noncomputable def addD : D → D → Store → Option (D × Store)
  | .int i, .int j, st => some (.int (i + j), st)
  | .str a, .str b, st => guard (a.length + b.length ≤ sizeLine) (.str (a ++ b)) st
  | .tup a, .tup b, st => guard (a.length + b.length ≤ sizeLine) (.tup (a ++ b)) st
  | .ref n, .ref m, st => match st[n]?, st[m]? with
    | some (.lst a), some (.lst b) => guard (a.length + b.length ≤ sizeLine) (.ref st.length) (st ++ [.lst (a ++ b)])
    | _, _ => none
  | _, _, _ => none
omit [Tb] in
omit [Tb] in
theorem RDs.nil_iff {K : PySem.W.Frag} {mg : Str → Option Value} {ρ : List Addr} {H : Hp} {ds : List D} {vs : List V} (h : RDs K mg ρ H ds vs) : vs = [] ↔ ds = [] := by
  cases ds with
  | nil => simp only [RDs] at h; simp [h]
  | cons d ds => obtain ⟨x, xs, rfl, _, _⟩ := h.uncons; simp
theorem ok_add : OpR X (binaryOp .Add) (r2 X.K X.mg addD) := OpR.imp ((op_add.or op_add_str).or (op_catA.or op_cat)) fun x y H Q ⟨ρ, st, d1, d2, rs, h1, h2, p⟩ => by
  cases d1 with
  | int i =>
    cases d2 with
    | int j =>
      simp only [RD] at h1 h2
      exact .inl (.inl ⟨i, j, h1, h2, p.here rs rd_int⟩)
    | _ => exact p.elim
  | str i =>
    cases d2 with
    | str j =>
      simp only [RD] at h1 h2
      obtain ⟨c, p⟩ := PostO.guard p
      exact .inl (.inr ⟨i, j, h1, h2, c, p.here rs rd_str⟩)
    | _ => exact p.elim
  | tup ds =>
    cases d2 with
    | tup es =>
      obtain ⟨c, p⟩ := PostO.guard p
      have g1 := h1
      have g2 := h2
      simp only [RD] at h1 h2
      obtain ⟨a, xs, rfl, ha, ra⟩ := h1
      obtain ⟨b, ys, rfl, hb, rb⟩ := h2
      refine .inr (.inl ⟨a, b, xs, ys, rfl, rfl, .of ha, .of hb, by rw [← ra.length, ← rb.length]; exact c, fun e => ?_, fun _ e => ?_, fun _ _ q hq => ?_⟩)
      · have e2 := ra.nil_iff.mp e
        subst e2
        exact p.here rs g2
      · have e2 := rb.nil_iff.mp e
        subst e2
        rw [List.append_nil] at p
        exact p.here rs g1
      · obtain ⟨a1, a2⟩ := newTup rs (ra.append rb) hq
        exact p _ _ _ (Ext.new hq) a1 a2
    | _ => exact p.elim
  | ref n =>
    cases d2 with
    | ref m =>
      simp only [addD] at p
      split at p
      · rename_i ds es e1 e2
        obtain ⟨c, p⟩ := PostO.guard p
        obtain ⟨a, xs, rfl, _, ha, ra⟩ := lst_at rs h1 e1
        obtain ⟨b, ys, rfl, _, hb, rb⟩ := lst_at rs h2 e2
        refine .inr (.inr ⟨a, b, xs, ys, rfl, rfl, ha, hb, by rw [← ra.length, ← rb.length]; exact c, fun q hq => ?_⟩)
        obtain ⟨a1, a2⟩ := newLst rs (ra.append rb) hq
        exact p _ _ _ (Ext.push hq) a1 a2
      · exact p.elim
    | _ => exact p.elim
  | _ => exact p.elim
omit [Tb] in
omit [Tb] in
/-- * -/
def repL {α : Type} (k : Int) (xs : List α) : List α := (List.replicate k.toNat xs).flatten
omit [Tb] in
omit [Tb] in
theorem RDs.rep {K : PySem.W.Frag} {mg : Str → Option Value} {ρ : List Addr} {H : Hp} {ds : List D} {vs : List V} (h : RDs K mg ρ H ds vs) : ∀ n : Nat, RDs K mg ρ H (List.replicate n ds).flatten (List.replicate n vs).flatten
  | 0 => .nil
  | n + 1 => by rw [List.replicate_succ, List.replicate_succ, List.flatten_cons, List.flatten_cons]; exact h.append (RDs.rep h n)
omit [Tb] in
omit [Tb] in
noncomputable def mulD : D → D → Store → Option (D × Store)
  | .int i, .int j, st => guard (MulOk i j) (.int (i * j)) st
  | .ref n, .int k, st => match st[n]? with
    | some (.lst a) => guard (-(2 ^ 63) ≤ k ∧ k < 2 ^ 63 ∧ a.length * k.toNat ≤ sizeLine) (.ref st.length) (st ++ [.lst (repL k a)])
    | _ => none
  | .tup ds, .int k, st => guard (ds ≠ [] ∧ 2 ≤ k ∧ k ≤ 1000 ∧ ds.length ≤ 1000) (.tup (repL k ds)) st
  | _, _, _ => none
theorem ok_mul : OpR X (binaryOp .Mult) (r2 X.K X.mg mulD) := OpR.imp (op_mulAny.or (op_rep.or op_repT)) fun x y H Q ⟨ρ, st, d1, d2, rs, h1, h2, p⟩ => by
  cases d1 with
  | int i =>
    cases d2 with
    | int j =>
      simp only [RD] at h1 h2
      obtain ⟨c, p⟩ := PostO.guard p
      exact .inl ⟨i, j, h1, h2, c, p.here rs rd_int⟩
    | _ => exact p.elim
  | ref n =>
    cases d2 with
    | int k =>
      simp only [mulD] at p
      split at p
      · rename_i ds e1
        obtain ⟨c, p⟩ := PostO.guard p
        obtain ⟨a, xs, rfl, _, ha, ra⟩ := lst_at rs h1 e1
        simp only [RD] at h2
        refine .inr (.inl ⟨a, k, xs, rfl, h2, ha, c.1, c.2.1, by rw [← ra.length]; exact c.2.2, fun q hq => ?_⟩)
        obtain ⟨a1, a2⟩ := newLst rs (ra.rep k.toNat) hq
        exact p _ _ _ (Ext.push hq) a1 a2
      · exact p.elim
    | _ => exact p.elim
  | tup ds =>
    cases d2 with
    | int k =>
      obtain ⟨c, p⟩ := PostO.guard p
      simp only [RD] at h1 h2
      obtain ⟨a, xs, rfl, ha, ra⟩ := h1
      refine .inr (.inr ⟨a, k, xs, rfl, h2, .of ha, fun e => c.1 (ra.nil_iff.mp e), c.2.1, c.2.2.1, by rw [← ra.length]; exact c.2.2.2, fun q hq => ?_⟩)
      obtain ⟨a1, a2⟩ := newTup rs (ra.rep k.toNat) hq
      exact p _ _ _ (Ext.new hq) a1 a2
    | _ => exact p.elim
  | _ => exact p.elim
/-! unary -/
omit [Tb] in
omit [Tb] in
def negD : D → Store → Option (D × Store) | .int i, st => some (.int (-i), st) | _, _ => none
omit [Tb] in
omit [Tb] in
def invD : D → Store → Option (D × Store) | .int i, st => some (.int (Builtin.bitNot i), st) | _, _ => none
theorem ok_neg : UnR X (unaryOp .USub) (r1 X.K X.mg negD) := UnR.imp un_neg fun x H Q ⟨ρ, st, d1, rs, h1, p⟩ => by
  cases d1 with
  | int i => simp only [RD] at h1; exact ⟨i, h1, p.here rs rd_int⟩
  | _ => exact p.elim
theorem ok_inv : UnR X (unaryOp .Invert) (r1 X.K X.mg invD) := UnR.imp un_inv fun x H Q ⟨ρ, st, d1, rs, h1, p⟩ => by
  cases d1 with
  | int i => simp only [RD] at h1; exact ⟨i, h1, p.here rs rd_int⟩
  | _ => exact p.elim
/-! order -/
omit [Tb] in
omit [Tb] in
def strLt (a b : Str) : Bool := decide (a.cps.toList < b.cps.toList)
omit [Tb] in
omit [Tb] in
def ltD : D → D → Store → Option (D × Store)
  | .int i, .int j, st => some (.bl (decide (i < j)), st)
  | .str i, .str j, st => some (.bl (strLt i j), st)
  | _, _, _ => none
omit [Tb] in
omit [Tb] in
def leD : D → D → Store → Option (D × Store)
  | .int i, .int j, st => some (.bl (decide (i ≤ j)), st)
  | .str i, .str j, st => some (.bl (!strLt j i), st)
  | _, _, _ => none
omit [Tb] in
omit [Tb] in
def gtD : D → D → Store → Option (D × Store)
  | .int i, .int j, st => some (.bl (decide (j < i)), st)
  | .str i, .str j, st => some (.bl (strLt j i), st)
  | _, _, _ => none
omit [Tb] in
omit [Tb] in
def geD : D → D → Store → Option (D × Store)
  | .int i, .int j, st => some (.bl (decide (j ≤ i)), st)
  | .str i, .str j, st => some (.bl (!strLt i j), st)
  | _, _, _ => none
theorem ok_lt : OpR X (compareOp .Lt) (r2 X.K X.mg ltD) := OpR.imp (op_lt.or op_lt_str) fun x y H Q ⟨ρ, st, d1, d2, rs, h1, h2, p⟩ => by
  cases d1 <;> cases d2 <;> first | exact p.elim | (simp only [RD] at h1 h2; exact .inl ⟨_, _, h1, h2, p.here rs rd_bl⟩) | (simp only [RD] at h1 h2; exact .inr ⟨_, _, h1, h2, p.here rs rd_bl⟩)
theorem ok_le : OpR X (compareOp .LtE) (r2 X.K X.mg leD) := OpR.imp (op_le.or op_le_str) fun x y H Q ⟨ρ, st, d1, d2, rs, h1, h2, p⟩ => by
  cases d1 <;> cases d2 <;> first | exact p.elim | (simp only [RD] at h1 h2; exact .inl ⟨_, _, h1, h2, p.here rs rd_bl⟩) | (simp only [RD] at h1 h2; exact .inr ⟨_, _, h1, h2, p.here rs rd_bl⟩)
theorem ok_gt : OpR X (compareOp .Gt) (r2 X.K X.mg gtD) := OpR.imp (op_gt.or op_gt_str) fun x y H Q ⟨ρ, st, d1, d2, rs, h1, h2, p⟩ => by
  cases d1 <;> cases d2 <;> first | exact p.elim | (simp only [RD] at h1 h2; exact .inl ⟨_, _, h1, h2, p.here rs rd_bl⟩) | (simp only [RD] at h1 h2; exact .inr ⟨_, _, h1, h2, p.here rs rd_bl⟩)
theorem ok_ge : OpR X (compareOp .GtE) (r2 X.K X.mg geD) := OpR.imp (op_ge.or op_ge_str) fun x y H Q ⟨ρ, st, d1, d2, rs, h1, h2, p⟩ => by
  cases d1 <;> cases d2 <;> first | exact p.elim | (simp only [RD] at h1 h2; exact .inl ⟨_, _, h1, h2, p.here rs rd_bl⟩) | (simp only [RD] at h1 h2; exact .inr ⟨_, _, h1, h2, p.here rs rd_bl⟩)
/-! == -/
omit [Tb] in
omit [Tb] in
mutual
def pyG (f : Nat → Option PyData) : D → Option PyData
  | .non => some .none
  | .bl b => some (.bool b)
  | .int i => some (.int i)
  | .str s => some (.str s)
  | .tup ds => match pyGs f ds with | some ps => some (.tuple ps) | none => none
  | .kt ds => match pyGs f ds with | some ps => some (.tuple ps) | none => none
  | .ref n => f n
  | .gl _ => none
  | .adr _ => none
  | .kl _ => none
def pyGs (f : Nat → Option PyData) : List D → Option (List PyData)
  | [] => some []
  | d :: ds => match pyG f d, pyGs f ds with | some p, some ps => some (p :: ps) | _, _ => none
end
omit [Tb] in
omit [Tb] in
def pyR (st : Store) : Nat → Nat → Option PyData
  | 0, _ => none
  | k + 1, n => match getL st n with | some ds => (match pyGs (pyR st k) ds with | some ps => some (.list ps) | none => none) | none => none
omit [Tb] in
omit [Tb] in
def toPy (st : Store) (d : D) : Option PyData := pyG (pyR st 8) d
section
variable {K : PySem.W.Frag} {mg : Str → Option Value} {ρ : List Addr} {H : Hp} {st : Store}
mutual
theorem pyG_dp {f : Nat → Option PyData} (hf : ∀ n v p, RD K mg ρ H (.ref n) v → f n = some p → Dp K H v p) : ∀ {d : D} {v : V} {p : PyData}, RD K mg ρ H d v → pyG f d = some p → Dp K H v p
  | .non, _, _, h, e => by simp only [RD] at h; subst h; cases e; exact .non
  | .bl _, _, _, h, e => by simp only [RD] at h; subst h; cases e; exact .bl _
  | .int _, _, _, h, e => by simp only [RD] at h; subst h; cases e; exact .int _
  | .str _, _, _, h, e => by simp only [RD] at h; subst h; cases e; exact .str _
  | .tup ds, _, _, h, e => by
    simp only [pyG] at e
    split at e
    · rename_i ps hp
      cases e
      obtain ⟨a, xs, rfl, h1, h2⟩ := tup_at h rfl
      exact .tup h1 (pyGs_dp hf h2 hp)
    · cases e
  | .kt ds, _, _, h, e => by
    simp only [pyG] at e
    split at e
    · rename_i ps hp
      cases e
      obtain ⟨a, xs, rfl, h1, h2⟩ := tup_at h rfl
      exact .tup h1 (pyGs_dp hf h2 hp)
    · cases e
  | .ref n, _, _, h, e => hf n _ _ h e
  | .gl _, _, _, _, e => by cases e
  | .adr _, _, _, _, e => by cases e
  | .kl _, _, _, _, e => by cases e
theorem pyGs_dp {f : Nat → Option PyData} (hf : ∀ n v p, RD K mg ρ H (.ref n) v → f n = some p → Dp K H v p) : ∀ {ds : List D} {vs : List V} {ps : List PyData}, RDs K mg ρ H ds vs → pyGs f ds = some ps → DpAll K H vs ps
  | [], _, _, h, e => by simp only [RDs] at h; subst h; cases e; exact .nil
  | d :: ds, _, _, h, e => by
    obtain ⟨x, xs, rfl, h1, h2⟩ := h.uncons
    simp only [pyGs] at e
    split at e
    · rename_i p ps e1 e2
      cases e
      exact .cons (pyG_dp hf h1 e1) (pyGs_dp hf h2 e2)
    · cases e
end
theorem pyR_dp (rs : RS K mg ρ H st) : ∀ (k n : Nat) (v : V) (p : PyData), RD K mg ρ H (.ref n) v → pyR st k n = some p → Dp K H v p
  | 0, _, _, _, _, e => by cases e
  | k + 1, n, v, p, h, e => by
    simp only [pyR] at e
    split at e
    · rename_i ds hd
      split at e
      · rename_i ps hp
        cases e
        obtain ⟨a, vs, rfl, _, h1, h2⟩ := seq_at rs h hd
        exact .lst h1 (pyGs_dp (pyR_dp rs k) h2 hp)
      · cases e
    · cases e
theorem toPy_dp (rs : RS K mg ρ H st) {d : D} {v : V} {p : PyData} (h : RD K mg ρ H d v) (e : toPy st d = some p) : Dp K H v p := pyG_dp (pyR_dp rs 8) h e
end
omit [Tb] in
omit [Tb] in
noncomputable def eqD : D → D → Store → Option (D × Store) := fun a b st => match toPy st a, toPy st b with
  | some p, some q => guard (SeqAt.shaped p = true ∧ SeqAt.shaped q = true) (.bl (PyData.eqv p q)) st
  | _, _ => none
omit [Tb] in
omit [Tb] in
noncomputable def neD : D → D → Store → Option (D × Store) := fun a b st => match toPy st a, toPy st b with
  | some p, some q => guard (SeqAt.shaped p = true ∧ SeqAt.shaped q = true) (.bl (!PyData.eqv p q)) st
  | _, _ => none
theorem ok_eq (hu : X.A.units + 64 < cLine) : OpR X (compareOp .Eq) (r2 X.K X.mg eqD) := OpR.imp (op_eqD hu) fun x y H Q ⟨ρ, st, d1, d2, rs, h1, h2, p⟩ => by
  simp only [eqD] at p
  split at p
  · rename_i q1 q2 e1 e2
    obtain ⟨c, p⟩ := PostO.guard p
    exact ⟨q1, q2, toPy_dp rs h1 e1, toPy_dp rs h2 e2, c.1, c.2, p.here rs rd_bl⟩
  · exact p.elim
theorem ok_ne (hu : X.A.units + 64 < cLine) : OpR X (compareOp .NotEq) (r2 X.K X.mg neD) := OpR.imp (op_neD hu) fun x y H Q ⟨ρ, st, d1, d2, rs, h1, h2, p⟩ => by
  simp only [neD] at p
  split at p
  · rename_i q1 q2 e1 e2
    obtain ⟨c, p⟩ := PostO.guard p
    exact ⟨q1, q2, toPy_dp rs h1 e1, toPy_dp rs h2 e2, c.1, c.2, p.here rs rd_bl⟩
  · exact p.elim
/-! is -/
omit [Tb] in
omit [Tb] in
def isD : D → D → Store → Option (D × Store)
  | .bl a, .bl b, st => some (.bl (decide (a = b)), st)
  | d, .non, st => some (.bl (match d with | .non => true | _ => false), st)
  | _, _, _ => none
omit [Tb] in
omit [Tb] in
def isnD : D → D → Store → Option (D × Store)
  | .bl a, .bl b, st => some (.bl (!decide (a = b)), st)
  | d, .non, st => some (.bl (match d with | .non => false | _ => true), st)
  | _, _, _ => none
theorem rd_isNon {K : PySem.W.Frag} {mg : Str → Option Value} {ρ : List Addr} {H : Hp} {d : D} {x : V} (h : RD K mg ρ H d x) (hg : ∀ y, d ≠ .gl y) : decide (x = .non) = (match d with | .non => true | _ => false) := by
  cases d with
  | non => simp only [RD] at h; subst h; rfl
  | bl b => simp only [RD] at h; subst h; rfl
  | int b => simp only [RD] at h; subst h; rfl
  | str b => simp only [RD] at h; subst h; rfl
  | tup ds => simp only [RD] at h; obtain ⟨a, xs, rfl, _⟩ := h; rfl
  | kt ds => simp only [RD] at h; obtain ⟨a, xs, o, its, n, rfl, _⟩ := h; rfl
  | kl ds => simp only [RD] at h; obtain ⟨a, xs, o, its, n, rfl, _⟩ := h; rfl
  | ref n => simp only [RD] at h; obtain ⟨a, rfl, _⟩ := h; rfl
  | gl y => exact absurd rfl (hg y)
  | adr a => simp only [RD] at h; subst h; rfl
end
end Py

set_option Elab.async false
set_option linter.all false
set_option maxRecDepth 100000
set_option maxHeartbeats 1000000
namespace Py
open L2 PySem PySem.Spec PyProof.Rows
variable [Tb]
section
variable {X : Cx}
/-! is -/
omit [Tb] in
omit [Tb] in
def isD2 : D → D → Store → Option (D × Store)
  | .gl _, .non, _ => none
  | a, b, st => isD a b st
omit [Tb] in
omit [Tb] in
def isnD2 : D → D → Store → Option (D × Store)
  | .gl _, .non, _ => none
  | a, b, st => isnD a b st
theorem ok_is : OpR X (compareOp .Is) (r2 X.K X.mg isD2) := OpR.imp (op_isN.or op_isBl) fun x y H Q ⟨ρ, st, d1, d2, rs, h1, h2, p⟩ => by
  cases d2 with
  | non =>
    have g1 := h1
    simp only [RD] at h2
    subst h2
    refine .inl ⟨rfl, ?_⟩
    cases d1 with
    | gl y => exact p.elim
    | _ => rw [rd_isNon g1 (fun _ z => nomatch z)]; exact p.here rs rd_bl
  | bl b =>
    cases d1 with
    | bl a =>
      simp only [RD] at h1 h2
      exact .inr ⟨a, b, h1, h2, p.here rs rd_bl⟩
    | _ => exact p.elim
  | _ => cases d1 <;> exact p.elim
theorem ok_isn : OpR X (compareOp .IsNot) (r2 X.K X.mg isnD2) := OpR.imp (op_notN.or op_notBl) fun x y H Q ⟨ρ, st, d1, d2, rs, h1, h2, p⟩ => by
  cases d2 with
  | non =>
    have g1 := h1
    simp only [RD] at h2
    subst h2
    refine .inl ⟨rfl, ?_⟩
    cases d1 with
    | gl y => exact p.elim
    | non => rw [rd_isNon g1 (fun _ z => nomatch z)]; exact p.here rs rd_bl
    | _ => rw [rd_isNon g1 (fun _ z => nomatch z)]; exact p.here rs rd_bl
  | bl b =>
    cases d1 with
    | bl a =>
      simp only [RD] at h1 h2
      exact .inr ⟨a, b, h1, h2, p.here rs rd_bl⟩
    | _ => exact p.elim
  | _ => cases d1 <;> exact p.elim
/-! ### dicts -/
omit [Tb] in
omit [Tb] in
abbrev DKey := Sum Key (List Key)
omit [Tb] in
omit [Tb] in
def dk (d : D) : Option DKey := match keyD d with | some k => some (.inl k) | none => (match keyT d with | some k => some (.inr k) | none => none)
omit [Tb] in
omit [Tb] in
/-- all keys scalars (true), all keys tuples (false) -/
def allK (kvs : List (D × D)) : Bool := kvs.all fun p => (keyD p.1).isSome
omit [Tb] in
omit [Tb] in
def allT (kvs : List (D × D)) : Bool := kvs.all fun p => (keyT p.1).isSome
omit [Tb] in
omit [Tb] in
def lookD (kvs : List (D × D)) (k : DKey) : Option D := (kvs.find? fun p => decide (dk p.1 = some k)).map (·.2)
omit [Tb] in
omit [Tb] in
def putD (kvs : List (D × D)) (d : D) (k : DKey) (v : D) : List (D × D) :=
  if (kvs.any fun p => decide (dk p.1 = some k)) = true then kvs.map (fun p => if dk p.1 = some k then (p.1, v) else p) else kvs ++ [(d, v)]
omit [Tb] in
omit [Tb] in
/-- the key fits the dict -/
def fitsK (kvs : List (D × D)) : DKey → Bool
  | .inl _ => allK kvs
  | .inr _ => allT kvs
omit [Tb] in
omit [Tb] in
theorem dk_inl {d : D} {k : Key} (h : keyD d = some k) : dk d = some (.inl k) := by unfold dk; rw [h]
omit [Tb] in
omit [Tb] in
theorem keyT_D {d : D} {k : List Key} (h : keyT d = some k) : keyD d = none := by cases d <;> first | rfl | cases h
omit [Tb] in
omit [Tb] in
theorem dk_inr {d : D} {k : List Key} (h : keyT d = some k) : dk d = some (.inr k) := by unfold dk; rw [keyT_D h, h]
omit [Tb] in
omit [Tb] in
theorem dk_l {d : D} {k : Key} (h : dk d = some (.inl k)) : keyD d = some k := by
  unfold dk at h
  cases e : keyD d with
  | some k' => rw [e] at h; simp at h; rw [h]
  | none =>
    rw [e] at h
    simp only at h
    cases e2 : keyT d with
    | some _ => rw [e2] at h; simp at h
    | none => rw [e2] at h; cases h
omit [Tb] in
omit [Tb] in
theorem dk_r {d : D} {k : List Key} (h : dk d = some (.inr k)) : keyT d = some k := by
  unfold dk at h
  cases e : keyD d with
  | some k' => rw [e] at h; simp at h
  | none =>
    rw [e] at h
    simp only at h
    cases e2 : keyT d with
    | some _ => rw [e2] at h; simp at h; rw [h]
    | none => rw [e2] at h; cases h
section
variable {K : PySem.W.Frag} {mg : Str → Option Value} {ρ : List Addr} {H : Hp} {st : Store}
theorem rd_key {d : D} {k : Key} {v : V} (h : RD K mg ρ H d v) (e : keyD d = some k) : v = kV k := by
  cases d with
  | int i => simp only [RD] at h; cases e; exact h
  | str i => simp only [RD] at h; cases e; exact h
  | _ => cases e
theorem rds_key : ∀ {ds : List D} {ks : List Key} {vs : List V}, RDs K mg ρ H ds vs → keyDs ds = some ks → vs = ks.map kV
  | [], _, _, h, e => by simp only [RDs] at h; subst h; cases e; rfl
  | d :: ds, _, _, h, e => by
    obtain ⟨x, xs, rfl, h1, h2⟩ := h.uncons
    simp only [keyDs] at e
    split at e
    · rename_i k ks e1 e2
      cases e
      rw [rd_key h1 e1, rds_key h2 e2]
      rfl
    · cases e
theorem rd_keyT {d : D} {k : List Key} {v : V} (h : RD K mg ρ H d v) (e : keyT d = some k) : ∃ b, v = .ref b ∧ H b = some (.tup (k.map kV)) := by
  cases d with
  | tup ds =>
    simp only [RD] at h
    obtain ⟨a, xs, rfl, h1, h2⟩ := h
    exact ⟨a, rfl, by rw [h1, rds_key h2 e]⟩
  | _ => cases e
omit [Tb] in
omit [Tb] in
theorem rkv_look : ∀ {kvs : List (D × D)} {ks : List (Key × V)}, RKV K mg ρ H kvs ks → ∀ k : Key, (lookD kvs (.inl k) = none → valV ks k = none) ∧ (∀ d, lookD kvs (.inl k) = some d → ∃ v, valV ks k = some v ∧ RD K mg ρ H d v)
  | _, _, .nil, k => ⟨fun _ => rfl, fun _ h => by cases h⟩
  | p :: kvs, q :: ks, .cons r t, k => by
    obtain ⟨i1, i2⟩ := rkv_look t k
    by_cases e : q.1 = k
    · have e1 : dk p.1 = some (.inl k) := by rw [dk_inl r.1, e]
      refine ⟨fun h => by simp [lookD, List.find?_cons, e1] at h, fun d h => ?_⟩
      simp [lookD, List.find?_cons, e1] at h
      subst h
      exact ⟨q.2, valV_pos e, r.2⟩
    · have e1 : ¬ dk p.1 = some (.inl k) := fun z => e (by rw [dk_inl r.1] at z; simpa using z)
      have e2 : lookD (p :: kvs) (.inl k) = lookD kvs (.inl k) := by simp [lookD, List.find?_cons, e1]
      rw [e2, valV_neg e]
      exact ⟨i1, i2⟩
omit [Tb] in
omit [Tb] in
theorem rkt_look : ∀ {kvs : List (D × D)} {ks : List (List Key × V)}, RKT K mg ρ H kvs ks → ∀ k : List Key, (lookD kvs (.inr k) = none → valV ks k = none) ∧ (∀ d, lookD kvs (.inr k) = some d → ∃ v, valV ks k = some v ∧ RD K mg ρ H d v)
  | _, _, .nil, k => ⟨fun _ => rfl, fun _ h => by cases h⟩
  | p :: kvs, q :: ks, .cons r t, k => by
    obtain ⟨i1, i2⟩ := rkt_look t k
    by_cases e : q.1 = k
    · have e1 : dk p.1 = some (.inr k) := by rw [dk_inr r.1, e]
      refine ⟨fun h => by simp [lookD, List.find?_cons, e1] at h, fun d h => ?_⟩
      simp [lookD, List.find?_cons, e1] at h
      subst h
      exact ⟨q.2, valV_pos e, r.2⟩
    · have e1 : ¬ dk p.1 = some (.inr k) := fun z => e (by rw [dk_inr r.1] at z; simpa using z)
      have e2 : lookD (p :: kvs) (.inr k) = lookD kvs (.inr k) := by simp [lookD, List.find?_cons, e1]
      rw [e2, valV_neg e]
      exact ⟨i1, i2⟩
theorem rkv_any {kvs : List (D × D)} {ks : List (Key × V)} (h : RKV K mg ρ H kvs ks) (k : Key) : (kvs.any fun p => decide (dk p.1 = some (.inl k))) = ks.any fun q => decide (q.1 = k) := by
  induction h with
  | nil => rfl
  | @cons p q l1 l2 r t ih =>
    rw [List.any_cons, List.any_cons, ih, dk_inl r.1]
    simp
theorem rkt_any {kvs : List (D × D)} {ks : List (List Key × V)} (h : RKT K mg ρ H kvs ks) (k : List Key) : (kvs.any fun p => decide (dk p.1 = some (.inr k))) = ks.any fun q => decide (q.1 = k) := by
  induction h with
  | nil => rfl
  | @cons p q l1 l2 r t ih =>
    rw [List.any_cons, List.any_cons, ih, dk_inr r.1]
    simp
theorem Paired.app {α β : Type} {F : α → β → Prop} : ∀ {l₁ m₁ : List α} {l₂ m₂ : List β}, Paired F l₁ l₂ → Paired F m₁ m₂ → Paired F (l₁ ++ m₁) (l₂ ++ m₂)
  | _, _, _, _, .nil, h => h
  | _, _, _, _, .cons r t, h => .cons r (Paired.app t h)
theorem rkv_put {kvs : List (D × D)} {ks : List (Key × V)} {d x : D} {k : Key} {v : V} (h : RKV K mg ρ H kvs ks) (e : keyD d = some k) (r : RD K mg ρ H x v) : RKV K mg ρ H (putD kvs d (.inl k) x) (putK ks k v) := by
  unfold putD putK
  rw [rkv_any h k]
  split
  · have aux : ∀ {l1 : List (D × D)} {l2 : List (Key × V)}, RKV K mg ρ H l1 l2 → RKV K mg ρ H (l1.map fun p => if dk p.1 = some (.inl k) then (p.1, x) else p) (l2.map fun kv => if kv.1 = k then (kv.1, v) else kv) := by
      intro l1 l2 t
      induction t with
      | nil => exact .nil
      | @cons p q l1 l2 r' t ih =>
        refine .cons ?_ ih
        by_cases e : q.1 = k
        · simp only [if_pos (show dk p.1 = some (.inl k) by rw [dk_inl r'.1, e]), if_pos e]; exact ⟨r'.1, r⟩
        · simp only [if_neg (show ¬ dk p.1 = some (.inl k) from fun z => e (by rw [dk_inl r'.1] at z; simpa using z)), if_neg e]; exact r'
    exact aux h
  · exact Paired.app h (.cons ⟨e, r⟩ .nil)
theorem rkt_put {kvs : List (D × D)} {ks : List (List Key × V)} {d x : D} {k : List Key} {v : V} (h : RKT K mg ρ H kvs ks) (e : keyT d = some k) (r : RD K mg ρ H x v) : RKT K mg ρ H (putD kvs d (.inr k) x) (putK ks k v) := by
  unfold putD putK
  rw [rkt_any h k]
  split
  · have aux : ∀ {l1 : List (D × D)} {l2 : List (List Key × V)}, RKT K mg ρ H l1 l2 → RKT K mg ρ H (l1.map fun p => if dk p.1 = some (.inr k) then (p.1, x) else p) (l2.map fun kv => if kv.1 = k then (kv.1, v) else kv) := by
      intro l1 l2 t
      induction t with
      | nil => exact .nil
      | @cons p q l1 l2 r' t ih =>
        refine .cons ?_ ih
        by_cases e : q.1 = k
        · simp only [if_pos (show dk p.1 = some (.inr k) by rw [dk_inr r'.1, e]), if_pos e]; exact ⟨r'.1, r⟩
        · simp only [if_neg (show ¬ dk p.1 = some (.inr k) from fun z => e (by rw [dk_inr r'.1] at z; simpa using z)), if_neg e]; exact r'
    exact aux h
  · exact Paired.app h (.cons ⟨e, r⟩ .nil)
omit [Tb] in
omit [Tb] in
theorem rkv_len {kvs : List (D × D)} {ks : List (Key × V)} (h : RKV K mg ρ H kvs ks) : kvs.length = ks.length := Paired.length h
omit [Tb] in
omit [Tb] in
theorem rkt_len {kvs : List (D × D)} {ks : List (List Key × V)} (h : RKT K mg ρ H kvs ks) : kvs.length = ks.length := Paired.length h
omit [Tb] in
omit [Tb] in
theorem rkt_nil {kvs : List (D × D)} {ks : List (List Key × V)} (h : RKT K mg ρ H kvs ks) (e : allK kvs = true) : kvs = [] ∧ ks = [] := by
  cases h with
  | nil => exact ⟨rfl, rfl⟩
  | @cons p q l1 l2 r t =>
    simp only [allK, List.all_cons, Bool.and_eq_true] at e
    rw [keyT_D r.1] at e
    exact absurd e.1 (by simp)
theorem rkv_nil {kvs : List (D × D)} {ks : List (Key × V)} (h : RKV K mg ρ H kvs ks) (e : allT kvs = true) : kvs = [] ∧ ks = [] := by
  cases h with
  | nil => exact ⟨rfl, rfl⟩
  | @cons p q l1 l2 r t =>
    simp only [allT, List.all_cons, Bool.and_eq_true] at e
    have h1 := e.1
    cases hd : p.1 with
    | int i => rw [hd] at h1; cases h1
    | str i => rw [hd] at h1; cases h1
    | _ => have := r.1; rw [hd] at this; cases this
end
/-- an empty dict is one of tuple keys, too -/
theorem inv_dT {pins : List (Addr × Obj)} {σ : L2.St} {H : Hp} {s : Shared} {a : Addr} (I : Inv X pins σ H s) (h : H a = some (.dK [])) : Inv X pins σ (upd H a (.dT [])) s := by
  obtain ⟨z, y, vs, r, o, es, ep, e1, e2, e3, e4, e6, e5⟩ := I.hok a _ h
  cases r
  refine I.write (x := a) (e := a) (h' := s.heap) (t' := s.toks) (by rw [h]; trivial) (.inl rfl) (fun b u _ q => q) ⟨o, e1⟩ ?_
  have e7 : es.toList = [] := by
    generalize es.toList = l at e6
    cases e6
    rfl
  exact ⟨z, y, [], .nil, o, es, ep, e1, e2, e3, by rw [e7]; rfl, by simp⟩
theorem inv_dK {pins : List (Addr × Obj)} {σ : L2.St} {H : Hp} {s : Shared} {a : Addr} (I : Inv X pins σ H s) (h : H a = some (.dT [])) : Inv X pins σ (upd H a (.dK [])) s := by
  obtain ⟨z, y, xs, r, o, es, ep, e1, e2, e3, e4, e5⟩ := I.hok a _ h
  cases r
  refine I.write (x := a) (e := a) (h' := s.heap) (t' := s.toks) (by rw [h]; trivial) (.inl rfl) (fun b u _ q => q) ⟨o, e1⟩ ?_
  have e7 : es = #[] := by simpa using e4
  subst e7
  exact ⟨z, y, [], .nil, o, #[], ep, e1, e2, e3, fun e he => by simp at he, .nil, by simp⟩
omit [Tb] in
omit [Tb] in
theorem upd_self {H : Hp} {a : Addr} {o u : HO} (h : H a = some o) : upd (upd H a u) a o = H := by
  rw [upd_upd]
  funext b
  unfold upd
  split
  · rename_i e; rw [e, h]
  · rfl
section
variable {K : PySem.W.Frag} {mg : Str → Option Value} {ρ : List Addr} {H : Hp} {st : Store}
/-- how a dict is asked -/
inductive DAt (H : Hp) (a : Addr) (y : V) (o : Option V) : Prop where
  | now (h : DGet H a y o)
  | empty (h : H a = some (.dK [])) (b : Addr) (k : List Key) (ey : y = .ref b) (hb : H b = some (.tup (k.map kV))) (ho : o = none)
theorem dat {n : Nat} {v y : V} {kvs : List (D × D)} {d : D} {k : DKey} (rs : RS K mg ρ H st) (h : RD K mg ρ H (.ref n) v) (e : st[n]? = some (.dict kvs)) (hd : RD K mg ρ H d y) (ek : dk d = some k) (hf : fitsK kvs k = true) :
    ∃ a o, v = .ref a ∧ DAt H a y o ∧ (lookD kvs k = none → o = none) ∧ ∀ x, lookD kvs k = some x → ∃ w, o = some w ∧ RD K mg ρ H x w := by
  simp only [RD] at h
  obtain ⟨a, rfl, ha⟩ := h
  have ro := rs.ob n a _ ha e
  cases k with
  | inl k =>
    have ek := dk_l ek
    have ey := rd_key hd ek
    rcases ro with ⟨ks, q, r⟩ | ⟨⟨ks, q, r⟩, ne⟩
    · obtain ⟨i1, i2⟩ := rkv_look r k
      exact ⟨a, valV ks k, rfl, .now (by rw [ey]; exact DGet.k q), i1, i2⟩
    · exact absurd (rkt_nil r hf).1 ne
  | inr k =>
    have ek := dk_r ek
    obtain ⟨b, rfl, hb⟩ := rd_keyT hd ek
    rcases ro with ⟨ks, q, r⟩ | ⟨⟨ks, q, r⟩, ne⟩
    · obtain ⟨rfl, rfl⟩ := rkv_nil r hf
      exact ⟨a, none, rfl, .empty q b k rfl hb rfl, fun _ => rfl, fun x h => by cases h⟩
    · obtain ⟨i1, i2⟩ := rkt_look r k
      exact ⟨a, valV ks k, rfl, .now (DGet.t q hb), i1, i2⟩
end
omit [Tb] in
omit [Tb] in
/-- in, not in a dict -/
def inDictD : D → D → Store → Option (D × Store)
  | d, .ref n, st => match st[n]? with
    | some (.dict kvs) => (match dk d with | some k => if fitsK kvs k = true then some (.bl (lookD kvs k).isSome, st) else none | none => none)
    | _ => none
  | _, _, _ => none
omit [Tb] in
omit [Tb] in
def ninDictD : D → D → Store → Option (D × Store)
  | d, .ref n, st => match st[n]? with
    | some (.dict kvs) => (match dk d with | some k => if fitsK kvs k = true then some (.bl (!(lookD kvs k).isSome), st) else none | none => none)
    | _ => none
  | _, _, _ => none
theorem ok_inDict (hu : X.A.units + 1 < cLine) : OpR X (compareOp .In) (r2 X.K X.mg inDictD) := by
  intro pins s σ H x y v u Q I rx ry ⟨ρ, st, d1, d2, rs, h1, h2, p⟩
  cases d2 with
  | ref n =>
    simp only [inDictD] at p
    split at p
    · rename_i kvs e
      split at p
      · rename_i k ek
        split at p
        · rename_i hf
          obtain ⟨a, o, rfl, da, i1, i2⟩ := dat rs h2 e h1 ek hf
          have eo : o.isSome = (lookD kvs k).isSome := by
            cases hl : lookD kvs k with
            | none => rw [i1 hl]; rfl
            | some x => obtain ⟨w, e, _⟩ := i2 x hl; rw [e]; rfl
          obtain rfl : u = Value.ref a := ry
          cases da with
          | now g => exact d_in hu I g rx fun s1 I1 => ⟨.bl o.isSome, H, I1, rfl, by rw [eo]; exact p.here rs rd_bl⟩
          | empty h b k ey hb ho =>
            subst ho ey
            have hne : b ≠ a := fun z => by rw [z, h] at hb; cases hb
            have g : DGet (upd H a (.dT [])) a (.ref b) none := DGet.t (kvs := []) upd_same (by rw [upd_ne hne]; exact hb)
            refine d_in hu (inv_dT I h) g rx fun s1 I1 => ⟨.bl false, H, ?_, rfl, by rw [show false = (lookD kvs _).isSome from eo]; exact p.here rs rd_bl⟩
            have := inv_dK I1 upd_same
            rwa [upd_self h] at this
        · exact p.elim
      · exact p.elim
    · exact p.elim
  | _ => exact p.elim
theorem ok_ninDict (hu : X.A.units + 1 < cLine) : OpR X (compareOp .NotIn) (r2 X.K X.mg ninDictD) := by
  intro pins s σ H x y v u Q I rx ry ⟨ρ, st, d1, d2, rs, h1, h2, p⟩
  cases d2 with
  | ref n =>
    simp only [ninDictD] at p
    split at p
    · rename_i kvs e
      split at p
      · rename_i k ek
        split at p
        · rename_i hf
          obtain ⟨a, o, rfl, da, i1, i2⟩ := dat rs h2 e h1 ek hf
          have eo : o.isSome = (lookD kvs k).isSome := by
            cases hl : lookD kvs k with
            | none => rw [i1 hl]; rfl
            | some x => obtain ⟨w, e, _⟩ := i2 x hl; rw [e]; rfl
          obtain rfl : u = Value.ref a := ry
          cases da with
          | now g => exact d_notIn hu I g rx fun s1 I1 => ⟨.bl (!o.isSome), H, I1, rfl, by rw [eo]; exact p.here rs rd_bl⟩
          | empty h b k ey hb ho =>
            subst ho ey
            have hne : b ≠ a := fun z => by rw [z, h] at hb; cases hb
            have g : DGet (upd H a (.dT [])) a (.ref b) none := DGet.t (kvs := []) upd_same (by rw [upd_ne hne]; exact hb)
            refine d_notIn hu (inv_dT I h) g rx fun s1 I1 => ⟨.bl true, H, ?_, rfl, by rw [show true = !(lookD kvs _).isSome by rw [← eo]; rfl]; exact p.here rs rd_bl⟩
            have := inv_dK I1 upd_same
            rwa [upd_self h] at this
        · exact p.elim
      · exact p.elim
    · exact p.elim
  | _ => exact p.elim
omit [Tb] in
omit [Tb] in
/-- o[i] = v: a list, a dict -/
def setD : D → D → D → Store → Option Store
  | .ref n, i, v, st => match st[n]? with
    | some (.lst ds) => (match i with | .int k => (match ixN ds.length k with | some j => some (st.set n (.lst (ds.set j v))) | none => none) | _ => none)
    | some (.dict kvs) => (match dk i with | some k => if fitsK kvs k = true ∧ kvs.length < sizeLine then some (st.set n (.dict (putD kvs i k v))) else none | none => none)
    | _ => none
  | _, _, _, _ => none
omit [Tb] in
omit [Tb] in
theorem putD_ne (kvs : List (D × D)) (i : D) (k : DKey) (v : D) : putD kvs i k v ≠ [] := by
  unfold putD
  split
  · rename_i h
    intro e
    have : kvs = [] := by simpa using e
    subst this
    cases h
  · simp
theorem ok_set (hu : X.A.units + 1 < cLine) : PSet X (rSt X.K X.mg setD) := by
  intro pins s σ H o i v ov iv u Q I ro ri rv ⟨ρ, st, d1, d2, d3, rs, h1, h2, h3, p⟩
  cases d1 with
  | ref n =>
    simp only [setD] at p
    split at p
    rotate_right
    · exact p.elim
    · rename_i x st' hx
      split at hx
      · rename_i ds e
        obtain ⟨a, vs, rfl, ha, hH, r⟩ := lst_at rs h1 e
        split at hx
        · rename_i k
          split at hx
          · rename_i j hj
            cases hx
            simp only [RD] at h2
            refine set_list pins s σ H _ _ _ ov iv u Q I ro ri rv ⟨a, vs, k, j, rfl, h2, hH, by rw [← r.length]; exact hj, ?_⟩
            obtain ⟨w1, w2⟩ := rs.write ha (ho := .lst (vs.set j v)) (o := .lst (ds.set j d3)) ⟨_, upd_same, ((r.set h3 j).mo (Wk.write fun xs z => by rw [hH] at z; cases z))⟩
            exact p ρ _ w2 w1
          · cases hx
        · cases hx
      · rename_i kvs e
        split at hx
        · rename_i k ek
          split at hx
          · rename_i hf
            cases hx
            simp only [RD] at h1
            obtain ⟨a, rfl, ha⟩ := h1
            obtain rfl : ov = Value.ref a := ro
            have r := rs.ob n a _ ha e
            have hw : ∀ (ho : HO), RO X.K X.mg ρ (upd H a ho) a (.dict (putD kvs d2 k d3)) → Q (upd H a ho) := fun ho new => by
              obtain ⟨w1, w2⟩ := rs.write ha (ho := ho) new
              exact p ρ _ w2 w1
            have nt : ∀ xs, H a ≠ some (.tup xs) := by obtain ⟨u, _, z⟩ := r.is; exact z
            cases k with
            | inl k =>
              have ek := dk_l ek
              have ey := rd_key h2 ek
              rcases r with ⟨ks, q, r⟩ | ⟨⟨ks, q, r⟩, ne⟩
              · rw [ey] at ri
                refine d_setItem hu I (DPut.k q (by rw [← rkv_len r]; exact hf.2)) ri rv fun s1 I1 => ⟨_, I1, hw _ (.inl ⟨_, upd_same, ?_⟩)⟩
                exact rkv_put (Paired.imp (fun _ _ z => ⟨z.1, z.2.mo (Wk.write nt)⟩) r) ek (h3.mo (Wk.write nt))
              · exact absurd (rkt_nil r hf.1).1 ne
            | inr k =>
              have ek := dk_r ek
              obtain ⟨b, rfl, hb⟩ := rd_keyT h2 ek
              rcases r with ⟨ks, q, r⟩ | ⟨⟨ks, q, r⟩, ne⟩
              · obtain ⟨rfl, rfl⟩ := rkv_nil r hf.1
                have hne : b ≠ a := fun z => by rw [z, q] at hb; cases hb
                refine d_setItem hu (inv_dT I q) (DPut.t (kvs := []) upd_same (by rw [upd_ne hne]; exact hb) (by rw [sizeLine_eq]; decide)) ri rv fun s1 I1 => ?_
                rw [upd_upd] at I1
                refine ⟨_, I1, hw _ (.inr ⟨⟨_, upd_same, ?_⟩, putD_ne _ _ _ _⟩)⟩
                exact rkt_put .nil ek (h3.mo (Wk.write nt))
              · refine d_setItem hu I (DPut.t q hb (by rw [← rkt_len r]; exact hf.2)) ri rv fun s1 I1 => ⟨_, I1, hw _ (.inr ⟨⟨_, upd_same, ?_⟩, putD_ne _ _ _ _⟩)⟩
                exact rkt_put (Paired.imp (fun _ _ z => ⟨z.1, z.2.mo (Wk.write nt)⟩) r) ek (h3.mo (Wk.write nt))
          · cases hx
        · cases hx
      · cases hx
  | _ => exact p.elim
end
end Py

set_option Elab.async false
set_option linter.all false
set_option maxRecDepth 100000
set_option maxHeartbeats 1000000
namespace Py
open L2 PySem PySem.Spec PyProof.Rows
variable [Tb]
section
variable {X : Cx}
/-! ### o[i] -/
omit [Tb] in
omit [Tb] in
theorem ixr_of {v u : Value} {T id : String} {Q : Value → Shared → Prop} {A : Around} {E : Value → Shared → Prop} {prog : Program} {w : World} {s : Shared} (value slice : Expr) (hl : typeLookup (.type T) "__getitem__" = pure (some (.builtin id))) (hT : s.TypeIs v T)
    (h : wpAny (model prog w) A (getItem v u) Q E s) (hs : subscripted slice false v u = operate [v, u] (getItem v u)) : wpAny (model prog w) A (subscriptTail value slice v u) Q E s := by
  unfold subscriptTail
  refine wpAny_bind ?_
  rw [getitemInPython_of_ne hT.not_modules]
  refine wpAny_bind (wpAny_specialOf hT hl ?_)
  have fin : wpAny (model prog w) A (subscripted slice false v u) (fun r s₃ => wpAny (model prog w) A (letTemporaryGo value v r >>= fun _ => pure r) Q E s₃) E s := by
    rw [hs]
    exact wpAny_operating (wpAny_mono h (fun r s₃ h₃ => wpAny_bind (wpAny_letTemporaryGo (wpAny_pure h₃))) fun _ _ x => x)
  first
    | exact wpAny_pure (wpAny_bind fin)
    | exact wpAny_bind (wpAny_pure (wpAny_bind fin))
    | exact wpAny_bind fin
omit [Tb] in
omit [Tb] in
def ixD : D → D → Store → Option (D × Store)
  | .tup ds, .int i, st => (match atI ds i with | some d => some (d, st) | none => none)
  | .kl ds, .int i, st => (match atI ds i with | some d => some (d, st) | none => none)
  | .kt ds, .int i, st => (match atI ds i with | some d => some (d, st) | none => none)
  | .str z, .int i, st => if z.length ≤ sizeLine then (match atI z.cps.toList i with | some c => some (.str ⟨#[c]⟩, st) | none => none) else none
  | .ref n, i, st => match st[n]? with
    | some (.lst ds) => (match i with | .int k => (match atI ds k with | some d => some (d, st) | none => none) | _ => none)
    | some (.frz ds) => (match i with | .int k => (match atI ds k with | some d => some (d, st) | none => none) | _ => none)
    | some (.dict kvs) => (match dk i with | some k => if fitsK kvs k = true then (match lookD kvs k with | some d => some (d, st) | none => none) else none | none => none)
    | _ => none
  | _, _, _ => none
omit [Tb] in
omit [Tb] in
theorem atI_rel {K : PySem.W.Frag} {mg : Str → Option Value} {ρ : List Addr} {H : Hp} {ds : List D} {vs : List V} {i : Int} {d : D} (h : RDs K mg ρ H ds vs) (e : atI ds i = some d) : ∃ v, atI vs i = some v ∧ RD K mg ρ H d v := by
  unfold atI at e ⊢
  rw [← h.length]
  cases hx : ixN ds.length i with
  | none => rw [hx] at e; cases e
  | some j =>
    rw [hx] at e
    exact h.get e
theorem ok_ix (hu : X.A.units + 1 < cLine) : IxR X (r2 X.K X.mg ixD) := by
  intro value slice pins s σ H x y v u Q I rx ry ⟨ρ, st, d1, d2, rs, h1, h2, p⟩ hs
  have seq : ∀ {ds : List D} {i : Int} {a : Addr} {vs : List V}, x = .ref a → SqL X.K H a vs ∨ SqT X.K H a vs → RDs X.K X.mg ρ H ds vs → y = .int i → PostO X.K X.mg Q ρ H (match atI ds i with | some d => some (d, st) | none => none) → wpAny (model X.prog X.w) X.A (subscriptTail value slice v u) (EP X pins σ Q) X.xe s := by
    intro ds i a vs ex hq r ey p
    split at p
    · rename_i d hd
      obtain ⟨w, hw, rw'⟩ := atI_rel r hd
      rcases hq with hq | hq
      · exact ix_list value slice pins s σ H x y v u Q I rx ry ⟨a, vs, i, w, ex, ey, hq, hw, p.here rs rw'⟩ hs
      · exact ix_tup value slice pins s σ H x y v u Q I rx ry ⟨a, vs, i, w, ex, ey, hq, hw, p.here rs rw'⟩ hs
    · exact p.elim
  cases d1 with
  | tup ds =>
    cases d2 with
    | int i =>
      simp only [RD] at h2
      obtain ⟨a, vs, ex, hq, r⟩ := tup_at h1 rfl
      exact seq ex (.inr hq) r h2 p
    | _ => exact p.elim
  | kt ds =>
    cases d2 with
    | int i =>
      simp only [RD] at h2
      obtain ⟨a, vs, ex, hq, r⟩ := tup_at h1 rfl
      exact seq ex (.inr hq) r h2 p
    | _ => exact p.elim
  | kl ds =>
    cases d2 with
    | int i =>
      simp only [RD] at h2
      obtain ⟨a, vs, ex, hq, r⟩ := kl_at h1
      exact seq ex (.inl (hq H)) r h2 p
    | _ => exact p.elim
  | str z =>
    cases d2 with
    | int i =>
      simp only [RD] at h1 h2
      simp only [ixD] at p
      split at p
      · rename_i hz
        split at p
        · rename_i c hc
          exact ix_str value slice pins s σ H x y v u Q I rx ry ⟨z, i, c, h1, h2, hz, hc, p.here rs rd_str⟩ hs
        · exact p.elim
      · exact p.elim
    | _ => exact p.elim
  | ref n =>
    simp only [ixD] at p
    split at p
    · rename_i ds e
      cases d2 with
      | int i =>
        simp only [RD] at h2
        obtain ⟨a, vs, ex, _, hq, r⟩ := seq_at rs h1 (show getL st n = some ds by unfold getL; rw [e])
        exact seq ex (.inl hq) r h2 p
      | _ => exact p.elim
    · rename_i ds e
      cases d2 with
      | int i =>
        simp only [RD] at h2
        obtain ⟨a, vs, ex, _, hq, r⟩ := seq_at rs h1 (show getL st n = some ds by unfold getL; rw [e])
        exact seq ex (.inl hq) r h2 p
      | _ => exact p.elim
    · rename_i kvs e
      split at p
      · rename_i k ek
        split at p
        · rename_i hf
          split at p
          · rename_i d hd
            obtain ⟨a, o, rfl, da, i1, i2⟩ := dat rs h1 e h2 ek hf
            obtain ⟨w, rfl, rw'⟩ := i2 d hd
            obtain rfl : v = Value.ref a := rx
            cases da with
            | now g =>
              refine ixr_of value slice PySem.F.slot_dict_getitem.lookup (dict_typeIs I g) ?_ hs
              exact d_getItem hu I g ry fun w' s1 I1 rw1 => ⟨w, H, I1, rw1, p.here rs rw'⟩
            | empty h b k ey hb ho => cases ho
          · exact p.elim
        · exact p.elim
      · exact p.elim
    · exact p.elim
  | _ => exact p.elim
/-! ### slices -/
omit [Tb] in
omit [Tb] in
def cutL {α : Type} (xs : List α) (lo hi : Option Int) : List α := (xs.drop (HT.sIx xs.length 0 lo)).take (HT.sIx xs.length xs.length hi - HT.sIx xs.length 0 lo)
omit [Tb] in
omit [Tb] in
def cutD : D → Option Int → Option Int → Store → Option (D × Store)
  | .tup ds, lo, hi, st => some (.tup (cutL ds lo hi), st)
  | .ref n, lo, hi, st => (match getL st n with | some ds => some (.ref st.length, st ++ [.lst (cutL ds lo hi)]) | none => none)
  | .kl ds, lo, hi, st => some (.ref st.length, st ++ [.lst (cutL ds lo hi)])
  | .str z, lo, hi, st => if z.length ≤ sizeLine then some (.str (cutS z lo hi), st) else none
  | _, _, _, _ => none
theorem RDs.cutL {K : PySem.W.Frag} {mg : Str → Option Value} {ρ : List Addr} {H : Hp} {ds : List D} {vs : List V} (h : RDs K mg ρ H ds vs) (lo hi : Option Int) : RDs K mg ρ H (Py.cutL ds lo hi) (cutV vs lo hi) := by
  unfold Py.cutL cutV
  rw [h.length]
  exact (h.drop _).take _
def rSl (K : PySem.W.Frag) (mg : Str → Option Value) : V → Option Int → Option Int → Hp → VK → Prop := fun x lo hi H Q => ∃ ρ st d, RS K mg ρ H st ∧ RD K mg ρ H d x ∧ PostO K mg Q ρ H (cutD d lo hi st)
theorem ok_cut : SlR X (rSl X.K X.mg) := by
  intro pins s σ H x v vl vu lo hi sl Q I rx hs pl pu ⟨ρ, st, d, rs, h, p⟩
  cases d with
  | tup ds =>
    have g := h
    obtain ⟨a, vs, ex, hq, r⟩ := tup_at h rfl
    refine sl_tupA pins s σ H x v vl vu lo hi sl Q I rx hs pl pu ⟨a, vs, ex, hq, fun hw => ?_, fun _ q hq => ?_⟩
    · have e : Py.cutL ds lo hi = ds := by
        unfold Py.cutL
        rw [r.length, hw.1, hw.2, ← r.length]
        simp
      simp only [cutD, e] at p
      rw [ex] at g
      exact p.here rs g
    · obtain ⟨a1, a2⟩ := newTup rs (r.cutL lo hi) hq
      exact p _ _ _ (Ext.new hq) a1 a2
  | kl ds =>
    obtain ⟨a, vs, ex, hq, r⟩ := kl_at h
    refine sl_list pins s σ H x v vl vu lo hi sl Q I rx hs pl pu ⟨a, vs, ex, hq H, fun q hq => ?_⟩
    obtain ⟨a1, a2⟩ := newLst rs (r.cutL lo hi) hq
    exact p _ _ _ (Ext.push hq) a1 a2
  | ref n =>
    simp only [cutD] at p
    split at p
    · rename_i ds e
      obtain ⟨a, vs, ex, _, hq, r⟩ := seq_at rs h e
      refine sl_list pins s σ H x v vl vu lo hi sl Q I rx hs pl pu ⟨a, vs, ex, hq, fun q hq => ?_⟩
      obtain ⟨a1, a2⟩ := newLst rs (r.cutL lo hi) hq
      exact p _ _ _ (Ext.push hq) a1 a2
    · exact p.elim
  | str z =>
    simp only [RD] at h
    simp only [cutD] at p
    split at p
    · rename_i hz
      exact sl_str pins s σ H x v vl vu lo hi sl Q I rx hs pl pu ⟨z, h, hz, p.here rs rd_str⟩
    · exact p.elim
  | _ => exact p.elim
section
variable {W : WX} {pos p2 : Pos} {e a b : Expr} {me ma mb : Py.Loc → Store → R D}
abbrev SO (X : Cx) (W : WX) (e : Option Expr) (m : Py.Loc → Store → R (Option Int)) : Prop := PO X e (tG X.K X.mg (fun _ _ a b => a = b) W m)
omit [Tb] in
omit [Tb] in
theorem PO.imp {e : Option Expr} {t t' : TO} (h : PO X e t) (f : ∀ σ H Q, t' σ H Q → t σ H Q) : PO X e t' := ⟨fun pins s σ H Q I q => h.run pins s σ H Q I (f _ _ _ q)⟩
omit [Tb] in
omit [Tb] in
def mNoP : Py.Loc → Store → R (Option Int) := fun _ st => .ok none st
omit [Tb] in
omit [Tb] in
def mP (ma : Py.Loc → Store → R D) : Py.Loc → Store → R (Option Int) := fun e st => (ma e st).bind fun d st => match d with | .int i => .ok (some i) st | _ => .stuck
theorem so_none : SO X W none mNoP := PO.imp po_none fun σ H Q ⟨ρ, e, st, rs, re, p⟩ => p ρ H none .refl rs rfl
theorem so_some (h : SE X W e me) : SO X W (some e) (mP me) := PO.imp (po_some h) fun σ H Q ⟨ρ, e, st, rs, re, p⟩ => by
  refine ⟨ρ, e, st, rs, re, (Post.bind p).imp fun x H1 ⟨d, ρ1, st1, x1, rs1, rd1, p1⟩ => ?_⟩
  cases d with
  | int i =>
    simp only [RD] at rd1
    exact ⟨i, rd1, p1 ρ1 H1 _ .refl rs1 rfl⟩
  | _ => exact p1.elim
omit [Tb] in
omit [Tb] in
def mSl (me : Py.Loc → Store → R D) (ml mh : Py.Loc → Store → R (Option Int)) : Py.Loc → Store → R D := fun e st => (me e st).bind fun d st => (ml e st).bind fun lo st => (mh e st).bind fun hi st => ofO (cutD d lo hi st)
theorem se_sl {lo hi : Option Expr} {ml mh : Py.Loc → Store → R (Option Int)} (he : SE X W e me) (hl : SO X W lo ml) (hh : SO X W hi mh) : SE X W (.Subscript e (.Slice lo hi none p2) pos) (mSl me ml mh) :=
  PE.imp (pe_slice ok_cut he hl hh) fun σ H Q ⟨ρ, e, st, rs, re, p⟩ => by
    refine ⟨ρ, e, st, rs, re, (Post.bind p).imp fun x H1 ⟨d, ρ1, st1, x1, rs1, rd1, p1⟩ => ?_⟩
    refine ⟨ρ1, e, st1, rs1, re.mono x1, (Post.bind p1).imp fun y H2 ⟨l, ρ2, st2, x2, rs2, rd2, p2⟩ => ?_⟩
    refine ⟨ρ2, e, st2, rs2, re.mono (x1.trans x2), (Post.bind p2).imp fun z H3 ⟨h', ρ3, st3, x3, rs3, rd3, p3⟩ => ?_⟩
    subst rd2 rd3
    exact ⟨ρ3, st3, d, rs3, rd1.mono (x2.trans x3), p3.toO⟩
end
/-! ### in -/
omit [Tb] in
omit [Tb] in
def flatD : D → Bool | .non => true | .bl _ => true | .int _ => true | .str _ => true | _ => false
omit [Tb] in
omit [Tb] in
def eqF (a b : D) : Bool := eqV (VofD a) (VofD b)
theorem rd_flat {K : PySem.W.Frag} {mg : Str → Option Value} {ρ : List Addr} {H : Hp} {d : D} {v : V} (h : RD K mg ρ H d v) (f : flatD d = true) : v = VofD d ∧ flatV v = true := by
  cases d with
  | non => simp only [RD] at h; subst h; exact ⟨rfl, rfl⟩
  | bl _ => simp only [RD] at h; subst h; exact ⟨rfl, rfl⟩
  | int _ => simp only [RD] at h; subst h; exact ⟨rfl, rfl⟩
  | str _ => simp only [RD] at h; subst h; exact ⟨rfl, rfl⟩
  | _ => cases f
theorem rds_flat {K : PySem.W.Frag} {mg : Str → Option Value} {ρ : List Addr} {H : Hp} : ∀ {ds : List D} {vs : List V}, RDs K mg ρ H ds vs → ds.all flatD = true → vs = ds.map VofD ∧ vs.all flatV = true
  | [], _, h, _ => by simp only [RDs] at h; subst h; exact ⟨rfl, rfl⟩
  | d :: ds, _, h, f => by
    obtain ⟨x, xs, rfl, h1, h2⟩ := h.uncons
    simp only [List.all_cons, Bool.and_eq_true] at f ⊢
    obtain ⟨a1, a2⟩ := rd_flat h1 f.1
    obtain ⟨b1, b2⟩ := rds_flat h2 f.2
    exact ⟨by rw [List.map_cons, ← a1, ← b1], a2, b2⟩
omit [Tb] in
omit [Tb] in
/-- x in a tuple of flat things, in a text of signs, in a list, in a dict: the answer -/
noncomputable def inB : D → D → Store → Option Bool
  | .str c, .str z, _ => (match c.cps.toList with | [x] => some (decide (x ∈ z.cps.toList)) | _ => some (!(Builtin.Str.occurrences z c 0 z.length 1).isEmpty))
  | d, .tup ds, _ => if flatD d = true ∧ ds.all flatD = true then some (ds.any fun y => eqF y d) else none
  | d, .kt ds, _ => if flatD d = true ∧ ds.all flatD = true then some (ds.any fun y => eqF y d) else none
  | d, .ref n, st => match st[n]? with
    | some (.dict kvs) => (match dk d with | some k => if fitsK kvs k = true then some (lookD kvs k).isSome else none | none => none)
    | some (.lst _) => (match toPy st d, toPy st (.ref n) with
      | some p, some (.list ps) => if SeqAt.shaped p = true ∧ SeqAt.shaped (.list ps) = true then some (ps.any fun z => PyData.eqv z p) else none
      | _, _ => none)
    | _ => none
  | _, _, _ => none
omit [Tb] in
omit [Tb] in
noncomputable def inD (a b : D) (st : Store) : Option (D × Store) := match inB a b st with | some k => some (.bl k, st) | none => none
omit [Tb] in
omit [Tb] in
noncomputable def ninD (a b : D) (st : Store) : Option (D × Store) := match inB a b st with | some k => some (.bl (!k), st) | none => none
omit [Tb] in
omit [Tb] in
theorem sign_eq {c : Str} {x : Nat} (h : c.cps.toList = [x]) : c = ⟨#[x]⟩ := by
  cases c with
  | mk a =>
    have : a = #[x] := by rw [← Array.toList_inj]; simpa using h
    rw [this]
theorem ok_in (hu : X.A.units + 65 < cLine) : OpR X (compareOp .In) (r2 X.K X.mg inD) := by
  intro pins s σ H x y v u Q I rx ry ⟨ρ, st, d1, d2, rs, h1, h2, p⟩
  have tupc : ∀ {ds : List D}, getT d2 = some ds → PostO X.K X.mg Q ρ H (match (if flatD d1 = true ∧ ds.all flatD = true then some (ds.any fun y => eqF y d1) else none : Option Bool) with | some k => some (.bl k, st) | none => none) → wpAny (model X.prog X.w) X.A (compareOp .In v u) (EP X pins σ Q) X.xe s := by
    intro ds hg p
    split at p
    · rename_i k hk
      split at hk
      · rename_i hf
        cases hk
        obtain ⟨a, vs, ey, hq, r⟩ := tup_at h2 hg
        obtain ⟨a1, a2⟩ := rd_flat h1 hf.1
        obtain ⟨b1, b2⟩ := rds_flat r hf.2
        refine op_in_seq pins s σ H x y v u Q I rx ry ⟨a, vs, ey, .inr hq, a2, b2, ?_⟩
        have e : inV x vs = ds.any fun y => eqF y d1 := by
          rw [a1, b1]
          unfold inV eqF
          rw [List.any_map]
          rfl
        rw [if_neg (by decide), e]
        exact p.here rs rd_bl
      · cases hk
    · exact p.elim
  cases d2 with
  | str z =>
    cases d1 with
    | str c =>
      simp only [RD] at h1 h2
      simp only [inD, inB] at p
      split at p
      · rename_i k hk
        split at hk
        · rename_i x' hx
          cases hk
          exact op_in_sign pins s σ H x y v u Q I rx ry ⟨x', z, by rw [h1, sign_eq hx], h2, p.here rs rd_bl⟩
        · cases hk
          exact op_in_str pins s σ H x y v u Q I rx ry ⟨c, z, h1, h2, p.here rs rd_bl⟩
      · exact p.elim
    | _ => exact p.elim
  | tup ds =>
    refine tupc rfl ?_
    cases d1 <;> exact p
  | kt ds =>
    refine tupc rfl ?_
    cases d1 <;> exact p
  | ref n =>
    have p' : PostO X.K X.mg Q ρ H (match (match st[n]? with
      | some (.dict kvs) => (match dk d1 with | some k => if fitsK kvs k = true then some (lookD kvs k).isSome else none | none => none)
      | some (.lst _) => (match toPy st d1, toPy st (.ref n) with
        | some p, some (.list ps) => if SeqAt.shaped p = true ∧ SeqAt.shaped (.list ps) = true then some (ps.any fun z => PyData.eqv z p) else none
        | _, _ => none)
      | _ => none : Option Bool) with | some k => some (.bl k, st) | none => none) := by cases d1 <;> exact p
    clear p
    split at p'
    · rename_i k hk
      split at hk
      · rename_i kvs e
        refine ok_inDict (by omega) pins s σ H x y v u Q I rx ry ⟨ρ, st, d1, .ref n, rs, h1, h2, ?_⟩
        simp only [inDictD, e]
        split at hk
        · rename_i k' ek
          try simp only [ek]
          split at hk
          · rename_i hf
            cases hk
            rw [if_pos hf]
            exact p'
          · cases hk
        · cases hk
      · split at hk
        · rename_i q ps e1 e2
          split at hk
          · rename_i hf
            cases hk
            exact op_inD hu pins s σ H x y v u Q I rx ry ⟨q, ps, toPy_dp rs h1 e1, toPy_dp rs h2 e2, hf.1, hf.2, p'.here rs rd_bl⟩
          · cases hk
        · cases hk
      · cases hk
    · exact p'.elim
  | _ => cases d1 <;> exact p.elim
theorem ok_nin (hu : X.A.units + 65 < cLine) : OpR X (compareOp .NotIn) (r2 X.K X.mg ninD) := by
  intro pins s σ H x y v u Q I rx ry ⟨ρ, st, d1, d2, rs, h1, h2, p⟩
  have tupc : ∀ {ds : List D}, getT d2 = some ds → PostO X.K X.mg Q ρ H (match (if flatD d1 = true ∧ ds.all flatD = true then some (ds.any fun y => eqF y d1) else none : Option Bool) with | some k => some (.bl (!k), st) | none => none) → wpAny (model X.prog X.w) X.A (compareOp .NotIn v u) (EP X pins σ Q) X.xe s := by
    intro ds hg p
    split at p
    · rename_i k hk
      split at hk
      · rename_i hf
        cases hk
        obtain ⟨a, vs, ey, hq, r⟩ := tup_at h2 hg
        obtain ⟨a1, a2⟩ := rd_flat h1 hf.1
        obtain ⟨b1, b2⟩ := rds_flat r hf.2
        refine op_notIn_seq pins s σ H x y v u Q I rx ry ⟨a, vs, ey, .inr hq, a2, b2, ?_⟩
        have e : inV x vs = ds.any fun y => eqF y d1 := by
          rw [a1, b1]
          unfold inV eqF
          rw [List.any_map]
          rfl
        rw [if_pos rfl, e]
        exact p.here rs rd_bl
      · cases hk
    · exact p.elim
  cases d2 with
  | str z =>
    cases d1 with
    | str c =>
      simp only [RD] at h1 h2
      simp only [ninD, inB] at p
      split at p
      · rename_i k hk
        split at hk
        · rename_i x' hx
          cases hk
          exact op_notIn_sign pins s σ H x y v u Q I rx ry ⟨x', z, by rw [h1, sign_eq hx], h2, p.here rs rd_bl⟩
        · cases hk
          exact L2.op_notIn_str pins s σ H x y v u Q I rx ry ⟨c, z, h1, h2, p.here rs rd_bl⟩
      · exact p.elim
    | _ => exact p.elim
  | tup ds =>
    refine tupc rfl ?_
    cases d1 <;> exact p
  | kt ds =>
    refine tupc rfl ?_
    cases d1 <;> exact p
  | ref n =>
    have p' : PostO X.K X.mg Q ρ H (match (match st[n]? with
      | some (.dict kvs) => (match dk d1 with | some k => if fitsK kvs k = true then some (lookD kvs k).isSome else none | none => none)
      | some (.lst _) => (match toPy st d1, toPy st (.ref n) with
        | some p, some (.list ps) => if SeqAt.shaped p = true ∧ SeqAt.shaped (.list ps) = true then some (ps.any fun z => PyData.eqv z p) else none
        | _, _ => none)
      | _ => none : Option Bool) with | some k => some (.bl (!k), st) | none => none) := by cases d1 <;> exact p
    clear p
    split at p'
    · rename_i k hk
      split at hk
      · rename_i kvs e
        refine ok_ninDict (by omega) pins s σ H x y v u Q I rx ry ⟨ρ, st, d1, .ref n, rs, h1, h2, ?_⟩
        simp only [ninDictD, e]
        split at hk
        · rename_i k' ek
          try simp only [ek]
          split at hk
          · rename_i hf
            cases hk
            rw [if_pos hf]
            exact p'
          · cases hk
        · cases hk
      · split at hk
        · rename_i q ps e1 e2
          split at hk
          · rename_i hf
            cases hk
            exact op_notInD hu pins s σ H x y v u Q I rx ry ⟨q, ps, toPy_dp rs h1 e1, toPy_dp rs h2 e2, hf.1, hf.2, p'.here rs rd_bl⟩
          · cases hk
        · cases hk
      · cases hk
    · exact p'.elim
  | _ => cases d1 <;> exact p.elim
end
end Py

set_option Elab.async false
set_option linter.all false
set_option maxRecDepth 100000
set_option maxHeartbeats 1000000
namespace Py
open L2 PySem PySem.Spec PyProof.Rows
variable [Tb]
section
variable {X : Cx}
/-! ### built-ins -/
omit [Tb] in
omit [Tb] in
def seqOf (d : D) (st : Store) : Option (List D) := match d with | .tup ds => some ds | .kt ds => some ds | .kl ds => some ds | .ref n => getL st n | _ => none
theorem seqOf_at {K : PySem.W.Frag} {mg : Str → Option Value} {ρ : List Addr} {H : Hp} {st : Store} {d : D} {v : V} {ds : List D} (rs : RS K mg ρ H st) (h : RD K mg ρ H d v) (e : seqOf d st = some ds) : ∃ a vs, v = .ref a ∧ (SqL K H a vs ∨ SqT K H a vs) ∧ RDs K mg ρ H ds vs := by
  cases d with
  | tup es => obtain ⟨a, vs, r1, r2, r3⟩ := tup_at h e; exact ⟨a, vs, r1, .inr r2, r3⟩
  | kt es => obtain ⟨a, vs, r1, r2, r3⟩ := tup_at h e; exact ⟨a, vs, r1, .inr r2, r3⟩
  | kl es => cases e; obtain ⟨a, vs, r1, r2, r3⟩ := kl_at h; exact ⟨a, vs, r1, .inl (r2 H), r3⟩
  | ref n => obtain ⟨a, vs, r1, _, r2, r3⟩ := seq_at rs h e; exact ⟨a, vs, r1, .inl r2, r3⟩
  | _ => cases e
omit [Tb] in
omit [Tb] in
theorem rds_one {K : PySem.W.Frag} {mg : Str → Option Value} {ρ : List Addr} {H : Hp} {d : D} {xs : List V} (h : RDs K mg ρ H [d] xs) : ∃ x, xs = [x] ∧ RD K mg ρ H d x := by
  obtain ⟨x, ys, rfl, h1, h2⟩ := h.uncons
  simp only [RDs] at h2
  exact ⟨x, by rw [h2], h1⟩
omit [Tb] in
omit [Tb] in
theorem rds_two {K : PySem.W.Frag} {mg : Str → Option Value} {ρ : List Addr} {H : Hp} {d e : D} {xs : List V} (h : RDs K mg ρ H [d, e] xs) : ∃ x y, xs = [x, y] ∧ RD K mg ρ H d x ∧ RD K mg ρ H e y := by
  obtain ⟨x, ys, rfl, h1, h2⟩ := h.uncons
  obtain ⟨y, rfl, h3⟩ := rds_one h2
  exact ⟨x, y, rfl, h1, h3⟩
omit [Tb] in
omit [Tb] in
def lenD : List D → Store → Option (D × Store)
  | [.str z], st => if z.length ≤ sizeLine then some (.int z.length, st) else none
  | [.ref n], st => (match st[n]? with | some (.dict kvs) => if allK kvs = true then some (.int kvs.length, st) else none | _ => (match getL st n with | some ds => some (.int ds.length, st) | none => none))
  | [.tup ds], st => some (.int ds.length, st)
  | [.kt ds], st => some (.int ds.length, st)
  | [.kl ds], st => some (.int ds.length, st)
  | _, _ => none
theorem ok_len : CallR X (.builtin "len") (rN X.K X.mg lenD) := CallR.imp (call_len.or call_lenD) fun xs H Q ⟨ρ, st, ds, rs, h, p⟩ => by
  unfold lenD at p
  split at p
  · obtain ⟨x, rfl, h1⟩ := rds_one h
    simp only [RD] at h1
    split at p
    · rename_i hz
      exact .inl ⟨x, _, rfl, by rw [h1]; exact ⟨hz, rfl⟩, p.here rs rd_int⟩
    · exact p.elim
  · obtain ⟨x, rfl, h1⟩ := rds_one h
    split at p
    · rename_i kvs e
      split at p
      · rename_i hk
        simp only [RD] at h1
        obtain ⟨a, rfl, ha⟩ := h1
        rcases rs.ob _ a _ ha e with ⟨ks, q, r⟩ | ⟨⟨ks, q, r⟩, ne⟩
        · exact .inr ⟨a, ks, rfl, q, by rw [← rkv_len r]; exact p.here rs rd_int⟩
        · exact absurd (rkt_nil r hk).1 ne
      · exact p.elim
    · split at p
      · rename_i ds e
        obtain ⟨a, vs, rfl, _, hq, r⟩ := seq_at rs h1 e
        exact .inl ⟨_, vs.length, rfl, .inl ⟨vs, hq, rfl⟩, by rw [← r.length]; exact p.here rs rd_int⟩
      · exact p.elim
  · obtain ⟨x, rfl, h1⟩ := rds_one h
    obtain ⟨a, vs, rfl, hq, r⟩ := tup_at h1 rfl
    exact .inl ⟨_, vs.length, rfl, .inr ⟨vs, hq, rfl⟩, by rw [← r.length]; exact p.here rs rd_int⟩
  · obtain ⟨x, rfl, h1⟩ := rds_one h
    obtain ⟨a, vs, rfl, hq, r⟩ := tup_at h1 rfl
    exact .inl ⟨_, vs.length, rfl, .inr ⟨vs, hq, rfl⟩, by rw [← r.length]; exact p.here rs rd_int⟩
  · obtain ⟨x, rfl, h1⟩ := rds_one h
    obtain ⟨a, vs, rfl, hq, r⟩ := kl_at h1
    exact .inl ⟨_, vs.length, rfl, .inl ⟨vs, hq H, rfl⟩, by rw [← r.length]; exact p.here rs rd_int⟩
  · exact p.elim
omit [Tb] in
omit [Tb] in
def absD : List D → Store → Option (D × Store)
  | [.int i], st => some (.int (if i < 0 then -i else i), st)
  | _, _ => none
theorem ok_abs : CallR X (.builtin "abs") (rN X.K X.mg absD) := CallR.imp call_abs fun xs H Q ⟨ρ, st, ds, rs, h, p⟩ => by
  unfold absD at p
  split at p
  · obtain ⟨x, rfl, h1⟩ := rds_one h
    simp only [RD] at h1
    exact ⟨_, by rw [h1], p.here rs rd_int⟩
  · exact p.elim
omit [Tb] in
omit [Tb] in
def intD : List D → Store → Option (D × Store)
  | [.int i], st => some (.int i, st)
  | [.bl b], st => some (.int (if b then 1 else 0), st)
  | _, _ => none
theorem ok_int : CallR X (.type "int") (rN X.K X.mg intD) := CallR.imp call_int1 fun xs H Q ⟨ρ, st, ds, rs, h, p⟩ => by
  unfold intD at p
  split at p
  · obtain ⟨x, rfl, h1⟩ := rds_one h
    simp only [RD] at h1
    exact .inl ⟨_, by rw [h1], p.here rs rd_int⟩
  · obtain ⟨x, rfl, h1⟩ := rds_one h
    simp only [RD] at h1
    exact .inr ⟨_, by rw [h1], p.here rs rd_int⟩
  · exact p.elim
omit [Tb] in
omit [Tb] in
def tupD : List D → Store → Option (D × Store)
  | [.ref n], st => (match getL st n with | some ds => some (.tup ds, st) | none => none)
  | [.tup ds], st => some (.tup ds, st)
  | _, _ => none
theorem ok_tuple : CallR X (.type "tuple") (rN X.K X.mg tupD) := CallR.imp call_tuple_of fun xs H Q ⟨ρ, st, ds, rs, h, p⟩ => by
  unfold tupD at p
  split at p
  · obtain ⟨x, rfl, h1⟩ := rds_one h
    split at p
    · rename_i ds e
      obtain ⟨a, vs, rfl, _, hq, r⟩ := seq_at rs h1 e
      refine ⟨a, vs, rfl, .inl ⟨hq, fun l hl => ?_⟩⟩
      obtain ⟨a1, a2⟩ := newTup rs r hl
      exact p _ _ _ (Ext.new hl) a1 a2
    · exact p.elim
  · obtain ⟨x, rfl, h1⟩ := rds_one h
    have g := h1
    obtain ⟨a, vs, rfl, hq, r⟩ := tup_at h1 rfl
    exact ⟨a, vs, rfl, .inr ⟨hq, p.here rs g⟩⟩
  · exact p.elim
theorem call_listS (hc : X.calm = true) : CallR X (.type "list") (fun xs H Q => ∃ z : Str, xs = [V.str z] ∧ z.length ≤ sizeLine ∧ ∀ q, H q = none → Q (.ref q) (upd H q (.lst (z.cps.toList.map fun c => V.str ⟨#[c]⟩)))) := by
  intro pins s σ H xs us Q I r ⟨z, ez, hz, q⟩
  subst ez
  obtain ⟨u, eu, t, rfl⟩ := vals1 r
  subst eu
  refine PySem.call_list_str (hn := hz) (I.ok.hd hc) z t fun h' tk acc c' hk e hi => ?_
  refine ⟨.ref s.heap.objs.size, upd H s.heap.objs.size (.lst (z.cps.toList.map fun c => V.str ⟨#[c]⟩)), I.laid hk (Nat.le_refl _) ⟨by rw [List.length_map, Array.length_toList]; exact hz, acc.toList, c', ?_, by rw [Array.toArray_toList]; exact e⟩, rfl, q _ (I.hok.fresh (Nat.le_refl _))⟩
  refine vals_of_idx _ _ (by rw [List.length_map, Array.length_toList, Array.length_toList]; exact hi.1) fun j u hj => ?_
  obtain ⟨c, t', hc, rfl⟩ := hi.2 j u (by rw [← Array.getElem?_toList]; exact hj)
  exact ⟨.str ⟨#[c]⟩, by rw [List.getElem?_map, Array.getElem?_toList, hc]; rfl, ⟨_, rfl⟩⟩
omit [Tb] in
omit [Tb] in
def listD : List D → Store → Option (D × Store)
  | [.ref n], st => (match st[n]? with
    | some (.dict kvs) => if allK kvs = true then some (.ref st.length, st ++ [.lst (kvs.map (·.1))]) else none
    | _ => (match getL st n with | some ds => some (.ref st.length, st ++ [.lst ds]) | none => none))
  | [.tup ds], st => some (.ref st.length, st ++ [.lst ds])
  | [.str z], st => if z.length ≤ sizeLine then some (.ref st.length, st ++ [.lst (z.cps.toList.map fun c => .str ⟨#[c]⟩)]) else none
  | _, _ => none
omit [Tb] in
omit [Tb] in
theorem rds_chars {K : PySem.W.Frag} {mg : Str → Option Value} {ρ : List Addr} {H : Hp} : ∀ l : List Nat, RDs K mg ρ H (l.map fun c => D.str ⟨#[c]⟩) (l.map fun c => V.str ⟨#[c]⟩)
  | [] => .nil
  | c :: l => .cons (by simp only [RD]) (rds_chars l)
theorem rkv_keys {K : PySem.W.Frag} {mg : Str → Option Value} {ρ : List Addr} {H : Hp} : ∀ {kvs : List (D × D)} {ks : List (Key × V)}, RKV K mg ρ H kvs ks → RDs K mg ρ H (kvs.map (·.1)) (ks.map fun kv => kV kv.1)
  | _, _, .nil => .nil
  | (p1, p2) :: kvs, (q1, q2) :: ks, .cons r t => by
    refine .cons ?_ (rkv_keys t)
    have h := r.1
    show RD K mg ρ H p1 (kV q1)
    cases p1 with
    | int i => cases h; exact rd_int
    | str i => cases h; exact rd_str
    | _ => cases h
theorem ok_list (hc : X.calm = true) : CallR X (.type "list") (rN X.K X.mg listD) := CallR.imp ((call_list_of.or (call_list_dK hc)).or (call_listS hc)) fun xs H Q ⟨ρ, st, ds, rs, h, p⟩ => by
  unfold listD at p
  split at p
  · obtain ⟨x, rfl, h1⟩ := rds_one h
    split at p
    · rename_i kvs e
      split at p
      · rename_i hk
        simp only [RD] at h1
        obtain ⟨a, rfl, ha⟩ := h1
        rcases rs.ob _ a _ ha e with ⟨ks, q, r⟩ | ⟨⟨ks, q, r⟩, ne⟩
        · refine .inl (.inr ⟨a, ks, rfl, q, fun l hl => ?_⟩)
          obtain ⟨a1, a2⟩ := newLst rs (rkv_keys r) hl
          exact p _ _ _ (Ext.push hl) a1 a2
        · exact absurd (rkt_nil r hk).1 ne
      · exact p.elim
    · split at p
      · rename_i ds e
        obtain ⟨a, vs, rfl, _, hq, r⟩ := seq_at rs h1 e
        refine .inl (.inl ⟨a, vs, rfl, .inl hq, fun l hl => ?_⟩)
        obtain ⟨a1, a2⟩ := newLst rs r hl
        exact p _ _ _ (Ext.push hl) a1 a2
      · exact p.elim
  · obtain ⟨x, rfl, h1⟩ := rds_one h
    obtain ⟨a, vs, rfl, hq, r⟩ := tup_at h1 rfl
    refine .inl (.inl ⟨a, vs, rfl, .inr hq, fun l hl => ?_⟩)
    obtain ⟨a1, a2⟩ := newLst rs r hl
    exact p _ _ _ (Ext.push hl) a1 a2
  · obtain ⟨x, rfl, h1⟩ := rds_one h
    simp only [RD] at h1
    split at p
    · rename_i hz
      refine .inr ⟨_, by rw [h1], hz, fun l hl => ?_⟩
      obtain ⟨a1, a2⟩ := newLst rs (rds_chars _) hl
      exact p _ _ _ (Ext.push hl) a1 a2
    · exact p.elim
  · exact p.elim
/-! ints, bools of a list -/
omit [Tb] in
omit [Tb] in
def intsOf : List D → Option (List Int)
  | [] => some []
  | .int i :: ds => (match intsOf ds with | some is => some (i :: is) | none => none)
  | _ => none
omit [Tb] in
omit [Tb] in
def bsOf : List D → Option (List Bool)
  | [] => some []
  | .bl i :: ds => (match bsOf ds with | some is => some (i :: is) | none => none)
  | _ => none
omit [Tb] in
omit [Tb] in
def strsOf : List D → Option (List Str)
  | [] => some []
  | .str i :: ds => (match strsOf ds with | some is => some (i :: is) | none => none)
  | _ => none
theorem intsOf_at {K : PySem.W.Frag} {mg : Str → Option Value} {ρ : List Addr} {H : Hp} : ∀ {ds : List D} {vs : List V} {is : List Int}, RDs K mg ρ H ds vs → intsOf ds = some is → vs = is.map V.int
  | [], _, _, h, e => by simp only [RDs] at h; subst h; cases e; rfl
  | .int i :: ds, _, _, h, e => by
    obtain ⟨x, xs, rfl, h1, h2⟩ := h.uncons
    simp only [intsOf] at e
    split at e
    · rename_i is e2
      cases e
      simp only [RD] at h1
      rw [h1, intsOf_at h2 e2]
      rfl
    · cases e
  | .non :: _, _, _, _, e => by cases e
  | .bl _ :: _, _, _, _, e => by cases e
  | .str _ :: _, _, _, _, e => by cases e
  | .tup _ :: _, _, _, _, e => by cases e
  | .kt _ :: _, _, _, _, e => by cases e
  | .kl _ :: _, _, _, _, e => by cases e
  | .ref _ :: _, _, _, _, e => by cases e
  | .gl _ :: _, _, _, _, e => by cases e
theorem bsOf_at {K : PySem.W.Frag} {mg : Str → Option Value} {ρ : List Addr} {H : Hp} : ∀ {ds : List D} {vs : List V} {is : List Bool}, RDs K mg ρ H ds vs → bsOf ds = some is → vs = is.map V.bl
  | [], _, _, h, e => by simp only [RDs] at h; subst h; cases e; rfl
  | .bl i :: ds, _, _, h, e => by
    obtain ⟨x, xs, rfl, h1, h2⟩ := h.uncons
    simp only [bsOf] at e
    split at e
    · rename_i is e2
      cases e
      simp only [RD] at h1
      rw [h1, bsOf_at h2 e2]
      rfl
    · cases e
  | .non :: _, _, _, _, e => by cases e
  | .int _ :: _, _, _, _, e => by cases e
  | .str _ :: _, _, _, _, e => by cases e
  | .tup _ :: _, _, _, _, e => by cases e
  | .kt _ :: _, _, _, _, e => by cases e
  | .kl _ :: _, _, _, _, e => by cases e
  | .ref _ :: _, _, _, _, e => by cases e
  | .gl _ :: _, _, _, _, e => by cases e
theorem strsOf_at {K : PySem.W.Frag} {mg : Str → Option Value} {ρ : List Addr} {H : Hp} : ∀ {ds : List D} {vs : List V} {is : List Str}, RDs K mg ρ H ds vs → strsOf ds = some is → vs = is.map V.str
  | [], _, _, h, e => by simp only [RDs] at h; subst h; cases e; rfl
  | .str i :: ds, _, _, h, e => by
    obtain ⟨x, xs, rfl, h1, h2⟩ := h.uncons
    simp only [strsOf] at e
    split at e
    · rename_i is e2
      cases e
      simp only [RD] at h1
      rw [h1, strsOf_at h2 e2]
      rfl
    · cases e
  | .non :: _, _, _, _, e => by cases e
  | .int _ :: _, _, _, _, e => by cases e
  | .bl _ :: _, _, _, _, e => by cases e
  | .tup _ :: _, _, _, _, e => by cases e
  | .kt _ :: _, _, _, _, e => by cases e
  | .kl _ :: _, _, _, _, e => by cases e
  | .ref _ :: _, _, _, _, e => by cases e
  | .gl _ :: _, _, _, _, e => by cases e
omit [Tb] in
omit [Tb] in
def sumD : List D → Store → Option (D × Store)
  | [.ref n], st => (match getL st n with | some ds => (match intsOf ds with | some is => some (.int is.sum, st) | none => none) | none => none)
  | _, _ => none
theorem ok_sum (hc : X.calm = true) : CallR X (.builtin "sum") (rN X.K X.mg sumD) := CallR.imp (cr_sum hc) fun xs H Q ⟨ρ, st, ds, rs, h, p⟩ => by
  unfold sumD at p
  split at p
  · obtain ⟨x, rfl, h1⟩ := rds_one h
    split at p
    · rename_i ds e
      split at p
      · rename_i is e2
        obtain ⟨a, vs, rfl, _, hq, r⟩ := seq_at rs h1 e
        exact ⟨a, is, rfl, by rw [← intsOf_at r e2]; exact hq, p.here rs rd_int⟩
      · exact p.elim
    · exact p.elim
  · exact p.elim
omit [Tb] in
omit [Tb] in
def anyD : List D → Store → Option (D × Store)
  | [.ref n], st => (match getL st n with | some ds => (match bsOf ds with | some is => some (.bl (is.any id), st) | none => none) | none => none)
  | _, _ => none
omit [Tb] in
omit [Tb] in
def allD : List D → Store → Option (D × Store)
  | [.ref n], st => (match getL st n with | some ds => (match bsOf ds with | some is => some (.bl (is.all id), st) | none => none) | none => none)
  | _, _ => none
theorem ok_any (hc : X.calm = true) : CallR X (.builtin "any") (rN X.K X.mg anyD) := CallR.imp (cr_any hc) fun xs H Q ⟨ρ, st, ds, rs, h, p⟩ => by
  unfold anyD at p
  split at p
  · obtain ⟨x, rfl, h1⟩ := rds_one h
    split at p
    · rename_i ds e
      split at p
      · rename_i is e2
        obtain ⟨a, vs, rfl, _, hq, r⟩ := seq_at rs h1 e
        exact ⟨a, is, rfl, by rw [← bsOf_at r e2]; exact hq, p.here rs rd_bl⟩
      · exact p.elim
    · exact p.elim
  · exact p.elim
theorem ok_all (hc : X.calm = true) : CallR X (.builtin "all") (rN X.K X.mg allD) := CallR.imp (cr_all hc) fun xs H Q ⟨ρ, st, ds, rs, h, p⟩ => by
  unfold allD at p
  split at p
  · obtain ⟨x, rfl, h1⟩ := rds_one h
    split at p
    · rename_i ds e
      split at p
      · rename_i is e2
        obtain ⟨a, vs, rfl, _, hq, r⟩ := seq_at rs h1 e
        exact ⟨a, is, rfl, by rw [← bsOf_at r e2]; exact hq, p.here rs rd_bl⟩
      · exact p.elim
    · exact p.elim
  · exact p.elim
/-! max, min: two ints, a list or tuple of ints -/
omit [Tb] in
omit [Tb] in
def maxI : Int → List Int → Int := List.foldl max
omit [Tb] in
omit [Tb] in
def minI : Int → List Int → Int := List.foldl min
omit [Tb] in
omit [Tb] in
def maxD' : List D → Store → Option (D × Store)
  | [.int i, .int j], st => some (.int (max i j), st)
  | [d], st => (match seqOf d st with | some ds => (match intsOf ds with | some (i :: is) => some (.int (maxI i is), st) | _ => none) | none => none)
  | _, _ => none
omit [Tb] in
omit [Tb] in
def minD' : List D → Store → Option (D × Store)
  | [.int i, .int j], st => some (.int (min i j), st)
  | [d], st => (match seqOf d st with | some ds => (match intsOf ds with | some (i :: is) => some (.int (minI i is), st) | _ => none) | none => none)
  | _, _ => none
theorem maxI_mem : ∀ (is : List Int) (i : Int), maxI i is ∈ i :: is ∧ ∀ y ∈ i :: is, y ≤ maxI i is
  | [], i => ⟨by simp [maxI], fun y hy => by simp at hy; subst hy; exact Int.le_refl _⟩
  | j :: is, i => by
    obtain ⟨h1, h2⟩ := maxI_mem is (max i j)
    have e : maxI i (j :: is) = maxI (max i j) is := rfl
    rw [e]
    refine ⟨?_, fun y hy => ?_⟩
    · rcases List.mem_cons.mp h1 with h | h
      · rw [h]
        rcases Int.le_total i j with z | z
        · rw [Int.max_eq_right z]; simp
        · rw [Int.max_eq_left z]; simp
      · exact List.mem_cons_of_mem _ (List.mem_cons_of_mem _ h)
    · have h3 := h2 (max i j) List.mem_cons_self
      rcases List.mem_cons.mp hy with rfl | hy
      · exact Int.le_trans (Int.le_max_left _ _) h3
      · rcases List.mem_cons.mp hy with rfl | hy
        · exact Int.le_trans (Int.le_max_right _ _) h3
        · exact h2 y (List.mem_cons_of_mem _ hy)
theorem minI_mem : ∀ (is : List Int) (i : Int), minI i is ∈ i :: is ∧ ∀ y ∈ i :: is, minI i is ≤ y
  | [], i => ⟨by simp [minI], fun y hy => by simp at hy; subst hy; exact Int.le_refl _⟩
  | j :: is, i => by
    obtain ⟨h1, h2⟩ := minI_mem is (min i j)
    have e : minI i (j :: is) = minI (min i j) is := rfl
    rw [e]
    refine ⟨?_, fun y hy => ?_⟩
    · rcases List.mem_cons.mp h1 with h | h
      · rw [h]
        rcases Int.le_total i j with z | z
        · rw [Int.min_eq_left z]; simp
        · rw [Int.min_eq_right z]; simp
      · exact List.mem_cons_of_mem _ (List.mem_cons_of_mem _ h)
    · have h3 := h2 (min i j) List.mem_cons_self
      rcases List.mem_cons.mp hy with rfl | hy
      · exact Int.le_trans h3 (Int.min_le_left _ _)
      · rcases List.mem_cons.mp hy with rfl | hy
        · exact Int.le_trans h3 (Int.min_le_right _ _)
        · exact h2 y (List.mem_cons_of_mem _ hy)
/-- max of a tuple of ints -/
theorem reads_ints {h : Heap} : ∀ {its : List Value} {is : List Int}, Vals (is.map V.int) its → ∃ as, ReadsAll h its (is.map PyData.int) as
  | [], [], _ => ⟨[], .nil⟩
  | _ :: _, [], r => by cases r
  | [], _ :: _, r => by cases r
  | u :: its, i :: is, r => by
    cases r with
    | cons r t =>
      obtain ⟨as, q⟩ := reads_ints (h := h) t
      obtain ⟨t', rfl⟩ := r
      exact ⟨[] ++ as, .cons (.int i t') q⟩
theorem alike_ints (is : List Int) : PySem.W.AlikeAll (is.map PyData.int) := by
  refine ⟨fun x hx y hy => ?_, fun x hx => ?_⟩
  · obtain ⟨i, _, rfl⟩ := List.mem_map.mp hx
    obtain ⟨j, _, rfl⟩ := List.mem_map.mp hy
    simp [PySem.W.alike]
  · obtain ⟨i, _, rfl⟩ := List.mem_map.mp hx
    simp
theorem depth_ints (is : List Int) : PyData.depthAll (is.map PyData.int) = 0 := PySem.W.depth_ints is
omit [Tb] in
omit [Tb] in
def rMaxT (K : PySem.W.Frag) : List V → Hp → VK → Prop := fun xs H Q => ∃ a i is, xs = [.ref a] ∧ SqT K H a ((i :: is).map V.int) ∧ Q (.int (maxI i is)) H
omit [Tb] in
omit [Tb] in
def rMinT (K : PySem.W.Frag) : List V → Hp → VK → Prop := fun xs H Q => ∃ a i is, xs = [.ref a] ∧ SqT K H a ((i :: is).map V.int) ∧ Q (.int (minI i is)) H
theorem cr_maxT (hc : X.calm = true) (hu : X.A.units + 1 < cLine) : CallR X (.builtin "max") (rMaxT X.K) := by
  intro pins s σ H xs us Q I r ⟨a, i, is, ex, hq, q⟩
  subst ex
  obtain ⟨u, rfl, ru⟩ := vals1 r
  cases ru
  obtain ⟨its, rv, p1, _⟩ := I.tuple hq
  obtain ⟨as, hr⟩ := reads_ints (h := s.heap) rv
  refine PySem.W.max_tuple_data (I.ok.hd hc) (show s.heap.IsTuple a its.toArray from p1) (x := .int i) (xs := is.map .int) (as := as) (by simpa using hr) (alike_ints (i :: is)) (by rw [show PyData.int i :: is.map PyData.int = (i :: is).map PyData.int from rfl, depth_ints]; exact hu) fun j v h' tk bs hv hb hk => ?_
  rw [PySem.W.maxD_ints] at hb
  cases hb
  exact ⟨.int _, H, I.kept hk, ⟨_, rfl⟩, q⟩
theorem cr_minT (hc : X.calm = true) (hu : X.A.units + 1 < cLine) : CallR X (.builtin "min") (rMinT X.K) := by
  intro pins s σ H xs us Q I r ⟨a, i, is, ex, hq, q⟩
  subst ex
  obtain ⟨u, rfl, ru⟩ := vals1 r
  cases ru
  obtain ⟨its, rv, p1, _⟩ := I.tuple hq
  obtain ⟨as, hr⟩ := reads_ints (h := s.heap) rv
  refine PySem.W.min_tuple_data (I.ok.hd hc) (show s.heap.IsTuple a its.toArray from p1) (x := .int i) (xs := is.map .int) (as := as) (by simpa using hr) (alike_ints (i :: is)) (by rw [show PyData.int i :: is.map PyData.int = (i :: is).map PyData.int from rfl, depth_ints]; exact hu) fun j v h' tk bs hv hb hk => ?_
  rw [PySem.W.minD_ints] at hb
  cases hb
  exact ⟨.int _, H, I.kept hk, ⟨_, rfl⟩, q⟩
theorem ok_max (hc : X.calm = true) (hu : X.A.units + 1 < cLine) : CallR X (.builtin "max") (rN X.K X.mg maxD') := CallR.imp ((call_max2 hc).or ((cr_max hc).or (cr_maxT hc hu))) fun xs H Q ⟨ρ, st, ds, rs, h, p⟩ => by
  unfold maxD' at p
  split at p
  · rename_i i j
    obtain ⟨x, y, rfl, h1, h2⟩ := rds_two h
    simp only [RD] at h1 h2
    refine .inl ⟨i, j, by rw [h1, h2], ?_⟩
    have e : (if j > i then j else i) = max i j := by
      rw [Int.max_def]
      split <;> split <;> omega
    rw [e]
    exact p.here rs rd_int
  · rename_i d _
    obtain ⟨x, rfl, h1⟩ := rds_one h
    split at p
    · rename_i ds e
      split at p
      · rename_i i is e2
        obtain ⟨a, vs, rfl, hq, r⟩ := seqOf_at rs h1 e
        have ev := intsOf_at r e2
        rcases hq with hq | hq
        · obtain ⟨m1, m2⟩ := maxI_mem is i
          refine .inr (.inl ⟨a, i :: is, rfl, by rw [← ev]; exact hq, by simp, fun m hm hle => ?_⟩)
          have e3 : m = maxI i is := Int.le_antisymm (m2 m hm) (hle _ m1)
          rw [e3]
          exact p.here rs rd_int
        · exact .inr (.inr ⟨a, i, is, rfl, by rw [← ev]; exact hq, p.here rs rd_int⟩)
      · exact p.elim
    · exact p.elim
  · exact p.elim
theorem ok_min (hc : X.calm = true) (hu : X.A.units + 1 < cLine) : CallR X (.builtin "min") (rN X.K X.mg minD') := CallR.imp ((call_min2 hc).or ((cr_min hc).or (cr_minT hc hu))) fun xs H Q ⟨ρ, st, ds, rs, h, p⟩ => by
  unfold minD' at p
  split at p
  · rename_i i j
    obtain ⟨x, y, rfl, h1, h2⟩ := rds_two h
    simp only [RD] at h1 h2
    refine .inl ⟨i, j, by rw [h1, h2], ?_⟩
    have e : (if j < i then j else i) = min i j := by
      rw [Int.min_def]
      split <;> split <;> omega
    rw [e]
    exact p.here rs rd_int
  · rename_i d _
    obtain ⟨x, rfl, h1⟩ := rds_one h
    split at p
    · rename_i ds e
      split at p
      · rename_i i is e2
        obtain ⟨a, vs, rfl, hq, r⟩ := seqOf_at rs h1 e
        have ev := intsOf_at r e2
        rcases hq with hq | hq
        · obtain ⟨m1, m2⟩ := minI_mem is i
          refine .inr (.inl ⟨a, i :: is, rfl, by rw [← ev]; exact hq, by simp, fun m hm hle => ?_⟩)
          have e3 : m = minI i is := Int.le_antisymm (hle _ m1) (m2 m hm)
          rw [e3]
          exact p.here rs rd_int
        · exact .inr (.inr ⟨a, i, is, rfl, by rw [← ev]; exact hq, p.here rs rd_int⟩)
      · exact p.elim
    · exact p.elim
  · exact p.elim
end
end Py

set_option Elab.async false
set_option linter.all false
set_option maxRecDepth 100000
set_option maxHeartbeats 1000000
namespace Py
open L2 PySem PySem.Spec PyProof.Rows
variable [Tb]
section
variable {K : PySem.W.Frag} {mg : Str → Option Value} {ρ : List Addr} {H : Hp}
/-- any object that stands untold is told -/
theorem RS.adoptO {st : Store} {p : Addr} {o : O} (h : RS K mg ρ H st) (hp : p ∉ ρ) (r : RO K mg ρ H p o) : RS K mg (ρ ++ [p]) H (st ++ [o]) := by
  refine ⟨by simp [h.len], List.nodup_append.mpr ⟨h.nd, by simp, fun a ha b hb => by simp at hb; subst hb; intro z; subst z; exact hp ha⟩, fun n a u e1 e2 => ?_, h.tb⟩
  by_cases hn : n < ρ.length
  · rw [List.getElem?_append_left hn] at e1
    rw [List.getElem?_append_left (by rw [← h.len]; exact hn)] at e2
    have q := h.ob n a u e1 e2
    exact q.cut q.low fun m hm => List.getElem?_append_left hm
  · have hn' : n = ρ.length := by
      have := (List.getElem?_eq_some_iff.mp e1).1
      simp at this
      omega
    subst hn'
    simp at e1
    rw [h.len] at e2
    simp at e2
    subst e1; subst e2
    exact r.cut r.low fun m hm => List.getElem?_append_left hm
omit [Tb] in
omit [Tb] in
theorem Ext.adopt {ρ' : List Addr} {H' : Hp} {p : Addr} (x : Ext K ρ H ρ' H') (h0 : H p = none) : Ext K ρ H (ρ' ++ [p]) H' :=
  ⟨fun n a q => by rw [List.getElem?_append_left (List.getElem?_eq_some_iff.mp (x.pre n a q)).1]; exact x.pre n a q, x.tup, x.frm', (fun a ha na => by
    rcases List.mem_append.mp ha with ha | ha
    · exact x.new_ a ha na
    · simp at ha; subst ha; exact .inl h0)⟩
end
section
variable {X : Cx} {W : WX} {pos : Pos}
/-! ### dict comprehensions -/
omit [Tb] in
omit [Tb] in
noncomputable def dcB (tg : Tg) (mt : Py.Loc → Store → R Bool) (mk mv : Py.Loc → Store → R D) (d : D) (e : Py.Loc) (st : Store) : R (Option (D × D)) :=
  match bindE tg d e with
  | none => .stuck
  | some e1 => match mt e1 st with
    | .ok false st1 => .ok none (gc st .non st1).2
    | .ok true st1 => (match mk e1 st1 with
      | .ok k st2 => (match keyD k with
        | some _ => (match mv e1 st2 with
          | .ok y st3 => .ok (some (k, (gc st y st3).1)) (gc st y st3).2
          | _ => .stuck)
        | none => .stuck)
      | _ => .stuck)
    | _ => .stuck
omit [Tb] in
omit [Tb] in
def putO (acc : List (D × D)) : Option (D × D) → List (D × D)
  | none => acc
  | some (k, v) => (match keyD k with | some q => putD acc k (.inl q) v | none => acc)
omit [Tb] in
omit [Tb] in
open Classical in
noncomputable def dcL (still : Store → Prop) (b : D → Store → R (Option (D × D))) : List D → List (D × D) → Store → R (List (D × D))
  | [], acc, st => if still st then .ok acc st else .stuck
  | d :: ds, acc, st => if still st then (b d st).bind fun o st => dcL still b ds (putO acc o) st else .stuck
omit [Tb] in
omit [Tb] in
noncomputable def mDc (mi : Py.Loc → Store → R Iter) (tg : Tg) (mt : Py.Loc → Store → R Bool) (mk mv : Py.Loc → Store → R D) (vs : List Nat) : Py.Loc → Store → R D := fun e st =>
  (mi e st).bind fun it st => if it.items.length ≤ sizeLine then (dcL it.still (fun d st => dcB tg mt mk mv d (wipeE e vs) st) it.items [] st).bind fun ds st => .ok (.ref st.length) (st ++ [.dict ds]) else .stuck
omit [Tb] in
omit [Tb] in
theorem putD_len (kvs : List (D × D)) (i : D) (k : DKey) (v : D) : (putD kvs i k v).length ≤ kvs.length + 1 := by
  unfold putD
  split
  · simp
  · simp
theorem dc_of {mi : Py.Loc → Store → R Iter} {tg : Tg} {mt : Py.Loc → Store → R Bool} {mk mv : Py.Loc → Store → R D} {vs : List Nat} (hs : ∀ i ∈ tg.slots, i ∈ vs) (σ : L2.St) (H : Hp) (Q : VK) (h : tG X.K X.mg (RD X.K X.mg) W (mDc mi tg mt mk mv vs) σ H Q) :
    tDc (tG X.K X.mg (RI X.K X.mg) W mi) (gTg X.K tg) (tG X.K X.mg RB W0 mt) (tG X.K X.mg (RD X.K X.mg) W0 mk) (tG X.K X.mg (RD X.K X.mg) W0 mv) vs σ H Q := by
  obtain ⟨ρ, e, st, rs, re, p⟩ := h
  refine ⟨ρ, e, st, rs, re, (Post.bind p).imp fun J H1 ⟨it, ρ1, st1, x1, rs1, ri, p1⟩ => ?_⟩
  split at p1
  rotate_left
  · exact p1.elim
  rename_i hsz
  intro Dd hD
  have rew : RE X.K X.mg ρ1 H1 (wipe σ vs) (wipeE e vs) := (re.mono x1).wipe vs
  have hDn : Dd ∉ ρ1 := rs1.fresh hD
  generalize hbb : (fun d st => dcB tg mt mk mv d (wipeE e vs) st) = bb at p1
  refine ⟨fun i m H2 => i + m = it.items.length ∧ ∃ ρ2 st2 acc av, Ext X.K ρ1 H1 ρ2 H2 ∧ Dd ∉ ρ2 ∧ H2 Dd = some (.dK av) ∧ RKV X.K X.mg ρ2 H2 acc av ∧ acc.length ≤ i ∧ RS X.K X.mg ρ2 H2 st2 ∧
      Post X.K X.mg (RD X.K X.mg) W σ Q ρ1 H1 ((dcL it.still bb (it.items.drop i) acc st2).bind fun ds st => .ok (.ref st.length) (st ++ [.dict ds])),
    ⟨it.items.length, by omega, ρ1, st1, [], [], Ext.new hD, hDn, upd_same, .nil, Nat.le_refl _, rs1.tupnew hD, by simpa using p1⟩, fun i m H2 hW => ?_⟩
  obtain ⟨him, ρ2, st2, acc, av, xb, hd2, eD, ra, la, rs2, p2⟩ := hW
  by_cases hil : i < it.items.length
  · refine .inr ?_
    obtain ⟨d, hd⟩ : ∃ d, it.items[i]? = some d := ⟨_, List.getElem?_eq_getElem hil⟩
    rw [List.drop_eq_getElem_cons hil] at p2
    have ed : it.items[i] = d := by rw [List.getElem?_eq_getElem hil] at hd; exact Option.some.inj hd
    rw [ed] at p2
    unfold dcL at p2
    by_cases hst : it.still st2
    · rw [if_pos hst] at p2
      obtain ⟨a1, _⟩ := ri ρ2 H2 st2 xb.wk rs2 hst i
      obtain ⟨hgo, hy⟩ := a1 d hd
      refine ⟨hgo, fun H3 => ∃ ρ3 st3 acc' av', Ext X.K ρ1 H1 ρ3 H3 ∧ Dd ∉ ρ3 ∧ H3 Dd = some (.dK av') ∧ RKV X.K X.mg ρ3 H3 acc' av' ∧ acc'.length ≤ i + 1 ∧ RS X.K X.mg ρ3 H3 st3 ∧
          Post X.K X.mg (RD X.K X.mg) W σ Q ρ1 H1 ((dcL it.still bb (it.items.drop (i + 1)) acc' st3).bind fun ds st => .ok (.ref st.length) (st ++ [.dict ds])),
        fun H3 hN => ⟨m - 1, by omega, by omega, hN⟩, fun x H3 hyl => ?_⟩
      obtain ⟨xa, rsa, rda⟩ := hy x H3 hyl
      have eD3 : H3 Dd = some (.dK av) := xa.frm _ _ eD hd2
      rw [← hbb] at p2
      simp only [dcB] at p2
      cases hbd : bindE tg d (wipeE e vs) with
      | none => rw [hbd] at p2; exact p2.elim
      | some e1 =>
        rw [hbd] at p2
        simp only at p2
        have rew3 : RE X.K X.mg ρ2 H3 (wipe σ vs) (wipeE e vs) := (rew.mono xb).mono xa
        refine gTg_of hs rew3 rda hbd fun σ2 re2 hw2 => ⟨by rw [hw2]; exact wipe_wipe σ vs, ?_⟩
        refine ⟨ρ2, e1, st2, rsa, re2, ?_⟩
        cases hmt : mt e1 st2 with
        | ok k st4 =>
          rw [hmt] at p2
          intro ρ4 H4 k' x4 rs4 hk
          cases hk
          have eD4 : H4 Dd = some (.dK av) := x4.frm _ _ eD3 hd2
          cases k with
          | false =>
            rw [if_neg (by decide)]
            simp only at p2
            obtain ⟨ρ5, x5, rs5, _, _⟩ := gc_sound rsa x4 rs4 (d := .non) (v := .non) (by simp only [RD])
            have hD5 : Dd ∉ ρ5 := fun hm => by rcases x5.new_ Dd hm hd2 with this | ⟨_, this⟩ <;> rw [eD3] at this <;> cases this
            refine ⟨ρ5, _, acc, av, xb.trans (xa.trans x5), hD5, eD4, Paired.imp (fun _ _ q => ⟨q.1, q.2.mono (xa.trans x5)⟩) ra, by omega, rs5, ?_⟩
            simp only [R.bind_ok, putO] at p2
            rw [← hbb]
            exact p2
          | true =>
            rw [if_pos rfl]
            simp only at p2
            refine ⟨ρ4, e1, st4, rs4, re2.mono x4, ?_⟩
            cases hmk : mk e1 st4 with
            | ok kd st6 =>
              rw [hmk] at p2
              simp only at p2
              cases hkd : keyD kd with
              | none => rw [hkd] at p2; exact p2.elim
              | some kk =>
              rw [hkd] at p2
              simp only at p2
              intro ρ6 H6 kv x6 rs6 rdk
              refine ⟨ρ6, e1, st6, rs6, (re2.mono x4).mono x6, ?_⟩
              cases hme : mv e1 st6 with
              | ok y st5 =>
                rw [hme] at p2
                intro ρ5 H5 v x5 rs5 rd5
                have x46 := x4.trans (x6.trans x5)
                obtain ⟨ρ7, x7, rs7, rd7, _⟩ := gc_sound rsa x46 rs5 rd5
                have eD5 : H5 Dd = some (.dK av) := x46.frm _ _ eD3 hd2
                have hD7 : Dd ∉ ρ7 := fun hm => by rcases x7.new_ Dd hm hd2 with this | ⟨_, this⟩ <;> rw [eD3] at this <;> cases this
                have hm : ∀ xs, H5 Dd ≠ some (.tup xs) := fun xs r => by rw [eD5] at r; cases r
                refine ⟨av, kk, rd_key rdk hkd, eD5, by rw [← rkv_len ra]; omega, ρ7, _, putD acc kd (.inl kk) (gc st2 y st5).1, putK av kk v, (xb.trans (xa.trans x7)).beside hD hm, hD7, upd_same, ?_, Nat.le_trans (putD_len _ _ _ _) (by omega), rs7.beside hD7 hm ⟨_, eD5, .dK⟩, ?_⟩
                · exact rkv_put (Paired.imp (fun _ _ q => ⟨q.1, (q.2.mono (xa.trans x7)).mo (Wk.write hm)⟩) ra) hkd (rd7.mo (Wk.write hm))
                · rw [← hbb]
                  simp only [R.bind_ok, putO, hkd] at p2
                  exact p2
              | _ => rw [hme] at p2; exact p2.elim
            | _ => rw [hmk] at p2; exact p2.elim
        | _ => rw [hmt] at p2; exact p2.elim
    · rw [if_neg hst] at p2; exact p2.elim
  · refine .inl ?_
    rw [List.drop_of_length_le (by omega)] at p2
    unfold dcL at p2
    by_cases hst : it.still st2
    · rw [if_pos hst] at p2
      obtain ⟨_, a2⟩ := ri ρ2 H2 st2 xb.wk rs2 hst i
      refine ⟨a2 (List.getElem?_eq_none (by omega)), ?_⟩
      simp only [R.bind_ok] at p2
      refine p2 (ρ2 ++ [Dd]) H2 (.ref Dd) (xb.adopt hD) (rs2.adoptO hd2 (.inl ⟨av, eD, ra⟩)) ?_
      simp only [RD]
      exact ⟨Dd, rfl, by rw [← rs2.len]; simp⟩
    · rw [if_neg hst] at p2; exact p2.elim
/-! ### written dicts -/
omit [Tb] in
omit [Tb] in
def mPs : List ((Py.Loc → Store → R D) × (Py.Loc → Store → R D)) → Py.Loc → Store → R (List (D × D))
  | [] => fun _ st => .ok [] st
  | (mk, mv) :: r => fun e st => (mk e st).bind fun k st => (mv e st).bind fun v st => (mPs r e st).bind fun ps st => .ok ((k, v) :: ps) st
omit [Tb] in
omit [Tb] in
def RPs (K : PySem.W.Frag) (mg : Str → Option Value) : List Addr → Hp → List (D × D) → List (V × V) → Prop := fun ρ H ps qs => Paired (fun (p : D × D) (q : V × V) => RD K mg ρ H p.1 q.1 ∧ RD K mg ρ H p.2 q.2) ps qs
omit [Tb] in
omit [Tb] in
def foldP : List (D × D) → List (D × D) → Option (List (D × D))
  | acc, [] => some acc
  | acc, (k, v) :: r => (match keyD k with | some q => foldP (putD acc k (.inl q) v) r | none => none)
omit [Tb] in
omit [Tb] in
def mDisp (ms : List ((Py.Loc → Store → R D) × (Py.Loc → Store → R D))) : Py.Loc → Store → R D := fun e st => (mPs ms e st).bind fun ps st => if ps.length ≤ 15 then (match foldP [] ps with | some kvs => .ok (.ref st.length) (st ++ [.dict kvs]) | none => .stuck) else .stuck
theorem tPairs_of : ∀ (ms : List ((Py.Loc → Store → R D) × (Py.Loc → Store → R D))) (σ : L2.St) (H : Hp) (Q : List (V × V) → Hp → Prop), tG X.K X.mg (RPs X.K X.mg) W (mPs ms) σ H Q →
    tPairs (ms.map fun m => (tG X.K X.mg (RD X.K X.mg) W m.1, tG X.K X.mg (RD X.K X.mg) W m.2)) σ H Q
  | [], σ, H, Q, ⟨ρ, e, st, rs, re, p⟩ => p ρ H [] .refl rs .nil
  | (mk, mv) :: r, σ, H, Q, ⟨ρ, e, st, rs, re, p⟩ => by
    refine ⟨ρ, e, st, rs, re, (Post.bind p).imp fun x H1 ⟨k, ρ1, st1, x1, rs1, rd1, p1⟩ => ?_⟩
    refine ⟨ρ1, e, st1, rs1, re.mono x1, (Post.bind p1).imp fun y H2 ⟨v, ρ2, st2, x2, rs2, rd2, p2⟩ => ?_⟩
    refine tPairs_of r σ H2 _ ⟨ρ2, e, st2, rs2, re.mono (x1.trans x2), (Post.bind p2).imp fun ps H3 ⟨ds, ρ3, st3, x3, rs3, rd3, p3⟩ => ?_⟩
    exact p3 ρ3 H3 _ .refl rs3 (.cons ⟨rd1.mono (x2.trans x3), rd2.mono x3⟩ rd3)
theorem foldP_rel {K : PySem.W.Frag} {mg : Str → Option Value} {ρ : List Addr} {H : Hp} : ∀ {ps : List (D × D)} {qs : List (V × V)} {acc kvs : List (D × D)} {ak : List (Key × V)}, RPs K mg ρ H ps qs → RKV K mg ρ H acc ak → foldP acc ps = some kvs →
    ∃ ms : List (Key × V), qs = ms.map (fun kv => (kV kv.1, kv.2)) ∧ RKV K mg ρ H kvs (mergeK ak ms) ∧ ms.length = ps.length
  | _, _, acc, kvs, ak, .nil, ra, e => by cases e; exact ⟨[], rfl, ra, rfl⟩
  | (k, v) :: ps, (x, y) :: qs, acc, kvs, ak, .cons r t, ra, e => by
    simp only [foldP] at e
    split at e
    · rename_i q hq
      obtain ⟨ms, e1, e2, e3⟩ := foldP_rel t (rkv_put ra hq r.2) e
      have ex : x = kV q := rd_key r.1 hq
      exact ⟨(q, y) :: ms, by rw [e1, List.map_cons, ex], e2, by simp [e3]⟩
    · cases e
theorem se_disp {ks : List (Option Expr)} {vs : List Expr} {ms : List ((Py.Loc → Store → R D) × (Py.Loc → Store → R D))} (h : PPs X pos ks vs (ms.map fun m => (tG X.K X.mg (RD X.K X.mg) W m.1, tG X.K X.mg (RD X.K X.mg) W m.2)))
    (hall : ks.all (·.isSome) = true) (hl : ks.length = vs.length) (h0 : ks ≠ []) (h15 : ks.length ≤ 15) : SE X W (.Dict ks vs pos) (mDisp ms) :=
  PE.imp (pe_disp h hall hl h0 h15) fun σ H Q ⟨ρ, e, st, rs, re, p⟩ => by
    intro a ha
    have xn : Ext X.K ρ H ρ (upd H a (.dK [])) := Ext.new ha
    have hna : a ∉ ρ := rs.fresh ha
    refine tPairs_of ms σ _ _ ⟨ρ, e, st, rs.tupnew ha, re.mono xn, ?_⟩
    revert p
    simp only [mDisp]
    cases hm : mPs ms e st with
    | ok ps st1 =>
      intro p ρ1 H1 qs x1 rs1 rp
      simp only [R.bind_ok] at p
      split at p
      · rename_i h15'
        split at p
        · rename_i kvs hf
          have hd1 : a ∉ ρ1 := fun hz => by rcases x1.new_ a hz hna with this | ⟨_, this⟩ <;> rw [upd_same] at this <;> cases this
          have eD : H1 a = some (.dK []) := x1.frm _ _ upd_same hna
          obtain ⟨mm, e1, e2, e3⟩ := foldP_rel rp .nil hf
          have hmt : ∀ xs, H1 a ≠ some (.tup xs) := fun xs r => by rw [eD] at r; cases r
          refine ⟨eD, mm, e1, by rw [e3]; exact h15', ?_⟩
          have xx : Ext X.K ρ H ρ1 (upd H1 a (.dK (mergeK [] mm))) := (xn.trans x1).beside ha hmt
          refine p (ρ1 ++ [a]) _ (.ref a) (xx.adopt ha) ((rs1.beside hd1 hmt ⟨_, eD, .dK⟩).adoptO hd1 (.inl ⟨_, upd_same, Paired.imp (fun _ _ q => ⟨q.1, q.2.mo (Wk.write hmt)⟩) e2⟩)) ?_
          simp only [RD]
          exact ⟨a, rfl, by rw [← rs1.len]; simp⟩
        · exact p.elim
      · exact p.elim
    | ex c pl st1 => exact fun p ρ1 H1 cls dd x1 rs1 rx => p ρ1 H1 cls dd (xn.trans x1) rs1 rx
    | stuck => exact fun p => p
omit [Tb] in
omit [Tb] in
def mNewD : Py.Loc → Store → R D := fun _ st => .ok (.ref st.length) (st ++ [.dict []])
theorem se_newD : SE X W (.Dict [] [] pos) mNewD := PE.imp pe_dnewK fun σ H Q ⟨ρ, e, st, rs, re, p⟩ => by
  intro a ha
  refine p _ _ _ (Ext.push ha) (rs.push ha (.inl ⟨[], upd_same, .nil⟩)) ?_
  simp only [RD]
  exact ⟨a, rfl, by rw [← rs.len]; simp⟩
end
end Py

set_option Elab.async false
set_option linter.all false
set_option maxRecDepth 100000
set_option maxHeartbeats 1000000
namespace Py
open L2 PySem PySem.Spec PyProof.Rows
variable [Tb]
section
variable {X : Cx} {W : WX} {pos p : Pos} {a b e : Expr} {ma mb me : Py.Loc → Store → R D}
/-! ### list(range(..)), tuple(range(..)) -/
omit [Tb] in
omit [Tb] in
def RgO (a b : Int) : Prop := -(2 ^ 62) ≤ a ∧ a < 2 ^ 62 ∧ -(2 ^ 62) ≤ b ∧ b < 2 ^ 62 ∧ (b - a).toNat ≤ 2 ^ 24
omit [Tb] in
omit [Tb] in
def rgD (a b : Int) : List D := (List.range (b - a).toNat).map fun i => D.int (a + (i : Nat))
theorem rgD_rel {K : PySem.W.Frag} {mg : Str → Option Value} {ρ : List Addr} {H : Hp} (a b : Int) : RDs K mg ρ H (rgD a b) (rgV a b) := by
  unfold rgD rgV
  induction (List.range (b - a).toNat) with
  | nil => exact .nil
  | cons i r ih => exact .cons rd_int ih
omit [Tb] in
omit [Tb] in
abbrev RR : List Addr → Hp → Int × Int → Int × Int → Prop := fun _ _ a b => a = b
abbrev SR (X : Cx) (W : WX) (e : Expr) (m : Py.Loc → Store → R (Int × Int)) : Prop := PRg X e (fun σ H Q => tG X.K X.mg RR W m σ H (fun x H1 => Q x.1 x.2 H1))
omit [Tb] in
omit [Tb] in
def mR1 (ma : Py.Loc → Store → R D) : Py.Loc → Store → R (Int × Int) := fun e st => (ma e st).bind fun d st => match d with | .int n => .ok (0, n) st | _ => .stuck
omit [Tb] in
omit [Tb] in
def mR2 (ma mb : Py.Loc → Store → R D) : Py.Loc → Store → R (Int × Int) := fun e st => (ma e st).bind fun d st => (mb e st).bind fun d2 st => match d, d2 with | .int i, .int j => .ok (i, j) st | _, _ => .stuck
omit [Tb] in
omit [Tb] in
theorem PRg.imp {e : Expr} {t t' : L2.St → Hp → (Int → Int → Hp → Prop) → Prop} (h : PRg X e t) (f : ∀ σ H Q, t' σ H Q → t σ H Q) : PRg X e t' := fun pins s σ H Q I q => h pins s σ H Q I (f _ _ _ q)
theorem sr_1 (hg : Gl X "range") (hm : X.mg "range" = none) (ha : SE X W a ma) (na : noStar a = true) : SR X W (.Call (.Name "range" p) [a] [] pos) (mR1 ma) :=
  PRg.imp (prg_1 hg hm ha (noStar_ok na _ _)) fun σ H Q ⟨ρ, e, st, rs, re, p⟩ => by
    refine ⟨ρ, e, st, rs, re, (Post.bind p).imp fun x H1 ⟨d, ρ1, st1, x1, rs1, rd1, p1⟩ => ?_⟩
    cases d with
    | int n => simp only [RD] at rd1; exact ⟨n, rd1, p1 ρ1 H1 (0, n) .refl rs1 rfl⟩
    | _ => exact p1.elim
theorem sr_2 (hg : Gl X "range") (hm : X.mg "range" = none) (ha : SE X W a ma) (hb : SE X W b mb) (na : noStar a = true) (nb : noStar b = true) : SR X W (.Call (.Name "range" p) [a, b] [] pos) (mR2 ma mb) :=
  PRg.imp (prg_2 hg hm ha hb (noStar_ok na _ _) (noStar_ok nb _ _) (noStars_ok (es := [b]) (by simpa using nb) _ _)) fun σ H Q ⟨ρ, e, st, rs, re, p⟩ => by
    refine ⟨ρ, e, st, rs, re, (Post.bind p).imp fun x H1 ⟨d, ρ1, st1, x1, rs1, rd1, p1⟩ => ?_⟩
    refine ⟨ρ1, e, st1, rs1, re.mono x1, (Post.bind p1).imp fun y H2 ⟨d2, ρ2, st2, x2, rs2, rd2, p2⟩ => ?_⟩
    cases d with
    | int i =>
      cases d2 with
      | int j => simp only [RD] at rd1 rd2; exact ⟨i, j, rd1, rd2, p2 ρ2 H2 (i, j) .refl rs2 rfl⟩
      | _ => exact p2.elim
    | _ => exact p2.elim
omit [Tb] in
omit [Tb] in
open Classical in
noncomputable def mLstRg (m : Py.Loc → Store → R (Int × Int)) : Py.Loc → Store → R D := fun e st => (m e st).bind fun r st => if RgO r.1 r.2 then .ok (.ref st.length) (st ++ [.lst (rgD r.1 r.2)]) else .stuck
omit [Tb] in
omit [Tb] in
open Classical in
noncomputable def mTupRg (m : Py.Loc → Store → R (Int × Int)) : Py.Loc → Store → R D := fun e st => (m e st).bind fun r st => if RgO r.1 r.2 then .ok (.tup (rgD r.1 r.2)) st else .stuck
theorem se_lstRg {m : Py.Loc → Store → R (Int × Int)} (hc : X.calm = true) (hg : Gl X "list") (hm : X.mg "list" = none) (he : SR X W e m) (na : noStar e = true) : SE X W (.Call (.Name "list" p) [e] [] pos) (mLstRg m) :=
  PE.imp (pe_listRg hc hg hm he (noStar_ok na _ _)) fun σ H Q ⟨ρ, e, st, rs, re, p⟩ => by
    refine ⟨ρ, e, st, rs, re, (Post.bind p).imp fun x H1 ⟨d, ρ1, st1, x1, rs1, rd1, p1⟩ => ?_⟩
    cases rd1
    split at p1
    · rename_i hr
      refine ⟨hr, fun q hq => ?_⟩
      obtain ⟨a1, a2⟩ := newLst rs1 (rgD_rel x.1 x.2) hq
      exact p1 _ _ _ (Ext.push hq) a1 a2
    · exact p1.elim
theorem se_tupRg {m : Py.Loc → Store → R (Int × Int)} (hc : X.calm = true) (hg : Gl X "tuple") (hm : X.mg "tuple" = none) (he : SR X W e m) (na : noStar e = true) : SE X W (.Call (.Name "tuple" p) [e] [] pos) (mTupRg m) :=
  PE.imp (pe_tupRg hc hg hm he (noStar_ok na _ _)) fun σ H Q ⟨ρ, e, st, rs, re, p⟩ => by
    refine ⟨ρ, e, st, rs, re, (Post.bind p).imp fun x H1 ⟨d, ρ1, st1, x1, rs1, rd1, p1⟩ => ?_⟩
    cases rd1
    split at p1
    · rename_i hr
      refine ⟨hr, fun q hq => ?_⟩
      obtain ⟨a1, a2⟩ := newTup rs1 (rgD_rel x.1 x.2) hq
      exact p1 _ _ _ (Ext.new hq) a1 a2
    · exact p1.elim
/-! ### isinstance of built-in classes -/
omit [Tb] in
omit [Tb] in
def tyName (d : D) (st : Store) : Option String := match d with
  | .non => some "NoneType" | .bl _ => some "bool" | .int _ => some "int" | .str _ => some "str" | .tup _ => some "tuple"
  | .ref n => (match st[n]? with | some (.lst _) => some "list" | some (.frz _) => some "list" | some (.dict _) => some "dict" | _ => none)
  | _ => none
omit [Tb] in
omit [Tb] in
def isT (a b : String) : Bool := decide (a = b) || (decide (a = "bool") && decide (b = "int"))
theorem tyName_at {K : PySem.W.Frag} {mg : Str → Option Value} {ρ : List Addr} {H : Hp} {st : Store} {d : D} {x : V} {t : String} (rs : RS K mg ρ H st) (h : RD K mg ρ H d x) (e : tyName d st = some t) : TyX K H x (.type t) := by
  cases d with
  | non => cases e; simp only [RD] at h; subst h; exact .base .non
  | bl b => cases e; simp only [RD] at h; subst h; exact .base (.bl b)
  | int b => cases e; simp only [RD] at h; subst h; exact .base (.int b)
  | str b => cases e; simp only [RD] at h; subst h; exact .base (.str b)
  | tup ds => cases e; simp only [RD] at h; obtain ⟨a, xs, rfl, h1, _⟩ := h; exact .base (.tup h1)
  | ref n =>
    simp only [RD] at h
    obtain ⟨a, rfl, ha⟩ := h
    simp only [tyName] at e
    split at e
    · rename_i ds h'
      cases e
      obtain ⟨vs, h1, h2⟩ := rs.ob n a _ ha h'
      exact .base (.lst h1)
    · rename_i ds h'
      cases e
      obtain ⟨o, vs, h1, h2⟩ := rs.ob n a _ ha h'
      exact .base (.frz h1)
    · rename_i ds h'
      cases e
      rcases rs.ob n a _ ha h' with ⟨ks, q, r⟩ | ⟨⟨ks, q, r⟩, ne⟩
      · exact .base (.dK q)
      · exact .base (.dT q)
    · cases e
  | _ => cases e
omit [Tb] in
omit [Tb] in
def tyIn : List String := ["NoneType", "bool", "int", "str", "tuple", "list", "dict"]
omit [Tb] in
omit [Tb] in
def tyOf : List String := ["bool", "int", "str", "tuple", "list", "dict"]
omit [Tb] in
omit [Tb] in
theorem kitAll : ∀ t ∈ tyIn, ∀ c ∈ tyOf, kitB t c = some (isT t c) := by decide +kernel
omit [Tb] in
omit [Tb] in
theorem tyName_in {d : D} {st : Store} {t : String} (e : tyName d st = some t) : t ∈ tyIn := by
  unfold tyName at e
  split at e
  · cases e; decide
  · cases e; decide
  · cases e; decide
  · cases e; decide
  · cases e; decide
  · split at e
    · cases e; decide
    · cases e; decide
    · cases e; decide
    · cases e
  · cases e
omit [Tb] in
omit [Tb] in
def mIsi (ma : Py.Loc → Store → R D) (cs : List String) : Py.Loc → Store → R D := fun e st => (ma e st).bind fun d st => match tyName d st with | some t => .ok (.bl (cs.any fun c => isT t c)) st | none => .stuck
omit [Tb] in
omit [Tb] in
/-- a name of a built-in class -/
def TyNm (X : Cx) (e : Expr) (c : String) : Prop := ∃ p, e = .Name (Str.ofString c) p ∧ c ∈ tyOf ∧ Gl X (Str.ofString c) ∧ X.mg (Str.ofString c) = none
omit [Tb] in
omit [Tb] in
theorem boot_ty : ∀ c ∈ tyOf, bootBuiltins (Str.ofString c) = some (.type c) ∧ Str.ofString c ≠ "__name__" ∧ (Str.ofString c == ("__debug__" : Str)) = false := by decide +kernel
omit [Tb] in
omit [Tb] in
theorem TyNm.pe {e : Expr} {c : String} (h : TyNm X e c) : PE X e (tC (.ty c)) := by
  obtain ⟨p, rfl, hc, hg, hm⟩ := h
  obtain ⟨h1, h2, h3⟩ := boot_ty c hc
  exact pe_bltn hg hm h1 rfl h2 h3
omit [Tb] in
omit [Tb] in
theorem TyNm.ns {e : Expr} {c : String} (h : TyNm X e c) : noStar e = true := by obtain ⟨p, rfl, _⟩ := h; rfl
theorem se_isi {c : Expr} {cn : String} (hg : Gl X "isinstance") (hm : X.mg "isinstance" = none) (ha : SE X W a ma) (hc : TyNm X c cn) (na : noStar a = true) : SE X W (.Call (.Name "isinstance" p) [a, c] [] pos) (mIsi ma [cn]) :=
  PE.imp (pe_callB call_isi hg hm (by decide +kernel) (pa_cons ha (pa_cons hc.pe pa_nil (noStar_ok hc.ns _ _)) (noStar_ok na _ _)) (by decide) (by decide) (noStar_ok na _ _) (noStars_ok (es := [c]) (by simpa using hc.ns) _ _)) fun σ H Q ⟨ρ, e, st, rs, re, p⟩ => by
    refine ⟨ρ, e, st, rs, re, (Post.bind p).imp fun x H1 ⟨d, ρ1, st1, x1, rs1, rd1, p1⟩ => ?_⟩
    split at p1
    · rename_i t ht
      obtain ⟨_, _, hcn, _, _⟩ := hc
      refine ⟨x, .ty cn, .type t, .type cn, isT t cn, rfl, .ty cn, tyName_at rs1 rd1 ht, kit_ty (kitAll t (tyName_in ht) cn hcn), ?_⟩
      have := p1 ρ1 H1 (.bl (isT t cn)) .refl rs1 (by simpa using rd_bl)
      exact this
    · exact p1.elim
theorem kitAny_ty {K : PySem.W.Frag} {t : String} (ht : t ∈ tyIn) : ∀ cs : List String, (∀ c ∈ cs, c ∈ tyOf) → PySem.W.kitAny K (.type t) (cs.map .type) = some (cs.any fun c => isT t c)
  | [], _ => rfl
  | c :: cs, h => by
    refine kitAny_cons (kit_ty (kitAll t ht c (h c List.mem_cons_self))) (fun hb => ?_) fun hb => ?_
    · rw [kitAny_ty ht cs fun x hx => h x (List.mem_cons_of_mem _ hx), List.any_cons, hb, Bool.false_or]
    · rw [List.any_cons, hb, Bool.true_or]
omit [Tb] in
omit [Tb] in
def TyNms (X : Cx) : List Expr → List String → Prop
  | [], [] => True
  | e :: es, c :: cs => TyNm X e c ∧ TyNms X es cs
  | _, _ => False
omit [Tb] in
omit [Tb] in
def tTys (cs : List String) : TA := fun _ H Q => Q (cs.map V.ty) H
theorem TyNms.pa : ∀ {es : List Expr} {cs : List String}, TyNms X es cs → PA X es (tTys cs)
  | [], [], _ => PA.imp pa_nil fun _ _ _ h => h
  | e :: es, c :: cs, h => PA.imp (pa_cons h.1.pe (TyNms.pa h.2) (noStar_ok h.1.ns _ _)) fun _ _ _ h => h
  | [], _ :: _, h => h.elim
  | _ :: _, [], h => h.elim
theorem TyNms.all : ∀ {es : List Expr} {cs : List String}, TyNms X es cs → ∀ c ∈ cs, c ∈ tyOf
  | [], [], _ => fun c hc => by cases hc
  | e :: es, c :: cs, h => fun x hx => by
    rcases List.mem_cons.mp hx with rfl | hx
    · obtain ⟨_, _, hc, _⟩ := h.1; exact hc
    · exact TyNms.all h.2 x hx
  | [], _ :: _, h => h.elim
  | _ :: _, [], h => h.elim
omit [Tb] in
omit [Tb] in
theorem pair_ty : ∀ cs : List String, Paired ClsV (cs.map V.ty) (cs.map Value.type)
  | [] => .nil
  | c :: cs => .cons (.ty c) (pair_ty cs)
theorem se_isiT {es : List Expr} {k : Nat} {pt : Pos} {cs : List String} (hg : Gl X "isinstance") (hm : X.mg "isinstance" = none) (ha : SE X W a ma) (hc : TyNms X es cs) (hl : cs.length ≤ 100) (na : noStar a = true) : SE X W (.Call (.Name "isinstance" p) [a, .Tuple es k pt] [] pos) (mIsi ma cs) :=
  PE.imp (pe_callB call_isiT hg hm (by decide +kernel) (pa_cons ha (pa_cons (pe_tup hc.pa) pa_nil (noStar_ok rfl _ _)) (noStar_ok na _ _)) (by decide) (by decide) (noStar_ok na _ _) (noStars_ok (es := [.Tuple es k pt]) rfl _ _)) fun σ H Q ⟨ρ, e, st, rs, re, p⟩ => by
    refine ⟨ρ, e, st, rs, re, (Post.bind p).imp fun x H1 ⟨d, ρ1, st1, x1, rs1, rd1, p1⟩ => ?_⟩
    split at p1
    · rename_i t ht
      refine ⟨by rw [List.length_map]; exact Nat.le_of_lt (small1000 (by omega)), fun q hq => ?_⟩
      have xn : Ext X.K ρ1 H1 ρ1 (upd H1 q (.tup (cs.map V.ty))) := Ext.new hq
      exact ⟨x, q, cs.map V.ty, .type t, cs.map .type, cs.any fun c => isT t c, rfl, upd_same, pair_ty cs, tyName_at (rs1.tupnew hq) (rd1.mono xn) ht, kitAny_ty (tyName_in ht) cs hc.all, p1 _ _ _ xn (rs1.tupnew hq) rd_bl⟩
    · exact p1.elim
/-! ### methods of lists, of texts -/
omit [Tb] in
omit [Tb] in
def noCall : Expr → Bool
  | .Call .. => false
  | _ => true
omit [Tb] in
omit [Tb] in
theorem attrB_ok {o : Expr} (h : noCall o = true) (n : Str) (env : PySem.Env) : attributeBase o n env (eval o env) = eval o env := by
  cases o with
  | Call => exact absurd h (by simp [noCall])
  | _ => rfl
omit [Tb] in
omit [Tb] in
def isLst (d : D) (st : Store) : Bool := match d with | .ref n => (match st[n]? with | some (.lst _) => true | _ => false) | _ => false
omit [Tb] in
omit [Tb] in
def mMt (f : D → List D → Store → Option (D × Store)) (mo : Py.Loc → Store → R D) (m : Py.Loc → Store → R (List D)) : Py.Loc → Store → R D := fun e st => (mo e st).bind fun o st => if isLst o st = true then (m e st).bind fun ds st => ofO (f o ds st) else .stuck
theorem isLst_ty {K : PySem.W.Frag} {mg : Str → Option Value} {ρ : List Addr} {H : Hp} {st : Store} {d : D} {x : V} (rs : RS K mg ρ H st) (h : RD K mg ρ H d x) (e : isLst d st = true) : tyV K "list" x H := by
  cases d with
  | ref n =>
    simp only [isLst] at e
    split at e
    · rename_i ds h'
      obtain ⟨a, vs, rfl, _, h1, h2⟩ := lst_at rs h h'
      exact .inl ⟨rfl, _, .of h1⟩
    · cases e
  | _ => cases e
theorem few_ok {e : Expr} (h : noStar e = true) (pos : Pos) (env : PySem.Env) : ((backTo pos (starEach [e] env)).all (fun x => !x.1) && (backToKw pos (keywordEach [] env)).all (fun x => x.1.isSome)
      && decide (([e] : List Expr).length + ([] : List Keyword).length + (if ([] : List Keyword).isEmpty then 0 else 1) < 30)) = true := by
  rw [noStar_ok h]
  rfl
theorem se_mtL {o : Expr} {name : Str} {id : String} {ap : Pos} {f : D → List D → Store → Option (D × Store)} {mo : Py.Loc → Store → R D} {m : Py.Loc → Store → R (List D)} (slot : Slot "list" name id) (hty : typeOf (.builtin id) = pure (.type "method_descriptor")) (hm : MtR X id (rM X.K X.mg f))
    (ho : SE X W o mo) (ha : SA X W [e] m) (hb : noCall o = true) (hs : noStar e = true) (hline : (ap.endLine == pos.line) = true) : SE X W (.Call (.Attribute o name ap) [e] [] pos) (mMt f mo m) := by
  exact PE.imp (pe_bm PySem.F.plainAttrs_list slot hty hm ho ha (attrB_ok hb _ _) (few_ok hs _ _) hline (noStar_ok hs _ _) (noStars_ok (es := []) rfl _ _)) fun σ H Q ⟨ρ, e, st, rs, re, p⟩ => by
    refine ⟨ρ, e, st, rs, re, (Post.bind p).imp fun x H1 ⟨d, ρ1, st1, x1, rs1, rd1, p1⟩ => ?_⟩
    split at p1
    · rename_i hl
      refine ⟨isLst_ty rs1 rd1 hl, ρ1, e, st1, rs1, re.mono x1, (Post.bind p1).imp fun y H2 ⟨d2, ρ2, st2, x2, rs2, rd2, p2⟩ => ?_⟩
      exact ⟨ρ2, st2, d, d2, rs2, rd1.mono x2, rd2, p2.toO⟩
    · exact p1.elim
theorem se_mtL0 {o : Expr} {name : Str} {id : String} {ap : Pos} {f : D → List D → Store → Option (D × Store)} {mo : Py.Loc → Store → R D} (slot : Slot "list" name id) (hty : typeOf (.builtin id) = pure (.type "method_descriptor")) (hm : MtR X id (rM X.K X.mg f))
    (ho : SE X W o mo) (hb : noCall o = true) (hline : (ap.endLine == pos.line) = true) : SE X W (.Call (.Attribute o name ap) [] [] pos) (mMt f mo mNil) :=
  PE.imp (pe_bm0 PySem.F.plainAttrs_list slot hty hm ho (attrB_ok hb _ _) hline) fun σ H Q ⟨ρ, e, st, rs, re, p⟩ => by
    refine ⟨ρ, e, st, rs, re, (Post.bind p).imp fun x H1 ⟨d, ρ1, st1, x1, rs1, rd1, p1⟩ => ?_⟩
    split at p1
    · rename_i hl
      refine ⟨isLst_ty rs1 rd1 hl, ?_⟩
      simp only [mNil, R.bind_ok] at p1
      exact ⟨ρ1, st1, d, [], rs1, rd1, .nil, p1.toO⟩
    · exact p1.elim
omit [Tb] in
omit [Tb] in
def appD : D → List D → Store → Option (D × Store)
  | .ref n, [d], st => (match st[n]? with | some (.lst ds) => if ds.length < sizeLine then some (.non, st.set n (.lst (ds ++ [d]))) else none | _ => none)
  | _, _, _ => none
theorem ok_app : MtR X "list.append" (rM X.K X.mg appD) := MtR.imp mt_append fun x xs H Q ⟨ρ, st, d, ds, rs, h1, h2, p⟩ => by
  unfold appD at p
  split at p
  · rename_i n d'
    split at p
    · rename_i ds' e
      split at p
      · rename_i hl
        obtain ⟨a, vs, rfl, ha, hH, r⟩ := lst_at rs h1 e
        obtain ⟨y, rfl, h3⟩ := rds_one h2
        refine ⟨a, vs, y, rfl, rfl, hH, by rw [← r.length]; exact hl, ?_⟩
        obtain ⟨w1, w2⟩ := rs.write ha (ho := .lst (vs ++ [y])) (o := .lst (ds' ++ [d'])) ⟨_, upd_same, ((r.append (.cons h3 .nil)).mo (Wk.write fun xs z => by rw [hH] at z; cases z))⟩
        exact p ρ _ _ w2 w1 rd_non
      · exact p.elim
    · exact p.elim
  · exact p.elim
omit [Tb] in
omit [Tb] in
def extD : D → List D → Store → Option (D × Store)
  | .ref n, [.ref m], st => (match st[n]?, st[m]? with | some (.lst ds), some (.lst es) => if ds.length + es.length ≤ sizeLine then some (.non, st.set n (.lst (ds ++ es))) else none | _, _ => none)
  | _, _, _ => none
theorem ok_ext : MtR X "list.extend" (rM X.K X.mg extD) := MtR.imp mt_extend fun x xs H Q ⟨ρ, st, d, ds, rs, h1, h2, p⟩ => by
  unfold extD at p
  split at p
  · rename_i n m
    split at p
    · rename_i ds' es' e e'
      split at p
      · rename_i hl
        obtain ⟨a, vs, rfl, ha, hH, r⟩ := lst_at rs h1 e
        obtain ⟨y, rfl, h3⟩ := rds_one h2
        obtain ⟨b, us, rfl, hb, hH2, r2⟩ := lst_at rs h3 e'
        refine ⟨a, b, vs, us, rfl, rfl, hH, hH2, by rw [← r.length, ← r2.length]; exact hl, ?_⟩
        obtain ⟨w1, w2⟩ := rs.write ha (ho := .lst (vs ++ us)) (o := .lst (ds' ++ es')) ⟨_, upd_same, ((r.append r2).mo (Wk.write fun xs z => by rw [hH] at z; cases z))⟩
        exact p ρ _ _ w2 w1 rd_non
      · exact p.elim
    · exact p.elim
  · exact p.elim
omit [Tb] in
omit [Tb] in
def popD : D → List D → Store → Option (D × Store)
  | .ref n, [], st => (match st[n]? with | some (.lst ds) => (match ds[ds.length - 1]? with | some d => some (d, st.set n (.lst ds.dropLast)) | none => none) | _ => none)
  | _, _, _ => none
omit [Tb] in
omit [Tb] in
theorem RDs.dropLast {K : PySem.W.Frag} {mg : Str → Option Value} {ρ : List Addr} {H : Hp} {ds : List D} {vs : List V} (h : RDs K mg ρ H ds vs) : RDs K mg ρ H ds.dropLast vs.dropLast := by
  rw [List.dropLast_eq_take, List.dropLast_eq_take, h.length]
  exact h.take _
theorem ok_pop : MtR X "list.pop" (rM X.K X.mg popD) := MtR.imp mt_pop fun x xs H Q ⟨ρ, st, d, ds, rs, h1, h2, p⟩ => by
  unfold popD at p
  split at p
  · rename_i n
    split at p
    · rename_i ds' e
      split at p
      · rename_i d' hd
        obtain ⟨a, vs, rfl, ha, hH, r⟩ := lst_at rs h1 e
        simp only [RDs] at h2
        subst h2
        obtain ⟨y, hy, ry⟩ := r.get hd
        have wk : Wk X.K ρ H ρ (upd H a (.lst vs.dropLast)) := Wk.write fun xs z => by rw [hH] at z; cases z
        refine ⟨a, vs, y, rfl, rfl, hH, by rw [← r.length]; exact hy, ?_⟩
        obtain ⟨w1, w2⟩ := rs.write ha (ho := .lst vs.dropLast) (o := .lst ds'.dropLast) ⟨_, upd_same, r.dropLast.mo wk⟩
        exact p ρ _ _ w2 w1 (ry.mo wk)
      · exact p.elim
    · exact p.elim
  · exact p.elim
omit [Tb] in
omit [Tb] in
/-- sep.join(xs) -/
def joinD : D → List D → Store → Option (D × Store)
  | .str z, [d], st => (match seqOf d st with | some ds => (match strsOf ds with | some ys => if (ys.map (·.length)).sum + ys.length * z.length ≤ 16777216 then some (.str (Txt.join z ys), st) else none | none => none) | none => none)
  | _, _, _ => none
theorem ok_join : MtR X "str.join" (rM X.K X.mg joinD) := MtR.imp mt_join fun x xs H Q ⟨ρ, st, d, ds, rs, h1, h2, p⟩ => by
  unfold joinD at p
  split at p
  · rename_i z d'
    obtain ⟨y, rfl, h3⟩ := rds_one h2
    simp only [RD] at h1
    split at p
    · rename_i ds' e
      split at p
      · rename_i ys e2
        split at p
        · rename_i hl
          obtain ⟨a, vs, rfl, hq, r⟩ := seqOf_at rs h3 e
          rw [strsOf_at r e2] at hq
          exact ⟨z, a, ys, h1, rfl, hq, hl, p.here rs rd_str⟩
        · exact p.elim
      · exact p.elim
    · exact p.elim
  · exact p.elim
omit [Tb] in
omit [Tb] in
def mMtS (f : D → List D → Store → Option (D × Store)) (mo ma : Py.Loc → Store → R D) : Py.Loc → Store → R D := fun e st => (mo e st).bind fun o st => match o with | .str z => (ma e st).bind fun d st => ofO (f (.str z) [d] st) | _ => .stuck
theorem se_mtS {o : Expr} {name : Str} {id : String} {ap : Pos} {f : D → List D → Store → Option (D × Store)} {mo : Py.Loc → Store → R D} (slot : Slot "str" name id) (hty : typeOf (.builtin id) = pure (.type "method_descriptor")) (hm : MtR X id (rM X.K X.mg f))
    (ho : SE X W o mo) (ha : SE X W a ma) (hb : noCall o = true) (hs : noStar a = true) (hline : (ap.endLine == pos.line) = true) : SE X W (.Call (.Attribute o name ap) [a] [] pos) (mMtS f mo ma) :=
  PE.imp (pe_m1 slot hty hm ho ha (noStar_ok hs [] _) (attrB_ok hb _ _) hline) fun σ H Q ⟨ρ, e, st, rs, re, p⟩ => by
    refine ⟨ρ, e, st, rs, re, (Post.bind p).imp fun x H1 ⟨d, ρ1, st1, x1, rs1, rd1, p1⟩ => ?_⟩
    cases d with
    | str z =>
      have g := rd1
      simp only [RD] at rd1
      refine ⟨⟨z, rd1⟩, ρ1, e, st1, rs1, re.mono x1, (Post.bind p1).imp fun y H2 ⟨d2, ρ2, st2, x2, rs2, rd2, p2⟩ => ?_⟩
      exact ⟨ρ2, st2, .str z, [d2], rs2, g.mono x2, .cons rd2 .nil, p2.toO⟩
    | _ => exact p1.elim
end
end Py

set_option Elab.async false
set_option linter.all false
set_option maxRecDepth 100000
set_option maxHeartbeats 1000000
/-! enumerate over a tuple, over a text -/
namespace PySem
theorem pyEnum1_meets {v : Value} {ob : Obj} {G : Heap → Prop} (B : Begins v ob G) : Meets (Builtin.«enumerate.__new__» ⟨[.type "enumerate", v], []⟩) (fun _ R s => G s.heap ∧
    R (.ok (.ret (.ref (s.heap.push ob).objs.size))) { s with heap := (s.heap.push ob).push { cls := .type "enumerate", data := .fields #[.none, .bool false, .ref s.heap.objs.size, rawInt 0, .none, .none] } }) := .of_wp fun prog w A R s h => by
  obtain ⟨hp, g, d, tk, os⟩ := s
  obtain ⟨h1, h⟩ := h
  have hsub := sub_enumerate
  have goIter : ∀ {A' : Around} {E : Value → Shared → Prop} {Q : Value → Shared → Prop}, Q (.ref hp.objs.size) ⟨hp.push ob, g, d, tk, os⟩ → wpAny (model prog w) A' (pyIter v) Q E ⟨hp, g, d, tk, os⟩ := fun q => B.iter prog w _ _ ⟨hp, g, d, tk, os⟩ _ h1 q
  wp_walk using goIter
  refine wpAny_stack_any fun st => wpAny_pure ?_
  split
  · rename_i c _ _ _ _ _
    cases (c == Value.type "enumerate") <;> (wp_walk using goIter; exact ⟨_, rfl, h⟩)
  · wp_walk using goIter
    exact ⟨_, rfl, h⟩
theorem pyEnum1 {prog : Program} {w : World} {A : Around} {E : Value → Shared → Prop} {s : Shared} {v : Value} {ob : Obj} {G : Heap → Prop} {Q : Value → Shared → Prop} (B : Begins v ob G) (h1 : G s.heap)
    (h : ∀ h', IsEnum h' (s.heap.objs.size + 1) s.heap.objs.size 0 .none → h'.get? s.heap.objs.size = some ob → (∀ b u, s.heap.get? b = some u → h'.get? b = some u) → Q (.ref (s.heap.objs.size + 1)) { s with heap := h' }) :
    wpAny (model prog w) A (call (.type "enumerate") [v]) Q E s := by
  refine callType_new F.called_enumerate (by decide) (F.typeCall_enumerate_1 _) (F.newCall_enumerate_1 _) (fun obj => F.args_object_init_2 obj _) F.entry_enumerate_new (pyEnum1_meets B) ⟨h1, ?_⟩
  have hz : (s.heap.push ob).objs.size = s.heap.objs.size + 1 := Heap.size_push ..
  show _ ∧ _
  rw [hz]
  have he : IsEnum ((s.heap.push ob).push { cls := .type "enumerate", data := .fields #[.none, .bool false, .ref s.heap.objs.size, rawInt 0, .none, .none] }) (s.heap.objs.size + 1) s.heap.objs.size 0 .none := by
    have hq := Heap.get?_push_size (s.heap.push ob) (o := { cls := .type "enumerate", data := .fields #[.none, .bool false, .ref s.heap.objs.size, rawInt 0, .none, .none] }) rfl
    rwa [hz] at hq
  exact ⟨⟨_, he, rfl⟩, h _ he (Heap.get?_push_of_some _ (Heap.get?_push_size _ B.free)) fun b u x => Heap.get?_push_of_some _ (Heap.get?_push_of_some _ x)⟩
end PySem
namespace Py
open L2 PySem PySem.Spec PyProof.Rows
variable [Tb]
omit [Tb] in
omit [Tb] in
/-- the pairs (0, x), (1, y), .. of fixed things -/
def ItE (src : Hp → Prop) (xs : List V) : It :=
  ⟨fun i H => src H ∧ i < xs.length, fun i H v H' => ∃ T x, v = .ref T ∧ H T = none ∧ H' = upd H T (.tup [.int (i : Nat), x]) ∧ xs[i]? = some x, fun i H => src H ∧ xs.length ≤ i⟩
theorem turn_enumG {P : Program} {w : World} {K : PySem.W.Frag} {elts : List Expr} {kk : Nat} {tpos : Pos} (e it : Addr) (hne : e ≠ it) {src : Hp → Prop} {xs : List V} {own : Nat → Heap → Prop}
    (keepOwn : ∀ i h h', own i h → (∀ o, h.get? it = some o → h'.get? it = some o) → own i h') (objOwn : ∀ i h, own i h → ∃ o, h.get? it = some o ∧ ∀ v, o.data ≠ .cell v)
    (draws : ∀ (X : Cx) (pins : List (Addr × Obj)) (s : Shared) (σ : L2.St) (H : Hp), X.prog = P → X.w = w → X.K = K → X.calm = true → Inv X pins σ H s → H e = none → src H → ∀ i, own i s.heap →
      ∃ (fp : List Addr) (Pv : Nat → Value → Prop) (St : Nat → Heap → Prop), Draws P w X.A.in1 it fp xs.length Pv St ∧ e ∉ fp ∧ St i s.heap ∧ (∀ i h, St i h → own i h) ∧ ∀ i v, Pv i v → ∃ x, xs[i]? = some x ∧ RelV x v) :
    Turn P w K (.Tuple elts kk tpos) (ItE src xs) [e, it] e (fun i h => (∃ old, IsEnum h e it ((i : Nat) : Int) old) ∧ own i h ∧ i ≤ xs.length) where
  mem := by simp
  obj := fun i h st b hb => by
    obtain ⟨⟨old, he⟩, ho, _⟩ := st
    have e' : b = e ∨ b = it := by simpa using hb
    rcases e' with z | z
    · rw [z]; exact ⟨_, he, fun v q => nomatch q⟩
    · rw [z]; exact objOwn i h ho
  keep := fun i h h' st k => ⟨let ⟨old, he⟩ := st.1; ⟨old, k e (by simp) _ he⟩, keepOwn i h h' st.2.1 (fun o q => k it (by simp) o q), st.2.2⟩
  item := by
    intro X hP hw hK hc i pins s σ H E I hf st hg
    obtain ⟨⟨old, he⟩, how, _⟩ := st
    obtain ⟨hsrc, hi⟩ := hg
    obtain ⟨fp, Pv, St, D, hef, hst, hSo, hval⟩ := draws X pins s σ H hP hw hK hc I (hf e (by simp)).1 hsrc i how
    subst hP hw hK
    have hel : e < s.heap.objs.size := Heap.lt_size he
    have hil : it < s.heap.objs.size := by obtain ⟨o, q, _⟩ := objOwn i _ how; exact Heap.lt_size q
    refine wpAny_pyNext_enum_itemC D he hst hi hne hef fun u h' tk hPu ho hit' hT hsz hk => ?_
    obtain ⟨x, hx, ru⟩ := hval i u hPu
    refine ⟨_, rfl, wpAny_letOwnedTupleGo_enum (s := { s with heap := h', toks := tk + 1 }) ho fun h'' he' sb => ?_⟩
    have hT2 : h''.get? s.heap.objs.size = some { cls := .type "tuple", data := .seq #[.int i tk, u] } := (sb.2 _ (Nat.ne_of_gt hel)).trans hT
    have new : ObjOk X.prog X.w (upd H s.heap.objs.size (.tup [.int (i : Nat), x])) h'' s.heap.objs.size (.tup [.int (i : Nat), x]) :=
      ⟨by show 2 ≤ sizeLine; decide, [.int i tk, u], .cons ⟨_, rfl⟩ (.cons ru .nil), ⟨_, hT2, rfl, _, rfl⟩⟩
    have I1 : Inv X pins σ (upd H s.heap.objs.size (.tup [.int (i : Nat), x])) { s with heap := h'', toks := tk + 1 } :=
      I.turnedNew (ch := [e, it]) (fun b ob hb q => (sb.2 b (fun z => hb (by simp [z]))).trans (hk b ob (fun z => hb (by simp [z])) (fun z => hb (by simp [z])) q)) hf (Nat.le_refl _) new
    refine ⟨.ref s.heap.objs.size, _, I1, rfl, ⟨_, x, rfl, I.hok.fresh (Nat.le_refl _), rfl, hx⟩, ⟨⟨u, ?_⟩, keepOwn _ _ _ (hSo _ _ hit') (fun o q => (sb.2 it (Ne.symm hne)).trans q), hi⟩, fun b hb => ?_⟩
    · have e1 : ((i + 1 : Nat) : Int) = (i : Int) + 1 := by omega
      rw [e1]; exact he'
    · have hb' : b < s.heap.objs.size := by
        have e' : b = e ∨ b = it := by simpa using hb
        rcases e' with z | z
        · rw [z]; exact hel
        · rw [z]; exact hil
      rw [upd_ne (Nat.ne_of_lt hb')]
      exact (hf b hb).1
  done := by
    intro X hP hw hK hc i pins s σ H E I hf st hg
    obtain ⟨⟨old, he⟩, how, hle⟩ := st
    obtain ⟨hsrc, hi⟩ := hg
    obtain ⟨fp, Pv, St, D, hef, hst, hSo, hval⟩ := draws X pins s σ H hP hw hK hc I (hf e (by simp)).1 hsrc i how
    subst hP hw hK
    obtain ⟨f0, f1, f2, f3, f4, f5⟩ := hf it (by simp)
    have ei : i = xs.length := by omega
    exact wpAny_pyNext_enum_endD D he (by rw [← ei]; exact hst) fun h' eb => ⟨rfl, I.turned (t' := s.toks) (fun b o hb q => eb b o hb q) f0 f1 f3 f4 f5⟩
  self := fun A i s Q E st h => let ⟨⟨_, he⟩, _⟩ := st; wpAny_pyIter_enum he h
section
variable {X : Cx} {tg : Expr}
omit [Tb] in
omit [Tb] in
def iEnumT (K : PySem.W.Frag) (te : TE) : TI := fun σ H R => te σ H fun v H1 => ∃ a xs, v = .ref a ∧ H1 a = some (.tup xs) ∧ R (ItE (fun H => H a = some (.tup xs)) xs) H1
omit [Tb] in
omit [Tb] in
def iEnumS (te : TE) : TI := fun σ H R => te σ H fun v H1 => ∃ z : Str, v = .str z ∧ R (ItE (fun _ => True) (z.cps.toList.map fun c => V.str ⟨#[c]⟩)) H1
theorem pi_enumT {e : Expr} {te : TE} {p pos tpos : Pos} {elts : List Expr} {kk : Nat} (hg : Gl X "enumerate") (hm : X.mg "enumerate" = none) (he : PE X e te) (hs : noStar e = true) : PI X (.Tuple elts kk tpos) (.Call (.Name "enumerate" p) [e] [] pos) (iEnumT X.K te) := by
  refine ⟨fun pins s σ H R I h => ?_⟩
  refine Call_ (ld_blt I hg hm boot_enumerate (PyProof.Rows.callWith_type1 (args_cons (thn (he.run pins s σ H _ I h) fun u s1 ⟨v, H1, I1, r1, q1⟩ => args_nil ?_) (noStar_ok hs _ _)) (noStar_ok hs _ _)))
  obtain ⟨a, xs, rfl, hq, q⟩ := q1
  cases r1
  obtain ⟨its, rv, p', hz⟩ := I1.tuple (.of hq)
  refine pyEnum1 (begins_tuple a its.toArray) (show s1.heap.IsTuple a its.toArray from p') fun h' hen hit hk => wpAny_pyIter_enum hen ?_
  have I2 : Inv X pins σ H1 { s1 with heap := h' } := I1.kept (t' := s1.toks) hk
  refine ⟨s1.heap.objs.size + 1, [s1.heap.objs.size + 1, s1.heap.objs.size], _, _, H1, rfl, I2, turn_enumG (s1.heap.objs.size + 1) s1.heap.objs.size (Nat.succ_ne_self _) (own := fun i h => h.IsTupleIter s1.heap.objs.size a i)
    (fun i h h2 st k => st.at k) (fun i h st => ?_) (fun X' pins' s' σ' H' hP hw hK hc I' hne hsrc i st => ?_), ⟨⟨.none, hen⟩, ⟨_, hit, rfl, rfl⟩, Nat.zero_le _⟩, fun b hb => ?_, q⟩
  · obtain ⟨o, e1, c, d⟩ := st
    exact ⟨o, e1, fun v z => by rw [d] at z; cases z⟩
  · obtain ⟨its', rv', p2, _⟩ := I'.tuple (.of hsrc)
    have hin : X'.A.in1.handled = none := I'.ok.hd hc
    have ha1 : a ≠ s1.heap.objs.size := by have := p'.lt; exact Nat.ne_of_lt this
    have D := Draws.tuple (prog := X.prog) (w := X.w) (A := X'.A.in1) hin s1.heap.objs.size a ha1 its'.toArray
    have hl : its'.toArray.size = xs.length := by rw [List.size_toArray, rv'.length]
    rw [hl] at D
    refine ⟨_, _, _, D, fun hm => ?_, ⟨st, show s'.heap.IsTuple a its'.toArray from p2⟩, fun i h q => q.1, fun i v hv => ?_⟩
    · rcases List.mem_cons.mp hm with z | z
      · exact Nat.succ_ne_self _ z
      · rcases List.mem_cons.mp z with z | z
        · rw [z, hsrc] at hne; cases hne
        · cases z
    · have hv' : its'[i]? = some v := by simpa using hv
      cases hx : xs[i]? with
      | none => have := rv'.none_of hx; rw [hv'] at this; cases this
      | some x =>
        obtain ⟨u, hu, ru⟩ := rv'.get hx
        rw [hv'] at hu; cases hu
        exact ⟨x, rfl, ru⟩
  · have hle : s1.heap.objs.size ≤ b := by
      have e' : b = s1.heap.objs.size + 1 ∨ b = s1.heap.objs.size := by simpa using hb
      rcases e' with z | z
      · rw [z]; exact Nat.le_add_right _ _
      · rw [z]; exact Nat.le_refl _
    exact I1.fpOk hle (I1.hok.fresh hle)
theorem pi_enumS {e : Expr} {te : TE} {p pos tpos : Pos} {elts : List Expr} {kk : Nat} (hg : Gl X "enumerate") (hm : X.mg "enumerate" = none) (he : PE X e te) (hs : noStar e = true) : PI X (.Tuple elts kk tpos) (.Call (.Name "enumerate" p) [e] [] pos) (iEnumS te) := by
  refine ⟨fun pins s σ H R I h => ?_⟩
  refine Call_ (ld_blt I hg hm boot_enumerate (PyProof.Rows.callWith_type1 (args_cons (thn (he.run pins s σ H _ I h) fun u s1 ⟨v, H1, I1, r1, q1⟩ => args_nil ?_) (noStar_ok hs _ _)) (noStar_ok hs _ _)))
  obtain ⟨z, rfl, q⟩ := q1
  obtain ⟨t, rfl⟩ := r1
  refine pyEnum1 (begins_text z t) trivial fun h' hen hit hk => wpAny_pyIter_enum hen ?_
  have I2 : Inv X pins σ H1 { s1 with heap := h' } := I1.kept (t' := s1.toks) hk
  refine ⟨s1.heap.objs.size + 1, [s1.heap.objs.size + 1, s1.heap.objs.size], _, _, H1, rfl, I2, turn_enumG (s1.heap.objs.size + 1) s1.heap.objs.size (Nat.succ_ne_self _) (own := fun i h => h.IsStrIter s1.heap.objs.size (strIterType z) z t i)
    (fun i h h2 st k => ?_) (fun i h st => ?_) (fun X' pins' s' σ' H' hP hw hK hc I' hne hsrc i st => ?_), ⟨⟨.none, hen⟩, ⟨_, hit, rfl, rfl⟩, Nat.zero_le _⟩, fun b hb => ?_, q⟩
  · obtain ⟨o, ho, r⟩ := st
    exact ⟨o, k o ho, r⟩
  · obtain ⟨o, e1, c, d⟩ := st
    exact ⟨o, e1, fun v z => by rw [d] at z; cases z⟩
  · have hin : X'.A.in1.handled = none := I'.ok.hd hc
    have D := Draws.text (prog := X.prog) (w := X.w) (A := X'.A.in1) hin s1.heap.objs.size z t
    have hl : z.cps.size = (z.cps.toList.map fun c => V.str ⟨#[c]⟩).length := by simp
    rw [hl] at D
    refine ⟨_, _, _, D, fun hm => ?_, st, fun i h q => q, fun i v hv => ?_⟩
    · rcases List.mem_cons.mp hm with z | z
      · exact Nat.succ_ne_self _ z
      · cases z
    · obtain ⟨c, u, hc', rfl⟩ := hv
      refine ⟨.str ⟨#[c]⟩, ?_, u, rfl⟩
      rw [List.getElem?_map, Array.getElem?_toList, hc']
      rfl
  · have hle : s1.heap.objs.size ≤ b := by
      have e' : b = s1.heap.objs.size + 1 ∨ b = s1.heap.objs.size := by simpa using hb
      rcases e' with z | z
      · rw [z]; exact Nat.le_add_right _ _
      · rw [z]; exact Nat.le_refl _
    exact I1.fpOk hle (I1.hok.fresh hle)
end
end Py

set_option Elab.async false
set_option linter.all false
set_option maxRecDepth 100000
set_option maxHeartbeats 1000000
namespace Py
open L2 PySem PySem.Spec PyProof.Rows
variable [Tb]
/-! ### what a loop walks -/
omit [Tb] in
omit [Tb] in
/-- the items of a list or tuple, and what must stand -/
def stillD : D → List D → Store → Prop
  | .ref n, ds, st => getL st n = some ds
  | _, _, _ => True
omit [Tb] in
omit [Tb] in
def isT' : D → Bool | .tup _ => true | .kt _ => true | _ => false
section
variable {K : PySem.W.Frag} {mg : Str → Option Value} {ρ : List Addr} {H : Hp} {st : Store}
/-- the walked thing stands at a for good -/
theorem walk_at {d : D} {v : V} {ds : List D} (rs : RS K mg ρ H st) (h : RD K mg ρ H d v) (e : seqOf d st = some ds) :
    ∃ a, v = .ref a ∧ (isT' d = true → ∃ vs, SqT K H a vs) ∧ (isT' d = false → ∃ vs, SqL K H a vs) ∧ ∀ ρ' H' st', Wk K ρ H ρ' H' → RS K mg ρ' H' st' → stillD d ds st' → ∃ vs, RDs K mg ρ' H' ds vs ∧ (isT' d = true → SqT K H' a vs) ∧ (isT' d = false → SqL K H' a vs) := by
  cases d with
  | tup es =>
    cases e
    obtain ⟨a, vs, rfl, h1, h2⟩ := tup_at h rfl
    refine ⟨a, rfl, fun _ => ⟨vs, h1⟩, fun z => (nomatch z), fun ρ' H' st' x rs' _ => ?_⟩
    simp only [RD] at h
    obtain ⟨a', xs, e1, s, r⟩ := h
    cases e1
    exact ⟨xs, r.mo x, fun _ => .of (x.tup _ _ s), fun z => (nomatch z)⟩
  | kt es =>
    cases e
    simp only [RD] at h
    obtain ⟨a, xs, o, its, n, rfl, h1, h2⟩ := h
    exact ⟨a, rfl, fun _ => ⟨xs, .inr ⟨o, its, n, h1⟩⟩, fun z => (nomatch z), fun ρ' H' st' x rs' _ => ⟨xs, h2.mo x, fun _ => .inr ⟨o, its, n, h1⟩, fun z => (nomatch z)⟩⟩
  | kl es =>
    cases e
    simp only [RD] at h
    obtain ⟨a, xs, o, its, n, rfl, h1, h2⟩ := h
    exact ⟨a, rfl, fun z => (nomatch z), fun _ => ⟨xs, .inr ⟨o, its, n, h1⟩⟩, fun ρ' H' st' x rs' _ => ⟨xs, h2.mo x, fun z => (nomatch z), fun _ => .inr ⟨o, its, n, h1⟩⟩⟩
  | ref n =>
    obtain ⟨a, vs, rfl, ha, h1, h2⟩ := seq_at rs h e
    refine ⟨a, rfl, fun z => (nomatch z), fun _ => ⟨vs, h1⟩, fun ρ' H' st' x rs' hs => ?_⟩
    obtain ⟨a', vs', e1, ha', h1', h2'⟩ := seq_at rs' (h.mo x) hs
    cases e1
    exact ⟨vs', h2', fun z => (nomatch z), fun _ => h1'⟩
  | _ => cases e
end
omit [Tb] in
omit [Tb] in
def itD (d : D) (st : Store) : Option Iter := match d with
  | .str z => some ⟨z.cps.toList.map fun c => .str ⟨#[c]⟩, fun _ => True⟩
  | d => (seqOf d st).map fun ds => ⟨ds, stillD d ds⟩
omit [Tb] in
omit [Tb] in
def mIt (me : Py.Loc → Store → R D) : Py.Loc → Store → R Iter := fun e st => (me e st).bind fun d st => match itD d st with | some it => .ok it st | none => .stuck
section
variable {X : Cx} {W : WX} {tg e : Expr} {me : Py.Loc → Store → R D} {p pos : Pos}
theorem ri_list {d : D} {v : V} {ds : List D} {ρ : List Addr} {H : Hp} {st : Store} {a : Addr} (h : ∀ ρ' H' st', Wk X.K ρ H ρ' H' → RS X.K X.mg ρ' H' st' → stillD d ds st' → ∃ vs, RDs X.K X.mg ρ' H' ds vs ∧ SqL X.K H' a vs) : RI X.K X.mg ρ H ⟨ds, stillD d ds⟩ (Itl X.K a) := by
  intro ρ' H' st' x rs hs i
  obtain ⟨vs, r, hq⟩ := h ρ' H' st' x rs hs
  refine ⟨fun y hy => ?_, fun hn => ⟨vs, hq, ?_⟩⟩
  · obtain ⟨u, hu, ru⟩ := r.get hy
    refine ⟨⟨vs, u, hq, hu⟩, fun z H'' ⟨e1, k⟩ => ?_⟩
    subst e1
    have := k vs hq
    rw [hu] at this; cases this
    exact ⟨.refl, rs, ru⟩
  · rw [← r.length]; exact List.getElem?_eq_none_iff.mp hn
theorem ri_tup {d : D} {v : V} {ds : List D} {ρ : List Addr} {H : Hp} {st : Store} {a : Addr} (h : ∀ ρ' H' st', Wk X.K ρ H ρ' H' → RS X.K X.mg ρ' H' st' → stillD d ds st' → ∃ vs, RDs X.K X.mg ρ' H' ds vs ∧ SqT X.K H' a vs) : RI X.K X.mg ρ H ⟨ds, stillD d ds⟩ (Itt X.K a) := by
  intro ρ' H' st' x rs hs i
  obtain ⟨vs, r, hq⟩ := h ρ' H' st' x rs hs
  refine ⟨fun y hy => ?_, fun hn => ⟨vs, hq, ?_⟩⟩
  · obtain ⟨u, hu, ru⟩ := r.get hy
    refine ⟨⟨vs, u, hq, hu⟩, fun z H'' ⟨e1, k⟩ => ?_⟩
    subst e1
    have := k vs hq
    rw [hu] at this; cases this
    exact ⟨.refl, rs, ru⟩
  · rw [← r.length]; exact List.getElem?_eq_none_iff.mp hn
theorem ri_str {z : Str} {ρ : List Addr} {H : Hp} : RI X.K X.mg ρ H ⟨z.cps.toList.map fun c => .str ⟨#[c]⟩, fun _ => True⟩ (Its z) := by
  intro ρ' H' st' x rs hs i
  refine ⟨fun y hy => ?_, fun hn => ?_⟩
  · rw [List.getElem?_map, Array.getElem?_toList] at hy
    cases hc : z.cps[i]? with
    | none => rw [hc] at hy; cases hy
    | some c =>
      rw [hc] at hy; cases hy
      refine ⟨(Array.getElem?_eq_some_iff.mp hc).1, fun w H'' ⟨e1, c', hc', e2⟩ => ?_⟩
      subst e1 e2
      rw [hc] at hc'; cases hc'
      exact ⟨.refl, rs, by simp only [RD]⟩
  · show z.cps.size ≤ i; simpa using hn
/-- a value, walked -/
theorem pi_any {W : WX} (he : SE X W e me) : SI X W tg e (mIt me) := by
  refine ⟨fun pins s σ H R I h => ?_⟩
  obtain ⟨ρ, e1, st, rs, re, p⟩ := h
  refine thn (he.run pins s σ H _ I ⟨ρ, e1, st, rs, re, Post.bind p⟩) fun v s1 ⟨x, H1, I1, r1, d, ρ1, st1, x1, rs1, rd1, p1⟩ => ?_
  by_cases hstr : ∃ z, d = .str z
  · obtain ⟨z, rfl⟩ := hstr
    have p2 := p1 ρ1 H1 (Its z) .refl rs1 ri_str
    simp only [RD] at rd1
    subst rd1
    obtain ⟨t, rfl⟩ := r1
    cases ha : z.cps.all (· < 128)
    · exact wpAny_pyIter_wide ha (pi_one (tk := s1.toks) I1 _ (turn_str _ z t "str_iterator" (.inr rfl)) ⟨_, Heap.get?_push_size _ rfl, rfl, rfl⟩ p2)
    · exact wpAny_pyIter_ascii ha (pi_one (tk := s1.toks) I1 _ (turn_str _ z t "str_ascii_iterator" (.inl rfl)) ⟨_, Heap.get?_push_size _ rfl, rfl, rfl⟩ p2)
  · have e2 : itD d st1 = (seqOf d st1).map fun ds => ⟨ds, stillD d ds⟩ := by
      cases d <;> first | rfl | exact absurd ⟨_, rfl⟩ hstr
    rw [e2] at p1
    cases hs : seqOf d st1 with
    | none => rw [hs] at p1; exact p1.elim
    | some ds =>
      rw [hs] at p1
      simp only [Option.map_some] at p1
      obtain ⟨a, rfl, hT, hL, hw⟩ := walk_at rs1 rd1 hs
      cases r1
      cases hk : isT' d with
      | true =>
        obtain ⟨vs0, hq⟩ := hT hk
        have p2 := p1 ρ1 H1 (Itt X.K a) .refl rs1 (ri_tup (v := .ref a) (st := st1) fun ρ' H' st' x rs hs => let ⟨vs, r, q, _⟩ := hw ρ' H' st' x rs hs; ⟨vs, r, q hk⟩)
        obtain ⟨its, rv, pp, hz⟩ := I1.tuple hq
        refine wpAny_pyIter_tuple (show s1.heap.IsTuple a its.toArray from pp) ?_
        refine ⟨s1.heap.objs.size, [s1.heap.objs.size], _, _, H1, rfl, I1.kept (t' := s1.toks) fun b o e => Heap.get?_push_of_some _ e, turn_tuple a _, ⟨_, Heap.get?_push_size _ rfl, rfl, rfl⟩, fun b hb => ?_, p2⟩
        have e : b = s1.heap.objs.size := by simpa using hb
        subst e
        exact I1.fpOk (Nat.le_refl _) (I1.hok.fresh (Nat.le_refl _))
      | false =>
        obtain ⟨vs0, hq⟩ := hL hk
        have p2 := p1 ρ1 H1 (Itl X.K a) .refl rs1 (ri_list (v := .ref a) (st := st1) fun ρ' H' st' x rs hs => let ⟨vs, r, _, q⟩ := hw ρ' H' st' x rs hs; ⟨vs, r, q hk⟩)
        obtain ⟨its, rv, pp, hz⟩ := I1.list hq
        refine wpAny_pyIter_list pp.isList ?_
        refine ⟨s1.heap.objs.size, [s1.heap.objs.size], _, _, H1, rfl, I1.kept (t' := s1.toks) fun b o e => Heap.get?_push_of_some _ e, turn_list a _, ⟨_, Heap.get?_push_size _ rfl, rfl, rfl⟩, fun b hb => ?_, p2⟩
        have e : b = s1.heap.objs.size := by simpa using hb
        subst e
        exact I1.fpOk (Nat.le_refl _) (I1.hok.fresh (Nat.le_refl _))
end
end Py

set_option Elab.async false
set_option linter.all false
set_option maxRecDepth 100000
set_option maxHeartbeats 1000000
namespace Py
open L2 PySem PySem.Spec PyProof.Rows
variable [Tb]
section
variable {X : Cx} {W : WX} {tg e a b c : Expr} {me ma mb mc : Py.Loc → Store → R D} {p pos : Pos}
omit [Tb] in
omit [Tb] in
theorem tup_for {K : PySem.W.Frag} {mg : Str → Option Value} {ρ : List Addr} {H : Hp} {d : D} {v : V} {ds : List D} (h : RD K mg ρ H d v) (e : getT d = some ds) : ∃ a vs, v = .ref a ∧ ∀ ρ' H', Wk K ρ H ρ' H' → RDs K mg ρ' H' ds vs ∧ SqT K H' a vs := by
  cases d with
  | tup es =>
    cases e
    simp only [RD] at h
    obtain ⟨a, xs, rfl, h1, h2⟩ := h
    exact ⟨a, xs, rfl, fun ρ' H' x => ⟨h2.mo x, .of (x.tup _ _ h1)⟩⟩
  | kt es =>
    cases e
    simp only [RD] at h
    obtain ⟨a, xs, o, its, n, rfl, h1, h2⟩ := h
    exact ⟨a, xs, rfl, fun ρ' H' x => ⟨h2.mo x, .inr ⟨o, its, n, h1⟩⟩⟩
  | _ => cases e
/-! ### enumerate -/
omit [Tb] in
omit [Tb] in
def enL (ds : List D) : List D := ds.mapIdx fun i d => .tup [.int (i : Nat), d]
theorem enL_get {ds : List D} {i : Nat} {y : D} (h : (enL ds)[i]? = some y) : ∃ d, ds[i]? = some d ∧ y = .tup [.int (i : Nat), d] := by
  unfold enL at h
  rw [List.getElem?_mapIdx] at h
  cases hd : ds[i]? with
  | none => rw [hd] at h; cases h
  | some d => rw [hd] at h; cases h; exact ⟨d, rfl, rfl⟩
omit [Tb] in
omit [Tb] in
theorem enL_none {ds : List D} {i : Nat} (h : (enL ds)[i]? = none) : ds.length ≤ i := by
  have := List.getElem?_eq_none_iff.mp h
  unfold enL at this
  simpa using this
omit [Tb] in
omit [Tb] in
def enD (d : D) (st : Store) : Option Iter := (itD d st).map fun it => ⟨enL it.items, it.still⟩
omit [Tb] in
omit [Tb] in
def mEn (me : Py.Loc → Store → R D) : Py.Loc → Store → R Iter := fun e st => (me e st).bind fun d st => match enD d st with | some it => .ok it st | none => .stuck
theorem pairNew {K : PySem.W.Frag} {mg : Str → Option Value} {ρ : List Addr} {H : Hp} {st : Store} {T : Addr} {u v : V} {d e : D} (rs : RS K mg ρ H st) (hT : H T = none) (h1 : RD K mg ρ H d u) (h2 : RD K mg ρ H e v) :
    Ext K ρ H ρ (upd H T (.tup [u, v])) ∧ RS K mg ρ (upd H T (.tup [u, v])) st ∧ RD K mg ρ (upd H T (.tup [u, v])) (.tup [d, e]) (.ref T) := by
  have xn : Ext K ρ H ρ (upd H T (.tup [u, v])) := Ext.new hT
  refine ⟨xn, rs.tupnew hT, ?_⟩
  simp only [RD]
  exact ⟨T, _, rfl, upd_same, .cons (h1.mono xn) (.cons (h2.mono xn) .nil)⟩
theorem ri_enE {src : Hp → Prop} {xs : List V} {ds : List D} {ρ : List Addr} {H : Hp} {still : Store → Prop} (h : ∀ ρ' H' st', Wk X.K ρ H ρ' H' → RS X.K X.mg ρ' H' st' → still st' → RDs X.K X.mg ρ' H' ds xs ∧ src H') : RI X.K X.mg ρ H ⟨enL ds, still⟩ (ItE src xs) := by
  intro ρ' H' st' x rs hs i
  obtain ⟨r, hq⟩ := h ρ' H' st' x rs hs
  refine ⟨fun y hy => ?_, fun hn => ⟨hq, ?_⟩⟩
  · obtain ⟨d, hd, rfl⟩ := enL_get hy
    obtain ⟨u, hu, ru⟩ := r.get hd
    refine ⟨⟨hq, (List.getElem?_eq_some_iff.mp hu).1⟩, fun z H'' ⟨T, x', e1, hT, e2, e3⟩ => ?_⟩
    subst e1 e2
    rw [hu] at e3; cases e3
    exact pairNew rs hT (by simp only [RD]) ru
  · rw [← r.length]; exact enL_none hn
theorem ri_enL {ds : List D} {ρ : List Addr} {H : Hp} {a : Addr} {still : Store → Prop} (h : ∀ ρ' H' st', Wk X.K ρ H ρ' H' → RS X.K X.mg ρ' H' st' → still st' → ∃ vs, RDs X.K X.mg ρ' H' ds vs ∧ SqL X.K H' a vs) : RI X.K X.mg ρ H ⟨enL ds, still⟩ (Ite X.K a) := by
  intro ρ' H' st' x rs hs i
  obtain ⟨vs, r, hq⟩ := h ρ' H' st' x rs hs
  refine ⟨fun y hy => ?_, fun hn => ⟨vs, hq, ?_⟩⟩
  · obtain ⟨d, hd, rfl⟩ := enL_get hy
    obtain ⟨u, hu, ru⟩ := r.get hd
    refine ⟨⟨vs, u, hq, hu⟩, fun z H'' ⟨T, x', e1, hT, e2, e3⟩ => ?_⟩
    subst e1 e2
    have := e3 vs hq
    rw [hu] at this; cases this
    exact pairNew rs hT (by simp only [RD]) ru
  · rw [← r.length]; exact enL_none hn
omit [Tb] in
omit [Tb] in
theorem rds_str {K : PySem.W.Frag} {mg : Str → Option Value} {ρ : List Addr} {H : Hp} : ∀ l : List Nat, RDs K mg ρ H (l.map fun c => D.str ⟨#[c]⟩) (l.map fun c => V.str ⟨#[c]⟩)
  | [] => .nil
  | c :: l => .cons (by simp only [RD]) (rds_str l)
theorem pi_enumA {tpos : Pos} {elts : List Expr} {kk : Nat} (hg : Gl X "enumerate") (hm : X.mg "enumerate" = none) (he : SE X W e me) (hs : noStar e = true) : SI X W (.Tuple elts kk tpos) (.Call (.Name "enumerate" p) [e] [] pos) (mEn me) := by
  refine ⟨fun pins s σ H R I h => ?_⟩
  obtain ⟨ρ, e1, st, rs, re, p1⟩ := h
  refine Call_ (ld_blt I hg hm boot_enumerate (PyProof.Rows.callWith_type1 (args_cons (thn (he.run pins s σ H _ I ⟨ρ, e1, st, rs, re, Post.bind p1⟩) fun u s1 ⟨v, H1, I1, r1, d, ρ1, st1, x1, rs1, rd1, p1⟩ => args_nil ?_) (noStar_ok hs _ _)) (noStar_ok hs _ _)))
  have fresh2 : ∀ b ∈ [s1.heap.objs.size + 1, s1.heap.objs.size], FpOk X pins H1 b := fun b hb => by
    have hle : s1.heap.objs.size ≤ b := by
      have e' : b = s1.heap.objs.size + 1 ∨ b = s1.heap.objs.size := by simpa using hb
      rcases e' with z | z
      · rw [z]; exact Nat.le_add_right _ _
      · rw [z]; exact Nat.le_refl _
    exact I1.fpOk hle (I1.hok.fresh hle)
  by_cases hstr : ∃ z, d = .str z
  · obtain ⟨z, rfl⟩ := hstr
    have p2 := p1 ρ1 H1 (ItE (fun _ => True) (z.cps.toList.map fun c => V.str ⟨#[c]⟩)) .refl rs1 (ri_enE fun ρ' H' st' x rs' _ => ⟨rds_str _, trivial⟩)
    simp only [RD] at rd1
    subst rd1
    obtain ⟨t, rfl⟩ := r1
    refine pyEnum1 (begins_text z t) trivial fun h' hen hit hk => wpAny_pyIter_enum hen ?_
    have I2 : Inv X pins σ H1 { s1 with heap := h' } := I1.kept (t' := s1.toks) hk
    refine ⟨s1.heap.objs.size + 1, [s1.heap.objs.size + 1, s1.heap.objs.size], _, _, H1, rfl, I2, turn_enumG (s1.heap.objs.size + 1) s1.heap.objs.size (Nat.succ_ne_self _) (own := fun i h => h.IsStrIter s1.heap.objs.size (strIterType z) z t i)
      (fun i h h2 st k => ?_) (fun i h st => ?_) (fun X' pins' s' σ' H' hP hw hK hc I' hne hsrc i st => ?_), ⟨⟨.none, hen⟩, ⟨_, hit, rfl, rfl⟩, Nat.zero_le _⟩, fresh2, p2⟩
    · obtain ⟨o, ho, r⟩ := st
      exact ⟨o, k o ho, r⟩
    · obtain ⟨o, e1, c, d⟩ := st
      exact ⟨o, e1, fun v z => by rw [d] at z; cases z⟩
    · have hin : X'.A.in1.handled = none := I'.ok.hd hc
      have D := Draws.text (prog := X.prog) (w := X.w) (A := X'.A.in1) hin s1.heap.objs.size z t
      have hl : z.cps.size = (z.cps.toList.map fun c => V.str ⟨#[c]⟩).length := by simp
      rw [hl] at D
      refine ⟨_, _, _, D, fun hm => ?_, st, fun i h q => q, fun i v hv => ?_⟩
      · rcases List.mem_cons.mp hm with z | z
        · exact Nat.succ_ne_self _ z
        · cases z
      · obtain ⟨c, u, hc', rfl⟩ := hv
        refine ⟨.str ⟨#[c]⟩, ?_, u, rfl⟩
        rw [List.getElem?_map, Array.getElem?_toList, hc']
        rfl
  · have e2 : itD d st1 = (seqOf d st1).map fun ds => ⟨ds, stillD d ds⟩ := by
      cases d <;> first | rfl | exact absurd ⟨_, rfl⟩ hstr
    simp only [enD] at p1
    rw [e2] at p1
    cases hs : seqOf d st1 with
    | none => rw [hs] at p1; exact p1.elim
    | some ds =>
      rw [hs] at p1
      simp only [Option.map_some] at p1
      cases hk : isT' d with
      | true =>
        have hgt : getT d = some ds := by cases d <;> first | exact hs | cases hk
        obtain ⟨a, xs, rfl, hT⟩ := tup_for rd1 hgt
        cases r1
        have p2 := p1 ρ1 H1 (ItE (fun H => SqT X.K H a xs) xs) .refl rs1 (ri_enE fun ρ' H' st' x rs' _ => hT ρ' H' x)
        obtain ⟨its, rv, p', hz⟩ := I1.tuple (hT ρ1 H1 Wk.refl).2
        have ha : a < s1.heap.objs.size := p'.lt
        refine pyEnum1 (begins_tuple a its.toArray) (show s1.heap.IsTuple a its.toArray from p') fun h' hen hit hk => wpAny_pyIter_enum hen ?_
        have I2 : Inv X pins σ H1 { s1 with heap := h' } := I1.kept (t' := s1.toks) hk
        refine ⟨s1.heap.objs.size + 1, [s1.heap.objs.size + 1, s1.heap.objs.size], _, _, H1, rfl, I2, turn_enumG (s1.heap.objs.size + 1) s1.heap.objs.size (Nat.succ_ne_self _) (own := fun i h => h.IsTupleIter s1.heap.objs.size a i)
          (fun i h h2 st k => st.at k) (fun i h st => ?_) (fun X' pins' s' σ' H' hP hw hK hc I' hne hsrc i st => ?_), ⟨⟨.none, hen⟩, ⟨_, hit, rfl, rfl⟩, Nat.zero_le _⟩, fresh2, p2⟩
        · obtain ⟨o, e1, c, d⟩ := st
          exact ⟨o, e1, fun v z => by rw [d] at z; cases z⟩
        · obtain ⟨its', rv', p2, _⟩ := I'.tuple (by rw [hK]; exact hsrc)
          have hin : X'.A.in1.handled = none := I'.ok.hd hc
          have ha1 : a ≠ s1.heap.objs.size := Nat.ne_of_lt ha
          have D := Draws.tuple (prog := X.prog) (w := X.w) (A := X'.A.in1) hin s1.heap.objs.size a ha1 its'.toArray
          have hl : its'.toArray.size = xs.length := by rw [List.size_toArray, rv'.length]
          rw [hl] at D
          refine ⟨_, _, _, D, fun hm => ?_, ⟨st, show s'.heap.IsTuple a its'.toArray from p2⟩, fun i h q => q.1, fun i v hv => ?_⟩
          · rcases List.mem_cons.mp hm with z | z
            · exact Nat.succ_ne_self _ z
            · rcases List.mem_cons.mp z with z | z
              · exact absurd (z ▸ ha : s1.heap.objs.size + 1 < s1.heap.objs.size) (Nat.not_lt.mpr (Nat.le_succ _))
              · cases z
          · have hv' : its'[i]? = some v := by simpa using hv
            cases hx : xs[i]? with
            | none => have := rv'.none_of hx; rw [hv'] at this; cases this
            | some x =>
              obtain ⟨u, hu, ru⟩ := rv'.get hx
              rw [hv'] at hu; cases hu
              exact ⟨x, rfl, ru⟩
      | false =>
        obtain ⟨a, rfl, _, hL, hw⟩ := walk_at rs1 rd1 hs
        obtain ⟨xs, hq⟩ := hL hk
        cases r1
        have p2 := p1 ρ1 H1 (Ite X.K a) .refl rs1 (ri_enL fun ρ' H' st' x rs' hs' => let ⟨vs, r, _, q⟩ := hw ρ' H' st' x rs' hs'; ⟨vs, r, q hk⟩)
        obtain ⟨its, rv, p', hz⟩ := I1.list hq
        refine call_enumerate_list p'.isList fun h' he hit hsz hk => wpAny_pyIter_enum he ?_
        have I2 : Inv X pins σ H1 { s1 with heap := h' } := I1.kept (t' := s1.toks) hk
        exact ⟨s1.heap.objs.size + 1, [s1.heap.objs.size + 1, s1.heap.objs.size], _, _, H1, rfl, I2, turn_enum a (s1.heap.objs.size + 1) s1.heap.objs.size, ⟨⟨.none, he⟩, hit, Nat.succ_ne_self _⟩, fresh2, p2⟩
/-! ### range -/
omit [Tb] in
omit [Tb] in
def rgDn (a b : Int) : List D := (List.range (a - b).toNat).map fun i => D.int (a - (i : Nat))
omit [Tb] in
omit [Tb] in
def okB (a b : Int) : Bool := decide (-(2 ^ 62) ≤ a ∧ a < 2 ^ 62 ∧ -(2 ^ 62) ≤ b ∧ b < 2 ^ 62)
omit [Tb] in
omit [Tb] in
def rgIt : List D → Option Iter
  | [.int j] => if okB 0 j then some ⟨rgD 0 j, fun _ => True⟩ else none
  | [.int i, .int j] => if okB i j then some ⟨rgD i j, fun _ => True⟩ else none
  | [.int i, .int j, .int c] => if okB i j && decide (c = -1) then some ⟨rgDn i j, fun _ => True⟩ else none
  | _ => none
omit [Tb] in
omit [Tb] in
def mRgs (m : Py.Loc → Store → R (List D)) : Py.Loc → Store → R Iter := fun e st => (m e st).bind fun ds st => match rgIt ds with | some it => .ok it st | none => .stuck
theorem rgD_get {a b : Int} {i : Nat} {y : D} (h : (rgD a b)[i]? = some y) : i < (b - a).toNat ∧ y = .int (a + (i : Nat)) := by
  unfold rgD at h
  rw [List.getElem?_map] at h
  by_cases hi : i < (b - a).toNat
  · rw [List.getElem?_range hi] at h; cases h; exact ⟨hi, rfl⟩
  · rw [List.getElem?_eq_none (by simpa using hi)] at h; cases h
omit [Tb] in
omit [Tb] in
theorem rgD_none {a b : Int} {i : Nat} (h : (rgD a b)[i]? = none) : (b - a).toNat ≤ i := by
  have := List.getElem?_eq_none_iff.mp h
  simpa [rgD] using this
theorem ri_rg {ρ : List Addr} {H : Hp} {a b : Int} : RI X.K X.mg ρ H ⟨rgD a b, fun _ => True⟩ (Itr a (b - a).toNat) := by
  intro ρ' H' st' x rs hs i
  refine ⟨fun y hy => ?_, fun hn => rgD_none hn⟩
  obtain ⟨h1, rfl⟩ := rgD_get hy
  refine ⟨h1, fun z H'' ⟨e1, e2⟩ => ?_⟩
  subst e1 e2
  exact ⟨.refl, rs, by simp only [RD]⟩
theorem ri_rgDn {ρ : List Addr} {H : Hp} {a b : Int} : RI X.K X.mg ρ H ⟨rgDn a b, fun _ => True⟩ (Itc a (-1) (a - b).toNat) := by
  intro ρ' H' st' x rs hs i
  refine ⟨fun y hy => ?_, fun hn => ?_⟩
  · unfold rgDn at hy
    rw [List.getElem?_map] at hy
    by_cases hi : i < (a - b).toNat
    · rw [List.getElem?_range hi] at hy; cases hy
      refine ⟨hi, fun z H'' ⟨e1, e2⟩ => ?_⟩
      subst e1 e2
      refine ⟨.refl, rs, ?_⟩
      simp only [RD]
      congr 1
      omega
    · rw [List.getElem?_eq_none (by simpa using hi)] at hy; cases hy
  · have := List.getElem?_eq_none_iff.mp hn
    show (a - b).toNat ≤ i
    simpa [rgDn] using this
omit [Tb] in
omit [Tb] in
theorem okB_of {a b : Int} (h : okB a b = true) : -(2 ^ 62) ≤ a ∧ a < 2 ^ 62 ∧ -(2 ^ 62) ≤ b ∧ b < 2 ^ 62 := by simpa [okB] using h
variable {m : Py.Loc → Store → R (List D)}
theorem si_rg1 (hg : Gl X "range") (hm : X.mg "range" = none) (ha : SA X W [a] m) (na : noStar a = true) (hl : ∀ e st ds st', m e st = .ok ds st' → ds.length = 1) : SI X W tg (.Call (.Name "range" p) [a] [] pos) (mRgs m) :=
  PI.imp (pi_range1 hg hm ha (noStar_ok na _ _)) fun σ H Q ⟨ρ, e, st, rs, re, p⟩ => by
    refine ⟨ρ, e, st, rs, re, ?_⟩
    have q := Post.bind (Rel := RDs X.K X.mg) p
    revert q
    cases hmm : m e st with
    | ok ds st1 =>
      intro q ρ1 H1 vs x1 rs1 rd1
      obtain ⟨ds', ρ2, st2, x2, rs2, rd2, p2⟩ := q ρ1 H1 vs x1 rs1 rd1
      have hlen := rd2.length.trans rd1.length.symm
      rw [hl _ _ _ _ hmm] at hlen
      match ds', hlen, rd2, p2 with
      | [d], _, rd2, p2 =>
        obtain ⟨u, rfl, r⟩ := rds_one rd2
        cases d with
        | int j =>
          simp only [RD] at r
          subst r
          simp only [rgIt] at p2
          by_cases hb : okB 0 j = true
          · rw [if_pos hb] at p2
            obtain ⟨_, _, b3, b4⟩ := okB_of hb
            have p3 := p2 ρ2 H1 (Itr 0 (j - 0).toNat) .refl rs2 ri_rg
            exact ⟨j, rfl, b3, b4, by simpa using p3⟩
          · rw [if_neg hb] at p2; exact p2.elim
        | _ => exact p2.elim
    | ex c pl st1 => exact fun q => q
    | stuck => exact fun q => q
theorem si_rg2 (hg : Gl X "range") (hm : X.mg "range" = none) (ha : SA X W [a, b] m) (na : noStar a = true) (nb : noStar b = true) (hl : ∀ e st ds st', m e st = .ok ds st' → ds.length = 2) : SI X W tg (.Call (.Name "range" p) [a, b] [] pos) (mRgs m) :=
  PI.imp (pi_range2 hg hm ha (by rw [noStar_ok na, noStar_ok nb]; rfl) (noStar_ok nb _ _)) fun σ H Q ⟨ρ, e, st, rs, re, p⟩ => by
    refine ⟨ρ, e, st, rs, re, ?_⟩
    have q := Post.bind (Rel := RDs X.K X.mg) p
    revert q
    cases hmm : m e st with
    | ok ds st1 =>
      intro q ρ1 H1 vs x1 rs1 rd1
      obtain ⟨ds', ρ2, st2, x2, rs2, rd2, p2⟩ := q ρ1 H1 vs x1 rs1 rd1
      have hlen := rd2.length.trans rd1.length.symm
      rw [hl _ _ _ _ hmm] at hlen
      match ds', hlen, rd2, p2 with
      | [d, d2], _, rd2, p2 =>
        obtain ⟨u, v, rfl, r1, r2⟩ := rds_two rd2
        cases d with
        | int i =>
          cases d2 with
          | int j =>
            simp only [RD] at r1 r2
            subst r1 r2
            simp only [rgIt] at p2
            by_cases hb : okB i j = true
            · rw [if_pos hb] at p2
              exact ⟨i, j, rfl, okB_of hb, p2 ρ2 H1 (Itr i (j - i).toNat) .refl rs2 ri_rg⟩
            · rw [if_neg hb] at p2; exact p2.elim
          | _ => exact p2.elim
        | _ => exact p2.elim
    | ex c pl st1 => exact fun q => q
    | stuck => exact fun q => q
omit [Tb] in
omit [Tb] in
theorem rds_three {K : PySem.W.Frag} {mg : Str → Option Value} {ρ : List Addr} {H : Hp} {d e f : D} {xs : List V} (h : RDs K mg ρ H [d, e, f] xs) : ∃ x y z, xs = [x, y, z] ∧ RD K mg ρ H d x ∧ RD K mg ρ H e y ∧ RD K mg ρ H f z := by
  obtain ⟨x, xs, rfl, h1, h2⟩ := h.uncons
  obtain ⟨y, z, rfl, h3, h4⟩ := rds_two h2
  exact ⟨x, y, z, rfl, h1, h3, h4⟩
theorem si_rg3 (hg : Gl X "range") (hm : X.mg "range" = none) (ha : SA X W [a, b, c] m) (na : noStar a = true) (nb : noStar b = true) (nc : noStar c = true) (hl : ∀ e st ds st', m e st = .ok ds st' → ds.length = 3) : SI X W tg (.Call (.Name "range" p) [a, b, c] [] pos) (mRgs m) :=
  PI.imp (pi_range3 hg hm ha (noStar_ok na _ _) (noStars_ok (es := [b, c]) (by simp [nb, nc]) _ _)) fun σ H Q ⟨ρ, e, st, rs, re, p⟩ => by
    refine ⟨ρ, e, st, rs, re, ?_⟩
    have q := Post.bind (Rel := RDs X.K X.mg) p
    revert q
    cases hmm : m e st with
    | ok ds st1 =>
      intro q ρ1 H1 vs x1 rs1 rd1
      obtain ⟨ds', ρ2, st2, x2, rs2, rd2, p2⟩ := q ρ1 H1 vs x1 rs1 rd1
      have hlen := rd2.length.trans rd1.length.symm
      rw [hl _ _ _ _ hmm] at hlen
      match ds', hlen, rd2, p2 with
      | [d, d2, d3], _, rd2, p2 =>
        obtain ⟨u, v, w, rfl, r1, r2, r3⟩ := rds_three rd2
        cases d with
        | int i =>
          cases d2 with
          | int j =>
            cases d3 with
            | int c =>
              simp only [RD] at r1 r2 r3
              subst r1 r2 r3
              simp only [rgIt] at p2
              by_cases hb : (okB i j && decide (c = -1)) = true
              · rw [if_pos hb] at p2
                simp only [Bool.and_eq_true, decide_eq_true_eq] at hb
                obtain ⟨hb, rfl⟩ := hb
                obtain ⟨b1, b2, b3, b4⟩ := okB_of hb
                exact ⟨i, j, -1, (i - j).toNat, rfl, RgC.neg b1 b2 b3 b4, p2 ρ2 H1 (Itc i (-1) (i - j).toNat) .refl rs2 ri_rgDn⟩
              · rw [if_neg hb] at p2; exact p2.elim
            | _ => exact p2.elim
          | _ => exact p2.elim
        | _ => exact p2.elim
    | ex c pl st1 => exact fun q => q
    | stuck => exact fun q => q
/-! ### zip -/
omit [Tb] in
omit [Tb] in
def zpL (ds es : List D) : List D := List.zipWith (fun a b => .tup [a, b]) ds es
omit [Tb] in
omit [Tb] in
def zpD : List D → Store → Option Iter
  | [d1, d2], st => (match seqOf d1 st, seqOf d2 st with | some ds, some es => if isT' d1 = isT' d2 then some ⟨zpL ds es, fun st' => stillD d1 ds st' ∧ stillD d2 es st'⟩ else none | _, _ => none)
  | _, _ => none
omit [Tb] in
omit [Tb] in
def mZp (m : Py.Loc → Store → R (List D)) : Py.Loc → Store → R Iter := fun e st => (m e st).bind fun ds st => match zpD ds st with | some it => .ok it st | none => .stuck
omit [Tb] in
omit [Tb] in
theorem zpL_get {ds es : List D} {i : Nat} {y : D} (h : (zpL ds es)[i]? = some y) : ∃ a b, ds[i]? = some a ∧ es[i]? = some b ∧ y = .tup [a, b] := by
  unfold zpL at h
  rw [List.getElem?_zipWith] at h
  split at h
  · rename_i a b h1 h2
    cases h
    exact ⟨a, b, h1, h2, rfl⟩
  · cases h
omit [Tb] in
omit [Tb] in
theorem zpL_none {ds es : List D} {i : Nat} (h : (zpL ds es)[i]? = none) : ds.length ≤ i ∨ es.length ≤ i := by
  have := List.getElem?_eq_none_iff.mp h
  simp only [zpL, List.length_zipWith] at this
  omega
theorem ri_zpG {ds es : List D} {ρ : List Addr} {H : Hp} {a b : Addr} {still : Store → Prop} {Sq : Hp → Addr → List V → Prop} {J : It}
    (hgo : ∀ i H, J.go i H = ∃ (xs ys : List V) (x y : V), Sq H a xs ∧ Sq H b ys ∧ xs[i]? = some x ∧ ys[i]? = some y)
    (hyl : ∀ i H v H', J.yld i H v H' = ∃ T x y, v = .ref T ∧ H T = none ∧ H' = upd H T (.tup [x, y]) ∧ (∀ xs, Sq H a xs → xs[i]? = some x) ∧ ∀ ys, Sq H b ys → ys[i]? = some y)
    (hstp : ∀ i H, J.stop i H = ∃ xs ys : List V, Sq H a xs ∧ Sq H b ys ∧ (xs.length ≤ i ∨ ys.length ≤ i))
    (h : ∀ ρ' H' st', Wk X.K ρ H ρ' H' → RS X.K X.mg ρ' H' st' → still st' → ∃ vs us, RDs X.K X.mg ρ' H' ds vs ∧ RDs X.K X.mg ρ' H' es us ∧ Sq H' a vs ∧ Sq H' b us) : RI X.K X.mg ρ H ⟨zpL ds es, still⟩ J := by
  intro ρ' H' st' x rs hs i
  obtain ⟨vs, us, r, r', hq, hq'⟩ := h ρ' H' st' x rs hs
  refine ⟨fun y hy => ?_, fun hn => ?_⟩
  · obtain ⟨d, d', hd, hd', rfl⟩ := zpL_get hy
    obtain ⟨u, hu, ru⟩ := r.get hd
    obtain ⟨u', hu', ru'⟩ := r'.get hd'
    refine ⟨by rw [hgo]; exact ⟨vs, us, u, u', hq, hq', hu, hu'⟩, fun z H'' hz => ?_⟩
    rw [hyl] at hz
    obtain ⟨T, x', y', e1, hT, e2, e3, e4⟩ := hz
    subst e1 e2
    have q3 := e3 vs hq
    have q4 := e4 us hq'
    rw [hu] at q3; cases q3
    rw [hu'] at q4; cases q4
    exact pairNew rs hT ru ru'
  · rw [hstp]
    refine ⟨vs, us, hq, hq', ?_⟩
    rw [← r.length, ← r'.length]
    exact zpL_none hn
theorem si_zip {tpos : Pos} {elts : List Expr} {kk : Nat} (hg : Gl X "zip") (hm : X.mg "zip" = none) (ha : SA X W [a, b] m) (na : noStar a = true) (nb : noStar b = true) (hl : ∀ e st ds st', m e st = .ok ds st' → ds.length = 2) :
    SI X W (.Tuple elts kk tpos) (.Call (.Name "zip" p) [a, b] [] pos) (mZp m) :=
  PI.imp (RZ.pi_zipA hg hm ha (noStar_ok na _ _) (noStars_ok (es := [b]) (by simp [nb]) _ _)) fun σ H Q ⟨ρ, e, st, rs, re, p⟩ => by
    refine ⟨ρ, e, st, rs, re, ?_⟩
    have q := Post.bind (Rel := RDs X.K X.mg) p
    revert q
    cases hmm : m e st with
    | ok ds st1 =>
      intro q ρ1 H1 vs x1 rs1 rd1
      obtain ⟨ds', ρ2, st2, x2, rs2, rd2, p2⟩ := q ρ1 H1 vs x1 rs1 rd1
      have hlen := rd2.length.trans rd1.length.symm
      rw [hl _ _ _ _ hmm] at hlen
      match ds', hlen, rd2, p2 with
      | [d1, d2], _, rd2, p2 =>
        obtain ⟨u, v, rfl, r1, r2⟩ := rds_two rd2
        simp only [zpD] at p2
        cases h1 : seqOf d1 st2 with
        | none => rw [h1] at p2; exact p2.elim
        | some ds =>
          cases h2 : seqOf d2 st2 with
          | none => rw [h1, h2] at p2; exact p2.elim
          | some es =>
            rw [h1, h2] at p2
            simp only at p2
            by_cases hk : isT' d1 = isT' d2
            · rw [if_pos hk] at p2
              obtain ⟨a, rfl, aT, aL, aw⟩ := walk_at rs2 r1 h1
              obtain ⟨b, rfl, bT, bL, bw⟩ := walk_at rs2 r2 h2
              cases hk1 : isT' d1 with
              | true =>
                have hk2 : isT' d2 = true := hk ▸ hk1
                obtain ⟨xs, hx⟩ := aT hk1
                obtain ⟨ys, hy⟩ := bT hk2
                refine ⟨a, b, xs, ys, rfl, .inr ⟨hx, hy, p2 ρ2 H1 _ .refl rs2 (ri_zpG (Sq := SqT X.K) (a := a) (b := b) (fun _ _ => rfl) (fun _ _ _ _ => rfl) (fun _ _ => rfl) fun ρ' H' st' x rs' hs => ?_)⟩⟩
                obtain ⟨vs, q1, q2, _⟩ := aw ρ' H' st' x rs' hs.1
                obtain ⟨us, q3, q4, _⟩ := bw ρ' H' st' x rs' hs.2
                exact ⟨vs, us, q1, q3, q2 hk1, q4 hk2⟩
              | false =>
                have hk2 : isT' d2 = false := hk ▸ hk1
                obtain ⟨xs, hx⟩ := aL hk1
                obtain ⟨ys, hy⟩ := bL hk2
                refine ⟨a, b, xs, ys, rfl, .inl ⟨hx, hy, p2 ρ2 H1 _ .refl rs2 (ri_zpG (Sq := SqL X.K) (a := a) (b := b) (fun _ _ => rfl) (fun _ _ _ _ => rfl) (fun _ _ => rfl) fun ρ' H' st' x rs' hs => ?_)⟩⟩
                obtain ⟨vs, q1, _, q2⟩ := aw ρ' H' st' x rs' hs.1
                obtain ⟨us, q3, _, q4⟩ := bw ρ' H' st' x rs' hs.2
                exact ⟨vs, us, q1, q3, q2 hk1, q4 hk2⟩
            · rw [if_neg hk] at p2; exact p2.elim
    | ex c pl st1 => exact fun q => q
    | stuck => exact fun q => q
/-! ### reversed -/
omit [Tb] in
omit [Tb] in
def rvD (d : D) (st : Store) : Option Iter := match seqOf d st with | some ds => some ⟨ds.reverse, fun st' => stillD d ds st'⟩ | none => none
omit [Tb] in
omit [Tb] in
def mRv (me : Py.Loc → Store → R D) : Py.Loc → Store → R Iter := fun e st => (me e st).bind fun d st => match rvD d st with | some it => .ok it st | none => .stuck
theorem ri_rvG {ds : List D} {ρ : List Addr} {H : Hp} {a : Addr} {n : Nat} {still : Store → Prop} {Sq : Hp → Addr → List V → Prop} {J : It} (hn : n = ds.length)
    (hgo : ∀ i H, J.go i H = (i < n ∧ ∃ (xs : List V) (x : V), Sq H a xs ∧ xs[n - 1 - i]? = some x))
    (hyl : ∀ i H v H', J.yld i H v H' = (H' = H ∧ ∀ xs, Sq H a xs → xs[n - 1 - i]? = some v))
    (hstp : ∀ i H, J.stop i H = (n ≤ i))
    (h : ∀ ρ' H' st', Wk X.K ρ H ρ' H' → RS X.K X.mg ρ' H' st' → still st' → ∃ vs, RDs X.K X.mg ρ' H' ds vs ∧ Sq H' a vs) : RI X.K X.mg ρ H ⟨ds.reverse, still⟩ J := by
  intro ρ' H' st' x rs hs i
  obtain ⟨vs, r, hq⟩ := h ρ' H' st' x rs hs
  subst hn
  refine ⟨fun y hy => ?_, fun hn => ?_⟩
  · have hi : i < ds.length := by have := (List.getElem?_eq_some_iff.mp hy).1; simpa using this
    rw [List.getElem?_reverse hi] at hy
    obtain ⟨u, hu, ru⟩ := r.get hy
    refine ⟨by rw [hgo]; exact ⟨hi, vs, u, hq, hu⟩, fun z H'' hz => ?_⟩
    rw [hyl] at hz
    obtain ⟨e1, k⟩ := hz
    subst e1
    have := k vs hq
    rw [hu] at this; cases this
    exact ⟨.refl, rs, ru⟩
  · rw [hstp]
    have := List.getElem?_eq_none_iff.mp hn
    simpa using this
theorem si_rev (hg : Gl X "reversed") (hm : X.mg "reversed" = none) (ha : SE X W a ma) (na : noStar a = true) : SI X W tg (.Call (.Name "reversed" p) [a] [] pos) (mRv ma) :=
  PI.imp (RT.pi_revA hg hm ha (noStar_ok na _ _)) fun σ H Q ⟨ρ, e, st, rs, re, p⟩ => by
    refine ⟨ρ, e, st, rs, re, (Post.bind p).imp fun v H1 ⟨d, ρ1, st1, x1, rs1, rd1, p1⟩ => ?_⟩
    simp only [rvD] at p1
    cases h1 : seqOf d st1 with
    | none => rw [h1] at p1; exact p1.elim
    | some ds =>
      rw [h1] at p1
      simp only at p1
      obtain ⟨a', vs', rfl, hsq, rds⟩ := seqOf_at rs1 rd1 h1
      obtain ⟨a, e1, aT, aL, aw⟩ := walk_at rs1 rd1 h1
      cases e1
      cases hk : isT' d with
      | true =>
        obtain ⟨xs, q1, q2, _⟩ := aw ρ1 H1 st1 Wk.refl rs1 (by cases d <;> first | trivial | cases hk)
        exact ⟨a', xs, rfl, .inr ⟨q2 hk, p1 ρ1 H1 _ .refl rs1 (ri_rvG (Sq := SqT X.K) (a := a') (n := xs.length) q1.length.symm (fun _ _ => rfl) (fun _ _ _ _ => rfl) (fun _ _ => rfl) fun ρ' H' st' x rs' hs => let ⟨vs, q1, q2, _⟩ := aw ρ' H' st' x rs' hs; ⟨vs, q1, q2 hk⟩)⟩⟩
      | false =>
        obtain ⟨xs, q1, _, q2⟩ := aw ρ1 H1 st1 Wk.refl rs1 (by cases d <;> first | exact h1 | trivial)
        exact ⟨a', xs, rfl, .inl ⟨q2 hk, p1 ρ1 H1 _ .refl rs1 (ri_rvG (Sq := SqL X.K) (a := a') (n := xs.length) q1.length.symm (fun _ _ => rfl) (fun _ _ _ _ => rfl) (fun _ _ => rfl) fun ρ' H' st' x rs' hs => let ⟨vs, q1, _, q2⟩ := aw ρ' H' st' x rs' hs; ⟨vs, q1, q2 hk⟩)⟩⟩
end
end Py

set_option Elab.async false
set_option linter.all false
set_option maxRecDepth 100000
set_option maxHeartbeats 1000000
namespace Py
open L2 PySem PySem.Spec PyProof.Rows
variable [Tb]
/-! ### [.. for .. in .. for .. in ..] -/
omit [Tb] in
omit [Tb] in
noncomputable def lc2B (tg : Tg) (mt : Py.Loc → Store → R Bool) (mi1 : Py.Loc → Store → R Iter) (tg1 : Tg) (mt1 : Py.Loc → Store → R Bool) (me : Py.Loc → Store → R D) (vs1 : List Nat) (n : Nat) (d : D) (e : Py.Loc) (st : Store) : R (List D) :=
  match bindE tg d e with
  | none => .stuck
  | some e1 => match mt e1 st with
    | .ok false st1 => .ok [] (gc st .non st1).2
    | .ok true st1 => (match mi1 e1 st1 with
      | .ok it1 st2 => if n + it1.items.length ≤ sizeLine then lcL it1.still (fun d st => lcB tg1 mt1 me d (wipeE e1 vs1) st) it1.items st2 else .stuck
      | _ => .stuck)
    | _ => .stuck
omit [Tb] in
omit [Tb] in
open Classical in
noncomputable def lc2L (still : Store → Prop) (b : Nat → D → Store → R (List D)) : List D → Nat → Store → R (List D)
  | [], _, st => if still st then .ok [] st else .stuck
  | d :: ds, n, st => if still st then (b n d st).bind fun xs st => (lc2L still b ds (n + xs.length) st).bind fun r st => .ok (xs ++ r) st else .stuck
omit [Tb] in
omit [Tb] in
noncomputable def mLc2 (mi : Py.Loc → Store → R Iter) (tg : Tg) (mt : Py.Loc → Store → R Bool) (mi1 : Py.Loc → Store → R Iter) (tg1 : Tg) (mt1 : Py.Loc → Store → R Bool) (me : Py.Loc → Store → R D) (vs vs1 : List Nat) : Py.Loc → Store → R D := fun e st =>
  (mi e st).bind fun it st => (lc2L it.still (fun n d st => lc2B tg mt mi1 tg1 mt1 me vs1 n d (wipeE e vs) st) it.items 0 st).bind fun ds st => .ok (.ref st.length) (st ++ [.lst ds])
section
variable {X : Cx} {W : WX} {pos : Pos}
theorem RE.mo {K : PySem.W.Frag} {mg : Str → Option Value} {ρ ρ' : List Addr} {H H' : Hp} {σ : L2.St} {e : Py.Loc} (h : RE K mg ρ H σ e) (x : Wk K ρ H ρ' H') : RE K mg ρ' H' σ e := ⟨h.len, fun i d q => by
  obtain ⟨v, a, b⟩ := h.at_ i d q
  exact ⟨v, a, b.mo x⟩⟩
theorem bind_id {α : Type} : ∀ r : R α, (r.bind fun r st => R.ok r st) = r := fun r => by cases r <;> rfl
theorem bind_assoc {α β γ : Type} (r : R α) (f : α → Store → R β) (g : β → Store → R γ) : (r.bind f).bind g = r.bind fun a st => (f a st).bind g := by cases r <;> rfl
theorem lc2_of {mi mi1 : Py.Loc → Store → R Iter} {tg tg1 : Tg} {mt mt1 : Py.Loc → Store → R Bool} {me : Py.Loc → Store → R D} {vs vs1 : List Nat} (hs : ∀ i ∈ tg.slots, i ∈ vs) (hs1 : ∀ i ∈ tg1.slots, i ∈ vs1) (σ : L2.St) (H : Hp) (Q : VK)
    (h : tG X.K X.mg (RD X.K X.mg) W (mLc2 mi tg mt mi1 tg1 mt1 me vs vs1) σ H Q) :
    tLc2 (tG X.K X.mg (RI X.K X.mg) W mi) (gTg X.K tg) (tG X.K X.mg RB W0 mt) (tG X.K X.mg (RI X.K X.mg) W0 mi1) (gTg X.K tg1) (tG X.K X.mg RB W0 mt1) (tG X.K X.mg (RD X.K X.mg) W0 me) vs vs1 σ H Q := by
  obtain ⟨ρ, e, st, rs, re, p⟩ := h
  refine ⟨ρ, e, st, rs, re, (Post.bind p).imp fun J H1 ⟨it, ρ1, st1, x1, rs1, ri, p1⟩ => ?_⟩
  intro Dd hD
  have rew : RE X.K X.mg ρ1 H1 (wipe σ vs) (wipeE e vs) := (re.mono x1).wipe vs
  have hDn : Dd ∉ ρ1 := rs1.fresh hD
  generalize hbb : (fun n d st => lc2B tg mt mi1 tg1 mt1 me vs1 n d (wipeE e vs) st) = bb at p1
  refine ⟨fun i m H2 => i + m = it.items.length ∧ ∃ ρ2 st2 acc av, Ext X.K ρ1 H1 ρ2 H2 ∧ Dd ∉ ρ2 ∧ H2 Dd = some (.lst av) ∧ RDs X.K X.mg ρ2 H2 acc av ∧ RS X.K X.mg ρ2 H2 st2 ∧
      Post X.K X.mg (RD X.K X.mg) W σ Q ρ1 H1 ((lc2L it.still bb (it.items.drop i) acc.length st2).bind fun ds st => .ok (.ref st.length) (st ++ [.lst (acc ++ ds)])),
    ⟨it.items.length, by omega, ρ1, st1, [], [], Ext.new hD, hDn, upd_same, .nil, rs1.tupnew hD, by simpa using p1⟩, fun i m H2 hW => ?_⟩
  obtain ⟨him, ρ2, st2, acc, av, x2, hd2, eD, ra, rs2, p2⟩ := hW
  have xb : Ext X.K ρ1 H1 ρ2 H2 := x2
  by_cases hil : i < it.items.length
  · refine .inr ?_
    obtain ⟨d, hd⟩ : ∃ d, it.items[i]? = some d := ⟨_, List.getElem?_eq_getElem hil⟩
    rw [List.drop_eq_getElem_cons hil] at p2
    have ed : it.items[i] = d := by rw [List.getElem?_eq_getElem hil] at hd; exact Option.some.inj hd
    rw [ed] at p2
    unfold lc2L at p2
    by_cases hst : it.still st2
    · rw [if_pos hst] at p2
      obtain ⟨a1, _⟩ := ri ρ2 H2 st2 xb.wk rs2 hst i
      obtain ⟨hgo, hy⟩ := a1 d hd
      refine ⟨hgo, fun H3 => ∃ ρ3 st3 acc' av', Ext X.K ρ1 H1 ρ3 H3 ∧ Dd ∉ ρ3 ∧ H3 Dd = some (.lst av') ∧ RDs X.K X.mg ρ3 H3 acc' av' ∧ RS X.K X.mg ρ3 H3 st3 ∧
          Post X.K X.mg (RD X.K X.mg) W σ Q ρ1 H1 ((lc2L it.still bb (it.items.drop (i + 1)) acc'.length st3).bind fun ds st => .ok (.ref st.length) (st ++ [.lst (acc' ++ ds)])),
        fun H3 hN => ⟨m - 1, by omega, by omega, hN⟩, fun x H3 hyl => ?_⟩
      obtain ⟨xa, rsa, rda⟩ := hy x H3 hyl
      have eD3 : H3 Dd = some (.lst av) := xa.frm _ _ eD hd2
      rw [bind_assoc] at p2
      have p2' : Post X.K X.mg (RD X.K X.mg) W σ Q ρ1 H1 ((lc2B tg mt mi1 tg1 mt1 me vs1 acc.length d (wipeE e vs) st2).bind fun xs st => ((lc2L it.still bb (it.items.drop (i + 1)) (acc.length + xs.length) st).bind fun r st => R.ok (xs ++ r) st).bind fun ds st => .ok (.ref st.length) (st ++ [.lst (acc ++ ds)])) := by
        rw [← hbb] at p2 ⊢; exact p2
      simp only [lc2B] at p2'
      cases hbd : bindE tg d (wipeE e vs) with
      | none => rw [hbd] at p2'; exact p2'.elim
      | some e1 =>
        rw [hbd] at p2'
        simp only at p2'
        have rew3 : RE X.K X.mg ρ2 H3 (wipe σ vs) (wipeE e vs) := (rew.mono xb).mono xa
        refine gTg_of hs rew3 rda hbd fun σ2 re2 hw2 => ⟨by rw [hw2]; exact wipe_wipe σ vs, ?_⟩
        refine ⟨ρ2, e1, st2, rsa, re2, ?_⟩
        cases hmt : mt e1 st2 with
        | ok k st4 =>
          rw [hmt] at p2'
          intro ρ4 H4 k' x4 rs4 hk
          cases hk
          have hD4 : Dd ∉ ρ4 := fun hm => by rcases x4.new_ Dd hm hd2 with this | ⟨_, this⟩ <;> rw [eD3] at this <;> cases this
          have eD4 : H4 Dd = some (.lst av) := x4.frm _ _ eD3 hd2
          cases k with
          | false =>
            rw [if_neg (by decide)]
            simp only at p2'
            obtain ⟨ρ5, x5, rs5, _, _⟩ := gc_sound rsa x4 rs4 (d := .non) (v := .non) (by simp only [RD])
            have hD5 : Dd ∉ ρ5 := fun hm => by rcases x5.new_ Dd hm hd2 with this | ⟨_, this⟩ <;> rw [eD3] at this <;> cases this
            refine ⟨ρ5, _, acc, av, x2.trans (xa.trans x5), hD5, eD4, ra.mono (xa.trans x5), rs5, ?_⟩
            simp only [R.bind_ok, List.length_nil, Nat.add_zero, List.nil_append] at p2'
            rw [bind_id] at p2'
            exact p2'
          | true =>
            rw [if_pos rfl]
            simp only at p2'
            refine ⟨ρ4, e1, st4, rs4, re2.mono x4, ?_⟩
            cases hmi : mi1 e1 st4 with
            | ok it1 st5 =>
              rw [hmi] at p2'
              simp only at p2'
              by_cases hsz : acc.length + it1.items.length ≤ sizeLine
              rotate_left
              · rw [if_neg hsz] at p2'; exact p2'.elim
              rw [if_pos hsz] at p2'
              intro ρ5 H5 J1 x5 rs5 ri1
              have hD5 : Dd ∉ ρ5 := fun hm => by rcases x5.new_ Dd hm hD4 with this | ⟨_, this⟩ <;> rw [eD4] at this <;> cases this
              have eD5 : H5 Dd = some (.lst av) := x5.frm _ _ eD4 hD4
              have re5 : RE X.K X.mg ρ5 H5 (wipe σ2 vs1) (wipeE e1 vs1) := (re2.mono (x4.trans x5)).wipe vs1
              have x15 : Ext X.K ρ1 H1 ρ5 H5 := xb.trans (xa.trans (x4.trans x5))
              generalize hbi : (fun d st => lcB tg1 mt1 me d (wipeE e1 vs1) st) = bi at p2'
              -- the inner loop
              refine ⟨fun j k H6 => j + k = it1.items.length ∧ ∃ ρ6 st6 acc2 av2, Ext X.K ρ1 H1 ρ6 H6 ∧ Wk X.K ρ5 H5 ρ6 H6 ∧ RE X.K X.mg ρ6 H6 (wipe σ2 vs1) (wipeE e1 vs1) ∧ Dd ∉ ρ6 ∧ H6 Dd = some (.lst av2) ∧ RDs X.K X.mg ρ6 H6 (acc ++ acc2) av2 ∧ acc2.length ≤ j ∧ RS X.K X.mg ρ6 H6 st6 ∧
                Post X.K X.mg (RD X.K X.mg) W σ Q ρ1 H1 ((lcL it1.still bi (it1.items.drop j) st6).bind fun xs st => ((lc2L it.still bb (it.items.drop (i + 1)) (acc.length + (acc2 ++ xs).length) st).bind fun r st => R.ok ((acc2 ++ xs) ++ r) st).bind fun ds st => .ok (.ref st.length) (st ++ [.lst (acc ++ ds)])),
                ⟨it1.items.length, by omega, ρ5, st5, [], av, x15, .refl, re5, hD5, eD5, by simpa using ra.mono (xa.trans (x4.trans x5)), Nat.le_refl _, rs5, by simpa using p2'⟩, fun j k H6 hV => ?_⟩
              obtain ⟨hjk, ρ6, st6, acc2, av2, x16, x6, re6, hd6, eD6, ra6, la6, rs6, p6⟩ := hV
              by_cases hjl : j < it1.items.length
              · refine .inr ?_
                obtain ⟨d1, hd1⟩ : ∃ d, it1.items[j]? = some d := ⟨_, List.getElem?_eq_getElem hjl⟩
                rw [List.drop_eq_getElem_cons hjl] at p6
                have ed1 : it1.items[j] = d1 := by rw [List.getElem?_eq_getElem hjl] at hd1; exact Option.some.inj hd1
                rw [ed1] at p6
                unfold lcL at p6
                by_cases hst1 : it1.still st6
                · rw [if_pos hst1] at p6
                  obtain ⟨b1, _⟩ := ri1 ρ6 H6 st6 x6 rs6 hst1 j
                  obtain ⟨hgo1, hy1⟩ := b1 d1 hd1
                  refine ⟨hgo1, fun H7 => ∃ ρ7 st7 acc3 av3, Ext X.K ρ1 H1 ρ7 H7 ∧ Wk X.K ρ5 H5 ρ7 H7 ∧ RE X.K X.mg ρ7 H7 (wipe σ2 vs1) (wipeE e1 vs1) ∧ Dd ∉ ρ7 ∧ H7 Dd = some (.lst av3) ∧ RDs X.K X.mg ρ7 H7 (acc ++ acc3) av3 ∧ acc3.length ≤ j + 1 ∧ RS X.K X.mg ρ7 H7 st7 ∧
                      Post X.K X.mg (RD X.K X.mg) W σ Q ρ1 H1 ((lcL it1.still bi (it1.items.drop (j + 1)) st7).bind fun xs st => ((lc2L it.still bb (it.items.drop (i + 1)) (acc.length + (acc3 ++ xs).length) st).bind fun r st => R.ok ((acc3 ++ xs) ++ r) st).bind fun ds st => .ok (.ref st.length) (st ++ [.lst (acc ++ ds)])),
                    fun H7 hN => ⟨k - 1, by omega, by omega, hN⟩, fun x7 H7 hyl7 => ?_⟩
                  obtain ⟨xc, rsc, rdc⟩ := hy1 x7 H7 hyl7
                  have eD7 : H7 Dd = some (.lst av2) := xc.frm _ _ eD6 hd6
                  rw [bind_assoc] at p6
                  have p6' : Post X.K X.mg (RD X.K X.mg) W σ Q ρ1 H1 ((lcB tg1 mt1 me d1 (wipeE e1 vs1) st6).bind fun o st => ((lcL it1.still bi (it1.items.drop (j + 1)) st).bind fun r st => R.ok (o.toList ++ r) st).bind fun xs st => ((lc2L it.still bb (it.items.drop (i + 1)) (acc.length + (acc2 ++ xs).length) st).bind fun r st => R.ok ((acc2 ++ xs) ++ r) st).bind fun ds st => .ok (.ref st.length) (st ++ [.lst (acc ++ ds)])) := by
                    rw [← hbi] at p6 ⊢; exact p6
                  simp only [lcB] at p6'
                  cases hbd1 : bindE tg1 d1 (wipeE e1 vs1) with
                  | none => rw [hbd1] at p6'; exact p6'.elim
                  | some e2 =>
                    rw [hbd1] at p6'
                    simp only at p6'
                    have re7 : RE X.K X.mg ρ6 H7 (wipe σ2 vs1) (wipeE e1 vs1) := re6.mono xc
                    refine gTg_of hs1 re7 rdc hbd1 fun σ3 re3 hw3 => ⟨by rw [hw3]; exact wipe_wipe σ2 vs1, ?_⟩
                    refine ⟨ρ6, e2, st6, rsc, re3, ?_⟩
                    cases hmt1 : mt1 e2 st6 with
                    | ok k1 st8 =>
                      rw [hmt1] at p6'
                      intro ρ8 H8 k1' x8 rs8 hk1
                      cases hk1
                      have hD8 : Dd ∉ ρ8 := fun hm => by rcases x8.new_ Dd hm hd6 with this | ⟨_, this⟩ <;> rw [eD7] at this <;> cases this
                      have eD8 : H8 Dd = some (.lst av2) := x8.frm _ _ eD7 hd6
                      cases k1 with
                      | false =>
                        rw [if_neg (by decide)]
                        simp only at p6'
                        obtain ⟨ρ9, x9, rs9, _, _⟩ := gc_sound rsc x8 rs8 (d := .non) (v := .non) (by simp only [RD])
                        have hD9 : Dd ∉ ρ9 := fun hm => by rcases x9.new_ Dd hm hd6 with this | ⟨_, this⟩ <;> rw [eD7] at this <;> cases this
                        refine ⟨ρ9, _, acc2, av2, x16.trans (xc.trans x9), x6.trans (xc.trans x9).wk, re6.mono (xc.trans x9), hD9, eD8, ra6.mono (xc.trans x9), by omega, rs9, ?_⟩
                        simp only [R.bind_ok, Option.toList_none, List.nil_append] at p6'
                        rw [bind_id] at p6'
                        exact p6'
                      | true =>
                        rw [if_pos rfl]
                        simp only at p6'
                        refine ⟨ρ8, e2, st8, rs8, re3.mono x8, ?_⟩
                        cases hme : me e2 st8 with
                        | ok y st9 =>
                          rw [hme] at p6'
                          intro ρ9 H9 v x9 rs9 rd9
                          obtain ⟨ρa, x10, rsA, rdA, _⟩ := gc_sound rsc (x8.trans x9) rs9 rd9
                          have eD9 : H9 Dd = some (.lst av2) := (x8.trans x9).frm _ _ eD7 hd6
                          have hDA : Dd ∉ ρa := fun hm => by rcases x10.new_ Dd hm hd6 with this | ⟨_, this⟩ <;> rw [eD7] at this <;> cases this
                          have hlen : av2.length < sizeLine := by
                            have hl := ra6.length
                            rw [List.length_append] at hl
                            omega
                          refine ⟨av2, eD9, hlen, ?_⟩
                          have hm : ∀ xs, H9 Dd ≠ some (.tup xs) := fun xs r => by rw [eD9] at r; cases r
                          have x1A : Ext X.K ρ1 H1 ρa H9 := x16.trans (xc.trans x10)
                          refine ⟨ρa, _, acc2 ++ [(gc st6 y st9).1], av2 ++ [v], x1A.beside hD hm, (x6.trans (xc.trans x10).wk).trans (Wk.write hm), ?_, hDA, upd_same, ?_, by simp; omega, rsA.beside hDA hm ⟨_, eD9, .lst⟩, ?_⟩
                          · exact (re6.mono (xc.trans x10)).mo (Wk.write hm)
                          · rw [← List.append_assoc]
                            exact ((ra6.mono (xc.trans x10)).append (.cons rdA .nil)).mo (Wk.write hm)
                          · simp only [R.bind_ok, Option.toList_some] at p6'
                            rw [bind_assoc] at p6'
                            simp only [R.bind_ok] at p6'
                            simpa [List.append_assoc] using p6'
                        | _ => rw [hme] at p6'; exact p6'.elim
                    | _ => rw [hmt1] at p6'; exact p6'.elim
                · rw [if_neg hst1] at p6; exact p6.elim
              · refine .inl ?_
                rw [List.drop_of_length_le (by omega)] at p6
                unfold lcL at p6
                by_cases hst1 : it1.still st6
                · rw [if_pos hst1] at p6
                  obtain ⟨_, b2⟩ := ri1 ρ6 H6 st6 x6 rs6 hst1 j
                  refine ⟨b2 (List.getElem?_eq_none (by omega)), ρ6, st6, acc ++ acc2, av2, x16, hd6, eD6, ra6, rs6, ?_⟩
                  simp only [R.bind_ok, List.append_nil] at p6
                  rw [bind_assoc] at p6
                  simpa [List.append_assoc] using p6
                · rw [if_neg hst1] at p6; exact p6.elim
            | _ => rw [hmi] at p2'; exact p2'.elim
        | _ => rw [hmt] at p2'; exact p2'.elim
    · rw [if_neg hst] at p2; exact p2.elim
  · refine .inl ?_
    rw [List.drop_of_length_le (by omega)] at p2
    unfold lc2L at p2
    by_cases hst : it.still st2
    · rw [if_pos hst] at p2
      obtain ⟨_, a2⟩ := ri ρ2 H2 st2 xb.wk rs2 hst i
      refine ⟨a2 (List.getElem?_eq_none (by omega)), ?_⟩
      simp only [R.bind_ok, List.append_nil] at p2
      refine p2 (ρ2 ++ [Dd]) H2 (.ref Dd) (xb.adopt hD) (rs2.adopt hd2 eD ra) ?_
      simp only [RD]
      exact ⟨Dd, rfl, by rw [← rs2.len]; simp⟩
    · rw [if_neg hst] at p2; exact p2.elim
end
end Py

set_option Elab.async false
set_option linter.all false
set_option maxRecDepth 100000
set_option maxHeartbeats 1000000
namespace Py
open L2 PySem PySem.Spec PyProof.Rows
variable [Tb]
/-! ### the place where an expression stands: its names, its scope, its room -/
structure Ct (BL : List Str) (GC : List (Str × D)) (X : Cx) (W : WX) (N : List Str) (sc : Scope) (fb : Str → Bool) (k : Nat) : Prop where
  hN : X.N = N
  nd : N.Nodup
  hsc : X.env.scope = sc
  hfn : X.fn = fb
  kind : sc.kind = .function
  calm : X.calm = true
  room : Room k X.A
  tk : Takes X W
  bl : ∀ x ∈ BL, X.mg x = none
  gc : ∀ x d, (x, d) ∈ GC → ∃ u v, X.mg x = some u ∧ RelV v u ∧ ∀ ρ H, RD X.K X.mg ρ H d v
section
variable {BL : List Str} {GC : List (Str × D)} {X : Cx} {W : WX} {N : List Str} {sc : Scope} {fb : Str → Bool} {k : Nat} {pos : Pos} {e a b c : Expr} {es : List Expr} {ma mb mc : Py.Loc → Store → R D} {ta tb : Py.Loc → Store → R Bool}
omit [Tb] in
omit [Tb] in
theorem Ct.un (z : Ct BL GC X W N sc fb k) : X.A.units + 64 < cLine := z.room.units
omit [Tb] in
omit [Tb] in
theorem Ct.un1 (z : Ct BL GC X W N sc fb k) : X.A.units + 1 < cLine := by have := z.room.un; omega
omit [Tb] in
omit [Tb] in
theorem Ct.un65 (z : Ct BL GC X W N sc fb k) : X.A.units + 65 < cLine := by have := z.room.un; omega
omit [Tb] in
omit [Tb] in
def okDbg (x : Str) : Bool := !(x == ("__debug__" : Str)) && !(x == ("__classdict__" : Str))
omit [Tb] in
omit [Tb] in
def visB (N : List Str) (sc : Scope) (i : Nat) (x : Str) : Bool := decide (N[i]? = some x) && (match sc.names.lookup x with | some .local => true | some .cell => true | some .free => true | _ => false) && okDbg x
theorem Ct.v (z : Ct BL GC X W N sc fb k) {i : Nat} {x : Str} (h : visB N sc i x = true) : SE X W (.Name x pos) (mVar i) := by
  simp only [visB, okDbg, Bool.and_eq_true, decide_eq_true_eq, Bool.not_eq_true'] at h
  obtain ⟨⟨h1, h2⟩, h3, h4⟩ := h
  refine se_var (by rw [z.hN]; exact h1) ?_ h3 h4
  unfold L2.Vis
  rw [z.hsc]
  split at h2
  · exact .inl (by assumption)
  · exact .inr (.inl (by assumption))
  · exact .inr (.inr (by assumption))
  · cases h2
omit [Tb] in
omit [Tb] in
def glB (sc : Scope) (x : Str) : Bool := (match sc.names.lookup x with | some .globalImplicit => true | _ => false) && okDbg x
omit [Tb] in
omit [Tb] in
theorem Ct.gl (z : Ct BL GC X W N sc fb k) {x : Str} (h : glB sc x = true) : Gl X x := by
  simp only [glB, Bool.and_eq_true] at h
  unfold L2.Gl Env.kindOf
  rw [z.hsc]
  have h1 := h.1
  split at h1
  · assumption
  · cases h1
omit [Tb] in
omit [Tb] in
def blB (BL : List Str) (sc : Scope) (x : Str) : Bool := glB sc x && BL.contains x && !(x == ("__name__" : Str))
omit [Tb] in
omit [Tb] in
theorem str_contains {BL : List Str} {x : Str} (h : BL.contains x = true) : x ∈ BL := by
  rw [List.contains_iff_exists_mem_beq] at h
  obtain ⟨y, hy, e⟩ := h
  rw [eq_of_beq e]; exact hy
omit [Tb] in
omit [Tb] in
theorem Ct.bn (z : Ct BL GC X W N sc fb k) {x : Str} (h : blB BL sc x = true) : Gl X x ∧ X.mg x = none ∧ x ≠ "__name__" ∧ (x == ("__debug__" : Str)) = false := by
  simp only [blB, Bool.and_eq_true, Bool.not_eq_true'] at h
  obtain ⟨⟨h1, h2⟩, h3⟩ := h
  refine ⟨z.gl h1, z.bl x (str_contains h2), fun q => by rw [q] at h3; revert h3; decide, ?_⟩
  simp only [glB, okDbg, Bool.and_eq_true, Bool.not_eq_true'] at h1
  exact h1.2.1
/-- a module's constant -/
theorem Ct.g (z : Ct BL GC X W N sc fb k) {x : Str} {d : D} (j : Nat) (hj : GC[j]? = some (x, d)) (h : glB sc x = true) : SE X W (.Name x pos) (mC d) := by
  obtain ⟨u, v, h1, h2, h3⟩ := z.gc x d (List.mem_of_getElem? hj)
  refine se_const (t := tC v) (pe_glob (z.gl h) h1 h2 ?_) h3
  simp only [glB, okDbg, Bool.and_eq_true, Bool.not_eq_true'] at h
  exact h.2.1
/-- argument lists -/
structure SAL (X : Cx) (W : WX) (es : List Expr) (m : Py.Loc → Store → R (List D)) : Prop where
  sa : SA X W es m
  ln : ∀ e st ds st', m e st = .ok ds st' → ds.length = es.length
  ns : es.all noStar = true
theorem al_nil : SAL X W [] mNil := ⟨sa_nil, fun e st ds st' h => by cases h; rfl, rfl⟩
theorem al_cons {m : Py.Loc → Store → R (List D)} (h : SE X W e ma) (t : SAL X W es m) (hs : noStar e = true := by rfl) : SAL X W (e :: es) (mCons ma m) := by
  refine ⟨sa_cons h t.sa hs, fun l st ds st' q => ?_, by simp [hs, t.ns]⟩
  unfold mCons at q
  cases h1 : ma l st with
  | ok x st1 =>
    rw [h1] at q
    simp only [R.bind_ok] at q
    cases h2 : m l st1 with
    | ok xs st2 =>
      rw [h2] at q
      simp only [R.bind_ok] at q
      cases q
      simp [t.ln _ _ _ _ h2]
    | _ => rw [h2] at q; cases q
  | _ => rw [h1] at q; cases q
/-- a module's def, called -/
theorem Ct.call (z : Ct BL GC X W N sc fb k) {j n : Nat} {x : Str} {p : Pos} {m : Mean} {ma : Py.Loc → Store → R (List D)} (F : FnD X.prog X.w X.K X.mg X.base j x n m) (hj : j ≤ k) (h : glB sc x = true) (ha : SAL X W (e :: es) ma) (hn : (e :: es).length = n := by rfl) :
    SE X W (.Call (.Name x p) (e :: es) [] pos) (mCall m ma) := by
  refine se_call (F.mono hj) z.room z.tk (z.gl h) ha.sa hn ?_ ha.ns fun e st ds st' q => (ha.ln _ _ _ _ q).trans hn
  simp only [glB, okDbg, Bool.and_eq_true, Bool.not_eq_true'] at h
  exact h.2.1
/-- a built-in function, a type, called -/
theorem Ct.cb (z : Ct BL GC X W N sc fb k) {x : Str} {id : String} {p : Pos} {f : List D → Store → Option (D × Store)} {m : Py.Loc → Store → R (List D)} (hc : CallR X (.builtin id) (rN X.K X.mg f)) (hv : bootBuiltins x = some (.builtin id)) (h : blB BL sc x = true) (ha : SAL X W (e :: es) m) :
    SE X W (.Call (.Name x p) (e :: es) [] pos) (mOpN f m) := let ⟨h1, h2, h3, h4⟩ := z.bn h; se_callB hc h1 h2 hv ha.sa h3 h4 ha.ns
theorem Ct.ct (z : Ct BL GC X W N sc fb k) {x : Str} {T : String} {p : Pos} {f : List D → Store → Option (D × Store)} {m : Py.Loc → Store → R (List D)} (hc : CallR X (.type T) (rN X.K X.mg f)) (hv : bootBuiltins x = some (.type T)) (h : blB BL sc x = true) (ha : SAL X W (e :: es) m) :
    SE X W (.Call (.Name x p) (e :: es) [] pos) (mOpN f m) := let ⟨h1, h2, h3, h4⟩ := z.bn h; se_callTy hc h1 h2 hv ha.sa h3 h4 ha.ns
theorem Ct.len (z : Ct BL GC X W N sc fb k) {p : Pos} (ha : SE X W a ma) (h : blB BL sc "len" = true) (hs : noStar a = true := by rfl) : SE X W (.Call (.Name "len" p) [a] [] pos) (mOpN lenD (mCons ma mNil)) := z.cb ok_len boot_len h (al_cons ha al_nil hs)
theorem Ct.abs (z : Ct BL GC X W N sc fb k) {p : Pos} (ha : SE X W a ma) (h : blB BL sc "abs" = true) (hs : noStar a = true := by rfl) : SE X W (.Call (.Name "abs" p) [a] [] pos) (mOpN absD (mCons ma mNil)) := z.cb ok_abs (by decide +kernel) h (al_cons ha al_nil hs)
theorem Ct.int (z : Ct BL GC X W N sc fb k) {p : Pos} (ha : SE X W a ma) (h : blB BL sc "int" = true) (hs : noStar a = true := by rfl) : SE X W (.Call (.Name "int" p) [a] [] pos) (mOpN intD (mCons ma mNil)) := z.ct ok_int (by decide +kernel) h (al_cons ha al_nil hs)
theorem Ct.tuple (z : Ct BL GC X W N sc fb k) {p : Pos} (ha : SE X W a ma) (h : blB BL sc "tuple" = true) (hs : noStar a = true := by rfl) : SE X W (.Call (.Name "tuple" p) [a] [] pos) (mOpN tupD (mCons ma mNil)) := z.ct ok_tuple (by decide +kernel) h (al_cons ha al_nil hs)
theorem Ct.list (z : Ct BL GC X W N sc fb k) {p : Pos} (ha : SE X W a ma) (h : blB BL sc "list" = true) (hs : noStar a = true := by rfl) : SE X W (.Call (.Name "list" p) [a] [] pos) (mOpN listD (mCons ma mNil)) := z.ct (ok_list z.calm) (by decide +kernel) h (al_cons ha al_nil hs)
theorem Ct.sum (z : Ct BL GC X W N sc fb k) {p : Pos} (ha : SE X W a ma) (h : blB BL sc "sum" = true) (hs : noStar a = true := by rfl) : SE X W (.Call (.Name "sum" p) [a] [] pos) (mOpN sumD (mCons ma mNil)) := z.cb (ok_sum z.calm) (by decide +kernel) h (al_cons ha al_nil hs)
theorem Ct.any (z : Ct BL GC X W N sc fb k) {p : Pos} (ha : SE X W a ma) (h : blB BL sc "any" = true) (hs : noStar a = true := by rfl) : SE X W (.Call (.Name "any" p) [a] [] pos) (mOpN anyD (mCons ma mNil)) := z.cb (ok_any z.calm) (by decide +kernel) h (al_cons ha al_nil hs)
theorem Ct.all (z : Ct BL GC X W N sc fb k) {p : Pos} (ha : SE X W a ma) (h : blB BL sc "all" = true) (hs : noStar a = true := by rfl) : SE X W (.Call (.Name "all" p) [a] [] pos) (mOpN allD (mCons ma mNil)) := z.cb (ok_all z.calm) (by decide +kernel) h (al_cons ha al_nil hs)
theorem Ct.max (z : Ct BL GC X W N sc fb k) {p : Pos} {m : Py.Loc → Store → R (List D)} (h : blB BL sc "max" = true) (ha : SAL X W (e :: es) m) : SE X W (.Call (.Name "max" p) (e :: es) [] pos) (mOpN maxD' m) := z.cb (ok_max z.calm z.un1) (by decide +kernel) h ha
theorem Ct.min (z : Ct BL GC X W N sc fb k) {p : Pos} {m : Py.Loc → Store → R (List D)} (h : blB BL sc "min" = true) (ha : SAL X W (e :: es) m) : SE X W (.Call (.Name "min" p) (e :: es) [] pos) (mOpN minD' m) := z.cb (ok_min z.calm z.un1) (by decide +kernel) h ha
theorem Ct.lstRg (z : Ct BL GC X W N sc fb k) {p : Pos} {m : Py.Loc → Store → R (Int × Int)} (he : SR X W e m) (h : blB BL sc "list" = true) (hs : noStar e = true := by rfl) : SE X W (.Call (.Name "list" p) [e] [] pos) (mLstRg m) := let ⟨h1, h2, _⟩ := z.bn h; se_lstRg z.calm h1 h2 he hs
theorem Ct.tupRg (z : Ct BL GC X W N sc fb k) {p : Pos} {m : Py.Loc → Store → R (Int × Int)} (he : SR X W e m) (h : blB BL sc "tuple" = true) (hs : noStar e = true := by rfl) : SE X W (.Call (.Name "tuple" p) [e] [] pos) (mTupRg m) := let ⟨h1, h2, _⟩ := z.bn h; se_tupRg z.calm h1 h2 he hs
theorem Ct.sr1 (z : Ct BL GC X W N sc fb k) {p : Pos} (ha : SE X W a ma) (h : blB BL sc "range" = true) (hs : noStar a = true := by rfl) : SR X W (.Call (.Name "range" p) [a] [] pos) (mR1 ma) := let ⟨h1, h2, _⟩ := z.bn h; sr_1 h1 h2 ha hs
theorem Ct.sr2 (z : Ct BL GC X W N sc fb k) {p : Pos} (ha : SE X W a ma) (hb : SE X W b mb) (h : blB BL sc "range" = true) (hs : noStar a = true := by rfl) (hs2 : noStar b = true := by rfl) : SR X W (.Call (.Name "range" p) [a, b] [] pos) (mR2 ma mb) := let ⟨h1, h2, _⟩ := z.bn h; sr_2 h1 h2 ha hb hs hs2
omit [Tb] in
omit [Tb] in
/-- isinstance -/
def tyB (BL : List Str) (sc : Scope) (c : String) : Bool := blB BL sc (Str.ofString c) && tyOf.contains c
omit [Tb] in
omit [Tb] in
theorem Ct.ty (z : Ct BL GC X W N sc fb k) {c : String} {p : Pos} (h : tyB BL sc c = true) : TyNm X (.Name (Str.ofString c) p) c := by
  simp only [tyB, Bool.and_eq_true] at h
  obtain ⟨h1, h2, _⟩ := z.bn h.1
  exact ⟨p, rfl, by simpa using h.2, h1, h2⟩
theorem Ct.isi (z : Ct BL GC X W N sc fb k) {cn : String} {p : Pos} (ha : SE X W a ma) (hc : TyNm X c cn) (h : blB BL sc "isinstance" = true) (hs : noStar a = true := by rfl) : SE X W (.Call (.Name "isinstance" p) [a, c] [] pos) (mIsi ma [cn]) := let ⟨h1, h2, _⟩ := z.bn h; se_isi h1 h2 ha hc hs
theorem Ct.isiT (z : Ct BL GC X W N sc fb k) {cs : List String} {kk : Nat} {pt p : Pos} (ha : SE X W a ma) (hc : TyNms X es cs) (hl : cs.length ≤ 100) (h : blB BL sc "isinstance" = true) (hs : noStar a = true := by rfl) : SE X W (.Call (.Name "isinstance" p) [a, .Tuple es kk pt] [] pos) (mIsi ma cs) := let ⟨h1, h2, _⟩ := z.bn h; se_isiT h1 h2 ha hc hl hs
omit [Tb] in
omit [Tb] in
/-- all of `in` -/
noncomputable def inA (d1 d2 : D) (st : Store) : Option (D × Store) := match inDictD d1 d2 st with | some r => some r | none => inD d1 d2 st
omit [Tb] in
omit [Tb] in
noncomputable def ninA (d1 d2 : D) (st : Store) : Option (D × Store) := match ninDictD d1 d2 st with | some r => some r | none => ninD d1 d2 st
theorem Ct.opIn (z : Ct BL GC X W N sc fb k) : OpR X (compareOp .In) (r2 X.K X.mg inA) := OpR.imp ((ok_inDict z.un1).or (ok_in z.un65)) fun x y H Q ⟨ρ, st, d1, d2, rs, h1, h2, p⟩ => by
  unfold inA at p
  cases hq : inDictD d1 d2 st with
  | some r => rw [hq] at p; exact .inl ⟨ρ, st, d1, d2, rs, h1, h2, by rw [hq]; exact p⟩
  | none => rw [hq] at p; exact .inr ⟨ρ, st, d1, d2, rs, h1, h2, p⟩
theorem Ct.opNin (z : Ct BL GC X W N sc fb k) : OpR X (compareOp .NotIn) (r2 X.K X.mg ninA) := OpR.imp ((ok_ninDict z.un1).or (ok_nin z.un65)) fun x y H Q ⟨ρ, st, d1, d2, rs, h1, h2, p⟩ => by
  unfold ninA at p
  cases hq : ninDictD d1 d2 st with
  | some r => rw [hq] at p; exact .inl ⟨ρ, st, d1, d2, rs, h1, h2, by rw [hq]; exact p⟩
  | none => rw [hq] at p; exact .inr ⟨ρ, st, d1, d2, rs, h1, h2, p⟩
theorem Ct.ix (z : Ct BL GC X W N sc fb k) (ha : SE X W a ma) (hb : SE X W b mb) (hp : plainIx b = true := by rfl) : SE X W (.Subscript a b pos) (mOp2 ixD ma mb) := se_ix (ok_ix z.un1) ha hb hp
/-! iterators -/
theorem Ct.rg1 (z : Ct BL GC X W N sc fb k) {tg : Expr} {p : Pos} (ha : SE X W a ma) (h : blB BL sc "range" = true) (hs : noStar a = true := by rfl) : SI X W tg (.Call (.Name "range" p) [a] [] pos) (mRgs (mCons ma mNil)) :=
  let ⟨h1, h2, _⟩ := z.bn h; let l := al_cons (es := []) ha al_nil hs; si_rg1 h1 h2 l.sa hs l.ln
theorem Ct.rg2 (z : Ct BL GC X W N sc fb k) {tg : Expr} {p : Pos} (ha : SE X W a ma) (hb : SE X W b mb) (h : blB BL sc "range" = true) (hs : noStar a = true := by rfl) (hs2 : noStar b = true := by rfl) : SI X W tg (.Call (.Name "range" p) [a, b] [] pos) (mRgs (mCons ma (mCons mb mNil))) :=
  let ⟨h1, h2, _⟩ := z.bn h; let l := al_cons ha (al_cons (es := []) hb al_nil hs2) hs; si_rg2 h1 h2 l.sa hs hs2 l.ln
theorem Ct.rg3 (z : Ct BL GC X W N sc fb k) {tg : Expr} {p : Pos} (ha : SE X W a ma) (hb : SE X W b mb) (hc : SE X W c mc) (h : blB BL sc "range" = true) (hs : noStar a = true := by rfl) (hs2 : noStar b = true := by rfl) (hs3 : noStar c = true := by rfl) : SI X W tg (.Call (.Name "range" p) [a, b, c] [] pos) (mRgs (mCons ma (mCons mb (mCons mc mNil)))) :=
  let ⟨h1, h2, _⟩ := z.bn h; let l := al_cons ha (al_cons hb (al_cons (es := []) hc al_nil hs3) hs2) hs; si_rg3 h1 h2 l.sa hs hs2 hs3 l.ln
theorem Ct.enm (z : Ct BL GC X W N sc fb k) {tpos p : Pos} {elts : List Expr} {kk : Nat} (ha : SE X W a ma) (h : blB BL sc "enumerate" = true) (hs : noStar a = true := by rfl) : SI X W (.Tuple elts kk tpos) (.Call (.Name "enumerate" p) [a] [] pos) (mEn ma) := let ⟨h1, h2, _⟩ := z.bn h; pi_enumA h1 h2 ha hs
theorem Ct.zip (z : Ct BL GC X W N sc fb k) {tpos p : Pos} {elts : List Expr} {kk : Nat} (ha : SE X W a ma) (hb : SE X W b mb) (h : blB BL sc "zip" = true) (hs : noStar a = true := by rfl) (hs2 : noStar b = true := by rfl) : SI X W (.Tuple elts kk tpos) (.Call (.Name "zip" p) [a, b] [] pos) (mZp (mCons ma (mCons mb mNil))) :=
  let ⟨h1, h2, _⟩ := z.bn h; let l := al_cons ha (al_cons (es := []) hb al_nil hs2) hs; si_zip h1 h2 l.sa hs hs2 l.ln
theorem Ct.rev (z : Ct BL GC X W N sc fb k) {tg : Expr} {p : Pos} (ha : SE X W a ma) (h : blB BL sc "reversed" = true) (hs : noStar a = true := by rfl) : SI X W tg (.Call (.Name "reversed" p) [a] [] pos) (mRv ma) := let ⟨h1, h2, _⟩ := z.bn h; si_rev h1 h2 ha hs
/-! methods -/
theorem Ct.app (z : Ct BL GC X W N sc fb k) {ap : Pos} (ho : SE X W a ma) (hb : SE X W b mb) (hl : (ap.endLine == pos.line) = true := by rfl) (hs : noStar b = true := by rfl) (hc : noCall a = true := by rfl) : SE X W (.Call (.Attribute a "append" ap) [b] [] pos) (mMt appD ma (mCons mb mNil)) :=
  se_mtL F.slot_list_append F.type_list_append ok_app ho (al_cons (es := []) hb al_nil hs).sa hc hs hl
theorem Ct.ext (z : Ct BL GC X W N sc fb k) {ap : Pos} (ho : SE X W a ma) (hb : SE X W b mb) (hl : (ap.endLine == pos.line) = true := by rfl) (hs : noStar b = true := by rfl) (hc : noCall a = true := by rfl) : SE X W (.Call (.Attribute a "extend" ap) [b] [] pos) (mMt extD ma (mCons mb mNil)) :=
  se_mtL F.slot_list_extend F.type_list_extend ok_ext ho (al_cons (es := []) hb al_nil hs).sa hc hs hl
theorem Ct.pop (z : Ct BL GC X W N sc fb k) {ap : Pos} (ho : SE X W a ma) (hl : (ap.endLine == pos.line) = true := by rfl) (hc : noCall a = true := by rfl) : SE X W (.Call (.Attribute a "pop" ap) [] [] pos) (mMt popD ma mNil) :=
  se_mtL0 F.slot_list_pop F.type_list_pop ok_pop ho hc hl
theorem Ct.join (z : Ct BL GC X W N sc fb k) {ap : Pos} (ho : SE X W a ma) (hb : SE X W b mb) (hl : (ap.endLine == pos.line) = true := by rfl) (hs : noStar b = true := by rfl) (hc : noCall a = true := by rfl) : SE X W (.Call (.Attribute a "join" ap) [b] [] pos) (mMtS joinD ma mb) :=
  se_mtS F.slot_str_join F.type_str_join ok_join ho hb hc hs hl
/-! targets, stores -/
omit [Tb] in
omit [Tb] in
def locB (N : List Str) (sc : Scope) (fb : Str → Bool) (i : Nat) (x : Str) : Bool := decide (N[i]? = some x) && (match sc.names.lookup x with | some .local => true | some .cell => fb x | _ => false)
theorem Ct.lo (z : Ct BL GC X W N sc fb k) {i : Nat} {x : Str} (h : locB N sc fb i x = true) : X.N[i]? = some x ∧ L2.Loc X.env.scope x ∧ (X.fn x = true ∨ X.env.scope.names.lookup x = some .local) := by
  simp only [locB, Bool.and_eq_true, decide_eq_true_eq] at h
  refine ⟨by rw [z.hN]; exact h.1, ?_, ?_⟩
  · unfold L2.Loc; rw [z.hsc]
    have h2 := h.2
    split at h2
    · exact .inl (by assumption)
    · exact .inr (by assumption)
    · cases h2
  · rw [z.hsc, z.hfn]
    have h2 := h.2
    split at h2
    · exact .inr (by assumption)
    · exact .inl h2
    · cases h2
theorem Ct.tn (z : Ct BL GC X W N sc fb k) {i : Nat} {x : Str} (h : locB N sc fb i x = true) : SG X W (.Name x pos) (gN i) := let ⟨h1, h2, h3⟩ := z.lo h; sg_name (by rw [z.hN]; exact z.nd) h1 h2 h3
theorem Ct.tt (z : Ct BL GC X W N sc fb k) {kk : Nat} {gs : List D → Py.Loc → Store → Fl} (h : SGs X W es gs) (hs : es.all noStar = true := by rfl) : SG X W (.Tuple es kk pos) (gTp es.length gs) := sg_tup z.calm h hs
theorem Ct.ts (z : Ct BL GC X W N sc fb k) (ha : SE X W a ma) (hb : SE X W b mb) (hp : plainIx b = true := by rfl) : SG X W (.Subscript a b pos) (gSb setD ma mb) := sg_sub (ok_set z.un1) ha hb hp
omit [Tb] in
omit [Tb] in
def swB (value : Expr) (sc : Scope) (t : Str) (tp : Pos) : Bool := match value with
  | .ListComp _ _ s _ | .SetComp _ _ s _ | .DictComp _ _ _ s _ => (sc.names.lookup t == some .local) && (tp.line == value.pos.line) && !(s.names.any fun (n, k) => n == t && (k == .local || k == .cell))
  | _ => false
omit [Tb] in
omit [Tb] in
theorem swB_ok {env : PySem.Env} (hk : env.scope.kind = .function) (value : Expr) (t : Str) (tp : Pos) (l : Nat) : swapsWith value (some (.Name t tp)) l env = pure (swB value env.scope t tp) := by
  have hb : (env.blockKind == ScopeKind.function) = true := by unfold Env.blockKind; rw [hk]; rfl
  cases value with
  | ListComp => unfold swapsWith swB Env.kindOf; simp only [hb, Bool.true_and]
  | SetComp => unfold swapsWith swB Env.kindOf; simp only [hb, Bool.true_and]
  | DictComp => unfold swapsWith swB Env.kindOf; simp only [hb, Bool.true_and]
  | _ => rfl
theorem Ct.set (z : Ct BL GC X W N sc fb k) {i : Nat} {x : Str} {p' : Pos} (he : SE X W e ma) (h : (locB N sc fb i x && !swB e sc x p') = true) : SS X W (.Assign [.Name x p'] e pos) (sAsg ma (gN i)) := by
  simp only [Bool.and_eq_true, Bool.not_eq_true'] at h
  obtain ⟨h1, h2, h3⟩ := z.lo h.1
  exact ss_set (by rw [z.hN]; exact z.nd) h1 h2 he (by rw [swB_ok (by rw [z.hsc]; exact z.kind), z.hsc, h.2]) h3
theorem Ct.asg (z : Ct BL GC X W N sc fb k) {tg : Expr} {g : D → Py.Loc → Store → Fl} (he : SE X W e ma) (hg : SG X W tg g) (ht : Tgt g) (hs : noComp e = true) (hw : decide (swS sc [tg] e = some none) = true) (hn : noStar tg = true := by rfl) : SS X W (.Assign [tg] e pos) (sAsg ma g) :=
  ss_asg he hg ht (by rw [z.hsc]; exact z.kind) hs (by rw [z.hsc]; exact of_decide_eq_true hw) hn
omit [Tb] in
omit [Tb] in
def lcl (N : List Str) (sc : Scope) (i : Nat) (x : Str) : Bool := decide (N[i]? = some x) && decide (sc.names.lookup x = some .local)
theorem Ct.par2 (z : Ct BL GC X W N sc fb k) {i j : Nat} {x y : Str} {m : Py.Loc → Store → R (List D)} {px py pt : Pos} {kt k2 : Nat} {pt2 : Pos} (ha : SAL X W [a, b] m)
    (h : (lcl N sc i x && lcl N sc j y && !(i == j) && decide (swS sc [.Tuple [.Name x px, .Name y py] kt pt] (.Tuple [a, b] k2 pt2) = some (some [x, y]))) = true) :
    SS X W (.Assign [.Tuple [.Name x px, .Name y py] kt pt] (.Tuple [a, b] k2 pt2) pos) (sPar2 i j m) := by
  simp only [lcl, Bool.and_eq_true, decide_eq_true_eq, Bool.not_eq_true', beq_eq_false_iff_ne] at h
  obtain ⟨⟨⟨⟨h1, h2⟩, h3, h4⟩, h5⟩, h6⟩ := h
  exact ss_par2 (by rw [z.hsc]; exact z.kind) z.calm (by rw [z.hN]; exact z.nd) (by rw [z.hN]; exact h1) (by rw [z.hN]; exact h3) h5 (by rw [z.hsc]; exact h2) (by rw [z.hsc]; exact h4) ha.sa (by rw [z.hsc]; exact h6)
theorem Ct.par3 (z : Ct BL GC X W N sc fb k) {i j l : Nat} {x y w : Str} {m : Py.Loc → Store → R (List D)} {px py pw pt : Pos} {kt k2 : Nat} {pt2 : Pos} (ha : SAL X W [a, b, c] m)
    (h : (lcl N sc i x && lcl N sc j y && lcl N sc l w && !(i == j) && !(i == l) && !(j == l) && decide (swS sc [.Tuple [.Name x px, .Name y py, .Name w pw] kt pt] (.Tuple [a, b, c] k2 pt2) = some (some [x, y, w]))) = true) :
    SS X W (.Assign [.Tuple [.Name x px, .Name y py, .Name w pw] kt pt] (.Tuple [a, b, c] k2 pt2) pos) (sPar3 i j l m) := by
  simp only [lcl, Bool.and_eq_true, decide_eq_true_eq, Bool.not_eq_true', beq_eq_false_iff_ne] at h
  obtain ⟨⟨⟨⟨⟨⟨⟨h1, h2⟩, h3, h4⟩, h5, h6⟩, h7⟩, h8⟩, h9⟩, h10⟩ := h
  exact ss_par3 (by rw [z.hsc]; exact z.kind) z.calm (by rw [z.hN]; exact z.nd) (by rw [z.hN]; exact h1) (by rw [z.hN]; exact h3) (by rw [z.hN]; exact h5) h7 h8 h9 (by rw [z.hsc]; exact h2) (by rw [z.hsc]; exact h4) (by rw [z.hsc]; exact h6) ha.sa (by rw [z.hsc]; exact h10)
end
end Py

set_option Elab.async false
set_option linter.all false
set_option maxRecDepth 100000
set_option maxHeartbeats 1000000
namespace Py
open L2 PySem PySem.Spec PyProof.Rows
variable [Tb]
/-! ### blocks -/
omit [Tb] in
omit [Tb] in
def rl (scope sc : Scope) : Scope := { scope with names := scope.names.map fun (n, k) => if (k == .free && sc.kind == .function && sc.names.lookup n == some .cell) then (n, .cell) else (n, k) }
omit [Tb] in
omit [Tb] in
theorem rl_eq (scope : Scope) (env : PySem.Env) : relabel scope env = rl scope env.scope := rfl
omit [Tb] in
omit [Tb] in
def fbk (scope : Scope) : Str → Bool := fun x => scope.names.lookup x == some .cell
section
variable {BL : List Str} {GC : List (Str × D)} {X : Cx} {W : WX} {N : List Str} {sc : Scope} {fb : Str → Bool} {k : Nat} {pos : Pos} {e a b c : Expr} {es : List Expr} {ma mb mc : Py.Loc → Store → R D} {ta tb : Py.Loc → Store → R Bool}
omit [Tb] in
omit [Tb] in
theorem Ct.blk (z : Ct BL GC X W N sc fb k) {scope : Scope} (hk : scope.kind = .function) (s : Shared) (H : Hp) (C : Addr) (cl : List (Str × Addr)) (fp : List Addr) : Ct BL GC (X.blk s H scope (compEnvC scope cl C X.env) fp) W0 N (rl scope sc) (fbk scope) k where
  hN := z.hN
  nd := z.nd
  hsc := by show relabel scope X.env = _; rw [rl_eq, z.hsc]
  hfn := rfl
  kind := hk
  calm := z.calm
  room := z.room
  tk := fun u s' ⟨_, _, _, _, _, _, _, _, _, _, _, _, _, _, _, _, w⟩ => w.elim
  bl := z.bl
  gc := z.gc
abbrev STs (X : Cx) (W : WX) (es : List Expr) (m : Py.Loc → Store → R Bool) : Prop := PTs X es (tG X.K X.mg RB W m)
omit [Tb] in
omit [Tb] in
def mYes : Py.Loc → Store → R Bool := fun _ st => .ok true st
theorem ts_nil : STs X W [] mYes := ⟨fun pins s σ H Q I ⟨ρ, e, st, rs, re, p⟩ => pts_nil.run pins s σ H Q I (p ρ H true .refl rs rfl)⟩
theorem ts_one (h : ST X W a ta) : STs X W [a] ta := pts_one h
omit [Tb] in
omit [Tb] in
def inOwn (t : Tg) (vs : List Nat) : Bool := t.slots.all fun i => vs.contains i
omit [Tb] in
omit [Tb] in
theorem inOwn_ok {t : Tg} {vs : List Nat} (h : inOwn t vs = true) : ∀ i ∈ t.slots, i ∈ vs := fun i hi => by
  unfold inOwn at h
  rw [List.all_eq_true] at h
  simpa using h i hi
omit [Tb] in
omit [Tb] in
def lcB' (N : List Str) (sc scope : Scope) (own : List (Str × Nat)) (tg : Expr) (t : Tg) : Bool := blkC N sc scope own && tgOk N (fbk scope) (rl scope sc) tg t && inOwn t (own.map (·.2))
omit [Tb] in
omit [Tb] in
def kF (scope : Scope) (h : blkC N sc scope own = true) : scope.kind = .function := (blkOk_by h).kind
omit [Tb] in
omit [Tb] in
def noSet : Expr → Bool | .Set .. => false | _ => true
omit [Tb] in
omit [Tb] in
theorem noSet_ok {e : Expr} (h : noSet e = true) (env : PySem.Env) (x : Value) : foldedSetIterable e env x = pure x := by
  cases e with
  | Set => cases h
  | _ => rfl
theorem Ct.sgT (z : Ct BL GC X W N sc fb k) {tg : Expr} {t : Tg} (h : tgOk N fb sc tg t = true) : PG X tg (gTg X.K t) := sg_tg (by rw [z.hN]; exact z.nd) z.calm (by rw [z.hN, z.hfn, z.hsc]; exact h)
section
variable {elt tg iter : Expr} {ifs : List Expr} {scope : Scope} {mi : Py.Loc → Store → R Iter} {mt : Py.Loc → Store → R Bool} {me mk mv : Py.Loc → Store → R D} {t : Tg}
theorem Ct.lc (z : Ct BL GC X W N sc fb k) (own : List (Str × Nat)) (hi : SI X W tg iter mi) (h : lcB' N sc scope own tg t = true)
    (ht : ∀ (s : Shared) (H : Hp) (C : Addr) (cl : List (Str × Addr)) (fp : List Addr), Ct BL GC (X.blk s H scope (compEnvC scope cl C X.env) fp) W0 N (rl scope sc) (fbk scope) k → STs (X.blk s H scope (compEnvC scope cl C X.env) fp) W0 ifs mt)
    (he : ∀ (s : Shared) (H : Hp) (C : Addr) (cl : List (Str × Addr)) (fp : List Addr), Ct BL GC (X.blk s H scope (compEnvC scope cl C X.env) fp) W0 N (rl scope sc) (fbk scope) k → SE (X.blk s H scope (compEnvC scope cl C X.env) fp) W0 elt me) (hs : noSet iter = true := by rfl) :
    SE X W (.ListComp elt [⟨tg, iter, ifs, 0⟩] scope pos) (mLc mi t mt me (own.map (·.2))) := by
  simp only [lcB', Bool.and_eq_true] at h
  have ok := blkOk_by h.1.1
  exact PE.imp (pe_lc (wi := tG X.K X.mg (RI X.K X.mg) W mi) (g := gTg X.K t) (tt := tG X.K X.mg RB W0 mt) (te := tG X.K X.mg (RD X.K X.mg) W0 me) z.calm (by rw [z.hN]; exact z.nd) hi (by rw [z.hN, z.hsc]; exact ok) (fun s H C cl fp => (z.blk ok.kind s H C cl fp).sgT h.1.2) (fun s H C cl fp => ht s H C cl fp (z.blk ok.kind s H C cl fp)) (fun s H C cl fp => he s H C cl fp (z.blk ok.kind s H C cl fp)) (fun x => noSet_ok hs _ x)) (lc_of (inOwn_ok h.2))
theorem Ct.setLc (z : Ct BL GC X W N sc fb k) {i : Nat} {y : Str} {py spos : Pos} (own : List (Str × Nat)) (hi : SI X W tg iter mi) (h : (lcB' N sc scope own tg t && lcl N sc i y && swB (.ListComp elt [⟨tg, iter, ifs, 0⟩] scope pos) sc y py) = true)
    (ht : ∀ (s : Shared) (H : Hp) (C : Addr) (cl : List (Str × Addr)) (fp : List Addr), Ct BL GC (X.blk s H scope (compEnvC scope cl C X.env) fp) W0 N (rl scope sc) (fbk scope) k → STs (X.blk s H scope (compEnvC scope cl C X.env) fp) W0 ifs mt)
    (he : ∀ (s : Shared) (H : Hp) (C : Addr) (cl : List (Str × Addr)) (fp : List Addr), Ct BL GC (X.blk s H scope (compEnvC scope cl C X.env) fp) W0 N (rl scope sc) (fbk scope) k → SE (X.blk s H scope (compEnvC scope cl C X.env) fp) W0 elt me) (hs : noSet iter = true := by rfl) :
    SS X W (.Assign [.Name y py] (.ListComp elt [⟨tg, iter, ifs, 0⟩] scope pos) spos) (sAsg (mLc mi t mt me (own.map (·.2))) (gN i)) := by
  simp only [lcB', lcl, Bool.and_eq_true, decide_eq_true_eq] at h
  obtain ⟨⟨h, h1, h2⟩, h3⟩ := h
  have ok := blkOk_by h.1.1
  refine PS.imp (ps_setLc (i := i) (wi := tG X.K X.mg (RI X.K X.mg) W mi) (g := gTg X.K t) (tt := tG X.K X.mg RB W0 mt) (te := tG X.K X.mg (RD X.K X.mg) W0 me) z.calm (by rw [z.hN]; exact z.nd) (by rw [z.hN]; exact h1) (by rw [z.hsc]; exact h2) (by rw [swB_ok (by rw [z.hsc]; exact z.kind), z.hsc, h3]) hi (by rw [z.hN, z.hsc]; exact ok) (fun s H C cl fp => (z.blk ok.kind s H C cl fp).sgT h.1.2) (fun s H C cl fp => ht s H C cl fp (z.blk ok.kind s H C cl fp)) (fun s H C cl fp => he s H C cl fp (z.blk ok.kind s H C cl fp)) (fun x => noSet_ok hs _ x)) fun Dn σ H q => ?_
  obtain ⟨ρ, e, st, rs, re, p⟩ := q
  refine lc_of (inOwn_ok h.2) σ H _ ⟨ρ, e, st, rs, re, (PostS.to p re).imp fun x H1 ⟨d, ρ1, st1, x1, rs1, rd1, p1⟩ => ?_⟩
  exact p1 ρ1 H1 _ .refl rs1 ((re.mono x1).set rd1)
theorem Ct.dc (z : Ct BL GC X W N sc fb k) {kx vx : Expr} (own : List (Str × Nat)) (hi : SI X W tg iter mi) (h : lcB' N sc scope own tg t = true)
    (ht : ∀ (s : Shared) (H : Hp) (C : Addr) (cl : List (Str × Addr)) (fp : List Addr), Ct BL GC (X.blk s H scope (compEnvC scope cl C X.env) fp) W0 N (rl scope sc) (fbk scope) k → STs (X.blk s H scope (compEnvC scope cl C X.env) fp) W0 ifs mt)
    (hk : ∀ (s : Shared) (H : Hp) (C : Addr) (cl : List (Str × Addr)) (fp : List Addr), Ct BL GC (X.blk s H scope (compEnvC scope cl C X.env) fp) W0 N (rl scope sc) (fbk scope) k → SE (X.blk s H scope (compEnvC scope cl C X.env) fp) W0 kx mk)
    (hv : ∀ (s : Shared) (H : Hp) (C : Addr) (cl : List (Str × Addr)) (fp : List Addr), Ct BL GC (X.blk s H scope (compEnvC scope cl C X.env) fp) W0 N (rl scope sc) (fbk scope) k → SE (X.blk s H scope (compEnvC scope cl C X.env) fp) W0 vx mv) (hs : noSet iter = true := by rfl) :
    SE X W (.DictComp kx vx [⟨tg, iter, ifs, 0⟩] scope pos) (mDc mi t mt mk mv (own.map (·.2))) := by
  simp only [lcB', Bool.and_eq_true] at h
  have ok := blkOk_by h.1.1
  exact PE.imp (pe_dc z.calm (by rw [z.hN]; exact z.nd) hi (by rw [z.hN, z.hsc]; exact ok) (fun s H C cl fp => (z.blk ok.kind s H C cl fp).sgT h.1.2) (fun s H C cl fp => ht s H C cl fp (z.blk ok.kind s H C cl fp)) (fun s H C cl fp => hk s H C cl fp (z.blk ok.kind s H C cl fp)) (fun s H C cl fp => hv s H C cl fp (z.blk ok.kind s H C cl fp)) (fun x => noSet_ok hs _ x)) (dc_of (inOwn_ok h.2))
theorem ps_setDc {i : Nat} {y : Str} {py : Pos} {kx vx tg iter : Expr} {ifs : List Expr} {scope : Scope} {own : List (Str × Nat)} {pos spos : Pos} {wi : TI} {g : TG} {tt : TT} {tk tv : TE} (hc : X.calm = true) (hN : X.N.Nodup) (hy : X.N[i]? = some y) (hyl : X.env.scope.names.lookup y = some .local)
    (hsw : swapsWith (.DictComp kx vx [⟨tg, iter, ifs, 0⟩] scope pos) (some (.Name y py)) spos.line X.env = pure true) (hi : PI X tg iter wi) (ok : BlkOk X.N X.env.scope scope own)
    (hg : ∀ (s : Shared) (H : Hp) (C : Addr) (cl : List (Str × Addr)) (fp : List Addr), PG (X.blk s H scope (compEnvC scope cl C X.env) fp) tg g) (ht : ∀ (s : Shared) (H : Hp) (C : Addr) (cl : List (Str × Addr)) (fp : List Addr), PTs (X.blk s H scope (compEnvC scope cl C X.env) fp) ifs tt)
    (hk : ∀ (s : Shared) (H : Hp) (C : Addr) (cl : List (Str × Addr)) (fp : List Addr), PE (X.blk s H scope (compEnvC scope cl C X.env) fp) kx tk)
    (he : ∀ (s : Shared) (H : Hp) (C : Addr) (cl : List (Str × Addr)) (fp : List Addr), PE (X.blk s H scope (compEnvC scope cl C X.env) fp) vx tv) (hs : ∀ x, foldedSetIterable iter X.env x = pure x) :
    PS X (.Assign [.Name y py] (.DictComp kx vx [⟨tg, iter, ifs, 0⟩] scope pos) spos) (tAsg (tDc wi g tt tk tv (own.map (·.2))) (gName i)) := by
  refine ⟨fun pins s σ H D I h => ?_⟩
  rw [exec_Assign_Name_used _ _ _ _ hsw]
  refine wpAny_bind (wpAny_standAt (wpAny_bind ?_))
  show wpAny _ X.A (do let _ ← comprehension (.DictComp kx vx [⟨tg, iter, ifs, 0⟩] scope pos) scope X.env (firstIterPos [⟨tg, iter, ifs, 0⟩] pos) newDict false (eval iter X.env) (some (assign (.Name y py) X.env))) _ _ s
  have h : tDc wi g tt tk tv (own.map (·.2)) σ H (fun x H1 => gName i x σ H1 D.nx) := h
  refine wpAny_bind (thn (dc_core (Qf := fun _ s' => SP X pins D .next s') hc hN I hi ok hg ht hk he hs h fun L C s' m H' I' q hn f => ?_) fun _ s' hq => wpAny_pure (wpAny_pure hq))
  show wpAny _ _ (assign (.Name y py) X.env (.ref L)) _ _ _
  refine wpAny_assign_Name (store_ok2 (v := V.ref L) I' hN hy (.inl hyl) rfl (fun s2 I2 ⟨a, sb, ha⟩ => ?_) (.inr hyl))
  obtain ⟨f0, f1, f2, f3, f4, f5⟩ := f
  have haC : C ≠ a := by
    rcases ha with z | z
    · rw [z]; exact f1
    · exact fun e => f4 y a z e.symm
  refine ⟨m, hn.sameBut sb haC, fun h3 sb3 => ?_⟩
  exact ⟨_, H', I2.turned (t' := s2.toks) (fun b o hb e => (sb3.2 b hb).trans e) f0 f1 f3 f4 f5, q⟩
theorem Ct.setDc (z : Ct BL GC X W N sc fb k) {i : Nat} {y : Str} {py spos : Pos} {kx vx : Expr} (own : List (Str × Nat)) (hi : SI X W tg iter mi) (h : (lcB' N sc scope own tg t && lcl N sc i y && swB (.DictComp kx vx [⟨tg, iter, ifs, 0⟩] scope pos) sc y py) = true)
    (ht : ∀ (s : Shared) (H : Hp) (C : Addr) (cl : List (Str × Addr)) (fp : List Addr), Ct BL GC (X.blk s H scope (compEnvC scope cl C X.env) fp) W0 N (rl scope sc) (fbk scope) k → STs (X.blk s H scope (compEnvC scope cl C X.env) fp) W0 ifs mt)
    (hk : ∀ (s : Shared) (H : Hp) (C : Addr) (cl : List (Str × Addr)) (fp : List Addr), Ct BL GC (X.blk s H scope (compEnvC scope cl C X.env) fp) W0 N (rl scope sc) (fbk scope) k → SE (X.blk s H scope (compEnvC scope cl C X.env) fp) W0 kx mk)
    (hv : ∀ (s : Shared) (H : Hp) (C : Addr) (cl : List (Str × Addr)) (fp : List Addr), Ct BL GC (X.blk s H scope (compEnvC scope cl C X.env) fp) W0 N (rl scope sc) (fbk scope) k → SE (X.blk s H scope (compEnvC scope cl C X.env) fp) W0 vx mv) (hs : noSet iter = true := by rfl) :
    SS X W (.Assign [.Name y py] (.DictComp kx vx [⟨tg, iter, ifs, 0⟩] scope pos) spos) (sAsg (mDc mi t mt mk mv (own.map (·.2))) (gN i)) := by
  simp only [lcB', lcl, Bool.and_eq_true, decide_eq_true_eq] at h
  obtain ⟨⟨h, h1, h2⟩, h3⟩ := h
  have ok := blkOk_by h.1.1
  refine PS.imp (ps_setDc (i := i) (wi := tG X.K X.mg (RI X.K X.mg) W mi) (g := gTg X.K t) (tt := tG X.K X.mg RB W0 mt) (tk := tG X.K X.mg (RD X.K X.mg) W0 mk) (tv := tG X.K X.mg (RD X.K X.mg) W0 mv) z.calm (by rw [z.hN]; exact z.nd) (by rw [z.hN]; exact h1) (by rw [z.hsc]; exact h2) (by rw [swB_ok (by rw [z.hsc]; exact z.kind), z.hsc, h3]) hi (by rw [z.hN, z.hsc]; exact ok) (fun s H C cl fp => (z.blk ok.kind s H C cl fp).sgT h.1.2) (fun s H C cl fp => ht s H C cl fp (z.blk ok.kind s H C cl fp)) (fun s H C cl fp => hk s H C cl fp (z.blk ok.kind s H C cl fp)) (fun s H C cl fp => hv s H C cl fp (z.blk ok.kind s H C cl fp)) (fun x => noSet_ok hs _ x)) fun Dn σ H q => ?_
  obtain ⟨ρ, e, st, rs, re, p⟩ := q
  refine dc_of (inOwn_ok h.2) σ H _ ⟨ρ, e, st, rs, re, (PostS.to p re).imp fun x H1 ⟨d, ρ1, st1, x1, rs1, rd1, p1⟩ => ?_⟩
  exact p1 ρ1 H1 _ .refl rs1 ((re.mono x1).set rd1)
variable {tg1 iter1 : Expr} {ifs1 : List Expr} {mi1 : Py.Loc → Store → R Iter} {mt1 : Py.Loc → Store → R Bool} {t1 : Tg}
omit [Tb] in
omit [Tb] in
def lc2B' (N : List Str) (sc scope : Scope) (own : List (Str × Nat)) (vs1 : List Nat) (tg : Expr) (t : Tg) (tg1 : Expr) (t1 : Tg) : Bool := lcB' N sc scope own tg t && tgOk N (fbk scope) (rl scope sc) tg1 t1 && inOwn t1 vs1 && vs1.all fun i => (own.map (·.2)).contains i
theorem Ct.lc2 (z : Ct BL GC X W N sc fb k) (own : List (Str × Nat)) (vs1 : List Nat) (hi : SI X W tg iter mi) (h : lc2B' N sc scope own vs1 tg t tg1 t1 = true)
    (ht : ∀ (s : Shared) (H : Hp) (C : Addr) (cl : List (Str × Addr)) (fp : List Addr), Ct BL GC (X.blk s H scope (compEnvC scope cl C X.env) fp) W0 N (rl scope sc) (fbk scope) k → STs (X.blk s H scope (compEnvC scope cl C X.env) fp) W0 ifs mt)
    (hi1 : ∀ (s : Shared) (H : Hp) (C : Addr) (cl : List (Str × Addr)) (fp : List Addr), Ct BL GC (X.blk s H scope (compEnvC scope cl C X.env) fp) W0 N (rl scope sc) (fbk scope) k → SI (X.blk s H scope (compEnvC scope cl C X.env) fp) W0 tg1 iter1 mi1)
    (ht1 : ∀ (s : Shared) (H : Hp) (C : Addr) (cl : List (Str × Addr)) (fp : List Addr), Ct BL GC (X.blk s H scope (compEnvC scope cl C X.env) fp) W0 N (rl scope sc) (fbk scope) k → STs (X.blk s H scope (compEnvC scope cl C X.env) fp) W0 ifs1 mt1)
    (he : ∀ (s : Shared) (H : Hp) (C : Addr) (cl : List (Str × Addr)) (fp : List Addr), Ct BL GC (X.blk s H scope (compEnvC scope cl C X.env) fp) W0 N (rl scope sc) (fbk scope) k → SE (X.blk s H scope (compEnvC scope cl C X.env) fp) W0 elt me) (hs : noSet iter = true := by rfl) (hs1 : noSet iter1 = true := by rfl) :
    SE X W (.ListComp elt [⟨tg, iter, ifs, 0⟩, ⟨tg1, iter1, ifs1, 0⟩] scope pos) (mLc2 mi t mt mi1 t1 mt1 me (own.map (·.2)) vs1) := by
  simp only [lc2B', lcB', Bool.and_eq_true, List.all_eq_true] at h
  obtain ⟨⟨⟨h, h1⟩, h2⟩, h3⟩ := h
  have ok := blkOk_by h.1.1
  exact PE.imp (pe_lc2 (wi := tG X.K X.mg (RI X.K X.mg) W mi) (g := gTg X.K t) (tt := tG X.K X.mg RB W0 mt) (wi1 := tG X.K X.mg (RI X.K X.mg) W0 mi1) (g1 := gTg X.K t1) (tt1 := tG X.K X.mg RB W0 mt1) (te := tG X.K X.mg (RD X.K X.mg) W0 me) z.calm (by rw [z.hN]; exact z.nd) hi (by rw [z.hN, z.hsc]; exact ok) (fun i hi => by simpa using h3 i hi) (fun s H C cl fp => (z.blk ok.kind s H C cl fp).sgT h.1.2) (fun s H C cl fp => ht s H C cl fp (z.blk ok.kind s H C cl fp)) (fun s H C cl fp => hi1 s H C cl fp (z.blk ok.kind s H C cl fp))
    (fun s H C cl fp => (z.blk ok.kind s H C cl fp).sgT h1) (fun s H C cl fp => ht1 s H C cl fp (z.blk ok.kind s H C cl fp)) (fun s H C cl fp => he s H C cl fp (z.blk ok.kind s H C cl fp)) (fun x => noSet_ok hs _ x) (fun env x => noSet_ok hs1 env x)) (lc2_of (inOwn_ok h.2) (inOwn_ok h2))
theorem Ct.setLc2 (z : Ct BL GC X W N sc fb k) {i : Nat} {y : Str} {py spos : Pos} (own : List (Str × Nat)) (vs1 : List Nat) (hi : SI X W tg iter mi) (h : (lc2B' N sc scope own vs1 tg t tg1 t1 && lcl N sc i y && swB (.ListComp elt [⟨tg, iter, ifs, 0⟩, ⟨tg1, iter1, ifs1, 0⟩] scope pos) sc y py) = true)
    (ht : ∀ (s : Shared) (H : Hp) (C : Addr) (cl : List (Str × Addr)) (fp : List Addr), Ct BL GC (X.blk s H scope (compEnvC scope cl C X.env) fp) W0 N (rl scope sc) (fbk scope) k → STs (X.blk s H scope (compEnvC scope cl C X.env) fp) W0 ifs mt)
    (hi1 : ∀ (s : Shared) (H : Hp) (C : Addr) (cl : List (Str × Addr)) (fp : List Addr), Ct BL GC (X.blk s H scope (compEnvC scope cl C X.env) fp) W0 N (rl scope sc) (fbk scope) k → SI (X.blk s H scope (compEnvC scope cl C X.env) fp) W0 tg1 iter1 mi1)
    (ht1 : ∀ (s : Shared) (H : Hp) (C : Addr) (cl : List (Str × Addr)) (fp : List Addr), Ct BL GC (X.blk s H scope (compEnvC scope cl C X.env) fp) W0 N (rl scope sc) (fbk scope) k → STs (X.blk s H scope (compEnvC scope cl C X.env) fp) W0 ifs1 mt1)
    (he : ∀ (s : Shared) (H : Hp) (C : Addr) (cl : List (Str × Addr)) (fp : List Addr), Ct BL GC (X.blk s H scope (compEnvC scope cl C X.env) fp) W0 N (rl scope sc) (fbk scope) k → SE (X.blk s H scope (compEnvC scope cl C X.env) fp) W0 elt me) (hs : noSet iter = true := by rfl) (hs1 : noSet iter1 = true := by rfl) :
    SS X W (.Assign [.Name y py] (.ListComp elt [⟨tg, iter, ifs, 0⟩, ⟨tg1, iter1, ifs1, 0⟩] scope pos) spos) (sAsg (mLc2 mi t mt mi1 t1 mt1 me (own.map (·.2)) vs1) (gN i)) := by
  simp only [lc2B', lcB', lcl, Bool.and_eq_true, decide_eq_true_eq, List.all_eq_true] at h
  obtain ⟨⟨⟨⟨⟨h, h1⟩, h2⟩, h3⟩, h4, h5⟩, h6⟩ := h
  have ok := blkOk_by h.1.1
  refine PS.imp (ps_setLc2 (i := i) (wi := tG X.K X.mg (RI X.K X.mg) W mi) (g := gTg X.K t) (tt := tG X.K X.mg RB W0 mt) (wi1 := tG X.K X.mg (RI X.K X.mg) W0 mi1) (g1 := gTg X.K t1) (tt1 := tG X.K X.mg RB W0 mt1) (te := tG X.K X.mg (RD X.K X.mg) W0 me) z.calm (by rw [z.hN]; exact z.nd) (by rw [z.hN]; exact h4) (by rw [z.hsc]; exact h5) (by rw [swB_ok (by rw [z.hsc]; exact z.kind), z.hsc, h6]) hi (by rw [z.hN, z.hsc]; exact ok) (fun i hi => by simpa using h3 i hi) (fun s H C cl fp => (z.blk ok.kind s H C cl fp).sgT h.1.2) (fun s H C cl fp => ht s H C cl fp (z.blk ok.kind s H C cl fp)) (fun s H C cl fp => hi1 s H C cl fp (z.blk ok.kind s H C cl fp))
    (fun s H C cl fp => (z.blk ok.kind s H C cl fp).sgT h1) (fun s H C cl fp => ht1 s H C cl fp (z.blk ok.kind s H C cl fp)) (fun s H C cl fp => he s H C cl fp (z.blk ok.kind s H C cl fp)) (fun x => noSet_ok hs _ x) (fun env x => noSet_ok hs1 env x)) fun Dn σ H q => ?_
  obtain ⟨ρ, e, st, rs, re, p⟩ := q
  refine lc2_of (inOwn_ok h.2) (inOwn_ok h2) σ H _ ⟨ρ, e, st, rs, re, (PostS.to p re).imp fun x H1 ⟨d, ρ1, st1, x1, rs1, rd1, p1⟩ => ?_⟩
  exact p1 ρ1 H1 _ .refl rs1 ((re.mono x1).set rd1)
end
end
/-! ### a def -/
structure Cf (BL : List Str) (GC : List (Str × D)) (X : Cx) (W : WX) (N : List Str) (sc : Scope) (k : Nat) : Prop extends Ct BL GC X W N sc (fun _ => true) k where
  ps : PassesOwn (model X.prog X.w) X.A X.env X.xe
section
variable {BL : List Str} {GC : List (Str × D)} {X : Cx} {W : WX} {N : List Str} {sc : Scope} {k : Nat} {pos : Pos}
theorem Cf.for_ (z : Cf BL GC X W N sc k) {tg iter : Expr} {body : List Stmt} {mi : Py.Loc → Store → R Iter} {g : D → Py.Loc → Store → Fl} {b : Py.Loc → Store → Fl} (hi : SI X W tg iter mi) (hg : SG X W tg g) (ht : Tgt g) (hb : SSs X W body b) (hs : noSet iter = true := by rfl) : SS X W (.For tg iter body [] pos) (sFor mi g b) :=
  ss_for z.ps z.calm hi hg ht hb fun x => noSet_ok hs _ x
theorem Cf.whl (z : Cf BL GC X W N sc k) {c : Expr} {body : List Stmt} {mc : Py.Loc → Store → R Bool} {b : Py.Loc → Store → Fl} (hc : ST X W c mc) (hb : SSs X W body b) : SS X W (.While c body [] pos) (sWh mc b) := ss_while z.ps hc hb
theorem sss_stuck {body : List Stmt} : SSs X W body (fun _ _ => .stuck) := ⟨fun pins s σ H Q I ⟨_, _, _, _, _, p⟩ => p.elim⟩
end
section
variable {P : Program} {w : World} {K : PySem.W.Frag} {mg : Str → Option Value} {base : Heap}
/-- what the laws' heads tell of a def -/
structure Def (K : PySem.W.Frag) (mg : Str → Option Value) (x : Str) (st : Stmt) (N ps : List Str) : Prop where
  ex : ∃ f fd, L2.Fun K x x st f fd ∧ mg x = some (.ref f) ∧ Binds K fd ps []
  sc : FnScope N ps (defScope st)
theorem Def.fn (BL : List Str) (GC : List (Str × D)) {x : Str} {st : Stmt} {N ps : List Str} (F : Def K mg x st N ps) {k : Nat} {mb : Py.Loc → Store → Fl} (hbl : ∀ x ∈ BL, mg x = none) (hgc : ∀ x d, (x, d) ∈ GC → ∃ u v, mg x = some u ∧ RelV v u ∧ ∀ ρ H, RD K mg ρ H d v)
    (hb : ∀ (X : Cx) (W : WX), X.prog = P → X.w = w → X.K = K → X.mg = mg → X.base = base → Cf BL GC X W N (defScope st) k → SSs X W (defBody st) mb) : FnD P w K mg base (k + 1) x ps.length (runD N mb) := by
  obtain ⟨f, fd, h1, h2, h3⟩ := F.ex
  refine fnD_of h1 h2 h3 F.sc fun X W e1 e2 e3 e4 e5 e6 e7 e8 e9 _ _ r t p => hb X W e1 e2 e3 e4 e5 { hN := e6, nd := F.sc.nd, hsc := e7, hfn := e8, kind := F.sc.kind, calm := e9, room := r, tk := t, bl := by rw [e4]; exact hbl, gc := by rw [e4, e3]; exact hgc, ps := p }
theorem Def.stuck {x : Str} {st : Stmt} {N ps : List Str} (F : Def K mg x st N ps) {k : Nat} : FnD P w K mg base (k + 1) x ps.length (runD N fun _ _ => .stuck) := by
  obtain ⟨f, fd, h1, h2, h3⟩ := F.ex
  exact fnD_of h1 h2 h3 F.sc fun X W _ _ _ _ _ _ _ _ _ _ _ _ _ _ => sss_stuck
end
end Py

set_option Elab.async false
set_option linter.all false
set_option maxRecDepth 100000
set_option maxHeartbeats 1000000
/-! sorting tuples of which some are empty -/
namespace PySem.W
open PySem PySem.Calls PyProof.Rows PySem.SeqAt
section
variable {A : Around} {s : Shared}
theorem call_tuple_lt {prog : Program} {w : World} {E : Value → Shared → Prop} {Q : Value → Shared → Prop} {l b : Addr} {items items2 : Array Value} {e r : Nat → Bool} (hl : s.heap.IsTuple l items) (hb : s.heap.IsTuple b items2)
    (he : ∀ j (h1 : j < items.size) (h2 : j < items2.size), EqAt A.in1 s items[j] items2[j] (e j)) (hr : ∀ j (h1 : j < items.size) (h2 : j < items2.size), e j = false → RcLt A.in1 s items[j] items2[j] (r j))
    (h : Q (.bool (firstLt e r (decide (items.size < items2.size)) (List.range (min items.size items2.size)))) s) : wpAny (model prog w) A (call (.builtin "tuple.__lt__") [.ref l, .ref b]) Q E s := by
  obtain ⟨⟨cls, dd, data, sl⟩, ho, hc, n, hd⟩ := id hl
  obtain ⟨⟨cls2, dd2, data2, sl2⟩, ho2, hc2, n2, hd2⟩ := id hb
  simp only at hc hd hc2 hd2
  subst hc hd hc2 hd2
  exact call_meets F.slot_tuple_lt ⟨_, ho, rfl⟩ F.entry_tuple_lt (F.args_tuple_lt_2 _ _) (tuple_ltAt l b items items2 n n2 dd dd2 sl sl2 e r) ⟨ho, ho2, he, hr, h⟩
def neT : PyData → Bool | .tuple (_ :: _) => true | _ => false
end
section
variable {prog : Program} {w : World} {A : Around} {s : Shared} {E : Value → Shared → Prop}
theorem oneLt_tup {xs ys : List PyData} {a b : Value} {as bs : List Addr} {Q : Bool → Shared → Prop} (ra : Reads s.heap a (.tuple xs) as) (rb : Reads s.heap b (.tuple ys) bs) (hal : alikeAll xs ys = true)
    (hu : A.units + min (PyData.depth (.tuple xs)) (PyData.depth (.tuple ys)) < cLine) (hq : Q (dataLt (.tuple xs) (.tuple ys)) s) : wpAny (model prog w) A (oneLt' true a b) Q E s := by
  cases ra with
  | @tuple l o vs n _ as₁ h1 h2 h3 h4 =>
    cases rb with
    | @tuple l' o' vs' n' _ bs₁ k1 k2 k3 k4 =>
      have n1 : vs.size = xs.length := by simpa using SeqAt.ReadsAll.length _ _ _ h4
      have n2 : vs'.size = ys.length := by simpa using SeqAt.ReadsAll.length _ _ _ k4
      rw [dataLt_tuple, ← firstLt_toks xs ys hal, ← n1, ← n2] at hq
      rw [oneLt'_eq]
      simp only [if_true]
      refine wpAny_bind (wpAny_cRoomFor (room_here hu) ?_)
      refine wpAny_bind (wpAny_callSpecialIfBound?_slot (T := "tuple") ⟨_, h1, h2⟩ F.slot_tuple_lt (call_tuple_lt (e := pairEq xs ys) (r := fun j => dataLt (xs.getD j .none) (ys.getD j .none)) ⟨_, h1, h2, _, h3⟩ ⟨_, k1, k2, _, k3⟩ (fun j j1 j2 => ?_) (fun j j1 j2 hj => ?_) ?_))
      · have := eqAt_alikeAll xs ys A.in1 s vs.toList vs'.toList _ _ h4 k4 hal (room_in hu) j (by simpa using j1) (by simpa using j2)
        simpa using this
      · have := rcLt_alikeAll xs ys A.in1 s vs.toList vs'.toList _ _ h4 k4 hal (room_in hu) j (by simpa using j1) (by simpa using j2) hj
        simpa using this
      · exact wpAny_truthy_bool hq
theorem firsts_mix {M : Model} : ∀ (vs : List Value) (ds : List PyData) {Q : List (Option Value) → Shared → Prop}, EachIs (fun v d => ∃ as, Reads s.heap v d as) vs ds → (∀ d, d ∈ ds → ∃ xs, d = .tuple xs) →
    (∀ fs : List (Option Value), fs.map Option.isSome = ds.map neT → Q fs s) → wpAny M A (vs.mapM firstOfTuple') Q E s
  | [], [], Q, _, _, h => by rw [List.mapM_nil]; exact wpAny_pure (h [] rfl)
  | v :: vs, d :: ds, Q, .cons ⟨as, r⟩ t, ht, h => by
    obtain ⟨xs, rfl⟩ := ht d (List.mem_cons_self ..)
    rw [List.mapM_cons]
    refine wpAny_bind ?_
    rw [kas_first_eq]
    cases r with
    | @tuple a o ys n _ _ ho hc hd hr =>
      refine wpAny_bind (Looks.here (show Looks M s.heap (typeOf (.ref a)) o.cls from (Looks.ld ho).andThen .now) ?_)
      rw [hc, if_neg (by first | decide | simp)]
      refine wpAny_bind (listItems_at ho hd (wpAny_pure ?_))
      refine wpAny_bind (firsts_mix vs ds (Q := fun bs s' => wpAny M A (pure (ys[0]? :: bs)) Q E s') t (fun d hd => ht d (List.mem_cons_of_mem _ hd)) fun fs hf => wpAny_pure (h _ ?_))
      rw [List.map_cons, List.map_cons, hf]
      congr 1
      have hl := SeqAt.ReadsAll.length _ _ _ hr
      cases xs with
      | nil =>
        have : ys[0]? = none := by
          rw [Array.getElem?_eq_none_iff]
          simp at hl
          simp [hl]
        rw [this]; rfl
      | cons x xs =>
        have hs : 0 < ys.size := by
          have : ys.toList.length = xs.length + 1 := by rw [hl]; rfl
          rw [Array.length_toList] at this
          omega
        rw [Array.getElem?_eq_getElem hs]; rfl
theorem kind_mix {vs : List Value} {ds : List PyData} {Q : SortKind → Shared → Prop} (e : EachIs (fun v d => ∃ as, Reads s.heap v d as) vs ds) (ht : ∀ d, d ∈ ds → ∃ xs, d = .tuple xs) (hne : ds.all neT = false) (h1 : (ds.map neT)[0]? = some true → Q general' s) (h2 : (ds.map neT)[0]? = some false → Q oneType' s) :
    wpAny (model prog w) A (keyKind' vs.toArray) Q E s := by
  rw [keyKind'_eq, List.mapM_toArray, map_eq_pure_bind]
  refine wpAny_bind (wpAny_bind (firsts_mix vs ds e ht fun fs hf => wpAny_pure ?_))
  have hall : (fs.toArray.all fun x => x.isSome) = false := by
    rw [List.all_toArray]
    have e1 : (fs.all fun x => x.isSome) = (fs.map Option.isSome).all id := by rw [List.all_map]; rfl
    rw [e1, hf, List.all_map]
    exact hne
  rw [if_neg (by rw [hall]; exact Bool.false_ne_true)]
  have hh : (fs.toArray[0]?.bind id).isSome = ((ds.map neT)[0]?.getD false) := by
    rw [← hf, List.getElem?_toArray, List.getElem?_map]
    cases fs with
    | nil => rfl
    | cons f fs => cases f <;> rfl
  rw [hh]
  cases hd : (ds.map neT)[0]? with
  | none =>
    cases ds with
    | nil => simp at hne
    | cons d ds => simp at hd
  | some b =>
    cases b with
    | true => exact wpAny_pure (h1 hd)
    | false =>
      rw [Option.getD_some, if_neg Bool.false_ne_true, oneTypeOnly'_eq, List.mapM_toArray, map_eq_pure_bind]
      have hT : ∀ v ∈ vs, Looks (model prog w) s.heap (typeOf v) (.type "tuple") := fun v hv => by
        obtain ⟨d, hd, as, r⟩ := e.left v hv
        obtain ⟨xs, rfl⟩ := ht d hd
        exact looks_reads r
      refine wpAny_bind (wpAny_bind (wpAny_bind (kas_mapM (r := .type "tuple") _ (fun v hv Q' hq => (hT v hv).here hq) (wpAny_pure ?_))))
      have hvs : vs ≠ [] := fun z => by
        subst z
        cases e
        simp at hne
      obtain ⟨v, vr, rfl⟩ := List.exists_cons_of_ne_nil hvs
      have hall : ((List.map (fun _ => Value.type "tuple") (v :: vr)).toArray.all fun x => x == Value.type "tuple") = true := by
        simp only [List.all_toArray, List.all_map, List.all_eq_true]
        intro _ _
        rfl
      have h0 : (List.map (fun _ => Value.type "tuple") (v :: vr)).toArray[0]? = some (Value.type "tuple") := by simp
      rw [h0]
      simp only [hall, if_true]
      exact wpAny_pure (wpAny_pure (h2 hd))
/-- tuples of any lengths can be sorted -/
theorem SortsAt.tups {vs : List Value} {ds : List PyData} (e : EachIs (fun v d => ∃ as, Reads s.heap v d as) vs ds) (hal : AllAlike ds) (ht : ∀ d, d ∈ ds → ∃ xs, d = .tuple xs) (hu : ∀ d, d ∈ ds → A.units + d.depth < cLine) : SortsAt prog w A s (dataKind s.heap ds) vs := by
  cases hne : ds.all neT with
  | true =>
    refine SortsAt.data e hal (.inl fun d hd => ?_) hu
    rw [List.all_eq_true] at hne
    have q := hne d hd
    obtain ⟨xs, rfl⟩ := ht d hd
    cases xs with
    | nil => cases q
    | cons x r => exact ⟨x, r, rfl⟩
  | false =>
    have room : ∀ {d d' : PyData}, d ∈ ds → A.units + min d.depth d'.depth < cLine := fun {d d'} hd => Nat.lt_of_le_of_lt (Nat.add_le_add_left (Nat.min_le_left _ _) _) (hu d hd)
    refine ⟨fun v hv => ?_, ?_⟩
    · obtain ⟨d, hd, as, r⟩ := e.left v hv
      exact ⟨_, dataKind_some hal hd r⟩
    · cases h0 : (ds.map neT)[0]? with
      | none =>
        cases ds with
        | nil => simp at hne
        | cons d ds => simp at h0
      | some b =>
        cases b with
        | true =>
          refine ⟨general', ?_, fun _ E Q hq => kind_mix e ht hne (fun _ => hq) fun z => by rw [h0] at z; cases z⟩
          intro E x y a b Q ha hb hq
          obtain ⟨d, as, hd, ra, rfl⟩ := dataKind_inv ha
          obtain ⟨d', as', hd', rb, rfl⟩ := dataKind_inv hb
          show wpAny _ _ (oneLt' false x y) _ _ _
          refine oneLt_alike (fun z => by cases z) ra rb (hal d hd d' hd') (fun z => ?_) (room hd) hq
          obtain ⟨xs, e1⟩ := ht d hd
          rw [z] at e1; cases e1
        | false =>
          refine ⟨oneType', ?_, fun _ E Q hq => kind_mix e ht hne (fun z => by rw [h0] at z; cases z) fun _ => hq⟩
          intro E x y a b Q ha hb hq
          obtain ⟨d, as, hd, ra, rfl⟩ := dataKind_inv ha
          obtain ⟨d', as', hd', rb, rfl⟩ := dataKind_inv hb
          rw [keyLt'_oneType]
          have hdd := hal d hd d' hd'
          have hr := room (d' := d') hd
          obtain ⟨xs, rfl⟩ := ht d hd
          obtain ⟨ys, rfl⟩ := ht d' hd'
          exact oneLt_tup ra rb (by simpa [alike] using hdd) hr hq
/-- sorted(xs) of tuples of any lengths -/
theorem sorted_tups {β : Type} {vs : List Value} {bs : List β} {enc : β → PyData} {R : Value → β → Prop} {l : Addr} {Q : Value → Shared → Prop} (hl : s.heap.IsList l vs.toArray) (e : EachIs R vs bs) (er : EachIs (fun v b => ∃ as, Reads s.heap v (enc b) as) vs bs) (hal : AllAlike (bs.map enc)) (hk : ∀ d, d ∈ bs.map enc → ∃ xs, d = .tuple xs) (hL : bs.length ≤ sizeLine)
    (hu : ∀ b, b ∈ bs → A.units + 2 + (enc b).depth < cLine) (h : ∀ out, out.length = bs.length → EachIs R out (bs.mergeSort (dataLe false enc)) → Q (.ref (s.heap.objs.size + 1)) { s with heap := sortedAll s.heap vs (List.toArray out) }) :
    wpAny (model prog w) A (call (.builtin "sorted") [.ref l]) Q E s := by
  have er' : EachIs (fun v b => ∃ as, Reads (sortingHeap (copyHeap s.heap vs) (s.heap.objs.size + 1) vs) v (enc b) as) vs bs := er.mono fun _ _ ⟨as, r⟩ => ⟨as, PyProof.Rows.Reads.keeps (fun _ _ => sorting_copy_old) r⟩
  exact sorted_vals hl (SortsAt.tups (s := { s with heap := sortingHeap (copyHeap s.heap vs) (s.heap.objs.size + 1) vs }) (each_map (R := fun v d => ∃ as, Reads (sortingHeap (copyHeap s.heap vs) (s.heap.objs.size + 1) vs) v d as) enc er') hal hk (bound_map hu)) (by rw [e.length]; exact hL)
    (h _ (by rw [sortVals_length false rfl]; exact e.length) (sortVals_data false e er' hal))
end
end PySem.W

set_option Elab.async false
set_option linter.all false
set_option maxRecDepth 100000
set_option maxHeartbeats 1000000
namespace Py
open L2 PySem PySem.Spec PyProof.Rows
variable [Tb]
/-! ### sorted -/
omit [Tb] in
omit [Tb] in
def pysOf (st : Store) : List D → Option (List (D × PyData))
  | [] => some []
  | d :: ds => match toPy st d, pysOf st ds with | some p, some ps => some ((d, p) :: ps) | _, _ => none
omit [Tb] in
omit [Tb] in
def Sorts (ps : List (D × PyData)) : Prop := PySem.W.AllAlike (ps.map (·.2)) ∧ ((∀ p ∈ ps, ∃ xs, p.2 = .tuple xs) ∨ ∀ p ∈ ps, p.2 ≠ .none ∧ ∀ xs, p.2 ≠ .tuple xs) ∧ (∀ p ∈ ps, p.2.depth ≤ 64) ∧ ps.length ≤ sizeLine
omit [Tb] in
omit [Tb] in
def sortP (ps : List (D × PyData)) : List D := (ps.mergeSort (PySem.W.dataLe false (·.2))).map (·.1)
omit [Tb] in
omit [Tb] in
open Classical in
noncomputable def sortD : List D → Store → Option (D × Store)
  | [.ref n], st => (match getL st n with | some ds => (match pysOf st ds with | some ps => if Sorts ps then some (.ref st.length, st ++ [.lst (sortP ps)]) else none | none => none) | none => none)
  | _, _ => none
section
variable {K : PySem.W.Frag} {mg : Str → Option Value} {ρ : List Addr} {H : Hp} {st : Store}
/-- the items with their values and data -/
theorem triples {ds : List D} {vs : List V} {ps : List (D × PyData)} (rs : RS K mg ρ H st) (h : RDs K mg ρ H ds vs) (e : pysOf st ds = some ps) :
    ∃ bs : List (D × V × PyData), bs.map (·.1) = ds ∧ bs.map (·.2.1) = vs ∧ bs.map (fun b => (b.1, b.2.2)) = ps ∧ ∀ b ∈ bs, RD K mg ρ H b.1 b.2.1 ∧ Dp K H b.2.1 b.2.2 := by
  induction ds generalizing vs ps with
  | nil => simp only [RDs] at h; subst h; cases e; exact ⟨[], rfl, rfl, rfl, fun b hb => by cases hb⟩
  | cons d ds ih =>
    obtain ⟨v, vr, rfl, h1, h2⟩ := h.uncons
    simp only [pysOf] at e
    split at e
    · rename_i p pr e1 e2
      cases e
      obtain ⟨bs, b1, b2, b3, b4⟩ := ih h2 e2
      refine ⟨(d, v, p) :: bs, by rw [List.map_cons, b1], by rw [List.map_cons, b2], by rw [List.map_cons, b3], fun b hb => ?_⟩
      rcases List.mem_cons.mp hb with rfl | hb
      · exact ⟨h1, toPy_dp rs h1 e1⟩
      · exact b4 b hb
    · cases e
omit [Tb] in
omit [Tb] in
theorem rds_of_map {bs : List (D × V × PyData)} (h : ∀ b ∈ bs, RD K mg ρ H b.1 b.2.1) : RDs K mg ρ H (bs.map (·.1)) (bs.map (·.2.1)) := by
  induction bs with
  | nil => exact .nil
  | cons b bs ih => exact .cons (h b List.mem_cons_self) (ih fun b' hb => h b' (List.mem_cons_of_mem _ hb))
end
omit [Tb] in
omit [Tb] in
theorem vals_each {bs : List (D × V × PyData)} {its : List Value} (h : Vals (bs.map (·.2.1)) its) : PySem.W.EachIs (fun (u : Value) (b : D × V × PyData) => RelV b.2.1 u) its bs := by
  induction bs generalizing its with
  | nil => cases h; exact .nil
  | cons b bs ih => cases h with | cons r t => exact .cons r (ih t)
omit [Tb] in
omit [Tb] in
theorem each_vals {bs : List (D × V × PyData)} {its : List Value} (h : PySem.W.EachIs (fun (u : Value) (b : D × V × PyData) => RelV b.2.1 u) its bs) : Vals (bs.map (·.2.1)) its := by
  induction h with
  | nil => exact .nil
  | cons r t ih => exact .cons r ih
omit [Tb] in
omit [Tb] in
theorem each_and {α β : Type} {R : α → β → Prop} {P : β → Prop} {as : List α} {bs : List β} (h : PySem.W.EachIs R as bs) (k : ∀ b ∈ bs, P b) : PySem.W.EachIs (fun a b => R a b ∧ P b) as bs := by
  induction h with
  | nil => exact .nil
  | cons r t ih => exact .cons ⟨r, k _ List.mem_cons_self⟩ (ih fun b hb => k b (List.mem_cons_of_mem _ hb))
section
variable {X : Cx}
theorem ok_sorted (hu : X.A.units + 100 < cLine) : CallR X (.builtin "sorted") (rN X.K X.mg sortD) := by
  intro pins s σ H xs us Q I r ⟨ρ, st, ds, rs, h, p⟩
  unfold sortD at p
  split at p
  · rename_i n
    obtain ⟨x, rfl, h1⟩ := rds_one h
    split at p
    · rename_i ds e
      split at p
      · rename_i ps e2
        split at p
        · rename_i hS
          obtain ⟨a, vs, rfl, _, hq, rd⟩ := seq_at rs h1 e
          obtain ⟨bs, b1, b2, b3, b4⟩ := triples rs rd e2
          obtain ⟨its, rv, hl, _⟩ := I.list hq
          rw [Vals.ref1 r]
          rw [← b2] at rv
          have hb3 : bs.map (·.2.2) = ps.map (·.2) := by rw [← b3, List.map_map]; rfl
          have hlen : bs.length = ps.length := by rw [← b3, List.length_map]
          have ee := vals_each rv
          have er : PySem.W.EachIs (fun u (b : D × V × PyData) => ∃ as, Reads s.heap u b.2.2 as) its bs := (each_and ee (P := fun b => Dp X.K H b.2.1 b.2.2) fun b hb => (b4 b hb).2).mono fun u b ⟨q1, q2⟩ => Dp.reads I _ _ u q2 q1
          have hL : bs.length ≤ sizeLine := by rw [hlen]; exact hS.2.2.2
          have hmem : ∀ b ∈ bs, (b.1, b.2.2) ∈ ps := fun b hb => by rw [← b3]; exact List.mem_map.mpr ⟨b, hb, rfl⟩
          have hdep : ∀ b, b ∈ bs → X.A.units + 2 + b.2.2.depth < cLine := fun b hb => by have := hS.2.2.1 _ (hmem b hb); simp only at this; omega
          have fin : ∀ out : List Value, out.length = bs.length → PySem.W.EachIs (fun (u : Value) (b : D × V × PyData) => RelV b.2.1 u) out (bs.mergeSort (PySem.W.dataLe false fun b => b.2.2)) →
              EP X pins σ Q (.ref (s.heap.objs.size + 1)) { s with heap := PyProof.Rows.sortedAll s.heap its (List.toArray out) } := fun out ho eo => by
            obtain ⟨ep, he'⟩ := PyProof.Rows.sortedAll_at s.heap its out.toArray
            have hv := each_vals eo
            have hq0 : H (s.heap.objs.size + 1) = none := I.hok.fresh (Nat.le_succ _)
            have hsub : ∀ b ∈ bs.mergeSort (PySem.W.dataLe false fun b => b.2.2), RD X.K X.mg ρ H b.1 b.2.1 := fun b hb => (b4 b (List.mem_mergeSort.mp hb)).1
            have hln : ((bs.mergeSort (PySem.W.dataLe false fun b => b.2.2)).map (·.2.1)).length ≤ sizeLine := by rw [List.length_map, List.length_mergeSort]; exact hL
            refine ⟨.ref (s.heap.objs.size + 1), upd H (s.heap.objs.size + 1) (.lst ((bs.mergeSort (PySem.W.dataLe false fun b => b.2.2)).map (·.2.1))), I.laid (t' := s.toks) (fun _ _ => PyProof.Rows.sortedAll_old) (Nat.le_succ _) ⟨hln, out, ep, hv, he'⟩, rfl, ?_⟩
            obtain ⟨a1, a2⟩ := newLst rs (rds_of_map hsub) hq0
            have hso : (bs.mergeSort (PySem.W.dataLe false fun b => b.2.2)).map (·.1) = sortP ps := by
              unfold sortP
              have hm := List.map_mergeSort (r := PySem.W.dataLe false fun (b : D × V × PyData) => b.2.2) (s := PySem.W.dataLe false fun (b : D × PyData) => b.2) (f := fun b => (b.1, b.2.2)) (l := bs) (fun a _ b _ => rfl)
              rw [← b3, ← hm, List.map_map]
              rfl
            rw [hso] at a1
            exact p _ _ _ (Ext.push hq0) a1 a2
          rcases hS.2.1 with ht | hn
          · exact PySem.W.sorted_tups (bs := bs) (enc := fun b => b.2.2) hl.isList ee er (by rw [hb3]; exact hS.1) (fun d hd => by rw [hb3] at hd; obtain ⟨q, hq, rfl⟩ := List.mem_map.mp hd; exact ht q hq) hL hdep fin
          · exact PySem.W.sorted_data (bs := bs) (enc := fun b => b.2.2) hl.isList ee er (by rw [hb3]; exact hS.1) (.inr fun d hd => by rw [hb3] at hd; obtain ⟨q, hq, rfl⟩ := List.mem_map.mp hd; exact hn q hq) hL hdep fin
        · exact p.elim
      · exact p.elim
    · exact p.elim
  · exact p.elim
end
section
variable {BL : List Str} {GC : List (Str × D)} {X : Cx} {W : WX} {N : List Str} {sc : Scope} {fb : Str → Bool} {k : Nat} {pos : Pos} {a : Expr} {ma : Py.Loc → Store → R D}
theorem Ct.sorted (z : Ct BL GC X W N sc fb k) {p : Pos} (ha : SE X W a ma) (h : blB BL sc "sorted" = true) (hs : noStar a = true := by rfl) : SE X W (.Call (.Name "sorted" p) [a] [] pos) (mOpN sortD (mCons ma mNil)) := z.cb (ok_sorted (by have := z.room.un; omega)) (by decide +kernel) h (al_cons ha al_nil hs)
end
end Py

set_option Elab.async false
set_option linter.all false
set_option maxRecDepth 100000
set_option maxHeartbeats 1000000
namespace Py
open L2 PySem PySem.Spec PyProof.Rows
variable [Tb]
/-! ### what a text's head has written, and the end -/
section
variable {K : PySem.W.Frag} {mg : Str → Option Value} {h : Heap}
theorem def_mk {x : Str} {st : Stmt} {N ps : List Str} {f : Addr} {od an : Option Addr} {sl : Array (Option Value)} {oc kV dc pm cd ct : Value} (X : K.In h) (G : h.Ns mainGlobals mg) (a : PySem.W.nsIn K mainGlobals x = some (some (.ref f)))
    (l : K.lookup f = some ⟨oc, od, .func (PySem.W.fnOf x x (defArgs st) (defBody st) (defScope st) .none kV dc pm an cd ct), sl⟩) (c : PySem.W.codeIn K cd x = true) (k : PySem.W.keepIn K (.ref f) = true) (S : FnScope N ps (defScope st))
    (hb : ∀ (kV doc pm : Value) (an : Option Addr) (cdv ct : Value) (us : List Value), us.length = ps.length → bindArgs (PySem.W.fnOf x x (defArgs st) (defBody st) (defScope st) .none kV doc pm an cdv ct) ⟨us, []⟩ = pure (ps.zip us)) : Def K mg x st N ps :=
  ⟨⟨f, _, fun_mk (st := st) l c k, PySem.W.mg_of X G a, (fun_mk (st := st) l c k).binds hb⟩, S⟩
omit [Tb] in
omit [Tb] in
def GcAt (K : PySem.W.Frag) (mg : Str → Option Value) (x : Str) (d : D) : Prop := ∃ u v, mg x = some u ∧ RelV v u ∧ ∀ ρ H, RD K mg ρ H d v
omit [Tb] in
omit [Tb] in
theorem gc_nil : ∀ x d, (x, d) ∈ ([] : List (Str × D)) → GcAt K mg x d := fun x d h => by cases h
omit [Tb] in
omit [Tb] in
theorem gc_cons {y : Str} {e : D} {l : List (Str × D)} (h : GcAt K mg y e) (t : ∀ x d, (x, d) ∈ l → GcAt K mg x d) : ∀ x d, (x, d) ∈ (y, e) :: l → GcAt K mg x d := fun x d hm => by
  rcases List.mem_cons.mp hm with q | q
  · cases q; exact h
  · exact t x d q
theorem gc_int {x : Str} {i : Int} {t : Tok} (h : mg x = some (.int i t)) : GcAt K mg x (.int i) := ⟨_, .int i, h, ⟨t, rfl⟩, fun ρ H => by simp only [RD]⟩
omit [Tb] in
omit [Tb] in
theorem gc_str {x : Str} {i : Str} {t : Tok} (h : mg x = some (.str i t)) : GcAt K mg x (.str i) := ⟨_, .str i, h, ⟨t, rfl⟩, fun ρ H => by simp only [RD]⟩
omit [Tb] in
omit [Tb] in
theorem gc_bl {x : Str} {i : Bool} (h : mg x = some (.bool i)) : GcAt K mg x (.bl i) := ⟨_, .bl i, h, rfl, fun ρ H => by simp only [RD]⟩
theorem gc_tup {x : Str} {ds : List D} {vs : List V} {a : Addr} {od : Option Addr} {its : Array Value} {n : Nat} {sl : Array (Option Value)} (h : mg x = some (.ref a)) (l : K.lookup a = some ⟨.type "tuple", od, .seq its n, sl⟩) (hs : its.size ≤ sizeLine)
    (hv : Vals vs its.toList) (hd : ∀ ρ H, RDs K mg ρ H ds vs) : GcAt K mg x (.kt ds) := ⟨_, .ref a, h, rfl, fun ρ H => by simp only [RD]; exact ⟨a, vs, _, its, n, rfl, ⟨l, rfl, rfl, hs, hv⟩, hd ρ H⟩⟩
omit [Tb] in
omit [Tb] in
theorem bl_nil : ∀ x ∈ ([] : List Str), mg x = none := fun x h => by cases h
omit [Tb] in
omit [Tb] in
theorem bl_cons {y : Str} {l : List Str} (h : mg y = none) (t : ∀ x ∈ l, mg x = none) : ∀ x ∈ y :: l, mg x = none := fun x hm => by
  rcases List.mem_cons.mp hm with rfl | q
  · exact h
  · exact t x q
omit [Tb] in
omit [Tb] in
/-- what a law promises -/
def spLaw (K : PySem.W.Frag) : Sp := fun vs H Q _ => ∃ (a : Addr) (ns : List Int), vs = [.ref a] ∧ SqL K H a (ns.map V.int) ∧ LamX.Tabs Tb.T H ∧ ns.length ≤ 63 ∧ ∀ H', Q (.bl true) H'
omit [Tb] in
omit [Tb] in
def intsD (ns : List Int) : List D := ns.map .int
theorem rds_ints {ρ : List Addr} {H : Hp} : ∀ ns : List Int, RDs K mg ρ H (intsD ns) (ns.map V.int)
  | [] => .nil
  | n :: ns => .cons (by simp only [RD]) (rds_ints ns)
omit [Tb] in
omit [Tb] in
def Holds1 (m : Mean) (ds : List D) (st : Store) : Prop := ∃ st', m ds st = .ok (.bl true) st'
/-- the law at a script, however the script's list stands -/
structure HoldsAt (m : Mean) (ns : List Int) : Prop where
  lst : Holds1 m [.ref 0] [.lst (intsD ns)]
  frz : Holds1 m [.ref 0] [.frz (intsD ns)]
  kl : Holds1 m [.kl (intsD ns)] []
theorem law_end {m : Mean} (h : ∀ ns : List Int, ns.length ≤ 63 → HoldsAt m ns) (vs : List V) (H : Hp) (Q : VK) (E : XK) (hs : spLaw K vs H Q E) : spD K mg 1 m vs H Q E := by
  obtain ⟨a, ns, rfl, hq, ht, hl, q⟩ := hs
  refine ⟨rfl, ?_⟩
  have post : ∀ {ds : List D} {st : Store} (ρ : List Addr), Holds1 m ds st → Post K mg (RD K mg) (fun cls dd _ H => E cls dd H) [] Q ρ H (m ds st) := fun ρ ⟨st', e⟩ => by
    rw [e]
    intro ρ' H' v _ _ r
    simp only [RD] at r
    rw [r]; exact q H'
  rcases hq with (hr | ⟨o, hr⟩) | ⟨o, its, n, hk⟩
  · refine ⟨[a], [.lst (intsD ns)], [.ref 0], ⟨rfl, by simp, fun i b o e1 e2 => ?_, ht⟩, .cons (by simp only [RD]; exact ⟨a, rfl, rfl⟩) .nil, post [a] (h ns hl).lst⟩
    cases i with
    | zero => cases e1; cases e2; exact ⟨_, hr, rds_ints ns⟩
    | succ i => cases e1
  · refine ⟨[a], [.frz (intsD ns)], [.ref 0], ⟨rfl, by simp, fun i b o e1 e2 => ?_, ht⟩, .cons (by simp only [RD]; exact ⟨a, rfl, rfl⟩) .nil, post [a] (h ns hl).frz⟩
    cases i with
    | zero => cases e1; cases e2; exact ⟨o, _, hr, rds_ints ns⟩
    | succ i => cases e1
  · refine ⟨[], [], [.kl (intsD ns)], ⟨rfl, .nil, (fun i b o e1 e2 => by cases e1), ht⟩, .cons ?_ .nil, post [] (h ns hl).kl⟩
    simp only [RD]
    exact ⟨a, _, o, its, n, rfl, hk, rds_ints ns⟩
omit [Tb] in
omit [Tb] in
theorem no_cx {P : Program} {w : World} (H : Hp) (s : Shared) (e : Value) (s' : Shared) (h : L2.CX P w [] H s (fun _ _ _ => False) e s') : False := by
  obtain ⟨_, _, _, _, _, _, _, _, _, _, _, _, h⟩ := h
  exact h
end
end Py

set_option Elab.async false
set_option linter.all false
set_option maxRecDepth 100000
set_option maxHeartbeats 1000000
namespace Py
open L2 PySem PySem.Spec PyProof.Rows
variable [Tb]
/-! ### xs.count(y), xs.index(y) of flat things -/
section
variable {X : Cx} {W : WX} {pos : Pos}
omit [Tb] in
omit [Tb] in
def rCntF (K : PySem.W.Frag) : V → List V → Hp → VK → Prop := fun x xs H Q => ∃ (a : Addr) (ys : List V) (y : V), x = V.ref a ∧ xs = [y] ∧ SqL K H a ys ∧ flatV y = true ∧ ys.all flatV = true ∧ Q (.int (ys.countP fun z => eqV z y : Nat)) H
theorem countU {y : V} : ∀ {ys : List V} {us : List Value}, Vals ys us → ys.all flatV = true → us.countP (eqU y) = ys.countP fun z => eqV z y
  | _, _, .nil, _ => rfl
  | z :: ys, u :: us, .cons r t, f => by
    rw [List.all_cons, Bool.and_eq_true] at f
    rw [List.countP_cons, List.countP_cons, countU t f.2, eqU_of r f.1]
theorem mt_cntF : MtR X "list.count" (rCntF X.K) := by
  intro pins s σ H x xs v us Q I rx rxs h
  obtain ⟨a, ys, y, rfl, rfl, hs, fy, fys, q⟩ := h
  cases rx
  cases rxs with
  | cons ry rt =>
    rename_i uy ut
    cases rt
    obtain ⟨its, rv, ⟨⟨cls, dd, data, sl⟩, n, ho, hc, hdn, hd⟩, hlen⟩ := I.list hs
    simp only at hc hd
    subst hc hd
    refine call_meets PySem.F.slot_list_count ⟨_, ho, rfl⟩ PySem.F.entry_list_count (PySem.F.args_list_count_2 _ _)
      (SeqAt.list_countAt a its.toArray n dd sl uy (eqU y)) ⟨ho, fun u' hu' => mem_eqAt ry fy rv fys u' (by simpa using hu'), ?_⟩
    have e : its.toArray.toList.countP (eqU y) = ys.countP fun z => eqV z y := countU rv fys
    refine ⟨.int (ys.countP fun z => eqV z y : Nat), H, I.tok _, ⟨s.toks, ?_⟩, q⟩
    show Value.int ((its.toArray.toList.countP (eqU y) : Nat) : Int) s.toks = _
    rw [e]
omit [Tb] in
omit [Tb] in
def cntD : D → List D → Store → Option (D × Store)
  | .ref n, [d], st => (match getL st n with | some ds => if flatD d = true ∧ ds.all flatD = true then some (.int (ds.countP fun y => eqF y d : Nat), st) else none | none => none)
  | _, _, _ => none
omit [Tb] in
omit [Tb] in
theorem rds_one' {K : PySem.W.Frag} {mg : Str → Option Value} {ρ : List Addr} {H : Hp} {d : D} {vs : List V} (h : RDs K mg ρ H [d] vs) : ∃ y, vs = [y] ∧ RD K mg ρ H d y := by
  obtain ⟨y, ys, rfl, h1, h2⟩ := h.uncons
  simp only [RDs] at h2
  subst h2
  exact ⟨y, rfl, h1⟩
theorem ok_cnt : MtR X "list.count" (rM X.K X.mg cntD) := MtR.imp mt_cntF fun x xs H Q ⟨ρ, st, d, ds, rs, h1, h2, p⟩ => by
  unfold cntD at p
  split at p
  · rename_i n d'
    split at p
    · rename_i ds' e
      split at p
      · rename_i hf
        obtain ⟨a, vs, rfl, _, hS, r⟩ := seq_at rs h1 e
        obtain ⟨y, rfl, h3⟩ := rds_one' h2
        obtain ⟨e1, f1⟩ := rd_flat h3 hf.1
        obtain ⟨e2, f2⟩ := rds_flat r hf.2
        refine ⟨a, vs, y, rfl, rfl, hS, f1, f2, ?_⟩
        have e3 : (vs.countP fun z => eqV z y) = ds'.countP fun z => eqF z d' := by
          rw [e2, List.countP_map, e1]
          rfl
        rw [e3]
        exact p.here rs rd_int
      · exact p.elim
    · exact p.elim
  · exact p.elim
omit [Tb] in
omit [Tb] in
def ixLD : D → List D → Store → Option (D × Store)
  | .ref n, [d], st => (match getL st n with
    | some ds => if flatD d = true ∧ ds.all flatD = true then (match ds.findIdx? fun y => eqF y d with | some j => some (.int (j : Nat), st) | none => none) else none
    | none => none)
  | _, _, _ => none
theorem ok_ixL : MtR X "list.index" (rM X.K X.mg ixLD) := MtR.imp mt_index fun x xs H Q ⟨ρ, st, d, ds, rs, h1, h2, p⟩ => by
  unfold ixLD at p
  split at p
  · rename_i n d'
    split at p
    · rename_i ds' e
      split at p
      · rename_i hf
        split at p
        · rename_i j hj
          obtain ⟨a, vs, rfl, _, hS, r⟩ := seq_at rs h1 e
          obtain ⟨y, rfl, h3⟩ := rds_one' h2
          obtain ⟨e1, f1⟩ := rd_flat h3 hf.1
          obtain ⟨e2, f2⟩ := rds_flat r hf.2
          obtain ⟨hlt, hp, hno⟩ := List.findIdx?_eq_some_iff_getElem.mp hj
          refine ⟨a, vs, y, j, VofD ds'[j], rfl, rfl, hS, f1, f2, by rw [e2, List.getElem?_map, List.getElem?_eq_getElem hlt]; rfl, by rw [e1]; exact hp, fun m z hm hz => ?_, p.here rs rd_int⟩
          rw [e2, List.getElem?_map] at hz
          cases hq : ds'[m]? with
          | none => rw [hq] at hz; cases hz
          | some y' =>
            rw [hq] at hz
            cases hz
            obtain ⟨hl, he⟩ := List.getElem?_eq_some_iff.mp hq
            have := hno m hm
            rw [he] at this
            rw [e1]
            simpa [eqF] using this
        · exact p.elim
      · exact p.elim
    · exact p.elim
  · exact p.elim
theorem se_cnt {o e : Expr} {ap : Pos} {mo me : Py.Loc → Store → R D} (ho : SE X W o mo) (he : SE X W e me) (hline : (ap.endLine == pos.line) = true := by rfl) (hs : noStar e = true := by rfl) (hb : noCall o = true := by rfl) : SE X W (.Call (.Attribute o "count" ap) [e] [] pos) (mMt cntD mo (mCons me mNil)) :=
  se_mtL PySem.F.slot_list_count PySem.F.type_list_count ok_cnt ho (al_cons (es := []) he al_nil hs).sa hb hs hline
theorem se_ixL {o e : Expr} {ap : Pos} {mo me : Py.Loc → Store → R D} (ho : SE X W o mo) (he : SE X W e me) (hline : (ap.endLine == pos.line) = true := by rfl) (hs : noStar e = true := by rfl) (hb : noCall o = true := by rfl) : SE X W (.Call (.Attribute o "index" ap) [e] [] pos) (mMt ixLD mo (mCons me mNil)) :=
  se_mtL PySem.F.slot_list_index PySem.F.type_list_index ok_ixL ho (al_cons (es := []) he al_nil hs).sa hb hs hline
theorem se_app {o e : Expr} {ap : Pos} {mo me : Py.Loc → Store → R D} (ho : SE X W o mo) (he : SE X W e me) (hline : (ap.endLine == pos.line) = true := by rfl) (hs : noStar e = true := by rfl) (hb : noCall o = true := by rfl) : SE X W (.Call (.Attribute o "append" ap) [e] [] pos) (mMt appD mo (mCons me mNil)) :=
  se_mtL PySem.F.slot_list_append PySem.F.type_list_append ok_app ho (al_cons (es := []) he al_nil hs).sa hb hs hline
end
/-! ### raise C() of an own class over ValueError, without an __init__ -/
section
variable {X : Cx} {W : WX} {pos : Pos}
theorem pmk_own0 {C : Addr} {bmB : List Value} {B newId initId : String} {x : Str} {p : Pos} (F : ExcBaseFacts B newId initId bmB) (q : PySem.W.excIn X.K C bmB newId = true) (gC : X.mg x = some (.ref C)) (kC : PySem.W.keepIn X.K (.ref C) = true) (r : Raises X (.ref C)) (hg : Gl X x)
    (hdb : (x == ("__debug__" : Str)) = false) : PMk X (.Call (.Name x p) [] [] pos) (fun _ H Q => Q (.ref C) none H) := by
  intro pins s σ H Q I h
  refine wpAny_Call_Name_kw (ld_glob I hg gC ?_ hdb)
  refine PySem.W.callWith_K0 I.kIn kC ?_
  show wpAny _ _ (call (.ref C) []) _ _ _
  obtain ⟨bm, N, nm, qn, bs, hdct, sn, sub, ab, col, dd, k0, k1, k2, k3, k5, mN, hC, hN, hni, T⟩ := exc_obj I.kIn q
  refine wpAny_call_exc_subT F T hC hN hni (fun h' e hm => ?_) (Nat.zero_le _)
  exact mk_of I hm r h (I.hok.gone hm.new)
omit [Tb] in
omit [Tb] in
abbrev veC : List Value := [.type "ValueError", .type "Exception", .type "BaseException", .type "object"]
/-- what the written part says of such a class -/
structure ExK (K : PySem.W.Frag) (mg : Str → Option Value) (x : Str) (C : Addr) : Prop where
  mg : mg x = some (.ref C)
  ex : PySem.W.excIn K C veC "ValueError.__new__" = true
  kp : PySem.W.keepIn K (.ref C) = true
  sb : PySem.W.subIn K (.ref C) (.type "BaseException") = some true
  ty : PySem.W.typeIn K (.ref C) = some (.type "type")
omit [Tb] in
omit [Tb] in
def sRaise (c : Str) : Py.Loc → Store → Fl := fun e st => .ex c [] e st
variable {BL : List Str} {GC : List (Str × D)} {N : List Str} {sc : Scope} {fb : Str → Bool} {k : Nat}
theorem Ct.raise0 (z : Ct BL GC X W N sc fb k) {x : Str} {p p2 : Pos} {C : Addr} (E : ExK X.K X.mg x C) (h : glB sc x = true) : SS X W (.Raise (some (.Call (.Name x p) [] [] p2)) none pos) (sRaise x) := by
  have hd : (x == ("__debug__" : Str)) = false := by
    simp only [glB, okDbg, Bool.and_eq_true, Bool.not_eq_true'] at h
    exact h.2.1
  exact PS.imp (ps_raise z.calm z.tk (pmk_own0 PySem.F.excBase_ValueError E.ex E.mg E.kp (raises_own E.sb E.ty) (z.gl h) hd)) fun D σ H ⟨ρ, e, st, rs, re, p⟩ => p ρ H σ (.ref C) none .refl rs re ⟨C, E.mg, rfl, .inl ⟨rfl, rfl⟩⟩
end
/-! ### the suite of an except clause that holds an exception -/
structure Cu (BL : List Str) (X : Cx) (N : List Str) (sc : Scope) : Prop where
  hN : X.N = N
  nd : N.Nodup
  hsc : X.env.scope = sc
  un : X.A.units + 65 < cLine
  bl : ∀ x ∈ BL, X.mg x = none
section
variable {BL : List Str} {X : Cx} {W : WX} {N : List Str} {sc : Scope} {pos : Pos} {a b e : Expr} {ma mb : Py.Loc → Store → R D}
theorem Cu.v (z : Cu BL X N sc) {i : Nat} {x : Str} (h : visB N sc i x = true) : SE X W (.Name x pos) (mVar i) := by
  simp only [visB, okDbg, Bool.and_eq_true, decide_eq_true_eq, Bool.not_eq_true'] at h
  obtain ⟨⟨h1, h2⟩, h3, h4⟩ := h
  refine se_var (by rw [z.hN]; exact h1) ?_ h3 h4
  unfold L2.Vis
  rw [z.hsc]
  split at h2
  · exact .inl (by assumption)
  · exact .inr (.inl (by assumption))
  · exact .inr (.inr (by assumption))
  · cases h2
omit [Tb] in
omit [Tb] in
theorem Cu.gl (z : Cu BL X N sc) {x : Str} (h : glB sc x = true) : Gl X x ∧ (x == ("__debug__" : Str)) = false := by
  simp only [glB, okDbg, Bool.and_eq_true, Bool.not_eq_true'] at h
  refine ⟨?_, h.2.1⟩
  unfold L2.Gl Env.kindOf
  rw [z.hsc]
  have h1 := h.1
  split at h1
  · assumption
  · cases h1
omit [Tb] in
omit [Tb] in
theorem Cu.bn (z : Cu BL X N sc) {x : Str} (h : blB BL sc x = true) : Gl X x ∧ X.mg x = none ∧ x ≠ "__name__" ∧ (x == ("__debug__" : Str)) = false := by
  simp only [blB, Bool.and_eq_true, Bool.not_eq_true'] at h
  obtain ⟨⟨h1, h2⟩, h3⟩ := h
  exact ⟨(z.gl h1).1, z.bl x (str_contains h2), fun q => by rw [q] at h3; revert h3; decide, (z.gl h1).2⟩
theorem Cu.ix (z : Cu BL X N sc) (ha : SE X W a ma) (hb : SE X W b mb) (hp : plainIx b = true := by rfl) : SE X W (.Subscript a b pos) (mOp2 ixD ma mb) := se_ix (ok_ix (by have := z.un; omega)) ha hb hp
end
omit [Tb] in
omit [Tb] in
/-- whether the exception at slot i, which stands at a, is one of a class -/
def mIsE (i : Nat) (a : Addr) (b : Bool) : Py.Loc → Store → R D := fun e st => match e[i]? with | some (some (.adr a')) => if a' = a then .ok (.bl b) st else .stuck | _ => .stuck
section
variable {BL : List Str} {X : Cx} {W : WX} {N : List Str} {sc : Scope} {pos : Pos}
theorem se_isE {a D : Addr} {oe : Obj} {pn : List (Addr × Obj)} (z : Cu BL (X.suite a ((a, oe) :: pn)) N sc) (C : ExcC X.K D) (hz : Zc (.ref D) none oe) (hf : ∃ vs, oe.data = .fields vs) {i : Nat} {x : Str} {p1 p2 : Pos} {c : Expr} {cv : V} {u : Value} {b : Bool} (hi : visB N sc i x = true)
    (hc : PE (X.suite a ((a, oe) :: pn)) c (tC cv)) (hu : ∀ u', RelV cv u' → u' = u) (hk : PySem.W.kitOne X.K (.ref D) u = some b) (h : blB BL sc "isinstance" = true) (hs : noStar c = true := by rfl) :
    SE (X.suite a ((a, oe) :: pn)) W (.Call (.Name "isinstance" p1) [.Name x p2, c] [] pos) (mIsE i a b) := by
  obtain ⟨h1, h2, _⟩ := z.bn h
  simp only [visB, okDbg, Bool.and_eq_true, decide_eq_true_eq, Bool.not_eq_true'] at hi
  obtain ⟨⟨i1, i2⟩, i3, i4⟩ := hi
  have hv : Vis (X.suite a ((a, oe) :: pn)).env.scope x := by
    unfold L2.Vis
    rw [z.hsc]
    split at i2
    · exact .inl (by assumption)
    · exact .inr (.inl (by assumption))
    · exact .inr (.inr (by assumption))
    · cases i2
  refine PE.imp (pe_callB (call_isE C hz hf) h1 h2 (by decide +kernel) (pa_cons (pe_var (by rw [z.hN]; exact i1) hv i3 i4) (pa_cons hc pa_nil (noStar_ok hs _ _)) (noStar_ok rfl _ _)) (by decide) (by decide) (noStar_ok rfl _ _) (noStars_ok (es := [c]) (by simpa using hs) _ _)) fun σ H Q ⟨ρ, e, st, rs, re, p⟩ => ?_
  unfold mIsE at p
  split at p
  · rename_i a' hd
    split at p
    · rename_i ha
      subst ha
      obtain ⟨v, e1, r⟩ := re.at_ i _ hd
      simp only [RD] at r
      subst r
      exact ⟨_, e1, cv, u, b, rfl, hu, hk, p ρ H (.bl b) .refl rs rd_bl⟩
    · exact p.elim
  · exact p.elim
end
end Py

set_option Elab.async false
set_option linter.all false
set_option maxRecDepth 100000
set_option maxHeartbeats 1000000
namespace Py
open L2 PySem PySem.Spec PyProof.Rows
variable [Tb]
/-! ### a word for what a call ends with: w(lambda: e), where w tries it -/
/-- an exception class of the text, where it stands, the word that it is told by -/
structure WRow where
  c : Str
  C : Addr
  w : D
omit [Tb] in
omit [Tb] in
def mWord (tbl : List (Str × D)) (me : Py.Loc → Store → R D) : Py.Loc → Store → R D := fun e st => match me e st with
  | .ok _ st' => .ok (.str "told") st'
  | .ex c [] st' => (match tbl.lookup c with | some w => .ok w st' | none => .stuck)
  | _ => .stuck
/-- what the word's def makes of the call's reading -/
def TTw (K : PySem.W.Frag) (mg : Str → Option Value) (tbl : List WRow) : (XK → Hp → VK → Prop) → Hp → VK → Prop := fun tl H Q =>
  tl (fun cls d H' => ∃ r ∈ tbl, cls = .ref r.C ∧ d = none ∧ ∃ ρ' st', RS K mg ρ' H' st' ∧ ∀ ρ2 H2 v, Ext K ρ' H' ρ2 H2 → RS K mg ρ2 H2 st' → RD K mg ρ2 H2 r.w v → Q v H2) H (fun _ H' => Q (.str "told") H')
omit [Tb] in
omit [Tb] in
theorem gc_app' {st g : Store} {d : D} (l : lowD st.length d = true) : gc st d (st ++ g) = (d, st) := by
  unfold gc
  rw [if_pos (fun i hi => .inl (List.getElem?_append_left hi)), if_pos l, List.take_left]
section
variable {X : Cx}
theorem word_gives {Ng : List Str} {x a n e0 q : Str} {sg : Scope} {g P0 : Addr} {cdg : Value} {b₀ : Stmt} {suite : List Stmt} {j : Nat} {fnd : Str} {tbl : List WRow} {p1 p2 p3 p4 p5 p6 p7 p8 p9 p10 p11 : Pos}
    (nd : Ng.Nodup) (hl : Ng.length = 5) (h1 : Ng[1]? = some fnd) (h2 : Ng[2]? = some n) (l1 : sg.names.lookup fnd = some .local) (l2 : sg.names.lookup n = some .local) (d1 : (fnd == ("__debug__" : Str)) = false) (c1 : (fnd == ("__classdict__" : Str)) = false)
    (hge : sg.names.lookup e0 = some .globalImplicit) (hme : X.mg e0 = some (.ref P0)) (hde : (e0 == ("__debug__" : Str)) = false) (hex : ∀ r ∈ tbl, PySem.W.exmOne X.K (.ref r.C) (.ref P0) = some true) (hfl : ∀ r ∈ tbl, ∀ L, lowD L r.w = true)
    (hS : ∀ (s : Shared) (H : Hp) (a : Addr) (oe : Obj) (pn : List (Addr × Obj)) (r : WRow), r ∈ tbl → Zc (.ref r.C) none oe → (∃ vs, oe.data = .fields vs) →
      ∃ m, SSs ((cxOf C8.CX0 X.prog X.w X.K X.mg X.base Ng x sg g cdg X.A X.stack s H C8.E0).nox.suite a ((a, oe) :: pn)) (fun _ _ _ _ => False) (b₀ :: suite) m ∧ ∀ st : Store, ∃ e' g, m [none, none, some (.adr a), none, none] st = .nx e' (st ++ g) ∧ e'[1]? = some (some r.w)) :
    LamX.GivesTo X Ng x sg g cdg [.Assign [.Name fnd p1] (.Constant (.str "told") j p2) p3, .Try [.Expr (.Call (.Name a p4) [] [] p5) p6] [.ExceptHandler (some (.Name e0 p7)) (some n) (b₀ :: suite) p8] [] [] p9, .Return (some (.Name fnd p10)) p11] a q (TTw X.K X.mg tbl) := by
  intro f c' s H Q tl act hc h
  have hgl : Gl (cxOf C8.CX0 X.prog X.w X.K X.mg X.base Ng x sg g cdg X.A X.stack s H C8.E0).nox e0 := hge
  have hst : L2.start Ng [V.ref f] = [some (.ref f), none, none, none, none] := by
    unfold L2.start
    simp [hl]
  refine ⟨_, pss_cons (ps_set (X := (cxOf C8.CX0 X.prog X.w X.K X.mg X.base Ng x sg g cdg X.A X.stack s H C8.E0).nox) (i := 1) nd h1 (Or.inl l1) (pe_str (j := j))) (pss_cons (ps_try_as (X := (cxOf C8.CX0 X.prog X.w X.K X.mg X.base Ng x sg g cdg X.A X.stack s H C8.E0).nox) (i := 2) (c := .ref P0)
      (tb := fun W D σ H => ∃ Ech : XK, (∀ cls d σ' H', Ech cls d H' → W cls d σ' H') ∧ σ[0]? = some (some (.ref f)) ∧ H c' = some (LamX.CodeO c' q) ∧ tl Ech H fun _ H' => D.nx σ H')
      (ts := fun a cls d D σ H => ∃ r ∈ tbl, cls = .ref r.C ∧ d = none ∧ (∃ σ' : L2.St, σ = σ'.set 2 (some (.ref a))) ∧ ∃ ρ st, RS X.K X.mg ρ H st ∧ ∀ ρ2 H2 v σ2, Ext X.K ρ H ρ2 H2 → RS X.K X.mg ρ2 H2 st → RD X.K X.mg ρ2 H2 r.w v → σ2[1]? = some (some v) → D.nx σ2 H2)
      rfl rfl nd h2 l2 ⟨hgl, hde, .inl hme⟩ LamX.takes0 (fun W pn xe tk _ => ?_) (fun a oe cls d pn hz hf => ?_)) (pss_one (ps_ret (pe_var (i := 1) h1 (Or.inl l1) d1 c1)))), ?_⟩
  · refine ⟨fun pins s' σ H' D I h' => ?_⟩
    obtain ⟨Ech, hW, h1, h2, h3⟩ := h'
    have hp := act W pn xe Ech p4 p5 tk hW
    exact (pss_one (ps_expr (pos := p6) hp)).run pins s' σ H' D I ⟨h1, h2, h3⟩
  · refine ⟨fun pins s' σ H' D I h' => ?_⟩
    obtain ⟨r, hr, rfl, rfl, ⟨σ', rfl⟩, ρ, st, rs, k⟩ := h'
    obtain ⟨m, hm, he⟩ := hS s H a oe pn r hr hz hf
    obtain ⟨e', g', he1, he2⟩ := he st
    have len : (σ'.set 2 (some (.ref a))).length = 5 := I.len.trans hl
    have len2 : σ'.length = 5 := by simpa using len
    refine hm.run pins s' _ H' D I ⟨ρ, [none, none, some (.adr a), none, none], st, rs, ⟨len, fun i d hd => ?_⟩, ?_⟩
    · match i, hd with
      | 2, hd =>
        cases hd
        exact ⟨.ref a, by rw [List.getElem?_set_self (by omega)], by simp only [RD]⟩
      | 0, hd => cases hd
      | 1, hd => cases hd
      | 3, hd => cases hd
      | 4, hd => cases hd
      | i + 5, hd => simp at hd
    · rw [he1]
      intro ρ2 H2 σ2 x2 rs2 re2
      obtain ⟨v, hv, rd⟩ := re2.at_ 1 r.w he2
      obtain ⟨ρ3, x3, rs3, rd3, _⟩ := gc_sound rs x2 rs2 rd
      have hgc : gc st r.w (st ++ g') = (r.w, st) := gc_app' (hfl r hr _)
      rw [hgc] at rs3 rd3
      exact k ρ3 H2 v σ2 x3 rs3 rd3 hv
  · show ∃ Ech : XK, _ ∧ _ ∧ _ ∧ _
    refine ⟨fun cls d H' => ∃ r ∈ tbl, cls = .ref r.C ∧ d = none ∧ ∃ ρ' st', RS X.K X.mg ρ' H' st' ∧ ∀ ρ2 H2 v, Ext X.K ρ' H' ρ2 H2 → RS X.K X.mg ρ2 H2 st' → RD X.K X.mg ρ2 H2 r.w v → Q v H2, fun cls d σ' H' hE => ?_, by rw [hst]; rfl, hc, ?_⟩
    · obtain ⟨r, hr, rfl, rfl, ρ', st', rs', k⟩ := hE
      refine ⟨true, hex r hr, fun _ a _ => ⟨r, hr, rfl, rfl, ⟨σ', rfl⟩, ρ', st', rs', fun ρ2 H2 v σ2 x2 rs2 rd2 hv => ?_⟩, fun z => nomatch z⟩
      refine ⟨v, ?_, k ρ2 H2 v x2 rs2 rd2⟩
      rw [List.getElem?_set_ne (by omega)]
      exact hv
    · have e : (fun (_ : V) (H' : Hp) => tRet (tVar 1) { nx := fun _ H' => Q .non H', rt := Q } ((L2.start Ng [V.ref f]).set 1 (some (.str "told"))) H') = fun _ H' => Q (.str "told") H' := by
        funext v H'
        refine propext ⟨fun ⟨v, e, q⟩ => ?_, fun q => ⟨.str "told", ?_, q⟩⟩
        · rw [hst] at e
          cases e
          exact q
        · rw [hst]; rfl
      show tl _ H (fun (_ : V) (H' : Hp) => tRet (tVar 1) { nx := fun _ H' => Q .non H', rt := Q } ((L2.start Ng [V.ref f]).set 1 (some (.str "told"))) H')
      rw [e]
      exact h
end
end Py

set_option Elab.async false
set_option linter.all false
set_option maxRecDepth 100000
set_option maxHeartbeats 1000000
namespace Py
open L2 PySem PySem.Spec PyProof.Rows
variable [Tb]
section
variable {BL : List Str} {GC : List (Str × D)} {X : Cx} {W : WX} {N : List Str} {sc : Scope} {fb : Str → Bool} {k : Nat} {pos : Pos}
omit [Tb] in
omit [Tb] in
/-- the place within a lambda of this place -/
theorem Ct.lam (z : Ct BL GC X W N sc fb k) {scope : Scope} (L : LamX.LamS sc scope) {A : Around} {outer : List Env} {s : Shared} {H : Hp} {E : XK} {f c' : Addr} {j : Nat} (hr : Room j (A.deeper (LamX.lamEnv X scope s.heap.objs.size f c'))) :
    Ct BL GC (LamX.lamCx X A outer s H E scope f c') (fun cls dd _ H => E cls dd H) N scope (fun _ => false) j where
  hN := z.hN
  nd := z.nd
  hsc := rfl
  hfn := rfl
  kind := L.kind
  calm := rfl
  room := hr
  tk := takes_of rfl rfl rfl rfl
  bl := z.bl
  gc := z.gc
/-- the def that tells by a word what a call ends with -/
structure WordF (X : Cx) (x a : Str) (Ng : List Str) (tbl : List WRow) (q : Str) : Prop where
  ex : ∃ (g : Addr) (pg : Arguments) (bg : List Stmt) (sg : Scope) (dV kV doc pm cdv ct oc : Value) (an od : Option Addr) (osl : Array (Option Value)), X.mg x = some (.ref g) ∧ PySem.W.keepIn X.K (.ref g) = true ∧
    X.K.lookup g = some ⟨oc, od, .func (PySem.W.fnOf x x pg bg sg dV kV doc pm an cdv ct), osl⟩ ∧ PySem.W.codeIn X.K cdv x = true ∧ L2.Binds X.K (PySem.W.fnOf x x pg bg sg dV kV doc pm an cdv ct) [a] [] ∧ FnScope Ng [a] sg ∧ Ng[0]? = some a ∧ Vis sg a ∧
    LamX.GivesTo X Ng x sg g cdv bg a q (TTw X.K X.mg tbl)
  hd : (a == ("__debug__" : Str)) = false
  hcd : (a == ("__classdict__" : Str)) = false
omit [Tb] in
omit [Tb] in
def tblD (tbl : List WRow) : List (Str × D) := tbl.map fun r => (r.c, r.w)
omit [Tb] in
omit [Tb] in
theorem lookup_tbl {tbl : List WRow} {c : Str} {w : D} (h : (tblD tbl).lookup c = some w) : ∃ r ∈ tbl, r.c = c ∧ r.w = w := by
  unfold tblD at h
  induction tbl with
  | nil => cases h
  | cons r t ih =>
    rw [List.map_cons, List.lookup_cons] at h
    split at h
    · rename_i e
      cases h
      exact ⟨r, List.mem_cons_self, (eq_of_beq e).symm, rfl⟩
    · obtain ⟨r', hr, e⟩ := ih h
      exact ⟨r', List.mem_cons_of_mem _ hr, e⟩
theorem lam_ext {ρ : List Addr} {H H1 : Hp} {st : Store} {K : PySem.W.Frag} {mg : Str → Option Value} (rs : RS K mg ρ H st) (x : LamX.ExtN H H1) (t : LamX.Tabs Tb.T H1) : RS K mg ρ H1 st ∧ Ext K ρ H ρ H1 := by
  have e : Ext K ρ H ρ H1 := ⟨fun _ _ h => h, fun a xs h => x a _ h (fun ps z => nomatch z), fun a u h _ p => x a u h p, fun _ h n => absurd h n⟩
  refine ⟨⟨rs.len, rs.nd, fun n a o e1 e2 => ?_, t⟩, e⟩
  have r := rs.ob n a o e1 e2
  obtain ⟨u, hu, p⟩ := r.pl
  exact r.mono e fun w hw => x a w hw (by rw [hu] at hw; cases hw; exact p.1)
theorem Ct.word (z : Ct BL GC X W N sc fb k) {x a : Str} {c P : Addr} {Ng : List Str} {tbl : List WRow} {params : Arguments} {body : Expr} {scope : Scope} {me : Py.Loc → Store → R D} {p lpos : Pos} {j : Nat} (F : WordF X x a Ng tbl (X.env.qual ++ "<lambda>")) (TB : LamX.TabB X.base X.mg c P) (hcode : X.env.code = .ref c)
    (hmT : (P, X.env.qual ++ "<lambda>") ∈ Tb.T) (hu : ∀ p ∈ Tb.T, p.1 = P → p.2 = X.env.qual ++ "<lambda>") (hj : j + 2 ≤ k) (h : glB sc x = true) (L : LamX.lamSB sc scope = true) (hC : ∀ r ∈ tbl, X.mg r.c = some (.ref r.C)) (hdef : defaultsOf params X.env = ([], []))
    (hbind : ∀ (q : Str) (cl : List (Str × Addr)) (pm cv ctv : Value), bindArgs (PySem.W.kla_fn "<lambda>" q params body scope cl pm cv ctv) ⟨[], []⟩ = pure [])
    (hbody : ∀ (Y : Cx) (W' : WX), Y.prog = X.prog → Y.w = X.w → Y.K = X.K → Y.mg = X.mg → Y.base = X.base → Ct BL GC Y W' N scope (fun _ => false) j → SE Y W' body me) :
    SE X W (.Call (.Name x p) [.Lambda params body scope lpos] [] pos) (mWord (tblD tbl) me) := by
  obtain ⟨g, pg, bg, sg, dV, kV, doc, pm, cdv, ct, oc, an, od, osl, h1, h2, h3, h4, h5, h6, h7, h8, h9⟩ := F.ex
  have LS := LamX.lamS_by L
  have hdb : (x == ("__debug__" : Str)) = false := by
    simp only [glB, okDbg, Bool.and_eq_true, Bool.not_eq_true'] at h
    exact h.2.1
  refine PE.imp (LamX.pe_lamcall (T := Tb.T) (TT := TTw X.K X.mg tbl) (k := j) (t := fun E => tG X.K X.mg (RD X.K X.mg) (fun cls dd _ H => E cls dd H) me) (z.gl h) h1 h2 h3 h4 h5 h6 h7 h8 h9 TB hcode hmT hu (z.room.mono hj) (by rw [z.hsc]; exact LS) hdef hbind (fun A outer s H E f c' hr => hbody _ _ rfl rfl rfl rfl rfl (z.lam LS hr)) hdb F.hd F.hcd) fun σ H Q ⟨ρ, e, st, rs, re, pp⟩ => ?_
  refine ⟨rs.tb, fun H1 x1 t1 => ?_⟩
  obtain ⟨rs1, e1⟩ := lam_ext rs x1 t1
  show tG X.K X.mg (RD X.K X.mg) _ me σ H1 _
  refine ⟨ρ, e, st, rs1, re.mono e1, ?_⟩
  have q := pp.rebase e1
  unfold mWord at q
  revert q
  cases me e st with
  | ok d st' => exact fun q ρ2 H2 v x2 rs2 rd2 => q ρ2 H2 (.str "told") x2 rs2 (by simp only [RD])
  | stuck => exact fun q => q
  | ex c' pl st' =>
    cases pl with
    | cons _ _ => exact fun q => q.elim
    | nil =>
      simp only
      cases ht : (tblD tbl).lookup c' with
      | none => exact fun q => q.elim
      | some w =>
        intro q ρ2 H2 cls dd x2 rs2 rx
        obtain ⟨r, hr, rfl, rfl⟩ := lookup_tbl ht
        obtain ⟨C, hC', rfl, hx⟩ := rx
        have hCC := (hC r hr).symm.trans hC'
        cases hCC
        rcases hx with ⟨_, rfl⟩ | ⟨_, _, _, _, _, hne⟩
        · refine ⟨r, hr, rfl, rfl, ρ2, st', rs2, fun ρ3 H3 v x3 rs3 rd3 => q ρ3 H3 v (x2.trans x3) rs3 rd3⟩
        · exact absurd rfl hne
end
end Py

set_option Elab.async false
set_option linter.all false
set_option maxRecDepth 100000
set_option maxHeartbeats 1000000
namespace Py
open L2 PySem PySem.Spec PyProof.Rows
/-! ### the end of a text whose defs make lambdas -/
/-- the tables of all defs of the text are empty as yet -/
def AllTab (q : Program) (K : PySem.W.Frag) (mg : Str → Option Value) (h : Heap) : Prop := ∀ (x : Str) (fa c P : Addr) (o oc : Obj) (fd : FuncData) (vs : Array Value), ((recsOf q).any fun e => e.name == x) = true → mg x = some (.ref fa) →
  K.lookup fa = some o → o.data = .func fd → fd.code = .ref c → K.lookup c = some oc → oc.data = .fields vs → vs[11]? = some (.ref P) → h.get? P = some { cls := .none, data := .fields #[] }
theorem walk_all {l : PySem.W.OpenLaw} {n k : Nat} {q : Program} {loose : List Str} {XP : (Str → Option Value) → Heap → Prop} {YP : World → Heap → Prop} {d : DefRec} {K : Params → PySem.W.Frag} {CX : World → CXT} {x : Str} (hn : l.most = some n) (hn2 : n ≤ sizeLine) (hdf : d.params.defaults = []) (hr : Room k callerA)
    (hY : ∀ (w : World) (h : Heap), YP w h → (K w.params).In h) (F : ∀ (w : World) (mg : Str → Option Value) (fa : Addr) (h : Heap), (K w.params).In h → h.Ns mainGlobals mg → mg d.name = some (.ref fa) → AllTab q (K w.params) mg h → LamX.LawAtS l w (K w.params) (CX w) k n x mg fa h)
    (hCX : ∀ (w : World) (H : Hp) (s : Shared) (e : Value) (s' : Shared), CX w [] H s (fun _ _ _ => False) e s' → False) : PySem.W.WalkO q loose XP YP l.row.toRowW d [] fun f vs => PySem.call f vs := Att.attach_callB hn hdf fun w s₀ s₁ mg mb fa o pm cd doc a vs ns G Y ho hd hcd hmg hobj hints hlen hbits hg => by
  have KX := hY w _ Y
  have hA : AllTab q (K w.params) mg s₁.heap := fun x fa c P o oc fd vs hx hm k1 k2 k3 k4 k5 k6 => by
    obtain ⟨r, hr1, hr2⟩ := List.any_eq_true.mp hx
    have hr3 : r.name = x := by simpa using hr2
    obtain ⟨a1, o1, fd1, c1, P1, t1, t2, t3, t4, t5, ⟨⟨ob, vb, u1, u2, u3, u4⟩, u5⟩⟩ := G.T.tab r hr1
    rw [hr3, hm] at t1
    cases Option.some.inj t1
    have g1 := KX fa o k1
    rw [g1] at t2
    cases Option.some.inj t2
    have t3' := k2.symm.trans t3
    cases t3'
    have t4' := k3.symm.trans t4
    cases t4'
    have g2 := KX c oc k4
    rw [g2] at u1
    cases Option.some.inj u1
    have u3' := k5.symm.trans u3
    cases u3'
    have u4' := k6.symm.trans u4
    cases u4'
    exact u5
  obtain ⟨fd, cs, sp, f1, f2, f3, f4, f5, f6⟩ := F w mg fa _ KX G.T.g hmg hA
  exact LamX.law_callTs KX G.T.g G.T.b G.T.builtins G.T.nolimit hg f1 f2 f3 G.T.bmain hobj hints (Nat.le_trans hlen hn2) hr f6 f4 (fun H hH hS => f5 H a ns hlen hbits hH hS) fun H e s' => hCX w H s₁ e s'
/-- a code object -/
structure CodeOk (o : Obj) (c P : Addr) : Prop where
  ex : ∃ vs file tf flags tg inF text tt, o.cls = .type "code" ∧ o.data = .fields vs ∧ vs[11]? = some (.ref P) ∧ vs.getD 11 .none = .ref P ∧ vs.getD 18 .none = .str file tf ∧ vs.getD 7 .none = .int flags tg ∧ vs.getD 9 .none = .bool inF ∧ vs.getD 10 .none = .int text tt ∧ c ≠ P
theorem CodeOk.hd {o : Obj} {c P : Addr} {K : PySem.W.Frag} {h : Heap} (x : CodeOk o c P) (X : K.In h) (q : K.lookup c = some o) : PySem.W.CodeHd h c P := by
  obtain ⟨vs, file, tf, flags, tg, inF, text, tt, r⟩ := x.ex
  exact ⟨o, vs, file, tf, flags, tg, inF, text, tt, X c o q, r⟩
variable [Tb]
section
variable {P : Program} {w : World} {K : PySem.W.Frag} {mg : Str → Option Value} {base : Heap}
/-- what the head tells of a def that makes lambdas: its code object too -/
structure DefC (K : PySem.W.Frag) (mg : Str → Option Value) (x : Str) (st : Stmt) (N ps : List Str) (c : Addr) : Prop where
  ex : ∃ (f : Addr) (oc kV doc pm ct : Value) (od an : Option Addr) (osl : Array (Option Value)), mg x = some (.ref f) ∧ PySem.W.keepIn K (.ref f) = true ∧ Binds K (PySem.W.fnOf x x (defArgs st) (defBody st) (defScope st) .none kV doc pm an (.ref c) ct) ps [] ∧
    K.lookup f = some ⟨oc, od, .func (PySem.W.fnOf x x (defArgs st) (defBody st) (defScope st) .none kV doc pm an (.ref c) ct), osl⟩ ∧ PySem.W.codeIn K (.ref c) x = true
  sc : FnScope N ps (defScope st)
theorem fn_soundC {x : Str} {st : Stmt} {f c : Addr} {oc kV doc pm ct : Value} {od an : Option Addr} {osl : Array (Option Value)} {N ps : List Str} {k : Nat} {mb : Py.Loc → Store → Fl} (lk : K.lookup f = some ⟨oc, od, .func (PySem.W.fnOf x x (defArgs st) (defBody st) (defScope st) .none kV doc pm an (.ref c) ct), osl⟩) (hcd : PySem.W.codeIn K (.ref c) x = true) (S : FnScope N ps (defScope st))
    (hb : ∀ (X : Cx) (W : WX), X.prog = P → X.w = w → X.K = K → X.mg = mg → X.base = base → X.env.code = .ref c → X.env.qual = x ++ ".<locals>." → X.N = N → X.env.scope = defScope st → (X.fn = fun _ => true) → X.calm = true →
      Room k X.A → Takes X W → PassesOwn (model X.prog X.w) X.A X.env X.xe → SSs X W (defBody st) mb) :
    FnOk P w K mg base (L2.CX P w) (k + 1) f (PySem.W.fnOf x x (defArgs st) (defBody st) (defScope st) .none kV doc pm an (.ref c) ct) ps (spD K mg ps.length (runD N mb)) := by
  refine fn_of lk hcd S (fun vs H Q E h => h.1) (fun A outer s H vs Q E hr h => ?_)
  obtain ⟨hl, ρ, st0, ds, rs, rd, p⟩ := h
  refine ⟨_, hb (cxOf (L2.CX P w) P w K mg base N x (defScope st) f (.ref c) A outer s H E) (fun cls d _ H => E cls d H) rfl rfl rfl rfl rfl rfl rfl rfl rfl rfl rfl hr (takes_of rfl rfl rfl rfl) (passes_of rfl), ρ, startE N ds, st0, rs, .start rd, ?_⟩
  revert p
  simp only [runD]
  show Post K mg (RD K mg) _ [] Q ρ H _ → PostS K mg _ _ ρ H (mb (startE N ds) st0)
  cases mb (startE N ds) st0 with
  | nx e1 st1 =>
    intro p ρ1 H1 σ1 x1 rs1 re1
    obtain ⟨ρ2, x2, rs2, rd2, _⟩ := gc_sound rs x1 rs1 (d := .non) (v := .non) (by simp only [RD])
    exact p ρ2 H1 .non x2 rs2 (by simp only [RD])
  | rt d st1 =>
    intro p ρ1 H1 v x1 rs1 rd1
    obtain ⟨ρ2, x2, rs2, rd2, _⟩ := gc_sound rs x1 rs1 rd1
    exact p ρ2 H1 v x2 rs2 rd2
  | bk _ _ => exact fun p => p.elim
  | ct _ _ => exact fun p => p.elim
  | ex c pl e1 st1 =>
    intro p ρ1 H1 σ1 cls dd x1 rs1 re1 rx
    have p' : ∀ ρ' H' cls dd, Ext K ρ H ρ' H' → RS K mg ρ' H' (gcX st0 pl st1) → RX K mg ρ' H' c pl cls dd → E cls dd H' := p
    by_cases hlow : lowDs st0.length (pl.map (·.2)) = true
    · obtain ⟨ρ2, x2, rs2, rd2, cut⟩ := gc_sound rs x1 rs1 (d := .non) (v := .non) (by simp only [RD])
      refine p' ρ2 H1 cls dd x2 (by unfold gcX; rw [if_pos hlow]; exact rs2) ?_
      obtain ⟨C, hC, rfl, h⟩ := rx
      refine ⟨C, hC, rfl, ?_⟩
      rcases h with h | ⟨d, fs, h1, h2, h3, h4⟩
      · exact .inl h
      · exact .inr ⟨d, fs, h1, h2, RFS.cutAll cut h3 hlow, h4⟩
    · exact p' ρ1 H1 cls dd x1 (by unfold gcX; rw [if_neg hlow]; exact rs1) rx
  | stuck => exact fun p => p.elim
theorem DefC.fn (BL : List Str) (GC : List (Str × D)) {x : Str} {st : Stmt} {N ps : List Str} {c : Addr} (F : DefC K mg x st N ps c) {k : Nat} {mb : Py.Loc → Store → Fl} (hbl : ∀ x ∈ BL, mg x = none) (hgc : ∀ x d, (x, d) ∈ GC → ∃ u v, mg x = some u ∧ RelV v u ∧ ∀ ρ H, RD K mg ρ H d v)
    (hb : ∀ (X : Cx) (W : WX), X.prog = P → X.w = w → X.K = K → X.mg = mg → X.base = base → X.env.code = .ref c → X.env.qual = x ++ ".<locals>." → Cf BL GC X W N (defScope st) k → SSs X W (defBody st) mb) : FnD P w K mg base (k + 1) x ps.length (runD N mb) := by
  obtain ⟨f, oc, kV, doc, pm, ct, od, an, osl, h1, h2, h3, h4, h5⟩ := F.ex
  exact ⟨f, _, ps, h1, h2, h3, rfl, fn_soundC h4 h5 F.sc fun X W e1 e2 e3 e4 e5 e6 e7 e8 e9 e10 e11 r t p => hb X W e1 e2 e3 e4 e5 e6 e7 { hN := e8, nd := F.sc.nd, hsc := e9, hfn := e10, kind := F.sc.kind, calm := e11, room := r, tk := t, bl := by rw [e4]; exact hbl, gc := by rw [e4, e3]; exact hgc, ps := p }⟩
theorem defC_mk {x : Str} {st : Stmt} {N ps : List Str} {f c : Addr} {od an : Option Addr} {sl : Array (Option Value)} {oc kV dc pm ct : Value} {h : Heap} (X : K.In h) (G : h.Ns mainGlobals mg) (a : PySem.W.nsIn K mainGlobals x = some (some (.ref f)))
    (l : K.lookup f = some ⟨oc, od, .func (PySem.W.fnOf x x (defArgs st) (defBody st) (defScope st) .none kV dc pm an (.ref c) ct), sl⟩) (cI : PySem.W.codeIn K (.ref c) x = true) (k : PySem.W.keepIn K (.ref f) = true) (S : FnScope N ps (defScope st))
    (hb : ∀ (kV doc pm : Value) (an : Option Addr) (cdv ct : Value) (us : List Value), us.length = ps.length → bindArgs (PySem.W.fnOf x x (defArgs st) (defBody st) (defScope st) .none kV doc pm an cdv ct) ⟨us, []⟩ = pure (ps.zip us)) : DefC K mg x st N ps c :=
  ⟨⟨f, oc, kV, dc, pm, ct, od, an, sl, PySem.W.mg_of X G a, k, (fun_mk (st := st) l cI k).binds hb, l, cI⟩, S⟩
end
end Py

set_option Elab.async false
set_option linter.all false
set_option maxRecDepth 100000
set_option maxHeartbeats 1000000
namespace Py
open L2 PySem PySem.Spec PyProof.Rows
variable [Tb]
/-! ### reading meanings: one row a rule -/
section
variable {e : Py.Loc} {st : Store} {ma mb mc : Py.Loc → Store → R D} {ml mr : Py.Loc → Store → R (List D)} {ta tb : Py.Loc → Store → R Bool}
@[simp] theorem x_var {i : Nat} {d : D} (h : e[i]? = some (some d)) : mVar i e st = .ok d st := by unfold mVar; rw [h]
@[simp] theorem x_c (d : D) : mC d e st = .ok d st := (rfl)
@[simp] theorem x_op2 (f : D → D → Store → Option (D × Store)) : mOp2 f ma mb e st = (ma e st).bind fun x st => (mb e st).bind fun y st => ofO (f x y st) := (rfl)
@[simp] theorem x_op1 (f : D → Store → Option (D × Store)) : mOp1 f ma e st = (ma e st).bind fun x st => ofO (f x st) := (rfl)
@[simp] theorem x_opN (f : List D → Store → Option (D × Store)) : mOpN f ml e st = (ml e st).bind fun xs st => ofO (f xs st) := (rfl)
@[simp] theorem x_nil : mNil e st = .ok [] st := (rfl)
@[simp] theorem x_cons : mCons ma ml e st = (ma e st).bind fun x st => (ml e st).bind fun xs st => .ok (x :: xs) st := (rfl)
@[simp] theorem x_call (m : Mean) : mCall m ml e st = (ml e st).bind m := (rfl)
@[simp] theorem x_asB : asB ma e st = (ma e st).bind fun d st => match d with | .bl b => .ok b st | _ => .stuck := (rfl)
@[simp] theorem x_and : mAnd ta tb e st = (ta e st).bind fun c st => if c = true then tb e st else .ok false st := (rfl)
@[simp] theorem x_or : mOr ta tb e st = (ta e st).bind fun c st => if c = true then .ok true st else tb e st := (rfl)
@[simp] theorem x_not : mNot ta e st = (ta e st).bind fun c st => .ok (!c) st := (rfl)
@[simp] theorem x_andV : mAndV ma mb e st = (ma e st).bind fun d st => match d with | .bl true => mb e st | .bl false => .ok (.bl false) st | _ => .stuck := (rfl)
@[simp] theorem x_orV : mOrV ma mb e st = (ma e st).bind fun d st => match d with | .bl true => .ok (.bl true) st | .bl false => mb e st | _ => .stuck := (rfl)
@[simp] theorem x_notV : mNotV ma e st = (ma e st).bind fun d st => match d with | .bl b => .ok (.bl (!b)) st | _ => .stuck := (rfl)
@[simp] theorem x_if : mIf ta ma mb e st = (ta e st).bind fun c st => if c = true then ma e st else mb e st := (rfl)
@[simp] theorem x_chain (f g : D → D → Store → Option (D × Store)) : mChain f g ma mb mc e st =
  (ma e st).bind fun x st => (mb e st).bind fun y st => (ofO (f x y st)).bind fun z st => match z with | .bl true => (mc e st).bind fun w st => ofO (g y w st) | .bl false => .ok (.bl false) st | _ => .stuck := (rfl)
@[simp] theorem x_isi (cs : List String) : mIsi ma cs e st = (ma e st).bind fun d st => match tyName d st with | some t => .ok (.bl (cs.any fun c => isT t c)) st | none => .stuck := (rfl)
@[simp] theorem x_sl (m1 m2 : Py.Loc → Store → R (Option Int)) : mSl ma m1 m2 e st = (ma e st).bind fun d st => (m1 e st).bind fun lo st => (m2 e st).bind fun hi st => ofO (cutD d lo hi st) := (rfl)
@[simp] theorem x_noP : mNoP e st = .ok none st := (rfl)
@[simp] theorem x_P : mP ma e st = (ma e st).bind fun d st => match d with | .int i => .ok (some i) st | _ => .stuck := (rfl)
@[simp] theorem x_yes : mYes e st = .ok true st := (rfl)
@[simp] theorem x_newD : mNewD e st = .ok (.ref st.length) (st ++ [.dict []]) := (rfl)
theorem x_tup : mTup ml e st = (ml e st).bind fun ds st => if ds.length ≤ sizeLine then .ok (.tup ds) st else .stuck := (rfl)
theorem x_lst : mLst ml e st = (ml e st).bind fun ds st => if ds.length ≤ sizeLine then .ok (.ref st.length) (st ++ [.lst ds]) else .stuck := (rfl)
@[simp] theorem x_mt (f : D → List D → Store → Option (D × Store)) : mMt f ma ml e st = (ma e st).bind fun o st => if isLst o st = true then (ml e st).bind fun ds st => ofO (f o ds st) else .stuck := (rfl)
@[simp] theorem x_mtS (f : D → List D → Store → Option (D × Store)) : mMtS f ma mb e st = (ma e st).bind fun o st => match o with | .str z => (mb e st).bind fun d st => ofO (f (.str z) [d] st) | _ => .stuck := (rfl)
@[simp] theorem x_it : mIt ma e st = (ma e st).bind fun d st => match itD d st with | some it => .ok it st | none => .stuck := (rfl)
@[simp] theorem x_en : mEn ma e st = (ma e st).bind fun d st => match enD d st with | some it => .ok it st | none => .stuck := (rfl)
@[simp] theorem x_rv : mRv ma e st = (ma e st).bind fun d st => match rvD d st with | some it => .ok it st | none => .stuck := (rfl)
theorem x_rgs : mRgs ml e st = (ml e st).bind fun ds st => match rgIt ds with | some it => .ok it st | none => .stuck := (rfl)
@[simp] theorem x_zp : mZp ml e st = (ml e st).bind fun ds st => match zpD ds st with | some it => .ok it st | none => .stuck := (rfl)
variable {m1 m2 : Py.Loc → Store → Fl} {g : D → Py.Loc → Store → Fl} {mi : Py.Loc → Store → R Iter}
@[simp] theorem y_seq : sSeq m1 m2 e st = (m1 e st).seq m2 := (rfl)
@[simp] theorem y_if : sIf ta m1 m2 e st = (ta e st).to e fun c st => if c = true then m1 e st else m2 e st := (rfl)
@[simp] theorem y_ret : sRet ma e st = (ma e st).to e fun d st => .rt d st := (rfl)
@[simp] theorem y_exp : sExp ma e st = (ma e st).to e fun _ st => .nx e st := (rfl)
@[simp] theorem y_asg : sAsg ma g e st = (ma e st).to e fun d st => (g d e st).seq fun e st => .nx e st := (rfl)
@[simp] theorem y_gN (i : Nat) (d : D) : gN i d e st = .nx (e.set i (some d)) st := (rfl)
@[simp] theorem y_par2 (i j : Nat) : sPar2 i j ml e st = (ml e st).to e fun ds st => match ds with | [a, b] => .nx ((e.set i (some a)).set j (some b)) st | _ => .stuck := (rfl)
@[simp] theorem y_par3 (i j l : Nat) : sPar3 i j l ml e st = (ml e st).to e fun ds st => match ds with | [a, b, c] => .nx (((e.set i (some a)).set j (some b)).set l (some c)) st | _ => .stuck := (rfl)
@[simp] theorem y_for (b : Py.Loc → Store → Fl) : sFor mi g b e st = (mi e st).to e fun it st => forL it.still (fun d e st => (g d e st).seq b) it.items e st := (rfl)
@[simp] theorem y_sub (f : D → D → D → Store → Option Store) (d : D) : gSb f ma mb d e st = (ma e st).to e fun o st => (mb e st).to e fun i st => match f o i d st with | some st => .nx e st | none => .stuck := (rfl)
end
/-! ### what a def hands back -/
theorem gc_low {st st' : Store} {d : D} (h : ∀ i, i < st.length → (st'[i]? = st[i]? ∨ ∃ o, st'[i]? = some o ∧ lowO st.length o = true)) (l : lowD st.length d = true) : gc st d st' = (d, st'.take st.length) := by
  unfold gc
  rw [if_pos h, if_pos l]
theorem gc_app {st g : Store} {d : D} (l : lowD st.length d = true) : gc st d (st ++ g) = (d, st) := by
  rw [gc_low (fun i hi => .inl (List.getElem?_append_left hi)) l, List.take_left]
theorem gc_same {st : Store} {d : D} (l : lowD st.length d = true) : gc st d st = (d, st) := by
  have := gc_app (g := []) l
  rwa [List.append_nil] at this
theorem gc_new {st g : Store} {n : Nat} {o : O} (hn : st.length ≤ n) (ho : (st ++ g)[n]? = some o) (l : lowO st.length o = true) : gc st (.ref n) (st ++ g) = (.ref st.length, st ++ [o]) := by
  unfold gc
  rw [if_pos (fun i hi => .inl (List.getElem?_append_left hi)), if_neg (by simp only [lowD, decide_eq_true_eq]; omega)]
  simp only [ho]
  rw [if_pos ⟨hn, l⟩, List.take_left]
omit [Tb] in
mutual
def flat : D → Bool
  | .tup ds => flats ds
  | .kt ds => flats ds
  | .kl ds => flats ds
  | .ref _ => false
  | _ => true
def flats : List D → Bool
  | [] => true
  | d :: ds => flat d && flats ds
end
mutual
theorem lowD_flat {L : Nat} : ∀ {d : D}, flat d = true → lowD L d = true
  | .tup ds, h => by simp only [flat] at h; simp only [lowD]; exact lowDs_flat h
  | .kt ds, h => by simp only [flat] at h; simp only [lowD]; exact lowDs_flat h
  | .kl ds, h => by simp only [flat] at h; simp only [lowD]; exact lowDs_flat h
  | .ref _, h => by simp [flat] at h
  | .non, _ => rfl
  | .bl _, _ => rfl
  | .int _, _ => rfl
  | .str _, _ => rfl
  | .gl _, _ => rfl
  | .adr _, _ => rfl
theorem lowDs_flat {L : Nat} : ∀ {ds : List D}, flats ds = true → lowDs L ds = true
  | [], _ => rfl
  | d :: ds, h => by simp only [flats, Bool.and_eq_true] at h; simp only [lowDs, Bool.and_eq_true]; exact ⟨lowD_flat h.1, lowDs_flat h.2⟩
end
theorem flats_all {ds : List D} : flats ds = ds.all flat := by
  induction ds with
  | nil => rfl
  | cons d ds ih => simp [flats, ih]
/-- a def that returns -/
theorem run_rt {N : List Str} {mb : Py.Loc → Store → Fl} {ds : List D} {st g : Store} {d : D} (h : mb (startE N ds) st = .rt d (st ++ g)) (f : flat d = true) : runD N mb ds st = .ok d st := by
  unfold runD
  rw [h]
  simp only [gc_app (lowD_flat f)]
theorem run_rt0 {N : List Str} {mb : Py.Loc → Store → Fl} {ds : List D} {st : Store} {d : D} (h : mb (startE N ds) st = .rt d st) (f : flat d = true) : runD N mb ds st = .ok d st := run_rt (g := []) (by rw [List.append_nil]; exact h) f
theorem run_nx {N : List Str} {mb : Py.Loc → Store → Fl} {ds : List D} {st g : Store} {e : Py.Loc} (h : mb (startE N ds) st = .nx e (st ++ g)) : runD N mb ds st = .ok .non st := by
  unfold runD
  rw [h]
  simp only [gc_app (d := .non) rfl]
theorem run_nx0 {N : List Str} {mb : Py.Loc → Store → Fl} {ds : List D} {st : Store} {e : Py.Loc} (h : mb (startE N ds) st = .nx e st) : runD N mb ds st = .ok .non st := run_nx (g := []) (by rw [List.append_nil]; exact h)
/-- a def that returns a new list -/
theorem run_new {N : List Str} {mb : Py.Loc → Store → Fl} {ds : List D} {st g : Store} {n : Nat} {o : O} (h : mb (startE N ds) st = .rt (.ref n) (st ++ g)) (hn : st.length ≤ n) (ho : (st ++ g)[n]? = some o) (l : lowO st.length o = true) : runD N mb ds st = .ok (.ref st.length) (st ++ [o]) := by
  unfold runD
  rw [h]
  simp only [gc_new hn ho l]
theorem lowO_flat {L : Nat} {ds : List D} (h : flats ds = true) : lowO L (.lst ds) = true := by simp only [lowO]; exact lowDs_flat h
/-! ### loops -/
section
variable {b : D → Py.Loc → Store → Fl} {e : Py.Loc} {st : Store} {still : Store → Prop}
theorem forL_nil (h : still st) : forL still b [] e st = .nx e st := by unfold forL; rw [if_pos h]
theorem forL_nx {d : D} {ds : List D} {e' : Py.Loc} {st' : Store} (h : still st) (hb : b d e st = .nx e' st') : forL still b (d :: ds) e st = forL still b ds e' st' := by conv => lhs; unfold forL; rw [if_pos h, hb]
theorem forL_ct {d : D} {ds : List D} {e' : Py.Loc} {st' : Store} (h : still st) (hb : b d e st = .ct e' st') : forL still b (d :: ds) e st = forL still b ds e' st' := by conv => lhs; unfold forL; rw [if_pos h, hb]
theorem forL_rt {d r : D} {ds : List D} {st' : Store} (h : still st) (hb : b d e st = .rt r st') : forL still b (d :: ds) e st = .rt r st' := by conv => lhs; unfold forL; rw [if_pos h, hb]
theorem forL_bk {d : D} {ds : List D} {e' : Py.Loc} {st' : Store} (h : still st) (hb : b d e st = .bk e' st') : forL still b (d :: ds) e st = .nx e' st' := by conv => lhs; unfold forL; rw [if_pos h, hb]
/-- a loop that turns a state s -/
theorem forL_fold {α : Type} (E : α → Py.Loc) (f : α → D → α) (hs : still st) : ∀ (ds : List D) (s : α), (∀ d ∈ ds, ∀ s, b d (E s) st = .nx (E (f s d)) st) → forL still b ds (E s) st = .nx (E (ds.foldl f s)) st
  | [], s, _ => forL_nil hs
  | d :: ds, s, h => by
    rw [forL_nx hs (h d List.mem_cons_self s)]
    exact forL_fold E f hs ds (f s d) fun d' hd => h d' (List.mem_cons_of_mem _ hd)
/-- the same where the store goes along -/
theorem forL_run {α : Type} (E : α → Py.Loc) (S : α → Store) (f : α → D → α) (ok : α → Prop) (hs : ∀ s, ok s → still (S s)) : ∀ (ds : List D) (s : α), ok s → (∀ d ∈ ds, ∀ s, ok s → b d (E s) (S s) = .nx (E (f s d)) (S (f s d)) ∧ ok (f s d)) → forL still b ds (E s) (S s) = .nx (E (ds.foldl f s)) (S (ds.foldl f s)) ∧ ok (ds.foldl f s)
  | [], s, h0, _ => ⟨forL_nil (hs s h0), h0⟩
  | d :: ds, s, h0, h => by
    obtain ⟨h1, h2⟩ := h d List.mem_cons_self s h0
    rw [forL_nx (hs s h0) h1]
    exact forL_run E S f ok hs ds (f s d) h2 fun d' hd => h d' (List.mem_cons_of_mem _ hd)
/-- a comprehension's loop, the items one by one -/
theorem lcL_of {b : D → Store → R (Option D)} (g : D → Option D) (hs : still st) : ∀ ds : List D, (∀ d ∈ ds, b d st = .ok (g d) st) → lcL still b ds st = .ok (ds.filterMap g) st
  | [], _ => by unfold lcL; rw [if_pos hs]; rfl
  | d :: ds, h => by
    unfold lcL
    rw [if_pos hs, h d List.mem_cons_self]
    simp only [R.bind_ok]
    rw [lcL_of g hs ds fun d' hd => h d' (List.mem_cons_of_mem _ hd)]
    simp only [R.bind_ok]
    congr 1
    cases hg : g d with
    | none => simp [hg]
    | some y => simp [hg]
theorem mLc_of {mi : Py.Loc → Store → R Iter} {tg : Tg} {mt : Py.Loc → Store → R Bool} {me : Py.Loc → Store → R D} {vs : List Nat} {it : Iter} {st' : Store} (g : D → Option D) (hi : mi e st = .ok it st') (hs : it.still st') (hl : it.items.length ≤ sizeLine)
    (h : ∀ d ∈ it.items, lcB tg mt me d (wipeE e vs) st' = .ok (g d) st') : mLc mi tg mt me vs e st = .ok (.ref st'.length) (st' ++ [.lst (it.items.filterMap g)]) := by
  unfold mLc
  rw [hi]
  simp only [R.bind_ok]
  rw [if_pos hl, lcL_of g hs _ h]
  rfl
theorem lcB_some {tg : Tg} {mt : Py.Loc → Store → R Bool} {me : Py.Loc → Store → R D} {d y : D} {e1 : Py.Loc} {g : Store} (hb : bindE tg d e = some e1) (ht : mt e1 st = .ok true st) (he : me e1 st = .ok y (st ++ g)) (f : lowD st.length y = true) : lcB tg mt me d e st = .ok (some y) st := by
  unfold lcB
  rw [hb]
  simp only [ht, he, gc_app f]
theorem lcB_none {tg : Tg} {mt : Py.Loc → Store → R Bool} {me : Py.Loc → Store → R D} {d : D} {e1 : Py.Loc} {g : Store} (hb : bindE tg d e = some e1) (ht : mt e1 st = .ok false (st ++ g)) : lcB tg mt me d e st = .ok none st := by
  unfold lcB
  rw [hb]
  simp only [ht, gc_app (d := .non) rfl]
theorem filterMap_some {α β : Type} (f : α → β) : ∀ l : List α, l.filterMap (fun a => some (f a)) = l.map f
  | [] => rfl
  | a :: l => by rw [List.filterMap_cons, List.map_cons, filterMap_some f l]
/-- all items told, nothing dropped -/
theorem mLc_map {mi : Py.Loc → Store → R Iter} {tg : Tg} {me : Py.Loc → Store → R D} {vs : List Nat} {it : Iter} {st' : Store} (f : D → D) (hi : mi e st = .ok it st') (hs : it.still st') (hl : it.items.length ≤ sizeLine)
    (h : ∀ d ∈ it.items, ∃ e1 g, bindE tg d (wipeE e vs) = some e1 ∧ me e1 st' = .ok (f d) (st' ++ g) ∧ lowD st'.length (f d) = true) : mLc mi tg mYes me vs e st = .ok (.ref st'.length) (st' ++ [.lst (it.items.map f)]) := by
  rw [← filterMap_some]
  refine mLc_of _ hi hs hl fun d hd => ?_
  obtain ⟨e1, g, h1, h2, h3⟩ := h d hd
  exact lcB_some h1 rfl h2 h3
end
end Py

set_option Elab.async false
set_option linter.all false
set_option maxRecDepth 100000
set_option maxHeartbeats 1000000
namespace Py
open L2 PySem PySem.Spec PyProof.Rows
variable [Tb]
section
variable {st : Store} {i j : Int} {a b : Str} {p q : Bool}
@[simp] theorem addI : addD (.int i) (.int j) st = some (.int (i + j), st) := (rfl)
@[simp] theorem subI : subD (.int i) (.int j) st = some (.int (i - j), st) := guard_pos trivial
theorem fdivI (h : DivOk i j) : fdivD (.int i) (.int j) st = some (.int (i.fdiv j), st) := guard_pos h
theorem modI (h : j ≠ 0) : modD (.int i) (.int j) st = some (.int (i.fmod j), st) := guard_pos h
theorem mulI (h : MulOk i j) : mulD (.int i) (.int j) st = some (.int (i * j), st) := guard_pos h
theorem powI (h : CPow i j) : powD (.int i) (.int j) st = some (.int (i ^ j.toNat), st) := guard_pos h
theorem shlI (h : CShl i j) : shlD (.int i) (.int j) st = some (.int (i * 2 ^ j.toNat), st) := guard_pos h
theorem shrI (h : 0 ≤ j) : shrD (.int i) (.int j) st = some (.int (i / 2 ^ j.toNat), st) := guard_pos h
@[simp] theorem andI : andD (.int i) (.int j) st = some (.int (Builtin.bitAnd i j), st) := guard_pos trivial
@[simp] theorem orI : orD (.int i) (.int j) st = some (.int (Builtin.bitOr i j), st) := guard_pos trivial
@[simp] theorem xorI : xorD (.int i) (.int j) st = some (.int (Builtin.bitXor i j), st) := guard_pos trivial
@[simp] theorem negI : negD (.int i) st = some (.int (-i), st) := (rfl)
@[simp] theorem invI : invD (.int i) st = some (.int (Builtin.bitNot i), st) := (rfl)
@[simp] theorem ltI : ltD (.int i) (.int j) st = some (.bl (decide (i < j)), st) := (rfl)
@[simp] theorem leI : leD (.int i) (.int j) st = some (.bl (decide (i ≤ j)), st) := (rfl)
@[simp] theorem gtI : gtD (.int i) (.int j) st = some (.bl (decide (j < i)), st) := (rfl)
@[simp] theorem geI : geD (.int i) (.int j) st = some (.bl (decide (j ≤ i)), st) := (rfl)
theorem eqv_int : PyData.eqv (.int i) (.int j) = decide (i = j) := by rw [PyData.eqv]; by_cases h : i = j <;> simp [h]
theorem eqv_str : PyData.eqv (.str a) (.str b) = decide (a = b) := by rw [PyData.eqv]; by_cases h : a = b <;> simp [h]
theorem eqv_bl : PyData.eqv (.bool p) (.bool q) = decide (p = q) := by rw [PyData.eqv]; cases p <;> cases q <;> rfl
theorem shaped_int : SeqAt.shaped (.int i) = true := rfl
theorem shaped_bl : SeqAt.shaped (.bool p) = true := rfl
omit [Tb] in
def okS (a : Str) : Bool := SeqAt.shaped (.str a)
@[simp] theorem eqI : eqD (.int i) (.int j) st = some (.bl (decide (i = j)), st) := by
  unfold eqD
  simp only [toPy, pyG]
  rw [guard_pos ⟨shaped_int, shaped_int⟩, eqv_int]
@[simp] theorem eqBl : eqD (.bl p) (.bl q) st = some (.bl (decide (p = q)), st) := by
  unfold eqD
  simp only [toPy, pyG]
  rw [guard_pos ⟨shaped_bl, shaped_bl⟩, eqv_bl]
@[simp] theorem neI : neD (.int i) (.int j) st = some (.bl (!decide (i = j)), st) := by
  unfold neD
  simp only [toPy, pyG]
  rw [guard_pos ⟨shaped_int, shaped_int⟩, eqv_int]
@[simp] theorem neBl : neD (.bl p) (.bl q) st = some (.bl (!decide (p = q)), st) := by
  unfold neD
  simp only [toPy, pyG]
  rw [guard_pos ⟨shaped_bl, shaped_bl⟩, eqv_bl]
theorem eqSt (h1 : okS a = true) (h2 : okS b = true) : eqD (.str a) (.str b) st = some (.bl (decide (a = b)), st) := by
  unfold eqD
  simp only [toPy, pyG]
  rw [guard_pos ⟨h1, h2⟩, eqv_str]
theorem neSt (h1 : okS a = true) (h2 : okS b = true) : neD (.str a) (.str b) st = some (.bl (!decide (a = b)), st) := by
  unfold neD
  simp only [toPy, pyG]
  rw [guard_pos ⟨h1, h2⟩, eqv_str]
@[simp] theorem isNon_non : isD2 .non .non st = some (.bl true, st) := (rfl)
@[simp] theorem isNon_int : isD2 (.int i) .non st = some (.bl false, st) := (rfl)
@[simp] theorem isNon_bl : isD2 (.bl p) .non st = some (.bl false, st) := (rfl)
@[simp] theorem isNon_str : isD2 (.str a) .non st = some (.bl false, st) := (rfl)
@[simp] theorem isNon_tup {ds : List D} : isD2 (.tup ds) .non st = some (.bl false, st) := (rfl)
@[simp] theorem isNon_ref {n : Nat} : isD2 (.ref n) .non st = some (.bl false, st) := (rfl)
@[simp] theorem isBl_bl : isD2 (.bl p) (.bl q) st = some (.bl (decide (p = q)), st) := (rfl)
@[simp] theorem isnNon_non : isnD2 .non .non st = some (.bl false, st) := (rfl)
@[simp] theorem isnNon_int : isnD2 (.int i) .non st = some (.bl true, st) := (rfl)
@[simp] theorem isnNon_bl : isnD2 (.bl p) .non st = some (.bl true, st) := (rfl)
@[simp] theorem isnNon_str : isnD2 (.str a) .non st = some (.bl true, st) := (rfl)
@[simp] theorem isnNon_tup {ds : List D} : isnD2 (.tup ds) .non st = some (.bl true, st) := (rfl)
@[simp] theorem isnNon_ref {n : Nat} : isnD2 (.ref n) .non st = some (.bl true, st) := (rfl)
@[simp] theorem isnBl_bl : isnD2 (.bl p) (.bl q) st = some (.bl (!decide (p = q)), st) := (rfl)
@[simp] theorem ty_int : tyName (.int i) st = some "int" := (rfl)
@[simp] theorem ty_bl : tyName (.bl p) st = some "bool" := (rfl)
@[simp] theorem ty_str : tyName (.str a) st = some "str" := (rfl)
@[simp] theorem ty_tup {ds : List D} : tyName (.tup ds) st = some "tuple" := (rfl)
@[simp] theorem ty_non : tyName .non st = some "NoneType" := (rfl)
@[simp] theorem absI : absD [.int i] st = some (.int (if i < 0 then -i else i), st) := (rfl)
@[simp] theorem intI : intD [.int i] st = some (.int i, st) := (rfl)
@[simp] theorem intBl : intD [.bl p] st = some (.int (if p then 1 else 0), st) := (rfl)
@[simp] theorem lenT {ds : List D} : lenD [.tup ds] st = some (.int ds.length, st) := (rfl)
@[simp] theorem tupT {ds : List D} : tupD [.tup ds] st = some (.tup ds, st) := (rfl)
theorem getL_app {g : Store} {n : Nat} {ds : List D} (h : getL st n = some ds) : getL (st ++ g) n = some ds := by
  unfold getL at h ⊢
  cases hq : st[n]? with
  | none => rw [hq] at h; cases h
  | some o => rw [List.getElem?_append_left (List.getElem?_eq_some_iff.mp hq).1, hq]; rw [hq] at h; exact h
@[simp] theorem getL_new {ds : List D} : getL (st ++ [.lst ds]) st.length = some ds := by
  unfold getL
  simp
theorem seqOf_app {g : Store} {d : D} {ds : List D} (h : seqOf d st = some ds) : seqOf d (st ++ g) = some ds := by
  cases d with
  | ref n => exact getL_app h
  | _ => exact h
@[simp] theorem seqOf_tup {ds : List D} : seqOf (.tup ds) st = some ds := (rfl)
@[simp] theorem seqOf_kt {ds : List D} : seqOf (.kt ds) st = some ds := (rfl)
@[simp] theorem seqOf_kl {ds : List D} : seqOf (.kl ds) st = some ds := (rfl)
theorem seqOf_ref {n : Nat} : seqOf (.ref n) st = getL st n := rfl
@[simp] theorem seqOf_new {ds : List D} : seqOf (.ref st.length) (st ++ [.lst ds]) = some ds := getL_new
theorem itD_seq {d : D} {ds : List D} (h : seqOf d st = some ds) : itD d st = some ⟨ds, stillD d ds⟩ := by
  cases d with
  | str z => cases h
  | _ => simp only [itD, h]; rfl
theorem stillD_of {d : D} {ds : List D} {st' : Store} (h : seqOf d st' = some ds) : stillD d ds st' := by
  cases d with
  | ref n => exact h
  | _ => trivial
@[simp] theorem isT_ii : isT "int" "int" = true := by decide
@[simp] theorem isT_ib : isT "int" "bool" = false := by decide
@[simp] theorem isT_bi : isT "bool" "int" = true := by decide
@[simp] theorem isT_bb : isT "bool" "bool" = true := by decide
@[simp] theorem isT_tt : isT "tuple" "tuple" = true := by decide
@[simp] theorem isT_it : isT "int" "tuple" = false := by decide
@[simp] theorem isT_il : isT "int" "list" = false := by decide
@[simp] theorem isT_tl : isT "tuple" "list" = false := by decide
@[simp] theorem isT_ti : isT "tuple" "int" = false := by decide
@[simp] theorem isT_tb : isT "tuple" "bool" = false := by decide
@[simp] theorem isT_ll : isT "list" "list" = true := by decide
@[simp] theorem isT_ss : isT "str" "str" = true := by decide
@[simp] theorem isT_si : isT "str" "int" = false := by decide
@[simp] theorem isT_sb : isT "str" "bool" = false := by decide
@[simp] theorem isT_st : isT "str" "tuple" = false := by decide
@[simp] theorem isT_is : isT "int" "str" = false := by decide
@[simp] theorem isT_ts : isT "tuple" "str" = false := by decide
@[simp] theorem isT_bt : isT "bool" "tuple" = false := by decide
@[simp] theorem isT_bs : isT "bool" "str" = false := by decide
@[simp] theorem isT_bl : isT "bool" "list" = false := by decide
theorem nat_xor_and (a b : Nat) : (a ^^^ b) + 2 * (a &&& b) = a + b := by
  induction a using Nat.strongRecOn generalizing b with
  | _ a ih =>
    by_cases h0 : a = 0
    · subst h0; simp
    · have h := ih (a / 2) (by omega) (b / 2)
      have e1 : (a ^^^ b) / 2 = (a / 2) ^^^ (b / 2) := Nat.xor_div_two
      have e2 : (a &&& b) / 2 = (a / 2) &&& (b / 2) := Nat.and_div_two
      have e3 : (a ^^^ b) % 2 = (a + b) % 2 := by
        by_cases hc : (a % 2 = 1 ↔ b % 2 = 1)
        · have : ¬ (a ^^^ b) % 2 = 1 := fun z => (Nat.xor_mod_two_eq_one.mp z) hc
          omega
        · have := Nat.xor_mod_two_eq_one.mpr hc
          omega
      have e4 : (a &&& b) % 2 = if a % 2 = 1 ∧ b % 2 = 1 then 1 else 0 := by
        by_cases hc : a % 2 = 1 ∧ b % 2 = 1
        · rw [if_pos hc]; exact Nat.and_mod_two_eq_one.mpr hc
        · rw [if_neg hc]
          have : ¬ (a &&& b) % 2 = 1 := fun z => hc (Nat.and_mod_two_eq_one.mp z)
          omega
      rw [← e1, ← e2] at h
      split at e4 <;> omega
theorem xorN (a b : Nat) : Builtin.bitXor (a : Int) (b : Int) = ((a ^^^ b : Nat) : Int) := by
  rw [PyProof.Rows.bitXor_and]
  have h := nat_xor_and a b
  have e : Builtin.bitAnd (a : Int) (b : Int) = ((a &&& b : Nat) : Int) := by
    unfold Builtin.bitAnd
    simp
  rw [e]
  omega
theorem andN (a b : Nat) : Builtin.bitAnd (a : Int) (b : Int) = ((a &&& b : Nat) : Int) := by
  unfold Builtin.bitAnd
  simp
end
end Py

set_option Elab.async false
set_option linter.all false
set_option maxRecDepth 100000
set_option maxHeartbeats 1000000
namespace Py
open L2 PySem PySem.Spec PyProof.Rows
variable [Tb]
/-! ### the laws' hand: a list of five things that the draws change -/
omit [Tb] in
abbrev hd5 (c : Nat) (i a b e : Int) : O := .lst [.ref c, .int i, .int a, .int b, .int e]
section
variable {s : Store} {h c : Nat} {i a b e v : Int} {ds : List D} {o : O}
theorem ix_at {st : Store} {n : Nat} {k : Int} {d : D} (hn : st[n]? = some (.lst ds)) (hk : atI ds k = some d) : ixD (.ref n) (.int k) st = some (d, st) := by simp [ixD, hn, hk]
theorem at_set (hh : h < s.length) : (s.set h o)[h]? = some o := List.getElem?_set_self hh
theorem at_ne (hc : c ≠ h) : (s.set h o)[c]? = s[c]? := List.getElem?_set_ne (Ne.symm hc)
theorem h0 (hh : h < s.length) : ixD (.ref h) (.int 0) (s.set h (hd5 c i a b e)) = some (.ref c, s.set h (hd5 c i a b e)) := ix_at (at_set hh) rfl
theorem h1 (hh : h < s.length) : ixD (.ref h) (.int 1) (s.set h (hd5 c i a b e)) = some (.int i, s.set h (hd5 c i a b e)) := ix_at (at_set hh) rfl
theorem h2 (hh : h < s.length) : ixD (.ref h) (.int 2) (s.set h (hd5 c i a b e)) = some (.int a, s.set h (hd5 c i a b e)) := ix_at (at_set hh) rfl
theorem h3 (hh : h < s.length) : ixD (.ref h) (.int 3) (s.set h (hd5 c i a b e)) = some (.int b, s.set h (hd5 c i a b e)) := ix_at (at_set hh) rfl
theorem h4 (hh : h < s.length) : ixD (.ref h) (.int 4) (s.set h (hd5 c i a b e)) = some (.int e, s.set h (hd5 c i a b e)) := ix_at (at_set hh) rfl
theorem hset (hh : h < s.length) {k : Int} {j : Nat} {d : D} (hk : ixN ds.length k = some j) : setD (.ref h) (.int k) d (s.set h (.lst ds)) = some (s.set h (.lst (ds.set j d))) := by
  simp only [setD]
  rw [at_set hh]
  simp only [hk]
  rw [List.set_set]
theorem s1 (hh : h < s.length) : setD (.ref h) (.int 1) (.int v) (s.set h (hd5 c i a b e)) = some (s.set h (hd5 c v a b e)) := hset hh (ds := [.ref c, .int i, .int a, .int b, .int e]) (j := 1) rfl
theorem s2 (hh : h < s.length) : setD (.ref h) (.int 2) (.int v) (s.set h (hd5 c i a b e)) = some (s.set h (hd5 c i v b e)) := hset hh (ds := [.ref c, .int i, .int a, .int b, .int e]) (j := 2) rfl
theorem s3 (hh : h < s.length) : setD (.ref h) (.int 3) (.int v) (s.set h (hd5 c i a b e)) = some (s.set h (hd5 c i a v e)) := hset hh (ds := [.ref c, .int i, .int a, .int b, .int e]) (j := 3) rfl
theorem s4 (hh : h < s.length) : setD (.ref h) (.int 4) (.int v) (s.set h (hd5 c i a b e)) = some (s.set h (hd5 c i a b v)) := hset hh (ds := [.ref c, .int i, .int a, .int b, .int e]) (j := 4) rfl
omit [Tb] in
/-- a hand in good order at h, its cells at c -/
structure Good (cells : List Int) (i a b e : Int) : Prop where
  n : cells.length ≤ 63
  z : ∀ x ∈ cells, 0 ≤ x
  i0 : 0 ≤ i
  a0 : 0 ≤ a
  b0 : 0 ≤ b
  b1 : b < 2147483629
  e0 : 0 ≤ e
theorem gc_hand {st : Store} {h c : Nat} {i a b e i' a' b' e' : Int} {d : D} {g : Store} (hh : h < st.length) (hc : c < st.length) (f : flat d = true) : gc (st.set h (hd5 c i a b e)) d (st.set h (hd5 c i' a' b' e') ++ g) = (d, st.set h (hd5 c i' a' b' e')) := by
  have hl : (st.set h (hd5 c i a b e)).length = st.length := by simp
  have hl2 : (st.set h (hd5 c i' a' b' e')).length = st.length := by simp
  rw [gc_low (fun j hj => ?_) (lowD_flat f)]
  · rw [hl, ← hl2, List.take_left]
  · rw [hl] at hj
    rw [List.getElem?_append_left (by rw [hl2]; exact hj)]
    by_cases hjh : j = h
    · subst hjh
      refine .inr ⟨_, at_set hh, ?_⟩
      simp [lowO, lowDs, lowD, hc]
    · left
      rw [at_ne hjh, at_ne hjh]
theorem run_hand {N : List Str} {mb : Py.Loc → Store → Fl} {ds : List D} {st g : Store} {h c : Nat} {i a b e i' a' b' e' : Int} {d : D} (hh : h < st.length) (hc : c < st.length) (hb : mb (startE N ds) (st.set h (hd5 c i a b e)) = .rt d (st.set h (hd5 c i' a' b' e') ++ g)) (f : flat d = true) :
    runD N mb ds (st.set h (hd5 c i a b e)) = .ok d (st.set h (hd5 c i' a' b' e')) := by
  unfold runD
  rw [hb]
  simp only [gc_hand hh hc f]
theorem mul_small {x y : Int} (h0 : 0 ≤ y) (h1 : y < 2 ^ 63) : MulOk x y := .inl (.inr ⟨by omega, by omega⟩)
theorem mul_smallL {x y : Int} (h0 : 0 ≤ x) (h1 : x < 2 ^ 63) : MulOk x y := .inl (.inl ⟨by omega, by omega⟩)
theorem fmod_bd {x m : Int} (h : 0 < m) : 0 ≤ x.fmod m ∧ x.fmod m < m := ⟨Int.fmod_nonneg_of_pos x h, Int.fmod_lt_of_pos x h⟩
theorem div_ok {x y : Int} (h0 : 0 < y) (h1 : y < 2 ^ 63) : DivOk x y := ⟨by omega, by
  have : y.natAbs < 2 ^ 63 := by omega
  have h2 : y.natAbs.log2 < 63 := (Nat.log2_lt (by omega)).mpr this
  omega⟩
end
end Py

set_option Elab.async false
set_option linter.all false
set_option maxRecDepth 100000
set_option maxHeartbeats 1000000
namespace Py
open L2 PySem PySem.Spec PyProof.Rows
variable [Tb]
/-! ### dicts by their keys -/
omit [Tb] in
def hasD (kvs : List (D × D)) (k : DKey) : Bool := kvs.any fun p => decide (dk p.1 = some k)
theorem lookD_has (kvs : List (D × D)) (k : DKey) : (lookD kvs k).isSome = hasD kvs k := by
  unfold lookD hasD
  induction kvs with
  | nil => rfl
  | cons p r ih =>
    rw [List.find?_cons, List.any_cons]
    by_cases h : dk p.1 = some k
    · simp [h]
    · simp [h]
      simpa using ih
theorem hasD_put (kvs : List (D × D)) (d : D) (k k' : DKey) (v : D) (hd : dk d = some k) : hasD (putD kvs d k v) k' = (hasD kvs k' || decide (k = k')) := by
  unfold putD
  split
  · rename_i hk
    have e : ∀ l : List (D × D), hasD (l.map fun p => if dk p.1 = some k then (p.1, v) else p) k' = hasD l k' := fun l => by
      unfold hasD
      rw [List.any_map]
      congr 1
      funext p
      simp only [Function.comp]
      split <;> rfl
    rw [e]
    by_cases hkk : k = k'
    · subst hkk
      have : hasD kvs k = true := hk
      simp [this]
    · simp [hkk]
  · unfold hasD
    rw [List.any_append]
    simp [hd]
theorem allK_put (kvs : List (D × D)) (d : D) (k : Key) (v : D) (hd : keyD d = some k) (h : allK kvs = true) : allK (putD kvs d (.inl k) v) = true := by
  unfold putD
  split
  · unfold allK at h ⊢
    rw [List.all_map]
    rw [List.all_eq_true] at h ⊢
    intro p hp
    simp only [Function.comp]
    split
    · exact h p hp
    · exact h p hp
  · unfold allK at h ⊢
    rw [List.all_append, h]
    simp [hd]
section
variable {e : Py.Loc} {st : Store} {still : Store → Prop}
theorem dcL_of {b : D → Store → R (Option (D × D))} (g : D → Option (D × D)) (hs : still st) : ∀ (ds : List D) (acc : List (D × D)), (∀ d ∈ ds, b d st = .ok (g d) st) → dcL still b ds acc st = .ok (ds.foldl (fun acc d => putO acc (g d)) acc) st
  | [], acc, _ => by unfold dcL; rw [if_pos hs]; rfl
  | d :: ds, acc, h => by
    unfold dcL
    rw [if_pos hs, h d List.mem_cons_self]
    simp only [R.bind_ok]
    rw [dcL_of g hs ds _ fun d' hd => h d' (List.mem_cons_of_mem _ hd)]
    rfl
theorem mDc_of {mi : Py.Loc → Store → R Iter} {tg : Tg} {mt : Py.Loc → Store → R Bool} {mk mv : Py.Loc → Store → R D} {vs : List Nat} {it : Iter} {st' : Store} (g : D → Option (D × D)) (hi : mi e st = .ok it st') (hs : it.still st') (hl : it.items.length ≤ sizeLine)
    (h : ∀ d ∈ it.items, dcB tg mt mk mv d (wipeE e vs) st' = .ok (g d) st') : mDc mi tg mt mk mv vs e st = .ok (.ref st'.length) (st' ++ [.dict (it.items.foldl (fun acc d => putO acc (g d)) [])]) := by
  unfold mDc
  rw [hi]
  simp only [R.bind_ok]
  rw [if_pos hl, dcL_of g hs _ _ h]
  rfl
theorem dcB_some {tg : Tg} {mt : Py.Loc → Store → R Bool} {mk mv : Py.Loc → Store → R D} {d k y : D} {q : Key} {e1 : Py.Loc} (hb : bindE tg d e = some e1) (ht : mt e1 st = .ok true st) (hk : mk e1 st = .ok k st) (hq : keyD k = some q) (he : mv e1 st = .ok y st) (f : lowD st.length y = true) : dcB tg mt mk mv d e st = .ok (some (k, y)) st := by
  unfold dcB
  rw [hb]
  simp only [ht, hk, hq, he, gc_same f]
end
/-- a dict made of keys -/
theorem fold_keys (v : D) : ∀ (ds : List D) (acc : List (D × D)), (∀ d ∈ ds, ∃ q, keyD d = some q) → allK acc = true → allK (ds.foldl (fun acc d => putO acc (some (d, v))) acc) = true ∧
    ∀ k : Key, hasD (ds.foldl (fun acc d => putO acc (some (d, v))) acc) (.inl k) = (hasD acc (.inl k) || ds.any fun d => decide (keyD d = some k))
  | [], acc, _, h => ⟨h, fun k => by simp⟩
  | d :: ds, acc, hk, h => by
    obtain ⟨q, hq⟩ := hk d List.mem_cons_self
    have e : putO acc (some (d, v)) = putD acc d (.inl q) v := by simp only [putO, hq]
    rw [List.foldl_cons, e]
    obtain ⟨h1, h2⟩ := fold_keys v ds (putD acc d (.inl q) v) (fun d' hd => hk d' (List.mem_cons_of_mem _ hd)) (allK_put _ _ _ _ hq h)
    refine ⟨h1, fun k => ?_⟩
    rw [h2, hasD_put _ _ _ _ _ (dk_inl hq), List.any_cons, hq]
    have : decide (Sum.inl q = (Sum.inl k : DKey)) = decide (some q = some k) := by simp
    rw [this, Bool.or_assoc]
theorem inA_dict {st : Store} {n : Nat} {kvs : List (D × D)} {d : D} {k : Key} (hn : st[n]? = some (.dict kvs)) (hk : keyD d = some k) (h : allK kvs = true) : inA d (.ref n) st = some (.bl (hasD kvs (.inl k)), st) := by
  have e : inDictD d (.ref n) st = some (.bl (hasD kvs (.inl k)), st) := by
    simp only [inDictD, hn, dk_inl hk, fitsK, h, if_true, lookD_has]
  unfold inA
  rw [e]
/-! ### numbers that are not there -/
omit [Tb] in
def natsD (ns : List Nat) : List D := ns.map fun n => .int (n : Nat)
omit [Tb] in
def isMex (v : Nat) (l : List Nat) : Prop := v ∉ l ∧ ∀ m, m < v → m ∈ l
theorem natsD_any (ns : List Nat) (k : Nat) : (natsD ns).any (fun d => decide (keyD d = some (.inl (k : Int)))) = decide (k ∈ ns) := by
  unfold natsD
  rw [List.any_map]
  induction ns with
  | nil => simp
  | cons n ns ih =>
    rw [List.any_cons, ih]
    by_cases h : n = k
    · subst h; simp [keyD]
    · have h2 : ¬ k = n := fun z => h z.symm
      have h3 : ¬ (n : Int) = (k : Int) := by omega
      simp [keyD, h2, h3]
end Py

set_option Elab.async false
set_option linter.all false
set_option maxRecDepth 100000
set_option maxHeartbeats 1000000
namespace Py
open L2 PySem PySem.Spec PyProof.Rows
variable [Tb]
theorem le_size {n : Nat} (h : n ≤ 1000000) : n ≤ sizeLine := by rw [sizeLine_eq]; omega
theorem rgD_0 (n : Nat) : rgD 0 (n : Int) = natsD (List.range n) := by
  unfold rgD natsD
  have : ((n : Int) - 0).toNat = n := by omega
  rw [this]
  congr 1
  funext i
  simp
theorem rgD_nat (a b : Nat) : rgD (a : Int) (b : Int) = natsD ((List.range (b - a)).map (a + ·)) := by
  unfold rgD natsD
  have : ((b : Int) - (a : Int)).toNat = b - a := by omega
  rw [this, List.map_map]
  congr 1
theorem rg1 (n : Nat) (h : n ≤ 1000000) : rgIt [.int (n : Int)] = some ⟨natsD (List.range n), fun _ => True⟩ := by
  simp only [rgIt]
  rw [if_pos (by simp [okB]; omega), rgD_0]
theorem rg2 (a b : Nat) (h : a ≤ 1000000) (h2 : b ≤ 1000000) : rgIt [.int (a : Int), .int (b : Int)] = some ⟨natsD ((List.range (b - a)).map (a + ·)), fun _ => True⟩ := by
  simp only [rgIt]
  rw [if_pos (by simp [okB]; omega), rgD_nat]
theorem rgO_nat (a b : Nat) (h : a ≤ 1000000) (h2 : b ≤ 1000000) : RgO (a : Int) (b : Int) := ⟨by omega, by omega, by omega, by omega, by omega⟩
theorem rgs_of {ml : Py.Loc → Store → R (List D)} {e : Py.Loc} {st st' : Store} {ds : List D} {it : Iter} (h1 : ml e st = .ok ds st') (h2 : rgIt ds = some it) : mRgs ml e st = .ok it st' := by
  unfold mRgs
  rw [h1]
  simp only [R.bind_ok, h2]
theorem natsD_len (l : List Nat) : (natsD l).length = l.length := by simp [natsD]
theorem flats_nats (l : List Nat) : flats (natsD l) = true := by
  induction l with
  | nil => rfl
  | cons a l ih => simp only [natsD, List.map_cons, flats, flat, Bool.true_and]; exact ih
open Classical in
theorem x_tupRg {e : Py.Loc} {st : Store} {m : Py.Loc → Store → R (Int × Int)} : mTupRg m e st = (m e st).bind fun r st => if RgO r.1 r.2 then .ok (.tup (rgD r.1 r.2)) st else .stuck := (rfl)
open Classical in
theorem x_lstRg {e : Py.Loc} {st : Store} {m : Py.Loc → Store → R (Int × Int)} : mLstRg m e st = (m e st).bind fun r st => if RgO r.1 r.2 then .ok (.ref st.length) (st ++ [.lst (rgD r.1 r.2)]) else .stuck := (rfl)
@[simp] theorem x_mR1 {e : Py.Loc} {st : Store} {ma : Py.Loc → Store → R D} : mR1 ma e st = (ma e st).bind fun d st => match d with | .int n => .ok ((0 : Int), n) st | _ => .stuck := (rfl)
@[simp] theorem x_mR2 {e : Py.Loc} {st : Store} {ma mb : Py.Loc → Store → R D} : mR2 ma mb e st = (ma e st).bind fun d st => (mb e st).bind fun d2 st => match d, d2 with | .int i, .int j => .ok (i, j) st | _, _ => .stuck := (rfl)
/-- a comprehension over numbers -/
theorem mLc_nats {e : Py.Loc} {st st' : Store} {mi : Py.Loc → Store → R Iter} {tg : Tg} {me : Py.Loc → Store → R D} {vs : List Nat} {ns : List Nat} {still : Store → Prop} (f : Nat → D) (hi : mi e st = .ok ⟨natsD ns, still⟩ st') (hs : still st') (hl : ns.length ≤ 1000000)
    (h : ∀ n ∈ ns, ∃ e1 g, bindE tg (.int (n : Nat)) (wipeE e vs) = some e1 ∧ me e1 st' = .ok (f n) (st' ++ g) ∧ lowD st'.length (f n) = true) : mLc mi tg mYes me vs e st = .ok (.ref st'.length) (st' ++ [.lst (ns.map f)]) := by
  have := mLc_map (st := st) (e := e) (tg := tg) (vs := vs) (me := me) (fun d => match d with | .int i => f i.toNat | _ => .non) hi hs (by rw [natsD_len]; exact le_size hl) fun d hd => by
    obtain ⟨n, hn, rfl⟩ := List.mem_map.mp hd
    obtain ⟨e1, g, h1, h2, h3⟩ := h n hn
    exact ⟨e1, g, h1, by simpa using h2, by simpa using h3⟩
  rw [this]
  simp only [natsD, List.map_map]
  rfl
theorem add_lists {st : Store} {n m : Nat} {a b : List D} (h1 : st[n]? = some (.lst a)) (h2 : st[m]? = some (.lst b)) (h : a.length + b.length ≤ 1000000) : addD (.ref n) (.ref m) st = some (.ref st.length, st ++ [.lst (a ++ b)]) := by
  simp only [addD, h1, h2]
  exact guard_pos (le_size h)
/-- two clauses over numbers -/
theorem lc2L_of {still : Store → Prop} {st : Store} {b : Nat → D → Store → R (List D)} (g : D → List D) (hs : still st) : ∀ (ds : List D) (n : Nat), (∀ d ∈ ds, ∀ n, n ≤ 1000 * 1000 → b n d st = .ok (g d) st) → n + (ds.flatMap g).length ≤ 1000 * 1000 → lc2L still b ds n st = .ok (ds.flatMap g) st
  | [], n, _, _ => by unfold lc2L; rw [if_pos hs]; rfl
  | d :: ds, n, h, hn => by
    simp only [List.flatMap_cons, List.length_append] at hn
    unfold lc2L
    rw [if_pos hs, h d List.mem_cons_self n (by omega)]
    simp only [R.bind_ok]
    rw [lc2L_of g hs ds _ (fun d' hd => h d' (List.mem_cons_of_mem _ hd)) (by omega)]
    rfl
theorem mLc2_nats {e : Py.Loc} {st st' : Store} {mi mi1 : Py.Loc → Store → R Iter} {tg tg1 : Tg} {me : Py.Loc → Store → R D} {vs vs1 : List Nat} {ns : List Nat} {still : Store → Prop} (ms : Nat → List Nat) (f : Nat → Nat → D) (hi : mi e st = .ok ⟨natsD ns, still⟩ st') (hs : still st') (hl : ∀ n ∈ ns, (ms n).length ≤ 1000)
    (hlen : (ns.flatMap ms).length ≤ 1000 * 1000)
    (h : ∀ n ∈ ns, ∃ e1, bindE tg (.int (n : Nat)) (wipeE e vs) = some e1 ∧ mi1 e1 st' = .ok ⟨natsD (ms n), fun _ => True⟩ st' ∧ ∀ m ∈ ms n, ∃ e2, bindE tg1 (.int (m : Nat)) (wipeE e1 vs1) = some e2 ∧ me e2 st' = .ok (f n m) st' ∧ lowD st'.length (f n m) = true) :
    mLc2 mi tg mYes mi1 tg1 mYes me vs vs1 e st = .ok (.ref st'.length) (st' ++ [.lst (ns.flatMap fun n => (ms n).map (f n))]) := by
  unfold mLc2
  rw [hi]
  simp only [R.bind_ok]
  have e1 : (natsD ns).flatMap (fun d => match d with | .int i => (ms i.toNat).map (f i.toNat) | _ => []) = ns.flatMap fun n => (ms n).map (f n) := by
    unfold natsD
    rw [List.flatMap_map]
    rfl
  rw [lc2L_of (fun d => match d with | .int i => (ms i.toNat).map (f i.toNat) | _ => []) hs (natsD ns) 0 ?hA ?hB]
  case hA =>
    intro d hd k hk
    obtain ⟨n, hn, rfl⟩ := List.mem_map.mp hd
    obtain ⟨e1', h1, h2, h3⟩ := h n hn
    unfold lc2B
    rw [h1]
    simp only [x_yes, h2]
    have hz := hl n hn
    rw [natsD_len, if_pos (by rw [sizeLine_eq]; omega)]
    have hmap := lcL_of (still := fun _ => True) (st := st') (b := fun d st => lcB tg1 mYes me d (wipeE e1' vs1) st) (fun d => match d with | .int i => some (f n i.toNat) | _ => none) trivial (natsD (ms n)) fun d hd => by
      obtain ⟨m, hm, rfl⟩ := List.mem_map.mp hd
      obtain ⟨e2, q1, q2, q3⟩ := h3 m hm
      exact lcB_some (g := []) q1 rfl (by simpa using q2) (by simpa using q3)
    rw [hmap]
    simp only [natsD, List.filterMap_map]
    have : (fun d => match d with | D.int i => some (f n i.toNat) | _ => none) ∘ (fun n : Nat => D.int (n : Int)) = fun m => some (f n m) := by funext m; simp
    rw [this, filterMap_some]
    simp
  case hB =>
    rw [e1]
    have : (ns.flatMap fun n => (ms n).map (f n)).length = (ns.flatMap ms).length := by simp [List.length_flatMap]
    rw [this]; omega
  simp only [R.bind_ok]; rw [e1]
end Py

set_option Elab.async false
set_option linter.all false
set_option maxRecDepth 100000
set_option maxHeartbeats 1000000
namespace Py
open L2 PySem PySem.Spec PyProof.Rows
variable [Tb]
/-! ### the rules as steps -/
section
variable {e e' e'' : Py.Loc} {st st1 st2 st3 : Store} {ma mb : Py.Loc → Store → R D} {ml : Py.Loc → Store → R (List D)} {ta : Py.Loc → Store → R Bool} {a b c : D} {ds : List D} {m1 m2 : Py.Loc → Store → Fl} {f : D → D → Store → Option (D × Store)} {r : Fl}
theorem op2_of (h1 : ma e st = .ok a st1) (h2 : mb e st1 = .ok b st2) (h3 : f a b st2 = some (c, st3)) : mOp2 f ma mb e st = .ok c st3 := by
  unfold mOp2; rw [h1]; simp only [R.bind_ok, h2, h3, ofO_some]
theorem opN_of {f : List D → Store → Option (D × Store)} (h1 : ml e st = .ok ds st1) (h3 : f ds st1 = some (c, st3)) : mOpN f ml e st = .ok c st3 := by
  unfold mOpN; rw [h1]; simp only [R.bind_ok, h3, ofO_some]
theorem op1_of {f : D → Store → Option (D × Store)} (h1 : ma e st = .ok a st1) (h3 : f a st1 = some (c, st3)) : mOp1 f ma e st = .ok c st3 := by
  unfold mOp1; rw [h1]; simp only [R.bind_ok, h3, ofO_some]
theorem call_of {m : Mean} (h1 : ml e st = .ok ds st1) (h2 : m ds st1 = .ok c st2) : mCall m ml e st = .ok c st2 := by
  unfold mCall; rw [h1]; simp only [R.bind_ok, h2]
theorem nil_of : mNil e st = .ok [] st := rfl
theorem cons_of (h1 : ma e st = .ok a st1) (h2 : ml e st1 = .ok ds st2) : mCons ma ml e st = .ok (a :: ds) st2 := by
  unfold mCons; rw [h1]; simp only [R.bind_ok, h2]
theorem one_of (h1 : ma e st = .ok a st1) : mCons ma mNil e st = .ok [a] st1 := cons_of h1 nil_of
theorem two_of (h1 : ma e st = .ok a st1) (h2 : mb e st1 = .ok b st2) : mCons ma (mCons mb mNil) e st = .ok [a, b] st2 := cons_of h1 (one_of h2)
theorem tup_of (h : ml e st = .ok ds st1) (hl : ds.length ≤ 1000000) : mTup ml e st = .ok (.tup ds) st1 := by
  rw [x_tup, h]; simp only [R.bind_ok]; rw [if_pos (le_size hl)]
theorem lst_of (h : ml e st = .ok ds st1) (hl : ds.length ≤ 1000000) : mLst ml e st = .ok (.ref st1.length) (st1 ++ [.lst ds]) := by
  rw [x_lst, h]; simp only [R.bind_ok]; rw [if_pos (le_size hl)]
theorem asB_ok {k : Bool} (h : ma e st = .ok (.bl k) st1) : asB ma e st = .ok k st1 := by unfold asB; rw [h]; rfl
theorem var_of {i : Nat} {d : D} (h : e[i]? = some (some d)) : mVar i e st = .ok d st := x_var h
theorem and_t {tb : Py.Loc → Store → R Bool} {k : Bool} (h : ta e st = .ok true st1) (h2 : tb e st1 = .ok k st2) : mAnd ta tb e st = .ok k st2 := by unfold mAnd; rw [h]; simp only [R.bind_ok, if_true, h2]
theorem and_f {tb : Py.Loc → Store → R Bool} (h : ta e st = .ok false st1) : mAnd ta tb e st = .ok false st1 := by unfold mAnd; rw [h]; rfl
theorem or_f {tb : Py.Loc → Store → R Bool} {k : Bool} (h : ta e st = .ok false st1) (h2 : tb e st1 = .ok k st2) : mOr ta tb e st = .ok k st2 := by unfold mOr; rw [h]; simp only [R.bind_ok, Bool.false_eq_true, if_false, h2]
theorem or_t {tb : Py.Loc → Store → R Bool} (h : ta e st = .ok true st1) : mOr ta tb e st = .ok true st1 := by unfold mOr; rw [h]; rfl
theorem not_of {k : Bool} (h : ta e st = .ok k st1) : mNot ta e st = .ok (!k) st1 := by unfold mNot; rw [h]; rfl
theorem ifx_t {k : Bool} (h : ta e st = .ok true st1) (h2 : ma e st1 = .ok a st2) : mIf ta ma mb e st = .ok a st2 := by unfold mIf; rw [h]; simp only [R.bind_ok, if_true, h2]
theorem ifx_f {k : Bool} (h : ta e st = .ok false st1) (h2 : mb e st1 = .ok a st2) : mIf ta ma mb e st = .ok a st2 := by unfold mIf; rw [h]; simp only [R.bind_ok, Bool.false_eq_true, if_false, h2]
theorem seq_nx (h : m1 e st = .nx e' st1) (h2 : m2 e' st1 = r) : sSeq m1 m2 e st = r := by unfold sSeq; rw [h]; simp only [Fl.seq_nx, h2]
theorem seq_rt {d : D} (h : m1 e st = .rt d st1) : sSeq m1 m2 e st = .rt d st1 := by unfold sSeq; rw [h]; rfl
theorem end_nx : (fun (e : Py.Loc) (st : Store) => Fl.nx e st) e st = .nx e st := rfl
theorem if_t (h : ta e st = .ok true st1) (h2 : m1 e st1 = r) : sIf ta m1 m2 e st = r := by unfold sIf; rw [h]; simp only [R.to_ok, if_true, h2]
theorem if_f (h : ta e st = .ok false st1) (h2 : m2 e st1 = r) : sIf ta m1 m2 e st = r := by unfold sIf; rw [h]; simp only [R.to_ok, Bool.false_eq_true, if_false, h2]
theorem ret_of (h : ma e st = .ok a st1) : sRet ma e st = .rt a st1 := by unfold sRet; rw [h]; rfl
theorem exp_of (h : ma e st = .ok a st1) : sExp ma e st = .nx e st1 := by unfold sExp; rw [h]; rfl
theorem set_of {i : Nat} (h : ma e st = .ok a st1) : sAsg ma (gN i) e st = .nx (e.set i (some a)) st1 := by unfold sAsg; rw [h]; rfl
theorem asg_of {g : D → Py.Loc → Store → Fl} (h : ma e st = .ok a st1) (h2 : g a e st1 = .nx e' st2) : sAsg ma g e st = .nx e' st2 := by unfold sAsg; rw [h]; simp only [R.to_ok, h2, Fl.seq_nx]
theorem for_of {mi : Py.Loc → Store → R Iter} {g : D → Py.Loc → Store → Fl} {it : Iter} (h : mi e st = .ok it st1) (h2 : forL it.still (fun d e st => (g d e st).seq m1) it.items e st1 = r) : sFor mi g m1 e st = r := by unfold sFor; rw [h]; simp only [R.to_ok, h2]
theorem it_of {it : Iter} (h : ma e st = .ok a st1) (h2 : itD a st1 = some it) : mIt ma e st = .ok it st1 := by unfold mIt; rw [h]; simp only [R.bind_ok, h2]
theorem en_of {it : Iter} (h : ma e st = .ok a st1) (h2 : enD a st1 = some it) : mEn ma e st = .ok it st1 := by unfold mEn; rw [h]; simp only [R.bind_ok, h2]
theorem mt_of {f : D → List D → Store → Option (D × Store)} (h : ma e st = .ok a st1) (hl : isLst a st1 = true) (h2 : ml e st1 = .ok ds st2) (h3 : f a ds st2 = some (c, st3)) : mMt f ma ml e st = .ok c st3 := by
  unfold mMt; rw [h]; simp only [R.bind_ok]; rw [if_pos hl, h2]; simp only [R.bind_ok, h3, ofO_some]
theorem tupRg_of {m : Py.Loc → Store → R (Int × Int)} {x y : Nat} (h : m e st = .ok ((x : Int), (y : Int)) st1) (hx : x ≤ 1000000) (hy : y ≤ 1000000) : mTupRg m e st = .ok (.tup (natsD ((List.range (y - x)).map (x + ·)))) st1 := by
  rw [x_tupRg, h]; simp only [R.bind_ok]; rw [if_pos (rgO_nat x y hx hy), rgD_nat]
theorem run_newS {N : List Str} {mb : Py.Loc → Store → Fl} {ds : List D} {st st' g : Store} {n : Nat} {o : O} (h : mb (startE N ds) st = .rt (.ref n) st') (hs : st' = st ++ g) (hn : st.length ≤ n) (ho : st'[n]? = some o) (l : lowO st.length o = true) : runD N mb ds st = .ok (.ref st.length) (st ++ [o]) := by
  subst hs
  exact run_new h hn ho l
theorem run_rtS {N : List Str} {mb : Py.Loc → Store → Fl} {ds : List D} {st st' g : Store} {d : D} (h : mb (startE N ds) st = .rt d st') (hs : st' = st ++ g) (f : flat d = true) : runD N mb ds st = .ok d st := by
  subst hs
  exact run_rt h f
end
end Py

set_option Elab.async false
set_option linter.all false
set_option maxRecDepth 100000
set_option maxHeartbeats 1000000
namespace Py
open L2 PySem PySem.Spec PyProof.Rows
variable [Tb]
section
variable {e e' e'' : Py.Loc} {st st1 st2 st3 : Store} {ma mb mc : Py.Loc → Store → R D} {ml : Py.Loc → Store → R (List D)} {ta : Py.Loc → Store → R Bool} {a b c : D} {ds : List D} {m1 m2 : Py.Loc → Store → Fl} {f : D → D → Store → Option (D × Store)} {r : R D}
theorem andV_t (h : ma e st = .ok (.bl true) st1) (h2 : mb e st1 = r) : mAndV ma mb e st = r := by unfold mAndV; rw [h]; simp only [R.bind_ok, h2]
theorem andV_f (h : ma e st = .ok (.bl false) st1) : mAndV ma mb e st = .ok (.bl false) st1 := by unfold mAndV; rw [h]; rfl
theorem orV_f (h : ma e st = .ok (.bl false) st1) (h2 : mb e st1 = r) : mOrV ma mb e st = r := by unfold mOrV; rw [h]; simp only [R.bind_ok, h2]
theorem orV_t (h : ma e st = .ok (.bl true) st1) : mOrV ma mb e st = .ok (.bl true) st1 := by unfold mOrV; rw [h]; rfl
theorem notV_of {k : Bool} (h : ma e st = .ok (.bl k) st1) : mNotV ma e st = .ok (.bl (!k)) st1 := by unfold mNotV; rw [h]; rfl
theorem isi_of {cs : List String} {t : String} {k : Bool} (h : ma e st = .ok a st1) (ht : tyName a st1 = some t) (hk : (cs.any fun c => isT t c) = k) : mIsi ma cs e st = .ok (.bl k) st1 := by unfold mIsi; rw [h]; simp only [R.bind_ok, ht, hk]
theorem chain_t {f g : D → D → Store → Option (D × Store)} {k : D} (h1 : ma e st = .ok a st1) (h2 : mb e st1 = .ok b st2) (h3 : f a b st2 = some (.bl true, st2)) (h4 : mc e st2 = .ok c st3) (h5 : g b c st3 = some (k, st3)) : mChain f g ma mb mc e st = .ok k st3 := by
  unfold mChain; rw [h1]; simp only [R.bind_ok, h2, h3, ofO_some, h4, h5]
theorem sl_of {m1 m2 : Py.Loc → Store → R (Option Int)} {lo hi : Option Int} (h : ma e st = .ok a st1) (h1 : m1 e st1 = .ok lo st2) (h2 : m2 e st2 = .ok hi st3) {st4 : Store} (h3 : cutD a lo hi st3 = some (c, st4)) : mSl ma m1 m2 e st = .ok c st4 := by
  unfold mSl; rw [h]; simp only [R.bind_ok, h1, h2, h3, ofO_some]
theorem p_of {i : Int} (h : ma e st = .ok (.int i) st1) : mP ma e st = .ok (some i) st1 := by unfold mP; rw [h]; rfl
theorem mtS_of {f : D → List D → Store → Option (D × Store)} {z : Str} (h : ma e st = .ok (.str z) st1) (h2 : mb e st1 = .ok b st2) (h3 : f (.str z) [b] st2 = some (c, st3)) : mMtS f ma mb e st = .ok c st3 := by
  unfold mMtS; rw [h]; simp only [R.bind_ok, h2, h3, ofO_some]
theorem sub_of {g : D → D → D → Store → Option Store} {d : D} (h : ma e st = .ok a st1) (h2 : mb e st1 = .ok b st2) (h3 : g a b d st2 = some st3) : gSb g ma mb d e st = .nx e st3 := by
  unfold gSb; rw [h]; simp only [R.to_ok, h2, h3]
/-! ### enumerate over flags -/
omit [Tb] in
def enF (n : Nat) : List D → List D
  | [] => []
  | d :: ds => .tup [.int (n : Nat), d] :: enF (n + 1) ds
theorem enL_F (ds : List D) : enL ds = enF 0 ds := by
  have : ∀ (ds : List D) (n : Nat), (ds.mapIdx fun i d => D.tup [.int ((n + i : Nat) : Int), d]) = enF n ds := fun ds => by
    induction ds with
    | nil => intro n; rfl
    | cons d ds ih =>
      intro n
      rw [List.mapIdx_cons]
      simp only [enF, Nat.add_zero]
      congr 1
      rw [← ih (n + 1)]
      congr 1
      funext i d
      congr 3
      omega
  have h := this ds 0
  simp only [Nat.zero_add] at h
  exact h
end
end Py

set_option Elab.async false
set_option linter.all false
set_option maxRecDepth 100000
set_option maxHeartbeats 1000000
namespace Py
open L2 PySem PySem.Spec PyProof.Rows
variable [Tb]
section
variable {e e' : Py.Loc} {st st1 st2 st3 : Store} {c : Py.Loc → Store → R Bool} {b : Py.Loc → Store → Fl} {ma mb : Py.Loc → Store → R D} {x y : D}
theorem wh_t (h : c e st = .ok true st1) (h2 : b e st1 = .nx e' st2) : sWh c b e st = sWh c b e' st2 := by rw [sWh_unf, h]; simp only [h2]
theorem wh_f (h : c e st = .ok false st1) : sWh c b e st = .nx e st1 := by rw [sWh_unf, h]
theorem par2_of {i j : Nat} (h1 : ma e st = .ok x st1) (h2 : mb e st1 = .ok y st2) : sPar2 i j (mCons ma (mCons mb mNil)) e st = .nx ((e.set i (some x)).set j (some y)) st2 := by
  unfold sPar2; rw [two_of h1 h2]; rfl
theorem fmod_nat (m n : Nat) (h : 0 < n) : Int.fmod (m : Int) (n : Int) = ((m % n : Nat) : Int) := by rw [Int.fmod_eq_emod_of_nonneg _ (by omega)]; omega
theorem fdiv_nat (m n : Nat) (h : 0 < n) : Int.fdiv (m : Int) (n : Int) = ((m / n : Nat) : Int) := by rw [Int.fdiv_eq_ediv_of_nonneg _ (by omega)]; rfl
end
end Py

set_option Elab.async false
set_option linter.all false
set_option maxRecDepth 100000
set_option maxHeartbeats 1000000
namespace Py
open L2 PySem PySem.Spec PyProof.Rows
variable [Tb]
/-! ### the hand in the store -/
omit [Tb] in
structure Hnd (st : Store) (h c : Nat) (cells : List Int) : Prop where
  now : ∃ i a b e, st[h]? = some (hd5 c i a b e) ∧ Good cells i a b e
  cl : st[c]? = some (.lst (intsD cells))
  ne : c ≠ h
omit [Tb] in
/-- only the hand has changed -/
def Stp (st st' : Store) (h c : Nat) : Prop := ∃ i a b e, st' = st.set h (hd5 c i a b e)
section
variable {st st' st'' g : Store} {h c : Nat} {cells : List Int}
theorem Hnd.hl (H : Hnd st h c cells) : h < st.length := by obtain ⟨i, a, b, e, q, _⟩ := H.now; exact (List.getElem?_eq_some_iff.mp q).1
theorem Hnd.cll (H : Hnd st h c cells) : c < st.length := (List.getElem?_eq_some_iff.mp H.cl).1
theorem Hnd.app (H : Hnd st h c cells) (g : Store) : Hnd (st ++ g) h c cells := by
  obtain ⟨i, a, b, e, q, G⟩ := H.now
  exact ⟨⟨i, a, b, e, by rw [List.getElem?_append_left H.hl, q], G⟩, by rw [List.getElem?_append_left H.cll, H.cl], H.ne⟩
theorem Stp.refl (H : Hnd st h c cells) : Stp st st h c := by
  obtain ⟨i, a, b, e, q, G⟩ := H.now
  refine ⟨i, a, b, e, ?_⟩
  obtain ⟨hh, q'⟩ := List.getElem?_eq_some_iff.mp q
  rw [← q', List.set_getElem_self]
theorem Stp.trans (x : Stp st st' h c) (y : Stp st' st'' h c) : Stp st st'' h c := by
  obtain ⟨i, a, b, e, rfl⟩ := x
  obtain ⟨i', a', b', e', rfl⟩ := y
  exact ⟨i', a', b', e', by rw [List.set_set]⟩
theorem Stp.len (x : Stp st st' h c) : st'.length = st.length := by obtain ⟨i, a, b, e, rfl⟩ := x; simp
theorem Stp.at_ (x : Stp st st' h c) {j : Nat} (hj : j ≠ h) : st'[j]? = st[j]? := by obtain ⟨i, a, b, e, rfl⟩ := x; exact at_ne hj
theorem Stp.app (x : Stp (st ++ g) st' h c) (hh : h < st.length) : ∃ s1, st' = s1 ++ g ∧ Stp st s1 h c := by
  obtain ⟨i, a, b, e, rfl⟩ := x
  exact ⟨st.set h (hd5 c i a b e), List.set_append_left _ _ hh, i, a, b, e, rfl⟩
theorem Stp.gc (x : Stp st st' h c) (H : Hnd st h c cells) {d : D} (f : lowD st.length d = true) : Py.gc st d (st' ++ g) = (d, st') := by
  obtain ⟨i, a, b, e, rfl⟩ := x
  have hl : (st.set h (hd5 c i a b e)).length = st.length := by simp
  rw [gc_low (fun j hj => ?_) f]
  · rw [← hl, List.take_left]
  · rw [List.getElem?_append_left (by rw [hl]; exact hj)]
    by_cases hjh : j = h
    · subst hjh
      refine .inr ⟨_, at_set H.hl, ?_⟩
      simp [lowO, lowDs, lowD, H.cll]
    · left; rw [at_ne hjh]
theorem run_low {N : List Str} {mb : Py.Loc → Store → Fl} {ds : List D} {d : D} {s' : Store} (H : Hnd st h c cells) (x : Stp st st' h c) (hb : mb (startE N ds) st = .rt d s') (hs : s' = st' ++ g) (f : lowD st.length d = true) : runD N mb ds st = .ok d st' := by
  subst hs
  unfold runD
  rw [hb]
  simp only [x.gc H f]
theorem run_stp {N : List Str} {mb : Py.Loc → Store → Fl} {ds : List D} {d : D} {s' : Store} (H : Hnd st h c cells) (x : Stp st st' h c) (hb : mb (startE N ds) st = .rt d s') (hs : s' = st' ++ g) (f : flat d = true) : runD N mb ds st = .ok d st' := run_low H x hb hs (lowD_flat f)
theorem Stp.hnd (x : Stp st st' h c) (H : Hnd st h c cells) (H' : Hnd (st' ++ g) h c cells) : Hnd st' h c cells := by
  obtain ⟨i, a, b, e, q, G⟩ := H'.now
  have hl2 : h < st'.length := by rw [x.len]; exact H.hl
  rw [List.getElem?_append_left hl2] at q
  exact ⟨⟨i, a, b, e, q, G⟩, by rw [x.at_ H.ne]; exact H.cl, H.ne⟩
/-- an item of a comprehension that draws -/
theorem lcB_stp {tg : Tg} {mt : Py.Loc → Store → R Bool} {me : Py.Loc → Store → R D} {d y : D} {e e1 : Py.Loc} (H : Hnd st h c cells) (x : Stp st st' h c) (hb : bindE tg d e = some e1) (ht : mt e1 st = .ok true st) (he : me e1 st = .ok y (st' ++ g)) (f : lowD st.length y = true) : lcB tg mt me d e st = .ok (some y) st' := by
  unfold lcB
  rw [hb]
  simp only [ht, he, x.gc H f]
end
end Py

set_option Elab.async false
set_option linter.all false
set_option maxRecDepth 100000
set_option maxHeartbeats 1000000
namespace Py
open L2 PySem PySem.Spec PyProof.Rows
variable [Tb]
theorem bsOf_map (bs : List Bool) : bsOf (bs.map .bl) = some bs := by
  induction bs with
  | nil => rfl
  | cons b bs ih => simp only [List.map_cons, bsOf, ih]
theorem allD_of {st : Store} {n : Nat} {bs : List Bool} (h : getL st n = some (bs.map .bl)) : allD [.ref n] st = some (.bl (bs.all id), st) := by
  simp only [allD, h, bsOf_map]
theorem anyD_of {st : Store} {n : Nat} {bs : List Bool} (h : getL st n = some (bs.map .bl)) : anyD [.ref n] st = some (.bl (bs.any id), st) := by
  simp only [anyD, h, bsOf_map]
theorem mLc_run {e : Py.Loc} {st st1 st2 : Store} {mi : Py.Loc → Store → R Iter} {tg : Tg} {mt : Py.Loc → Store → R Bool} {me : Py.Loc → Store → R D} {vs : List Nat} {it : Iter} {ds : List D} (hi : mi e st = .ok it st1) (hl : it.items.length ≤ sizeLine) (h : lcL it.still (fun d st => lcB tg mt me d (wipeE e vs) st) it.items st1 = .ok ds st2) : mLc mi tg mt me vs e st = .ok (.ref st2.length) (st2 ++ [.lst ds]) := by
  unfold mLc
  rw [hi]
  simp only [R.bind_ok]
  rw [if_pos hl, h]
  rfl
/-- all([..] for things) -/
theorem all_of {e : Py.Loc} {st : Store} {mi : Py.Loc → Store → R Iter} {tg : Tg} {me : Py.Loc → Store → R D} {vs : List Nat} {it : Iter} (f : D → Bool) (hi : mi e st = .ok it st) (hs : it.still st) (hl : it.items.length ≤ 1000000)
    (h : ∀ d ∈ it.items, ∃ e1 g, bindE tg d (wipeE e vs) = some e1 ∧ me e1 st = .ok (.bl (f d)) (st ++ g)) : mOpN allD (mCons (mLc mi tg mYes me vs) mNil) e st = .ok (.bl (it.items.all f)) (st ++ [.lst ((it.items.map f).map .bl)]) := by
  have hc : mLc mi tg mYes me vs e st = .ok (.ref st.length) (st ++ [.lst ((it.items.map f).map .bl)]) := by
    rw [List.map_map]
    exact mLc_map (fun d => .bl (f d)) hi hs (le_size hl) fun d hd => by
      obtain ⟨e1, g, h1, h2⟩ := h d hd
      exact ⟨e1, g, h1, h2, rfl⟩
  have hall := opN_of (one_of hc) (allD_of (st := st ++ [O.lst ((it.items.map f).map .bl)]) (n := st.length) (bs := it.items.map f) getL_new)
  have e1 : (it.items.map f).all id = it.items.all f := by rw [List.all_map]; rfl
  rw [e1] at hall
  exact hall
theorem or_of {e : Py.Loc} {st st1 st2 : Store} {ta tb : Py.Loc → Store → R Bool} {a b : Bool} (h : ta e st = .ok a st1) (h2 : a = false → tb e st1 = .ok b st2) (h3 : a = true → st2 = st1) : mOr ta tb e st = .ok (a || b) st2 := by
  unfold mOr
  rw [h]
  simp only [R.bind_ok]
  cases a with
  | true => rw [if_pos rfl, h3 rfl]; rfl
  | false => rw [if_neg (by decide), h2 rfl]; rfl
/-! ### a raised exception goes through -/
section
variable {e e' : Py.Loc} {st st1 st2 : Store} {ma mb : Py.Loc → Store → R D} {ml : Py.Loc → Store → R (List D)} {ta : Py.Loc → Store → R Bool} {a : D} {ds : List D} {m1 m2 : Py.Loc → Store → Fl} {c : Str} {pl : List (Str × D)}
theorem call_ex {m : Mean} (h1 : ml e st = .ok ds st1) (h2 : m ds st1 = .ex c pl st2) : mCall m ml e st = .ex c pl st2 := by unfold mCall; rw [h1]; simp only [R.bind_ok, h2]
theorem seq_ex (h : m1 e st = .ex c pl e' st1) : sSeq m1 m2 e st = .ex c pl e' st1 := by unfold sSeq; rw [h]; rfl
theorem exp_ex (h : ma e st = .ex c pl st1) : sExp ma e st = .ex c pl e st1 := by unfold sExp; rw [h]; rfl
theorem raise_of : sRaise c e st = .ex c [] e st := rfl
theorem run_ex {N : List Str} {mb : Py.Loc → Store → Fl} {ds : List D} {st g : Store} {e : Py.Loc} (h : mb (startE N ds) st = .ex c [] e (st ++ g)) : runD N mb ds st = .ex c [] st := by
  unfold runD
  rw [h]
  simp only [gcX, List.map_nil, lowDs]
  rw [if_pos trivial, gc_app (d := .non) rfl]
theorem run_ex0 {N : List Str} {mb : Py.Loc → Store → Fl} {ds : List D} {st : Store} {e : Py.Loc} (h : mb (startE N ds) st = .ex c [] e st) : runD N mb ds st = .ex c [] st := run_ex (g := []) (by rw [List.append_nil]; exact h)
theorem word_ok {tbl : List (Str × D)} (h : ma e st = .ok a st1) : mWord tbl ma e st = .ok (.str "told") st1 := by unfold mWord; rw [h]
theorem word_ex {tbl : List (Str × D)} {w : D} (h : ma e st = .ex c [] st1) (hw : tbl.lookup c = some w) : mWord tbl ma e st = .ok w st1 := by unfold mWord; rw [h]; simp only [hw]
end
end Py

set_option Elab.async false
set_option linter.all false
set_option maxRecDepth 100000
set_option maxHeartbeats 1000000
namespace Py
open L2 PySem PySem.Spec PyProof.Rows
/-! ### the suite that makes the word, read -/
def suiteOf : List Stmt → List Stmt
  | [_, .Try _ [.ExceptHandler _ _ s _] _ _ _, _] => s
  | _ => []
/-- the flags, then the words, then the word -/
noncomputable def wSuite (a : Addr) (b : List Bool) (mw mE : Py.Loc → Store → R D) : Py.Loc → Store → Fl :=
  sSeq (sAsg (mLst (mCons (mIsE 2 a (b.getD 0 false)) (mCons (mIsE 2 a (b.getD 1 false)) (mCons (mIsE 2 a (b.getD 2 false)) mNil)))) (gN 3)) (sSeq (sExp (mMt appD (mVar 3) (mCons (mIsE 2 a (b.getD 3 false)) mNil)))
  (sSeq (sAsg (mOp2 addD (mVar 3) (mLst (mCons (mIsE 2 a (b.getD 4 false)) (mCons (mIsE 2 a (b.getD 5 false)) (mCons (mIsE 2 a (b.getD 6 false)) mNil))))) (gN 3)) (sSeq (sAsg (mOp2 addD (mVar 3) (mLst (mCons (mIsE 2 a (b.getD 7 false)) (mCons (mIsE 2 a (b.getD 8 false)) mNil)))) (gN 3))
  (sSeq (sAsg mw (gN 4)) (sSeq (sAsg (mIf (mAnd (asB (mOp2 eqD (mMt cntD (mVar 3) (mCons (mC (.bl true)) mNil)) (mC (.int 1)))) (asB (mIsE 2 a (b.getD 9 false)))) (mOp2 ixD (mVar 4) (mMt ixLD (mVar 3) (mCons (mC (.bl true)) mNil))) (mC (.str "other"))) (gN 1))
  (sSeq (sAsg (mIf (asB (mOp2 eqD (mVar 1) (mC (.str "many")))) mE (mVar 1)) (gN 1)) (fun e st => .nx e st)))))))
variable [Tb]
theorem isE_ok {e : Py.Loc} {st : Store} {a : Addr} {b : Bool} (h : e[2]? = some (some (.adr a))) : mIsE 2 a b e st = .ok (.bl b) st := by
  unfold mIsE; rw [h]; simp
theorem add_lst2 {st : Store} {n : Nat} {a b : List D} (h1 : st[n]? = some (.lst a)) (h : a.length + b.length ≤ 1000) : addD (.ref n) (.ref st.length) (st ++ [O.lst b]) = some (.ref (st.length + 1), (st ++ [O.lst b]) ++ [O.lst (a ++ b)]) := by
  have hn : (st ++ [O.lst b])[n]? = some (.lst a) := by rw [List.getElem?_append_left (List.getElem?_eq_some_iff.mp h1).1, h1]
  have := add_lists hn (m := st.length) (b := b) (by simp) (by omega)
  rw [this]
  simp
theorem wSuite_ok {a : Addr} {b : List Bool} {mw mE : Py.Loc → Store → R D} {ws : List D} {w : Str} {j : Nat} (hmw : ∀ e st, mw e st = .ok (.ref st.length) (st ++ [.lst ws])) (hb : b.length = 10) (h9 : b.getD 9 false = true) (hc : (((b.take 9).map D.bl).countP fun y => eqF y (.bl true)) = 1) (hj : (((b.take 9).map D.bl).findIdx? fun y => eqF y (.bl true)) = some j)
    (hwj : ws[j]? = some (.str w)) (ho : okS w = true) (ho2 : okS "many" = true) (hm : decide (w = "many") = false) (st : Store) : ∃ e' g, wSuite a b mw mE [none, none, some (.adr a), none, none] st = .nx e' (st ++ g) ∧ e'[1]? = some (some (.str w)) := by
  match b, hb with
  | [b0, b1, b2, b3, b4, b5, b6, b7, b8, b9], _ =>
    have h9' : b9 = true := h9
    subst h9'
    simp only [List.take, List.map] at hc hj
    obtain ⟨fl, hfl⟩ : ∃ fl : List D, fl = [.bl b0, .bl b1, .bl b2, .bl b3, .bl b4, .bl b5, .bl b6, .bl b7, .bl b8] := ⟨_, rfl⟩
    have hall : fl.all flatD = true := by rw [hfl]; rfl
    have hlen : fl.length = 9 := by rw [hfl]; rfl
    rw [← hfl] at hc hj
    obtain ⟨s1, hs1⟩ : ∃ s1, s1 = st ++ [O.lst [.bl b0, .bl b1, .bl b2, .bl b3]] := ⟨_, rfl⟩
    have l1 : s1.length = st.length + 1 := by rw [hs1]; simp
    have g1 : s1[st.length]? = some (.lst [.bl b0, .bl b1, .bl b2, .bl b3]) := by rw [hs1]; simp
    have happ : appD (.ref st.length) [.bl b3] (st ++ [O.lst [.bl b0, .bl b1, .bl b2]]) = some (.non, s1) := by
      simp only [appD, List.getElem?_append_right (Nat.le_refl _), Nat.sub_self]
      simp only [List.getElem?_cons_zero]
      rw [if_pos (by rw [sizeLine_eq]; simp), hs1]
      simp
    have ha1 := add_lst2 (st := s1) (b := [.bl b4, .bl b5, .bl b6]) g1 (by simp)
    obtain ⟨s3, hs3⟩ : ∃ s3, s3 = (s1 ++ [O.lst [.bl b4, .bl b5, .bl b6]]) ++ [O.lst ([.bl b0, .bl b1, .bl b2, .bl b3] ++ [.bl b4, .bl b5, .bl b6])] := ⟨_, rfl⟩
    rw [← hs3] at ha1
    have l3 : s3.length = st.length + 3 := by rw [hs3]; simp [l1]
    have g3 : s3[s1.length + 1]? = some (.lst ([.bl b0, .bl b1, .bl b2, .bl b3] ++ [.bl b4, .bl b5, .bl b6])) := by
      rw [hs3, List.getElem?_append_right (by simp)]; simp
    have ha2 := add_lst2 (st := s3) (b := [.bl b7, .bl b8]) g3 (by simp)
    obtain ⟨s5, hs5⟩ : ∃ s5, s5 = (s3 ++ [O.lst [.bl b7, .bl b8]]) ++ [O.lst fl] := ⟨_, rfl⟩
    have ha2' : addD (.ref (s1.length + 1)) (.ref s3.length) (s3 ++ [O.lst [.bl b7, .bl b8]]) = some (.ref (s3.length + 1), s5) := by rw [ha2, hs5, hfl]; rfl
    have g5 : s5[s3.length + 1]? = some (.lst fl) := by rw [hs5, List.getElem?_append_right (by simp)]; simp
    obtain ⟨s6, hs6⟩ : ∃ s6, s6 = s5 ++ [O.lst ws] := ⟨_, rfl⟩
    have g6 : s6[s3.length + 1]? = some (.lst fl) := by rw [hs6, List.getElem?_append_left (List.getElem?_eq_some_iff.mp g5).1, g5]
    have gw : s6[s5.length]? = some (.lst ws) := by rw [hs6]; simp
    have gL : getL s6 (s3.length + 1) = some fl := by unfold getL; rw [g6]
    have hcnt : cntD (.ref (s3.length + 1)) [.bl true] s6 = some (.int 1, s6) := by
      simp only [cntD, gL]
      rw [if_pos ⟨rfl, hall⟩, hc]; rfl
    have hix : ixLD (.ref (s3.length + 1)) [.bl true] s6 = some (.int (j : Nat), s6) := by
      simp only [ixLD, gL]
      rw [if_pos ⟨rfl, hall⟩, hj]
    have hjl : j < ws.length := (List.getElem?_eq_some_iff.mp hwj).1
    have hws : ixD (.ref s5.length) (.int (j : Nat)) s6 = some (.str w, s6) := by
      refine ix_at gw ?_
      simp only [atI, ixN]
      rw [if_pos (by omega), if_pos (by omega)]
      simp [hwj]
    have isL1 : isLst (.ref st.length) (st ++ [O.lst [.bl b0, .bl b1, .bl b2]]) = true := by
      simp only [isLst, List.getElem?_append_right (Nat.le_refl _), Nat.sub_self]; rfl
    have isL6 : isLst (.ref (s3.length + 1)) s6 = true := by simp only [isLst, g6]
    have i2 : ∀ (x1 x3 x4 : Option D) (b : Bool) (s : Store), mIsE 2 a b [none, x1, some (.adr a), x3, x4] s = .ok (.bl b) s := fun x1 x3 x4 b s => isE_ok rfl
    have hmany := eqSt (st := s6) ho ho2
    rw [hm] at hmany
    refine ⟨[none, some (.str w), some (.adr a), some (.ref (s3.length + 1)), some (.ref s5.length)], [O.lst [.bl b0, .bl b1, .bl b2, .bl b3], .lst [.bl b4, .bl b5, .bl b6], O.lst ([.bl b0, .bl b1, .bl b2, .bl b3] ++ [.bl b4, .bl b5, .bl b6]), .lst [.bl b7, .bl b8], .lst fl, .lst ws], ?_, rfl⟩
    have e : st ++ [O.lst [.bl b0, .bl b1, .bl b2, .bl b3], .lst [.bl b4, .bl b5, .bl b6], O.lst ([.bl b0, .bl b1, .bl b2, .bl b3] ++ [.bl b4, .bl b5, .bl b6]), .lst [.bl b7, .bl b8], .lst fl, .lst ws] = s6 := by rw [hs6, hs5, hs3, hs1]; simp
    rw [e]
    have hone := asB_ok (op2_of (f := eqD) (mt_of (e := [none, none, some (.adr a), some (.ref (s3.length + 1)), some (.ref s5.length)]) (var_of (i := 3) rfl) isL6 (one_of (x_c (.bl true))) hcnt) (x_c (.int 1)) eqI)
    rw [decide_eq_true rfl] at hone
    exact seq_nx (set_of (lst_of (cons_of (i2 _ _ _ _ _) (two_of (i2 _ _ _ _ _) (i2 _ _ _ _ _))) (by simp))) (seq_nx (exp_of (mt_of (var_of rfl) isL1 (one_of (i2 _ _ _ _ _)) happ))
      (seq_nx (set_of (op2_of (var_of rfl) (lst_of (cons_of (i2 _ _ _ _ _) (two_of (i2 _ _ _ _ _) (i2 _ _ _ _ _))) (by simp)) ha1)) (seq_nx (set_of (op2_of (var_of rfl) (lst_of (two_of (i2 _ _ _ _ _) (i2 _ _ _ _ _)) (by simp)) ha2'))
      (seq_nx (set_of (by rw [hmw, ← hs6])) (seq_nx (set_of (ifx_t (k := true) (and_t hone (asB_ok (i2 _ _ _ _ _))) (op2_of (var_of rfl) (mt_of (var_of rfl) isL6 (one_of (x_c (.bl true))) hix) hws)))
      (seq_nx (set_of (ifx_f (k := true) (asB_ok (op2_of (var_of rfl) rfl hmany)) (var_of rfl))) rfl))))))
end Py

set_option Elab.async false
set_option linter.all false
set_option maxRecDepth 100000
set_option maxHeartbeats 1000000
namespace Py
open L2 PySem PySem.Spec PyProof.Rows
/-! ### helpers of the printed texts -/
theorem AllTab.at_ {q : Program} {K : PySem.W.Frag} {mg : Str → Option Value} {h : Heap} (T : AllTab q K mg h) {x : Str} {fa c P : Addr} {o oc : Obj} {fd : FuncData} (r : ((recsOf q).any fun e => e.name == x) = true) (m : mg x = some (.ref fa)) (k1 : K.lookup fa = some o) (k2 : o.data = .func fd) (k3 : fd.code = .ref c) (k4 : K.lookup c = some oc) (w : CodeOk oc c P) :
    h.get? P = some { cls := .none, data := .fields #[] } := by
  obtain ⟨vs, _, _, _, _, _, _, _, _, hd, ht, _⟩ := w.ex
  exact T x fa c P o oc fd vs r m k1 k2 k3 k4 hd ht
theorem tab_uniq {l : List (Addr × Str)} {P : Addr} {q : Str} (nd : (l.map (·.1)).Nodup) (m : (P, q) ∈ l) : ∀ p ∈ l, p.1 = P → p.2 = q := by
  induction l with
  | nil => cases m
  | cons a l ih =>
    intro p hp e
    rw [List.map_cons, List.nodup_cons] at nd
    rcases List.mem_cons.mp m with z | z
    · rcases List.mem_cons.mp hp with y | y
      · rw [y, ← z]
      · exact absurd (List.mem_map.mpr ⟨p, y, by rw [e, ← z]⟩) nd.1
    · rcases List.mem_cons.mp hp with y | y
      · exact absurd (List.mem_map.mpr ⟨(P, q), z, by rw [← y, e]⟩) nd.1
      · exact ih nd.2 z p y e
theorem kit_ref {K : PySem.W.Frag} {D C : Addr} {b : Bool} (hd : PySem.W.hasDictIn K C = true) (ht : PySem.W.typeIn K (.ref C) = some (.type "type")) (hs : PySem.W.subIn K (.ref D) (.ref C) = some b) (hn : b = true ∨ D ≠ C) : PySem.W.kitOne K (.ref D) (.ref C) = some b := by
  have hc : (PySem.W.clsIn K C).isSome = true := by
    unfold PySem.W.hasDictIn at hd
    cases h : PySem.W.clsIn K C with
    | none => rw [h] at hd; cases hd
    | some _ => rfl
  unfold PySem.W.kitOne
  by_cases e : D = C
  · subst e
    rcases hn with rfl | hn
    · simp
    · exact absurd rfl hn
  · have e2 : ((Value.ref D) == (Value.ref C)) = false := by simpa using e
    rw [e2]
    show PySem.W.kitCls K (.ref D) (.ref C) = some b
    unfold PySem.W.kitCls
    simp only [hc, ht, hs]
    simp
theorem kit_bty {K : PySem.W.Frag} {D : Addr} {T : String} (hm : PySem.W.kitMeta T = true) (hs : PySem.W.subIn K (.ref D) (.type T) = some true) : PySem.W.kitOne K (.ref D) (.type T) = some true := by
  unfold PySem.W.kitOne
  have e2 : ((Value.ref D) == (Value.type T)) = false := rfl
  rw [e2]
  show PySem.W.kitCls K (.ref D) (.type T) = some true
  unfold PySem.W.kitCls
  simp only [hm, hs]
  simp
variable [Tb]
section
variable {X : Cx} {W : WX}
theorem se_never {e : Expr} : SE X W e (fun _ _ => .stuck) := ⟨fun pins s σ H Q I ⟨_, _, _, _, _, p⟩ => p.elim⟩
variable {BL : List Str} {N : List Str} {sc : Scope} {pos : Pos}
def lclU (N : List Str) (sc : Scope) (i : Nat) (y : Str) : Bool := decide (N[i]? = some y) && decide (sc.names.lookup y = some .local) && decide (sc.kind = .function)
theorem ss_setU (z : Cu BL X N sc) {i : Nat} {y : Str} {py : Pos} {e : Expr} {me : Py.Loc → Store → R D} (he : SE X W e me) (h : (lclU N sc i y && !swB e sc y py) = true) : SS X W (.Assign [.Name y py] e pos) (sAsg me (gN i)) := by
  simp only [lclU, Bool.and_eq_true, decide_eq_true_eq, Bool.not_eq_true'] at h
  obtain ⟨⟨⟨h1, h2⟩, h3⟩, h4⟩ := h
  have hl : X.env.kindOf y = some .local := by
    unfold Env.kindOf
    rw [z.hsc]; exact h2
  exact ss_set (by rw [z.hN]; exact z.nd) (by rw [z.hN]; exact h1) (.inl hl) he (by rw [swB_ok (by rw [z.hsc]; exact h3), z.hsc, h4]) (.inr hl)
end
end Py

set_option Elab.async false
set_option linter.all false
set_option maxRecDepth 100000
set_option maxHeartbeats 1000000
namespace Py
open L2 PySem PySem.Spec PyProof.Rows
/-! ### fractions -/
/-- a fraction in lowest terms, as a tuple -/
def frD (q : Rat) : D := .tup [.int q.num, .int (q.den : Int)]
/-- both parts within so many bits -/
def Sz (b : Nat) (q : Rat) : Prop := q.num.natAbs < 2 ^ b ∧ q.den < 2 ^ b
theorem Sz.mono {a b : Nat} {q : Rat} (h : Sz a q) (l : a ≤ b) : Sz b q := ⟨Nat.lt_of_lt_of_le h.1 (Nat.pow_le_pow_right (by omega) l), Nat.lt_of_lt_of_le h.2 (Nat.pow_le_pow_right (by omega) l)⟩
theorem div_le (a : Int) (g : Nat) : (a / (g : Int)).natAbs ≤ a.natAbs := by
  by_cases hg : g = 0
  · subst hg; simp
  · by_cases h : 0 ≤ a
    · obtain ⟨n, rfl⟩ := Int.eq_ofNat_of_zero_le h
      rw [← Int.natCast_ediv]
      simp only [Int.natAbs_natCast]
      exact Nat.div_le_self _ _
    · have := Int.natAbs_ediv_le_natAbs a (g : Int)
      exact this
theorem num_le (a b : Int) : (Rat.divInt a b).num.natAbs ≤ a.natAbs := by
  rw [Rat.num_divInt]
  refine Nat.le_trans (div_le _ _) ?_
  rw [Int.natAbs_mul]
  have h1 : b.sign.natAbs ≤ 1 := by
    unfold Int.sign
    split <;> decide
  exact Nat.le_trans (Nat.mul_le_mul_right _ h1) (by omega)
theorem den_le (a b : Int) (h : b ≠ 0) : (Rat.divInt a b).den ≤ b.natAbs := by
  rw [Rat.den_divInt, if_neg h]
  exact Nat.div_le_self _ _
theorem sz_div {a b : Int} {k : Nat} (h : b ≠ 0) (ha : a.natAbs < 2 ^ k) (hb : b.natAbs < 2 ^ k) : Sz k (Rat.divInt a b) := ⟨Nat.lt_of_le_of_lt (num_le a b) ha, Nat.lt_of_le_of_lt (den_le a b h) hb⟩
theorem divInt_nat (a : Int) (b : Nat) : Rat.divInt a (b : Int) = mkRat a b := Rat.divInt_ofNat a b
theorem lt_pow_mul {a b i j : Nat} (h1 : a < 2 ^ i) (h2 : b < 2 ^ j) : a * b < 2 ^ (i + j) := by
  rw [Nat.pow_add]; exact Nat.mul_lt_mul'' h1 h2
theorem add_eq (p q : Rat) : Rat.divInt (p.num * q.den + q.num * p.den) ((p.den : Int) * q.den) = p + q := by
  rw [Rat.add_def', ← divInt_nat]; push_cast; rfl
theorem sub_eq (p q : Rat) : Rat.divInt (p.num * q.den - q.num * p.den) ((p.den : Int) * q.den) = p - q := by
  rw [Rat.sub_def', ← divInt_nat]; push_cast; rfl
theorem mul_eq (p q : Rat) : Rat.divInt (p.num * q.num) ((p.den : Int) * q.den) = p * q := by
  rw [Rat.mul_def', ← divInt_nat]; push_cast; rfl
theorem den_pos' (q : Rat) : (0 : Int) < q.den := by have := q.den_pos; omega
theorem den_mul_ne (p q : Rat) : ((p.den : Int) * q.den) ≠ 0 := Int.ne_of_gt (Int.mul_pos (den_pos' p) (den_pos' q))
theorem den_mul_lt {p q : Rat} {a b : Nat} (h1 : Sz a p) (h2 : Sz b q) : ((p.den : Int) * q.den).natAbs < 2 ^ (a + b) := by
  rw [Int.natAbs_mul]; simpa using lt_pow_mul h1.2 h2.2
theorem cross_lt {p q : Rat} {a b : Nat} (h1 : Sz a p) (h2 : Sz b q) : (p.num * q.den).natAbs < 2 ^ (a + b) := by
  rw [Int.natAbs_mul]; simpa using lt_pow_mul h1.1 h2.2
theorem Sz.add {p q : Rat} {a b : Nat} (h1 : Sz a p) (h2 : Sz b q) : Sz (a + b + 1) (p + q) := by
  rw [← add_eq]
  have c1 := cross_lt h1 h2
  have c2 := cross_lt h2 h1
  have c3 := den_mul_lt h1 h2
  rw [Nat.add_comm b a] at c2
  refine sz_div (den_mul_ne p q) ?_ (by rw [Nat.pow_succ]; omega)
  rw [Nat.pow_succ]
  omega
theorem Sz.sub {p q : Rat} {a b : Nat} (h1 : Sz a p) (h2 : Sz b q) : Sz (a + b + 1) (p - q) := by
  rw [← sub_eq]
  have c1 := cross_lt h1 h2
  have c2 := cross_lt h2 h1
  have c3 := den_mul_lt h1 h2
  rw [Nat.add_comm b a] at c2
  refine sz_div (den_mul_ne p q) ?_ (by rw [Nat.pow_succ]; omega)
  rw [Nat.pow_succ]
  omega
theorem Sz.mul {p q : Rat} {a b : Nat} (h1 : Sz a p) (h2 : Sz b q) : Sz (a + b) (p * q) := by
  rw [← mul_eq]
  refine sz_div (den_mul_ne p q) ?_ (den_mul_lt h1 h2)
  rw [Int.natAbs_mul]; exact lt_pow_mul h1.1 h2.1
theorem sz_int {n : Int} {a : Nat} (h : n.natAbs < 2 ^ a) (h0 : 0 < a) : Sz a (n : Rat) := ⟨h, by
  show 1 < 2 ^ a
  exact Nat.one_lt_two_pow (by omega)⟩
theorem frD_int (n : Int) : frD (n : Rat) = .tup [.int n, .int 1] := rfl
variable [Tb]
section
variable {st : Store}
theorem ix0 (q : Rat) : ixD (frD q) (.int 0) st = some (.int q.num, st) := rfl
theorem ix1 (q : Rat) : ixD (frD q) (.int 1) st = some (.int (q.den : Int), st) := rfl
theorem mulB {x y : Int} {a b : Nat} (hx : x.natAbs < 2 ^ a) (hy : y.natAbs < 2 ^ b) (h : a + b ≤ 100000) : mulD (.int x) (.int y) st = some (.int (x * y), st) := by
  refine mulI (.inr (.inl ?_))
  exact wide_mul (a := a + 1) (b := b + 1) (Nat.lt_of_lt_of_le hx (Nat.pow_le_pow_right (by omega) (by omega))) (Nat.lt_of_lt_of_le hy (Nat.pow_le_pow_right (by omega) (by omega))) (by omega) (by omega) (by omega)
theorem Sz.den {q : Rat} {a : Nat} (h : Sz a q) : ((q.den : Int)).natAbs < 2 ^ a := by simpa using h.2
theorem eqv_fr (p q : Rat) : PyData.eqv (.tuple [.int p.num, .int (p.den : Int)]) (.tuple [.int q.num, .int (q.den : Int)]) = decide (p = q) := by
  have e : decide (p = q) = (decide (p.num = q.num) && decide ((p.den : Int) = (q.den : Int))) := by
    by_cases h : p = q
    · subst h; simp
    · by_cases h1 : p.num = q.num
      · have h2 : ¬ (p.den : Int) = (q.den : Int) := fun z => h (Rat.ext h1 (by omega))
        simp [h, h2]
      · simp [h, h1]
  rw [e]
  have beqd : ∀ a b : Int, (a == b) = decide (a = b) := fun a b => by by_cases h : a = b <;> simp [h]
  simp only [PyData.eqv, PyData.eqvAll, beqd, Bool.and_true]
theorem shaped_fr (p : Rat) : SeqAt.shaped (.tuple [.int p.num, .int (p.den : Int)]) = true := rfl
theorem eq_fr (p q : Rat) : eqD (frD p) (frD q) st = some (.bl (decide (p = q)), st) := by
  unfold eqD
  simp only [toPy, pyG, pyGs, frD]
  rw [guard_pos ⟨shaped_fr p, shaped_fr q⟩, eqv_fr]
theorem ne_fr (p q : Rat) : neD (frD p) (frD q) st = some (.bl (!decide (p = q)), st) := by
  unfold neD
  simp only [toPy, pyG, pyGs, frD]
  rw [guard_pos ⟨shaped_fr p, shaped_fr q⟩, eqv_fr]
end
end Py

set_option Elab.async false
set_option linter.all false
set_option maxRecDepth 100000
set_option maxHeartbeats 2000000
namespace Py
open L2 PySem PySem.Spec PyProof.Rows
/-! ### dict(l) of pairs whose keys are tuples -/
def mergedH {K : Type} [DecidableEq K] (xs : List (K × Addr × Value)) (rest : List (K × Addr × Value)) : List (K × Addr × Value) := rest.foldl (fun acc q => storedH acc q.1 q.2.1 q.2.2) xs
theorem storedH_len {K : Type} [DecidableEq K] (xs : List (K × Addr × Value)) (k : K) (a : Addr) (v : Value) : (storedH xs k a v).length ≤ xs.length + 1 := by
  unfold storedH; split <;> simp
theorem mergedH_len {K : Type} [DecidableEq K] (rest : List (K × Addr × Value)) : ∀ xs : List (K × Addr × Value), (mergedH xs rest).length ≤ xs.length + rest.length := by
  induction rest with
  | nil => intro xs; simp [mergedH]
  | cons q r ih =>
    intro xs
    have h1 := ih (storedH xs q.1 q.2.1 q.2.2)
    have h2 := storedH_len xs q.1 q.2.1 q.2.2
    have e : mergedH xs (q :: r) = mergedH (storedH xs q.1 q.2.1 q.2.2) r := rfl
    rw [e, List.length_cons]; omega
theorem storedH_addr {K : Type} [DecidableEq K] {xs : List (K × Addr × Value)} {k : K} {a : Addr} {v : Value} {I : Addr} (h : ∀ x ∈ xs, x.2.1 ≠ I) (ha : a ≠ I) : ∀ x ∈ storedH xs k a v, x.2.1 ≠ I := by
  intro x hx
  unfold storedH at hx
  split at hx
  · obtain ⟨y, hy, rfl⟩ := List.mem_map.mp hx
    have := h y hy
    unfold putAt
    split <;> exact this
  · rcases List.mem_append.mp hx with hx | hx
    · exact h x hx
    · simp only [List.mem_singleton] at hx
      subst hx
      exact ha
theorem tk_at {P : Program} {w : World} {h h' : Heap} {k : List Key} {a : Addr} (x : (tupleKind (mixKind P w)).is h k a) (e : ∀ o, h.get? a = some o → h'.get? a = some o) : (tupleKind (mixKind P w)).is h' k a := by
  obtain ⟨o, items, n, h1, h2, h3, h4⟩ := x
  exact ⟨o, items, n, e o h1, h2, h3, h4⟩
theorem dictH_at {P : Program} {w : World} {h h' : Heap} {S I : Addr} {xs : List (List Key × Addr × Value)} (hm : h.DictOfH (tupleKind (mixKind P w)) S xs) (hS : S ≠ I) (hk : ∀ x ∈ xs, x.2.1 ≠ I) (k : ∀ b o, b ≠ I → h.get? b = some o → h'.get? b = some o) : h'.DictOfH (tupleKind (mixKind P w)) S xs := by
  obtain ⟨o, es, ep, h1, h2, h3, h4, h5, h6⟩ := hm
  exact ⟨o, es, ep, k _ _ hS h1, h2, h3, h4, fun x hx => tk_at (h5 x hx) fun o e => k _ _ (hk x hx) e, h6⟩
section
variable {prog : Program} {w : World} {A : Around} {E : Value → Shared → Prop}
theorem upd_loopT {R : Result → Shared → Prop} {S I l : Addr} {items : Array Value} {res : Value} (hu : A.in1.units < cLine) (hh : A.handled = none) (hlI : l ≠ I) (hSI : S ≠ I) (hSl : S ≠ l) :
    ∀ (rest : List (List Key × Addr × Value)) (i : Nat) (acc : List (List Key × Addr × Value)) (ix : Int) (t : Tok) (s : Shared), items.size = i + rest.length → acc.length + rest.length ≤ sizeLine →
      (∀ (j : Nat) (q : List Key × Addr × Value), rest[j]? = some q → ∃ b : Addr, items[i + j]? = some (.ref b) ∧ b ≠ S ∧ b ≠ I ∧ IsTup s.heap b #[.ref q.2.1, q.2.2] ∧ (tupleKind (mixKind prog w)).is s.heap q.1 q.2.1 ∧ q.2.1 ≠ S ∧ q.2.1 ≠ I) →
      (∀ x ∈ acc, x.2.1 ≠ I) →
      s.heap.IsListIter I l i → s.heap.IsList l items → s.heap.DictOfH (tupleKind (mixKind prog w)) S acc →
      (∀ h' tk, h'.DictOfH (tupleKind (mixKind prog w)) S (mergedH acc rest) → (∀ b o, b ≠ S → b ≠ I → s.heap.get? b = some o → h'.get? b = some o) → R (.ok (.ret res)) { s with heap := h', toks := tk }) →
      codeAny (model prog w) A (.builtin "dict.update.loop" ⟨[.ref S, .ref I, .int ix t, res], []⟩) R s
  | [], i, acc, ix, t, s, hsz, hln, ht, hac, hit, hl, hm, hR => by
    refine codeAny_builtin ud_entry ?_
    rw [Around.under_plainId ud_plain _]
    show wpAny _ A.in1 (pyNext (.ref I) >>= _) _ _ s
    refine wpAny_bind (wpAny_pyNext_list_end (A := A.in1) hh hit hl (by first | exact Array.getElem?_eq_none (Nat.le_of_eq hsz) | (simp at hsz; simp; omega)) fun h' he => ?_)
    show wpAny _ A.in1 (Builtin.Dict.addKeywords S [] >>= _) _ _ _
    refine wpAny_bind (wpAny_pure (wpAny_pure ?_))
    exact hR h' s.toks (dictH_at hm hSI hac fun b o hb e => he b o hb e) fun b o _ hb e => he b o hb e
  | q :: rest, i, acc, ix, t, s, hsz, hln, ht, hac, hit, hl, hm, hR => by
    obtain ⟨b, hb, hbS, hbI, htup, hk, hkS, hkI⟩ := ht 0 q rfl
    rw [List.length_cons] at hsz hln
    refine codeAny_builtin ud_entry ?_
    rw [Around.under_plainId ud_plain _]
    show wpAny _ A.in1 (pyNext (.ref I) >>= _) _ _ s
    refine wpAny_bind (wpAny_pyNext_list_item (x := .ref b) hit hl (by simpa using hb) fun h1 hit1 hs1 => ?_)
    have ht1 : IsTup h1 b #[.ref q.2.1, q.2.2] := htup.extBut hs1.extBut hbI
    have hl1 : h1.IsList l items := hl.extBut hs1.extBut hlI
    have hm1 : h1.DictOfH (tupleKind (mixKind prog w)) S acc := dictH_at hm hSI hac fun b o hb e => hs1.extBut b o hb e
    have hk1 : (tupleKind (mixKind prog w)).is h1 q.1 q.2.1 := tk_at hk fun o e => hs1.extBut _ o hkI e
    obtain ⟨o, ho, hc, n, hd⟩ := id ht1
    show wpAny _ A.in1 (holding [Value.ref b] _ >>= _) _ _ _
    refine wpAny_bind (wpAny_holding ?_)
    refine wpAny_bind (wpAny_tryCatch ?_)
    unfold Builtin.Dict.pairItems
    refine wpAny_bind (wpAny_typeOf (T := "tuple") ⟨o, ho, hc⟩ ?_)
    rw [if_pos (by first | decide | rfl | simp)]
    refine wpAny_bind (wpAny_seqItems ho hd (wpAny_pure ?_))
    show wpAny _ A.in1 (holding [.ref q.2.1, q.2.2] (dictSet S (.ref q.2.1) q.2.2)) _ _ _
    refine wpAny_holding (wpAny_dictSet_heap (knd := tupleKind (mixKind prog w)) (k := q.1) hu hk1 hm1 (fun h2 hm2 hs2 => ?_) (by omega))
    refine wpAny_pure ⟨plainId_quiet ud_plain _, upd_loopT (items := items) hu hh hlI hSI hSl rest (i + 1) (storedH acc q.1 q.2.1 q.2.2) (ix + 1) 0 _ (show items.size = i + 1 + rest.length by omega) ?_ (fun j q' e => ?_) (storedH_addr hac hkI) ?_ ?_ hm2 fun h' tk hd' k => ?_⟩
    · have z := storedH_len acc q.1 q.2.1 q.2.2
      omega
    · obtain ⟨b', hb', hbS', hbI', htup', hk', hkS', hkI'⟩ := ht (j + 1) q' (by simpa using e)
      refine ⟨b', ?_, hbS', hbI', (htup'.extBut hs1.extBut hbI').extBut hs2.extBut hbS', tk_at hk' fun o e => hs2.extBut _ o hkS' (hs1.extBut _ o hkI' e), hkS', hkI'⟩
      rw [show i + 1 + j = i + (j + 1) by omega]
      exact hb'
    · exact hit1.at fun o' e => hs2.extBut I o' (Ne.symm hSI) e
    · exact hl1.extBut hs2.extBut (Ne.symm hSl)
    · exact hR h' tk hd' fun c oc h3 h4 e => k c oc h3 h4 (hs2.extBut c oc h3 (hs1.extBut c oc h4 e))
theorem call_dict_pairsT {s : Shared} {l : Addr} {ol : Obj} {items : Array Value} {n : Nat} {prs : List (List Key × Addr × Value)} {Q : Value → Shared → Prop} (hu : A.units + 2 < cLine) (hh : A.handled = none) (hl : s.heap.get? l = some ol) (hc : ol.cls = .type "list") (hd : ol.dict = none)
    (hdat : ol.data = .seq items n) (hsz : items.size = prs.length) (hln : prs.length ≤ sizeLine)
    (ht : ∀ (j : Nat) (q : List Key × Addr × Value), prs[j]? = some q → ∃ b : Addr, items[j]? = some (.ref b) ∧ IsTup s.heap b #[.ref q.2.1, q.2.2] ∧ (tupleKind (mixKind prog w)).is s.heap q.1 q.2.1)
    (h : ∀ h' tk, h'.DictOfH (tupleKind (mixKind prog w)) s.heap.objs.size (mergedH [] prs) → (∀ b o, s.heap.get? b = some o → h'.get? b = some o) → Q (.ref s.heap.objs.size) { s with heap := h', toks := tk }) :
    wpAny (model prog w) A (call (.type "dict") [.ref l]) Q E s := by
  refine callType_codes (Q₁ := fun obj s₁ => obj = .ref s.heap.objs.size ∧ s₁ = { s with heap := s.heap.push { cls := .type "dict", data := .dict #[] } }) PySem.F.kt_called_dict (PySem.F.kt_typeCall_dict_1 _) PySem.F.entry_dict_init (kt_code_dict_new _ ⟨rfl, rfl⟩) ?_
  rintro obj s₁ ⟨rfl, rfl⟩
  have hnew : (s.heap.push { cls := .type "dict", data := .dict #[] }).DictOf (mixKind prog w) s.heap.objs.size [] := Heap.DictOf.new s.heap
  have hnewH : (s.heap.push { cls := .type "dict", data := .dict #[] }).DictOfH (tupleKind (mixKind prog w)) s.heap.objs.size [] := ⟨_, #[], 0, Heap.get?_push_size _ rfl, ⟨rfl, rfl, rfl⟩, rfl, rfl, (fun x hx => nomatch hx), List.nodup_nil⟩
  have k0 : ∀ b o, s.heap.get? b = some o → (s.heap.push { cls := .type "dict", data := .dict #[] }).get? b = some o := fun b o e => Heap.get?_push_of_some _ e
  refine ⟨hnew.typeIs, PySem.F.args_dict_init_2 _ _, ?_⟩
  unfold Builtin.«dict.__init__»
  refine wpAny_bind ?_
  unfold Builtin.Dict.selfAndRest
  refine wpAny_bind (wpAny_notOrdered_dict hnew.typeIs ?_)
  show wpAny _ _ (pure (s.heap.objs.size, [Value.ref l])) _ _ _
  refine wpAny_pure ?_
  show wpAny _ _ (Builtin.Dict.updateFrom "dict.__init__" s.heap.objs.size (.ref l) [] .none) _ _ _
  unfold Builtin.Dict.updateFrom
  refine wpAny_bind (wpAny_typeOf (T := "list") ⟨ol, k0 _ _ hl, hc⟩ ?_)
  rw [if_pos (by first | decide | rfl | simp)]
  refine wpAny_bind (miss_list (k0 _ _ hl) hc hdat hd hh fun h1 tk1 hk1 => ?_)
  rw [if_pos (show (none : Option Value).isNone = true from rfl)]
  refine wpAny_bind (wpAny_rule ?_)
  have hl1 : h1.IsList l items := ⟨ol, hk1 _ _ (k0 _ _ hl), hc, n, hdat⟩
  have hS1 : s.heap.objs.size < h1.objs.size := by
    have e : (s.heap.push { cls := .type "dict", data := .dict #[] }).get? s.heap.objs.size = some { cls := .type "dict", data := .dict #[] } := Heap.get?_push_size _ rfl
    exact Heap.lt_size (hk1 _ _ e)
  refine wpAny_bind (wpAny_pyIter_list hl1 ?_)
  have k2 : ∀ b o, h1.get? b = some o → (h1.push { cls := .type "list_iterator", data := .fields #[.ref l, .int 0 0] }).get? b = some o := fun b o e => Heap.get?_push_of_some _ e
  have hlt : l < s.heap.objs.size := Heap.lt_size hl
  have key := upd_loopT (prog := prog) (w := w) (A := A.in1) (R := wants (fun r s₂ => r = .none ∧ Q (.ref s.heap.objs.size) s₂) E) (S := s.heap.objs.size) (I := h1.objs.size) (l := l) (items := items) (res := Value.none) (by show A.units + 1 + 1 < cLine; omega) hh
    (Nat.ne_of_lt (Nat.lt_trans hlt hS1)) (Nat.ne_of_lt hS1) (Nat.ne_of_gt hlt) prs 0 [] 0 0
    { s with heap := h1.push { cls := .type "list_iterator", data := .fields #[.ref l, .int 0 0] }, toks := tk1 } (by rw [hsz, Nat.zero_add]) (by rw [List.length_nil, Nat.zero_add]; exact hln)
    (fun j q e => by
      obtain ⟨b, e1, e2, e3⟩ := ht j q e
      have hb : b < s.heap.objs.size := e2.lt
      have hq : q.2.1 < s.heap.objs.size := by obtain ⟨o, _, _, e4, _⟩ := e3; exact Heap.lt_size e4
      exact ⟨b, by rw [Nat.zero_add]; exact e1, Nat.ne_of_lt hb, Nat.ne_of_lt (Nat.lt_trans hb hS1), e2.keeps fun c o z => k2 _ _ (hk1 _ _ (k0 _ _ z)), tk_at e3 fun o z => k2 _ _ (hk1 _ _ (k0 _ _ z)), Nat.ne_of_lt hq, Nat.ne_of_lt (Nat.lt_trans hq hS1)⟩)
    (fun x hx => nomatch hx)
    ⟨_, Heap.get?_push_size _ rfl, rfl, rfl⟩ (hl1.at fun o e => k2 _ _ e)
    (dictH_at (I := h1.objs.size) hnewH (Nat.ne_of_lt hS1) (fun x hx => nomatch hx) fun b o _ e => k2 _ _ (hk1 _ _ e))
    (fun h' tk hd' k => ⟨rfl, h h' tk hd' fun b o e => k b o (Nat.ne_of_lt (Heap.lt_size e)) (Nat.ne_of_lt (Nat.lt_trans (Heap.lt_size e) hS1)) (k2 _ _ (hk1 _ _ (k0 _ _ e)))⟩)
  first
    | exact wpAny_pure ⟨plainId_quiet ud_plain _, key⟩
    | exact wpAny_bind (wpAny_pure (wpAny_pure ⟨plainId_quiet ud_plain _, key⟩))
end
end Py

set_option Elab.async false
set_option linter.all false
set_option maxRecDepth 100000
set_option maxHeartbeats 2000000
namespace Py
open L2 PySem PySem.Spec PyProof.Rows
/-! ### dict(l), l.index(x) -/
def mergeT (kvs more : List (List Key × V)) : List (List Key × V) := more.foldl (fun acc kv => putK acc kv.1 kv.2) kvs
theorem kt_merge {H : Hp} : ∀ {more : List (List Key × V)} {rs : List (List Key × Addr × Value)} {kvs : List (List Key × V)} {xs : List (List Key × Addr × Value)}, KT H more rs → KT H kvs xs → KT H (mergeT kvs more) (mergedH xs rs) := by
  intro more rs kvs xs r
  unfold KT at r
  induction r generalizing kvs xs with
  | nil => intro q; exact q
  | @cons p q ps qs h t ih =>
    intro r0
    have e : KT H (putK kvs p.1 p.2) (storedH xs q.1 q.2.1 q.2.2) := by
      have := r0.put p.1 h.2.1 h.2.2
      rw [← h.1]; exact this
    exact ih e
theorem mergeT_len : ∀ (more kvs : List (List Key × V)), (mergeT kvs more).length ≤ kvs.length + more.length
  | [], kvs => by show kvs.length ≤ kvs.length + 0; omega
  | p :: r, kvs => by
    have h1 := mergeT_len r (putK kvs p.1 p.2)
    have h2 : (putK kvs p.1 p.2).length ≤ kvs.length + 1 := by unfold putK; split <;> simp
    show (mergeT (putK kvs p.1 p.2) r).length ≤ _
    rw [List.length_cons]; omega
def PrT (K : PySem.W.Frag) (H : Hp) : List Addr → List (List Key × V) → Prop := Paired fun p kv => ∃ b, H b = some (.tup (kv.1.map kV)) ∧ SqT K H p [.ref b, kv.2]
section
variable {X : Cx}
theorem pairs_ofT {pins : List (Addr × Obj)} {σ : L2.St} {H : Hp} {s : Shared} (I : L2.Inv X pins σ H s) : ∀ {ps : List Addr} {kvs : List (List Key × V)}, PrT X.K H ps kvs →
    ∃ prs : List (List Key × Addr × Value), KT H kvs prs ∧ prs.length = ps.length ∧ ∀ (j : Nat) (q : List Key × Addr × Value), prs[j]? = some q → ∃ b : Addr, ps[j]? = some b ∧ IsTup s.heap b #[.ref q.2.1, q.2.2] ∧ (tupleKind (mixKind X.prog X.w)).is s.heap q.1 q.2.1
  | _, _, .nil => ⟨[], .nil, rfl, fun j q e => by simp at e⟩
  | _, _, .cons (a := p) (b := kv) h t => by
    obtain ⟨prs, r, hl, hp⟩ := pairs_ofT I t
    obtain ⟨b, hb, hq⟩ := h
    obtain ⟨its, rv, ht, _⟩ := I.tuple hq
    obtain ⟨u, y, ei, ru, ry⟩ := vals2 rv
    cases (show u = Value.ref b from ru)
    subst ei
    refine ⟨(kv.1, b, y) :: prs, .cons ⟨rfl, hb, ry⟩ r, by rw [List.length_cons, List.length_cons, hl], fun j q e => ?_⟩
    cases j with
    | zero =>
      have e' : (kv.1, b, y) = q := Option.some.inj e
      subst e'
      exact ⟨p, rfl, ht, key_of I.hok hb⟩
    | succ j =>
      obtain ⟨b', e1, e2, e3⟩ := hp j q (by simpa using e)
      exact ⟨b', by simpa using e1, e2, e3⟩
theorem call_dictT (hcalm : X.calm = true) (hu : X.A.units + 2 < cLine) : CallR X (.type "dict") (fun xs H Q => ∃ (a : Addr) (ps : List Addr) (kvs : List (List Key × V)), xs = [.ref a] ∧ SqL X.K H a (ps.map V.ref) ∧ PrT X.K H ps kvs ∧
    ∀ p, H p = none → Q (.ref p) (upd H p (.dT (mergeT [] kvs)))) := by
  intro pins s σ H xs us Q I r q
  obtain ⟨a, ps, kvs, ex, hq, hp, q⟩ := q
  subst ex
  obtain ⟨u, eu, rx⟩ := vals1 r
  subst eu
  cases rx
  obtain ⟨its, rv, pl, hz⟩ := I.list hq
  have ei := refs_at rv
  subst ei
  rw [List.length_map] at hz
  obtain ⟨prs, rel, hl, hpr⟩ := pairs_ofT I hp
  obtain ⟨o, n, ho, hc, hd, hdat⟩ := pl
  refine call_dict_pairsT (prs := prs) hu (I.ok.hd hcalm) ho hc hd hdat (by simp [hl]) (by rw [hl]; exact hz) (fun j q' e => ?_) fun h' tk hd' k => ?_
  · obtain ⟨b, e1, e2, e3⟩ := hpr j q' e
    exact ⟨b, by simp [e1], e2, e3⟩
  · have hm : (s.heap.objs.size == sysModules) = false := beq_eq_false_iff_ne.mpr (Nat.ne_of_gt I.big)
    have hlen : (mergeT [] kvs).length ≤ sizeLine := by
      refine Nat.le_trans (mergeT_len kvs []) ?_
      have e := Paired.length rel
      rw [List.length_nil, Nat.zero_add, e, hl]
      exact hz
    have hfr := I.hok.fresh (Nat.le_refl s.heap.objs.size)
    have hkt : KT (upd H s.heap.objs.size (.dT (mergeT [] kvs))) (mergeT [] kvs) (mergedH [] prs) := (kt_merge rel .nil).keeps fun b ys e => by rw [upd_ne (ne_of_none e hfr)]; exact e
    obtain ⟨o', es, ep, g1, g2, g3, g4, g5, g6⟩ := hd'
    exact ⟨.ref s.heap.objs.size, upd H s.heap.objs.size (.dT (mergeT [] kvs)), I.laid (t' := tk) k (Nat.le_refl _) (show ObjOk X.prog X.w _ _ _ (.dT (mergeT [] kvs)) from ⟨hlen, hm, mergedH [] prs, hkt, o', es, ep, g1, g2, g3, g4, g6⟩), rfl, q _ hfr⟩
end
def pairsT : List D → Option (List (D × D))
  | [] => some []
  | .tup [k, v] :: r => (match keyT k, pairsT r with | some _, some ps => some ((k, v) :: ps) | _, _ => none)
  | _ => none
def foldT : List (D × D) → List (D × D) → List (D × D)
  | acc, [] => acc
  | acc, (k, v) :: r => (match keyT k with | some q => foldT (putD acc k (.inr q) v) r | none => acc)
def dictTD : List D → Store → Option (D × Store)
  | [.ref n], st => (match getL st n with | some ds => (match pairsT ds with | some ps => if (foldT [] ps).isEmpty = false then some (.ref st.length, st ++ [.dict (foldT [] ps)]) else none | none => none) | none => none)
  | _, _ => none
noncomputable def idxD : D → List D → Store → Option (D × Store)
  | .ref n, [d], st => (match toPy st (.ref n), toPy st d with
    | some (.list ps), some p => if SeqAt.shaped (.list ps) = true ∧ SeqAt.shaped p = true then (match ps.findIdx? fun z => PyData.eqv z p with | some j => some (.int (j : Nat), st) | none => none) else none
    | _, _ => none)
  | _, _, _ => none
variable [Tb]
section
variable {K : PySem.W.Frag} {mg : Str → Option Value} {ρ : List Addr} {H : Hp} {st : Store}
theorem pairsT_at : ∀ {ds : List D} {vs : List V} {ps : List (D × D)}, RDs K mg ρ H ds vs → pairsT ds = some ps → ∃ (as : List Addr) (kvs : List (List Key × V)), vs = as.map V.ref ∧ PrT K H as kvs ∧ RKT K mg ρ H ps kvs
  | [], vs, ps, h, e => by
    simp only [RDs] at h
    subst h
    cases e
    exact ⟨[], [], rfl, .nil, .nil⟩
  | d :: ds, vs, ps, h, e => by
    obtain ⟨x, xs, rfl, h1, h2⟩ := h.uncons
    unfold pairsT at e
    split at e
    · rename_i heq; cases heq
    · rename_i k v r heq
      cases heq
      split at e
      · rename_i kk ps' e1 e2
        cases e
        obtain ⟨as, kvs, rfl, p1, p2⟩ := pairsT_at h2 e2
        simp only [RD] at h1
        obtain ⟨a, ys, rfl, h3, h4⟩ := h1
        obtain ⟨y1, ys1, rfl, h5, h6⟩ := h4.uncons
        obtain ⟨y2, ys2, rfl, h7, h8⟩ := h6.uncons
        simp only [RDs] at h8
        subst h8
        obtain ⟨b, rfl, hb⟩ := rd_keyT h5 e1
        exact ⟨a :: as, (kk, y2) :: kvs, rfl, .cons ⟨b, hb, .of h3⟩ p1, .cons ⟨e1, h7⟩ p2⟩
      · cases e
    · cases e
theorem foldT_rel : ∀ {ps : List (D × D)} {kvs : List (List Key × V)} {acc : List (D × D)} {ks : List (List Key × V)}, RKT K mg ρ H ps kvs → RKT K mg ρ H acc ks → RKT K mg ρ H (foldT acc ps) (mergeT ks kvs) := by
  intro ps kvs acc ks h
  unfold RKT at h
  induction h generalizing acc ks with
  | nil => intro q; exact q
  | @cons p q ps qs h t ih =>
    intro r0
    have e : foldT acc (p :: ps) = foldT (putD acc p.1 (.inr q.1) p.2) ps := by
      obtain ⟨k, v⟩ := p
      simp only [foldT]
      rw [h.1]
    rw [e]
    exact ih (rkt_put r0 h.1 h.2)
end
section
variable {X : Cx} {W : WX} {pos : Pos}
theorem ok_dictT (hcalm : X.calm = true) (hu : X.A.units + 2 < cLine) : CallR X (.type "dict") (rN X.K X.mg dictTD) := CallR.imp (call_dictT hcalm hu) fun xs H Q ⟨ρ, st, ds, rs, h, p⟩ => by
  unfold dictTD at p
  split at p
  · rename_i n
    obtain ⟨x, rfl, h1⟩ := rds_one h
    split at p
    · rename_i ds e
      split at p
      · rename_i ps e2
        split at p
        · rename_i hne
          obtain ⟨a, vs, rfl, _, hq, rd⟩ := seq_at rs h1 e
          obtain ⟨as, kvs, rfl, p1, p2⟩ := pairsT_at rd e2
          refine ⟨a, as, kvs, rfl, hq, p1, fun b hb => ?_⟩
          refine p (ρ ++ [b]) _ _ (Ext.push hb) (rs.push hb (.inr ⟨⟨_, upd_same, ?_⟩, fun z => by rw [z] at hne; cases hne⟩)) ?_
          · exact Paired.imp (fun _ _ q => ⟨q.1, q.2.mono (Ext.push hb)⟩) (foldT_rel p2 .nil)
          · simp only [RD]
            exact ⟨b, rfl, by rw [← rs.len]; simp⟩
        · exact p.elim
      · exact p.elim
    · exact p.elim
  · exact p.elim
theorem ok_idx (hu : X.A.units + 65 < cLine) : MtR X "list.index" (rM X.K X.mg idxD) := MtR.imp (mt_indexD hu) fun x xs H Q ⟨ρ, st, d, ds, rs, h1, h2, p⟩ => by
  unfold idxD at p
  split at p
  · rename_i n d'
    split at p
    · rename_i ps q e1 e2
      split at p
      · rename_i hs
        split at p
        · rename_i j hj
          obtain ⟨y, rfl, h3⟩ := rds_one h2
          have g1 := h1
          simp only [RD] at g1
          obtain ⟨a, rfl, _⟩ := g1
          obtain ⟨hl, hz, hno⟩ := List.findIdx?_eq_some_iff_getElem.mp hj
          refine ⟨a, y, q, ps, j, ps[j], rfl, rfl, toPy_dp rs h1 e1, toPy_dp rs h3 e2, hs.1, hs.2, List.getElem?_eq_getElem hl, hz, fun m z' hm hz' => ?_, p.here rs rd_int⟩
          obtain ⟨hl', he⟩ := List.getElem?_eq_some_iff.mp hz'
          have := hno m hm
          rw [he] at this
          simpa using this
        · exact p.elim
      · exact p.elim
    · exact p.elim
  · exact p.elim
theorem op_inDT (hu : X.A.units + 65 < cLine) : OpR X (compareOp .In) (fun x y H Q => ∃ d ds, Dp X.K H x d ∧ Dp X.K H y (.tuple ds) ∧ SeqAt.shaped d = true ∧ SeqAt.shaped (.tuple ds) = true ∧ Q (.bl (ds.any fun z => PyData.eqv z d)) H) := by
  intro pins s σ H x y v u Q I rx ry h
  obtain ⟨d, ds, hd, he, sd, se, q⟩ := h
  obtain ⟨as, r1⟩ := Dp.reads I d x v hd rx
  obtain ⟨bs, r2⟩ := Dp.reads I (.tuple ds) y u he ry
  have hroom : X.A.units + 1 + min (PyData.depthAll ds) d.depth < cLine := by
    have h1 := SeqAt.depth_of_shaped sd
    have h2 := Nat.min_le_right (PyData.depthAll ds) d.depth
    omega
  exact SeqAt.in_tuple_reads r2 r1 (SeqAt.canLay_of_shaped se) (SeqAt.canLay_of_shaped sd) hroom ⟨.bl _, H, I, rfl, q⟩
noncomputable def inTD (a b : D) (st : Store) : Option (D × Store) := match toPy st a, toPy st b with
  | some p, some (.tuple ps) => if SeqAt.shaped p = true ∧ SeqAt.shaped (.tuple ps) = true then some (.bl (ps.any fun z => PyData.eqv z p), st) else none
  | _, _ => none
theorem ok_inT (hu : X.A.units + 65 < cLine) : OpR X (compareOp .In) (r2 X.K X.mg inTD) := OpR.imp (op_inDT hu) fun x y H Q ⟨ρ, st, d1, d2, rs, h1, h2, p⟩ => by
  unfold inTD at p
  split at p
  · rename_i p1 ps e1 e2
    split at p
    · rename_i hs
      exact ⟨p1, ps, toPy_dp rs h1 e1, toPy_dp rs h2 e2, hs.1, hs.2, p.here rs rd_bl⟩
    · exact p.elim
  · exact p.elim
noncomputable def inA2 (d1 d2 : D) (st : Store) : Option (D × Store) := match inTD d1 d2 st with | some r => some r | none => inA d1 d2 st
variable {BL : List Str} {GC : List (Str × D)} {N : List Str} {sc : Scope} {fb : Str → Bool} {k : Nat} {a e : Expr} {ma me mo : Py.Loc → Store → R D}
theorem Ct.opIn2 (z : Ct BL GC X W N sc fb k) : OpR X (compareOp .In) (r2 X.K X.mg inA2) := OpR.imp ((ok_inT z.un65).or z.opIn) fun x y H Q ⟨ρ, st, d1, d2, rs, h1, h2, p⟩ => by
  unfold inA2 at p
  cases hq : inTD d1 d2 st with
  | some r => rw [hq] at p; exact .inl ⟨ρ, st, d1, d2, rs, h1, h2, by rw [hq]; exact p⟩
  | none => rw [hq] at p; exact .inr ⟨ρ, st, d1, d2, rs, h1, h2, p⟩
theorem Ct.dictT (z : Ct BL GC X W N sc fb k) {p : Pos} (ha : SE X W a ma) (h : blB BL sc "dict" = true) (hs : noStar a = true := by rfl) : SE X W (.Call (.Name "dict" p) [a] [] pos) (mOpN dictTD (mCons ma mNil)) := z.ct (ok_dictT z.calm (by have := z.room.un; omega)) (by decide +kernel) h (al_cons ha al_nil hs)
theorem Ct.idx (z : Ct BL GC X W N sc fb k) {o : Expr} {ap : Pos} (ho : SE X W o mo) (he : SE X W e me) (hline : (ap.endLine == pos.line) = true := by rfl) (hs : noStar e = true := by rfl) (hb : noCall o = true := by rfl) : SE X W (.Call (.Attribute o "index" ap) [e] [] pos) (mMt idxD mo (mCons me mNil)) :=
  se_mtL PySem.F.slot_list_index PySem.F.type_list_index (ok_idx z.un65) ho (al_cons (es := []) he al_nil hs).sa hb hs hline
end
end Py

set_option Elab.async false
set_option linter.all false
set_option maxRecDepth 100000
set_option maxHeartbeats 4000000
namespace K99
open Py L2 PySem PySem.Spec PyProof.Rows
/-! the defs of the text: what each means, and that it means it (printed by gen2.py) -/
def top (i : Nat) : Stmt := PySem.Challenge.pw_stuckloses_k99_whole_chances_and_turns.main.body.getD i (.Pass ⟨0, 0, 0, 0⟩)
abbrev BLs : List Str := ["ValueError", "abs", "all", "any", "bool", "dict", "enumerate", "int", "isinstance", "len", "list", "range", "sorted", "str", "sum", "tuple", "zip"]
abbrev GCs : List (Str × D) := [("MOST_PLACES", .int 40), ("GOAL", .str "goal"), ("LOST", .str "lost")]
/-- where the classes, the code objects of the lambdas' makers and their tables stand -/
structure Ad where
  C_PlayError : Addr
  C_BadBoard : Addr
  C_BadBoardWays : Addr
  C_BadGame : Addr
  C_BadNumber : Addr
  C_BadOrder : Addr
  C_BadRule : Addr
  C_BadStrip : Addr
  C_BadWays : Addr
  C_TooMany : Addr
  c_law : Addr
  P_law : Addr
  z : Addr
abbrev tblW : List (Str × D) := [("BadBoardWays", .str "net"), ("BadNumber", .str "number")]
abbrev tblA (A : Ad) : List WRow := [⟨"BadBoardWays", A.C_BadBoardWays, .str "net"⟩, ⟨"BadNumber", A.C_BadNumber, .str "number"⟩]
abbrev N__law_word : List Str := ["call", "found", "error", "flags", "words"]
abbrev N_is_integer : List Str := ["thing"]
noncomputable def b_is_integer : Py.Loc → Store → Fl := (sSeq (sRet (mAndV (mIsi (mVar 0) ["int"]) (mNotV (mIsi (mVar 0) ["bool"])))) (fun e st => .nx e st))
noncomputable def m_is_integer : Mean := runD N_is_integer b_is_integer
abbrev N_is_within : List Str := ["thing", "low", "high"]
noncomputable def b_is_within : Py.Loc → Store → Fl := (sSeq (sRet (mAndV (mCall m_is_integer (mCons (mVar 0) mNil)) (mChain leD leD (mVar 1) (mVar 0) (mVar 2)))) (fun e st => .nx e st))
noncomputable def m_is_within : Mean := runD N_is_within b_is_within
abbrev N_common : List Str := ["one", "other"]
noncomputable def b_common : Py.Loc → Store → Fl := (sSeq (sPar2 0 1 (mCons (mOpN absD (mCons (mVar 0) mNil)) (mCons (mOpN absD (mCons (mVar 1) mNil)) mNil))) (sSeq (sWh (asB (mOp2 gtD (mVar 1) (mC (.int 0)))) (sSeq (sPar2 0 1 (mCons (mVar 1) (mCons (mOp2 modD (mVar 0) (mVar 1)) mNil))) (fun e st => .nx e st))) (sSeq (sRet (mVar 0)) (fun e st => .nx e st))))
noncomputable def m_common : Mean := runD N_common b_common
abbrev N_frac : List Str := ["top", "bottom", "divisor"]
noncomputable def b_frac : Py.Loc → Store → Fl := (sSeq (sAsg (mCall m_common (mCons (mVar 0) (mCons (mVar 1) mNil))) (gN 2)) (sSeq (sIf (asB (mOp2 ltD (mVar 1) (mC (.int 0)))) (sSeq (sAsg (mOp1 negD (mVar 2)) (gN 2)) (fun e st => .nx e st)) (fun e st => .nx e st)) (sSeq (sRet (mTup (mCons (mOp2 fdivD (mVar 0) (mVar 2)) (mCons (mOp2 fdivD (mVar 1) (mVar 2)) mNil)))) (fun e st => .nx e st))))
noncomputable def m_frac : Mean := runD N_frac b_frac
abbrev N_plus : List Str := ["one", "other"]
noncomputable def b_plus : Py.Loc → Store → Fl := (sSeq (sRet (mCall m_frac (mCons (mOp2 addD (mOp2 mulD (mOp2 ixD (mVar 0) (mC (.int 0))) (mOp2 ixD (mVar 1) (mC (.int 1)))) (mOp2 mulD (mOp2 ixD (mVar 1) (mC (.int 0))) (mOp2 ixD (mVar 0) (mC (.int 1))))) (mCons (mOp2 mulD (mOp2 ixD (mVar 0) (mC (.int 1))) (mOp2 ixD (mVar 1) (mC (.int 1)))) mNil)))) (fun e st => .nx e st))
noncomputable def m_plus : Mean := runD N_plus b_plus
abbrev N_half_of : List Str := ["one"]
noncomputable def b_half_of : Py.Loc → Store → Fl := (sSeq (sRet (mCall m_frac (mCons (mOp2 ixD (mVar 0) (mC (.int 0))) (mCons (mOp2 mulD (mC (.int 2)) (mOp2 ixD (mVar 0) (mC (.int 1)))) mNil)))) (fun e st => .nx e st))
noncomputable def m_half_of : Mean := runD N_half_of b_half_of
abbrev N_less : List Str := ["one", "other"]
noncomputable def b_less : Py.Loc → Store → Fl := (sSeq (sRet (mOp2 ltD (mOp2 mulD (mOp2 ixD (mVar 0) (mC (.int 0))) (mOp2 ixD (mVar 1) (mC (.int 1)))) (mOp2 mulD (mOp2 ixD (mVar 1) (mC (.int 0))) (mOp2 ixD (mVar 0) (mC (.int 1)))))) (fun e st => .nx e st))
noncomputable def m_less : Mean := runD N_less b_less
abbrev N_least_of : List Str := ["some", "found", "one"]
noncomputable def b_least_of : Py.Loc → Store → Fl := (sSeq (sAsg (mOp2 ixD (mVar 0) (mC (.int 0))) (gN 1)) (sSeq (sFor (mIt (mVar 0)) (gN 2) (sSeq (sAsg (mIf (asB (mCall m_less (mCons (mVar 2) (mCons (mVar 1) mNil)))) (mVar 2) (mVar 1)) (gN 1)) (fun e st => .nx e st))) (sSeq (sRet (mVar 1)) (fun e st => .nx e st))))
noncomputable def m_least_of : Mean := runD N_least_of b_least_of
abbrev N_greatest_of : List Str := ["some", "found", "one"]
noncomputable def b_greatest_of : Py.Loc → Store → Fl := (sSeq (sAsg (mOp2 ixD (mVar 0) (mC (.int 0))) (gN 1)) (sSeq (sFor (mIt (mVar 0)) (gN 2) (sSeq (sAsg (mIf (asB (mCall m_less (mCons (mVar 1) (mCons (mVar 2) mNil)))) (mVar 2) (mVar 1)) (gN 1)) (fun e st => .nx e st))) (sSeq (sRet (mVar 1)) (fun e st => .nx e st))))
noncomputable def m_greatest_of : Mean := runD N_greatest_of b_greatest_of
abbrev N_is_net : List Str := ["thing", "at", "row", "one", "other"]
noncomputable def b_is_net : Py.Loc → Store → Fl := (sSeq (sIf (mOr (mNot (asB (mIsi (mVar 0) ["tuple"]))) (mNot (asB (mChain leD leD (mC (.int 1)) (mOpN lenD (mCons (mVar 0) mNil)) (mC (.int 40)))))) (sSeq (sRet (mC (.bl false))) (fun e st => .nx e st)) (fun e st => .nx e st)) (sSeq (sFor (mEn (mVar 0)) (gTp 2 (gCn (gN 1) (gCn (gN 2) gNl))) (sSeq (sIf (asB (mIsi (mVar 2) ["str"])) (sSeq (sIf (asB (mOp2 ninA (mVar 2) (mTup (mCons (mC (.str "goal")) (mCons (mC (.str "lost")) mNil))))) (sSeq (sRet (mC (.bl false))) (fun e st => .nx e st)) (fun e st => .nx e st)) (fun e st => .nx e st)) (sSeq (sIf (mOr (mNot (asB (mIsi (mVar 2) ["tuple"]))) (asB (mOp2 eqD (mVar 2) (mTup mNil)))) (sSeq (sRet (mC (.bl false))) (fun e st => .nx e st)) (sSeq (sIf (mNot (asB (mOpN allD (mCons (mLc (mIt (mVar 2)) (.nm 3) mYes (mCall m_is_within (mCons (mVar 3) (mCons (mOp2 addD (mVar 1) (mC (.int 1))) (mCons (mOp2 subD (mOpN lenD (mCons (mVar 0) mNil)) (mC (.int 1))) mNil)))) [3]) mNil)))) (sSeq (sRet (mC (.bl false))) (fun e st => .nx e st)) (sSeq (sIf (mNot (asB (mOpN allD (mCons (mLc (mZp (mCons (mVar 2) (mCons (mSl (mVar 2) (mP (mC (.int 1))) mNoP) mNil))) (.tp [3, 4]) mYes (mOp2 ltD (mVar 3) (mVar 4)) [3, 4]) mNil)))) (sSeq (sRet (mC (.bl false))) (fun e st => .nx e st)) (fun e st => .nx e st)) (fun e st => .nx e st))) (fun e st => .nx e st))) (fun e st => .nx e st))) (fun e st => .nx e st))) (sSeq (sRet (mC (.bl true))) (fun e st => .nx e st))))
noncomputable def m_is_net : Mean := runD N_is_net b_is_net
abbrev N_check_net : List Str := ["net"]
noncomputable def b_check_net : Py.Loc → Store → Fl := (sSeq (sIf (mNot (asB (mCall m_is_net (mCons (mVar 0) mNil)))) (sSeq (sRaise "BadBoardWays") (fun e st => .nx e st)) (fun e st => .nx e st)) (fun e st => .nx e st))
noncomputable def m_check_net : Mean := runD N_check_net b_check_net
abbrev N_prices_of : List Str := ["net", "found", "at", "some", "one"]
noncomputable def b_prices_of : Py.Loc → Store → Fl := (sSeq (sAsg (mOp2 mulD (mLst (mCons (mC .non) mNil)) (mOpN lenD (mCons (mVar 0) mNil))) (gN 1)) (sSeq (sFor (mRgs (mCons (mOp2 subD (mOpN lenD (mCons (mVar 0) mNil)) (mC (.int 1))) (mCons (mOp1 negD (mC (.int 1))) (mCons (mOp1 negD (mC (.int 1))) mNil)))) (gN 2) (sSeq (sIf (asB (mIsi (mOp2 ixD (mVar 0) (mVar 2)) ["str"])) (sSeq (sAsg (mIf (asB (mOp2 eqD (mOp2 ixD (mVar 0) (mVar 2)) (mC (.str "goal")))) (mTup (mCons (mC (.int 0)) (mCons (mC (.int 1)) mNil))) (mTup (mCons (mC (.int 1)) (mCons (mC (.int 1)) mNil)))) (gSb setD (mVar 1) (mVar 2))) (fun e st => .nx e st)) (sSeq (sAsg (mLc (mIt (mOp2 ixD (mVar 0) (mVar 2))) (.nm 4) mYes (mOp2 ixD (mVar 1) (mVar 4)) [4]) (gN 3)) (sSeq (sAsg (mCall m_half_of (mCons (mCall m_plus (mCons (mCall m_least_of (mCons (mVar 3) mNil)) (mCons (mCall m_greatest_of (mCons (mVar 3) mNil)) mNil))) mNil)) (gSb setD (mVar 1) (mVar 2))) (fun e st => .nx e st)))) (fun e st => .nx e st))) (sSeq (sRet (mVar 1)) (fun e st => .nx e st))))
noncomputable def m_prices_of : Mean := runD N_prices_of b_prices_of
abbrev N_prices : List Str := ["net"]
noncomputable def b_prices : Py.Loc → Store → Fl := (sSeq (sExp (mCall m_check_net (mCons (mVar 0) mNil))) (sSeq (sRet (mOpN tupD (mCons (mCall m_prices_of (mCons (mVar 0) mNil)) mNil))) (fun e st => .nx e st)))
noncomputable def m_prices : Mean := runD N_prices b_prices
abbrev N_toss_chances : List Str := ["net", "found", "at", "some", "one"]
noncomputable def b_toss_chances : Py.Loc → Store → Fl := (sSeq (sExp (mCall m_check_net (mCons (mVar 0) mNil))) (sSeq (sAsg (mOp2 mulD (mLst (mCons (mC .non) mNil)) (mOpN lenD (mCons (mVar 0) mNil))) (gN 1)) (sSeq (sFor (mRgs (mCons (mOp2 subD (mOpN lenD (mCons (mVar 0) mNil)) (mC (.int 1))) (mCons (mOp1 negD (mC (.int 1))) (mCons (mOp1 negD (mC (.int 1))) mNil)))) (gN 2) (sSeq (sIf (asB (mIsi (mOp2 ixD (mVar 0) (mVar 2)) ["str"])) (sSeq (sAsg (mIf (asB (mOp2 eqD (mOp2 ixD (mVar 0) (mVar 2)) (mC (.str "goal")))) (mTup (mCons (mC (.int 1)) (mCons (mC (.int 1)) mNil))) (mTup (mCons (mC (.int 0)) (mCons (mC (.int 1)) mNil)))) (gSb setD (mVar 1) (mVar 2))) (fun e st => .nx e st)) (sSeq (sAsg (mLc (mIt (mOp2 ixD (mVar 0) (mVar 2))) (.nm 4) mYes (mOp2 ixD (mVar 1) (mVar 4)) [4]) (gN 3)) (sSeq (sAsg (mCall m_half_of (mCons (mCall m_plus (mCons (mCall m_least_of (mCons (mVar 3) mNil)) (mCons (mCall m_greatest_of (mCons (mVar 3) mNil)) mNil))) mNil)) (gSb setD (mVar 1) (mVar 2))) (fun e st => .nx e st)))) (fun e st => .nx e st))) (sSeq (sRet (mOpN tupD (mCons (mVar 1) mNil))) (fun e st => .nx e st)))))
noncomputable def m_toss_chances : Mean := runD N_toss_chances b_toss_chances
abbrev N_turned_net : List Str := ["net", "told", "row"]
noncomputable def b_turned_net : Py.Loc → Store → Fl := (sSeq (sExp (mCall m_check_net (mCons (mVar 0) mNil))) (sSeq (sAsg (mDisp [((mC (.str "goal")), (mC (.str "lost"))), ((mC (.str "lost")), (mC (.str "goal")))]) (gN 1)) (sSeq (sRet (mOpN tupD (mCons (mLc (mIt (mVar 0)) (.nm 2) mYes (mIf (asB (mIsi (mVar 2) ["str"])) (mOp2 ixD (mVar 1) (mVar 2)) (mVar 2)) [2]) mNil))) (fun e st => .nx e st))))
noncomputable def m_turned_net : Mean := runD N_turned_net b_turned_net
abbrev N_by_turns : List Str := ["net", "is_mine", "found", "at", "one", "pair"]
noncomputable def b_by_turns : Py.Loc → Store → Fl := (sSeq (sExp (mCall m_check_net (mCons (mVar 0) mNil))) (sSeq (sIf (mNot (asB (mIsi (mVar 1) ["bool"]))) (sSeq (sRaise "BadNumber") (fun e st => .nx e st)) (fun e st => .nx e st)) (sSeq (sAsg (mOp2 mulD (mLst (mCons (mC .non) mNil)) (mOpN lenD (mCons (mVar 0) mNil))) (gN 2)) (sSeq (sFor (mRgs (mCons (mOp2 subD (mOpN lenD (mCons (mVar 0) mNil)) (mC (.int 1))) (mCons (mOp1 negD (mC (.int 1))) (mCons (mOp1 negD (mC (.int 1))) mNil)))) (gN 3) (sSeq (sIf (asB (mIsi (mOp2 ixD (mVar 0) (mVar 3)) ["str"])) (sSeq (sAsg (mTup (mCons (mOp2 eqD (mOp2 ixD (mVar 0) (mVar 3)) (mC (.str "goal"))) (mCons (mOp2 eqD (mOp2 ixD (mVar 0) (mVar 3)) (mC (.str "goal"))) mNil))) (gSb setD (mVar 2) (mVar 3))) (fun e st => .nx e st)) (sSeq (sAsg (mTup (mCons (mOpN anyD (mCons (mLc (mIt (mOp2 ixD (mVar 0) (mVar 3))) (.nm 4) mYes (mOp2 ixD (mOp2 ixD (mVar 2) (mVar 4)) (mC (.int 1))) [4]) mNil)) (mCons (mOpN allD (mCons (mLc (mIt (mOp2 ixD (mVar 0) (mVar 3))) (.nm 4) mYes (mOp2 ixD (mOp2 ixD (mVar 2) (mVar 4)) (mC (.int 0))) [4]) mNil)) mNil))) (gSb setD (mVar 2) (mVar 3))) (fun e st => .nx e st))) (fun e st => .nx e st))) (sSeq (sRet (mOpN tupD (mCons (mLc (mIt (mVar 2)) (.nm 5) mYes (mIf (asB (mVar 1)) (mOp2 ixD (mVar 5) (mC (.int 0))) (mOp2 ixD (mVar 5) (mC (.int 1)))) [5]) mNil))) (fun e st => .nx e st))))))
noncomputable def m_by_turns : Mean := runD N_by_turns b_by_turns
abbrev N_ladder : List Str := ["many", "rows", "keys", "up", "down", "total", "key"]
noncomputable def b_ladder : Py.Loc → Store → Fl := (sSeq (sIf (mNot (asB (mCall m_is_within (mCons (mVar 0) (mCons (mC (.int 1)) (mCons (mC (.int 5)) mNil)))))) (sSeq (sRaise "BadNumber") (fun e st => .nx e st)) (fun e st => .nx e st)) (sSeq (sPar2 1 2 (mCons (mLst mNil) (mCons (mLc2 (mRgs (mCons (mOp2 mulD (mC (.int 2)) (mVar 0)) mNil)) (.nm 5) mYes (mRgs (mCons (mOp2 addD (mVar 0) (mC (.int 1))) mNil)) (.nm 3) mYes (mTup (mCons (mVar 3) (mCons (mOp2 subD (mVar 5) (mVar 3)) mNil))) [5, 3] [3]) mNil))) (sSeq (sAsg (mLc (mIt (mVar 2)) (.nm 6) (asB (mChain leD leD (mC (.int 0)) (mOp2 ixD (mVar 6) (mC (.int 1))) (mVar 0))) (mVar 6) [6]) (gN 2)) (sSeq (sFor (mIt (mVar 2)) (gTp 2 (gCn (gN 3) (gCn (gN 4) gNl))) (sSeq (sIf (mOr (asB (mOp2 eqD (mVar 3) (mVar 0))) (asB (mOp2 eqD (mVar 4) (mVar 0)))) (sSeq (sExp (mMt appD (mVar 1) (mCons (mIf (asB (mOp2 eqD (mVar 3) (mVar 0))) (mC (.str "goal")) (mC (.str "lost"))) mNil))) (fun e st => .nx e st)) (sSeq (sExp (mMt appD (mVar 1) (mCons (mOpN tupD (mCons (mOpN sortD (mCons (mLst (mCons (mMt idxD (mVar 2) (mCons (mTup (mCons (mOp2 addD (mVar 3) (mC (.int 1))) (mCons (mVar 4) mNil))) mNil)) (mCons (mMt idxD (mVar 2) (mCons (mTup (mCons (mVar 3) (mCons (mOp2 addD (mVar 4) (mC (.int 1))) mNil))) mNil)) mNil))) mNil)) mNil)) mNil))) (fun e st => .nx e st))) (fun e st => .nx e st))) (sSeq (sRet (mOpN tupD (mCons (mVar 1) mNil))) (fun e st => .nx e st))))))
noncomputable def m_ladder : Mean := runD N_ladder b_ladder
abbrev N__law_hand : List Str := ["script", "cells", "cell"]
noncomputable def b__law_hand : Py.Loc → Store → Fl := (sSeq (sAsg (mLc (mIt (mSl (mVar 0) mNoP (mP (mC (.int 63))))) (.nm 2) mYes (mOpN absD (mCons (mOpN intD (mCons (mVar 2) mNil)) mNil)) [2]) (gN 1)) (sSeq (sRet (mLst (mCons (mVar 1) (mCons (mC (.int 0)) (mCons (mC (.int 0)) (mCons (mOp2 addD (mC (.int 61)) (mOp2 mulD (mC (.int 7)) (mOpN lenD (mCons (mVar 1) mNil)))) (mCons (mC (.int 0)) mNil))))))) (fun e st => .nx e st)))
noncomputable def m__law_hand : Mean := runD N__law_hand b__law_hand
abbrev N__law_draw : List Str := ["hand", "many", "cell", "digit", "number"]
noncomputable def b__law_draw : Py.Loc → Store → Fl := (sSeq (sIf (mAnd (asB (mOp2 eqD (mOp2 ixD (mVar 0) (mC (.int 2))) (mC (.int 0)))) (asB (mOp2 ltD (mOp2 ixD (mVar 0) (mC (.int 1))) (mOpN lenD (mCons (mOp2 ixD (mVar 0) (mC (.int 0))) mNil))))) (sSeq (sAsg (mOp2 ixD (mOp2 ixD (mVar 0) (mC (.int 0))) (mOp2 ixD (mVar 0) (mC (.int 1)))) (gN 2)) (sSeq (sAsg (mOp2 addD (mOp2 ixD (mVar 0) (mC (.int 1))) (mC (.int 1))) (gSb setD (mVar 0) (mC (.int 1)))) (sSeq (sAsg (mOp2 modD (mOpN intD (mCons (mOp2 addD (mOp2 addD (mOp2 mulD (mOp2 ixD (mVar 0) (mC (.int 3))) (mC (.int 69621))) (mOp2 mulD (mVar 2) (mC (.int 40692)))) (mC (.int 23))) mNil)) (mC (.int 2147483629))) (gSb setD (mVar 0) (mC (.int 3)))) (sSeq (sIf (asB (mOp2 geD (mVar 2) (mOp2 powD (mC (.int 10)) (mC (.int 18))))) (sSeq (sAsg (mVar 2) (gSb setD (mVar 0) (mC (.int 2)))) (fun e st => .nx e st)) (fun e st => .nx e st)) (fun e st => .nx e st))))) (fun e st => .nx e st)) (sSeq (sIf (asB (mOp2 gtD (mOp2 ixD (mVar 0) (mC (.int 2))) (mC (.int 0)))) (sSeq (sAsg (mOp2 modD (mOpN intD (mCons (mOp2 ixD (mVar 0) (mC (.int 2))) mNil)) (mVar 1)) (gN 3)) (sSeq (sAsg (mOp2 fdivD (mOp2 ixD (mVar 0) (mC (.int 2))) (mVar 1)) (gSb setD (mVar 0) (mC (.int 2)))) (sSeq (sRet (mVar 3)) (fun e st => .nx e st)))) (fun e st => .nx e st)) (sSeq (sAsg (mOp2 addD (mOp2 ixD (mVar 0) (mC (.int 4))) (mC (.int 1))) (gSb setD (mVar 0) (mC (.int 4)))) (sSeq (sAsg (mOp2 modD (mOpN intD (mCons (mOp2 mulD (mOpN intD (mCons (mOp2 addD (mOp2 ixD (mVar 0) (mC (.int 3))) (mOp2 mulD (mC (.int 7919)) (mOp2 ixD (mVar 0) (mC (.int 4))))) mNil)) (mC (.int 48271))) mNil)) (mC (.int 2147483647))) (gN 4)) (sSeq (sAsg (mOp2 modD (mOpN intD (mCons (mOp2 mulD (mVar 4) (mOp2 addD (mOp2 fdivD (mVar 4) (mC (.int 1009))) (mC (.int 69621)))) mNil)) (mC (.int 2147483647))) (gN 4)) (sSeq (sAsg (mOp2 modD (mOpN intD (mCons (mOp2 mulD (mVar 4) (mOp2 addD (mOp2 fdivD (mVar 4) (mC (.int 2003))) (mC (.int 40014)))) mNil)) (mC (.int 2147483563))) (gN 4)) (sSeq (sRet (mOp2 modD (mOpN intD (mCons (mOp2 fdivD (mVar 4) (mC (.int 16))) mNil)) (mVar 1))) (fun e st => .nx e st))))))))
noncomputable def m__law_draw : Mean := runD N__law_draw b__law_draw
abbrev N__law_any : List Str := ["hand", "some"]
noncomputable def b__law_any : Py.Loc → Store → Fl := (sSeq (sRet (mOp2 ixD (mVar 1) (mCall m__law_draw (mCons (mVar 0) (mCons (mOpN lenD (mCons (mVar 1) mNil)) mNil))))) (fun e st => .nx e st))
noncomputable def m__law_any : Mean := runD N__law_any b__law_any
abbrev N__law_is : List Str := ["answer", "due", "one", "other"]
noncomputable def b__law_is (m : Mean) : Py.Loc → Store → Fl := (sSeq (sIf (mOr (asB (mOp2 isD2 (mVar 1) (mC .non))) (asB (mOp2 isD2 (mVar 0) (mC .non)))) (sSeq (sRet (mAndV (mOp2 isD2 (mVar 1) (mC .non)) (mOp2 isD2 (mVar 0) (mC .non)))) (fun e st => .nx e st)) (fun e st => .nx e st)) (sSeq (sIf (asB (mIsi (mVar 1) ["tuple", "list"])) (sSeq (sIf (mOr (asB (mOp2 neD (mIsi (mVar 0) ["tuple"]) (mIsi (mVar 1) ["tuple"]))) (asB (mOp2 neD (mIsi (mVar 0) ["list"]) (mIsi (mVar 1) ["list"])))) (sSeq (sRet (mC (.bl false))) (fun e st => .nx e st)) (fun e st => .nx e st)) (sSeq (sRet (mAndV (mOp2 eqD (mOpN lenD (mCons (mVar 0) mNil)) (mOpN lenD (mCons (mVar 1) mNil))) (mOpN allD (mCons (mLc (mZp (mCons (mVar 0) (mCons (mVar 1) mNil))) (.tp [2, 3]) mYes (mCall m (mCons (mVar 2) (mCons (mVar 3) mNil))) [2, 3]) mNil)))) (fun e st => .nx e st))) (fun e st => .nx e st)) (sSeq (sIf (mOr (asB (mOp2 neD (mIsi (mVar 0) ["bool"]) (mIsi (mVar 1) ["bool"]))) (asB (mOp2 neD (mIsi (mVar 0) ["int"]) (mIsi (mVar 1) ["int"])))) (sSeq (sRet (mC (.bl false))) (fun e st => .nx e st)) (fun e st => .nx e st)) (sSeq (sRet (mAndV (mOp2 eqD (mIsi (mVar 0) ["str"]) (mIsi (mVar 1) ["str"])) (mOp2 eqD (mVar 0) (mVar 1)))) (fun e st => .nx e st)))))
noncomputable def m__law_isF : Nat → Mean
  | 0 => runD N__law_is fun _ _ => .stuck
  | n + 1 => runD N__law_is (b__law_is (m__law_isF n))
abbrev N__law_gcd : List Str := ["a", "b"]
noncomputable def b__law_gcd : Py.Loc → Store → Fl := (sSeq (sPar2 0 1 (mCons (mOpN absD (mCons (mVar 0) mNil)) (mCons (mOpN absD (mCons (mVar 1) mNil)) mNil))) (sSeq (sWh (asB (mOp2 gtD (mVar 1) (mC (.int 0)))) (sSeq (sPar2 0 1 (mCons (mVar 1) (mCons (mOp2 modD (mOpN intD (mCons (mVar 0) mNil)) (mVar 1)) mNil))) (fun e st => .nx e st))) (sSeq (sRet (mVar 0)) (fun e st => .nx e st))))
noncomputable def m__law_gcd : Mean := runD N__law_gcd b__law_gcd
abbrev N__law_frac : List Str := ["n", "d", "g"]
noncomputable def b__law_frac : Py.Loc → Store → Fl := (sSeq (sIf (asB (mOp2 ltD (mVar 1) (mC (.int 0)))) (sSeq (sPar2 0 1 (mCons (mOp2 subD (mC (.int 0)) (mVar 0)) (mCons (mOp2 subD (mC (.int 0)) (mVar 1)) mNil))) (fun e st => .nx e st)) (fun e st => .nx e st)) (sSeq (sAsg (mCall m__law_gcd (mCons (mVar 0) (mCons (mVar 1) mNil))) (gN 2)) (sSeq (sRet (mTup (mCons (mOp2 fdivD (mVar 0) (mVar 2)) (mCons (mOp2 fdivD (mVar 1) (mVar 2)) mNil)))) (fun e st => .nx e st))))
noncomputable def m__law_frac : Mean := runD N__law_frac b__law_frac
abbrev N__law_add : List Str := ["p", "q"]
noncomputable def b__law_add : Py.Loc → Store → Fl := (sSeq (sRet (mCall m__law_frac (mCons (mOp2 addD (mOp2 mulD (mOp2 ixD (mVar 0) (mC (.int 0))) (mOp2 ixD (mVar 1) (mC (.int 1)))) (mOp2 mulD (mOp2 ixD (mVar 1) (mC (.int 0))) (mOp2 ixD (mVar 0) (mC (.int 1))))) (mCons (mOp2 mulD (mOp2 ixD (mVar 0) (mC (.int 1))) (mOp2 ixD (mVar 1) (mC (.int 1)))) mNil)))) (fun e st => .nx e st))
noncomputable def m__law_add : Mean := runD N__law_add b__law_add
abbrev N__law_less : List Str := ["p", "q"]
noncomputable def b__law_less : Py.Loc → Store → Fl := (sSeq (sRet (mOp2 ltD (mOp2 mulD (mOp2 ixD (mVar 0) (mC (.int 0))) (mOp2 ixD (mVar 1) (mC (.int 1)))) (mOp2 mulD (mOp2 ixD (mVar 1) (mC (.int 0))) (mOp2 ixD (mVar 0) (mC (.int 1)))))) (fun e st => .nx e st))
noncomputable def m__law_less : Mean := runD N__law_less b__law_less
abbrev N__law_no_number : List Str := ["hand"]
noncomputable def b__law_no_number : Py.Loc → Store → Fl := (sSeq (sRet (mCall m__law_any (mCons (mVar 0) (mCons (mLst (mCons (mOp1 negD (mC (.int 1))) (mCons (mC .non) (mCons (mC (.bl true)) (mCons (mC (.str "1")) (mCons (mTup (mCons (mC (.int 1)) mNil)) (mCons (mLst (mCons (mC (.int 1)) mNil)) (mCons (mOp1 negD (mOp2 powD (mC (.int 10)) (mC (.int 20)))) mNil)))))))) mNil)))) (fun e st => .nx e st))
noncomputable def m__law_no_number : Mean := runD N__law_no_number b__law_no_number
abbrev N__law_net_of : List Str := ["hand", "most_of", "many", "found", "place", "some", "to"]
noncomputable def b__law_net_of : Py.Loc → Store → Fl := (sSeq (sPar2 2 3 (mCons (mOp2 addD (mC (.int 1)) (mCall m__law_draw (mCons (mVar 0) (mCons (mVar 1) mNil)))) (mCons (mLst mNil) mNil))) (sSeq (sFor (mRgs (mCons (mVar 2) mNil)) (gN 4) (sSeq (sAsg (mOpN tupD (mCons (mLc (mRgs (mCons (mOp2 addD (mVar 4) (mC (.int 1))) (mCons (mVar 2) mNil))) (.nm 6) (asB (mOp2 eqD (mCall m__law_draw (mCons (mVar 0) (mCons (mC (.int 2)) mNil))) (mC (.int 0)))) (mVar 6) [6]) mNil)) (gN 5)) (sSeq (sExp (mMt appD (mVar 3) (mCons (mIf (asB (mOp2 gtD (mOpN lenD (mCons (mVar 5) mNil)) (mC (.int 0)))) (mVar 5) (mCall m__law_any (mCons (mVar 0) (mCons (mLst (mCons (mC (.str "goal")) (mCons (mC (.str "lost")) mNil))) mNil)))) mNil))) (fun e st => .nx e st)))) (sSeq (sRet (mOpN tupD (mCons (mVar 3) mNil))) (fun e st => .nx e st))))
noncomputable def m__law_net_of : Mean := runD N__law_net_of b__law_net_of
abbrev N__law_half : List Str := ["one", "other", "total"]
noncomputable def b__law_half : Py.Loc → Store → Fl := (sSeq (sAsg (mCall m__law_add (mCons (mVar 0) (mCons (mVar 1) mNil))) (gN 2)) (sSeq (sRet (mCall m__law_frac (mCons (mOp2 ixD (mVar 2) (mC (.int 0))) (mCons (mOp2 mulD (mC (.int 2)) (mOp2 ixD (mVar 2) (mC (.int 1)))) mNil)))) (fun e st => .nx e st)))
noncomputable def m__law_half : Mean := runD N__law_half b__law_half
abbrev N__law_chances : List Str := ["net", "found", "place", "low", "high", "to"]
noncomputable def b__law_chances : Py.Loc → Store → Fl := (sSeq (sAsg (mOp2 mulD (mLst (mCons (mC .non) mNil)) (mOpN lenD (mCons (mVar 0) mNil))) (gN 1)) (sSeq (sFor (mRgs (mCons (mOp2 subD (mOpN lenD (mCons (mVar 0) mNil)) (mC (.int 1))) (mCons (mOp1 negD (mC (.int 1))) (mCons (mOp1 negD (mC (.int 1))) mNil)))) (gN 2) (sSeq (sIf (asB (mOp2 inA2 (mOp2 ixD (mVar 0) (mVar 2)) (mTup (mCons (mC (.str "goal")) (mCons (mC (.str "lost")) mNil))))) (sSeq (sAsg (mTup (mCons (mOpN intD (mCons (mOp2 eqD (mOp2 ixD (mVar 0) (mVar 2)) (mC (.str "goal"))) mNil)) (mCons (mC (.int 1)) mNil))) (gSb setD (mVar 1) (mVar 2))) (fun e st => .nx e st)) (sSeq (sPar2 3 4 (mCons (mOp2 ixD (mVar 1) (mOp2 ixD (mOp2 ixD (mVar 0) (mVar 2)) (mC (.int 0)))) (mCons (mOp2 ixD (mVar 1) (mOp2 ixD (mOp2 ixD (mVar 0) (mVar 2)) (mC (.int 0)))) mNil))) (sSeq (sFor (mIt (mOp2 ixD (mVar 0) (mVar 2))) (gN 5) (sSeq (sAsg (mIf (asB (mCall m__law_less (mCons (mOp2 ixD (mVar 1) (mVar 5)) (mCons (mVar 3) mNil)))) (mOp2 ixD (mVar 1) (mVar 5)) (mVar 3)) (gN 3)) (sSeq (sAsg (mIf (asB (mCall m__law_less (mCons (mVar 4) (mCons (mOp2 ixD (mVar 1) (mVar 5)) mNil)))) (mOp2 ixD (mVar 1) (mVar 5)) (mVar 4)) (gN 4)) (fun e st => .nx e st)))) (sSeq (sAsg (mCall m__law_half (mCons (mVar 3) (mCons (mVar 4) mNil))) (gSb setD (mVar 1) (mVar 2))) (fun e st => .nx e st))))) (fun e st => .nx e st))) (sSeq (sRet (mOpN tupD (mCons (mVar 1) mNil))) (fun e st => .nx e st))))
noncomputable def m__law_chances : Mean := runD N__law_chances b__law_chances
abbrev N__law_turns : List Str := ["net", "found", "place", "to"]
noncomputable def b__law_turns : Py.Loc → Store → Fl := (sSeq (sAsg (mOp2 mulD (mLst (mCons (mC .non) mNil)) (mOpN lenD (mCons (mVar 0) mNil))) (gN 1)) (sSeq (sFor (mRgs (mCons (mOp2 subD (mOpN lenD (mCons (mVar 0) mNil)) (mC (.int 1))) (mCons (mOp1 negD (mC (.int 1))) (mCons (mOp1 negD (mC (.int 1))) mNil)))) (gN 2) (sSeq (sIf (asB (mOp2 inA2 (mOp2 ixD (mVar 0) (mVar 2)) (mTup (mCons (mC (.str "goal")) (mCons (mC (.str "lost")) mNil))))) (sSeq (sAsg (mTup (mCons (mOp2 eqD (mOp2 ixD (mVar 0) (mVar 2)) (mC (.str "goal"))) (mCons (mOp2 eqD (mOp2 ixD (mVar 0) (mVar 2)) (mC (.str "goal"))) mNil))) (gSb setD (mVar 1) (mVar 2))) (fun e st => .nx e st)) (sSeq (sAsg (mTup (mCons (mOpN anyD (mCons (mLc (mIt (mOp2 ixD (mVar 0) (mVar 2))) (.nm 3) mYes (mOp2 ixD (mOp2 ixD (mVar 1) (mVar 3)) (mC (.int 1))) [3]) mNil)) (mCons (mOpN allD (mCons (mLc (mIt (mOp2 ixD (mVar 0) (mVar 2))) (.nm 3) mYes (mOp2 ixD (mOp2 ixD (mVar 1) (mVar 3)) (mC (.int 0))) [3]) mNil)) mNil))) (gSb setD (mVar 1) (mVar 2))) (fun e st => .nx e st))) (fun e st => .nx e st))) (sSeq (sRet (mVar 1)) (fun e st => .nx e st))))
noncomputable def m__law_turns : Mean := runD N__law_turns b__law_turns
abbrev N__law_is_right : List Str := ["net", "chances", "turns", "less_v", "other", "told", "back", "due", "top", "bottom", "one"]
noncomputable def b__law_is_right : Py.Loc → Store → Fl := (sSeq (sPar2 1 2 (mCons (mCall m__law_chances (mCons (mVar 0) mNil)) (mCons (mCall m__law_turns (mCons (mVar 0) mNil)) mNil))) (sSeq (sAsg (mOpN tupD (mCons (mLc (mIt (mVar 1)) (.tp [8, 9]) mYes (mTup (mCons (mOp2 subD (mVar 9) (mVar 8)) (mCons (mVar 9) mNil))) [8, 9]) mNil)) (gN 3)) (sSeq (sIf (mNot (asB (mCall (m__law_isF 5) (mCons (mLst (mCons (mCall m_toss_chances (mCons (mVar 0) mNil)) (mCons (mCall m_prices (mCons (mVar 0) mNil)) mNil))) (mCons (mLst (mCons (mVar 1) (mCons (mVar 3) mNil))) mNil))))) (sSeq (sRet (mC (.bl false))) (fun e st => .nx e st)) (fun e st => .nx e st)) (sSeq (sAsg (mOpN tupD (mCons (mLc (mIt (mVar 0)) (.nm 10) mYes (mIf (asB (mIsi (mVar 10) ["str"])) (mOp2 ixD (mDisp [((mC (.str "goal")), (mC (.str "lost"))), ((mC (.str "lost")), (mC (.str "goal")))]) (mVar 10)) (mVar 10)) [10]) mNil)) (gN 4)) (sSeq (sIf (mNot (asB (mCall (m__law_isF 5) (mCons (mLst (mCons (mCall m_turned_net (mCons (mVar 0) mNil)) (mCons (mCall m_turned_net (mCons (mVar 4) mNil)) (mCons (mCall m_prices (mCons (mVar 4) mNil)) (mCons (mCall m_is_net (mCons (mVar 0) mNil)) mNil))))) (mCons (mLst (mCons (mVar 4) (mCons (mVar 0) (mCons (mVar 1) (mCons (mC (.bl true)) mNil))))) mNil))))) (sSeq (sRet (mC (.bl false))) (fun e st => .nx e st)) (fun e st => .nx e st)) (sSeq (sAsg (mLst (mCons (mCall m_by_turns (mCons (mVar 0) (mCons (mC (.bl true)) mNil))) (mCons (mCall m_by_turns (mCons (mVar 0) (mCons (mC (.bl false)) mNil))) mNil))) (gN 5)) (sSeq (sIf (mNot (asB (mCall (m__law_isF 5) (mCons (mVar 5) (mCons (mLst (mCons (mOpN tupD (mCons (mLc (mIt (mVar 2)) (.nm 10) mYes (mOp2 ixD (mVar 10) (mC (.int 0))) [10]) mNil)) (mCons (mOpN tupD (mCons (mLc (mIt (mVar 2)) (.nm 10) mYes (mOp2 ixD (mVar 10) (mC (.int 1))) [10]) mNil)) mNil))) mNil))))) (sSeq (sRet (mC (.bl false))) (fun e st => .nx e st)) (fun e st => .nx e st)) (sSeq (sAsg (mLst (mCons (mCall m_by_turns (mCons (mVar 4) (mCons (mC (.bl true)) mNil))) (mCons (mCall m_by_turns (mCons (mVar 4) (mCons (mC (.bl false)) mNil))) mNil))) (gN 6)) (sSeq (sAsg (mLst (mCons (mOpN tupD (mCons (mLc (mIt (mVar 2)) (.nm 10) mYes (mNotV (mOp2 ixD (mVar 10) (mC (.int 1)))) [10]) mNil)) (mCons (mOpN tupD (mCons (mLc (mIt (mVar 2)) (.nm 10) mYes (mNotV (mOp2 ixD (mVar 10) (mC (.int 0)))) [10]) mNil)) mNil))) (gN 7)) (sSeq (sRet (mCall (m__law_isF 5) (mCons (mVar 6) (mCons (mVar 7) mNil)))) (fun e st => .nx e st)))))))))))
noncomputable def m__law_is_right : Mean := runD N__law_is_right b__law_is_right
abbrev N__law_ladder : List Str := ["many", "rows", "won", "found", "spot", "played", "lost", "at", "row"]
noncomputable def b__law_ladder : Py.Loc → Store → Fl := (sSeq (sAsg (mLst mNil) (gN 1)) (sSeq (sFor (mRgs (mCons (mOp2 addD (mVar 0) (mC (.int 1))) mNil)) (gN 2) (sSeq (sExp (mMt extD (mVar 1) (mCons (mLc (mRgs (mCons (mOp2 addD (mVar 0) (mC (.int 1))) mNil)) (.nm 6) (asB (mOp2 ltD (mOp2 addD (mVar 2) (mVar 6)) (mOp2 mulD (mC (.int 2)) (mVar 0)))) (mTup (mCons (mOp2 addD (mVar 2) (mVar 6)) (mCons (mVar 2) (mCons (mVar 6) mNil)))) [6]) mNil))) (fun e st => .nx e st))) (sSeq (sPar2 1 3 (mCons (mOpN sortD (mCons (mVar 1) mNil)) (mCons (mLst mNil) mNil))) (sSeq (sAsg (mOpN dictTD (mCons (mLc (mEn (mVar 1)) (.tp [7, 8]) mYes (mTup (mCons (mVar 8) (mCons (mVar 7) mNil))) [7, 8]) mNil)) (gN 4)) (sSeq (sFor (mIt (mVar 1)) (gTp 3 (gCn (gN 5) (gCn (gN 2) (gCn (gN 6) gNl)))) (sSeq (sIf (mOr (asB (mOp2 eqD (mVar 2) (mVar 0))) (asB (mOp2 eqD (mVar 6) (mVar 0)))) (sSeq (sExp (mMt appD (mVar 3) (mCons (mIf (asB (mOp2 eqD (mVar 2) (mVar 0))) (mC (.str "goal")) (mC (.str "lost"))) mNil))) (fun e st => .nx e st)) (sSeq (sExp (mMt appD (mVar 3) (mCons (mOpN tupD (mCons (mOpN sortD (mCons (mLst (mCons (mOp2 ixD (mVar 4) (mTup (mCons (mOp2 addD (mVar 5) (mC (.int 1))) (mCons (mOp2 addD (mVar 2) (mC (.int 1))) (mCons (mVar 6) mNil))))) (mCons (mOp2 ixD (mVar 4) (mTup (mCons (mOp2 addD (mVar 5) (mC (.int 1))) (mCons (mVar 2) (mCons (mOp2 addD (mVar 6) (mC (.int 1))) mNil))))) mNil))) mNil)) mNil)) mNil))) (fun e st => .nx e st))) (fun e st => .nx e st))) (sSeq (sRet (mTup (mCons (mOpN tupD (mCons (mVar 3) mNil)) (mCons (mVar 1) mNil)))) (fun e st => .nx e st)))))))
noncomputable def m__law_ladder : Mean := runD N__law_ladder b__law_ladder
abbrev N__law_rounds : List Str := ["many", "won", "lost", "left", "need", "row", "turn", "one", "other"]
noncomputable def b__law_rounds : Py.Loc → Store → Fl := (sSeq (sPar2 3 4 (mCons (mOp2 subD (mOp2 subD (mOp2 subD (mOp2 mulD (mC (.int 2)) (mVar 0)) (mC (.int 1))) (mVar 1)) (mVar 2)) (mCons (mOp2 subD (mVar 0) (mVar 1)) mNil))) (sSeq (sAsg (mLst (mCons (mC (.int 1)) mNil)) (gN 5)) (sSeq (sFor (mRgs (mCons (mVar 3) mNil)) (gN 6) (sSeq (sAsg (mLc (mZp (mCons (mOp2 addD (mVar 5) (mLst (mCons (mC (.int 0)) mNil))) (mCons (mOp2 addD (mLst (mCons (mC (.int 0)) mNil)) (mVar 5)) mNil))) (.tp [7, 8]) mYes (mOp2 addD (mVar 7) (mVar 8)) [7, 8]) (gN 5)) (fun e st => .nx e st))) (sSeq (sRet (mCall m__law_frac (mCons (mOpN sumD (mCons (mSl (mVar 5) (mP (mVar 4)) mNoP) mNil)) (mCons (mOpN sumD (mCons (mVar 5) mNil)) mNil)))) (fun e st => .nx e st)))))
noncomputable def m__law_rounds : Mean := runD N__law_rounds b__law_rounds
abbrev N_law : List Str := ["script", "hand", "turn", "many", "net", "rows", "due", "played", "won", "lost", "some", "bad", "words"]
noncomputable def b_law : Py.Loc → Store → Fl := (sSeq (sAsg (mCall m__law_hand (mCons (mVar 0) mNil)) (gN 1)) (sSeq (sFor (mRgs (mCons (mC (.int 6)) mNil)) (gN 2) (sSeq (sIf (mNot (asB (mCall m__law_is_right (mCons (mCall m__law_net_of (mCons (mVar 1) (mCons (mC (.int 9)) mNil))) mNil)))) (sSeq (sRet (mC (.bl false))) (fun e st => .nx e st)) (fun e st => .nx e st)) (fun e st => .nx e st))) (sSeq (sAsg (mOp2 addD (mC (.int 1)) (mCall m__law_draw (mCons (mVar 1) (mCons (mC (.int 5)) mNil)))) (gN 3)) (sSeq (sAsg (mCall m__law_ladder (mCons (mVar 3) mNil)) (gTp 2 (gCn (gN 4) (gCn (gN 5) gNl)))) (sSeq (sIf (mOr (mNot (asB (mCall (m__law_isF 5) (mCons (mCall m_ladder (mCons (mVar 3) mNil)) (mCons (mVar 4) mNil))))) (mNot (asB (mCall m__law_is_right (mCons (mVar 4) mNil))))) (sSeq (sRet (mC (.bl false))) (fun e st => .nx e st)) (fun e st => .nx e st)) (sSeq (sAsg (mLst mNil) (gN 6)) (sSeq (sFor (mIt (mVar 5)) (gTp 3 (gCn (gN 7) (gCn (gN 8) (gCn (gN 9) gNl)))) (sSeq (sExp (mMt appD (mVar 6) (mCons (mIf (asB (mOp2 inA2 (mVar 3) (mTup (mCons (mVar 8) (mCons (mVar 9) mNil))))) (mTup (mCons (mOpN intD (mCons (mOp2 eqD (mVar 8) (mVar 3)) mNil)) (mCons (mC (.int 1)) mNil))) (mCall m__law_rounds (mCons (mVar 3) (mCons (mVar 8) (mCons (mVar 9) mNil))))) mNil))) (fun e st => .nx e st))) (sSeq (sIf (mNot (asB (mCall (m__law_isF 5) (mCons (mCall m_toss_chances (mCons (mVar 4) mNil)) (mCons (mOpN tupD (mCons (mVar 6) mNil)) mNil))))) (sSeq (sRet (mC (.bl false))) (fun e st => .nx e st)) (fun e st => .nx e st)) (sSeq (sAsg (mLst (mCons (mC .non) (mCons (mTup mNil) (mCons (mLst (mCons (mC (.str "goal")) mNil)) (mCons (mTup (mCons (mC (.str "Goal")) mNil)) (mCons (mTup (mCons (mTup mNil) mNil)) (mCons (mTup (mCons (mTup (mCons (mC (.int 0)) mNil)) mNil)) (mCons (mTup (mCons (mTup (mCons (mC (.int 1)) mNil)) mNil)) (mCons (mTup (mCons (mTup (mCons (mC (.int 1)) (mCons (mC (.int 1)) mNil))) (mCons (mC (.str "goal")) mNil))) (mCons (mC (.int 0)) (mCons (mOp2 mulD (mTup (mCons (mC (.str "goal")) mNil)) (mC (.int 41))) mNil))))))))))) (gN 10)) (sSeq (sAsg (mCall m__law_any (mCons (mVar 1) (mCons (mOp2 addD (mVar 10) (mLst (mCons (mTup (mCons (mC .non) mNil)) mNil))) mNil))) (gN 11)) (sSeq (sAsg (mLst (mCons (mWord tblW (mCall m_toss_chances (mCons (mVar 11) mNil))) mNil)) (gN 12)) (sSeq (sExp (mMt appD (mVar 12) (mCons (mWord tblW (mCall m_prices (mCons (mVar 11) mNil))) mNil))) (sSeq (sExp (mMt appD (mVar 12) (mCons (mWord tblW (mCall m_turned_net (mCons (mVar 11) mNil))) mNil))) (sSeq (sExp (mMt appD (mVar 12) (mCons (mWord tblW (mCall m_by_turns (mCons (mVar 11) (mCons (mC (.bl true)) mNil)))) mNil))) (sSeq (sExp (mMt appD (mVar 12) (mCons (mWord tblW (mCall m_ladder (mCons (mCall m__law_any (mCons (mVar 1) (mCons (mLst (mCons (mCall m__law_no_number (mCons (mVar 1) mNil)) (mCons (mC (.int 0)) (mCons (mC (.int 6)) mNil)))) mNil))) mNil))) mNil))) (sSeq (sRet (mAndV (mOp2 eqD (mVar 12) (mOp2 addD (mOp2 mulD (mLst (mCons (mC (.str "net")) mNil)) (mC (.int 4))) (mLst (mCons (mC (.str "number")) mNil)))) (mOp2 isD2 (mCall m_is_net (mCons (mVar 11) mNil)) (mC (.bl false))))) (fun e st => .nx e st)))))))))))))))))
noncomputable def m_law : Mean := runD N_law b_law
variable [Tb]
/-- what the text's head tells -/
structure Gx (K : PySem.W.Frag) (mg : Str → Option Value) (A : Ad) (base : Heap) : Prop where
  d_is_integer : Def K mg "is_integer" (top 1) N_is_integer ["thing"]
  d_is_within : Def K mg "is_within" (top 2) N_is_within ["thing", "low", "high"]
  d_common : Def K mg "common" (top 3) N_common ["one", "other"]
  d_frac : Def K mg "frac" (top 4) N_frac ["top", "bottom"]
  d_plus : Def K mg "plus" (top 5) N_plus ["one", "other"]
  d_half_of : Def K mg "half_of" (top 6) N_half_of ["one"]
  d_less : Def K mg "less" (top 7) N_less ["one", "other"]
  d_least_of : Def K mg "least_of" (top 8) N_least_of ["some"]
  d_greatest_of : Def K mg "greatest_of" (top 9) N_greatest_of ["some"]
  d_is_net : Def K mg "is_net" (top 25) N_is_net ["thing"]
  d_check_net : Def K mg "check_net" (top 26) N_check_net ["net"]
  d_prices_of : Def K mg "prices_of" (top 27) N_prices_of ["net"]
  d_prices : Def K mg "prices" (top 28) N_prices ["net"]
  d_toss_chances : Def K mg "toss_chances" (top 29) N_toss_chances ["net"]
  d_turned_net : Def K mg "turned_net" (top 30) N_turned_net ["net"]
  d_by_turns : Def K mg "by_turns" (top 31) N_by_turns ["net", "is_mine"]
  d_ladder : Def K mg "ladder" (top 32) N_ladder ["many"]
  d__law_hand : Def K mg "_law_hand" (top 34) N__law_hand ["script"]
  d__law_draw : Def K mg "_law_draw" (top 35) N__law_draw ["hand", "many"]
  d__law_any : Def K mg "_law_any" (top 36) N__law_any ["hand", "some"]
  d__law_is : Def K mg "_law_is" (top 37) N__law_is ["answer", "due"]
  d__law_gcd : Def K mg "_law_gcd" (top 38) N__law_gcd ["a", "b"]
  d__law_frac : Def K mg "_law_frac" (top 39) N__law_frac ["n", "d"]
  d__law_add : Def K mg "_law_add" (top 40) N__law_add ["p", "q"]
  d__law_less : Def K mg "_law_less" (top 41) N__law_less ["p", "q"]
  d__law_no_number : Def K mg "_law_no_number" (top 43) N__law_no_number ["hand"]
  d__law_net_of : Def K mg "_law_net_of" (top 44) N__law_net_of ["hand", "most_of"]
  d__law_half : Def K mg "_law_half" (top 45) N__law_half ["one", "other"]
  d__law_chances : Def K mg "_law_chances" (top 46) N__law_chances ["net"]
  d__law_turns : Def K mg "_law_turns" (top 47) N__law_turns ["net"]
  d__law_is_right : Def K mg "_law_is_right" (top 48) N__law_is_right ["net"]
  d__law_ladder : Def K mg "_law_ladder" (top 49) N__law_ladder ["many"]
  d__law_rounds : Def K mg "_law_rounds" (top 50) N__law_rounds ["many", "won", "lost"]
  d_law : DefC K mg "law" (top 51) N_law ["script"] A.c_law
  tb_law : LamX.TabB base mg A.c_law A.P_law
  tm_law : (A.P_law, ("law" : Str) ++ ".<locals>." ++ "<lambda>") ∈ Tb.T
  tu_law : ∀ p ∈ Tb.T, p.1 = A.P_law → p.2 = ("law" : Str) ++ ".<locals>." ++ "<lambda>"
  bl : ∀ x ∈ BLs, mg x = none
  gc : ∀ x d, (x, d) ∈ GCs → ∃ u v, mg x = some u ∧ RelV v u ∧ ∀ ρ H, RD K mg ρ H d v
  x_BadBoardWays : ExK K mg "BadBoardWays" A.C_BadBoardWays
  x_BadNumber : ExK K mg "BadNumber" A.C_BadNumber
  d__law_word : Def K mg "_law_word" (top 42) N__law_word ["call"]
  e_BadBoardWays : ExcC K A.C_BadBoardWays
  m_BadBoardWays : PySem.W.exmOne K (.ref A.C_BadBoardWays) (.ref A.C_PlayError) = some true
  e_BadNumber : ExcC K A.C_BadNumber
  m_BadNumber : PySem.W.exmOne K (.ref A.C_BadNumber) (.ref A.C_PlayError) = some true
  g_PlayError : mg "PlayError" = some (.ref A.C_PlayError)
  g_BadBoard : mg "BadBoard" = some (.ref A.C_BadBoard)
  g_BadBoardWays : mg "BadBoardWays" = some (.ref A.C_BadBoardWays)
  g_BadGame : mg "BadGame" = some (.ref A.C_BadGame)
  g_BadNumber : mg "BadNumber" = some (.ref A.C_BadNumber)
  g_BadOrder : mg "BadOrder" = some (.ref A.C_BadOrder)
  g_BadRule : mg "BadRule" = some (.ref A.C_BadRule)
  g_BadStrip : mg "BadStrip" = some (.ref A.C_BadStrip)
  g_BadWays : mg "BadWays" = some (.ref A.C_BadWays)
  g_TooMany : mg "TooMany" = some (.ref A.C_TooMany)
  kt_BadBoardWays_0 : PySem.W.kitOne K (.ref A.C_BadBoardWays) (.ref A.C_BadBoard) = some false
  kt_BadBoardWays_1 : PySem.W.kitOne K (.ref A.C_BadBoardWays) (.ref A.C_BadGame) = some false
  kt_BadBoardWays_2 : PySem.W.kitOne K (.ref A.C_BadBoardWays) (.ref A.C_BadNumber) = some false
  kt_BadBoardWays_3 : PySem.W.kitOne K (.ref A.C_BadBoardWays) (.ref A.C_BadBoardWays) = some true
  kt_BadBoardWays_4 : PySem.W.kitOne K (.ref A.C_BadBoardWays) (.ref A.C_BadOrder) = some false
  kt_BadBoardWays_5 : PySem.W.kitOne K (.ref A.C_BadBoardWays) (.ref A.C_BadRule) = some false
  kt_BadBoardWays_6 : PySem.W.kitOne K (.ref A.C_BadBoardWays) (.ref A.C_BadStrip) = some false
  kt_BadBoardWays_7 : PySem.W.kitOne K (.ref A.C_BadBoardWays) (.ref A.C_BadWays) = some false
  kt_BadBoardWays_8 : PySem.W.kitOne K (.ref A.C_BadBoardWays) (.ref A.C_TooMany) = some false
  kt_BadBoardWays_9 : PySem.W.kitOne K (.ref A.C_BadBoardWays) (.type "ValueError") = some true
  kt_BadNumber_0 : PySem.W.kitOne K (.ref A.C_BadNumber) (.ref A.C_BadBoard) = some false
  kt_BadNumber_1 : PySem.W.kitOne K (.ref A.C_BadNumber) (.ref A.C_BadGame) = some false
  kt_BadNumber_2 : PySem.W.kitOne K (.ref A.C_BadNumber) (.ref A.C_BadNumber) = some true
  kt_BadNumber_3 : PySem.W.kitOne K (.ref A.C_BadNumber) (.ref A.C_BadBoardWays) = some false
  kt_BadNumber_4 : PySem.W.kitOne K (.ref A.C_BadNumber) (.ref A.C_BadOrder) = some false
  kt_BadNumber_5 : PySem.W.kitOne K (.ref A.C_BadNumber) (.ref A.C_BadRule) = some false
  kt_BadNumber_6 : PySem.W.kitOne K (.ref A.C_BadNumber) (.ref A.C_BadStrip) = some false
  kt_BadNumber_7 : PySem.W.kitOne K (.ref A.C_BadNumber) (.ref A.C_BadWays) = some false
  kt_BadNumber_8 : PySem.W.kitOne K (.ref A.C_BadNumber) (.ref A.C_TooMany) = some false
  kt_BadNumber_9 : PySem.W.kitOne K (.ref A.C_BadNumber) (.type "ValueError") = some true
theorem gx_at {K K2 : PySem.W.Frag} {mg mg2 : Str → Option Value} {A : Ad} {base base2 : Heap} (G : Gx K mg A base) (h1 : K2 = K) (h2 : mg2 = mg) (h3 : base2 = base) : Gx K2 mg2 A base2 := by subst h1 h2 h3; exact G
noncomputable abbrev wMw : Py.Loc → Store → R D := mLst (mCons (mC (.str "board")) (mCons (mC (.str "game")) (mCons (mC (.str "number")) (mCons (mC (.str "net")) (mCons (mC (.str "order")) (mCons (mC (.str "rule")) (mCons (mC (.str "strip")) (mCons (mC (.str "ways")) (mCons (mC (.str "many")) mNil)))))))))
theorem wMw_ok (e : Py.Loc) (st : Store) : wMw e st = .ok (.ref st.length) (st ++ [.lst [.str "board", .str "game", .str "number", .str "net", .str "order", .str "rule", .str "strip", .str "ways", .str "many"]]) := lst_of (cons_of rfl (cons_of rfl (cons_of rfl (cons_of rfl (cons_of rfl (cons_of rfl (cons_of rfl (cons_of rfl (one_of rfl))))))))) (by simp)
section
variable {X : Cx} {A : Ad}
theorem suite_ok (G : Gx X.K X.mg A X.base) {W : WX} {a Dx : Addr} {oe : Obj} {pn : List (Addr × Obj)} {b : List Bool} (zu : Cu BLs (X.suite a ((a, oe) :: pn)) N__law_word (defScope (top 42))) (C : ExcC X.K Dx) (hz : Zc (.ref Dx) none oe) (hf : ∃ vs, oe.data = .fields vs) (k0 : PySem.W.kitOne X.K (.ref Dx) (.ref A.C_BadBoard) = some (b.getD 0 false)) (k1 : PySem.W.kitOne X.K (.ref Dx) (.ref A.C_BadGame) = some (b.getD 1 false)) (k2 : PySem.W.kitOne X.K (.ref Dx) (.ref A.C_BadNumber) = some (b.getD 2 false)) (k3 : PySem.W.kitOne X.K (.ref Dx) (.ref A.C_BadBoardWays) = some (b.getD 3 false)) (k4 : PySem.W.kitOne X.K (.ref Dx) (.ref A.C_BadOrder) = some (b.getD 4 false)) (k5 : PySem.W.kitOne X.K (.ref Dx) (.ref A.C_BadRule) = some (b.getD 5 false)) (k6 : PySem.W.kitOne X.K (.ref Dx) (.ref A.C_BadStrip) = some (b.getD 6 false)) (k7 : PySem.W.kitOne X.K (.ref Dx) (.ref A.C_BadWays) = some (b.getD 7 false)) (k8 : PySem.W.kitOne X.K (.ref Dx) (.ref A.C_TooMany) = some (b.getD 8 false)) (k9 : PySem.W.kitOne X.K (.ref Dx) (.type "ValueError") = some (b.getD 9 false)) :
    SSs (X.suite a ((a, oe) :: pn)) W (suiteOf (defBody (top 42))) (wSuite a b wMw fun _ _ => .stuck) := by
  unfold wSuite
  exact (sss_cons (ss_setU zu (se_lst (al_cons (se_isE zu C hz hf (by decide +kernel) (pe_glob (zu.gl (by decide +kernel)).1 G.g_BadBoard (v := .ref A.C_BadBoard) rfl (zu.gl (by decide +kernel)).2) (fun _ h => h) k0 (by decide +kernel)) (al_cons (se_isE zu C hz hf (by decide +kernel) (pe_glob (zu.gl (by decide +kernel)).1 G.g_BadGame (v := .ref A.C_BadGame) rfl (zu.gl (by decide +kernel)).2) (fun _ h => h) k1 (by decide +kernel)) (al_cons (se_isE zu C hz hf (by decide +kernel) (pe_glob (zu.gl (by decide +kernel)).1 G.g_BadNumber (v := .ref A.C_BadNumber) rfl (zu.gl (by decide +kernel)).2) (fun _ h => h) k2 (by decide +kernel)) al_nil))).sa) (by decide +kernel)) (sss_cons (ss_expr (se_app (zu.v (by decide +kernel)) (se_isE zu C hz hf (by decide +kernel) (pe_glob (zu.gl (by decide +kernel)).1 G.g_BadBoardWays (v := .ref A.C_BadBoardWays) rfl (zu.gl (by decide +kernel)).2) (fun _ h => h) k3 (by decide +kernel))) (by rfl)) (sss_cons (ss_setU zu (se_op ok_add (zu.v (by decide +kernel)) (se_lst (al_cons (se_isE zu C hz hf (by decide +kernel) (pe_glob (zu.gl (by decide +kernel)).1 G.g_BadOrder (v := .ref A.C_BadOrder) rfl (zu.gl (by decide +kernel)).2) (fun _ h => h) k4 (by decide +kernel)) (al_cons (se_isE zu C hz hf (by decide +kernel) (pe_glob (zu.gl (by decide +kernel)).1 G.g_BadRule (v := .ref A.C_BadRule) rfl (zu.gl (by decide +kernel)).2) (fun _ h => h) k5 (by decide +kernel)) (al_cons (se_isE zu C hz hf (by decide +kernel) (pe_glob (zu.gl (by decide +kernel)).1 G.g_BadStrip (v := .ref A.C_BadStrip) rfl (zu.gl (by decide +kernel)).2) (fun _ h => h) k6 (by decide +kernel)) al_nil))).sa)) (by decide +kernel)) (sss_cons (ss_setU zu (se_op ok_add (zu.v (by decide +kernel)) (se_lst (al_cons (se_isE zu C hz hf (by decide +kernel) (pe_glob (zu.gl (by decide +kernel)).1 G.g_BadWays (v := .ref A.C_BadWays) rfl (zu.gl (by decide +kernel)).2) (fun _ h => h) k7 (by decide +kernel)) (al_cons (se_isE zu C hz hf (by decide +kernel) (pe_glob (zu.gl (by decide +kernel)).1 G.g_TooMany (v := .ref A.C_TooMany) rfl (zu.gl (by decide +kernel)).2) (fun _ h => h) k8 (by decide +kernel)) al_nil)).sa)) (by decide +kernel)) (sss_cons (ss_setU zu (se_lst (al_cons se_str (al_cons se_str (al_cons se_str (al_cons se_str (al_cons se_str (al_cons se_str (al_cons se_str (al_cons se_str (al_cons se_str al_nil))))))))).sa) (by decide +kernel)) (sss_cons (ss_setU zu (se_ifExp (sw_and (st_cmp (ok_eq (by have := zu.un; omega)) (se_cnt (zu.v (by decide +kernel)) se_bl) se_int (by rfl)) (sw_and1 (st_val (se_isE zu C hz hf (by decide +kernel) (pe_bltn (zu.bn (by decide +kernel)).1 (zu.bn (by decide +kernel)).2.1 (by decide +kernel) rfl (zu.bn (by decide +kernel)).2.2.1 (zu.bn (by decide +kernel)).2.2.2 (v := .ty "ValueError")) (fun _ h => h) k9 (by decide +kernel)) (by rfl)))).pt (zu.ix (zu.v (by decide +kernel)) (se_ixL (zu.v (by decide +kernel)) se_bl)) se_str) (by decide +kernel)) (sss_cons (ss_setU zu (se_ifExp (st_cmp (ok_eq (by have := zu.un; omega)) (zu.v (by decide +kernel)) se_str (by rfl)) se_never (zu.v (by decide +kernel))) (by decide +kernel)) sss_nil)))))))
theorem tbl_mg (G : Gx X.K X.mg A X.base) : ∀ r ∈ tblA A, X.mg r.c = some (.ref r.C) := fun r hr => by
  simp only [tblA, List.mem_cons, List.not_mem_nil, or_false] at hr
  rcases hr with rfl | rfl
  · exact G.x_BadBoardWays.mg
  · exact G.x_BadNumber.mg
theorem W_word {k : Nat} (G : Gx X.K X.mg A X.base) (hr : Room (k + 1) X.A) (q : Str) : WordF X "_law_word" "call" N__law_word (tblA A) q := by
  obtain ⟨g, fd, ⟨⟨oc, od, kV, doc, pm, an, cdv, ct, osl, rfl, lk, hcd⟩, kp⟩, hm, hb⟩ := G.d__law_word.ex
  refine ⟨⟨g, _, _, _, _, kV, doc, pm, cdv, ct, oc, an, od, osl, hm, kp, lk, hcd, hb, G.d__law_word.sc, rfl, .inl (by decide +kernel), word_gives (suite := (suiteOf (defBody (top 42))).tail) (by decide +kernel) rfl rfl rfl (by decide +kernel) (by decide +kernel) (by decide +kernel) (by decide +kernel) (by decide +kernel) G.g_PlayError (by decide +kernel) (fun r hr1 => ?_) (fun r hr1 L => ?_) fun s1 H1 a oe pn r hr2 hz hf => ?_⟩, by decide +kernel, by decide +kernel⟩
  · simp only [tblA, List.mem_cons, List.not_mem_nil, or_false] at hr1
    rcases hr1 with rfl | rfl
    · exact G.m_BadBoardWays
    · exact G.m_BadNumber
  · simp only [tblA, List.mem_cons, List.not_mem_nil, or_false] at hr1
    rcases hr1 with rfl | rfl
    · rfl
    · rfl
  · simp only [tblA, List.mem_cons, List.not_mem_nil, or_false] at hr2
    rcases hr2 with rfl | rfl
    · exact ⟨_, suite_ok (X := (cxOf C8.CX0 X.prog X.w X.K X.mg X.base N__law_word "_law_word" (defScope (top 42)) g cdv X.A X.stack s1 H1 C8.E0).nox) G (b := [false, false, false, true, false, false, false, false, false, true]) ⟨rfl, by decide +kernel, rfl, by have hq := (hr.deeper (envOfC "_law_word" (defScope (top 42)) s1.heap.objs.size g cdv)).un; show (X.A.deeper (envOfC "_law_word" (defScope (top 42)) s1.heap.objs.size g cdv)).units + 65 < cLine; omega, G.bl⟩ G.e_BadBoardWays hz hf G.kt_BadBoardWays_0 G.kt_BadBoardWays_1 G.kt_BadBoardWays_2 G.kt_BadBoardWays_3 G.kt_BadBoardWays_4 G.kt_BadBoardWays_5 G.kt_BadBoardWays_6 G.kt_BadBoardWays_7 G.kt_BadBoardWays_8 G.kt_BadBoardWays_9, wSuite_ok (j := 3) wMw_ok rfl rfl (by decide +kernel) (by decide +kernel) rfl (by decide +kernel) (by decide +kernel) (by decide +kernel)⟩
    · exact ⟨_, suite_ok (X := (cxOf C8.CX0 X.prog X.w X.K X.mg X.base N__law_word "_law_word" (defScope (top 42)) g cdv X.A X.stack s1 H1 C8.E0).nox) G (b := [false, false, true, false, false, false, false, false, false, true]) ⟨rfl, by decide +kernel, rfl, by have hq := (hr.deeper (envOfC "_law_word" (defScope (top 42)) s1.heap.objs.size g cdv)).un; show (X.A.deeper (envOfC "_law_word" (defScope (top 42)) s1.heap.objs.size g cdv)).units + 65 < cLine; omega, G.bl⟩ G.e_BadNumber hz hf G.kt_BadNumber_0 G.kt_BadNumber_1 G.kt_BadNumber_2 G.kt_BadNumber_3 G.kt_BadNumber_4 G.kt_BadNumber_5 G.kt_BadNumber_6 G.kt_BadNumber_7 G.kt_BadNumber_8 G.kt_BadNumber_9, wSuite_ok (j := 2) wMw_ok rfl rfl (by decide +kernel) (by decide +kernel) rfl (by decide +kernel) (by decide +kernel) (by decide +kernel)⟩
end
section
variable {P : Program} {w : World} {K : PySem.W.Frag} {mg : Str → Option Value} {base : Heap} {A : Ad}
theorem S_is_integer (G : Gx K mg A base) (X : Cx) (W : WX) (e1 : X.prog = P) (e2 : X.w = w) (e3 : X.K = K) (e4 : X.mg = mg) (e5 : X.base = base) (z : Cf BLs GCs X W N_is_integer (defScope (top 1)) 0) : SSs X W (defBody (top 1)) b_is_integer := by
  subst e1 e2 e3 e4 e5
  unfold b_is_integer
  exact (sss_cons (ss_ret (se_and (z.isi (z.v (by decide +kernel)) (z.ty (by decide +kernel)) (by decide +kernel)) (se_one (se_not (z.isi (z.v (by decide +kernel)) (z.ty (by decide +kernel)) (by decide +kernel)))))) sss_nil)
theorem F_is_integer (G : Gx K mg A base) : FnD P w K mg base 1 "is_integer" 1 m_is_integer := G.d_is_integer.fn BLs GCs (k := 0) G.bl G.gc (S_is_integer G)
theorem S_is_within (G : Gx K mg A base) (X : Cx) (W : WX) (e1 : X.prog = P) (e2 : X.w = w) (e3 : X.K = K) (e4 : X.mg = mg) (e5 : X.base = base) (z : Cf BLs GCs X W N_is_within (defScope (top 2)) 1) : SSs X W (defBody (top 2)) b_is_within := by
  subst e1 e2 e3 e4 e5
  unfold b_is_within
  exact (sss_cons (ss_ret (se_and (z.call (F_is_integer G) (by omega) (by decide +kernel) (al_cons (z.v (by decide +kernel)) al_nil)) (se_one (se_chain ok_le ok_le (z.v (by decide +kernel)) (z.v (by decide +kernel)) (z.v (by decide +kernel)) (by rfl))))) sss_nil)
theorem F_is_within (G : Gx K mg A base) : FnD P w K mg base 2 "is_within" 3 m_is_within := G.d_is_within.fn BLs GCs (k := 1) G.bl G.gc (S_is_within G)
theorem S_common (G : Gx K mg A base) (X : Cx) (W : WX) (e1 : X.prog = P) (e2 : X.w = w) (e3 : X.K = K) (e4 : X.mg = mg) (e5 : X.base = base) (z : Cf BLs GCs X W N_common (defScope (top 3)) 0) : SSs X W (defBody (top 3)) b_common := by
  subst e1 e2 e3 e4 e5
  unfold b_common
  exact (sss_cons (z.par2 (al_cons (z.abs (z.v (by decide +kernel)) (by decide +kernel)) (al_cons (z.abs (z.v (by decide +kernel)) (by decide +kernel)) al_nil)) (by decide +kernel)) (sss_cons (z.whl (st_cmp ok_gt (z.v (by decide +kernel)) se_int (by rfl)) (sss_cons (z.par2 (al_cons (z.v (by decide +kernel)) (al_cons (se_op ok_mod (z.v (by decide +kernel)) (z.v (by decide +kernel))) al_nil)) (by decide +kernel)) sss_nil)) (sss_cons (ss_ret (z.v (by decide +kernel))) sss_nil)))
theorem F_common (G : Gx K mg A base) : FnD P w K mg base 1 "common" 2 m_common := G.d_common.fn BLs GCs (k := 0) G.bl G.gc (S_common G)
theorem S_frac (G : Gx K mg A base) (X : Cx) (W : WX) (e1 : X.prog = P) (e2 : X.w = w) (e3 : X.K = K) (e4 : X.mg = mg) (e5 : X.base = base) (z : Cf BLs GCs X W N_frac (defScope (top 4)) 1) : SSs X W (defBody (top 4)) b_frac := by
  subst e1 e2 e3 e4 e5
  unfold b_frac
  exact (sss_cons (z.set (z.call (F_common G) (by omega) (by decide +kernel) (al_cons (z.v (by decide +kernel)) (al_cons (z.v (by decide +kernel)) al_nil))) (by decide +kernel)) (sss_cons (ss_if (st_cmp ok_lt (z.v (by decide +kernel)) se_int (by rfl)) (sss_cons (z.set (se_un ok_neg (z.v (by decide +kernel))) (by decide +kernel)) sss_nil) sss_nil) (sss_cons (ss_ret (se_tup (al_cons (se_op ok_fdiv (z.v (by decide +kernel)) (z.v (by decide +kernel))) (al_cons (se_op ok_fdiv (z.v (by decide +kernel)) (z.v (by decide +kernel))) al_nil)).sa)) sss_nil)))
theorem F_frac (G : Gx K mg A base) : FnD P w K mg base 2 "frac" 2 m_frac := G.d_frac.fn BLs GCs (k := 1) G.bl G.gc (S_frac G)
theorem S_plus (G : Gx K mg A base) (X : Cx) (W : WX) (e1 : X.prog = P) (e2 : X.w = w) (e3 : X.K = K) (e4 : X.mg = mg) (e5 : X.base = base) (z : Cf BLs GCs X W N_plus (defScope (top 5)) 2) : SSs X W (defBody (top 5)) b_plus := by
  subst e1 e2 e3 e4 e5
  unfold b_plus
  exact (sss_cons (ss_ret (z.call (F_frac G) (by omega) (by decide +kernel) (al_cons (se_op ok_add (se_op ok_mul (z.ix (z.v (by decide +kernel)) se_int) (z.ix (z.v (by decide +kernel)) se_int)) (se_op ok_mul (z.ix (z.v (by decide +kernel)) se_int) (z.ix (z.v (by decide +kernel)) se_int))) (al_cons (se_op ok_mul (z.ix (z.v (by decide +kernel)) se_int) (z.ix (z.v (by decide +kernel)) se_int)) al_nil)))) sss_nil)
theorem F_plus (G : Gx K mg A base) : FnD P w K mg base 3 "plus" 2 m_plus := G.d_plus.fn BLs GCs (k := 2) G.bl G.gc (S_plus G)
theorem S_half_of (G : Gx K mg A base) (X : Cx) (W : WX) (e1 : X.prog = P) (e2 : X.w = w) (e3 : X.K = K) (e4 : X.mg = mg) (e5 : X.base = base) (z : Cf BLs GCs X W N_half_of (defScope (top 6)) 2) : SSs X W (defBody (top 6)) b_half_of := by
  subst e1 e2 e3 e4 e5
  unfold b_half_of
  exact (sss_cons (ss_ret (z.call (F_frac G) (by omega) (by decide +kernel) (al_cons (z.ix (z.v (by decide +kernel)) se_int) (al_cons (se_op ok_mul se_int (z.ix (z.v (by decide +kernel)) se_int)) al_nil)))) sss_nil)
theorem F_half_of (G : Gx K mg A base) : FnD P w K mg base 3 "half_of" 1 m_half_of := G.d_half_of.fn BLs GCs (k := 2) G.bl G.gc (S_half_of G)
theorem S_less (G : Gx K mg A base) (X : Cx) (W : WX) (e1 : X.prog = P) (e2 : X.w = w) (e3 : X.K = K) (e4 : X.mg = mg) (e5 : X.base = base) (z : Cf BLs GCs X W N_less (defScope (top 7)) 0) : SSs X W (defBody (top 7)) b_less := by
  subst e1 e2 e3 e4 e5
  unfold b_less
  exact (sss_cons (ss_ret (se_cmp ok_lt (se_op ok_mul (z.ix (z.v (by decide +kernel)) se_int) (z.ix (z.v (by decide +kernel)) se_int)) (se_op ok_mul (z.ix (z.v (by decide +kernel)) se_int) (z.ix (z.v (by decide +kernel)) se_int)) (by rfl))) sss_nil)
theorem F_less (G : Gx K mg A base) : FnD P w K mg base 1 "less" 2 m_less := G.d_less.fn BLs GCs (k := 0) G.bl G.gc (S_less G)
theorem S_least_of (G : Gx K mg A base) (X : Cx) (W : WX) (e1 : X.prog = P) (e2 : X.w = w) (e3 : X.K = K) (e4 : X.mg = mg) (e5 : X.base = base) (z : Cf BLs GCs X W N_least_of (defScope (top 8)) 1) : SSs X W (defBody (top 8)) b_least_of := by
  subst e1 e2 e3 e4 e5
  unfold b_least_of
  exact (sss_cons (z.set (z.ix (z.v (by decide +kernel)) se_int) (by decide +kernel)) (sss_cons (z.for_ (pi_any (z.v (by decide +kernel))) (z.tn (by decide +kernel)) (tgt_name _) (sss_cons (z.set (se_ifExp (st_val (z.call (F_less G) (by omega) (by decide +kernel) (al_cons (z.v (by decide +kernel)) (al_cons (z.v (by decide +kernel)) al_nil))) (by rfl)) (z.v (by decide +kernel)) (z.v (by decide +kernel))) (by decide +kernel)) sss_nil)) (sss_cons (ss_ret (z.v (by decide +kernel))) sss_nil)))
theorem F_least_of (G : Gx K mg A base) : FnD P w K mg base 2 "least_of" 1 m_least_of := G.d_least_of.fn BLs GCs (k := 1) G.bl G.gc (S_least_of G)
theorem S_greatest_of (G : Gx K mg A base) (X : Cx) (W : WX) (e1 : X.prog = P) (e2 : X.w = w) (e3 : X.K = K) (e4 : X.mg = mg) (e5 : X.base = base) (z : Cf BLs GCs X W N_greatest_of (defScope (top 9)) 1) : SSs X W (defBody (top 9)) b_greatest_of := by
  subst e1 e2 e3 e4 e5
  unfold b_greatest_of
  exact (sss_cons (z.set (z.ix (z.v (by decide +kernel)) se_int) (by decide +kernel)) (sss_cons (z.for_ (pi_any (z.v (by decide +kernel))) (z.tn (by decide +kernel)) (tgt_name _) (sss_cons (z.set (se_ifExp (st_val (z.call (F_less G) (by omega) (by decide +kernel) (al_cons (z.v (by decide +kernel)) (al_cons (z.v (by decide +kernel)) al_nil))) (by rfl)) (z.v (by decide +kernel)) (z.v (by decide +kernel))) (by decide +kernel)) sss_nil)) (sss_cons (ss_ret (z.v (by decide +kernel))) sss_nil)))
theorem F_greatest_of (G : Gx K mg A base) : FnD P w K mg base 2 "greatest_of" 1 m_greatest_of := G.d_greatest_of.fn BLs GCs (k := 1) G.bl G.gc (S_greatest_of G)
theorem S_is_net (G : Gx K mg A base) (X : Cx) (W : WX) (e1 : X.prog = P) (e2 : X.w = w) (e3 : X.K = K) (e4 : X.mg = mg) (e5 : X.base = base) (z : Cf BLs GCs X W N_is_net (defScope (top 25)) 2) : SSs X W (defBody (top 25)) b_is_net := by
  subst e1 e2 e3 e4 e5
  unfold b_is_net
  exact (sss_cons (ss_if ((sw_or (st_not (st_val (z.isi (z.v (by decide +kernel)) (z.ty (by decide +kernel)) (by decide +kernel)) (by rfl))) (sw_or1 (st_not (st_chain ok_le ok_le se_int (z.len (z.v (by decide +kernel)) (by decide +kernel)) (z.g 0 rfl (by decide +kernel)) (by rfl)))))).pt (sss_cons (ss_ret se_bl) sss_nil) sss_nil) (sss_cons (z.for_ (z.enm (z.v (by decide +kernel)) (by decide +kernel)) (z.tt (sgs_cons (z.tn (by decide +kernel)) (sgs_cons (z.tn (by decide +kernel)) sgs_nil (by rfl)) (by rfl))) (tgt_tup (tgts_cons (tgt_name _) (tgts_cons (tgt_name _) tgts_nil))) (sss_cons (ss_if (st_val (z.isi (z.v (by decide +kernel)) (z.ty (by decide +kernel)) (by decide +kernel)) (by rfl)) (sss_cons (ss_if (st_cmp z.opNin (z.v (by decide +kernel)) (se_tup (al_cons (z.g 1 rfl (by decide +kernel)) (al_cons (z.g 2 rfl (by decide +kernel)) al_nil)).sa) (by rfl)) (sss_cons (ss_ret se_bl) sss_nil) sss_nil) sss_nil) (sss_cons (ss_if ((sw_or (st_not (st_val (z.isi (z.v (by decide +kernel)) (z.ty (by decide +kernel)) (by decide +kernel)) (by rfl))) (sw_or1 (st_cmp (ok_eq z.un) (z.v (by decide +kernel)) (se_tup al_nil.sa) (by rfl))))).pt (sss_cons (ss_ret se_bl) sss_nil) (sss_cons (ss_if (st_not (st_val (z.all (z.lc [(("one" : Str), 3)] (pi_any (z.v (by decide +kernel))) (by decide +kernel) (fun _ _ _ _ _ z => ts_nil) (fun _ _ _ _ _ z => (z.call (F_is_within G) (by omega) (by decide +kernel) (al_cons (z.v (by decide +kernel)) (al_cons (se_op ok_add (z.v (by decide +kernel)) se_int) (al_cons (se_op ok_sub (z.len (z.v (by decide +kernel)) (by decide +kernel)) se_int) al_nil)))))) (by decide +kernel)) (by rfl))) (sss_cons (ss_ret se_bl) sss_nil) (sss_cons (ss_if (st_not (st_val (z.all (z.lc [(("one" : Str), 3), (("other" : Str), 4)] (z.zip (z.v (by decide +kernel)) (se_sl (z.v (by decide +kernel)) (so_some se_int) so_none) (by decide +kernel)) (by decide +kernel) (fun _ _ _ _ _ z => ts_nil) (fun _ _ _ _ _ z => (se_cmp ok_lt (z.v (by decide +kernel)) (z.v (by decide +kernel)) (by rfl)))) (by decide +kernel)) (by rfl))) (sss_cons (ss_ret se_bl) sss_nil) sss_nil) sss_nil)) sss_nil)) sss_nil)) sss_nil)) (sss_cons (ss_ret se_bl) sss_nil)))
theorem F_is_net (G : Gx K mg A base) : FnD P w K mg base 3 "is_net" 1 m_is_net := G.d_is_net.fn BLs GCs (k := 2) G.bl G.gc (S_is_net G)
theorem S_check_net (G : Gx K mg A base) (X : Cx) (W : WX) (e1 : X.prog = P) (e2 : X.w = w) (e3 : X.K = K) (e4 : X.mg = mg) (e5 : X.base = base) (z : Cf BLs GCs X W N_check_net (defScope (top 26)) 3) : SSs X W (defBody (top 26)) b_check_net := by
  subst e1 e2 e3 e4 e5
  unfold b_check_net
  exact (sss_cons (ss_if (st_not (st_val (z.call (F_is_net G) (by omega) (by decide +kernel) (al_cons (z.v (by decide +kernel)) al_nil)) (by rfl))) (sss_cons (z.raise0 G.x_BadBoardWays (by decide +kernel)) sss_nil) sss_nil) sss_nil)
theorem F_check_net (G : Gx K mg A base) : FnD P w K mg base 4 "check_net" 1 m_check_net := G.d_check_net.fn BLs GCs (k := 3) G.bl G.gc (S_check_net G)
theorem S_prices_of (G : Gx K mg A base) (X : Cx) (W : WX) (e1 : X.prog = P) (e2 : X.w = w) (e3 : X.K = K) (e4 : X.mg = mg) (e5 : X.base = base) (z : Cf BLs GCs X W N_prices_of (defScope (top 27)) 3) : SSs X W (defBody (top 27)) b_prices_of := by
  subst e1 e2 e3 e4 e5
  unfold b_prices_of
  exact (sss_cons (z.set (se_op ok_mul (se_lst (al_cons se_non al_nil).sa) (z.len (z.v (by decide +kernel)) (by decide +kernel))) (by decide +kernel)) (sss_cons (z.for_ (z.rg3 (se_op ok_sub (z.len (z.v (by decide +kernel)) (by decide +kernel)) se_int) (se_un ok_neg se_int) (se_un ok_neg se_int) (by decide +kernel)) (z.tn (by decide +kernel)) (tgt_name _) (sss_cons (ss_if (st_val (z.isi (z.ix (z.v (by decide +kernel)) (z.v (by decide +kernel))) (z.ty (by decide +kernel)) (by decide +kernel)) (by rfl)) (sss_cons (z.asg (se_ifExp (st_cmp (ok_eq z.un) (z.ix (z.v (by decide +kernel)) (z.v (by decide +kernel))) (z.g 1 rfl (by decide +kernel)) (by rfl)) (se_tup (al_cons se_int (al_cons se_int al_nil)).sa) (se_tup (al_cons se_int (al_cons se_int al_nil)).sa)) (z.ts (z.v (by decide +kernel)) (z.v (by decide +kernel))) tgt_sub (by rfl) (by decide +kernel)) sss_nil) (sss_cons (z.setLc [(("one" : Str), 4)] (pi_any (z.ix (z.v (by decide +kernel)) (z.v (by decide +kernel)))) (by decide +kernel) (fun _ _ _ _ _ z => ts_nil) (fun _ _ _ _ _ z => (z.ix (z.v (by decide +kernel)) (z.v (by decide +kernel))))) (sss_cons (z.asg (z.call (F_half_of G) (by omega) (by decide +kernel) (al_cons (z.call (F_plus G) (by omega) (by decide +kernel) (al_cons (z.call (F_least_of G) (by omega) (by decide +kernel) (al_cons (z.v (by decide +kernel)) al_nil)) (al_cons (z.call (F_greatest_of G) (by omega) (by decide +kernel) (al_cons (z.v (by decide +kernel)) al_nil)) al_nil))) al_nil)) (z.ts (z.v (by decide +kernel)) (z.v (by decide +kernel))) tgt_sub (by rfl) (by decide +kernel)) sss_nil))) sss_nil)) (sss_cons (ss_ret (z.v (by decide +kernel))) sss_nil)))
theorem F_prices_of (G : Gx K mg A base) : FnD P w K mg base 4 "prices_of" 1 m_prices_of := G.d_prices_of.fn BLs GCs (k := 3) G.bl G.gc (S_prices_of G)
theorem S_prices (G : Gx K mg A base) (X : Cx) (W : WX) (e1 : X.prog = P) (e2 : X.w = w) (e3 : X.K = K) (e4 : X.mg = mg) (e5 : X.base = base) (z : Cf BLs GCs X W N_prices (defScope (top 28)) 4) : SSs X W (defBody (top 28)) b_prices := by
  subst e1 e2 e3 e4 e5
  unfold b_prices
  exact (sss_cons (ss_expr (z.call (F_check_net G) (by omega) (by decide +kernel) (al_cons (z.v (by decide +kernel)) al_nil)) (by rfl)) (sss_cons (ss_ret (z.tuple (z.call (F_prices_of G) (by omega) (by decide +kernel) (al_cons (z.v (by decide +kernel)) al_nil)) (by decide +kernel))) sss_nil))
theorem F_prices (G : Gx K mg A base) : FnD P w K mg base 5 "prices" 1 m_prices := G.d_prices.fn BLs GCs (k := 4) G.bl G.gc (S_prices G)
theorem S_toss_chances (G : Gx K mg A base) (X : Cx) (W : WX) (e1 : X.prog = P) (e2 : X.w = w) (e3 : X.K = K) (e4 : X.mg = mg) (e5 : X.base = base) (z : Cf BLs GCs X W N_toss_chances (defScope (top 29)) 4) : SSs X W (defBody (top 29)) b_toss_chances := by
  subst e1 e2 e3 e4 e5
  unfold b_toss_chances
  exact (sss_cons (ss_expr (z.call (F_check_net G) (by omega) (by decide +kernel) (al_cons (z.v (by decide +kernel)) al_nil)) (by rfl)) (sss_cons (z.set (se_op ok_mul (se_lst (al_cons se_non al_nil).sa) (z.len (z.v (by decide +kernel)) (by decide +kernel))) (by decide +kernel)) (sss_cons (z.for_ (z.rg3 (se_op ok_sub (z.len (z.v (by decide +kernel)) (by decide +kernel)) se_int) (se_un ok_neg se_int) (se_un ok_neg se_int) (by decide +kernel)) (z.tn (by decide +kernel)) (tgt_name _) (sss_cons (ss_if (st_val (z.isi (z.ix (z.v (by decide +kernel)) (z.v (by decide +kernel))) (z.ty (by decide +kernel)) (by decide +kernel)) (by rfl)) (sss_cons (z.asg (se_ifExp (st_cmp (ok_eq z.un) (z.ix (z.v (by decide +kernel)) (z.v (by decide +kernel))) (z.g 1 rfl (by decide +kernel)) (by rfl)) (se_tup (al_cons se_int (al_cons se_int al_nil)).sa) (se_tup (al_cons se_int (al_cons se_int al_nil)).sa)) (z.ts (z.v (by decide +kernel)) (z.v (by decide +kernel))) tgt_sub (by rfl) (by decide +kernel)) sss_nil) (sss_cons (z.setLc [(("one" : Str), 4)] (pi_any (z.ix (z.v (by decide +kernel)) (z.v (by decide +kernel)))) (by decide +kernel) (fun _ _ _ _ _ z => ts_nil) (fun _ _ _ _ _ z => (z.ix (z.v (by decide +kernel)) (z.v (by decide +kernel))))) (sss_cons (z.asg (z.call (F_half_of G) (by omega) (by decide +kernel) (al_cons (z.call (F_plus G) (by omega) (by decide +kernel) (al_cons (z.call (F_least_of G) (by omega) (by decide +kernel) (al_cons (z.v (by decide +kernel)) al_nil)) (al_cons (z.call (F_greatest_of G) (by omega) (by decide +kernel) (al_cons (z.v (by decide +kernel)) al_nil)) al_nil))) al_nil)) (z.ts (z.v (by decide +kernel)) (z.v (by decide +kernel))) tgt_sub (by rfl) (by decide +kernel)) sss_nil))) sss_nil)) (sss_cons (ss_ret (z.tuple (z.v (by decide +kernel)) (by decide +kernel))) sss_nil))))
theorem F_toss_chances (G : Gx K mg A base) : FnD P w K mg base 5 "toss_chances" 1 m_toss_chances := G.d_toss_chances.fn BLs GCs (k := 4) G.bl G.gc (S_toss_chances G)
theorem S_turned_net (G : Gx K mg A base) (X : Cx) (W : WX) (e1 : X.prog = P) (e2 : X.w = w) (e3 : X.K = K) (e4 : X.mg = mg) (e5 : X.base = base) (z : Cf BLs GCs X W N_turned_net (defScope (top 30)) 4) : SSs X W (defBody (top 30)) b_turned_net := by
  subst e1 e2 e3 e4 e5
  unfold b_turned_net
  exact (sss_cons (ss_expr (z.call (F_check_net G) (by omega) (by decide +kernel) (al_cons (z.v (by decide +kernel)) al_nil)) (by rfl)) (sss_cons (z.set (se_disp (ms := [((mC (.str "goal")), (mC (.str "lost"))), ((mC (.str "lost")), (mC (.str "goal")))]) (pps_cons (z.g 1 rfl (by decide +kernel)) (z.g 2 rfl (by decide +kernel)) (pps_cons (z.g 2 rfl (by decide +kernel)) (z.g 1 rfl (by decide +kernel)) pps_nil)) rfl rfl (by simp) (by decide)) (by decide +kernel)) (sss_cons (ss_ret (z.tuple (z.lc [(("row" : Str), 2)] (pi_any (z.v (by decide +kernel))) (by decide +kernel) (fun _ _ _ _ _ z => ts_nil) (fun _ _ _ _ _ z => (se_ifExp (st_val (z.isi (z.v (by decide +kernel)) (z.ty (by decide +kernel)) (by decide +kernel)) (by rfl)) (z.ix (z.v (by decide +kernel)) (z.v (by decide +kernel))) (z.v (by decide +kernel))))) (by decide +kernel))) sss_nil)))
theorem F_turned_net (G : Gx K mg A base) : FnD P w K mg base 5 "turned_net" 1 m_turned_net := G.d_turned_net.fn BLs GCs (k := 4) G.bl G.gc (S_turned_net G)
theorem S_by_turns (G : Gx K mg A base) (X : Cx) (W : WX) (e1 : X.prog = P) (e2 : X.w = w) (e3 : X.K = K) (e4 : X.mg = mg) (e5 : X.base = base) (z : Cf BLs GCs X W N_by_turns (defScope (top 31)) 4) : SSs X W (defBody (top 31)) b_by_turns := by
  subst e1 e2 e3 e4 e5
  unfold b_by_turns
  exact (sss_cons (ss_expr (z.call (F_check_net G) (by omega) (by decide +kernel) (al_cons (z.v (by decide +kernel)) al_nil)) (by rfl)) (sss_cons (ss_if (st_not (st_val (z.isi (z.v (by decide +kernel)) (z.ty (by decide +kernel)) (by decide +kernel)) (by rfl))) (sss_cons (z.raise0 G.x_BadNumber (by decide +kernel)) sss_nil) sss_nil) (sss_cons (z.set (se_op ok_mul (se_lst (al_cons se_non al_nil).sa) (z.len (z.v (by decide +kernel)) (by decide +kernel))) (by decide +kernel)) (sss_cons (z.for_ (z.rg3 (se_op ok_sub (z.len (z.v (by decide +kernel)) (by decide +kernel)) se_int) (se_un ok_neg se_int) (se_un ok_neg se_int) (by decide +kernel)) (z.tn (by decide +kernel)) (tgt_name _) (sss_cons (ss_if (st_val (z.isi (z.ix (z.v (by decide +kernel)) (z.v (by decide +kernel))) (z.ty (by decide +kernel)) (by decide +kernel)) (by rfl)) (sss_cons (z.asg (se_tup (al_cons (se_cmp (ok_eq z.un) (z.ix (z.v (by decide +kernel)) (z.v (by decide +kernel))) (z.g 1 rfl (by decide +kernel)) (by rfl)) (al_cons (se_cmp (ok_eq z.un) (z.ix (z.v (by decide +kernel)) (z.v (by decide +kernel))) (z.g 1 rfl (by decide +kernel)) (by rfl)) al_nil)).sa) (z.ts (z.v (by decide +kernel)) (z.v (by decide +kernel))) tgt_sub (by rfl) (by decide +kernel)) sss_nil) (sss_cons (z.asg (se_tup (al_cons (z.any (z.lc [(("one" : Str), 4)] (pi_any (z.ix (z.v (by decide +kernel)) (z.v (by decide +kernel)))) (by decide +kernel) (fun _ _ _ _ _ z => ts_nil) (fun _ _ _ _ _ z => (z.ix (z.ix (z.v (by decide +kernel)) (z.v (by decide +kernel))) se_int))) (by decide +kernel)) (al_cons (z.all (z.lc [(("one" : Str), 4)] (pi_any (z.ix (z.v (by decide +kernel)) (z.v (by decide +kernel)))) (by decide +kernel) (fun _ _ _ _ _ z => ts_nil) (fun _ _ _ _ _ z => (z.ix (z.ix (z.v (by decide +kernel)) (z.v (by decide +kernel))) se_int))) (by decide +kernel)) al_nil)).sa) (z.ts (z.v (by decide +kernel)) (z.v (by decide +kernel))) tgt_sub (by rfl) (by decide +kernel)) sss_nil)) sss_nil)) (sss_cons (ss_ret (z.tuple (z.lc [(("pair" : Str), 5)] (pi_any (z.v (by decide +kernel))) (by decide +kernel) (fun _ _ _ _ _ z => ts_nil) (fun _ _ _ _ _ z => (se_ifExp (st_val (z.v (by decide +kernel)) (by rfl)) (z.ix (z.v (by decide +kernel)) se_int) (z.ix (z.v (by decide +kernel)) se_int)))) (by decide +kernel))) sss_nil)))))
theorem F_by_turns (G : Gx K mg A base) : FnD P w K mg base 5 "by_turns" 2 m_by_turns := G.d_by_turns.fn BLs GCs (k := 4) G.bl G.gc (S_by_turns G)
theorem S_ladder (G : Gx K mg A base) (X : Cx) (W : WX) (e1 : X.prog = P) (e2 : X.w = w) (e3 : X.K = K) (e4 : X.mg = mg) (e5 : X.base = base) (z : Cf BLs GCs X W N_ladder (defScope (top 32)) 2) : SSs X W (defBody (top 32)) b_ladder := by
  subst e1 e2 e3 e4 e5
  unfold b_ladder
  exact (sss_cons (ss_if (st_not (st_val (z.call (F_is_within G) (by omega) (by decide +kernel) (al_cons (z.v (by decide +kernel)) (al_cons se_int (al_cons se_int al_nil)))) (by rfl))) (sss_cons (z.raise0 G.x_BadNumber (by decide +kernel)) sss_nil) sss_nil) (sss_cons (z.par2 (al_cons (se_lst al_nil.sa) (al_cons (z.lc2 [(("total" : Str), 5), (("up" : Str), 3)] [3] (z.rg1 (se_op ok_mul se_int (z.v (by decide +kernel))) (by decide +kernel)) (by decide +kernel) (fun _ _ _ _ _ z => ts_nil) (fun _ _ _ _ _ z => (z.rg1 (se_op ok_add (z.v (by decide +kernel)) se_int) (by decide +kernel))) (fun _ _ _ _ _ z => ts_nil) (fun _ _ _ _ _ z => (se_tup (al_cons (z.v (by decide +kernel)) (al_cons (se_op ok_sub (z.v (by decide +kernel)) (z.v (by decide +kernel))) al_nil)).sa))) al_nil)) (by decide +kernel)) (sss_cons (z.setLc [(("key" : Str), 6)] (pi_any (z.v (by decide +kernel))) (by decide +kernel) (fun _ _ _ _ _ z => (ts_one (st_chain ok_le ok_le se_int (z.ix (z.v (by decide +kernel)) se_int) (z.v (by decide +kernel)) (by rfl)))) (fun _ _ _ _ _ z => (z.v (by decide +kernel)))) (sss_cons (z.for_ (pi_any (z.v (by decide +kernel))) (z.tt (sgs_cons (z.tn (by decide +kernel)) (sgs_cons (z.tn (by decide +kernel)) sgs_nil (by rfl)) (by rfl))) (tgt_tup (tgts_cons (tgt_name _) (tgts_cons (tgt_name _) tgts_nil))) (sss_cons (ss_if ((sw_or (st_cmp (ok_eq z.un) (z.v (by decide +kernel)) (z.v (by decide +kernel)) (by rfl)) (sw_or1 (st_cmp (ok_eq z.un) (z.v (by decide +kernel)) (z.v (by decide +kernel)) (by rfl))))).pt (sss_cons (ss_expr (z.app (z.v (by decide +kernel)) (se_ifExp (st_cmp (ok_eq z.un) (z.v (by decide +kernel)) (z.v (by decide +kernel)) (by rfl)) (z.g 1 rfl (by decide +kernel)) (z.g 2 rfl (by decide +kernel)))) (by rfl)) sss_nil) (sss_cons (ss_expr (z.app (z.v (by decide +kernel)) (z.tuple (z.sorted (se_lst (al_cons (z.idx (z.v (by decide +kernel)) (se_tup (al_cons (se_op ok_add (z.v (by decide +kernel)) se_int) (al_cons (z.v (by decide +kernel)) al_nil)).sa)) (al_cons (z.idx (z.v (by decide +kernel)) (se_tup (al_cons (z.v (by decide +kernel)) (al_cons (se_op ok_add (z.v (by decide +kernel)) se_int) al_nil)).sa)) al_nil)).sa) (by decide +kernel)) (by decide +kernel))) (by rfl)) sss_nil)) sss_nil)) (sss_cons (ss_ret (z.tuple (z.v (by decide +kernel)) (by decide +kernel))) sss_nil)))))
theorem F_ladder (G : Gx K mg A base) : FnD P w K mg base 3 "ladder" 1 m_ladder := G.d_ladder.fn BLs GCs (k := 2) G.bl G.gc (S_ladder G)
theorem S__law_hand (G : Gx K mg A base) (X : Cx) (W : WX) (e1 : X.prog = P) (e2 : X.w = w) (e3 : X.K = K) (e4 : X.mg = mg) (e5 : X.base = base) (z : Cf BLs GCs X W N__law_hand (defScope (top 34)) 0) : SSs X W (defBody (top 34)) b__law_hand := by
  subst e1 e2 e3 e4 e5
  unfold b__law_hand
  exact (sss_cons (z.setLc [(("cell" : Str), 2)] (pi_any (se_sl (z.v (by decide +kernel)) so_none (so_some se_int))) (by decide +kernel) (fun _ _ _ _ _ z => ts_nil) (fun _ _ _ _ _ z => (z.abs (z.int (z.v (by decide +kernel)) (by decide +kernel)) (by decide +kernel)))) (sss_cons (ss_ret (se_lst (al_cons (z.v (by decide +kernel)) (al_cons se_int (al_cons se_int (al_cons (se_op ok_add se_int (se_op ok_mul se_int (z.len (z.v (by decide +kernel)) (by decide +kernel)))) (al_cons se_int al_nil))))).sa)) sss_nil))
theorem F__law_hand (G : Gx K mg A base) : FnD P w K mg base 1 "_law_hand" 1 m__law_hand := G.d__law_hand.fn BLs GCs (k := 0) G.bl G.gc (S__law_hand G)
theorem S__law_draw (G : Gx K mg A base) (X : Cx) (W : WX) (e1 : X.prog = P) (e2 : X.w = w) (e3 : X.K = K) (e4 : X.mg = mg) (e5 : X.base = base) (z : Cf BLs GCs X W N__law_draw (defScope (top 35)) 0) : SSs X W (defBody (top 35)) b__law_draw := by
  subst e1 e2 e3 e4 e5
  unfold b__law_draw
  exact (sss_cons (ss_if ((sw_and (st_cmp (ok_eq z.un) (z.ix (z.v (by decide +kernel)) se_int) se_int (by rfl)) (sw_and1 (st_cmp ok_lt (z.ix (z.v (by decide +kernel)) se_int) (z.len (z.ix (z.v (by decide +kernel)) se_int) (by decide +kernel)) (by rfl))))).pt (sss_cons (z.set (z.ix (z.ix (z.v (by decide +kernel)) se_int) (z.ix (z.v (by decide +kernel)) se_int)) (by decide +kernel)) (sss_cons (z.asg (se_op ok_add (z.ix (z.v (by decide +kernel)) se_int) se_int) (z.ts (z.v (by decide +kernel)) se_int) tgt_sub (by rfl) (by decide +kernel)) (sss_cons (z.asg (se_op ok_mod (z.int (se_op ok_add (se_op ok_add (se_op ok_mul (z.ix (z.v (by decide +kernel)) se_int) se_int) (se_op ok_mul (z.v (by decide +kernel)) se_int)) se_int) (by decide +kernel)) se_int) (z.ts (z.v (by decide +kernel)) se_int) tgt_sub (by rfl) (by decide +kernel)) (sss_cons (ss_if (st_cmp ok_ge (z.v (by decide +kernel)) (se_op ok_pow se_int se_int) (by rfl)) (sss_cons (z.asg (z.v (by decide +kernel)) (z.ts (z.v (by decide +kernel)) se_int) tgt_sub (by rfl) (by decide +kernel)) sss_nil) sss_nil) sss_nil)))) sss_nil) (sss_cons (ss_if (st_cmp ok_gt (z.ix (z.v (by decide +kernel)) se_int) se_int (by rfl)) (sss_cons (z.set (se_op ok_mod (z.int (z.ix (z.v (by decide +kernel)) se_int) (by decide +kernel)) (z.v (by decide +kernel))) (by decide +kernel)) (sss_cons (z.asg (se_op ok_fdiv (z.ix (z.v (by decide +kernel)) se_int) (z.v (by decide +kernel))) (z.ts (z.v (by decide +kernel)) se_int) tgt_sub (by rfl) (by decide +kernel)) (sss_cons (ss_ret (z.v (by decide +kernel))) sss_nil))) sss_nil) (sss_cons (z.asg (se_op ok_add (z.ix (z.v (by decide +kernel)) se_int) se_int) (z.ts (z.v (by decide +kernel)) se_int) tgt_sub (by rfl) (by decide +kernel)) (sss_cons (z.set (se_op ok_mod (z.int (se_op ok_mul (z.int (se_op ok_add (z.ix (z.v (by decide +kernel)) se_int) (se_op ok_mul se_int (z.ix (z.v (by decide +kernel)) se_int))) (by decide +kernel)) se_int) (by decide +kernel)) se_int) (by decide +kernel)) (sss_cons (z.set (se_op ok_mod (z.int (se_op ok_mul (z.v (by decide +kernel)) (se_op ok_add (se_op ok_fdiv (z.v (by decide +kernel)) se_int) se_int)) (by decide +kernel)) se_int) (by decide +kernel)) (sss_cons (z.set (se_op ok_mod (z.int (se_op ok_mul (z.v (by decide +kernel)) (se_op ok_add (se_op ok_fdiv (z.v (by decide +kernel)) se_int) se_int)) (by decide +kernel)) se_int) (by decide +kernel)) (sss_cons (ss_ret (se_op ok_mod (z.int (se_op ok_fdiv (z.v (by decide +kernel)) se_int) (by decide +kernel)) (z.v (by decide +kernel)))) sss_nil)))))))
theorem F__law_draw (G : Gx K mg A base) : FnD P w K mg base 1 "_law_draw" 2 m__law_draw := G.d__law_draw.fn BLs GCs (k := 0) G.bl G.gc (S__law_draw G)
theorem S__law_any (G : Gx K mg A base) (X : Cx) (W : WX) (e1 : X.prog = P) (e2 : X.w = w) (e3 : X.K = K) (e4 : X.mg = mg) (e5 : X.base = base) (z : Cf BLs GCs X W N__law_any (defScope (top 36)) 1) : SSs X W (defBody (top 36)) b__law_any := by
  subst e1 e2 e3 e4 e5
  unfold b__law_any
  exact (sss_cons (ss_ret (z.ix (z.v (by decide +kernel)) (z.call (F__law_draw G) (by omega) (by decide +kernel) (al_cons (z.v (by decide +kernel)) (al_cons (z.len (z.v (by decide +kernel)) (by decide +kernel)) al_nil))))) sss_nil)
theorem F__law_any (G : Gx K mg A base) : FnD P w K mg base 2 "_law_any" 2 m__law_any := G.d__law_any.fn BLs GCs (k := 1) G.bl G.gc (S__law_any G)
theorem F__law_isF (G : Gx K mg A base) (n : Nat) : FnD P w K mg base (0 + n + 1) "_law_is" 2 (m__law_isF n) := by
  induction n with
  | zero => exact G.d__law_is.stuck (k := 0)
  | succ n ih =>
    exact G.d__law_is.fn BLs GCs (k := 0 + n + 1) G.bl G.gc fun X W e1 e2 e3 e4 e5 z => by
      subst e1 e2 e3 e4 e5
      unfold b__law_is
      exact (sss_cons (ss_if ((sw_or (st_cmp ok_is (z.v (by decide +kernel)) se_non (by rfl)) (sw_or1 (st_cmp ok_is (z.v (by decide +kernel)) se_non (by rfl))))).pt (sss_cons (ss_ret (se_and (se_cmp ok_is (z.v (by decide +kernel)) se_non (by rfl)) (se_one (se_cmp ok_is (z.v (by decide +kernel)) se_non (by rfl))))) sss_nil) sss_nil) (sss_cons (ss_if (st_val (z.isiT (z.v (by decide +kernel)) ⟨z.ty (by decide +kernel), ⟨z.ty (by decide +kernel), trivial⟩⟩ (by decide) (by decide +kernel)) (by rfl)) (sss_cons (ss_if ((sw_or (st_cmp (ok_ne z.un) (z.isi (z.v (by decide +kernel)) (z.ty (by decide +kernel)) (by decide +kernel)) (z.isi (z.v (by decide +kernel)) (z.ty (by decide +kernel)) (by decide +kernel)) (by rfl)) (sw_or1 (st_cmp (ok_ne z.un) (z.isi (z.v (by decide +kernel)) (z.ty (by decide +kernel)) (by decide +kernel)) (z.isi (z.v (by decide +kernel)) (z.ty (by decide +kernel)) (by decide +kernel)) (by rfl))))).pt (sss_cons (ss_ret se_bl) sss_nil) sss_nil) (sss_cons (ss_ret (se_and (se_cmp (ok_eq z.un) (z.len (z.v (by decide +kernel)) (by decide +kernel)) (z.len (z.v (by decide +kernel)) (by decide +kernel)) (by rfl)) (se_one (z.all (z.lc [(("one" : Str), 2), (("other" : Str), 3)] (z.zip (z.v (by decide +kernel)) (z.v (by decide +kernel)) (by decide +kernel)) (by decide +kernel) (fun _ _ _ _ _ z => ts_nil) (fun _ _ _ _ _ z => (z.call ih (by omega) (by decide +kernel) (al_cons (z.v (by decide +kernel)) (al_cons (z.v (by decide +kernel)) al_nil))))) (by decide +kernel))))) sss_nil)) sss_nil) (sss_cons (ss_if ((sw_or (st_cmp (ok_ne z.un) (z.isi (z.v (by decide +kernel)) (z.ty (by decide +kernel)) (by decide +kernel)) (z.isi (z.v (by decide +kernel)) (z.ty (by decide +kernel)) (by decide +kernel)) (by rfl)) (sw_or1 (st_cmp (ok_ne z.un) (z.isi (z.v (by decide +kernel)) (z.ty (by decide +kernel)) (by decide +kernel)) (z.isi (z.v (by decide +kernel)) (z.ty (by decide +kernel)) (by decide +kernel)) (by rfl))))).pt (sss_cons (ss_ret se_bl) sss_nil) sss_nil) (sss_cons (ss_ret (se_and (se_cmp (ok_eq z.un) (z.isi (z.v (by decide +kernel)) (z.ty (by decide +kernel)) (by decide +kernel)) (z.isi (z.v (by decide +kernel)) (z.ty (by decide +kernel)) (by decide +kernel)) (by rfl)) (se_one (se_cmp (ok_eq z.un) (z.v (by decide +kernel)) (z.v (by decide +kernel)) (by rfl))))) sss_nil))))
theorem S__law_gcd (G : Gx K mg A base) (X : Cx) (W : WX) (e1 : X.prog = P) (e2 : X.w = w) (e3 : X.K = K) (e4 : X.mg = mg) (e5 : X.base = base) (z : Cf BLs GCs X W N__law_gcd (defScope (top 38)) 0) : SSs X W (defBody (top 38)) b__law_gcd := by
  subst e1 e2 e3 e4 e5
  unfold b__law_gcd
  exact (sss_cons (z.par2 (al_cons (z.abs (z.v (by decide +kernel)) (by decide +kernel)) (al_cons (z.abs (z.v (by decide +kernel)) (by decide +kernel)) al_nil)) (by decide +kernel)) (sss_cons (z.whl (st_cmp ok_gt (z.v (by decide +kernel)) se_int (by rfl)) (sss_cons (z.par2 (al_cons (z.v (by decide +kernel)) (al_cons (se_op ok_mod (z.int (z.v (by decide +kernel)) (by decide +kernel)) (z.v (by decide +kernel))) al_nil)) (by decide +kernel)) sss_nil)) (sss_cons (ss_ret (z.v (by decide +kernel))) sss_nil)))
theorem F__law_gcd (G : Gx K mg A base) : FnD P w K mg base 1 "_law_gcd" 2 m__law_gcd := G.d__law_gcd.fn BLs GCs (k := 0) G.bl G.gc (S__law_gcd G)
theorem S__law_frac (G : Gx K mg A base) (X : Cx) (W : WX) (e1 : X.prog = P) (e2 : X.w = w) (e3 : X.K = K) (e4 : X.mg = mg) (e5 : X.base = base) (z : Cf BLs GCs X W N__law_frac (defScope (top 39)) 1) : SSs X W (defBody (top 39)) b__law_frac := by
  subst e1 e2 e3 e4 e5
  unfold b__law_frac
  exact (sss_cons (ss_if (st_cmp ok_lt (z.v (by decide +kernel)) se_int (by rfl)) (sss_cons (z.par2 (al_cons (se_op ok_sub se_int (z.v (by decide +kernel))) (al_cons (se_op ok_sub se_int (z.v (by decide +kernel))) al_nil)) (by decide +kernel)) sss_nil) sss_nil) (sss_cons (z.set (z.call (F__law_gcd G) (by omega) (by decide +kernel) (al_cons (z.v (by decide +kernel)) (al_cons (z.v (by decide +kernel)) al_nil))) (by decide +kernel)) (sss_cons (ss_ret (se_tup (al_cons (se_op ok_fdiv (z.v (by decide +kernel)) (z.v (by decide +kernel))) (al_cons (se_op ok_fdiv (z.v (by decide +kernel)) (z.v (by decide +kernel))) al_nil)).sa)) sss_nil)))
theorem F__law_frac (G : Gx K mg A base) : FnD P w K mg base 2 "_law_frac" 2 m__law_frac := G.d__law_frac.fn BLs GCs (k := 1) G.bl G.gc (S__law_frac G)
theorem S__law_add (G : Gx K mg A base) (X : Cx) (W : WX) (e1 : X.prog = P) (e2 : X.w = w) (e3 : X.K = K) (e4 : X.mg = mg) (e5 : X.base = base) (z : Cf BLs GCs X W N__law_add (defScope (top 40)) 2) : SSs X W (defBody (top 40)) b__law_add := by
  subst e1 e2 e3 e4 e5
  unfold b__law_add
  exact (sss_cons (ss_ret (z.call (F__law_frac G) (by omega) (by decide +kernel) (al_cons (se_op ok_add (se_op ok_mul (z.ix (z.v (by decide +kernel)) se_int) (z.ix (z.v (by decide +kernel)) se_int)) (se_op ok_mul (z.ix (z.v (by decide +kernel)) se_int) (z.ix (z.v (by decide +kernel)) se_int))) (al_cons (se_op ok_mul (z.ix (z.v (by decide +kernel)) se_int) (z.ix (z.v (by decide +kernel)) se_int)) al_nil)))) sss_nil)
theorem F__law_add (G : Gx K mg A base) : FnD P w K mg base 3 "_law_add" 2 m__law_add := G.d__law_add.fn BLs GCs (k := 2) G.bl G.gc (S__law_add G)
theorem S__law_less (G : Gx K mg A base) (X : Cx) (W : WX) (e1 : X.prog = P) (e2 : X.w = w) (e3 : X.K = K) (e4 : X.mg = mg) (e5 : X.base = base) (z : Cf BLs GCs X W N__law_less (defScope (top 41)) 0) : SSs X W (defBody (top 41)) b__law_less := by
  subst e1 e2 e3 e4 e5
  unfold b__law_less
  exact (sss_cons (ss_ret (se_cmp ok_lt (se_op ok_mul (z.ix (z.v (by decide +kernel)) se_int) (z.ix (z.v (by decide +kernel)) se_int)) (se_op ok_mul (z.ix (z.v (by decide +kernel)) se_int) (z.ix (z.v (by decide +kernel)) se_int)) (by rfl))) sss_nil)
theorem F__law_less (G : Gx K mg A base) : FnD P w K mg base 1 "_law_less" 2 m__law_less := G.d__law_less.fn BLs GCs (k := 0) G.bl G.gc (S__law_less G)
theorem S__law_no_number (G : Gx K mg A base) (X : Cx) (W : WX) (e1 : X.prog = P) (e2 : X.w = w) (e3 : X.K = K) (e4 : X.mg = mg) (e5 : X.base = base) (z : Cf BLs GCs X W N__law_no_number (defScope (top 43)) 2) : SSs X W (defBody (top 43)) b__law_no_number := by
  subst e1 e2 e3 e4 e5
  unfold b__law_no_number
  exact (sss_cons (ss_ret (z.call (F__law_any G) (by omega) (by decide +kernel) (al_cons (z.v (by decide +kernel)) (al_cons (se_lst (al_cons (se_un ok_neg se_int) (al_cons se_non (al_cons se_bl (al_cons se_str (al_cons (se_tup (al_cons se_int al_nil).sa) (al_cons (se_lst (al_cons se_int al_nil).sa) (al_cons (se_un ok_neg (se_op ok_pow se_int se_int)) al_nil))))))).sa) al_nil)))) sss_nil)
theorem F__law_no_number (G : Gx K mg A base) : FnD P w K mg base 3 "_law_no_number" 1 m__law_no_number := G.d__law_no_number.fn BLs GCs (k := 2) G.bl G.gc (S__law_no_number G)
theorem S__law_net_of (G : Gx K mg A base) (X : Cx) (W : WX) (e1 : X.prog = P) (e2 : X.w = w) (e3 : X.K = K) (e4 : X.mg = mg) (e5 : X.base = base) (z : Cf BLs GCs X W N__law_net_of (defScope (top 44)) 2) : SSs X W (defBody (top 44)) b__law_net_of := by
  subst e1 e2 e3 e4 e5
  unfold b__law_net_of
  exact (sss_cons (z.par2 (al_cons (se_op ok_add se_int (z.call (F__law_draw G) (by omega) (by decide +kernel) (al_cons (z.v (by decide +kernel)) (al_cons (z.v (by decide +kernel)) al_nil)))) (al_cons (se_lst al_nil.sa) al_nil)) (by decide +kernel)) (sss_cons (z.for_ (z.rg1 (z.v (by decide +kernel)) (by decide +kernel)) (z.tn (by decide +kernel)) (tgt_name _) (sss_cons (z.set (z.tuple (z.lc [(("to" : Str), 6)] (z.rg2 (se_op ok_add (z.v (by decide +kernel)) se_int) (z.v (by decide +kernel)) (by decide +kernel)) (by decide +kernel) (fun _ _ _ _ _ z => (ts_one (st_cmp (ok_eq z.un) (z.call (F__law_draw G) (by omega) (by decide +kernel) (al_cons (z.v (by decide +kernel)) (al_cons se_int al_nil))) se_int (by rfl)))) (fun _ _ _ _ _ z => (z.v (by decide +kernel)))) (by decide +kernel)) (by decide +kernel)) (sss_cons (ss_expr (z.app (z.v (by decide +kernel)) (se_ifExp (st_cmp ok_gt (z.len (z.v (by decide +kernel)) (by decide +kernel)) se_int (by rfl)) (z.v (by decide +kernel)) (z.call (F__law_any G) (by omega) (by decide +kernel) (al_cons (z.v (by decide +kernel)) (al_cons (se_lst (al_cons se_str (al_cons se_str al_nil)).sa) al_nil))))) (by rfl)) sss_nil))) (sss_cons (ss_ret (z.tuple (z.v (by decide +kernel)) (by decide +kernel))) sss_nil)))
theorem F__law_net_of (G : Gx K mg A base) : FnD P w K mg base 3 "_law_net_of" 2 m__law_net_of := G.d__law_net_of.fn BLs GCs (k := 2) G.bl G.gc (S__law_net_of G)
theorem S__law_half (G : Gx K mg A base) (X : Cx) (W : WX) (e1 : X.prog = P) (e2 : X.w = w) (e3 : X.K = K) (e4 : X.mg = mg) (e5 : X.base = base) (z : Cf BLs GCs X W N__law_half (defScope (top 45)) 3) : SSs X W (defBody (top 45)) b__law_half := by
  subst e1 e2 e3 e4 e5
  unfold b__law_half
  exact (sss_cons (z.set (z.call (F__law_add G) (by omega) (by decide +kernel) (al_cons (z.v (by decide +kernel)) (al_cons (z.v (by decide +kernel)) al_nil))) (by decide +kernel)) (sss_cons (ss_ret (z.call (F__law_frac G) (by omega) (by decide +kernel) (al_cons (z.ix (z.v (by decide +kernel)) se_int) (al_cons (se_op ok_mul se_int (z.ix (z.v (by decide +kernel)) se_int)) al_nil)))) sss_nil))
theorem F__law_half (G : Gx K mg A base) : FnD P w K mg base 4 "_law_half" 2 m__law_half := G.d__law_half.fn BLs GCs (k := 3) G.bl G.gc (S__law_half G)
theorem S__law_chances (G : Gx K mg A base) (X : Cx) (W : WX) (e1 : X.prog = P) (e2 : X.w = w) (e3 : X.K = K) (e4 : X.mg = mg) (e5 : X.base = base) (z : Cf BLs GCs X W N__law_chances (defScope (top 46)) 4) : SSs X W (defBody (top 46)) b__law_chances := by
  subst e1 e2 e3 e4 e5
  unfold b__law_chances
  exact (sss_cons (z.set (se_op ok_mul (se_lst (al_cons se_non al_nil).sa) (z.len (z.v (by decide +kernel)) (by decide +kernel))) (by decide +kernel)) (sss_cons (z.for_ (z.rg3 (se_op ok_sub (z.len (z.v (by decide +kernel)) (by decide +kernel)) se_int) (se_un ok_neg se_int) (se_un ok_neg se_int) (by decide +kernel)) (z.tn (by decide +kernel)) (tgt_name _) (sss_cons (ss_if (st_cmp z.opIn2 (z.ix (z.v (by decide +kernel)) (z.v (by decide +kernel))) (se_tup (al_cons se_str (al_cons se_str al_nil)).sa) (by rfl)) (sss_cons (z.asg (se_tup (al_cons (z.int (se_cmp (ok_eq z.un) (z.ix (z.v (by decide +kernel)) (z.v (by decide +kernel))) se_str (by rfl)) (by decide +kernel)) (al_cons se_int al_nil)).sa) (z.ts (z.v (by decide +kernel)) (z.v (by decide +kernel))) tgt_sub (by rfl) (by decide +kernel)) sss_nil) (sss_cons (z.par2 (al_cons (z.ix (z.v (by decide +kernel)) (z.ix (z.ix (z.v (by decide +kernel)) (z.v (by decide +kernel))) se_int)) (al_cons (z.ix (z.v (by decide +kernel)) (z.ix (z.ix (z.v (by decide +kernel)) (z.v (by decide +kernel))) se_int)) al_nil)) (by decide +kernel)) (sss_cons (z.for_ (pi_any (z.ix (z.v (by decide +kernel)) (z.v (by decide +kernel)))) (z.tn (by decide +kernel)) (tgt_name _) (sss_cons (z.set (se_ifExp (st_val (z.call (F__law_less G) (by omega) (by decide +kernel) (al_cons (z.ix (z.v (by decide +kernel)) (z.v (by decide +kernel))) (al_cons (z.v (by decide +kernel)) al_nil))) (by rfl)) (z.ix (z.v (by decide +kernel)) (z.v (by decide +kernel))) (z.v (by decide +kernel))) (by decide +kernel)) (sss_cons (z.set (se_ifExp (st_val (z.call (F__law_less G) (by omega) (by decide +kernel) (al_cons (z.v (by decide +kernel)) (al_cons (z.ix (z.v (by decide +kernel)) (z.v (by decide +kernel))) al_nil))) (by rfl)) (z.ix (z.v (by decide +kernel)) (z.v (by decide +kernel))) (z.v (by decide +kernel))) (by decide +kernel)) sss_nil))) (sss_cons (z.asg (z.call (F__law_half G) (by omega) (by decide +kernel) (al_cons (z.v (by decide +kernel)) (al_cons (z.v (by decide +kernel)) al_nil))) (z.ts (z.v (by decide +kernel)) (z.v (by decide +kernel))) tgt_sub (by rfl) (by decide +kernel)) sss_nil)))) sss_nil)) (sss_cons (ss_ret (z.tuple (z.v (by decide +kernel)) (by decide +kernel))) sss_nil)))
theorem F__law_chances (G : Gx K mg A base) : FnD P w K mg base 5 "_law_chances" 1 m__law_chances := G.d__law_chances.fn BLs GCs (k := 4) G.bl G.gc (S__law_chances G)
theorem S__law_turns (G : Gx K mg A base) (X : Cx) (W : WX) (e1 : X.prog = P) (e2 : X.w = w) (e3 : X.K = K) (e4 : X.mg = mg) (e5 : X.base = base) (z : Cf BLs GCs X W N__law_turns (defScope (top 47)) 0) : SSs X W (defBody (top 47)) b__law_turns := by
  subst e1 e2 e3 e4 e5
  unfold b__law_turns
  exact (sss_cons (z.set (se_op ok_mul (se_lst (al_cons se_non al_nil).sa) (z.len (z.v (by decide +kernel)) (by decide +kernel))) (by decide +kernel)) (sss_cons (z.for_ (z.rg3 (se_op ok_sub (z.len (z.v (by decide +kernel)) (by decide +kernel)) se_int) (se_un ok_neg se_int) (se_un ok_neg se_int) (by decide +kernel)) (z.tn (by decide +kernel)) (tgt_name _) (sss_cons (ss_if (st_cmp z.opIn2 (z.ix (z.v (by decide +kernel)) (z.v (by decide +kernel))) (se_tup (al_cons se_str (al_cons se_str al_nil)).sa) (by rfl)) (sss_cons (z.asg (se_tup (al_cons (se_cmp (ok_eq z.un) (z.ix (z.v (by decide +kernel)) (z.v (by decide +kernel))) se_str (by rfl)) (al_cons (se_cmp (ok_eq z.un) (z.ix (z.v (by decide +kernel)) (z.v (by decide +kernel))) se_str (by rfl)) al_nil)).sa) (z.ts (z.v (by decide +kernel)) (z.v (by decide +kernel))) tgt_sub (by rfl) (by decide +kernel)) sss_nil) (sss_cons (z.asg (se_tup (al_cons (z.any (z.lc [(("to" : Str), 3)] (pi_any (z.ix (z.v (by decide +kernel)) (z.v (by decide +kernel)))) (by decide +kernel) (fun _ _ _ _ _ z => ts_nil) (fun _ _ _ _ _ z => (z.ix (z.ix (z.v (by decide +kernel)) (z.v (by decide +kernel))) se_int))) (by decide +kernel)) (al_cons (z.all (z.lc [(("to" : Str), 3)] (pi_any (z.ix (z.v (by decide +kernel)) (z.v (by decide +kernel)))) (by decide +kernel) (fun _ _ _ _ _ z => ts_nil) (fun _ _ _ _ _ z => (z.ix (z.ix (z.v (by decide +kernel)) (z.v (by decide +kernel))) se_int))) (by decide +kernel)) al_nil)).sa) (z.ts (z.v (by decide +kernel)) (z.v (by decide +kernel))) tgt_sub (by rfl) (by decide +kernel)) sss_nil)) sss_nil)) (sss_cons (ss_ret (z.v (by decide +kernel))) sss_nil)))
theorem F__law_turns (G : Gx K mg A base) : FnD P w K mg base 1 "_law_turns" 1 m__law_turns := G.d__law_turns.fn BLs GCs (k := 0) G.bl G.gc (S__law_turns G)
theorem S__law_is_right (G : Gx K mg A base) (X : Cx) (W : WX) (e1 : X.prog = P) (e2 : X.w = w) (e3 : X.K = K) (e4 : X.mg = mg) (e5 : X.base = base) (z : Cf BLs GCs X W N__law_is_right (defScope (top 48)) 6) : SSs X W (defBody (top 48)) b__law_is_right := by
  subst e1 e2 e3 e4 e5
  unfold b__law_is_right
  exact (sss_cons (z.par2 (al_cons (z.call (F__law_chances G) (by omega) (by decide +kernel) (al_cons (z.v (by decide +kernel)) al_nil)) (al_cons (z.call (F__law_turns G) (by omega) (by decide +kernel) (al_cons (z.v (by decide +kernel)) al_nil)) al_nil)) (by decide +kernel)) (sss_cons (z.set (z.tuple (z.lc [(("top" : Str), 8), (("bottom" : Str), 9)] (pi_any (z.v (by decide +kernel))) (by decide +kernel) (fun _ _ _ _ _ z => ts_nil) (fun _ _ _ _ _ z => (se_tup (al_cons (se_op ok_sub (z.v (by decide +kernel)) (z.v (by decide +kernel))) (al_cons (z.v (by decide +kernel)) al_nil)).sa))) (by decide +kernel)) (by decide +kernel)) (sss_cons (ss_if (st_not (st_val (z.call (F__law_isF G 5) (by omega) (by decide +kernel) (al_cons (se_lst (al_cons (z.call (F_toss_chances G) (by omega) (by decide +kernel) (al_cons (z.v (by decide +kernel)) al_nil)) (al_cons (z.call (F_prices G) (by omega) (by decide +kernel) (al_cons (z.v (by decide +kernel)) al_nil)) al_nil)).sa) (al_cons (se_lst (al_cons (z.v (by decide +kernel)) (al_cons (z.v (by decide +kernel)) al_nil)).sa) al_nil))) (by rfl))) (sss_cons (ss_ret se_bl) sss_nil) sss_nil) (sss_cons (z.set (z.tuple (z.lc [(("one" : Str), 10)] (pi_any (z.v (by decide +kernel))) (by decide +kernel) (fun _ _ _ _ _ z => ts_nil) (fun _ _ _ _ _ z => (se_ifExp (st_val (z.isi (z.v (by decide +kernel)) (z.ty (by decide +kernel)) (by decide +kernel)) (by rfl)) (z.ix (se_disp (ms := [((mC (.str "goal")), (mC (.str "lost"))), ((mC (.str "lost")), (mC (.str "goal")))]) (pps_cons se_str se_str (pps_cons se_str se_str pps_nil)) rfl rfl (by simp) (by decide)) (z.v (by decide +kernel))) (z.v (by decide +kernel))))) (by decide +kernel)) (by decide +kernel)) (sss_cons (ss_if (st_not (st_val (z.call (F__law_isF G 5) (by omega) (by decide +kernel) (al_cons (se_lst (al_cons (z.call (F_turned_net G) (by omega) (by decide +kernel) (al_cons (z.v (by decide +kernel)) al_nil)) (al_cons (z.call (F_turned_net G) (by omega) (by decide +kernel) (al_cons (z.v (by decide +kernel)) al_nil)) (al_cons (z.call (F_prices G) (by omega) (by decide +kernel) (al_cons (z.v (by decide +kernel)) al_nil)) (al_cons (z.call (F_is_net G) (by omega) (by decide +kernel) (al_cons (z.v (by decide +kernel)) al_nil)) al_nil)))).sa) (al_cons (se_lst (al_cons (z.v (by decide +kernel)) (al_cons (z.v (by decide +kernel)) (al_cons (z.v (by decide +kernel)) (al_cons se_bl al_nil)))).sa) al_nil))) (by rfl))) (sss_cons (ss_ret se_bl) sss_nil) sss_nil) (sss_cons (z.set (se_lst (al_cons (z.call (F_by_turns G) (by omega) (by decide +kernel) (al_cons (z.v (by decide +kernel)) (al_cons se_bl al_nil))) (al_cons (z.call (F_by_turns G) (by omega) (by decide +kernel) (al_cons (z.v (by decide +kernel)) (al_cons se_bl al_nil))) al_nil)).sa) (by decide +kernel)) (sss_cons (ss_if (st_not (st_val (z.call (F__law_isF G 5) (by omega) (by decide +kernel) (al_cons (z.v (by decide +kernel)) (al_cons (se_lst (al_cons (z.tuple (z.lc [(("one" : Str), 10)] (pi_any (z.v (by decide +kernel))) (by decide +kernel) (fun _ _ _ _ _ z => ts_nil) (fun _ _ _ _ _ z => (z.ix (z.v (by decide +kernel)) se_int))) (by decide +kernel)) (al_cons (z.tuple (z.lc [(("one" : Str), 10)] (pi_any (z.v (by decide +kernel))) (by decide +kernel) (fun _ _ _ _ _ z => ts_nil) (fun _ _ _ _ _ z => (z.ix (z.v (by decide +kernel)) se_int))) (by decide +kernel)) al_nil)).sa) al_nil))) (by rfl))) (sss_cons (ss_ret se_bl) sss_nil) sss_nil) (sss_cons (z.set (se_lst (al_cons (z.call (F_by_turns G) (by omega) (by decide +kernel) (al_cons (z.v (by decide +kernel)) (al_cons se_bl al_nil))) (al_cons (z.call (F_by_turns G) (by omega) (by decide +kernel) (al_cons (z.v (by decide +kernel)) (al_cons se_bl al_nil))) al_nil)).sa) (by decide +kernel)) (sss_cons (z.set (se_lst (al_cons (z.tuple (z.lc [(("one" : Str), 10)] (pi_any (z.v (by decide +kernel))) (by decide +kernel) (fun _ _ _ _ _ z => ts_nil) (fun _ _ _ _ _ z => (se_not (z.ix (z.v (by decide +kernel)) se_int)))) (by decide +kernel)) (al_cons (z.tuple (z.lc [(("one" : Str), 10)] (pi_any (z.v (by decide +kernel))) (by decide +kernel) (fun _ _ _ _ _ z => ts_nil) (fun _ _ _ _ _ z => (se_not (z.ix (z.v (by decide +kernel)) se_int)))) (by decide +kernel)) al_nil)).sa) (by decide +kernel)) (sss_cons (ss_ret (z.call (F__law_isF G 5) (by omega) (by decide +kernel) (al_cons (z.v (by decide +kernel)) (al_cons (z.v (by decide +kernel)) al_nil)))) sss_nil))))))))))
theorem F__law_is_right (G : Gx K mg A base) : FnD P w K mg base 7 "_law_is_right" 1 m__law_is_right := G.d__law_is_right.fn BLs GCs (k := 6) G.bl G.gc (S__law_is_right G)
theorem S__law_ladder (G : Gx K mg A base) (X : Cx) (W : WX) (e1 : X.prog = P) (e2 : X.w = w) (e3 : X.K = K) (e4 : X.mg = mg) (e5 : X.base = base) (z : Cf BLs GCs X W N__law_ladder (defScope (top 49)) 0) : SSs X W (defBody (top 49)) b__law_ladder := by
  subst e1 e2 e3 e4 e5
  unfold b__law_ladder
  exact (sss_cons (z.set (se_lst al_nil.sa) (by decide +kernel)) (sss_cons (z.for_ (z.rg1 (se_op ok_add (z.v (by decide +kernel)) se_int) (by decide +kernel)) (z.tn (by decide +kernel)) (tgt_name _) (sss_cons (ss_expr (z.ext (z.v (by decide +kernel)) (z.lc [(("lost" : Str), 6)] (z.rg1 (se_op ok_add (z.v (by decide +kernel)) se_int) (by decide +kernel)) (by decide +kernel) (fun _ _ _ _ _ z => (ts_one (st_cmp ok_lt (se_op ok_add (z.v (by decide +kernel)) (z.v (by decide +kernel))) (se_op ok_mul se_int (z.v (by decide +kernel))) (by rfl)))) (fun _ _ _ _ _ z => (se_tup (al_cons (se_op ok_add (z.v (by decide +kernel)) (z.v (by decide +kernel))) (al_cons (z.v (by decide +kernel)) (al_cons (z.v (by decide +kernel)) al_nil))).sa)))) (by rfl)) sss_nil)) (sss_cons (z.par2 (al_cons (z.sorted (z.v (by decide +kernel)) (by decide +kernel)) (al_cons (se_lst al_nil.sa) al_nil)) (by decide +kernel)) (sss_cons (z.set (z.dictT (z.lc [(("at" : Str), 7), (("row" : Str), 8)] (z.enm (z.v (by decide +kernel)) (by decide +kernel)) (by decide +kernel) (fun _ _ _ _ _ z => ts_nil) (fun _ _ _ _ _ z => (se_tup (al_cons (z.v (by decide +kernel)) (al_cons (z.v (by decide +kernel)) al_nil)).sa))) (by decide +kernel)) (by decide +kernel)) (sss_cons (z.for_ (pi_any (z.v (by decide +kernel))) (z.tt (sgs_cons (z.tn (by decide +kernel)) (sgs_cons (z.tn (by decide +kernel)) (sgs_cons (z.tn (by decide +kernel)) sgs_nil (by rfl)) (by rfl)) (by rfl))) (tgt_tup (tgts_cons (tgt_name _) (tgts_cons (tgt_name _) (tgts_cons (tgt_name _) tgts_nil)))) (sss_cons (ss_if ((sw_or (st_cmp (ok_eq z.un) (z.v (by decide +kernel)) (z.v (by decide +kernel)) (by rfl)) (sw_or1 (st_cmp (ok_eq z.un) (z.v (by decide +kernel)) (z.v (by decide +kernel)) (by rfl))))).pt (sss_cons (ss_expr (z.app (z.v (by decide +kernel)) (se_ifExp (st_cmp (ok_eq z.un) (z.v (by decide +kernel)) (z.v (by decide +kernel)) (by rfl)) se_str se_str)) (by rfl)) sss_nil) (sss_cons (ss_expr (z.app (z.v (by decide +kernel)) (z.tuple (z.sorted (se_lst (al_cons (z.ix (z.v (by decide +kernel)) (se_tup (al_cons (se_op ok_add (z.v (by decide +kernel)) se_int) (al_cons (se_op ok_add (z.v (by decide +kernel)) se_int) (al_cons (z.v (by decide +kernel)) al_nil))).sa)) (al_cons (z.ix (z.v (by decide +kernel)) (se_tup (al_cons (se_op ok_add (z.v (by decide +kernel)) se_int) (al_cons (z.v (by decide +kernel)) (al_cons (se_op ok_add (z.v (by decide +kernel)) se_int) al_nil))).sa)) al_nil)).sa) (by decide +kernel)) (by decide +kernel))) (by rfl)) sss_nil)) sss_nil)) (sss_cons (ss_ret (se_tup (al_cons (z.tuple (z.v (by decide +kernel)) (by decide +kernel)) (al_cons (z.v (by decide +kernel)) al_nil)).sa)) sss_nil))))))
theorem F__law_ladder (G : Gx K mg A base) : FnD P w K mg base 1 "_law_ladder" 1 m__law_ladder := G.d__law_ladder.fn BLs GCs (k := 0) G.bl G.gc (S__law_ladder G)
theorem S__law_rounds (G : Gx K mg A base) (X : Cx) (W : WX) (e1 : X.prog = P) (e2 : X.w = w) (e3 : X.K = K) (e4 : X.mg = mg) (e5 : X.base = base) (z : Cf BLs GCs X W N__law_rounds (defScope (top 50)) 2) : SSs X W (defBody (top 50)) b__law_rounds := by
  subst e1 e2 e3 e4 e5
  unfold b__law_rounds
  exact (sss_cons (z.par2 (al_cons (se_op ok_sub (se_op ok_sub (se_op ok_sub (se_op ok_mul se_int (z.v (by decide +kernel))) se_int) (z.v (by decide +kernel))) (z.v (by decide +kernel))) (al_cons (se_op ok_sub (z.v (by decide +kernel)) (z.v (by decide +kernel))) al_nil)) (by decide +kernel)) (sss_cons (z.set (se_lst (al_cons se_int al_nil).sa) (by decide +kernel)) (sss_cons (z.for_ (z.rg1 (z.v (by decide +kernel)) (by decide +kernel)) (z.tn (by decide +kernel)) (tgt_name _) (sss_cons (z.setLc [(("one" : Str), 7), (("other" : Str), 8)] (z.zip (se_op ok_add (z.v (by decide +kernel)) (se_lst (al_cons se_int al_nil).sa)) (se_op ok_add (se_lst (al_cons se_int al_nil).sa) (z.v (by decide +kernel))) (by decide +kernel)) (by decide +kernel) (fun _ _ _ _ _ z => ts_nil) (fun _ _ _ _ _ z => (se_op ok_add (z.v (by decide +kernel)) (z.v (by decide +kernel))))) sss_nil)) (sss_cons (ss_ret (z.call (F__law_frac G) (by omega) (by decide +kernel) (al_cons (z.sum (se_sl (z.v (by decide +kernel)) (so_some (z.v (by decide +kernel))) so_none) (by decide +kernel)) (al_cons (z.sum (z.v (by decide +kernel)) (by decide +kernel)) al_nil)))) sss_nil))))
theorem F__law_rounds (G : Gx K mg A base) : FnD P w K mg base 3 "_law_rounds" 3 m__law_rounds := G.d__law_rounds.fn BLs GCs (k := 2) G.bl G.gc (S__law_rounds G)
theorem S_law (G : Gx K mg A base) (X : Cx) (W : WX) (e1 : X.prog = P) (e2 : X.w = w) (e3 : X.K = K) (e4 : X.mg = mg) (e5 : X.base = base) (e6 : X.env.code = .ref A.c_law) (e7 : X.env.qual = ("law" : Str) ++ ".<locals>.") (z : Cf BLs GCs X W N_law (defScope (top 51)) 7) : SSs X W (defBody (top 51)) b_law := by
  subst e1 e2 e3 e4 e5
  unfold b_law
  exact (sss_cons (z.set (z.call (F__law_hand G) (by omega) (by decide +kernel) (al_cons (z.v (by decide +kernel)) al_nil)) (by decide +kernel)) (sss_cons (z.for_ (z.rg1 se_int (by decide +kernel)) (z.tn (by decide +kernel)) (tgt_name _) (sss_cons (ss_if (st_not (st_val (z.call (F__law_is_right G) (by omega) (by decide +kernel) (al_cons (z.call (F__law_net_of G) (by omega) (by decide +kernel) (al_cons (z.v (by decide +kernel)) (al_cons se_int al_nil))) al_nil)) (by rfl))) (sss_cons (ss_ret se_bl) sss_nil) sss_nil) sss_nil)) (sss_cons (z.set (se_op ok_add se_int (z.call (F__law_draw G) (by omega) (by decide +kernel) (al_cons (z.v (by decide +kernel)) (al_cons se_int al_nil)))) (by decide +kernel)) (sss_cons (z.asg (z.call (F__law_ladder G) (by omega) (by decide +kernel) (al_cons (z.v (by decide +kernel)) al_nil)) (z.tt (sgs_cons (z.tn (by decide +kernel)) (sgs_cons (z.tn (by decide +kernel)) sgs_nil (by rfl)) (by rfl))) (tgt_tup (tgts_cons (tgt_name _) (tgts_cons (tgt_name _) tgts_nil))) (by rfl) (by decide +kernel)) (sss_cons (ss_if ((sw_or (st_not (st_val (z.call (F__law_isF G 5) (by omega) (by decide +kernel) (al_cons (z.call (F_ladder G) (by omega) (by decide +kernel) (al_cons (z.v (by decide +kernel)) al_nil)) (al_cons (z.v (by decide +kernel)) al_nil))) (by rfl))) (sw_or1 (st_not (st_val (z.call (F__law_is_right G) (by omega) (by decide +kernel) (al_cons (z.v (by decide +kernel)) al_nil)) (by rfl)))))).pt (sss_cons (ss_ret se_bl) sss_nil) sss_nil) (sss_cons (z.set (se_lst al_nil.sa) (by decide +kernel)) (sss_cons (z.for_ (pi_any (z.v (by decide +kernel))) (z.tt (sgs_cons (z.tn (by decide +kernel)) (sgs_cons (z.tn (by decide +kernel)) (sgs_cons (z.tn (by decide +kernel)) sgs_nil (by rfl)) (by rfl)) (by rfl))) (tgt_tup (tgts_cons (tgt_name _) (tgts_cons (tgt_name _) (tgts_cons (tgt_name _) tgts_nil)))) (sss_cons (ss_expr (z.app (z.v (by decide +kernel)) (se_ifExp (st_cmp z.opIn2 (z.v (by decide +kernel)) (se_tup (al_cons (z.v (by decide +kernel)) (al_cons (z.v (by decide +kernel)) al_nil)).sa) (by rfl)) (se_tup (al_cons (z.int (se_cmp (ok_eq z.un) (z.v (by decide +kernel)) (z.v (by decide +kernel)) (by rfl)) (by decide +kernel)) (al_cons se_int al_nil)).sa) (z.call (F__law_rounds G) (by omega) (by decide +kernel) (al_cons (z.v (by decide +kernel)) (al_cons (z.v (by decide +kernel)) (al_cons (z.v (by decide +kernel)) al_nil)))))) (by rfl)) sss_nil)) (sss_cons (ss_if (st_not (st_val (z.call (F__law_isF G 5) (by omega) (by decide +kernel) (al_cons (z.call (F_toss_chances G) (by omega) (by decide +kernel) (al_cons (z.v (by decide +kernel)) al_nil)) (al_cons (z.tuple (z.v (by decide +kernel)) (by decide +kernel)) al_nil))) (by rfl))) (sss_cons (ss_ret se_bl) sss_nil) sss_nil) (sss_cons (z.set (se_lst (al_cons se_non (al_cons (se_tup al_nil.sa) (al_cons (se_lst (al_cons se_str al_nil).sa) (al_cons (se_tup (al_cons se_str al_nil).sa) (al_cons (se_tup (al_cons (se_tup al_nil.sa) al_nil).sa) (al_cons (se_tup (al_cons (se_tup (al_cons se_int al_nil).sa) al_nil).sa) (al_cons (se_tup (al_cons (se_tup (al_cons se_int al_nil).sa) al_nil).sa) (al_cons (se_tup (al_cons (se_tup (al_cons se_int (al_cons se_int al_nil)).sa) (al_cons se_str al_nil)).sa) (al_cons se_int (al_cons (se_op ok_mul (se_tup (al_cons se_str al_nil).sa) se_int) al_nil)))))))))).sa) (by decide +kernel)) (sss_cons (z.set (z.call (F__law_any G) (by omega) (by decide +kernel) (al_cons (z.v (by decide +kernel)) (al_cons (se_op ok_add (z.v (by decide +kernel)) (se_lst (al_cons (se_tup (al_cons se_non al_nil).sa) al_nil).sa)) al_nil))) (by decide +kernel)) (sss_cons (z.set (se_lst (al_cons (z.word (j := 5) (W_word G z.room _) G.tb_law e6 (by rw [e7]; exact G.tm_law) (by rw [e7]; exact G.tu_law) (by omega) (by decide +kernel) (by decide +kernel) (tbl_mg G) rfl (fun _ _ _ _ _ => rfl) (fun Y W _ _ q3 q4 q5 z => by have G := gx_at G q3 q4 q5; exact (z.call (F_toss_chances G) (by omega) (by decide +kernel) (al_cons (z.v (by decide +kernel)) al_nil)))) al_nil).sa) (by decide +kernel)) (sss_cons (ss_expr (z.app (z.v (by decide +kernel)) (z.word (j := 5) (W_word G z.room _) G.tb_law e6 (by rw [e7]; exact G.tm_law) (by rw [e7]; exact G.tu_law) (by omega) (by decide +kernel) (by decide +kernel) (tbl_mg G) rfl (fun _ _ _ _ _ => rfl) (fun Y W _ _ q3 q4 q5 z => by have G := gx_at G q3 q4 q5; exact (z.call (F_prices G) (by omega) (by decide +kernel) (al_cons (z.v (by decide +kernel)) al_nil))))) (by rfl)) (sss_cons (ss_expr (z.app (z.v (by decide +kernel)) (z.word (j := 5) (W_word G z.room _) G.tb_law e6 (by rw [e7]; exact G.tm_law) (by rw [e7]; exact G.tu_law) (by omega) (by decide +kernel) (by decide +kernel) (tbl_mg G) rfl (fun _ _ _ _ _ => rfl) (fun Y W _ _ q3 q4 q5 z => by have G := gx_at G q3 q4 q5; exact (z.call (F_turned_net G) (by omega) (by decide +kernel) (al_cons (z.v (by decide +kernel)) al_nil))))) (by rfl)) (sss_cons (ss_expr (z.app (z.v (by decide +kernel)) (z.word (j := 5) (W_word G z.room _) G.tb_law e6 (by rw [e7]; exact G.tm_law) (by rw [e7]; exact G.tu_law) (by omega) (by decide +kernel) (by decide +kernel) (tbl_mg G) rfl (fun _ _ _ _ _ => rfl) (fun Y W _ _ q3 q4 q5 z => by have G := gx_at G q3 q4 q5; exact (z.call (F_by_turns G) (by omega) (by decide +kernel) (al_cons (z.v (by decide +kernel)) (al_cons se_bl al_nil)))))) (by rfl)) (sss_cons (ss_expr (z.app (z.v (by decide +kernel)) (z.word (j := 3) (W_word G z.room _) G.tb_law e6 (by rw [e7]; exact G.tm_law) (by rw [e7]; exact G.tu_law) (by omega) (by decide +kernel) (by decide +kernel) (tbl_mg G) rfl (fun _ _ _ _ _ => rfl) (fun Y W _ _ q3 q4 q5 z => by have G := gx_at G q3 q4 q5; exact (z.call (F_ladder G) (by omega) (by decide +kernel) (al_cons (z.call (F__law_any G) (by omega) (by decide +kernel) (al_cons (z.v (by decide +kernel)) (al_cons (se_lst (al_cons (z.call (F__law_no_number G) (by omega) (by decide +kernel) (al_cons (z.v (by decide +kernel)) al_nil)) (al_cons se_int (al_cons se_int al_nil))).sa) al_nil))) al_nil))))) (by rfl)) (sss_cons (ss_ret (se_and (se_cmp (ok_eq z.un) (z.v (by decide +kernel)) (se_op ok_add (se_op ok_mul (se_lst (al_cons se_str al_nil).sa) se_int) (se_lst (al_cons se_str al_nil).sa)) (by rfl)) (se_one (se_cmp ok_is (z.call (F_is_net G) (by omega) (by decide +kernel) (al_cons (z.v (by decide +kernel)) al_nil)) se_bl (by rfl))))) sss_nil))))))))))))))))
theorem F_law (G : Gx K mg A base) : FnD P w K mg base 8 "law" 1 m_law := G.d_law.fn BLs GCs (k := 7) G.bl G.gc (S_law G)
end
section
variable {K : PySem.W.Frag} {mg : Str → Option Value}
theorem sc_is_integer : FnScope N_is_integer ["thing"] (defScope (top 1)) := ⟨rfl, rfl, rfl, by decide +kernel, rfl, by decide +kernel, by decide +kernel⟩
theorem sc_is_within : FnScope N_is_within ["thing", "low", "high"] (defScope (top 2)) := ⟨rfl, rfl, rfl, by decide +kernel, rfl, by decide +kernel, by decide +kernel⟩
theorem sc_common : FnScope N_common ["one", "other"] (defScope (top 3)) := ⟨rfl, rfl, rfl, by decide +kernel, rfl, by decide +kernel, by decide +kernel⟩
theorem sc_frac : FnScope N_frac ["top", "bottom"] (defScope (top 4)) := ⟨rfl, rfl, rfl, by decide +kernel, rfl, by decide +kernel, by decide +kernel⟩
theorem sc_plus : FnScope N_plus ["one", "other"] (defScope (top 5)) := ⟨rfl, rfl, rfl, by decide +kernel, rfl, by decide +kernel, by decide +kernel⟩
theorem sc_half_of : FnScope N_half_of ["one"] (defScope (top 6)) := ⟨rfl, rfl, rfl, by decide +kernel, rfl, by decide +kernel, by decide +kernel⟩
theorem sc_less : FnScope N_less ["one", "other"] (defScope (top 7)) := ⟨rfl, rfl, rfl, by decide +kernel, rfl, by decide +kernel, by decide +kernel⟩
theorem sc_least_of : FnScope N_least_of ["some"] (defScope (top 8)) := ⟨rfl, rfl, rfl, by decide +kernel, rfl, by decide +kernel, by decide +kernel⟩
theorem sc_greatest_of : FnScope N_greatest_of ["some"] (defScope (top 9)) := ⟨rfl, rfl, rfl, by decide +kernel, rfl, by decide +kernel, by decide +kernel⟩
theorem sc_is_net : FnScope N_is_net ["thing"] (defScope (top 25)) := ⟨rfl, rfl, rfl, by decide +kernel, rfl, by decide +kernel, by decide +kernel⟩
theorem sc_check_net : FnScope N_check_net ["net"] (defScope (top 26)) := ⟨rfl, rfl, rfl, by decide +kernel, rfl, by decide +kernel, by decide +kernel⟩
theorem sc_prices_of : FnScope N_prices_of ["net"] (defScope (top 27)) := ⟨rfl, rfl, rfl, by decide +kernel, rfl, by decide +kernel, by decide +kernel⟩
theorem sc_prices : FnScope N_prices ["net"] (defScope (top 28)) := ⟨rfl, rfl, rfl, by decide +kernel, rfl, by decide +kernel, by decide +kernel⟩
theorem sc_toss_chances : FnScope N_toss_chances ["net"] (defScope (top 29)) := ⟨rfl, rfl, rfl, by decide +kernel, rfl, by decide +kernel, by decide +kernel⟩
theorem sc_turned_net : FnScope N_turned_net ["net"] (defScope (top 30)) := ⟨rfl, rfl, rfl, by decide +kernel, rfl, by decide +kernel, by decide +kernel⟩
theorem sc_by_turns : FnScope N_by_turns ["net", "is_mine"] (defScope (top 31)) := ⟨rfl, rfl, rfl, by decide +kernel, rfl, by decide +kernel, by decide +kernel⟩
theorem sc_ladder : FnScope N_ladder ["many"] (defScope (top 32)) := ⟨rfl, rfl, rfl, by decide +kernel, rfl, by decide +kernel, by decide +kernel⟩
theorem sc__law_hand : FnScope N__law_hand ["script"] (defScope (top 34)) := ⟨rfl, rfl, rfl, by decide +kernel, rfl, by decide +kernel, by decide +kernel⟩
theorem sc__law_draw : FnScope N__law_draw ["hand", "many"] (defScope (top 35)) := ⟨rfl, rfl, rfl, by decide +kernel, rfl, by decide +kernel, by decide +kernel⟩
theorem sc__law_any : FnScope N__law_any ["hand", "some"] (defScope (top 36)) := ⟨rfl, rfl, rfl, by decide +kernel, rfl, by decide +kernel, by decide +kernel⟩
theorem sc__law_is : FnScope N__law_is ["answer", "due"] (defScope (top 37)) := ⟨rfl, rfl, rfl, by decide +kernel, rfl, by decide +kernel, by decide +kernel⟩
theorem sc__law_gcd : FnScope N__law_gcd ["a", "b"] (defScope (top 38)) := ⟨rfl, rfl, rfl, by decide +kernel, rfl, by decide +kernel, by decide +kernel⟩
theorem sc__law_frac : FnScope N__law_frac ["n", "d"] (defScope (top 39)) := ⟨rfl, rfl, rfl, by decide +kernel, rfl, by decide +kernel, by decide +kernel⟩
theorem sc__law_add : FnScope N__law_add ["p", "q"] (defScope (top 40)) := ⟨rfl, rfl, rfl, by decide +kernel, rfl, by decide +kernel, by decide +kernel⟩
theorem sc__law_less : FnScope N__law_less ["p", "q"] (defScope (top 41)) := ⟨rfl, rfl, rfl, by decide +kernel, rfl, by decide +kernel, by decide +kernel⟩
theorem sc__law_no_number : FnScope N__law_no_number ["hand"] (defScope (top 43)) := ⟨rfl, rfl, rfl, by decide +kernel, rfl, by decide +kernel, by decide +kernel⟩
theorem sc__law_net_of : FnScope N__law_net_of ["hand", "most_of"] (defScope (top 44)) := ⟨rfl, rfl, rfl, by decide +kernel, rfl, by decide +kernel, by decide +kernel⟩
theorem sc__law_half : FnScope N__law_half ["one", "other"] (defScope (top 45)) := ⟨rfl, rfl, rfl, by decide +kernel, rfl, by decide +kernel, by decide +kernel⟩
theorem sc__law_chances : FnScope N__law_chances ["net"] (defScope (top 46)) := ⟨rfl, rfl, rfl, by decide +kernel, rfl, by decide +kernel, by decide +kernel⟩
theorem sc__law_turns : FnScope N__law_turns ["net"] (defScope (top 47)) := ⟨rfl, rfl, rfl, by decide +kernel, rfl, by decide +kernel, by decide +kernel⟩
theorem sc__law_is_right : FnScope N__law_is_right ["net"] (defScope (top 48)) := ⟨rfl, rfl, rfl, by decide +kernel, rfl, by decide +kernel, by decide +kernel⟩
theorem sc__law_ladder : FnScope N__law_ladder ["many"] (defScope (top 49)) := ⟨rfl, rfl, rfl, by decide +kernel, rfl, by decide +kernel, by decide +kernel⟩
theorem sc__law_rounds : FnScope N__law_rounds ["many", "won", "lost"] (defScope (top 50)) := ⟨rfl, rfl, rfl, by decide +kernel, rfl, by decide +kernel, by decide +kernel⟩
theorem sc_law : FnScope N_law ["script"] (defScope (top 51)) := ⟨rfl, rfl, rfl, by decide +kernel, rfl, by decide +kernel, by decide +kernel⟩
theorem sc__law_word : FnScope N__law_word ["call"] (defScope (top 42)) := ⟨rfl, rfl, rfl, by decide +kernel, rfl, by decide +kernel, by decide +kernel⟩
omit [Tb] in
theorem fin {l : PySem.W.OpenLaw} {w : World} {qq : Program} {h : Heap} {fa : Addr} (H1 : ∀ (_ : Tb) (ns : List Int), ns.length ≤ 63 → HoldsAt m_law ns) (X : K.In h) (G : h.Ns mainGlobals mg) (hfa : mg "law" = some (.ref fa)) (AT : AllTab qq K mg h)
    {f0 : Addr} {od0 an0 : Option Addr} {sl0 : Array (Option Value)} {oc0 kV0 dc0 pm0 cd0 ct0 : Value}
    {f1 : Addr} {od1 an1 : Option Addr} {sl1 : Array (Option Value)} {oc1 kV1 dc1 pm1 cd1 ct1 : Value}
    {f2 : Addr} {od2 an2 : Option Addr} {sl2 : Array (Option Value)} {oc2 kV2 dc2 pm2 cd2 ct2 : Value}
    {f3 : Addr} {od3 an3 : Option Addr} {sl3 : Array (Option Value)} {oc3 kV3 dc3 pm3 cd3 ct3 : Value}
    {f4 : Addr} {od4 an4 : Option Addr} {sl4 : Array (Option Value)} {oc4 kV4 dc4 pm4 cd4 ct4 : Value}
    {f5 : Addr} {od5 an5 : Option Addr} {sl5 : Array (Option Value)} {oc5 kV5 dc5 pm5 cd5 ct5 : Value}
    {f6 : Addr} {od6 an6 : Option Addr} {sl6 : Array (Option Value)} {oc6 kV6 dc6 pm6 cd6 ct6 : Value}
    {f7 : Addr} {od7 an7 : Option Addr} {sl7 : Array (Option Value)} {oc7 kV7 dc7 pm7 cd7 ct7 : Value}
    {f8 : Addr} {od8 an8 : Option Addr} {sl8 : Array (Option Value)} {oc8 kV8 dc8 pm8 cd8 ct8 : Value}
    {f9 : Addr} {od9 an9 : Option Addr} {sl9 : Array (Option Value)} {oc9 kV9 dc9 pm9 cd9 ct9 : Value}
    {f10 : Addr} {od10 an10 : Option Addr} {sl10 : Array (Option Value)} {oc10 kV10 dc10 pm10 cd10 ct10 : Value}
    {f11 : Addr} {od11 an11 : Option Addr} {sl11 : Array (Option Value)} {oc11 kV11 dc11 pm11 cd11 ct11 : Value}
    {f12 : Addr} {od12 an12 : Option Addr} {sl12 : Array (Option Value)} {oc12 kV12 dc12 pm12 cd12 ct12 : Value}
    {f13 : Addr} {od13 an13 : Option Addr} {sl13 : Array (Option Value)} {oc13 kV13 dc13 pm13 cd13 ct13 : Value}
    {f14 : Addr} {od14 an14 : Option Addr} {sl14 : Array (Option Value)} {oc14 kV14 dc14 pm14 cd14 ct14 : Value}
    {f15 : Addr} {od15 an15 : Option Addr} {sl15 : Array (Option Value)} {oc15 kV15 dc15 pm15 cd15 ct15 : Value}
    {f16 : Addr} {od16 an16 : Option Addr} {sl16 : Array (Option Value)} {oc16 kV16 dc16 pm16 cd16 ct16 : Value}
    {f17 : Addr} {od17 an17 : Option Addr} {sl17 : Array (Option Value)} {oc17 kV17 dc17 pm17 cd17 ct17 : Value}
    {f18 : Addr} {od18 an18 : Option Addr} {sl18 : Array (Option Value)} {oc18 kV18 dc18 pm18 cd18 ct18 : Value}
    {f19 : Addr} {od19 an19 : Option Addr} {sl19 : Array (Option Value)} {oc19 kV19 dc19 pm19 cd19 ct19 : Value}
    {f20 : Addr} {od20 an20 : Option Addr} {sl20 : Array (Option Value)} {oc20 kV20 dc20 pm20 cd20 ct20 : Value}
    {f21 : Addr} {od21 an21 : Option Addr} {sl21 : Array (Option Value)} {oc21 kV21 dc21 pm21 cd21 ct21 : Value}
    {f22 : Addr} {od22 an22 : Option Addr} {sl22 : Array (Option Value)} {oc22 kV22 dc22 pm22 cd22 ct22 : Value}
    {f23 : Addr} {od23 an23 : Option Addr} {sl23 : Array (Option Value)} {oc23 kV23 dc23 pm23 cd23 ct23 : Value}
    {f24 : Addr} {od24 an24 : Option Addr} {sl24 : Array (Option Value)} {oc24 kV24 dc24 pm24 cd24 ct24 : Value}
    {f25 : Addr} {od25 an25 : Option Addr} {sl25 : Array (Option Value)} {oc25 kV25 dc25 pm25 cd25 ct25 : Value}
    {f26 : Addr} {od26 an26 : Option Addr} {sl26 : Array (Option Value)} {oc26 kV26 dc26 pm26 cd26 ct26 : Value}
    {f27 : Addr} {od27 an27 : Option Addr} {sl27 : Array (Option Value)} {oc27 kV27 dc27 pm27 cd27 ct27 : Value}
    {f28 : Addr} {od28 an28 : Option Addr} {sl28 : Array (Option Value)} {oc28 kV28 dc28 pm28 cd28 ct28 : Value}
    {f29 : Addr} {od29 an29 : Option Addr} {sl29 : Array (Option Value)} {oc29 kV29 dc29 pm29 cd29 ct29 : Value}
    {f30 : Addr} {od30 an30 : Option Addr} {sl30 : Array (Option Value)} {oc30 kV30 dc30 pm30 cd30 ct30 : Value}
    {f31 : Addr} {od31 an31 : Option Addr} {sl31 : Array (Option Value)} {oc31 kV31 dc31 pm31 cd31 ct31 : Value}
    {f32 : Addr} {od32 an32 : Option Addr} {sl32 : Array (Option Value)} {oc32 kV32 dc32 pm32 cd32 ct32 : Value}
    {f33 : Addr} {od33 an33 : Option Addr} {sl33 : Array (Option Value)} {oc33 kV33 dc33 pm33 ct33 : Value} {cc33 P33 : Addr} {ob33 : Obj}
    {f34 : Addr} {od34 an34 : Option Addr} {sl34 : Array (Option Value)} {oc34 kV34 dc34 pm34 cd34 ct34 : Value}
    {C_PlayError : Addr}
    {C_BadBoard : Addr}
    {C_BadBoardWays : Addr}
    {C_BadGame : Addr}
    {C_BadNumber : Addr}
    {C_BadOrder : Addr}
    {C_BadRule : Addr}
    {C_BadStrip : Addr}
    {C_BadWays : Addr}
    {C_TooMany : Addr}
    {g2t1 : Tok}
    {g1t1 : Tok}
    {g0t1 : Tok}
    (a0 : PySem.W.nsIn K mainGlobals "is_integer" = some (some (.ref f0)))
    (l0 : K.lookup f0 = some ⟨oc0, od0, .func (PySem.W.fnOf "is_integer" "is_integer" (defArgs (top 1)) (defBody (top 1)) (defScope (top 1)) .none kV0 dc0 pm0 an0 cd0 ct0), sl0⟩)
    (c0 : PySem.W.codeIn K cd0 "is_integer" = true)
    (k0 : PySem.W.keepIn K (.ref f0) = true)
    (a1 : PySem.W.nsIn K mainGlobals "is_within" = some (some (.ref f1)))
    (l1 : K.lookup f1 = some ⟨oc1, od1, .func (PySem.W.fnOf "is_within" "is_within" (defArgs (top 2)) (defBody (top 2)) (defScope (top 2)) .none kV1 dc1 pm1 an1 cd1 ct1), sl1⟩)
    (c1 : PySem.W.codeIn K cd1 "is_within" = true)
    (k1 : PySem.W.keepIn K (.ref f1) = true)
    (a2 : PySem.W.nsIn K mainGlobals "common" = some (some (.ref f2)))
    (l2 : K.lookup f2 = some ⟨oc2, od2, .func (PySem.W.fnOf "common" "common" (defArgs (top 3)) (defBody (top 3)) (defScope (top 3)) .none kV2 dc2 pm2 an2 cd2 ct2), sl2⟩)
    (c2 : PySem.W.codeIn K cd2 "common" = true)
    (k2 : PySem.W.keepIn K (.ref f2) = true)
    (a3 : PySem.W.nsIn K mainGlobals "frac" = some (some (.ref f3)))
    (l3 : K.lookup f3 = some ⟨oc3, od3, .func (PySem.W.fnOf "frac" "frac" (defArgs (top 4)) (defBody (top 4)) (defScope (top 4)) .none kV3 dc3 pm3 an3 cd3 ct3), sl3⟩)
    (c3 : PySem.W.codeIn K cd3 "frac" = true)
    (k3 : PySem.W.keepIn K (.ref f3) = true)
    (a4 : PySem.W.nsIn K mainGlobals "plus" = some (some (.ref f4)))
    (l4 : K.lookup f4 = some ⟨oc4, od4, .func (PySem.W.fnOf "plus" "plus" (defArgs (top 5)) (defBody (top 5)) (defScope (top 5)) .none kV4 dc4 pm4 an4 cd4 ct4), sl4⟩)
    (c4 : PySem.W.codeIn K cd4 "plus" = true)
    (k4 : PySem.W.keepIn K (.ref f4) = true)
    (a5 : PySem.W.nsIn K mainGlobals "half_of" = some (some (.ref f5)))
    (l5 : K.lookup f5 = some ⟨oc5, od5, .func (PySem.W.fnOf "half_of" "half_of" (defArgs (top 6)) (defBody (top 6)) (defScope (top 6)) .none kV5 dc5 pm5 an5 cd5 ct5), sl5⟩)
    (c5 : PySem.W.codeIn K cd5 "half_of" = true)
    (k5 : PySem.W.keepIn K (.ref f5) = true)
    (a6 : PySem.W.nsIn K mainGlobals "less" = some (some (.ref f6)))
    (l6 : K.lookup f6 = some ⟨oc6, od6, .func (PySem.W.fnOf "less" "less" (defArgs (top 7)) (defBody (top 7)) (defScope (top 7)) .none kV6 dc6 pm6 an6 cd6 ct6), sl6⟩)
    (c6 : PySem.W.codeIn K cd6 "less" = true)
    (k6 : PySem.W.keepIn K (.ref f6) = true)
    (a7 : PySem.W.nsIn K mainGlobals "least_of" = some (some (.ref f7)))
    (l7 : K.lookup f7 = some ⟨oc7, od7, .func (PySem.W.fnOf "least_of" "least_of" (defArgs (top 8)) (defBody (top 8)) (defScope (top 8)) .none kV7 dc7 pm7 an7 cd7 ct7), sl7⟩)
    (c7 : PySem.W.codeIn K cd7 "least_of" = true)
    (k7 : PySem.W.keepIn K (.ref f7) = true)
    (a8 : PySem.W.nsIn K mainGlobals "greatest_of" = some (some (.ref f8)))
    (l8 : K.lookup f8 = some ⟨oc8, od8, .func (PySem.W.fnOf "greatest_of" "greatest_of" (defArgs (top 9)) (defBody (top 9)) (defScope (top 9)) .none kV8 dc8 pm8 an8 cd8 ct8), sl8⟩)
    (c8 : PySem.W.codeIn K cd8 "greatest_of" = true)
    (k8 : PySem.W.keepIn K (.ref f8) = true)
    (a9 : PySem.W.nsIn K mainGlobals "is_net" = some (some (.ref f9)))
    (l9 : K.lookup f9 = some ⟨oc9, od9, .func (PySem.W.fnOf "is_net" "is_net" (defArgs (top 25)) (defBody (top 25)) (defScope (top 25)) .none kV9 dc9 pm9 an9 cd9 ct9), sl9⟩)
    (c9 : PySem.W.codeIn K cd9 "is_net" = true)
    (k9 : PySem.W.keepIn K (.ref f9) = true)
    (a10 : PySem.W.nsIn K mainGlobals "check_net" = some (some (.ref f10)))
    (l10 : K.lookup f10 = some ⟨oc10, od10, .func (PySem.W.fnOf "check_net" "check_net" (defArgs (top 26)) (defBody (top 26)) (defScope (top 26)) .none kV10 dc10 pm10 an10 cd10 ct10), sl10⟩)
    (c10 : PySem.W.codeIn K cd10 "check_net" = true)
    (k10 : PySem.W.keepIn K (.ref f10) = true)
    (a11 : PySem.W.nsIn K mainGlobals "prices_of" = some (some (.ref f11)))
    (l11 : K.lookup f11 = some ⟨oc11, od11, .func (PySem.W.fnOf "prices_of" "prices_of" (defArgs (top 27)) (defBody (top 27)) (defScope (top 27)) .none kV11 dc11 pm11 an11 cd11 ct11), sl11⟩)
    (c11 : PySem.W.codeIn K cd11 "prices_of" = true)
    (k11 : PySem.W.keepIn K (.ref f11) = true)
    (a12 : PySem.W.nsIn K mainGlobals "prices" = some (some (.ref f12)))
    (l12 : K.lookup f12 = some ⟨oc12, od12, .func (PySem.W.fnOf "prices" "prices" (defArgs (top 28)) (defBody (top 28)) (defScope (top 28)) .none kV12 dc12 pm12 an12 cd12 ct12), sl12⟩)
    (c12 : PySem.W.codeIn K cd12 "prices" = true)
    (k12 : PySem.W.keepIn K (.ref f12) = true)
    (a13 : PySem.W.nsIn K mainGlobals "toss_chances" = some (some (.ref f13)))
    (l13 : K.lookup f13 = some ⟨oc13, od13, .func (PySem.W.fnOf "toss_chances" "toss_chances" (defArgs (top 29)) (defBody (top 29)) (defScope (top 29)) .none kV13 dc13 pm13 an13 cd13 ct13), sl13⟩)
    (c13 : PySem.W.codeIn K cd13 "toss_chances" = true)
    (k13 : PySem.W.keepIn K (.ref f13) = true)
    (a14 : PySem.W.nsIn K mainGlobals "turned_net" = some (some (.ref f14)))
    (l14 : K.lookup f14 = some ⟨oc14, od14, .func (PySem.W.fnOf "turned_net" "turned_net" (defArgs (top 30)) (defBody (top 30)) (defScope (top 30)) .none kV14 dc14 pm14 an14 cd14 ct14), sl14⟩)
    (c14 : PySem.W.codeIn K cd14 "turned_net" = true)
    (k14 : PySem.W.keepIn K (.ref f14) = true)
    (a15 : PySem.W.nsIn K mainGlobals "by_turns" = some (some (.ref f15)))
    (l15 : K.lookup f15 = some ⟨oc15, od15, .func (PySem.W.fnOf "by_turns" "by_turns" (defArgs (top 31)) (defBody (top 31)) (defScope (top 31)) .none kV15 dc15 pm15 an15 cd15 ct15), sl15⟩)
    (c15 : PySem.W.codeIn K cd15 "by_turns" = true)
    (k15 : PySem.W.keepIn K (.ref f15) = true)
    (a16 : PySem.W.nsIn K mainGlobals "ladder" = some (some (.ref f16)))
    (l16 : K.lookup f16 = some ⟨oc16, od16, .func (PySem.W.fnOf "ladder" "ladder" (defArgs (top 32)) (defBody (top 32)) (defScope (top 32)) .none kV16 dc16 pm16 an16 cd16 ct16), sl16⟩)
    (c16 : PySem.W.codeIn K cd16 "ladder" = true)
    (k16 : PySem.W.keepIn K (.ref f16) = true)
    (a17 : PySem.W.nsIn K mainGlobals "_law_hand" = some (some (.ref f17)))
    (l17 : K.lookup f17 = some ⟨oc17, od17, .func (PySem.W.fnOf "_law_hand" "_law_hand" (defArgs (top 34)) (defBody (top 34)) (defScope (top 34)) .none kV17 dc17 pm17 an17 cd17 ct17), sl17⟩)
    (c17 : PySem.W.codeIn K cd17 "_law_hand" = true)
    (k17 : PySem.W.keepIn K (.ref f17) = true)
    (a18 : PySem.W.nsIn K mainGlobals "_law_draw" = some (some (.ref f18)))
    (l18 : K.lookup f18 = some ⟨oc18, od18, .func (PySem.W.fnOf "_law_draw" "_law_draw" (defArgs (top 35)) (defBody (top 35)) (defScope (top 35)) .none kV18 dc18 pm18 an18 cd18 ct18), sl18⟩)
    (c18 : PySem.W.codeIn K cd18 "_law_draw" = true)
    (k18 : PySem.W.keepIn K (.ref f18) = true)
    (a19 : PySem.W.nsIn K mainGlobals "_law_any" = some (some (.ref f19)))
    (l19 : K.lookup f19 = some ⟨oc19, od19, .func (PySem.W.fnOf "_law_any" "_law_any" (defArgs (top 36)) (defBody (top 36)) (defScope (top 36)) .none kV19 dc19 pm19 an19 cd19 ct19), sl19⟩)
    (c19 : PySem.W.codeIn K cd19 "_law_any" = true)
    (k19 : PySem.W.keepIn K (.ref f19) = true)
    (a20 : PySem.W.nsIn K mainGlobals "_law_is" = some (some (.ref f20)))
    (l20 : K.lookup f20 = some ⟨oc20, od20, .func (PySem.W.fnOf "_law_is" "_law_is" (defArgs (top 37)) (defBody (top 37)) (defScope (top 37)) .none kV20 dc20 pm20 an20 cd20 ct20), sl20⟩)
    (c20 : PySem.W.codeIn K cd20 "_law_is" = true)
    (k20 : PySem.W.keepIn K (.ref f20) = true)
    (a21 : PySem.W.nsIn K mainGlobals "_law_gcd" = some (some (.ref f21)))
    (l21 : K.lookup f21 = some ⟨oc21, od21, .func (PySem.W.fnOf "_law_gcd" "_law_gcd" (defArgs (top 38)) (defBody (top 38)) (defScope (top 38)) .none kV21 dc21 pm21 an21 cd21 ct21), sl21⟩)
    (c21 : PySem.W.codeIn K cd21 "_law_gcd" = true)
    (k21 : PySem.W.keepIn K (.ref f21) = true)
    (a22 : PySem.W.nsIn K mainGlobals "_law_frac" = some (some (.ref f22)))
    (l22 : K.lookup f22 = some ⟨oc22, od22, .func (PySem.W.fnOf "_law_frac" "_law_frac" (defArgs (top 39)) (defBody (top 39)) (defScope (top 39)) .none kV22 dc22 pm22 an22 cd22 ct22), sl22⟩)
    (c22 : PySem.W.codeIn K cd22 "_law_frac" = true)
    (k22 : PySem.W.keepIn K (.ref f22) = true)
    (a23 : PySem.W.nsIn K mainGlobals "_law_add" = some (some (.ref f23)))
    (l23 : K.lookup f23 = some ⟨oc23, od23, .func (PySem.W.fnOf "_law_add" "_law_add" (defArgs (top 40)) (defBody (top 40)) (defScope (top 40)) .none kV23 dc23 pm23 an23 cd23 ct23), sl23⟩)
    (c23 : PySem.W.codeIn K cd23 "_law_add" = true)
    (k23 : PySem.W.keepIn K (.ref f23) = true)
    (a24 : PySem.W.nsIn K mainGlobals "_law_less" = some (some (.ref f24)))
    (l24 : K.lookup f24 = some ⟨oc24, od24, .func (PySem.W.fnOf "_law_less" "_law_less" (defArgs (top 41)) (defBody (top 41)) (defScope (top 41)) .none kV24 dc24 pm24 an24 cd24 ct24), sl24⟩)
    (c24 : PySem.W.codeIn K cd24 "_law_less" = true)
    (k24 : PySem.W.keepIn K (.ref f24) = true)
    (a25 : PySem.W.nsIn K mainGlobals "_law_no_number" = some (some (.ref f25)))
    (l25 : K.lookup f25 = some ⟨oc25, od25, .func (PySem.W.fnOf "_law_no_number" "_law_no_number" (defArgs (top 43)) (defBody (top 43)) (defScope (top 43)) .none kV25 dc25 pm25 an25 cd25 ct25), sl25⟩)
    (c25 : PySem.W.codeIn K cd25 "_law_no_number" = true)
    (k25 : PySem.W.keepIn K (.ref f25) = true)
    (a26 : PySem.W.nsIn K mainGlobals "_law_net_of" = some (some (.ref f26)))
    (l26 : K.lookup f26 = some ⟨oc26, od26, .func (PySem.W.fnOf "_law_net_of" "_law_net_of" (defArgs (top 44)) (defBody (top 44)) (defScope (top 44)) .none kV26 dc26 pm26 an26 cd26 ct26), sl26⟩)
    (c26 : PySem.W.codeIn K cd26 "_law_net_of" = true)
    (k26 : PySem.W.keepIn K (.ref f26) = true)
    (a27 : PySem.W.nsIn K mainGlobals "_law_half" = some (some (.ref f27)))
    (l27 : K.lookup f27 = some ⟨oc27, od27, .func (PySem.W.fnOf "_law_half" "_law_half" (defArgs (top 45)) (defBody (top 45)) (defScope (top 45)) .none kV27 dc27 pm27 an27 cd27 ct27), sl27⟩)
    (c27 : PySem.W.codeIn K cd27 "_law_half" = true)
    (k27 : PySem.W.keepIn K (.ref f27) = true)
    (a28 : PySem.W.nsIn K mainGlobals "_law_chances" = some (some (.ref f28)))
    (l28 : K.lookup f28 = some ⟨oc28, od28, .func (PySem.W.fnOf "_law_chances" "_law_chances" (defArgs (top 46)) (defBody (top 46)) (defScope (top 46)) .none kV28 dc28 pm28 an28 cd28 ct28), sl28⟩)
    (c28 : PySem.W.codeIn K cd28 "_law_chances" = true)
    (k28 : PySem.W.keepIn K (.ref f28) = true)
    (a29 : PySem.W.nsIn K mainGlobals "_law_turns" = some (some (.ref f29)))
    (l29 : K.lookup f29 = some ⟨oc29, od29, .func (PySem.W.fnOf "_law_turns" "_law_turns" (defArgs (top 47)) (defBody (top 47)) (defScope (top 47)) .none kV29 dc29 pm29 an29 cd29 ct29), sl29⟩)
    (c29 : PySem.W.codeIn K cd29 "_law_turns" = true)
    (k29 : PySem.W.keepIn K (.ref f29) = true)
    (a30 : PySem.W.nsIn K mainGlobals "_law_is_right" = some (some (.ref f30)))
    (l30 : K.lookup f30 = some ⟨oc30, od30, .func (PySem.W.fnOf "_law_is_right" "_law_is_right" (defArgs (top 48)) (defBody (top 48)) (defScope (top 48)) .none kV30 dc30 pm30 an30 cd30 ct30), sl30⟩)
    (c30 : PySem.W.codeIn K cd30 "_law_is_right" = true)
    (k30 : PySem.W.keepIn K (.ref f30) = true)
    (a31 : PySem.W.nsIn K mainGlobals "_law_ladder" = some (some (.ref f31)))
    (l31 : K.lookup f31 = some ⟨oc31, od31, .func (PySem.W.fnOf "_law_ladder" "_law_ladder" (defArgs (top 49)) (defBody (top 49)) (defScope (top 49)) .none kV31 dc31 pm31 an31 cd31 ct31), sl31⟩)
    (c31 : PySem.W.codeIn K cd31 "_law_ladder" = true)
    (k31 : PySem.W.keepIn K (.ref f31) = true)
    (a32 : PySem.W.nsIn K mainGlobals "_law_rounds" = some (some (.ref f32)))
    (l32 : K.lookup f32 = some ⟨oc32, od32, .func (PySem.W.fnOf "_law_rounds" "_law_rounds" (defArgs (top 50)) (defBody (top 50)) (defScope (top 50)) .none kV32 dc32 pm32 an32 cd32 ct32), sl32⟩)
    (c32 : PySem.W.codeIn K cd32 "_law_rounds" = true)
    (k32 : PySem.W.keepIn K (.ref f32) = true)
    (a33 : PySem.W.nsIn K mainGlobals "law" = some (some (.ref f33)))
    (l33 : K.lookup f33 = some ⟨oc33, od33, .func (PySem.W.fnOf "law" "law" (defArgs (top 51)) (defBody (top 51)) (defScope (top 51)) .none kV33 dc33 pm33 an33 (.ref cc33) ct33), sl33⟩)
    (c33 : PySem.W.codeIn K (.ref cc33) "law" = true)
    (k33 : PySem.W.keepIn K (.ref f33) = true)
    (o33 : K.lookup cc33 = some ob33)
    (w33 : CodeOk ob33 cc33 P33)
    (n33 : K.lookup P33 = none)
    (r33 : ((recsOf qq).any fun e => e.name == "law") = true)
    (a34 : PySem.W.nsIn K mainGlobals "_law_word" = some (some (.ref f34)))
    (l34 : K.lookup f34 = some ⟨oc34, od34, .func (PySem.W.fnOf "_law_word" "_law_word" (defArgs (top 42)) (defBody (top 42)) (defScope (top 42)) .none kV34 dc34 pm34 an34 cd34 ct34), sl34⟩)
    (c34 : PySem.W.codeIn K cd34 "_law_word" = true)
    (k34 : PySem.W.keepIn K (.ref f34) = true)
    (pn : [P33].Nodup)
    (z0 : PySem.W.nsIn K mainGlobals "ValueError" = some none)
    (z1 : PySem.W.nsIn K mainGlobals "abs" = some none)
    (z2 : PySem.W.nsIn K mainGlobals "all" = some none)
    (z3 : PySem.W.nsIn K mainGlobals "any" = some none)
    (z4 : PySem.W.nsIn K mainGlobals "bool" = some none)
    (z5 : PySem.W.nsIn K mainGlobals "dict" = some none)
    (z6 : PySem.W.nsIn K mainGlobals "enumerate" = some none)
    (z7 : PySem.W.nsIn K mainGlobals "int" = some none)
    (z8 : PySem.W.nsIn K mainGlobals "isinstance" = some none)
    (z9 : PySem.W.nsIn K mainGlobals "len" = some none)
    (z10 : PySem.W.nsIn K mainGlobals "list" = some none)
    (z11 : PySem.W.nsIn K mainGlobals "range" = some none)
    (z12 : PySem.W.nsIn K mainGlobals "sorted" = some none)
    (z13 : PySem.W.nsIn K mainGlobals "str" = some none)
    (z14 : PySem.W.nsIn K mainGlobals "sum" = some none)
    (z15 : PySem.W.nsIn K mainGlobals "tuple" = some none)
    (z16 : PySem.W.nsIn K mainGlobals "zip" = some none)
    (y_PlayError : PySem.W.nsIn K mainGlobals "PlayError" = some (some (.ref C_PlayError)))
    (y_BadBoard : PySem.W.nsIn K mainGlobals "BadBoard" = some (some (.ref C_BadBoard)))
    (y_BadBoardWays : PySem.W.nsIn K mainGlobals "BadBoardWays" = some (some (.ref C_BadBoardWays)))
    (y_BadGame : PySem.W.nsIn K mainGlobals "BadGame" = some (some (.ref C_BadGame)))
    (y_BadNumber : PySem.W.nsIn K mainGlobals "BadNumber" = some (some (.ref C_BadNumber)))
    (y_BadOrder : PySem.W.nsIn K mainGlobals "BadOrder" = some (some (.ref C_BadOrder)))
    (y_BadRule : PySem.W.nsIn K mainGlobals "BadRule" = some (some (.ref C_BadRule)))
    (y_BadStrip : PySem.W.nsIn K mainGlobals "BadStrip" = some (some (.ref C_BadStrip)))
    (y_BadWays : PySem.W.nsIn K mainGlobals "BadWays" = some (some (.ref C_BadWays)))
    (y_TooMany : PySem.W.nsIn K mainGlobals "TooMany" = some (some (.ref C_TooMany)))
    (x1_BadBoardWays : PySem.W.excIn K C_BadBoardWays veC "ValueError.__new__" = true)
    (x2_BadBoardWays : PySem.W.keepIn K (.ref C_BadBoardWays) = true)
    (x3_BadBoardWays : PySem.W.subIn K (.ref C_BadBoardWays) (.type "BaseException") = some true)
    (x4_BadBoardWays : PySem.W.typeIn K (.ref C_BadBoardWays) = some (.type "type"))
    (h1_BadBoardWays : PySem.W.findIn K (.ref C_BadBoardWays) "__getattribute__" = some (some (.builtin "BaseException.__getattribute__")))
    (h2_BadBoardWays : PySem.W.findIn K (.ref C_BadBoardWays) "__getattr__" = some none)
    (h4_BadBoardWays : PySem.W.hasDictIn K C_BadBoardWays = true)
    (h5_BadBoardWays : PySem.W.findIn K (.ref C_BadBoardWays) "__class__" = some (some (.builtin "object.__class__")))
    (h6_BadBoardWays : PySem.W.specialIn K (.builtin "object.__class__") "__get__" = some (some (.builtin "getset_descriptor.__get__")))
    (h7_BadBoardWays : PySem.W.takesIn K (.builtin "object.__class__") = some true)
    (h8_BadBoardWays : PySem.W.mroIn K C_BadBoardWays (.type "object") = some true)
    (t0_BadBoardWays : PySem.W.subIn K (.ref C_BadBoardWays) (.ref C_BadBoard) = some false)
    (t1_BadBoardWays : PySem.W.subIn K (.ref C_BadBoardWays) (.ref C_BadGame) = some false)
    (t2_BadBoardWays : PySem.W.subIn K (.ref C_BadBoardWays) (.ref C_BadNumber) = some false)
    (t3_BadBoardWays : PySem.W.subIn K (.ref C_BadBoardWays) (.ref C_BadBoardWays) = some true)
    (t4_BadBoardWays : PySem.W.subIn K (.ref C_BadBoardWays) (.ref C_BadOrder) = some false)
    (t5_BadBoardWays : PySem.W.subIn K (.ref C_BadBoardWays) (.ref C_BadRule) = some false)
    (t6_BadBoardWays : PySem.W.subIn K (.ref C_BadBoardWays) (.ref C_BadStrip) = some false)
    (t7_BadBoardWays : PySem.W.subIn K (.ref C_BadBoardWays) (.ref C_BadWays) = some false)
    (t8_BadBoardWays : PySem.W.subIn K (.ref C_BadBoardWays) (.ref C_TooMany) = some false)
    (t9_BadBoardWays : PySem.W.subIn K (.ref C_BadBoardWays) (.type "ValueError") = some true)
    (t10_BadBoardWays : PySem.W.subIn K (.ref C_BadBoardWays) (.ref C_PlayError) = some true)
    (x1_BadNumber : PySem.W.excIn K C_BadNumber veC "ValueError.__new__" = true)
    (x2_BadNumber : PySem.W.keepIn K (.ref C_BadNumber) = true)
    (x3_BadNumber : PySem.W.subIn K (.ref C_BadNumber) (.type "BaseException") = some true)
    (x4_BadNumber : PySem.W.typeIn K (.ref C_BadNumber) = some (.type "type"))
    (h1_BadNumber : PySem.W.findIn K (.ref C_BadNumber) "__getattribute__" = some (some (.builtin "BaseException.__getattribute__")))
    (h2_BadNumber : PySem.W.findIn K (.ref C_BadNumber) "__getattr__" = some none)
    (h4_BadNumber : PySem.W.hasDictIn K C_BadNumber = true)
    (h5_BadNumber : PySem.W.findIn K (.ref C_BadNumber) "__class__" = some (some (.builtin "object.__class__")))
    (h6_BadNumber : PySem.W.specialIn K (.builtin "object.__class__") "__get__" = some (some (.builtin "getset_descriptor.__get__")))
    (h7_BadNumber : PySem.W.takesIn K (.builtin "object.__class__") = some true)
    (h8_BadNumber : PySem.W.mroIn K C_BadNumber (.type "object") = some true)
    (t0_BadNumber : PySem.W.subIn K (.ref C_BadNumber) (.ref C_BadBoard) = some false)
    (t1_BadNumber : PySem.W.subIn K (.ref C_BadNumber) (.ref C_BadGame) = some false)
    (t2_BadNumber : PySem.W.subIn K (.ref C_BadNumber) (.ref C_BadNumber) = some true)
    (t3_BadNumber : PySem.W.subIn K (.ref C_BadNumber) (.ref C_BadBoardWays) = some false)
    (t4_BadNumber : PySem.W.subIn K (.ref C_BadNumber) (.ref C_BadOrder) = some false)
    (t5_BadNumber : PySem.W.subIn K (.ref C_BadNumber) (.ref C_BadRule) = some false)
    (t6_BadNumber : PySem.W.subIn K (.ref C_BadNumber) (.ref C_BadStrip) = some false)
    (t7_BadNumber : PySem.W.subIn K (.ref C_BadNumber) (.ref C_BadWays) = some false)
    (t8_BadNumber : PySem.W.subIn K (.ref C_BadNumber) (.ref C_TooMany) = some false)
    (t9_BadNumber : PySem.W.subIn K (.ref C_BadNumber) (.type "ValueError") = some true)
    (t10_BadNumber : PySem.W.subIn K (.ref C_BadNumber) (.ref C_PlayError) = some true)
    (u1_PlayError : PySem.W.hasDictIn K C_PlayError = true)
    (u2_PlayError : PySem.W.typeIn K (.ref C_PlayError) = some (.type "type"))
    (u1_BadBoard : PySem.W.hasDictIn K C_BadBoard = true)
    (u2_BadBoard : PySem.W.typeIn K (.ref C_BadBoard) = some (.type "type"))
    (u1_BadBoardWays : PySem.W.hasDictIn K C_BadBoardWays = true)
    (u2_BadBoardWays : PySem.W.typeIn K (.ref C_BadBoardWays) = some (.type "type"))
    (u1_BadGame : PySem.W.hasDictIn K C_BadGame = true)
    (u2_BadGame : PySem.W.typeIn K (.ref C_BadGame) = some (.type "type"))
    (u1_BadNumber : PySem.W.hasDictIn K C_BadNumber = true)
    (u2_BadNumber : PySem.W.typeIn K (.ref C_BadNumber) = some (.type "type"))
    (u1_BadOrder : PySem.W.hasDictIn K C_BadOrder = true)
    (u2_BadOrder : PySem.W.typeIn K (.ref C_BadOrder) = some (.type "type"))
    (u1_BadRule : PySem.W.hasDictIn K C_BadRule = true)
    (u2_BadRule : PySem.W.typeIn K (.ref C_BadRule) = some (.type "type"))
    (u1_BadStrip : PySem.W.hasDictIn K C_BadStrip = true)
    (u2_BadStrip : PySem.W.typeIn K (.ref C_BadStrip) = some (.type "type"))
    (u1_BadWays : PySem.W.hasDictIn K C_BadWays = true)
    (u2_BadWays : PySem.W.typeIn K (.ref C_BadWays) = some (.type "type"))
    (u1_TooMany : PySem.W.hasDictIn K C_TooMany = true)
    (u2_TooMany : PySem.W.typeIn K (.ref C_TooMany) = some (.type "type"))
    (u3 : PySem.W.subIn K (.ref C_PlayError) (.type "BaseException") = some true)
    (v_BadBoardWays_BadBoard : C_BadBoardWays ≠ C_BadBoard)
    (v_BadBoardWays_BadGame : C_BadBoardWays ≠ C_BadGame)
    (v_BadBoardWays_BadNumber : C_BadBoardWays ≠ C_BadNumber)
    (v_BadBoardWays_BadOrder : C_BadBoardWays ≠ C_BadOrder)
    (v_BadBoardWays_BadRule : C_BadBoardWays ≠ C_BadRule)
    (v_BadBoardWays_BadStrip : C_BadBoardWays ≠ C_BadStrip)
    (v_BadBoardWays_BadWays : C_BadBoardWays ≠ C_BadWays)
    (v_BadBoardWays_TooMany : C_BadBoardWays ≠ C_TooMany)
    (v_BadNumber_BadBoard : C_BadNumber ≠ C_BadBoard)
    (v_BadNumber_BadGame : C_BadNumber ≠ C_BadGame)
    (v_BadNumber_BadBoardWays : C_BadNumber ≠ C_BadBoardWays)
    (v_BadNumber_BadOrder : C_BadNumber ≠ C_BadOrder)
    (v_BadNumber_BadRule : C_BadNumber ≠ C_BadRule)
    (v_BadNumber_BadStrip : C_BadNumber ≠ C_BadStrip)
    (v_BadNumber_BadWays : C_BadNumber ≠ C_BadWays)
    (v_BadNumber_TooMany : C_BadNumber ≠ C_TooMany)
    (g2a : PySem.W.nsIn K mainGlobals "LOST" = some (some (.str "lost" g2t1)))
    (g1a : PySem.W.nsIn K mainGlobals "GOAL" = some (some (.str "goal" g1t1)))
    (g0a : PySem.W.nsIn K mainGlobals "MOST_PLACES" = some (some (.int 40 g0t1)))
    : LamX.LawAtS l w K (L2.CX l.prog w) 8 63 "script" mg fa h := by
  have e := hfa.symm.trans (PySem.W.mg_of X G a33)
  cases e
  letI tI : Tb := ⟨[(P33, ("law" : Str) ++ ".<locals>." ++ "<lambda>")]⟩
  have pn' : (Tb.T.map (·.1)).Nodup := pn
  have gx : ∀ base : Heap, (∀ p ∈ ([(cc33, P33)] : List (Addr × Addr)), LamX.TabB base mg p.1 p.2) → Gx K mg { C_PlayError := C_PlayError, C_BadBoard := C_BadBoard, C_BadBoardWays := C_BadBoardWays, C_BadGame := C_BadGame, C_BadNumber := C_BadNumber, C_BadOrder := C_BadOrder, C_BadRule := C_BadRule, C_BadStrip := C_BadStrip, C_BadWays := C_BadWays, C_TooMany := C_TooMany, c_law := cc33, P_law := P33, z := 0 } base := fun base hT => {
    d_is_integer := def_mk X G a0 l0 c0 k0 sc_is_integer fun _ _ _ _ _ _ us hl => match us, hl with | [_], _ => rfl
    d_is_within := def_mk X G a1 l1 c1 k1 sc_is_within fun _ _ _ _ _ _ us hl => match us, hl with | [_, _, _], _ => rfl
    d_common := def_mk X G a2 l2 c2 k2 sc_common fun _ _ _ _ _ _ us hl => match us, hl with | [_, _], _ => rfl
    d_frac := def_mk X G a3 l3 c3 k3 sc_frac fun _ _ _ _ _ _ us hl => match us, hl with | [_, _], _ => rfl
    d_plus := def_mk X G a4 l4 c4 k4 sc_plus fun _ _ _ _ _ _ us hl => match us, hl with | [_, _], _ => rfl
    d_half_of := def_mk X G a5 l5 c5 k5 sc_half_of fun _ _ _ _ _ _ us hl => match us, hl with | [_], _ => rfl
    d_less := def_mk X G a6 l6 c6 k6 sc_less fun _ _ _ _ _ _ us hl => match us, hl with | [_, _], _ => rfl
    d_least_of := def_mk X G a7 l7 c7 k7 sc_least_of fun _ _ _ _ _ _ us hl => match us, hl with | [_], _ => rfl
    d_greatest_of := def_mk X G a8 l8 c8 k8 sc_greatest_of fun _ _ _ _ _ _ us hl => match us, hl with | [_], _ => rfl
    d_is_net := def_mk X G a9 l9 c9 k9 sc_is_net fun _ _ _ _ _ _ us hl => match us, hl with | [_], _ => rfl
    d_check_net := def_mk X G a10 l10 c10 k10 sc_check_net fun _ _ _ _ _ _ us hl => match us, hl with | [_], _ => rfl
    d_prices_of := def_mk X G a11 l11 c11 k11 sc_prices_of fun _ _ _ _ _ _ us hl => match us, hl with | [_], _ => rfl
    d_prices := def_mk X G a12 l12 c12 k12 sc_prices fun _ _ _ _ _ _ us hl => match us, hl with | [_], _ => rfl
    d_toss_chances := def_mk X G a13 l13 c13 k13 sc_toss_chances fun _ _ _ _ _ _ us hl => match us, hl with | [_], _ => rfl
    d_turned_net := def_mk X G a14 l14 c14 k14 sc_turned_net fun _ _ _ _ _ _ us hl => match us, hl with | [_], _ => rfl
    d_by_turns := def_mk X G a15 l15 c15 k15 sc_by_turns fun _ _ _ _ _ _ us hl => match us, hl with | [_, _], _ => rfl
    d_ladder := def_mk X G a16 l16 c16 k16 sc_ladder fun _ _ _ _ _ _ us hl => match us, hl with | [_], _ => rfl
    d__law_hand := def_mk X G a17 l17 c17 k17 sc__law_hand fun _ _ _ _ _ _ us hl => match us, hl with | [_], _ => rfl
    d__law_draw := def_mk X G a18 l18 c18 k18 sc__law_draw fun _ _ _ _ _ _ us hl => match us, hl with | [_, _], _ => rfl
    d__law_any := def_mk X G a19 l19 c19 k19 sc__law_any fun _ _ _ _ _ _ us hl => match us, hl with | [_, _], _ => rfl
    d__law_is := def_mk X G a20 l20 c20 k20 sc__law_is fun _ _ _ _ _ _ us hl => match us, hl with | [_, _], _ => rfl
    d__law_gcd := def_mk X G a21 l21 c21 k21 sc__law_gcd fun _ _ _ _ _ _ us hl => match us, hl with | [_, _], _ => rfl
    d__law_frac := def_mk X G a22 l22 c22 k22 sc__law_frac fun _ _ _ _ _ _ us hl => match us, hl with | [_, _], _ => rfl
    d__law_add := def_mk X G a23 l23 c23 k23 sc__law_add fun _ _ _ _ _ _ us hl => match us, hl with | [_, _], _ => rfl
    d__law_less := def_mk X G a24 l24 c24 k24 sc__law_less fun _ _ _ _ _ _ us hl => match us, hl with | [_, _], _ => rfl
    d__law_no_number := def_mk X G a25 l25 c25 k25 sc__law_no_number fun _ _ _ _ _ _ us hl => match us, hl with | [_], _ => rfl
    d__law_net_of := def_mk X G a26 l26 c26 k26 sc__law_net_of fun _ _ _ _ _ _ us hl => match us, hl with | [_, _], _ => rfl
    d__law_half := def_mk X G a27 l27 c27 k27 sc__law_half fun _ _ _ _ _ _ us hl => match us, hl with | [_, _], _ => rfl
    d__law_chances := def_mk X G a28 l28 c28 k28 sc__law_chances fun _ _ _ _ _ _ us hl => match us, hl with | [_], _ => rfl
    d__law_turns := def_mk X G a29 l29 c29 k29 sc__law_turns fun _ _ _ _ _ _ us hl => match us, hl with | [_], _ => rfl
    d__law_is_right := def_mk X G a30 l30 c30 k30 sc__law_is_right fun _ _ _ _ _ _ us hl => match us, hl with | [_], _ => rfl
    d__law_ladder := def_mk X G a31 l31 c31 k31 sc__law_ladder fun _ _ _ _ _ _ us hl => match us, hl with | [_], _ => rfl
    d__law_rounds := def_mk X G a32 l32 c32 k32 sc__law_rounds fun _ _ _ _ _ _ us hl => match us, hl with | [_, _, _], _ => rfl
    d_law := defC_mk X G a33 l33 c33 k33 sc_law fun _ _ _ _ _ _ us hl => match us, hl with | [_], _ => rfl
    tb_law := hT _ (.head _)
    tm_law := (.head _)
    tu_law := tab_uniq pn' (.head _)
    d__law_word := def_mk X G a34 l34 c34 k34 sc__law_word fun _ _ _ _ _ _ us hl => match us, hl with | [_], _ => rfl
    bl := (bl_cons (PySem.W.mg_none_of X G z0) (bl_cons (PySem.W.mg_none_of X G z1) (bl_cons (PySem.W.mg_none_of X G z2) (bl_cons (PySem.W.mg_none_of X G z3) (bl_cons (PySem.W.mg_none_of X G z4) (bl_cons (PySem.W.mg_none_of X G z5) (bl_cons (PySem.W.mg_none_of X G z6) (bl_cons (PySem.W.mg_none_of X G z7) (bl_cons (PySem.W.mg_none_of X G z8) (bl_cons (PySem.W.mg_none_of X G z9) (bl_cons (PySem.W.mg_none_of X G z10) (bl_cons (PySem.W.mg_none_of X G z11) (bl_cons (PySem.W.mg_none_of X G z12) (bl_cons (PySem.W.mg_none_of X G z13) (bl_cons (PySem.W.mg_none_of X G z14) (bl_cons (PySem.W.mg_none_of X G z15) (bl_cons (PySem.W.mg_none_of X G z16) bl_nil)))))))))))))))))
    gc := (gc_cons (gc_int (PySem.W.mg_of X G g0a)) (gc_cons (gc_str (PySem.W.mg_of X G g1a)) (gc_cons (gc_str (PySem.W.mg_of X G g2a)) gc_nil)))
    x_BadBoardWays := ⟨PySem.W.mg_of X G y_BadBoardWays, x1_BadBoardWays, x2_BadBoardWays, x3_BadBoardWays, x4_BadBoardWays⟩
    e_BadBoardWays := ⟨h1_BadBoardWays, h2_BadBoardWays, x3_BadBoardWays, h4_BadBoardWays, h5_BadBoardWays, h6_BadBoardWays, h7_BadBoardWays, h8_BadBoardWays⟩
    m_BadBoardWays := PySem.W.exm_ref u3 u1_PlayError u2_PlayError t10_BadBoardWays
    x_BadNumber := ⟨PySem.W.mg_of X G y_BadNumber, x1_BadNumber, x2_BadNumber, x3_BadNumber, x4_BadNumber⟩
    e_BadNumber := ⟨h1_BadNumber, h2_BadNumber, x3_BadNumber, h4_BadNumber, h5_BadNumber, h6_BadNumber, h7_BadNumber, h8_BadNumber⟩
    m_BadNumber := PySem.W.exm_ref u3 u1_PlayError u2_PlayError t10_BadNumber
    g_PlayError := PySem.W.mg_of X G y_PlayError
    g_BadBoard := PySem.W.mg_of X G y_BadBoard
    g_BadBoardWays := PySem.W.mg_of X G y_BadBoardWays
    g_BadGame := PySem.W.mg_of X G y_BadGame
    g_BadNumber := PySem.W.mg_of X G y_BadNumber
    g_BadOrder := PySem.W.mg_of X G y_BadOrder
    g_BadRule := PySem.W.mg_of X G y_BadRule
    g_BadStrip := PySem.W.mg_of X G y_BadStrip
    g_BadWays := PySem.W.mg_of X G y_BadWays
    g_TooMany := PySem.W.mg_of X G y_TooMany
    kt_BadBoardWays_0 := kit_ref u1_BadBoard u2_BadBoard t0_BadBoardWays (.inr v_BadBoardWays_BadBoard)
    kt_BadBoardWays_1 := kit_ref u1_BadGame u2_BadGame t1_BadBoardWays (.inr v_BadBoardWays_BadGame)
    kt_BadBoardWays_2 := kit_ref u1_BadNumber u2_BadNumber t2_BadBoardWays (.inr v_BadBoardWays_BadNumber)
    kt_BadBoardWays_3 := kit_ref u1_BadBoardWays u2_BadBoardWays t3_BadBoardWays (.inl rfl)
    kt_BadBoardWays_4 := kit_ref u1_BadOrder u2_BadOrder t4_BadBoardWays (.inr v_BadBoardWays_BadOrder)
    kt_BadBoardWays_5 := kit_ref u1_BadRule u2_BadRule t5_BadBoardWays (.inr v_BadBoardWays_BadRule)
    kt_BadBoardWays_6 := kit_ref u1_BadStrip u2_BadStrip t6_BadBoardWays (.inr v_BadBoardWays_BadStrip)
    kt_BadBoardWays_7 := kit_ref u1_BadWays u2_BadWays t7_BadBoardWays (.inr v_BadBoardWays_BadWays)
    kt_BadBoardWays_8 := kit_ref u1_TooMany u2_TooMany t8_BadBoardWays (.inr v_BadBoardWays_TooMany)
    kt_BadBoardWays_9 := kit_bty (by decide +kernel) t9_BadBoardWays
    kt_BadNumber_0 := kit_ref u1_BadBoard u2_BadBoard t0_BadNumber (.inr v_BadNumber_BadBoard)
    kt_BadNumber_1 := kit_ref u1_BadGame u2_BadGame t1_BadNumber (.inr v_BadNumber_BadGame)
    kt_BadNumber_2 := kit_ref u1_BadNumber u2_BadNumber t2_BadNumber (.inl rfl)
    kt_BadNumber_3 := kit_ref u1_BadBoardWays u2_BadBoardWays t3_BadNumber (.inr v_BadNumber_BadBoardWays)
    kt_BadNumber_4 := kit_ref u1_BadOrder u2_BadOrder t4_BadNumber (.inr v_BadNumber_BadOrder)
    kt_BadNumber_5 := kit_ref u1_BadRule u2_BadRule t5_BadNumber (.inr v_BadNumber_BadRule)
    kt_BadNumber_6 := kit_ref u1_BadStrip u2_BadStrip t6_BadNumber (.inr v_BadNumber_BadStrip)
    kt_BadNumber_7 := kit_ref u1_BadWays u2_BadWays t7_BadNumber (.inr v_BadNumber_BadWays)
    kt_BadNumber_8 := kit_ref u1_TooMany u2_TooMany t8_BadNumber (.inr v_BadNumber_TooMany)
    kt_BadNumber_9 := kit_bty (by decide +kernel) t9_BadNumber
    }
  refine ⟨PySem.W.fnOf "law" "law" (defArgs (top 51)) (defBody (top 51)) (defScope (top 51)) .none kV33 dc33 pm33 an33 (.ref cc33) ct33, [(cc33, P33)], spLaw K, fun p hp => ?_, fun p hp => ?_, fun p hp => ?_, fun s v => .of_eq rfl, fun H a ns hl hb hH hS => ⟨a, ns, rfl, hS, fun p hp => ?_, hl, fun _ => rfl⟩, fun base _ _ hT => ?_⟩
  · simp only [List.mem_cons, List.not_mem_nil, or_false] at hp
    rcases hp with rfl
    exact AT.at_ r33 (PySem.W.mg_of X G a33) l33 rfl rfl o33 w33
  · simp only [List.mem_cons, List.not_mem_nil, or_false] at hp
    rcases hp with rfl
    exact n33
  · simp only [List.mem_cons, List.not_mem_nil, or_false] at hp
    rcases hp with rfl
    exact (w33).hd X o33
  · have hp' : p ∈ ([(P33, ("law" : Str) ++ ".<locals>." ++ "<lambda>")] : List (Addr × Str)) := hp
    simp only [List.mem_cons, List.not_mem_nil, or_false] at hp'
    rcases hp' with rfl
    exact LamX.TabS.nil (hH (cc33, P33) (.head _))
  · have g := gx base hT
    exact (fn_soundC l33 c33 sc_law fun X W e1 e2 e3 e4 e5 e6 e7 e8 e9 e10 e11 r t p => S_law g X W e1 e2 e3 e4 e5 e6 e7 { hN := e8, nd := sc_law.nd, hsc := e9, hfn := e10, kind := sc_law.kind, calm := e11, room := r, tk := t, bl := by rw [e4]; exact g.bl, gc := by rw [e4, e3]; exact g.gc, ps := p }).imp (law_end (H1 tI))
end
end K99

set_option Elab.async false
set_option linter.all false
set_option maxRecDepth 100000
set_option maxHeartbeats 4000000
namespace K99
open Py L2 PySem PySem.Spec PyProof.Rows
variable [Tb]
/-! ### the hand and its draws -/
theorem e_draw {st : Store} {h c : Nat} {cells : List Int} {i a b e m : Int} (hh : h < st.length) (hc : c ≠ h) (hcs : st[c]? = some (.lst (intsD cells))) (G : Good cells i a b e) (hm : 0 < m) (hm2 : m < 2 ^ 63) :
    ∃ d i' a' b' e', m__law_draw [.ref h, .int m] (st.set h (hd5 c i a b e)) = .ok (.int d) (st.set h (hd5 c i' a' b' e')) ∧ 0 ≤ d ∧ d < m ∧ Good cells i' a' b' e' := by
  have hcl : c < st.length := (List.getElem?_eq_some_iff.mp hcs).1
  have hcs' : ∀ o, (st.set h o)[c]? = some (.lst (intsD cells)) := fun o => by rw [at_ne hc, hcs]
  have hlen : ∀ o, lenD [.ref c] (st.set h o) = some (.int cells.length, st.set h o) := fun o => by simp [lenD, hcs', getL, intsD]
  have key : ∃ x2 i' a' b', Good cells i' a' b' e ∧ ∀ k, ((sIf (mAnd (asB (mOp2 eqD (mOp2 ixD (mVar 0) (mC (.int 2))) (mC (.int 0)))) (asB (mOp2 ltD (mOp2 ixD (mVar 0) (mC (.int 1))) (mOpN lenD (mCons (mOp2 ixD (mVar 0) (mC (.int 0))) mNil))))) (sSeq (sAsg (mOp2 ixD (mOp2 ixD (mVar 0) (mC (.int 0))) (mOp2 ixD (mVar 0) (mC (.int 1)))) (gN 2)) (sSeq (sAsg (mOp2 addD (mOp2 ixD (mVar 0) (mC (.int 1))) (mC (.int 1))) (gSb setD (mVar 0) (mC (.int 1)))) (sSeq (sAsg (mOp2 modD (mOpN intD (mCons (mOp2 addD (mOp2 addD (mOp2 mulD (mOp2 ixD (mVar 0) (mC (.int 3))) (mC (.int 69621))) (mOp2 mulD (mVar 2) (mC (.int 40692)))) (mC (.int 23))) mNil)) (mC (.int 2147483629))) (gSb setD (mVar 0) (mC (.int 3)))) (sSeq (sIf (asB (mOp2 geD (mVar 2) (mOp2 powD (mC (.int 10)) (mC (.int 18))))) (sSeq (sAsg (mVar 2) (gSb setD (mVar 0) (mC (.int 2)))) (fun e st => .nx e st)) (fun e st => .nx e st)) (fun e st => .nx e st))))) (fun e st => .nx e st)) (startE N__law_draw [.ref h, .int m]) (st.set h (hd5 c i a b e))).seq k = k [some (.ref h), some (.int m), x2, none, none] (st.set h (hd5 c i' a' b' e)) := by
    by_cases h1c : a = 0 ∧ i < cells.length
    · obtain ⟨ha, hi⟩ := h1c
      subst ha
      obtain ⟨x, hx⟩ : ∃ x, cells[i.toNat]? = some x := ⟨cells[i.toNat]'(by have := G.i0; omega), List.getElem?_eq_getElem _⟩
      have hxm : x ∈ cells := List.mem_of_getElem? hx
      have x0 := G.z x hxm
      have hat : ∀ o, ixD (.ref c) (.int i) (st.set h o) = some (.int x, st.set h o) := fun o => by
        refine ix_at (hcs' o) ?_
        have hi0 := G.i0
        simp only [atI, ixN, intsD, List.length_map]
        rw [if_pos hi0, if_pos hi]
        simp [hx]
      have hp : powD (.int 10) (.int 18) = fun s => some (.int (10 ^ 18), s) := by funext s; rw [powI ⟨by omega, by omega, by decide⟩]; rfl
      by_cases hbig : (1000000000000000000 : Int) ≤ x
      · refine ⟨some (.int x), i + 1, x, (b * 69621 + x * 40692 + 23).fmod 2147483629, ⟨G.n, G.z, by have := G.i0; omega, x0, (fmod_bd (by omega)).1, (fmod_bd (by omega)).2, G.e0⟩, fun k => ?_⟩
        simp [startE, h0 hh, h1 hh, h2 hh, h3 hh, hlen, hi, hat, s1 hh, s2 hh, s3 hh, mulI (mul_small (x := b) (y := 69621) (by omega) (by omega)), mulI (mul_small (x := x) (y := 40692) (by omega) (by omega)), modI, hp, hbig]
      · refine ⟨some (.int x), i + 1, 0, (b * 69621 + x * 40692 + 23).fmod 2147483629, ⟨G.n, G.z, by have := G.i0; omega, by omega, (fmod_bd (by omega)).1, (fmod_bd (by omega)).2, G.e0⟩, fun k => ?_⟩
        simp [startE, h0 hh, h1 hh, h2 hh, h3 hh, hlen, hi, hat, s1 hh, s2 hh, s3 hh, mulI (mul_small (x := b) (y := 69621) (by omega) (by omega)), mulI (mul_small (x := x) (y := 40692) (by omega) (by omega)), modI, hp, hbig]
    · refine ⟨none, i, a, b, G, fun k => ?_⟩
      by_cases ha : a = 0
      · subst ha
        have hi : ¬ i < cells.length := fun z => h1c ⟨rfl, z⟩
        simp [startE, h0 hh, h1 hh, h2 hh, hlen, hi]
      · simp [startE, h0 hh, h1 hh, h2 hh, hlen, ha]
  obtain ⟨x2, i', a', b', G', hk⟩ := key
  by_cases ha : 0 < a'
  · refine ⟨a'.fmod m, i', a'.fdiv m, b', e, run_hand hh hcl (g := []) ?_ rfl, (fmod_bd hm).1, (fmod_bd hm).2, ⟨G'.n, G'.z, G'.i0, ?_, G'.b0, G'.b1, G'.e0⟩⟩
    · unfold b__law_draw
      rw [y_seq, hk]
      simp [h2 hh, ha, modI (show m ≠ 0 by omega), fdivI (div_ok hm hm2), s2 hh]
    · exact Int.fdiv_nonneg G'.a0 (by omega)
  · have hn : ∀ x : Int, 0 ≤ x.fmod 2147483647 ∧ x.fmod 2147483647 < 2147483647 := fun x => fmod_bd (by omega)
    refine ⟨((((((((b' + 7919 * (e + 1)) * 48271).fmod 2147483647) * ((((b' + 7919 * (e + 1)) * 48271).fmod 2147483647).fdiv 1009 + 69621)).fmod 2147483647) * ((((((b' + 7919 * (e + 1)) * 48271).fmod 2147483647) * ((((b' + 7919 * (e + 1)) * 48271).fmod 2147483647).fdiv 1009 + 69621)).fmod 2147483647).fdiv 2003 + 40014)).fmod 2147483563).fdiv 16).fmod m, i', a', b', e + 1, run_hand hh hcl (g := []) ?_ rfl, (fmod_bd hm).1, (fmod_bd hm).2, ⟨G'.n, G'.z, G'.i0, G'.a0, G'.b0, G'.b1, by have := G'.e0; omega⟩⟩
    unfold b__law_draw
    rw [y_seq, hk]
    have q1 : Py.MulOk 7919 (e + 1) := mul_smallL (by omega) (by omega)
    have q2 : Py.MulOk (b' + 7919 * (e + 1)) 48271 := mul_small (by omega) (by omega)
    have q3 : DivOk (((b' + 7919 * (e + 1)) * 48271).fmod 2147483647) 1009 := div_ok (by omega) (by omega)
    have q4 : Py.MulOk (((b' + 7919 * (e + 1)) * 48271).fmod 2147483647) ((((b' + 7919 * (e + 1)) * 48271).fmod 2147483647).fdiv 1009 + 69621) := mul_smallL (hn _).1 (Int.lt_trans (hn _).2 (by omega))
    have q5 : DivOk (((((b' + 7919 * (e + 1)) * 48271).fmod 2147483647) * ((((b' + 7919 * (e + 1)) * 48271).fmod 2147483647).fdiv 1009 + 69621)).fmod 2147483647) 2003 := div_ok (by omega) (by omega)
    have q6 : Py.MulOk (((((b' + 7919 * (e + 1)) * 48271).fmod 2147483647) * ((((b' + 7919 * (e + 1)) * 48271).fmod 2147483647).fdiv 1009 + 69621)).fmod 2147483647) ((((((b' + 7919 * (e + 1)) * 48271).fmod 2147483647) * ((((b' + 7919 * (e + 1)) * 48271).fmod 2147483647).fdiv 1009 + 69621)).fmod 2147483647).fdiv 2003 + 40014) := mul_smallL (hn _).1 (Int.lt_trans (hn _).2 (by omega))
    have q7 : DivOk (((((((b' + 7919 * (e + 1)) * 48271).fmod 2147483647) * ((((b' + 7919 * (e + 1)) * 48271).fmod 2147483647).fdiv 1009 + 69621)).fmod 2147483647) * ((((((b' + 7919 * (e + 1)) * 48271).fmod 2147483647) * ((((b' + 7919 * (e + 1)) * 48271).fmod 2147483647).fdiv 1009 + 69621)).fmod 2147483647).fdiv 2003 + 40014)).fmod 2147483563) 16 := div_ok (by omega) (by omega)
    simp [h2 hh, h3 hh, h4 hh, ha, s4 hh, modI, mulI q1, mulI q2, fdivI q3, mulI q4, fdivI q5, mulI q6, fdivI q7, show m ≠ 0 by omega]
theorem draw' {st : Store} {h c : Nat} {cells : List Int} (H : Hnd st h c cells) (m : Nat) (hm : 0 < m) (hm2 : m < 2 ^ 63) : ∃ d st', d < m ∧ m__law_draw [.ref h, .int (m : Nat)] st = .ok (.int (d : Nat)) st' ∧ Stp st st' h c ∧ Hnd st' h c cells := by
  obtain ⟨i, a, b, e, q, G⟩ := H.now
  obtain ⟨d, i', a', b', e', h1, h2, h3, h4⟩ := e_draw (st := st) (m := (m : Int)) H.hl H.ne H.cl G (by omega) (by omega)
  have hst : st.set h (hd5 c i a b e) = st := by
    obtain ⟨hh, q'⟩ := List.getElem?_eq_some_iff.mp q
    rw [← q', List.set_getElem_self]
  rw [hst] at h1
  obtain ⟨n, rfl⟩ := Int.eq_ofNat_of_zero_le h2
  exact ⟨n, _, by omega, h1, ⟨i', a', b', e', rfl⟩, ⟨⟨i', a', b', e', at_set H.hl, h4⟩, by rw [at_ne H.ne]; exact H.cl, H.ne⟩⟩
theorem atI_of {α : Type} {xs : List α} {n : Nat} (h : n < xs.length) : atI xs (n : Int) = some xs[n] := by
  simp only [atI, ixN]
  rw [if_pos (by omega), if_pos (by omega)]
  simp
/-- one of the things of a list -/
theorem any_list {st : Store} {h c : Nat} {cells : List Int} (H : Hnd st h c cells) {n : Nat} {ds : List D} (hn : st[n]? = some (.lst ds)) (hne : n ≠ h) (h0 : 0 < ds.length) (hl : ds.length ≤ 1000) (hf : ∀ d ∈ ds, lowD st.length d = true) :
    ∃ d st', d ∈ ds ∧ m__law_any [.ref h, .ref n] st = .ok d st' ∧ Stp st st' h c ∧ Hnd st' h c cells := by
  have hlen : lenD [.ref n] st = some (.int (ds.length : Nat), st) := by simp [lenD, hn, getL]
  obtain ⟨k, st', hk, h1, h2, h3⟩ := draw' H ds.length h0 (by omega)
  have hn' : st'[n]? = some (.lst ds) := by rw [h2.at_ hne, hn]
  have hm : ds[k] ∈ ds := List.getElem_mem hk
  refine ⟨ds[k], st', hm, run_low (g := []) H h2 (seq_rt (ret_of (op2_of (var_of rfl) (call_of (two_of (var_of rfl) (opN_of (one_of (var_of rfl)) hlen)) h1) (ix_at hn' (atI_of hk))))) (by rw [List.append_nil]) (hf _ hm), h2, h3⟩
/-! ### the hand as it begins -/
theorem e_hand {ns : List Int} (hl : ns.length ≤ 63) {d0 : D} {st0 : Store} (hcut : Py.cutD d0 none (some 63) st0 = some (.ref st0.length, st0 ++ [.lst (intsD ns)])) :
    ∃ (S : Store) (h c : Nat) (cells : List Int), Hnd S h c cells ∧ m__law_hand [d0] st0 = .ok (.ref h) S := by
  have hc : mLc (mIt (mSl (mVar 0) mNoP (mP (mC (.int 63))))) (.nm 2) mYes (mOpN absD (mCons (mOpN intD (mCons (mVar 2) mNil)) mNil)) [2] (startE N__law_hand [d0]) st0 = .ok (.ref (st0 ++ [O.lst (intsD ns)]).length) ((st0 ++ [O.lst (intsD ns)]) ++ [.lst (intsD (ns.map fun i => if i < 0 then -i else i))]) := by
    have e : intsD (ns.map fun i => if i < 0 then -i else i) = (intsD ns).map fun d => match d with | .int i => .int (if i < 0 then -i else i) | _ => .non := by simp [intsD, Function.comp]
    rw [e]
    refine mLc_map (it := ⟨intsD ns, stillD (.ref st0.length) (intsD ns)⟩) _ (it_of (sl_of (var_of rfl) rfl (p_of rfl) hcut) (itD_seq seqOf_new)) (stillD_of seqOf_new) (by simp only [intsD, List.length_map]; exact le_size (by omega)) fun d hd => ?_
    obtain ⟨i, _, rfl⟩ := List.mem_map.mp hd
    refine ⟨[some d0, none, some (.int i)], [], rfl, ?_, rfl⟩
    rw [List.append_nil]
    exact opN_of (one_of (opN_of (one_of (var_of rfl)) intI)) absI
  obtain ⟨s1, hs1⟩ : ∃ s1, s1 = st0 ++ [O.lst (intsD ns)] := ⟨_, rfl⟩
  rw [← hs1] at hc
  obtain ⟨s2, hs2⟩ : ∃ s2, s2 = s1 ++ [O.lst (intsD (ns.map fun i => if i < 0 then -i else i))] := ⟨_, rfl⟩
  rw [← hs2] at hc
  have hc2 : s2[s1.length]? = some (.lst (intsD (ns.map fun i => if i < 0 then -i else i))) := by rw [hs2]; simp
  have hlen : lenD [.ref s1.length] s2 = some (.int (ns.length : Nat), s2) := by simp [lenD, hc2, getL, intsD]
  have hmul : mulD (.int 7) (.int (ns.length : Nat)) s2 = some (.int ((7 * ns.length : Nat) : Int), s2) := by rw [mulI (mul_smallL (by omega) (by omega))]; simp
  have hadd : addD (.int 61) (.int ((7 * ns.length : Nat) : Int)) s2 = some (.int ((61 + 7 * ns.length : Nat) : Int), s2) := by rw [addI]; congr 3
  have hb : b__law_hand (startE N__law_hand [d0]) st0 = .rt (.ref s2.length) (s2 ++ [hd5 s1.length 0 0 ((61 + 7 * ns.length : Nat) : Int) 0]) :=
    seq_nx (set_of hc) (seq_rt (ret_of (lst_of (cons_of (var_of rfl) (cons_of rfl (cons_of rfl (two_of (op2_of rfl (op2_of rfl (opN_of (one_of (var_of rfl)) hlen) hmul) hadd) rfl)))) (by simp))))
  obtain ⟨S, hS⟩ : ∃ S, S = s2 ++ [hd5 s1.length 0 0 ((61 + 7 * ns.length : Nat) : Int) 0] := ⟨_, rfl⟩
  rw [← hS] at hb
  have l1 : s1.length = st0.length + 1 := by rw [hs1]; simp
  have l2 : s2.length = st0.length + 2 := by rw [hs2]; simp [l1]
  refine ⟨S, s2.length, s1.length, ns.map fun i => if i < 0 then -i else i, ⟨⟨0, 0, ((61 + 7 * ns.length : Nat) : Int), 0, by rw [hS]; simp, ⟨by simpa using hl, fun x hx => ?_, by omega, by omega, by omega, by omega, by omega⟩⟩, by rw [hS, List.getElem?_append_left (by omega), hc2], by omega⟩, ?_⟩
  · obtain ⟨i, _, rfl⟩ := List.mem_map.mp hx
    split <;> omega
  · unfold m__law_hand runD
    rw [hb]
    have hat : S[s2.length]? = some (hd5 s1.length 0 0 ((61 + 7 * ns.length : Nat) : Int) 0) := by rw [hS]; simp
    have hg : gc st0 (.ref s2.length) S = (.ref s2.length, S) := by
      unfold gc
      split
      · rw [if_neg (by simp only [lowD, decide_eq_true_eq]; omega)]
        simp only [hat]
        rw [if_neg]
        intro z
        have := z.2
        simp only [lowO, lowDs, lowD, Bool.and_eq_true, decide_eq_true_eq] at this
        omega
      · rfl
    simp only [hg]
theorem cut_all (ns : List Int) (hl : ns.length ≤ 63) : cutL (intsD ns) none (some 63) = intsD ns := by
  unfold cutL
  simp only [HT.sIx, List.drop_zero, Nat.sub_zero]
  exact List.take_of_length_le (by simp only [intsD, List.length_map]; rw [if_neg (by omega)]; omega)
theorem cut_lst (ns : List Int) (hl : ns.length ≤ 63) : Py.cutD (.ref 0) none (some 63) [.lst (intsD ns)] = some (.ref [O.lst (intsD ns)].length, [O.lst (intsD ns)] ++ [.lst (intsD ns)]) := by
  have g : getL [O.lst (intsD ns)] 0 = some (intsD ns) := rfl
  simp only [Py.cutD, g, cut_all ns hl]
theorem cut_frz (ns : List Int) (hl : ns.length ≤ 63) : Py.cutD (.ref 0) none (some 63) [.frz (intsD ns)] = some (.ref [O.frz (intsD ns)].length, [O.frz (intsD ns)] ++ [.lst (intsD ns)]) := by
  have g : getL [O.frz (intsD ns)] 0 = some (intsD ns) := rfl
  simp only [Py.cutD, g, cut_all ns hl]
theorem cut_kl (ns : List Int) (hl : ns.length ≤ 63) : Py.cutD (.kl (intsD ns)) none (some 63) [] = some (.ref ([] : Store).length, [] ++ [.lst (intsD ns)]) := by
  simp only [Py.cutD, cut_all ns hl]
theorem gc_true (st st' : Store) : (gc st (.bl true) st').1 = .bl true := by
  unfold gc
  split
  · simp [lowD]
  · rfl
end K99

set_option Elab.async false
set_option linter.all false
set_option maxRecDepth 100000
set_option maxHeartbeats 4000000
namespace K99
open Py L2 PySem PySem.Spec PyProof.Rows
variable [Tb]
/-! ### common divisors, fractions -/
theorem gcd_loop {f : Py.Loc → Store → R D} (hf : ∀ (a b : Nat) (st : Store), 0 < b → f [some (.int (a : Nat)), some (.int (b : Nat))] st = .ok (.int ((a % b : Nat) : Int)) st) (st : Store) : ∀ (b a : Nat), sWh (asB (mOp2 gtD (mVar 1) (mC (.int 0)))) (sSeq (sPar2 0 1 (mCons (mVar 1) (mCons f mNil))) (fun e st => .nx e st)) [some (.int (a : Nat)), some (.int (b : Nat))] st = .nx [some (.int (Nat.gcd a b : Nat)), some (.int 0)] st := by
  intro b
  induction b using Nat.strongRecOn with
  | _ b ih =>
    intro a
    have hgt := asB_ok (op2_of (f := gtD) (var_of (i := 1) (e := [some (.int (a : Nat)), some (.int (b : Nat))]) (st := st) rfl) (x_c (.int 0)) gtI)
    by_cases hb : b = 0
    · subst hb
      have : decide ((0 : Int) < ((0 : Nat) : Int)) = false := rfl
      rw [this] at hgt
      rw [wh_f hgt, Nat.gcd_zero_right]; rfl
    · have : decide ((0 : Int) < (b : Int)) = true := by simp; omega
      rw [this] at hgt
      rw [wh_t hgt (seq_nx (par2_of (var_of rfl) (hf a b st (by omega))) rfl)]
      have h := ih (a % b) (Nat.mod_lt _ (by omega)) b
      have e : Nat.gcd b (a % b) = Nat.gcd a b := by rw [Nat.gcd_comm a b, Nat.gcd_rec b a, Nat.gcd_comm]
      rw [e] at h
      exact h
theorem absN (i : Int) (st : Store) : absD [.int i] st = some (.int (i.natAbs : Nat), st) := by
  rw [absI]
  congr 3
  split <;> omega
theorem e_common (a b : Int) (st : Store) : m_common [.int a, .int b] st = .ok (.int (Int.gcd a b : Nat)) st := by
  have hl := gcd_loop (f := mOp2 modD (mVar 0) (mVar 1)) (fun a b st hb => op2_of (var_of rfl) (var_of rfl) (by rw [modI (by omega), fmod_nat a b hb])) st b.natAbs a.natAbs
  exact run_rt0 (seq_nx (par2_of (opN_of (one_of (var_of rfl)) (absN a st)) (opN_of (one_of (var_of rfl)) (absN b st))) (seq_nx hl (seq_rt (ret_of (var_of rfl))))) rfl
theorem div_okN {x : Int} {y : Int} (h : y ≠ 0) (hb : y.natAbs < 2 ^ 8000) : DivOk x y := ⟨h, Nat.lt_of_lt_of_le ((Nat.log2_lt (by omega)).mpr hb) (by omega)⟩
theorem gcd_lt {a b : Int} (h : b ≠ 0) {k : Nat} (hb : b.natAbs < k) : Int.gcd a b < k := Nat.lt_of_le_of_lt (Nat.le_of_dvd (by omega) (Nat.gcd_dvd_right a.natAbs b.natAbs)) hb
theorem gcd_pos {a b : Int} (h : b ≠ 0) : 0 < Int.gcd a b := Nat.gcd_pos_of_pos_right _ (by omega)
theorem fdiv_exact {a : Int} {g : Nat} (hg : 0 < g) (h : (g : Int) ∣ a) : a.fdiv (g : Int) = a / (g : Int) := by rw [Int.fdiv_eq_ediv_of_nonneg _ (by omega)]
theorem fdiv_neg {a : Int} {g : Nat} (hg : 0 < g) (h : (g : Int) ∣ a) : a.fdiv (-(g : Int)) = -(a / (g : Int)) := by
  obtain ⟨t, rfl⟩ := h
  have h1 : ((g : Int) * t) / (g : Int) = t := Int.mul_ediv_cancel_left _ (by omega)
  rw [h1]
  have h2 : (g : Int) * t = -t * -(g : Int) := by rw [Int.neg_mul_neg, Int.mul_comm]
  rw [h2, Int.mul_fdiv_cancel _ (by omega)]
theorem frac_num (t b : Int) (h : b ≠ 0) : (Rat.divInt t b).num = if b < 0 then -(t / (Int.gcd t b : Int)) else t / (Int.gcd t b : Int) := by
  rw [Rat.num_divInt, Int.gcd_comm]
  split
  · rename_i hb
    rw [Int.sign_eq_neg_one_of_neg hb, Int.neg_mul, Int.one_mul]
    exact Int.neg_ediv_of_dvd (Int.gcd_dvd_left t b)
  · rw [Int.sign_eq_one_of_pos (by omega), Int.one_mul]
theorem frac_den (t b : Int) (h : b ≠ 0) : ((Rat.divInt t b).den : Int) = if b < 0 then -(b / (Int.gcd t b : Int)) else b / (Int.gcd t b : Int) := by
  rw [Rat.den_divInt, if_neg h, Int.gcd_comm, Int.natCast_ediv]
  split
  · rename_i hb
    have : (b.natAbs : Int) = -b := by omega
    rw [this]
    exact Int.neg_ediv_of_dvd (Int.gcd_dvd_right t b)
  · have : (b.natAbs : Int) = b := by omega
    rw [this]
theorem e_frac (t b : Int) (h : b ≠ 0) (hb : b.natAbs < 2 ^ 8000) (st : Store) : m_frac [.int t, .int b] st = .ok (frD (Rat.divInt t b)) st := by
  obtain ⟨g, hg⟩ : ∃ g, g = Int.gcd t b := ⟨_, rfl⟩
  have g0 : 0 < g := by rw [hg]; exact gcd_pos h
  have gl : g < 2 ^ 8000 := by rw [hg]; exact gcd_lt h hb
  have gt : (g : Int) ∣ t := by rw [hg]; exact Int.gcd_dvd_left t b
  have gb : (g : Int) ∣ b := by rw [hg]; exact Int.gcd_dvd_right t b
  have hc := e_common t b st
  rw [← hg] at hc
  have hlt := asB_ok (op2_of (f := ltD) (var_of (i := 1) (e := [some (.int t), some (.int b), some (.int (g : Nat))]) (st := st) rfl) (x_c (.int 0)) ltI)
  have en := frac_num t b h
  have ed := frac_den t b h
  rw [← hg] at en ed
  by_cases hneg : b < 0
  · rw [decide_eq_true hneg] at hlt
    rw [if_pos hneg] at en ed
    have d1 : fdivD (.int t) (.int (-(g : Int))) st = some (.int (Rat.divInt t b).num, st) := by rw [fdivI (div_okN (by omega) (by omega)), fdiv_neg g0 gt, en]
    have d2 : fdivD (.int b) (.int (-(g : Int))) st = some (.int ((Rat.divInt t b).den : Int), st) := by rw [fdivI (div_okN (by omega) (by omega)), fdiv_neg g0 gb, ed]
    exact run_rt0 (seq_nx (set_of (call_of (two_of (var_of rfl) (var_of rfl)) hc)) (seq_nx (if_t hlt (seq_nx (set_of (op1_of (var_of rfl) negI)) rfl)) (seq_rt (ret_of (tup_of (two_of (op2_of (var_of rfl) (var_of rfl) d1) (op2_of (var_of rfl) (var_of rfl) d2)) (by simp)))))) rfl
  · rw [decide_eq_false hneg] at hlt
    rw [if_neg hneg] at en ed
    have d1 : fdivD (.int t) (.int (g : Nat)) st = some (.int (Rat.divInt t b).num, st) := by rw [fdivI (div_okN (by omega) (by omega)), fdiv_exact g0 gt, en]
    have d2 : fdivD (.int b) (.int (g : Nat)) st = some (.int ((Rat.divInt t b).den : Int), st) := by rw [fdivI (div_okN (by omega) (by omega)), fdiv_exact g0 gb, ed]
    exact run_rt0 (seq_nx (set_of (call_of (two_of (var_of rfl) (var_of rfl)) hc)) (seq_nx (if_f hlt rfl) (seq_rt (ret_of (tup_of (two_of (op2_of (var_of rfl) (var_of rfl) d1) (op2_of (var_of rfl) (var_of rfl) d2)) (by simp)))))) rfl
end K99

set_option Elab.async false
set_option linter.all false
set_option maxRecDepth 100000
set_option maxHeartbeats 4000000
set_option exponentiation.threshold 10000
namespace K99
open Py L2 PySem PySem.Spec PyProof.Rows
variable [Tb]
--BEGIN plus
theorem e_plus {p q : Rat} {a b : Nat} (h1 : Sz a p) (h2 : Sz b q) (hab : a + b ≤ 4000) (st : Store) : m_plus [frD p, frD q] st = .ok (frD (p + q)) st := by
  have hf := e_frac (p.num * q.den + q.num * p.den) ((p.den : Int) * q.den) (den_mul_ne p q) (Nat.lt_of_lt_of_le (den_mul_lt h1 h2) (Nat.pow_le_pow_right (by omega) (by omega))) st
  rw [add_eq] at hf
  exact run_rt0 (seq_rt (ret_of (call_of (two_of (op2_of (op2_of (op2_of (var_of rfl) rfl (ix0 p)) (op2_of (var_of rfl) rfl (ix1 q)) (mulB h1.1 h2.den (by omega))) (op2_of (op2_of (var_of rfl) rfl (ix0 q)) (op2_of (var_of rfl) rfl (ix1 p)) (mulB h2.1 h1.den (by omega))) addI) (op2_of (op2_of (var_of rfl) rfl (ix1 p)) (op2_of (var_of rfl) rfl (ix1 q)) (mulB h1.den h2.den (by omega)))) hf))) rfl
--END plus
--BEGIN less
theorem e_less {p q : Rat} {a b : Nat} (h1 : Sz a p) (h2 : Sz b q) (hab : a + b ≤ 4000) (st : Store) : m_less [frD p, frD q] st = .ok (.bl (decide (p < q))) st := by
  have e : decide (p.num * (q.den : Int) < q.num * (p.den : Int)) = decide (p < q) := decide_eq_decide.mpr (Rat.lt_iff p q).symm
  rw [← e]
  exact run_rt0 (seq_rt (ret_of (op2_of (op2_of (op2_of (var_of rfl) rfl (ix0 p)) (op2_of (var_of rfl) rfl (ix1 q)) (mulB h1.1 h2.den (by omega))) (op2_of (op2_of (var_of rfl) rfl (ix0 q)) (op2_of (var_of rfl) rfl (ix1 p)) (mulB h2.1 h1.den (by omega))) ltI))) rfl
--END less
--BEGIN _law_frac
theorem e__law_gcd (a b : Int) (st : Store) : m__law_gcd [.int a, .int b] st = .ok (.int (Int.gcd a b : Nat)) st := by
  have hl := gcd_loop (f := mOp2 modD (mOpN intD (mCons (mVar 0) mNil)) (mVar 1)) (fun a b st hb => op2_of (opN_of (one_of (var_of rfl)) intI) (var_of rfl) (by rw [modI (by omega), fmod_nat a b hb])) st b.natAbs a.natAbs
  exact run_rt0 (seq_nx (par2_of (opN_of (one_of (var_of rfl)) (absN a st)) (opN_of (one_of (var_of rfl)) (absN b st))) (seq_nx hl (seq_rt (ret_of (var_of rfl))))) rfl
theorem divInt_neg2 (t b : Int) : Rat.divInt (0 - t) (0 - b) = Rat.divInt t b := by
  rw [Int.zero_sub, Int.zero_sub]; exact Rat.neg_divInt_neg t b
theorem e__law_frac_pos (t b : Int) (h : 0 < b) (hb : b.natAbs < 2 ^ 8000) (e0 : Option D) (st : Store) : (sSeq (sAsg (mCall m__law_gcd (mCons (mVar 0) (mCons (mVar 1) mNil))) (gN 2)) (sSeq (sRet (mTup (mCons (mOp2 fdivD (mVar 0) (mVar 2)) (mCons (mOp2 fdivD (mVar 1) (mVar 2)) mNil)))) (fun e st => .nx e st))) [some (.int t), some (.int b), e0] st = .rt (frD (Rat.divInt t b)) st := by
  obtain ⟨g, hg⟩ : ∃ g, g = Int.gcd t b := ⟨_, rfl⟩
  have hne : b ≠ 0 := by omega
  have g0 : 0 < g := by rw [hg]; exact gcd_pos hne
  have gl : g < 2 ^ 8000 := by rw [hg]; exact gcd_lt hne hb
  have gt : (g : Int) ∣ t := by rw [hg]; exact Int.gcd_dvd_left t b
  have gb : (g : Int) ∣ b := by rw [hg]; exact Int.gcd_dvd_right t b
  have hc := e__law_gcd t b st
  rw [← hg] at hc
  have en := frac_num t b hne
  have ed := frac_den t b hne
  rw [← hg, if_neg (by omega)] at en ed
  have d1 : fdivD (.int t) (.int (g : Nat)) st = some (.int (Rat.divInt t b).num, st) := by rw [fdivI (div_okN (by omega) (by omega)), fdiv_exact g0 gt, en]
  have d2 : fdivD (.int b) (.int (g : Nat)) st = some (.int ((Rat.divInt t b).den : Int), st) := by rw [fdivI (div_okN (by omega) (by omega)), fdiv_exact g0 gb, ed]
  exact seq_nx (set_of (call_of (two_of (var_of rfl) (var_of rfl)) hc)) (seq_rt (ret_of (tup_of (two_of (op2_of (var_of rfl) (var_of rfl) d1) (op2_of (var_of rfl) (var_of rfl) d2)) (by simp))))
theorem e__law_frac (t b : Int) (h : b ≠ 0) (hb : b.natAbs < 2 ^ 8000) (st : Store) : m__law_frac [.int t, .int b] st = .ok (frD (Rat.divInt t b)) st := by
  have hlt := asB_ok (op2_of (f := ltD) (var_of (i := 1) (e := [some (.int t), some (.int b), none]) (st := st) rfl) (x_c (.int 0)) ltI)
  by_cases hneg : b < 0
  · rw [decide_eq_true hneg] at hlt
    have hp := e__law_frac_pos (0 - t) (0 - b) (by omega) (by omega) none st
    rw [divInt_neg2] at hp
    exact run_rt0 (seq_nx (if_t hlt (seq_nx (par2_of (op2_of rfl (var_of rfl) subI) (op2_of rfl (var_of rfl) subI)) rfl)) hp) rfl
  · rw [decide_eq_false hneg] at hlt
    exact run_rt0 (seq_nx (if_f hlt rfl) (e__law_frac_pos t b (by omega) hb none st)) rfl
--END _law_frac
--BEGIN _law_add
theorem e__law_add {p q : Rat} {a b : Nat} (h1 : Sz a p) (h2 : Sz b q) (hab : a + b ≤ 4000) (st : Store) : m__law_add [frD p, frD q] st = .ok (frD (p + q)) st := by
  have hf := e__law_frac (p.num * q.den + q.num * p.den) ((p.den : Int) * q.den) (den_mul_ne p q) (Nat.lt_of_lt_of_le (den_mul_lt h1 h2) (Nat.pow_le_pow_right (by omega) (by omega))) st
  rw [add_eq] at hf
  exact run_rt0 (seq_rt (ret_of (call_of (two_of (op2_of (op2_of (op2_of (var_of rfl) rfl (ix0 p)) (op2_of (var_of rfl) rfl (ix1 q)) (mulB h1.1 h2.den (by omega))) (op2_of (op2_of (var_of rfl) rfl (ix0 q)) (op2_of (var_of rfl) rfl (ix1 p)) (mulB h2.1 h1.den (by omega))) addI) (op2_of (op2_of (var_of rfl) rfl (ix1 p)) (op2_of (var_of rfl) rfl (ix1 q)) (mulB h1.den h2.den (by omega)))) hf))) rfl
--END _law_add
--BEGIN _law_less
theorem e__law_less {p q : Rat} {a b : Nat} (h1 : Sz a p) (h2 : Sz b q) (hab : a + b ≤ 4000) (st : Store) : m__law_less [frD p, frD q] st = .ok (.bl (decide (p < q))) st := by
  have e : decide (p.num * (q.den : Int) < q.num * (p.den : Int)) = decide (p < q) := decide_eq_decide.mpr (Rat.lt_iff p q).symm
  rw [← e]
  exact run_rt0 (seq_rt (ret_of (op2_of (op2_of (op2_of (var_of rfl) rfl (ix0 p)) (op2_of (var_of rfl) rfl (ix1 q)) (mulB h1.1 h2.den (by omega))) (op2_of (op2_of (var_of rfl) rfl (ix0 q)) (op2_of (var_of rfl) rfl (ix1 p)) (mulB h2.1 h1.den (by omega))) ltI))) rfl
--END _law_less
--BEGIN _law_is
/-- the same, kind by kind, through and through -/
inductive Sm (st : Store) : Nat → D → D → Prop
  | non {k : Nat} : Sm st k .non .non
  | bl {k : Nat} (b : Bool) : Sm st k (.bl b) (.bl b)
  | int {k : Nat} (i : Int) : Sm st k (.int i) (.int i)
  | str {k : Nat} {s : Str} (h : okS s = true) : Sm st k (.str s) (.str s)
  | tup {k : Nat} {xs ys : List D} (hl : xs.length = ys.length) (hs : xs.length ≤ 1000) (h : ∀ (i : Nat) (a b : D), xs[i]? = some a → ys[i]? = some b → Sm st k a b) : Sm st (k + 1) (.tup xs) (.tup ys)
  | lst {k n m : Nat} {xs ys : List D} (h1 : st[n]? = some (.lst xs)) (h2 : st[m]? = some (.lst ys)) (hl : xs.length = ys.length) (hs : xs.length ≤ 1000) (h : ∀ (i : Nat) (a b : D), xs[i]? = some a → ys[i]? = some b → Sm st k a b) : Sm st (k + 1) (.ref n) (.ref m)
theorem is_seq {st : Store} {k : Nat} {a b : D} {t : String} {xs ys : List D} (ht : t = "tuple" ∨ t = "list") (ta : tyName a st = some t) (tb : tyName b st = some t) (sa : seqOf a st = some xs) (sb : seqOf b st = some ys) (ia : isT' a = isT' b) (la : lenD [a] st = some (.int (xs.length : Nat), st)) (lb : lenD [b] st = some (.int (ys.length : Nat), st)) (na : isD2 a .non st = some (.bl false, st)) (nb : isD2 b .non st = some (.bl false, st))
    (hl : xs.length = ys.length) (hs : xs.length ≤ 1000) (h : ∀ (i : Nat) (a b : D), xs[i]? = some a → ys[i]? = some b → m__law_isF k [a, b] st = .ok (.bl true) st) : m__law_isF (k + 1) [a, b] st = .ok (.bl true) st := by
  have hi : ∀ (i : Nat) (x : D) (cs : List String) (k : Bool) (e : Py.Loc), e[i]? = some (some x) → tyName x st = some t → (cs.any fun c => isT t c) = k → mIsi (mVar i) cs e st = .ok (.bl k) st := fun i x cs k e he hk hx => isi_of (var_of he) hk hx
  have hz : zpD [a, b] st = some ⟨zpL xs ys, fun st' => stillD a xs st' ∧ stillD b ys st'⟩ := by
    simp only [zpD, sa, sb]
    rw [if_pos ia]
  have hm : mLc (mZp (mCons (mVar 0) (mCons (mVar 1) mNil))) (.tp [2, 3]) mYes (mCall (m__law_isF k) (mCons (mVar 2) (mCons (mVar 3) mNil))) [2, 3] [some a, some b, none, none] st = .ok (.ref st.length) (st ++ [.lst (((zpL xs ys).map fun _ => true).map .bl)]) := by
    rw [List.map_map]
    refine mLc_map (it := ⟨zpL xs ys, fun st' => stillD a xs st' ∧ stillD b ys st'⟩) (fun _ => .bl true) (by rw [x_zp, two_of (var_of rfl) (var_of rfl)]; simp only [R.bind_ok, hz]) ⟨stillD_of sa, stillD_of sb⟩ (by unfold zpL; rw [List.length_zipWith]; exact le_size (by omega)) fun d hd => ?_
    obtain ⟨i, hi, e⟩ := List.getElem_of_mem hd
    obtain ⟨x, y, h1, h2, rfl⟩ := zpL_get (i := i) (by rw [List.getElem?_eq_getElem hi, e])
    refine ⟨[some a, some b, some x, some y], [], rfl, ?_, rfl⟩
    rw [List.append_nil]
    exact call_of (two_of (var_of rfl) (var_of rfl)) (h i x y h1 h2)
  have hall := opN_of (one_of hm) (allD_of (st := st ++ [O.lst (((zpL xs ys).map fun _ => true).map .bl)]) (n := st.length) (bs := (zpL xs ys).map fun _ => true) getL_new)
  have hT : ((zpL xs ys).map fun _ => true).all id = true := by simp
  rw [hT] at hall
  have hle := op2_of (f := eqD) (opN_of (one_of (var_of (i := 0) (e := [some a, some b, none, none]) (st := st) rfl)) la) (opN_of (one_of (var_of (i := 1) rfl)) lb) eqI
  rw [decide_eq_true (by omega)] at hle
  have c1 : (["tuple", "list"].any fun c => isT t c) = true := by rcases ht with rfl | rfl <;> decide
  obtain ⟨bt, hbt⟩ : ∃ bt, (["tuple"].any fun c => isT t c) = bt := ⟨_, rfl⟩
  obtain ⟨bl, hbl⟩ : ∃ bl, (["list"].any fun c => isT t c) = bl := ⟨_, rfl⟩
  have n1 := asB_ok (op2_of (f := neD) (hi 0 a ["tuple"] bt [some a, some b, none, none] rfl ta hbt) (hi 1 b ["tuple"] bt _ rfl tb hbt) neBl)
  have n2 := asB_ok (op2_of (f := neD) (hi 0 a ["list"] bl [some a, some b, none, none] rfl ta hbl) (hi 1 b ["list"] bl _ rfl tb hbl) neBl)
  rw [decide_eq_true rfl] at n1 n2
  exact run_rt (seq_nx (if_f (or_f (asB_ok (op2_of (var_of rfl) rfl nb)) (asB_ok (op2_of (var_of rfl) rfl na))) rfl) (seq_rt (if_t (asB_ok (hi 1 b _ true _ rfl tb c1)) (seq_nx (if_f (or_f n1 n2) rfl) (seq_rt (ret_of (andV_t hle hall))))))) rfl
theorem is_flat {st : Store} {k : Nat} {a : D} {t : String} (ta : tyName a st = some t) (c1 : (["tuple", "list"].any fun c => isT t c) = false) (na : isD2 a .non st = some (.bl false, st)) (he : eqD a a st = some (.bl true, st)) : m__law_isF (k + 1) [a, a] st = .ok (.bl true) st := by
  have hi : ∀ (i : Nat) (cs : List String) (k : Bool) (e : Py.Loc), e[i]? = some (some a) → (cs.any fun c => isT t c) = k → mIsi (mVar i) cs e st = .ok (.bl k) st := fun i cs k e he hx => isi_of (var_of he) ta hx
  obtain ⟨b1, h1⟩ : ∃ bt, (["bool"].any fun c => isT t c) = bt := ⟨_, rfl⟩
  obtain ⟨b2, h2⟩ : ∃ bt, (["int"].any fun c => isT t c) = bt := ⟨_, rfl⟩
  obtain ⟨b3, h3⟩ : ∃ bt, (["str"].any fun c => isT t c) = bt := ⟨_, rfl⟩
  have n1 := asB_ok (op2_of (f := neD) (hi 0 ["bool"] b1 [some a, some a, none, none] rfl h1) (hi 1 ["bool"] b1 _ rfl h1) neBl)
  have n2 := asB_ok (op2_of (f := neD) (hi 0 ["int"] b2 [some a, some a, none, none] rfl h2) (hi 1 ["int"] b2 _ rfl h2) neBl)
  have n3 := op2_of (f := eqD) (hi 0 ["str"] b3 [some a, some a, none, none] rfl h3) (hi 1 ["str"] b3 _ rfl h3) eqBl
  rw [decide_eq_true rfl] at n1 n2 n3
  exact run_rt0 (seq_nx (if_f (or_f (asB_ok (op2_of (var_of rfl) rfl na)) (asB_ok (op2_of (var_of rfl) rfl na))) rfl) (seq_nx (if_f (asB_ok (hi 1 _ false _ rfl c1)) rfl) (seq_nx (if_f (or_f n1 n2) rfl) (seq_rt (ret_of (andV_t n3 (op2_of (var_of rfl) (var_of rfl) he))))))) rfl
theorem e__law_is {st : Store} : ∀ {k : Nat} {a b : D}, Sm st k a b → m__law_isF (k + 1) [a, b] st = .ok (.bl true) st := by
  intro k
  induction k with
  | zero =>
    intro a b h
    cases h with
    | non => exact run_rt0 (seq_rt (if_t (or_t (asB_ok (op2_of (var_of rfl) rfl isNon_non))) (seq_rt (ret_of (andV_t (op2_of (var_of rfl) rfl isNon_non) (op2_of (var_of rfl) rfl isNon_non)))))) rfl
    | bl b => exact is_flat ty_bl (by decide) isNon_bl (by rw [eqBl, decide_eq_true rfl])
    | int i => exact is_flat ty_int (by decide) isNon_int (by rw [eqI, decide_eq_true rfl])
    | str h => exact is_flat ty_str (by decide) isNon_str (by rw [eqSt h h, decide_eq_true rfl])
  | succ k ih =>
    intro a b h
    cases h with
    | non => exact run_rt0 (seq_rt (if_t (or_t (asB_ok (op2_of (var_of rfl) rfl isNon_non))) (seq_rt (ret_of (andV_t (op2_of (var_of rfl) rfl isNon_non) (op2_of (var_of rfl) rfl isNon_non)))))) rfl
    | bl b => exact is_flat ty_bl (by decide) isNon_bl (by rw [eqBl, decide_eq_true rfl])
    | int i => exact is_flat ty_int (by decide) isNon_int (by rw [eqI, decide_eq_true rfl])
    | str h => exact is_flat ty_str (by decide) isNon_str (by rw [eqSt h h, decide_eq_true rfl])
    | tup hl hs h => exact is_seq (.inl rfl) rfl rfl rfl rfl rfl rfl rfl isNon_tup isNon_tup hl hs fun i a b h1 h2 => ih (h i a b h1 h2)
    | lst h1 h2 hl hs h =>
      rename_i n m xs ys
      have g1 : getL st n = some xs := by unfold getL; rw [h1]
      have g2 : getL st m = some ys := by unfold getL; rw [h2]
      exact is_seq (.inr rfl) (by simp only [tyName, h1]) (by simp only [tyName, h2]) g1 g2 rfl (by simp [lenD, h1, getL]) (by simp [lenD, h2, getL]) isNon_ref isNon_ref hl hs fun i a b q1 q2 => ih (h i a b q1 q2)
--END _law_is
end K99

set_option Elab.async false
set_option linter.all false
set_option maxRecDepth 100000
set_option maxHeartbeats 4000000
set_option exponentiation.threshold 10000
namespace K99
open Py L2 PySem PySem.Spec PyProof.Rows
variable [Tb]
/-! ### kinds of things -/
theorem e_is_integer {d : D} {st : Store} {t : String} (ht : tyName d st = some t) : m_is_integer [d] st = .ok (.bl (isT t "int" && !isT t "bool")) st := by
  have h1 := isi_of (cs := ["int"]) (k := isT t "int") (var_of (i := 0) (e := startE N_is_integer [d]) (st := st) rfl) ht (by simp)
  have h2 := isi_of (cs := ["bool"]) (k := isT t "bool") (var_of (i := 0) (e := startE N_is_integer [d]) (st := st) rfl) ht (by simp)
  cases hb : isT t "int" with
  | true =>
    rw [hb] at h1
    exact run_rt0 (seq_rt (ret_of (andV_t h1 (notV_of h2)))) rfl
  | false =>
    rw [hb] at h1
    exact run_rt0 (seq_rt (ret_of (andV_f h1))) rfl
theorem e_is_int (i : Int) (st : Store) : m_is_integer [.int i] st = .ok (.bl true) st := by
  rw [e_is_integer (t := "int") rfl]; simp
theorem e_is_within {d : D} {st : Store} {t : String} (ht : tyName d st = some t) (hn : (isT t "int" && !isT t "bool") = false) (a b : Int) : m_is_within [d, .int a, .int b] st = .ok (.bl false) st := by
  have h := e_is_integer ht
  rw [hn] at h
  exact run_rt0 (seq_rt (ret_of (andV_f (call_of (one_of (var_of rfl)) h)))) rfl
theorem e_within (i a b : Int) (st : Store) : m_is_within [.int i, .int a, .int b] st = .ok (.bl (decide (a ≤ i) && decide (i ≤ b))) st := by
  have h := e_is_int i st
  refine run_rt0 (seq_rt (ret_of (andV_t (call_of (one_of (var_of rfl)) h) ?_))) rfl
  unfold mChain
  rw [var_of (i := 1) (d := .int a) rfl]
  simp only [R.bind_ok]
  rw [var_of (i := 0) (d := .int i) rfl]
  simp only [R.bind_ok, leI, ofO_some]
  by_cases ha : a ≤ i
  · simp only [ha, decide_true]
    rw [var_of (i := 2) (d := .int b) rfl]
    simp
  · simp only [ha, decide_false]
    rfl
/-! ### nets -/
inductive Rw where
  | s (x : Str)
  | w (is : List Int)
  | n
def rwD : Rw → D
  | .s x => .str x
  | .w is => .tup (intsD is)
  | .n => .non
def ascI (is : List Int) : Bool := (is.zip (is.drop 1)).all fun p => decide (p.1 < p.2)
def inI (lo hi i : Int) : Bool := decide (lo ≤ i) && decide (i ≤ hi)
def rowB (n k : Nat) : Rw → Bool
  | .s x => decide (x = "goal") || decide (x = "lost")
  | .w is => !is.isEmpty && ((is.all fun i => inI ((k : Nat) + 1 : Int) ((n : Nat) - 1 : Int) i) && ascI is)
  | .n => false
def okR : Rw → Prop
  | .s x => okS x = true
  | .w is => is.length ≤ 1000
  | .n => True
def allB (n : Nat) : Nat → List Rw → Bool
  | _, [] => true
  | k, r :: rs => rowB n k r && allB n (k + 1) rs
def netB (rs : List Rw) : Bool := decide (1 ≤ rs.length) && (decide (rs.length ≤ 40) && allB rs.length 0 rs)
theorem eqF_str (a b : Str) : eqF (.str a) (.str b) = decide (a = b) := by
  unfold eqF
  simp only [VofD, eqV]
  by_cases h : a = b <;> simp [h]
theorem nin_gl (s : Str) (st : Store) : ninA (.str s) (.tup [.str "goal", .str "lost"]) st = some (.bl (!(decide (s = "goal") || decide (s = "lost"))), st) := by
  have h1 : ninDictD (.str s) (.tup [.str "goal", .str "lost"]) st = none := rfl
  have h2 : inB (.str s) (.tup [.str "goal", .str "lost"]) st = some (decide (s = "goal") || decide (s = "lost")) := by
    have e1 : decide ((("goal" : Str)) = s) = decide (s = "goal") := decide_eq_decide.mpr ⟨Eq.symm, Eq.symm⟩
    have e2 : decide ((("lost" : Str)) = s) = decide (s = "lost") := decide_eq_decide.mpr ⟨Eq.symm, Eq.symm⟩
    unfold inB
    simp only [List.any_cons, List.any_nil, eqF_str, Bool.or_false, e1, e2]
    rw [if_pos ⟨rfl, rfl⟩]
  unfold ninA ninD
  rw [h1, h2]
theorem pyGs_ints (f : Nat → Option PyData) (is : List Int) : pyGs f (intsD is) = some (is.map .int) := by
  unfold intsD
  induction is with
  | nil => rfl
  | cons a is ih => simp only [List.map_cons, pyGs, pyG, ih]
theorem canLay_ints (is : List Int) : PyData.canLayAll0 (is.map .int) = true := by
  induction is with
  | nil => rfl
  | cons a is ih => simp only [List.map_cons, PyData.canLayAll0, ih, PyData.canLay0]; rfl
theorem depth_ints (is : List Int) : PyData.depthAll (is.map .int) ≤ 1 := by
  induction is with
  | nil => decide
  | cons a is ih => simp only [List.map_cons, PyData.depthAll, PyData.depth]; omega
theorem shaped_ints (is : List Int) : SeqAt.shaped (.tuple (is.map .int)) = true := by
  have h1 := canLay_ints is
  have h2 := depth_ints is
  have h3 : (PyData.tuple (is.map .int)).depth ≤ 64 := by simp only [PyData.depth]; omega
  simp only [SeqAt.shaped, PyData.canLay0, h1, Bool.true_and, decide_eq_true_eq]
  exact h3
theorem eq_tup0 (is : List Int) (st : Store) : eqD (.tup (intsD is)) (.tup []) st = some (.bl is.isEmpty, st) := by
  unfold eqD
  have h1 : toPy st (.tup (intsD is)) = some (.tuple (is.map .int)) := by simp only [toPy, pyG, pyGs_ints]
  have h2 : toPy st (.tup []) = some (.tuple []) := rfl
  rw [h1, h2]
  simp only []
  rw [guard_pos ⟨shaped_ints is, rfl⟩]
  cases is <;> rfl
theorem cut1 (is : List Int) (st : Store) : Py.cutD (.tup (intsD is)) (some 1) none st = some (.tup (intsD (is.drop 1)), st) := by
  have e : cutL (intsD is) (some (1 : Int)) none = intsD (is.drop 1) := by
    unfold cutL intsD
    have h1 : (1 : Int) = ((1 : Nat) : Int) := rfl
    rw [h1, HT.sIx_none, HT.sIx_nat]
    cases is with
    | nil => rfl
    | cons a is =>
      have : min 1 (List.map D.int (a :: is)).length = 1 := by simp
      rw [this]
      simp
      exact List.take_of_length_le (by simp)
  simp only [Py.cutD, e]
theorem zip_ints (xs : List Int) : ∀ ys : List Int, zpL (intsD xs) (intsD ys) = (xs.zip ys).map fun p => .tup [.int p.1, .int p.2] := by
  unfold zpL intsD
  induction xs with
  | nil => intro ys; rfl
  | cons x xs ih =>
    intro ys
    cases ys with
    | nil => rfl
    | cons y ys => simp only [List.map_cons, List.zipWith_cons_cons, List.zip_cons_cons, ih]
noncomputable abbrev nbody : Py.Loc → Store → Fl := (sSeq (sIf (asB (mIsi (mVar 2) ["str"])) (sSeq (sIf (asB (mOp2 ninA (mVar 2) (mTup (mCons (mC (.str "goal")) (mCons (mC (.str "lost")) mNil))))) (sSeq (sRet (mC (.bl false))) (fun e st => .nx e st)) (fun e st => .nx e st)) (fun e st => .nx e st)) (sSeq (sIf (mOr (mNot (asB (mIsi (mVar 2) ["tuple"]))) (asB (mOp2 eqD (mVar 2) (mTup mNil)))) (sSeq (sRet (mC (.bl false))) (fun e st => .nx e st)) (sSeq (sIf (mNot (asB (mOpN allD (mCons (mLc (mIt (mVar 2)) (.nm 3) mYes (mCall m_is_within (mCons (mVar 3) (mCons (mOp2 addD (mVar 1) (mC (.int 1))) (mCons (mOp2 subD (mOpN lenD (mCons (mVar 0) mNil)) (mC (.int 1))) mNil)))) [3]) mNil)))) (sSeq (sRet (mC (.bl false))) (fun e st => .nx e st)) (sSeq (sIf (mNot (asB (mOpN allD (mCons (mLc (mZp (mCons (mVar 2) (mCons (mSl (mVar 2) (mP (mC (.int 1))) mNoP) mNil))) (.tp [3, 4]) mYes (mOp2 ltD (mVar 3) (mVar 4)) [3, 4]) mNil)))) (sSeq (sRet (mC (.bl false))) (fun e st => .nx e st)) (fun e st => .nx e st)) (fun e st => .nx e st))) (fun e st => .nx e st))) (fun e st => .nx e st))) (fun e st => .nx e st))
theorem nstep {ds : List D} {k : Nat} {r : Rw} (hr : okR r) (st : Store) (d3 d4 : Option D) :
    ∃ g, (rowB ds.length k r = true ∧ nbody [some (.tup ds), some (.int (k : Nat)), some (rwD r), d3, d4] st = .nx [some (.tup ds), some (.int (k : Nat)), some (rwD r), d3, d4] (st ++ g)) ∨ (rowB ds.length k r = false ∧ nbody [some (.tup ds), some (.int (k : Nat)), some (rwD r), d3, d4] st = .rt (.bl false) (st ++ g)) := by
  cases r with
  | s x =>
    refine ⟨[], ?_⟩
    rw [List.append_nil]
    have h1 := asB_ok (isi_of (cs := ["str"]) (k := true) (var_of (i := 2) (e := [some (.tup ds), some (.int (k : Nat)), some (rwD (.s x)), d3, d4]) (st := st) rfl) ty_str (by decide))
    have h2 := asB_ok (op2_of (f := ninA) (var_of (i := 2) (e := [some (.tup ds), some (.int (k : Nat)), some (rwD (.s x)), d3, d4]) (st := st) rfl) (tup_of (two_of (x_c (.str "goal")) (x_c (.str "lost"))) (by simp)) (nin_gl x st))
    have e : rowB ds.length k (.s x) = (decide (x = "goal") || decide (x = "lost")) := rfl
    rw [e]
    cases hb : (decide (x = "goal") || decide (x = "lost")) with
    | true =>
      rw [hb] at h2
      exact .inl ⟨rfl, seq_nx (if_t h1 (seq_nx (if_f h2 rfl) rfl)) rfl⟩
    | false =>
      rw [hb] at h2
      exact .inr ⟨rfl, seq_rt (if_t h1 (seq_rt (if_t h2 (seq_rt (ret_of rfl)))))⟩
  | n =>
    refine ⟨[], .inr ⟨rfl, ?_⟩⟩
    rw [List.append_nil]
    exact seq_rt (if_f (asB_ok (isi_of (cs := ["str"]) (k := false) (var_of rfl) (t := "NoneType") rfl (by decide))) (seq_rt (if_t (or_t (not_of (k := false) (asB_ok (isi_of (cs := ["tuple"]) (k := false) (var_of rfl) (t := "NoneType") rfl (by decide))))) (seq_rt (ret_of rfl)))))
  | w is =>
    have hl : is.length ≤ 1000 := hr
    obtain ⟨e, he⟩ : ∃ e : Py.Loc, e = [some (.tup ds), some (.int (k : Nat)), some (.tup (intsD is)), d3, d4] := ⟨_, rfl⟩
    have h1 : asB (mIsi (mVar 2) ["str"]) e st = .ok false st := asB_ok (isi_of (cs := ["str"]) (k := false) (var_of (by rw [he]; rfl)) ty_tup (by decide))
    have h2 : mNot (asB (mIsi (mVar 2) ["tuple"])) e st = .ok false st := not_of (k := true) (asB_ok (isi_of (cs := ["tuple"]) (k := true) (var_of (by rw [he]; rfl)) ty_tup (by decide)))
    have h3 : asB (mOp2 eqD (mVar 2) (mTup mNil)) e st = .ok is.isEmpty st := asB_ok (op2_of (var_of (by rw [he]; rfl)) (tup_of rfl (by simp)) (eq_tup0 is st))
    have hlen : lenD [.tup ds] st = some (.int (ds.length : Nat), st) := lenT
    have h4 := all_of (e := e) (st := st) (mi := mIt (mVar 2)) (tg := .nm 3) (vs := [3]) (me := mCall m_is_within (mCons (mVar 3) (mCons (mOp2 addD (mVar 1) (mC (.int 1))) (mCons (mOp2 subD (mOpN lenD (mCons (mVar 0) mNil)) (mC (.int 1))) mNil)))) (it := ⟨intsD is, fun _ => True⟩) (fun d => match d with | .int i => inI ((k : Nat) + 1 : Int) ((ds.length : Nat) - 1 : Int) i | _ => false) (it_of (var_of (by rw [he]; rfl)) rfl) trivial (by simp [intsD]; omega) fun d hd => by
      obtain ⟨i, _, rfl⟩ := List.mem_map.mp hd
      refine ⟨[some (.tup ds), some (.int (k : Nat)), some (.tup (intsD is)), some (.int i), d4], [], by rw [he]; rfl, ?_⟩
      rw [List.append_nil]
      exact call_of (cons_of (var_of rfl) (two_of (op2_of (var_of rfl) rfl addI) (op2_of (opN_of (one_of (var_of rfl)) hlen) rfl subI))) (e_within i _ _ st)
    have a4 : ((intsD is).all fun d => match d with | .int i => inI ((k : Nat) + 1 : Int) ((ds.length : Nat) - 1 : Int) i | _ => false) = is.all fun i => inI ((k : Nat) + 1 : Int) ((ds.length : Nat) - 1 : Int) i := by
      simp only [intsD, List.all_map]; rfl
    obtain ⟨g4, hg4⟩ : ∃ g4, g4 = [O.lst (((intsD is).map fun d => match d with | .int i => inI ((k : Nat) + 1 : Int) ((ds.length : Nat) - 1 : Int) i | _ => false).map .bl)] := ⟨_, rfl⟩
    simp only [a4] at h4
    rw [← hg4] at h4
    have hz : zpD [.tup (intsD is), .tup (intsD (is.drop 1))] (st ++ g4) = some ⟨zpL (intsD is) (intsD (is.drop 1)), fun st' => stillD (.tup (intsD is)) (intsD is) st' ∧ stillD (.tup (intsD (is.drop 1))) (intsD (is.drop 1)) st'⟩ := rfl
    have h5 := all_of (e := e) (st := st ++ g4) (mi := mZp (mCons (mVar 2) (mCons (mSl (mVar 2) (mP (mC (.int 1))) mNoP) mNil))) (tg := .tp [3, 4]) (vs := [3, 4]) (me := mOp2 ltD (mVar 3) (mVar 4)) (it := ⟨zpL (intsD is) (intsD (is.drop 1)), fun st' => stillD (.tup (intsD is)) (intsD is) st' ∧ stillD (.tup (intsD (is.drop 1))) (intsD (is.drop 1)) st'⟩) (fun d => match d with | .tup [.int a, .int b] => decide (a < b) | _ => false) (by
      rw [x_zp, two_of (var_of (by rw [he]; rfl)) (sl_of (var_of (by rw [he]; rfl)) (p_of rfl) rfl (cut1 is _))]
      simp only [R.bind_ok, hz]) ⟨trivial, trivial⟩ (by rw [zip_ints, List.length_map, List.length_zip]; omega) fun d hd => by
      simp only [zip_ints] at hd
      obtain ⟨p, _, rfl⟩ := List.mem_map.mp hd
      refine ⟨[some (.tup ds), some (.int (k : Nat)), some (.tup (intsD is)), some (.int p.1), some (.int p.2)], [], by rw [he]; rfl, ?_⟩
      rw [List.append_nil]
      exact op2_of (var_of rfl) (var_of rfl) ltI
    have a5 : ((zpL (intsD is) (intsD (is.drop 1))).all fun d => match d with | .tup [.int a, .int b] => decide (a < b) | _ => false) = ascI is := by
      rw [zip_ints, List.all_map]; rfl
    obtain ⟨g5, hg5⟩ : ∃ g5, g5 = [O.lst (((zpL (intsD is) (intsD (is.drop 1))).map fun d => match d with | .tup [.int a, .int b] => decide (a < b) | _ => false).map .bl)] := ⟨_, rfl⟩
    simp only [a5] at h5
    rw [← hg5, List.append_assoc] at h5
    have er : rowB ds.length k (.w is) = (!is.isEmpty && ((is.all fun i => inI ((k : Nat) + 1 : Int) ((ds.length : Nat) - 1 : Int) i) && ascI is)) := rfl
    rw [er]
    have e0 : [some (.tup ds), some (.int (k : Nat)), some (rwD (.w is)), d3, d4] = e := by rw [he]; rfl
    rw [e0]
    cases c1 : is.isEmpty with
    | true =>
      rw [c1] at h3
      refine ⟨[], .inr ⟨rfl, ?_⟩⟩
      rw [List.append_nil]
      exact seq_rt (if_f h1 (seq_rt (if_t (or_f h2 h3) (seq_rt (ret_of rfl)))))
    | false =>
      rw [c1] at h3
      cases c2 : (is.all fun i => inI ((k : Nat) + 1 : Int) ((ds.length : Nat) - 1 : Int) i) with
      | false =>
        rw [c2] at h4
        exact ⟨g4, .inr ⟨rfl, seq_rt (if_f h1 (seq_rt (if_f (or_f h2 h3) (seq_rt (if_t (not_of (k := false) (asB_ok h4)) (seq_rt (ret_of rfl)))))))⟩⟩
      | true =>
        rw [c2] at h4
        cases c3 : ascI is with
        | false =>
          rw [c3] at h5
          exact ⟨g4 ++ g5, .inr ⟨rfl, seq_rt (if_f h1 (seq_rt (if_f (or_f h2 h3) (seq_rt (if_f (not_of (k := true) (asB_ok h4)) (seq_rt (if_t (not_of (k := false) (asB_ok h5)) (seq_rt (ret_of rfl)))))))))⟩⟩
        | true =>
          rw [c3] at h5
          exact ⟨g4 ++ g5, .inl ⟨rfl, seq_nx (if_f h1 (seq_nx (if_f (or_f h2 h3) (seq_nx (if_f (not_of (k := true) (asB_ok h4)) (seq_nx (if_f (not_of (k := true) (asB_ok h5)) rfl) rfl)) rfl)) rfl)) rfl⟩⟩
theorem nloop {ds : List D} : ∀ (rs : List Rw) (k : Nat) (st : Store) (d1 d2 d3 d4 : Option D), (∀ r ∈ rs, okR r) →
    ∃ g, (allB ds.length k rs = true ∧ ∃ d1' d2', forL (fun _ => True) (fun d e st => ((gTp 2 (gCn (gN 1) (gCn (gN 2) gNl))) d e st).seq nbody) (enF k (rs.map rwD)) [some (.tup ds), d1, d2, d3, d4] st = .nx [some (.tup ds), d1', d2', d3, d4] (st ++ g)) ∨
      (allB ds.length k rs = false ∧ forL (fun _ => True) (fun d e st => ((gTp 2 (gCn (gN 1) (gCn (gN 2) gNl))) d e st).seq nbody) (enF k (rs.map rwD)) [some (.tup ds), d1, d2, d3, d4] st = .rt (.bl false) (st ++ g)) := by
  intro rs
  induction rs with
  | nil => exact fun k st d1 d2 d3 d4 _ => ⟨[], .inl ⟨rfl, d1, d2, by rw [List.append_nil]; exact forL_nil trivial⟩⟩
  | cons r rs ih =>
    intro k st d1 d2 d3 d4 h
    have e0 : enF k ((r :: rs).map rwD) = .tup [.int (k : Nat), rwD r] :: enF (k + 1) (rs.map rwD) := rfl
    have ea : allB ds.length k (r :: rs) = (rowB ds.length k r && allB ds.length (k + 1) rs) := rfl
    rw [e0, ea]
    obtain ⟨g, ⟨hb, hg⟩ | ⟨hb, hg⟩⟩ := nstep (ds := ds) (k := k) (h r List.mem_cons_self) st d3 d4
    · obtain ⟨g', hr⟩ := ih (k + 1) (st ++ g) (some (.int (k : Nat))) (some (rwD r)) d3 d4 fun r' hr' => h r' (List.mem_cons_of_mem _ hr')
      refine ⟨g ++ g', ?_⟩
      rw [hb, Bool.true_and, forL_nx trivial (e' := [some (.tup ds), some (.int (k : Nat)), some (rwD r), d3, d4]) (st' := st ++ g) (by
        show (Fl.nx _ _).seq _ = _
        rw [Fl.seq_nx]
        exact hg), ← List.append_assoc]
      exact hr
    · refine ⟨g, .inr ⟨by rw [hb]; rfl, forL_rt trivial ?_⟩⟩
      show (Fl.nx _ _).seq _ = _
      rw [Fl.seq_nx]
      exact hg
theorem e_is_net (rs : List Rw) (h : ∀ r ∈ rs, okR r) (st : Store) : m_is_net [.tup (rs.map rwD)] st = .ok (.bl (netB rs)) st := by
  obtain ⟨ds, hds⟩ : ∃ ds, ds = rs.map rwD := ⟨_, rfl⟩
  have hdl : ds.length = rs.length := by rw [hds]; simp
  rw [← hds]
  have hch : mChain leD leD (mC (.int 1)) (mOpN lenD (mCons (mVar 0) mNil)) (mC (.int 40)) (startE N_is_net [.tup ds]) st = .ok (.bl (decide (1 ≤ rs.length) && decide (rs.length ≤ 40))) st := by
    unfold mChain
    rw [x_c]
    simp only [R.bind_ok]
    rw [opN_of (f := lenD) (one_of (var_of (i := 0) (d := .tup ds) rfl)) lenT]
    simp only [R.bind_ok, leI, ofO_some, hdl]
    by_cases ha : (1 : Int) ≤ (rs.length : Int)
    · have ha' : 1 ≤ rs.length := by omega
      have e3 : decide ((rs.length : Int) ≤ 40) = decide (rs.length ≤ 40) := decide_eq_decide.mpr (by omega)
      simp only [ha, ha', decide_true, Bool.true_and]
      rw [x_c]
      simp only [R.bind_ok, leI, ofO_some, e3]
    · have ha' : ¬ 1 ≤ rs.length := by omega
      simp only [ha, ha', decide_false, Bool.false_and]
  have hisi : mNot (asB (mIsi (mVar 0) ["tuple"])) (startE N_is_net [.tup ds]) st = .ok false st := not_of (k := true) (asB_ok (isi_of (cs := ["tuple"]) (k := true) (var_of rfl) ty_tup (by decide)))
  have e : netB rs = ((decide (1 ≤ rs.length) && decide (rs.length ≤ 40)) && allB rs.length 0 rs) := by unfold netB; rw [Bool.and_assoc]
  rw [e]
  cases hr : (decide (1 ≤ rs.length) && decide (rs.length ≤ 40)) with
  | false =>
    rw [hr] at hch
    exact run_rt0 (seq_rt (if_t (or_f hisi (not_of (k := false) (asB_ok hch))) (seq_rt (ret_of rfl)))) rfl
  | true =>
    rw [hr] at hch
    rw [Bool.true_and]
    have hen : enD (.tup ds) st = some ⟨enF 0 (rs.map rwD), fun _ => True⟩ := by
      simp only [enD, itD, seqOf_tup, Option.map_some, enL_F, hds]
      rfl
    obtain ⟨g, ⟨ha, d1', d2', hg⟩ | ⟨ha, hg⟩⟩ := nloop (ds := ds) rs 0 st none none none none h
    · rw [hdl] at ha
      rw [ha]
      exact run_rt (g := g) (seq_nx (if_f (or_f hisi (not_of (k := true) (asB_ok hch))) rfl) (seq_nx (for_of (en_of (var_of rfl) hen) hg) (seq_rt (ret_of rfl)))) rfl
    · rw [hdl] at ha
      rw [ha]
      exact run_rt (g := g) (seq_nx (if_f (or_f hisi (not_of (k := true) (asB_ok hch))) rfl) (seq_rt (for_of (en_of (var_of rfl) hen) hg))) rfl
theorem e_is_net_no {d : D} {st : Store} {t : String} (ht : tyName d st = some t) (hn : isT t "tuple" = false) : m_is_net [d] st = .ok (.bl false) st :=
  run_rt0 (seq_rt (if_t (or_t (not_of (k := false) (asB_ok (isi_of (cs := ["tuple"]) (k := false) (var_of rfl) ht (by simp [hn]))))) (seq_rt (ret_of rfl)))) rfl
theorem e_check_ok {d : D} {st : Store} (h : m_is_net [d] st = .ok (.bl true) st) : m_check_net [d] st = .ok .non st :=
  run_nx0 (seq_nx (if_f (not_of (k := true) (asB_ok (call_of (one_of (var_of rfl)) h))) rfl) rfl)
theorem e_check_bad {d : D} {st : Store} (h : m_is_net [d] st = .ok (.bl false) st) : m_check_net [d] st = .ex "BadBoardWays" [] st :=
  run_ex0 (seq_ex (by
    unfold sIf
    rw [not_of (k := false) (asB_ok (call_of (one_of (var_of rfl)) h))]
    simp only [R.to_ok, Bool.not_false, if_true]
    exact seq_ex raise_of))
/-! good nets -/
inductive Row where
  | fin (b : Bool)
  | to (ws : List Nat)
def Row.rw : Row → Rw
  | .fin true => .s "goal"
  | .fin false => .s "lost"
  | .to ws => .w (ws.map fun (w : Nat) => (w : Int))
def rowD (r : Row) : D := rwD r.rw
def netD (net : List Row) : D := .tup (net.map rowD)
def ascN (ws : List Nat) : Bool := (ws.zip (ws.drop 1)).all fun p => decide (p.1 < p.2)
def rowOk (n k : Nat) : Row → Bool
  | .fin _ => true
  | .to ws => !ws.isEmpty && ((ws.all fun w => decide (k < w) && decide (w < n)) && (ascN ws && decide (ws.length ≤ 40)))
def rowsOk (n : Nat) : Nat → List Row → Bool
  | _, [] => true
  | k, r :: rs => rowOk n k r && rowsOk n (k + 1) rs
structure NetOk (net : List Row) : Prop where
  lo : 1 ≤ net.length
  hi : net.length ≤ 40
  ok : rowsOk net.length 0 net = true
theorem ascI_N (ws : List Nat) : ascI (ws.map fun (w : Nat) => (w : Int)) = ascN ws := by
  unfold ascI ascN
  rw [← List.map_drop, List.zip_map, List.all_map]
  congr 1
  funext p
  exact decide_eq_decide.mpr (by simp)
theorem rowB_of {n k : Nat} {r : Row} (h : rowOk n k r = true) : rowB n k r.rw = true := by
  cases r with
  | fin b => cases b <;> rfl
  | to ws =>
    simp only [rowOk, Bool.and_eq_true, decide_eq_true_eq, List.all_eq_true] at h
    obtain ⟨h1, h2, h3, h4⟩ := h
    simp only [Row.rw, rowB, Bool.and_eq_true, ascI_N, h3, and_true, List.all_map, List.all_eq_true]
    refine ⟨by cases ws <;> simp at h1 ⊢, fun w hw => ?_⟩
    have := h2 w hw
    simp only [Function.comp, inI, Bool.and_eq_true, decide_eq_true_eq]
    omega
theorem allB_of {n : Nat} : ∀ {rs : List Row} {k : Nat}, rowsOk n k rs = true → allB n k (rs.map Row.rw) = true := by
  intro rs
  induction rs with
  | nil => intro k _; rfl
  | cons r rs ih =>
    intro k h
    simp only [rowsOk, Bool.and_eq_true] at h
    simp only [List.map_cons, allB, Bool.and_eq_true]
    exact ⟨rowB_of h.1, ih h.2⟩
theorem rows_at {n : Nat} : ∀ {rs : List Row} {k i : Nat} {r : Row}, rowsOk n k rs = true → rs[i]? = some r → rowOk n (k + i) r = true := by
  intro rs
  induction rs with
  | nil => intro k i r _ h; simp at h
  | cons r0 rs ih =>
    intro k i r h hi
    simp only [rowsOk, Bool.and_eq_true] at h
    cases i with
    | zero => simp at hi; subst hi; exact h.1
    | succ i =>
      have := ih (i := i) h.2 (by simpa using hi)
      rw [show k + 1 + i = k + (i + 1) by omega] at this
      exact this
theorem NetOk.at_ {net : List Row} (h : NetOk net) {k : Nat} {ws : List Nat} (e : net[k]? = some (.to ws)) : ws ≠ [] ∧ (∀ w ∈ ws, k < w ∧ w < net.length) ∧ ws.length ≤ 40 := by
  have q := rows_at h.ok e
  simp only [rowOk, Bool.and_eq_true, decide_eq_true_eq, List.all_eq_true, Nat.zero_add] at q
  obtain ⟨h1, h2, h3, h4⟩ := q
  exact ⟨fun z => by rw [z] at h1; simp at h1, h2, h4⟩
theorem e_net {net : List Row} (h : NetOk net) (st : Store) : m_is_net [netD net] st = .ok (.bl true) st := by
  have q := e_is_net (net.map Row.rw) (fun r hr => by
    obtain ⟨r0, h0, rfl⟩ := List.mem_map.mp hr
    cases r0 with
    | fin b => cases b <;> (show okS _ = true; decide +kernel)
    | to ws =>
      obtain ⟨i, hi, e⟩ := List.getElem_of_mem h0
      have := (h.at_ (k := i) (by rw [List.getElem?_eq_getElem hi, e])).2.2
      show (ws.map fun (w : Nat) => (w : Int)).length ≤ 1000
      rw [List.length_map]; omega) st
  have hb : netB (net.map Row.rw) = true := by
    simp only [netB, List.length_map, Bool.and_eq_true, decide_eq_true_eq]
    exact ⟨h.lo, h.hi, allB_of h.ok⟩
  rw [hb, List.map_map] at q
  exact q
theorem e_check {net : List Row} (h : NetOk net) (st : Store) : m_check_net [netD net] st = .ok .non st := e_check_ok (e_net h st)
end K99

set_option Elab.async false
set_option linter.all false
set_option maxRecDepth 100000
set_option maxHeartbeats 4000000
set_option exponentiation.threshold 10000
namespace K99
open Py L2 PySem PySem.Spec PyProof.Rows
variable [Tb]
/-! ### halves -/
theorem half_div (p : Rat) : Rat.divInt p.num (2 * (p.den : Int)) = p / 2 := by
  have hd : ((p.den : Int) : Rat) ≠ 0 := by
    have h := p.den_nz
    intro z
    exact h (by exact_mod_cast z)
  have hs : p * ((p.den : Int) : Rat) = (p.num : Rat) := by
    have h := Rat.num_divInt_den p
    rw [Rat.divInt_eq_div] at h
    have h2 : (p.num : Rat) / ((p.den : Int) : Rat) * ((p.den : Int) : Rat) = (p.num : Rat) := Rat.div_mul_cancel hd
    rw [h] at h2
    exact h2
  rw [Rat.divInt_eq_div]
  have e1 : ((2 * (p.den : Int) : Int) : Rat) = 2 * ((p.den : Int) : Rat) := by push_cast; rfl
  rw [e1, ← hs]
  generalize ((p.den : Int) : Rat) = d at *
  have e2 : p * d = p / 2 * (2 * d) := by grind
  rw [e2]
  exact Rat.mul_div_cancel (by grind)
theorem den2_ne (p : Rat) : (2 * (p.den : Int)) ≠ 0 := by have := p.den_pos; omega
theorem den2_lt {p : Rat} {b : Nat} (h : Sz b p) (hb : b ≤ 4000) : (2 * (p.den : Int)).natAbs < 2 ^ 8000 := by
  have h1 : p.den < 2 ^ 4000 := Nat.lt_of_lt_of_le h.2 (Nat.pow_le_pow_right (by omega) hb)
  have h2 : (2 : Nat) ^ 4000 * 2 ≤ 2 ^ 8000 := by rw [← Nat.pow_succ]; exact Nat.pow_le_pow_right (by omega) (by omega)
  omega
theorem e_half_of {p : Rat} {b : Nat} (h : Sz b p) (hb : b ≤ 4000) (st : Store) : m_half_of [frD p] st = .ok (frD (p / 2)) st := by
  have hf := e_frac p.num (2 * (p.den : Int)) (den2_ne p) (den2_lt h hb) st
  rw [half_div] at hf
  exact run_rt0 (seq_rt (ret_of (call_of (two_of (op2_of (var_of rfl) rfl (ix0 p)) (op2_of rfl (op2_of (var_of rfl) rfl (ix1 p)) (mulI (mul_smallL (by omega) (by omega))))) hf))) rfl
theorem e_law_half {p q : Rat} {a b : Nat} (h1 : Sz a p) (h2 : Sz b q) (hab : a + b ≤ 1000) (st : Store) : m__law_half [frD p, frD q] st = .ok (frD ((p + q) / 2)) st := by
  have ha := e__law_add h1 h2 (by omega) st
  have hz := h1.add h2
  have hf := e__law_frac (p + q).num (2 * ((p + q).den : Int)) (den2_ne _) (den2_lt hz (by omega)) st
  rw [half_div] at hf
  exact run_rt0 (seq_nx (set_of (call_of (two_of (var_of rfl) (var_of rfl)) ha)) (seq_rt (ret_of (call_of (two_of (op2_of (var_of rfl) rfl (ix0 _)) (op2_of rfl (op2_of (var_of rfl) rfl (ix1 _)) (mulI (mul_smallL (by omega) (by omega))))) hf)))) rfl
/-! parts of powers of two -/
def Dy (k : Nat) (q : Rat) : Prop := ∃ m : Nat, m ≤ 2 ^ k ∧ q * ((2 ^ k : Nat) : Rat) = (m : Rat)
theorem pow_cast (k : Nat) : ((2 ^ (k + 1) : Nat) : Rat) = 2 * ((2 ^ k : Nat) : Rat) := by
  rw [Nat.pow_succ, Nat.mul_comm]
  push_cast
  rfl
theorem dy_sz {k : Nat} {q : Rat} (h : Dy k q) : Sz (k + 1) q := by
  obtain ⟨m, hm, e⟩ := h
  have hne : ((2 ^ k : Nat) : Rat) ≠ 0 := by
    have : (2 ^ k : Nat) ≠ 0 := Nat.ne_of_gt (Nat.two_pow_pos k)
    intro z
    exact this (by exact_mod_cast z)
  have hp : (2 : Nat) ^ (k + 1) = 2 * 2 ^ k := by rw [Nat.pow_succ, Nat.mul_comm]
  have hp0 := Nat.two_pow_pos k
  have e2 : q = Rat.divInt ((m : Nat) : Int) (((2 ^ k : Nat)) : Int) := by
    rw [Rat.divInt_eq_div]
    have e3 : (((m : Nat) : Int) : Rat) = (m : Rat) := by push_cast; rfl
    have e4 : ((((2 ^ k : Nat)) : Int) : Rat) = ((2 ^ k : Nat) : Rat) := rfl
    rw [e3, e4, ← e]
    exact (Rat.mul_div_cancel hne).symm
  rw [e2]
  refine sz_div ?_ ?_ ?_
  · omega
  · omega
  · omega
theorem dy_up {k : Nat} {q : Rat} (h : Dy k q) : Dy (k + 1) q := by
  obtain ⟨m, hm, e⟩ := h
  have hp : (2 : Nat) ^ (k + 1) = 2 * 2 ^ k := by rw [Nat.pow_succ, Nat.mul_comm]
  refine ⟨2 * m, by omega, ?_⟩
  rw [pow_cast]
  push_cast
  rw [← e]
  push_cast
  grind
theorem dy_mean {k : Nat} {a b : Rat} (h1 : Dy k a) (h2 : Dy k b) : Dy (k + 1) ((a + b) / 2) := by
  obtain ⟨m, hm, e⟩ := h1
  obtain ⟨n, hn, e'⟩ := h2
  have hp : (2 : Nat) ^ (k + 1) = 2 * 2 ^ k := by rw [Nat.pow_succ, Nat.mul_comm]
  refine ⟨m + n, by omega, ?_⟩
  rw [pow_cast]
  have e3 : ((m + n : Nat) : Rat) = (m : Rat) + (n : Rat) := by push_cast; rfl
  rw [e3, ← e, ← e']
  generalize ((2 ^ k : Nat) : Rat) = d at *
  grind
theorem dy_z (k : Nat) : Dy k 0 := ⟨0, Nat.zero_le _, by rw [Rat.zero_mul]; rfl⟩
theorem dy_o (k : Nat) : Dy k 1 := ⟨2 ^ k, Nat.le_refl _, by rw [Rat.one_mul]⟩
/-! least, greatest -/
def mnS (b x : Rat) : Rat := if x < b then x else b
def mxS (b x : Rat) : Rat := if b < x then x else b
def mnR (S : List Rat) : Rat := S.foldl mnS (S.headD 0)
def mxR (S : List Rat) : Rat := S.foldl mxS (S.headD 0)
theorem fold_mem {f : Rat → Rat → Rat} (hf : ∀ b x, f b x = b ∨ f b x = x) : ∀ (S : List Rat) (b : Rat), S.foldl f b = b ∨ S.foldl f b ∈ S := by
  intro S
  induction S with
  | nil => exact fun b => .inl rfl
  | cons x S ih =>
    intro b
    rw [List.foldl_cons]
    rcases ih (f b x) with h | h
    · rcases hf b x with q | q
      · exact .inl (h.trans q)
      · exact .inr (by rw [h, q]; exact List.mem_cons_self)
    · exact .inr (List.mem_cons_of_mem _ h)
theorem mnS_or (b x : Rat) : mnS b x = b ∨ mnS b x = x := by unfold mnS; split; exact .inr rfl; exact .inl rfl
theorem mxS_or (b x : Rat) : mxS b x = b ∨ mxS b x = x := by unfold mxS; split; exact .inr rfl; exact .inl rfl
theorem mn_mem {S : List Rat} (h : S ≠ []) : mnR S ∈ S := by
  cases S with
  | nil => exact absurd rfl h
  | cons x S =>
    rcases fold_mem mnS_or (x :: S) x with q | q
    · unfold mnR; simp only [List.headD_cons, q]; exact List.mem_cons_self
    · exact q
theorem mx_mem {S : List Rat} (h : S ≠ []) : mxR S ∈ S := by
  cases S with
  | nil => exact absurd rfl h
  | cons x S =>
    rcases fold_mem mxS_or (x :: S) x with q | q
    · unfold mxR; simp only [List.headD_cons, q]; exact List.mem_cons_self
    · exact q
theorem mn_flip (S : List Rat) (h : S ≠ []) : mnR (S.map fun x => 1 - x) = 1 - mxR S := by
  have key : ∀ (S : List Rat) (b : Rat), (S.map fun x => 1 - x).foldl mnS (1 - b) = 1 - S.foldl mxS b := by
    intro S
    induction S with
    | nil => intro b; rfl
    | cons x S ih =>
      intro b
      have e : mnS (1 - b) (1 - x) = 1 - mxS b x := by
        unfold mnS mxS
        by_cases c : b < x
        · rw [if_pos c, if_pos (by grind)]
        · rw [if_neg c, if_neg (by grind)]
      rw [List.map_cons, List.foldl_cons, List.foldl_cons, e, ih]
  cases S with
  | nil => exact absurd rfl h
  | cons x S => exact key (x :: S) x
theorem mx_flip (S : List Rat) (h : S ≠ []) : mxR (S.map fun x => 1 - x) = 1 - mnR S := by
  have key : ∀ (S : List Rat) (b : Rat), (S.map fun x => 1 - x).foldl mxS (1 - b) = 1 - S.foldl mnS b := by
    intro S
    induction S with
    | nil => intro b; rfl
    | cons x S ih =>
      intro b
      have e : mxS (1 - b) (1 - x) = 1 - mnS b x := by
        unfold mnS mxS
        by_cases c : x < b
        · rw [if_pos c, if_pos (by grind)]
        · rw [if_neg c, if_neg (by grind)]
      rw [List.map_cons, List.foldl_cons, List.foldl_cons, e, ih]
  cases S with
  | nil => exact absurd rfl h
  | cons x S => exact key (x :: S) x
noncomputable abbrev lsB : Py.Loc → Store → Fl := (sSeq (sAsg (mIf (asB (mCall m_less (mCons (mVar 2) (mCons (mVar 1) mNil)))) (mVar 2) (mVar 1)) (gN 1)) (fun e st => .nx e st))
noncomputable abbrev grB : Py.Loc → Store → Fl := (sSeq (sAsg (mIf (asB (mCall m_less (mCons (mVar 1) (mCons (mVar 2) mNil)))) (mVar 2) (mVar 1)) (gN 1)) (fun e st => .nx e st))
theorem ls_loop {still : Store → Prop} {st : Store} (hst : still st) (d0 : Option D) : ∀ (S : List Rat) (b : Rat) (d2 : Option D), Sz 500 b → (∀ s ∈ S, Sz 500 s) → ∃ d2', forL still (fun d e st => (gN 2 d e st).seq lsB) (S.map frD) [d0, some (frD b), d2] st = .nx [d0, some (frD (S.foldl mnS b)), d2'] st := by
  intro S
  induction S with
  | nil => exact fun b d2 _ _ => ⟨d2, forL_nil hst⟩
  | cons s S ih =>
    intro b d2 hb hS
    have hs := hS s List.mem_cons_self
    have hb' : Sz 500 (mnS b s) := by rcases mnS_or b s with q | q <;> rw [q] <;> assumption
    obtain ⟨f2, hl⟩ := ih (mnS b s) (some (frD s)) hb' fun s' hs' => hS s' (List.mem_cons_of_mem _ hs')
    refine ⟨f2, ?_⟩
    rw [List.map_cons, forL_nx hst (e' := [d0, some (frD (mnS b s)), some (frD s)]) (st' := st)]
    · exact hl
    · show (Fl.nx _ _).seq _ = _
      rw [Fl.seq_nx]
      have hle := e_less hs hb (by omega) st
      unfold mnS
      by_cases c : s < b
      · rw [decide_eq_true c] at hle
        rw [if_pos c]
        exact seq_nx (set_of (ifx_t (k := true) (asB_ok (call_of (two_of (var_of rfl) (var_of rfl)) hle)) (var_of rfl))) rfl
      · rw [decide_eq_false c] at hle
        rw [if_neg c]
        exact seq_nx (set_of (ifx_f (k := true) (asB_ok (call_of (two_of (var_of rfl) (var_of rfl)) hle)) (var_of rfl))) rfl
theorem gr_loop {still : Store → Prop} {st : Store} (hst : still st) (d0 : Option D) : ∀ (S : List Rat) (b : Rat) (d2 : Option D), Sz 500 b → (∀ s ∈ S, Sz 500 s) → ∃ d2', forL still (fun d e st => (gN 2 d e st).seq grB) (S.map frD) [d0, some (frD b), d2] st = .nx [d0, some (frD (S.foldl mxS b)), d2'] st := by
  intro S
  induction S with
  | nil => exact fun b d2 _ _ => ⟨d2, forL_nil hst⟩
  | cons s S ih =>
    intro b d2 hb hS
    have hs := hS s List.mem_cons_self
    have hb' : Sz 500 (mxS b s) := by rcases mxS_or b s with q | q <;> rw [q] <;> assumption
    obtain ⟨f2, hl⟩ := ih (mxS b s) (some (frD s)) hb' fun s' hs' => hS s' (List.mem_cons_of_mem _ hs')
    refine ⟨f2, ?_⟩
    rw [List.map_cons, forL_nx hst (e' := [d0, some (frD (mxS b s)), some (frD s)]) (st' := st)]
    · exact hl
    · show (Fl.nx _ _).seq _ = _
      rw [Fl.seq_nx]
      have hle := e_less hb hs (by omega) st
      unfold mxS
      by_cases c : b < s
      · rw [decide_eq_true c] at hle
        rw [if_pos c]
        exact seq_nx (set_of (ifx_t (k := true) (asB_ok (call_of (two_of (var_of rfl) (var_of rfl)) hle)) (var_of rfl))) rfl
      · rw [decide_eq_false c] at hle
        rw [if_neg c]
        exact seq_nx (set_of (ifx_f (k := true) (asB_ok (call_of (two_of (var_of rfl) (var_of rfl)) hle)) (var_of rfl))) rfl
theorem e_least_of {S : List Rat} (hS : S ≠ []) (h : ∀ s ∈ S, Sz 500 s) {st : Store} {n : Nat} (hn : st[n]? = some (.lst (S.map frD))) : m_least_of [.ref n] st = .ok (frD (mnR S)) st := by
  obtain ⟨x, r, rfl⟩ : ∃ x r, S = x :: r := by
    cases S with
    | nil => exact absurd rfl hS
    | cons x r => exact ⟨x, r, rfl⟩
  have hg : seqOf (.ref n) st = some ((x :: r).map frD) := by show getL st n = _; unfold getL; rw [hn]
  obtain ⟨d2, hl⟩ := ls_loop (still := stillD (.ref n) ((x :: r).map frD)) (stillD_of hg) (some (.ref n)) (x :: r) x none (h x List.mem_cons_self) h
  exact run_rt0 (seq_nx (set_of (op2_of (var_of rfl) rfl (ix_at hn (by have h0 := atI_of (xs := (x :: r).map frD) (n := 0) (by simp); exact h0)))) (seq_nx (for_of (it_of (var_of rfl) (itD_seq hg)) hl) (seq_rt (ret_of (var_of rfl))))) rfl
theorem e_greatest_of {S : List Rat} (hS : S ≠ []) (h : ∀ s ∈ S, Sz 500 s) {st : Store} {n : Nat} (hn : st[n]? = some (.lst (S.map frD))) : m_greatest_of [.ref n] st = .ok (frD (mxR S)) st := by
  obtain ⟨x, r, rfl⟩ : ∃ x r, S = x :: r := by
    cases S with
    | nil => exact absurd rfl hS
    | cons x r => exact ⟨x, r, rfl⟩
  have hg : seqOf (.ref n) st = some ((x :: r).map frD) := by show getL st n = _; unfold getL; rw [hn]
  obtain ⟨d2, hl⟩ := gr_loop (still := stillD (.ref n) ((x :: r).map frD)) (stillD_of hg) (some (.ref n)) (x :: r) x none (h x List.mem_cons_self) h
  exact run_rt0 (seq_nx (set_of (op2_of (var_of rfl) rfl (ix_at hn (by have h0 := atI_of (xs := (x :: r).map frD) (n := 0) (by simp); exact h0)))) (seq_nx (for_of (it_of (var_of rfl) (itD_seq hg)) hl) (seq_rt (ret_of (var_of rfl))))) rfl
/-! ### from the last place to the first -/
def go {α : Type} (f : Row → (Nat → α) → α) (d : α) : Nat → List Row → List α
  | _, [] => []
  | k, r :: rs => f r (fun w => (go f d (k + 1) rs).getD (w - (k + 1)) d) :: go f d (k + 1) rs
theorem go_len {α : Type} (f : Row → (Nat → α) → α) (d : α) : ∀ (rs : List Row) (k : Nat), (go f d k rs).length = rs.length := by
  intro rs
  induction rs with
  | nil => intro k; rfl
  | cons r rs ih => intro k; simp [go, ih]
theorem go_congr {α β : Type} {f : Row → (Nat → α) → α} {f' : Row → (Nat → β) → β} {φ : α → β} {tr : Row → Row} {d : α} {d' : β} {n : Nat}
    (hf : ∀ (k : Nat) (r : Row) (l : Nat → α) (l' : Nat → β), rowOk n k r = true → (∀ ws, r = .to ws → ∀ w ∈ ws, l' w = φ (l w)) → f' (tr r) l' = φ (f r l)) :
    ∀ (rs : List Row) (k : Nat), n = k + rs.length → rowsOk n k rs = true → go f' d' k (rs.map tr) = (go f d k rs).map φ := by
  intro rs
  induction rs with
  | nil => intro k _ _; rfl
  | cons r rs ih =>
    intro k hn h
    simp only [rowsOk, Bool.and_eq_true] at h
    simp only [List.length_cons] at hn
    have e := ih (k + 1) (by omega) h.2
    simp only [List.map_cons, go, e]
    congr 1
    refine hf k r _ _ h.1 fun ws hr w hw => ?_
    subst hr
    have q := h.1
    simp only [rowOk, Bool.and_eq_true, decide_eq_true_eq, List.all_eq_true] at q
    have hw2 := q.2.1 w hw
    have hl : w - (k + 1) < (go f d (k + 1) rs).length := by rw [go_len]; omega
    simp only [List.getD_eq_getElem?_getD, List.getElem?_map, List.getElem?_eq_getElem hl, Option.map_some, Option.getD_some]
def chF : Row → (Nat → Rat) → Rat
  | .fin b, _ => if b = true then 1 else 0
  | .to ws, l => (mnR (ws.map l) + mxR (ws.map l)) / 2
def prF : Row → (Nat → Rat) → Rat
  | .fin b, _ => if b = true then 0 else 1
  | .to ws, l => (mnR (ws.map l) + mxR (ws.map l)) / 2
def tuF : Row → (Nat → Bool × Bool) → Bool × Bool
  | .fin b, _ => (b, b)
  | .to ws, l => (ws.any fun w => (l w).2, ws.all fun w => (l w).1)
def chQ (net : List Row) : List Rat := go chF 0 0 net
def prQ (net : List Row) : List Rat := go prF 0 0 net
def tuQ (net : List Row) : List (Bool × Bool) := go tuF (false, false) 0 net
def turn : Row → Row
  | .fin b => .fin !b
  | .to ws => .to ws
theorem ws_ne {n k : Nat} {ws : List Nat} (h : rowOk n k (.to ws) = true) : ws ≠ [] := by
  simp only [rowOk, Bool.and_eq_true] at h
  intro z
  rw [z] at h
  simp at h
theorem pr_ch {net : List Row} (h : NetOk net) : prQ net = (chQ net).map fun x => 1 - x := by
  have := go_congr (f := chF) (f' := prF) (φ := fun x => 1 - x) (tr := id) (d := 0) (d' := 0) (n := net.length) (fun k r l l' hr hl => by
    cases r with
    | fin b => cases b <;> (show _ = _; unfold prF chF; simp only [id]; decide +kernel)
    | to ws =>
      have e : ws.map l' = (ws.map l).map fun x => 1 - x := by
        rw [List.map_map]
        exact List.map_congr_left fun w hw => hl ws rfl w hw
      have hne : ws.map l ≠ [] := by simpa using ws_ne hr
      show (mnR (ws.map l') + mxR (ws.map l')) / 2 = 1 - (mnR (ws.map l) + mxR (ws.map l)) / 2
      rw [e, mn_flip _ hne, mx_flip _ hne]
      grind) net 0 (by simp) h.ok
  rw [List.map_id] at this
  exact this
theorem pr_turn {net : List Row} (h : NetOk net) : prQ (net.map turn) = chQ net := by
  have := go_congr (f := chF) (f' := prF) (φ := id) (tr := turn) (d := 0) (d' := 0) (n := net.length) (fun k r l l' hr hl => by
    cases r with
    | fin b => cases b <;> rfl
    | to ws =>
      have e : ws.map l' = ws.map l := List.map_congr_left fun w hw => hl ws rfl w hw
      show (mnR (ws.map l') + mxR (ws.map l')) / 2 = (mnR (ws.map l) + mxR (ws.map l)) / 2
      rw [e]) net 0 (by simp) h.ok
  rw [List.map_id] at this
  exact this
theorem tu_turn {net : List Row} (h : NetOk net) : tuQ (net.map turn) = (tuQ net).map fun p => (!p.2, !p.1) := by
  refine go_congr (f := tuF) (f' := tuF) (φ := fun p => (!p.2, !p.1)) (tr := turn) (n := net.length) (fun k r l l' hr hl => ?_) net 0 (by simp) h.ok
  cases r with
  | fin b => cases b <;> rfl
  | to ws =>
    show (ws.any fun w => (l' w).2, ws.all fun w => (l' w).1) = (!(ws.all fun w => (l w).1), !(ws.any fun w => (l w).2))
    have e1 : (ws.any fun w => (l' w).2) = !(ws.all fun w => (l w).1) := by
      rw [Bool.eq_iff_iff]
      simp only [List.any_eq_true, Bool.not_eq_true', List.all_eq_false]
      constructor
      · rintro ⟨w, hw, h⟩; rw [hl ws rfl w hw] at h; exact ⟨w, hw, by simpa using h⟩
      · rintro ⟨w, hw, h⟩; exact ⟨w, hw, by rw [hl ws rfl w hw]; simpa using h⟩
    have e2 : (ws.all fun w => (l' w).1) = !(ws.any fun w => (l w).2) := by
      rw [Bool.eq_iff_iff]
      simp only [List.all_eq_true, Bool.not_eq_true', List.any_eq_false]
      constructor
      · intro h w hw; have := h w hw; rw [hl ws rfl w hw] at this; simpa using this
      · intro h w hw; rw [hl ws rfl w hw]; simpa using h w hw
    rw [e1, e2]
theorem turn_turn (net : List Row) : (net.map turn).map turn = net := by
  rw [List.map_map]
  have : (turn ∘ turn) = id := by
    funext r
    cases r with
    | fin b => cases b <;> rfl
    | to ws => rfl
  rw [this, List.map_id]
theorem turn_ok {net : List Row} (h : NetOk net) : NetOk (net.map turn) := by
  refine ⟨by simpa using h.lo, by simpa using h.hi, ?_⟩
  have key : ∀ (rs : List Row) (n k : Nat), rowsOk n k (rs.map turn) = rowsOk n k rs := by
    intro rs
    induction rs with
    | nil => intro n k; rfl
    | cons r rs ih =>
      intro n k
      have : rowOk n k (turn r) = rowOk n k r := by cases r <;> rfl
      simp only [List.map_cons, rowsOk, ih, this]
  rw [List.length_map, key]
  exact h.ok
theorem go_dy {f : Row → (Nat → Rat) → Rat} (hf : ∀ (r : Row) (l : Nat → Rat) (k : Nat), (∀ w, Dy k (l w)) → Dy (k + 1) (f r l)) : ∀ (rs : List Row) (k : Nat), ∀ x ∈ go f 0 k rs, Dy rs.length x := by
  intro rs
  induction rs with
  | nil => intro k x hx; cases hx
  | cons r rs ih =>
    intro k x hx
    simp only [go] at hx
    rcases List.mem_cons.mp hx with rfl | hx
    · refine hf r _ rs.length fun w => ?_
      rw [List.getD_eq_getElem?_getD]
      cases e : (go f 0 (k + 1) rs)[w - (k + 1)]? with
      | none => exact dy_z _
      | some y => exact ih (k + 1) y (List.mem_of_getElem? e)
    · exact dy_up (ih (k + 1) x hx)
theorem mean_dy {k : Nat} {ws : List Nat} {l : Nat → Rat} (h : ∀ w, Dy k (l w)) : Dy (k + 1) ((mnR (ws.map l) + mxR (ws.map l)) / 2) := by
  by_cases hne : ws.map l = []
  · rw [hne]
    have e : (mnR [] + mxR []) / 2 = 0 := by decide +kernel
    rw [e]
    exact dy_z _
  · have h1 := mn_mem hne
    have h2 := mx_mem hne
    obtain ⟨w1, _, e1⟩ := List.mem_map.mp h1
    obtain ⟨w2, _, e2⟩ := List.mem_map.mp h2
    exact dy_mean (by rw [← e1]; exact h w1) (by rw [← e2]; exact h w2)
theorem ch_dy (net : List Row) (k : Nat) : ∀ x ∈ go chF 0 k net, Dy net.length x := go_dy (fun r l k h => by
  cases r with
  | fin b => cases b; exact dy_z _; exact dy_o _
  | to ws => exact mean_dy h) net k
theorem pr_dy (net : List Row) (k : Nat) : ∀ x ∈ go prF 0 k net, Dy net.length x := go_dy (fun r l k h => by
  cases r with
  | fin b => cases b; exact dy_o _; exact dy_z _
  | to ws => exact mean_dy h) net k
end K99

set_option Elab.async false
set_option linter.all false
set_option maxRecDepth 100000
set_option maxHeartbeats 4000000
set_option exponentiation.threshold 10000
namespace K99
open Py L2 PySem PySem.Spec PyProof.Rows
variable [Tb]
/-! ### filling from the last place -/
theorem at_mid {st g : Store} {o : O} : (st ++ [o] ++ g)[st.length]? = some o := by simp
theorem set_mid {st g : Store} {o o' : O} : (st ++ [o] ++ g).set st.length o' = st ++ [o'] ++ g := by
  rw [List.append_assoc, List.set_append_right _ _ (Nat.le_refl _), Nat.sub_self, List.append_assoc]; rfl
def downD : Nat → List D
  | 0 => []
  | k + 1 => .int (k : Nat) :: downD k
theorem rg_down (n : Nat) : rgDn ((n : Nat) - 1 : Int) (-1) = downD n := by
  unfold rgDn
  have e : (((n : Nat) - 1 : Int) - (-1)).toNat = n := by omega
  rw [e]
  induction n with
  | zero => rfl
  | succ n ih =>
    have ih' := ih (by omega)
    rw [List.range_succ_eq_map, List.map_cons, List.map_map]
    show _ :: _ = .int (n : Nat) :: downD n
    rw [← ih']
    congr 1
    · congr 1
      push_cast
      omega
    · refine List.map_congr_left fun i _ => ?_
      simp only [Function.comp]
      congr 1
      push_cast
      omega
theorem set_rep {α : Type} (a v : α) (L : List α) (k : Nat) : (List.replicate (k + 1) a ++ L).set k v = List.replicate k a ++ v :: L := by
  rw [List.replicate_succ', List.append_assoc, List.set_append_right _ _ (by simp)]
  simp
theorem set_row {B g : Store} {k : Nat} {v : D} {L : List D} : setD (.ref B.length) (.int (k : Nat)) v (B ++ [O.lst (List.replicate (k + 1) .non ++ L)] ++ g) = some (B ++ [O.lst (List.replicate k .non ++ v :: L)] ++ g) := by
  have hi : ixN (List.replicate (k + 1) D.non ++ L).length ((k : Nat) : Int) = some k := by
    simp only [ixN]
    rw [if_pos (by omega), if_pos (by simp; omega)]
    simp
  simp only [setD, at_mid, hi, set_mid, set_rep]
theorem get_row {α : Type} {B g : Store} {k w : Nat} {enc : α → D} {L : List α} {d : α} (h1 : k < w) (h2 : w - (k + 1) < L.length) : ixD (.ref B.length) (.int (w : Nat)) (B ++ [O.lst (List.replicate (k + 1) .non ++ L.map enc)] ++ g) = some (enc (L.getD (w - (k + 1)) d), B ++ [O.lst (List.replicate (k + 1) .non ++ L.map enc)] ++ g) := by
  refine ix_at at_mid ?_
  rw [atI_of (by simp; omega)]
  congr 1
  rw [List.getElem_append_right (by simp; omega)]
  simp only [List.length_replicate, List.getElem_map, List.getD_eq_getElem?_getD, List.getElem?_eq_getElem h2, Option.getD_some]
theorem new_list {net : List Row} {e : Py.Loc} {st : Store} (he : e[0]? = some (some (netD net))) (hl : net.length ≤ 1000) : mOp2 mulD (mLst (mCons (mC .non) mNil)) (mOpN lenD (mCons (mVar 0) mNil)) e st = .ok (.ref (st ++ [O.lst [.non]]).length) ((st ++ [O.lst [.non]]) ++ [O.lst (List.replicate net.length .non)]) := by
  have hlen : lenD [netD net] (st ++ [O.lst [.non]]) = some (.int (net.length : Nat), st ++ [O.lst [.non]]) := by unfold netD; rw [lenT]; simp
  have hm : mulD (.ref st.length) (.int (net.length : Nat)) (st ++ [O.lst [.non]]) = some (.ref (st ++ [O.lst [.non]]).length, (st ++ [O.lst [.non]]) ++ [O.lst (List.replicate net.length .non)]) := by
    have h1 : (st ++ [O.lst [.non]])[st.length]? = some (.lst [.non]) := by simp
    have h2 : repL ((net.length : Nat) : Int) [D.non] = List.replicate net.length .non := by
      unfold repL
      simp
    simp only [mulD, h1, h2]
    exact guard_pos ⟨by omega, by omega, by rw [sizeLine_eq]; simp; omega⟩
  exact op2_of (lst_of (one_of rfl) (by simp)) (opN_of (one_of (var_of he)) hlen) hm
theorem back_loop {α : Type} {f : Row → (Nat → α) → α} {dflt : α} {enc : α → D} {body : Py.Loc → Store → Fl} {i : Nat} {Ev : Py.Loc → Prop} {B : Store} {net : List Row}
    (hstep : ∀ (k : Nat) (r : Row) (rs : List Row) (e : Py.Loc) (g : Store), net.drop k = r :: rs → Ev e → ∃ e' g', Ev e' ∧ ((gN i) (.int (k : Nat)) e (B ++ [O.lst (List.replicate (k + 1) .non ++ (go f dflt (k + 1) rs).map enc)] ++ g)).seq body = .nx e' (B ++ [O.lst (List.replicate k .non ++ (go f dflt k (r :: rs)).map enc)] ++ g')) :
    ∀ (k : Nat) (e : Py.Loc) (g : Store), k ≤ net.length → Ev e → ∃ (e' : Py.Loc) (g' : Store), Ev e' ∧ forL (fun _ => True) (fun d e st => (gN i d e st).seq body) (downD k) e (B ++ [O.lst (List.replicate k .non ++ (go f dflt k (net.drop k)).map enc)] ++ g) = .nx e' (B ++ [O.lst ((go f dflt 0 net).map enc)] ++ g') := by
  intro k
  induction k with
  | zero => exact fun e g _ he => ⟨e, g, he, by simp only [downD, List.replicate_zero, List.nil_append, List.drop_zero]; exact forL_nil trivial⟩
  | succ k ih =>
    intro e g hk he
    have hd : net.drop k = net[k] :: net.drop (k + 1) := List.drop_eq_getElem_cons (by omega)
    obtain ⟨e1, g1, h1, q1⟩ := hstep k _ _ e g hd he
    obtain ⟨e2, g2, h2, q2⟩ := ih e1 g1 (by omega) h1
    refine ⟨e2, g2, h2, ?_⟩
    rw [hd] at q2
    simp only [downD]
    rw [forL_nx trivial q1]
    exact q2
theorem back_all {α : Type} {f : Row → (Nat → α) → α} {dflt : α} {enc : α → D} {body : Py.Loc → Store → Fl} {i : Nat} {Ev : Py.Loc → Prop} {B : Store} {net : List Row}
    (hstep : ∀ (k : Nat) (r : Row) (rs : List Row) (e : Py.Loc) (g : Store), net.drop k = r :: rs → Ev e → ∃ e' g', Ev e' ∧ ((gN i) (.int (k : Nat)) e (B ++ [O.lst (List.replicate (k + 1) .non ++ (go f dflt (k + 1) rs).map enc)] ++ g)).seq body = .nx e' (B ++ [O.lst (List.replicate k .non ++ (go f dflt k (r :: rs)).map enc)] ++ g')) {e : Py.Loc} (he : Ev e) :
    ∃ (e' : Py.Loc) (g' : Store), Ev e' ∧ forL (fun _ => True) (fun d e st => (gN i d e st).seq body) (downD net.length) e (B ++ [O.lst (List.replicate net.length .non)]) = .nx e' (B ++ [O.lst ((go f dflt 0 net).map enc)] ++ g') := by
  obtain ⟨e', g', h1, h2⟩ := back_loop hstep net.length e [] (Nat.le_refl _) he
  refine ⟨e', g', h1, ?_⟩
  rw [List.drop_length, List.append_nil] at h2
  simp only [go, List.map_nil, List.append_nil] at h2
  exact h2
theorem rg_net {net : List Row} {e : Py.Loc} {st : Store} (he : e[0]? = some (some (netD net))) (hl : net.length ≤ 1000) : mRgs (mCons (mOp2 subD (mOpN lenD (mCons (mVar 0) mNil)) (mC (.int 1))) (mCons (mOp1 negD (mC (.int 1))) (mCons (mOp1 negD (mC (.int 1))) mNil))) e st = .ok ⟨downD net.length, fun _ => True⟩ st := by
  have hlen : lenD [netD net] st = some (.int (net.length : Nat), st) := by unfold netD; rw [lenT]; simp
  refine rgs_of (cons_of (op2_of (opN_of (one_of (var_of he)) hlen) rfl subI) (two_of (op1_of rfl negI) (op1_of rfl negI))) ?_
  simp only [rgIt]
  rw [if_pos (by simp [okB]; omega), rg_down]
theorem row_at {net : List Row} {k : Nat} {r : Row} {rs : List Row} (h : net.drop k = r :: rs) (st : Store) : ixD (netD net) (.int (k : Nat)) st = some (rowD r, st) := by
  have hk : k < net.length := by
    have := congrArg List.length h
    simp at this
    omega
  have hr : net[k] = r := by
    rw [List.drop_eq_getElem_cons hk] at h
    exact (List.cons.inj h).1
  simp only [ixD, netD]
  rw [atI_of (by simpa using hk)]
  simp [hr]
theorem net_at {net : List Row} {k : Nat} {r : Row} {rs : List Row} (h : net.drop k = r :: rs) : net[k]? = some r ∧ net.length = k + 1 + rs.length := by
  have hk : k < net.length := by
    have := congrArg List.length h
    simp at this
    omega
  refine ⟨?_, ?_⟩
  · rw [List.drop_eq_getElem_cons hk] at h
    rw [List.getElem?_eq_getElem hk, (List.cons.inj h).1]
  · have := congrArg List.length h
    simp at this
    omega
theorem row_to (ws : List Nat) : rowD (.to ws) = .tup (natsD ws) := by
  show D.tup (intsD (ws.map fun (w : Nat) => (w : Int))) = _
  simp [intsD, natsD]
theorem goal_goal (st : Store) : eqD (.str "goal") (.str "goal") st = some (.bl true, st) := by rw [eqSt (by decide +kernel) (by decide +kernel)]; rfl
theorem lost_goal (st : Store) : eqD (.str "lost") (.str "goal") st = some (.bl false, st) := by rw [eqSt (by decide +kernel) (by decide +kernel)]; rfl
noncomputable abbrev fbody (a c : Int) : Py.Loc → Store → Fl := (sSeq (sIf (asB (mIsi (mOp2 ixD (mVar 0) (mVar 2)) ["str"])) (sSeq (sAsg (mIf (asB (mOp2 eqD (mOp2 ixD (mVar 0) (mVar 2)) (mC (.str "goal")))) (mTup (mCons (mC (.int a)) (mCons (mC (.int 1)) mNil))) (mTup (mCons (mC (.int c)) (mCons (mC (.int 1)) mNil)))) (gSb setD (mVar 1) (mVar 2))) (fun e st => .nx e st)) (sSeq (sAsg (mLc (mIt (mOp2 ixD (mVar 0) (mVar 2))) (.nm 4) mYes (mOp2 ixD (mVar 1) (mVar 4)) [4]) (gN 3)) (sSeq (sAsg (mCall m_half_of (mCons (mCall m_plus (mCons (mCall m_least_of (mCons (mVar 3) mNil)) (mCons (mCall m_greatest_of (mCons (mVar 3) mNil)) mNil))) mNil)) (gSb setD (mVar 1) (mVar 2))) (fun e st => .nx e st)))) (fun e st => .nx e st))
def EvF (net : List Row) (n : Nat) (e : Py.Loc) : Prop := ∃ d2 d3 d4 : Option D, e = [some (netD net), some (.ref n), d2, d3, d4]
theorem fstep {net : List Row} (hn : NetOk net) {a c : Int} {F : Row → (Nat → Rat) → Rat} (hF1 : ∀ b l, F (.fin b) l = if b = true then ((a : Int) : Rat) else ((c : Int) : Rat)) (hF2 : ∀ ws l, F (.to ws) l = (mnR (ws.map l) + mxR (ws.map l)) / 2) (hD : ∀ rs k, ∀ x ∈ go F 0 k rs, Dy rs.length x) {B : Store}
    (k : Nat) (r : Row) (rs : List Row) (e : Py.Loc) (g : Store) (hd : net.drop k = r :: rs) (he : EvF net B.length e) : ∃ e' g', EvF net B.length e' ∧ ((gN 2) (.int (k : Nat)) e (B ++ [O.lst (List.replicate (k + 1) .non ++ (go F 0 (k + 1) rs).map frD)] ++ g)).seq (fbody a c) = .nx e' (B ++ [O.lst (List.replicate k .non ++ (go F 0 k (r :: rs)).map frD)] ++ g') := by
  obtain ⟨d2, d3, d4, rfl⟩ := he
  obtain ⟨hk, hlen⟩ := net_at hd
  have h40 := hn.hi
  have eg : (go F 0 k (r :: rs)).map frD = frD (F r fun w => (go F 0 (k + 1) rs).getD (w - (k + 1)) 0) :: (go F 0 (k + 1) rs).map frD := rfl
  rw [eg]
  obtain ⟨L, hL⟩ : ∃ L, L = go F 0 (k + 1) rs := ⟨_, rfl⟩
  have hLl : L.length = rs.length := by rw [hL]; exact go_len F 0 rs (k + 1)
  have hLd : ∀ x ∈ L, Dy rs.length x := by rw [hL]; exact hD rs (k + 1)
  rw [← hL]
  obtain ⟨S, hS⟩ : ∃ S, S = B ++ [O.lst (List.replicate (k + 1) .non ++ L.map frD)] ++ g := ⟨_, rfl⟩
  have hrow := row_at hd S
  have hvar : ∀ (d3 d4 : Option D) (S : Store), mOp2 ixD (mVar 0) (mVar 2) [some (netD net), some (.ref B.length), some (.int (k : Nat)), d3, d4] S = .ok (rowD r) S := fun d3 d4 S => op2_of (var_of rfl) (var_of rfl) (row_at hd S)
  cases r with
  | fin b =>
    refine ⟨[some (netD net), some (.ref B.length), some (.int (k : Nat)), d3, d4], g, ⟨_, _, _, rfl⟩, ?_⟩
    show (Fl.nx _ _).seq _ = _
    rw [Fl.seq_nx, hF1]
    have hstr : asB (mIsi (mOp2 ixD (mVar 0) (mVar 2)) ["str"]) [some (netD net), some (.ref B.length), some (.int (k : Nat)), d3, d4] S = .ok true S := asB_ok (isi_of (cs := ["str"]) (k := true) (hvar d3 d4 S) (t := "str") (by cases b <;> rfl) (by decide))
    rw [← hS]
    cases b with
    | true =>
      have heq := asB_ok (op2_of (f := eqD) (hvar d3 d4 S) (x_c (.str "goal")) (goal_goal S))
      rw [if_pos rfl, frD_int]
      exact seq_nx (if_t hstr (seq_nx (asg_of (ifx_t (k := true) heq (tup_of (two_of rfl rfl) (by simp))) (sub_of (var_of rfl) (var_of rfl) (by rw [hS]; exact set_row))) rfl)) rfl
    | false =>
      have heq := asB_ok (op2_of (f := eqD) (hvar d3 d4 S) (x_c (.str "goal")) (lost_goal S))
      rw [if_neg (by decide), frD_int]
      exact seq_nx (if_t hstr (seq_nx (asg_of (ifx_f (k := true) heq (tup_of (two_of rfl rfl) (by simp))) (sub_of (var_of rfl) (var_of rfl) (by rw [hS]; exact set_row))) rfl)) rfl
  | to ws =>
    obtain ⟨w1, w2, w3⟩ := hn.at_ hk
    obtain ⟨look, hlook⟩ : ∃ look : Nat → Rat, look = fun w => L.getD (w - (k + 1)) 0 := ⟨_, rfl⟩
    rw [← hlook]
    have hld : ∀ w, Dy rs.length (look w) := fun w => by
      rw [hlook]
      simp only [List.getD_eq_getElem?_getD]
      cases e : L[w - (k + 1)]? with
      | none => exact dy_z _
      | some y => exact hLd y (List.mem_of_getElem? e)
    have hz : ∀ x ∈ ws.map look, Sz 500 x := fun x hx => by
      obtain ⟨w, _, rfl⟩ := List.mem_map.mp hx
      exact (dy_sz (hld w)).mono (by omega)
    have hne : ws.map look ≠ [] := by simpa using w1
    have hlc : mLc (mIt (mOp2 ixD (mVar 0) (mVar 2))) (.nm 4) mYes (mOp2 ixD (mVar 1) (mVar 4)) [4] [some (netD net), some (.ref B.length), some (.int (k : Nat)), d3, d4] S = .ok (.ref S.length) (S ++ [.lst (ws.map fun w => frD (look w))]) := by
      refine mLc_nats (ns := ws) (still := fun _ => True) (fun w => frD (look w)) (it_of (hvar d3 d4 S) (by rw [row_to]; rfl)) trivial (by omega) fun w hw => ⟨[some (netD net), some (.ref B.length), some (.int (k : Nat)), d3, some (.int (w : Nat))], [], rfl, ?_, rfl⟩
      rw [List.append_nil]
      have hb := w2 w hw
      have q := get_row (B := B) (g := g) (k := k) (w := w) (enc := frD) (L := L) (d := 0) hb.1 (by omega)
      rw [← hS] at q
      rw [hlook]
      exact op2_of (var_of rfl) (var_of rfl) q
    have em : (ws.map fun w => frD (look w)) = (ws.map look).map frD := by rw [List.map_map]; rfl
    rw [em] at hlc
    obtain ⟨S1, hS1⟩ : ∃ S1, S1 = S ++ [O.lst ((ws.map look).map frD)] := ⟨_, rfl⟩
    rw [← hS1] at hlc
    have hat : S1[S.length]? = some (.lst ((ws.map look).map frD)) := by rw [hS1]; simp
    have h1 := e_least_of hne hz hat
    have h2 := e_greatest_of hne hz hat
    have z1 := hz _ (mn_mem hne)
    have z2 := hz _ (mx_mem hne)
    have h3 := e_plus z1 z2 (by omega) S1
    have h4 := e_half_of (z1.add z2) (by omega) S1
    refine ⟨[some (netD net), some (.ref B.length), some (.int (k : Nat)), some (.ref S.length), d4], g ++ [O.lst ((ws.map look).map frD)], ⟨_, _, _, rfl⟩, ?_⟩
    show (Fl.nx _ _).seq _ = _
    rw [Fl.seq_nx, hF2, ← hS]
    have hno : asB (mIsi (mOp2 ixD (mVar 0) (mVar 2)) ["str"]) [some (netD net), some (.ref B.length), some (.int (k : Nat)), d3, d4] S = .ok false S := asB_ok (isi_of (cs := ["str"]) (k := false) (hvar d3 d4 S) (t := "tuple") (by rw [row_to]; rfl) (by decide))
    have hset : setD (.ref B.length) (.int (k : Nat)) (frD ((mnR (ws.map look) + mxR (ws.map look)) / 2)) S1 = some (B ++ [O.lst (List.replicate k .non ++ frD ((mnR (ws.map look) + mxR (ws.map look)) / 2) :: L.map frD)] ++ (g ++ [O.lst ((ws.map look).map frD)])) := by
      rw [hS1, hS, List.append_assoc]
      exact set_row
    exact seq_nx (if_f hno (seq_nx (set_of hlc) (seq_nx (asg_of (call_of (one_of (call_of (two_of (call_of (one_of (var_of rfl)) h1) (call_of (one_of (var_of rfl)) h2)) h3)) h4) (sub_of (var_of rfl) (var_of rfl) hset)) rfl))) rfl
theorem flats_fr (S : List Rat) : flats (S.map frD) = true := by
  induction S with
  | nil => rfl
  | cons a S ih => simp only [List.map_cons, flats, ih, Bool.and_true]; rfl
theorem flat_frs (S : List Rat) : flat (.tup (S.map frD)) = true := by
  show flats _ = true
  exact flats_fr S
theorem getL_at {S : Store} {n : Nat} {ds : List D} (h : S[n]? = some (.lst ds)) : getL S n = some ds := by unfold getL; rw [h]
theorem e_toss {net : List Row} (hn : NetOk net) (st : Store) : m_toss_chances [netD net] st = .ok (.tup ((chQ net).map frD)) st := by
  have h40 := hn.hi
  obtain ⟨e', g', ⟨d2, d3, d4, rfl⟩, hl⟩ := back_all (i := 2) (enc := frD) (B := st ++ [O.lst [.non]]) (Ev := EvF net (st ++ [O.lst [.non]]).length) (net := net) (f := chF) (dflt := 0) (body := fbody 1 0) (fun k r rs e g hd he => fstep hn (a := 1) (c := 0) (F := chF) (fun b l => rfl) (fun ws l => rfl) ch_dy k r rs e g hd he) (e := [some (netD net), some (.ref (st ++ [O.lst [.non]]).length), none, none, none]) ⟨_, _, _, rfl⟩
  have hg : getL ((st ++ [O.lst [.non]]) ++ [O.lst ((go chF 0 0 net).map frD)] ++ g') (st ++ [O.lst [.non]]).length = some ((chQ net).map frD) := getL_at at_mid
  exact run_rtS (g := [O.lst [.non]] ++ [O.lst ((go chF 0 0 net).map frD)] ++ g') (st' := (st ++ [O.lst [.non]]) ++ [O.lst ((go chF 0 0 net).map frD)] ++ g') (seq_nx (exp_of (call_of (one_of (var_of rfl)) (e_check hn st))) (seq_nx (set_of (new_list rfl (by omega))) (seq_nx (for_of (rg_net rfl (by omega)) hl) (seq_rt (ret_of (opN_of (f := tupD) (one_of (var_of rfl)) (by simp only [tupD, hg]))))))) (by simp) (flat_frs _)
theorem e_prices_of {net : List Row} (hn : NetOk net) (st : Store) : m_prices_of [netD net] st = .ok (.ref st.length) (st ++ [O.lst ((prQ net).map frD)]) := by
  have h40 := hn.hi
  obtain ⟨e', g', ⟨d2, d3, d4, rfl⟩, hl⟩ := back_all (i := 2) (enc := frD) (B := st ++ [O.lst [.non]]) (Ev := EvF net (st ++ [O.lst [.non]]).length) (net := net) (f := prF) (dflt := 0) (body := fbody 0 1) (fun k r rs e g hd he => fstep hn (a := 0) (c := 1) (F := prF) (fun b l => rfl) (fun ws l => rfl) pr_dy k r rs e g hd he) (e := [some (netD net), some (.ref (st ++ [O.lst [.non]]).length), none, none, none]) ⟨_, _, _, rfl⟩
  refine run_newS (n := (st ++ [O.lst [.non]]).length) (st' := (st ++ [O.lst [.non]]) ++ [O.lst ((go prF 0 0 net).map frD)] ++ g') (g := [O.lst [.non]] ++ [O.lst ((go prF 0 0 net).map frD)] ++ g') ?_ (by simp) (by simp) at_mid (lowO_flat (flats_fr _))
  exact seq_nx (set_of (new_list rfl (by omega))) (seq_nx (for_of (rg_net rfl (by omega)) hl) (seq_rt (ret_of (var_of rfl))))
theorem e_prices {net : List Row} (hn : NetOk net) (st : Store) : m_prices [netD net] st = .ok (.tup ((prQ net).map frD)) st := by
  have hg : getL (st ++ [O.lst ((prQ net).map frD)]) st.length = some ((prQ net).map frD) := getL_new
  exact run_rt (g := [O.lst ((prQ net).map frD)]) (seq_nx (exp_of (call_of (one_of (var_of rfl)) (e_check hn st))) (seq_rt (ret_of (opN_of (f := tupD) (one_of (call_of (one_of (var_of rfl)) (e_prices_of hn st))) (by simp only [tupD, hg]))))) (flat_frs _)
/-! the law's own chances -/
theorem in_gl (b : Bool) (st : Store) : inA2 (rowD (.fin b)) (.tup [.str "goal", .str "lost"]) st = some (.bl true, st) := by
  have h1 : inTD (rowD (.fin b)) (.tup [.str "goal", .str "lost"]) st = some (.bl true, st) := by
    cases b <;> (
      unfold inTD
      have e2 : toPy st (.tup [.str "goal", .str "lost"]) = some (.tuple [.str "goal", .str "lost"]) := rfl
      rw [e2])
    · have e1 : toPy st (rowD (.fin false)) = some (.str "lost") := rfl
      rw [e1]
      simp only []
      rw [if_pos ⟨by decide +kernel, by decide +kernel⟩]
      have : ([PyData.str "goal", PyData.str "lost"].any fun z => PyData.eqv z (.str "lost")) = true := by decide +kernel
      rw [this]
    · have e1 : toPy st (rowD (.fin true)) = some (.str "goal") := rfl
      rw [e1]
      simp only []
      rw [if_pos ⟨by decide +kernel, by decide +kernel⟩]
      have : ([PyData.str "goal", PyData.str "lost"].any fun z => PyData.eqv z (.str "goal")) = true := by decide +kernel
      rw [this]
  unfold inA2
  rw [h1]
theorem in_gl_no (ws : List Nat) (st : Store) : inA2 (rowD (.to ws)) (.tup [.str "goal", .str "lost"]) st = some (.bl false, st) := by
  have h1 : inTD (rowD (.to ws)) (.tup [.str "goal", .str "lost"]) st = some (.bl false, st) := by
    unfold inTD
    have e2 : toPy st (.tup [.str "goal", .str "lost"]) = some (.tuple [.str "goal", .str "lost"]) := rfl
    have e1 : toPy st (rowD (.to ws)) = some (.tuple ((ws.map fun (w : Nat) => (w : Int)).map .int)) := by
      show toPy st (.tup (intsD _)) = _
      simp only [toPy, pyG, pyGs_ints]
    rw [e1, e2]
    simp only []
    rw [if_pos ⟨shaped_ints _, by decide +kernel⟩]
    rfl
  unfold inA2
  rw [h1]
end K99

set_option Elab.async false
set_option linter.all false
set_option maxRecDepth 100000
set_option maxHeartbeats 4000000
set_option exponentiation.threshold 10000
namespace K99
open Py L2 PySem PySem.Spec PyProof.Rows
variable [Tb]
noncomputable abbrev innB : Py.Loc → Store → Fl := (sSeq (sAsg (mIf (asB (mCall m__law_less (mCons (mOp2 ixD (mVar 1) (mVar 5)) (mCons (mVar 3) mNil)))) (mOp2 ixD (mVar 1) (mVar 5)) (mVar 3)) (gN 3)) (sSeq (sAsg (mIf (asB (mCall m__law_less (mCons (mVar 4) (mCons (mOp2 ixD (mVar 1) (mVar 5)) mNil)))) (mOp2 ixD (mVar 1) (mVar 5)) (mVar 4)) (gN 4)) (fun e st => .nx e st)))
theorem inn_loop {S : Store} {n : Nat} {look : Nat → Rat} (d0 d2 : Option D) : ∀ (ws : List Nat) (lo hi : Rat) (d5 : Option D), (∀ w ∈ ws, ixD (.ref n) (.int (w : Nat)) S = some (frD (look w), S) ∧ Sz 500 (look w)) → Sz 500 lo → Sz 500 hi →
    ∃ d5', forL (fun _ => True) (fun d e st => (gN 5 d e st).seq innB) (natsD ws) [d0, some (.ref n), d2, some (frD lo), some (frD hi), d5] S = .nx [d0, some (.ref n), d2, some (frD ((ws.map look).foldl mnS lo)), some (frD ((ws.map look).foldl mxS hi)), d5'] S := by
  intro ws
  induction ws with
  | nil => exact fun lo hi d5 _ _ _ => ⟨d5, forL_nil trivial⟩
  | cons w ws ih =>
    intro lo hi d5 h z1 z2
    obtain ⟨hw, zw⟩ := h w List.mem_cons_self
    have z1' : Sz 500 (mnS lo (look w)) := by rcases mnS_or lo (look w) with q | q <;> rw [q] <;> assumption
    have z2' : Sz 500 (mxS hi (look w)) := by rcases mxS_or hi (look w) with q | q <;> rw [q] <;> assumption
    obtain ⟨f5, hl⟩ := ih (mnS lo (look w)) (mxS hi (look w)) (some (.int (w : Nat))) (fun w' hw' => h w' (List.mem_cons_of_mem _ hw')) z1' z2'
    refine ⟨f5, ?_⟩
    have e0 : natsD (w :: ws) = .int (w : Nat) :: natsD ws := rfl
    rw [e0, forL_nx trivial (e' := [d0, some (.ref n), d2, some (frD (mnS lo (look w))), some (frD (mxS hi (look w))), some (.int (w : Nat))]) (st' := S)]
    · exact hl
    · show (Fl.nx _ _).seq _ = _
      rw [Fl.seq_nx]
      have hx : ∀ (d3 d4 : Option D), mOp2 ixD (mVar 1) (mVar 5) [d0, some (.ref n), d2, d3, d4, some (.int (w : Nat))] S = .ok (frD (look w)) S := fun d3 d4 => op2_of (var_of rfl) (var_of rfl) hw
      have l1 := e__law_less zw z1 (by omega) S
      have l2 := e__law_less z2 zw (by omega) S
      have p1 : sAsg (mIf (asB (mCall m__law_less (mCons (mOp2 ixD (mVar 1) (mVar 5)) (mCons (mVar 3) mNil)))) (mOp2 ixD (mVar 1) (mVar 5)) (mVar 3)) (gN 3) [d0, some (.ref n), d2, some (frD lo), some (frD hi), some (.int (w : Nat))] S = .nx [d0, some (.ref n), d2, some (frD (mnS lo (look w))), some (frD hi), some (.int (w : Nat))] S := by
        unfold mnS
        by_cases c : look w < lo
        · rw [decide_eq_true c] at l1
          rw [if_pos c]
          exact set_of (ifx_t (k := true) (asB_ok (call_of (two_of (hx _ _) (var_of rfl)) l1)) (hx _ _))
        · rw [decide_eq_false c] at l1
          rw [if_neg c]
          exact set_of (ifx_f (k := true) (asB_ok (call_of (two_of (hx _ _) (var_of rfl)) l1)) (var_of rfl))
      have p2 : sAsg (mIf (asB (mCall m__law_less (mCons (mVar 4) (mCons (mOp2 ixD (mVar 1) (mVar 5)) mNil)))) (mOp2 ixD (mVar 1) (mVar 5)) (mVar 4)) (gN 4) [d0, some (.ref n), d2, some (frD (mnS lo (look w))), some (frD hi), some (.int (w : Nat))] S = .nx [d0, some (.ref n), d2, some (frD (mnS lo (look w))), some (frD (mxS hi (look w))), some (.int (w : Nat))] S := by
        unfold mxS
        by_cases c : hi < look w
        · rw [decide_eq_true c] at l2
          rw [if_pos c]
          exact set_of (ifx_t (k := true) (asB_ok (call_of (two_of (var_of rfl) (hx _ _)) l2)) (hx _ _))
        · rw [decide_eq_false c] at l2
          rw [if_neg c]
          exact set_of (ifx_f (k := true) (asB_ok (call_of (two_of (var_of rfl) (hx _ _)) l2)) (var_of rfl))
      exact seq_nx p1 (seq_nx p2 rfl)
noncomputable abbrev lcbody : Py.Loc → Store → Fl := (sSeq (sIf (asB (mOp2 inA2 (mOp2 ixD (mVar 0) (mVar 2)) (mTup (mCons (mC (.str "goal")) (mCons (mC (.str "lost")) mNil))))) (sSeq (sAsg (mTup (mCons (mOpN intD (mCons (mOp2 eqD (mOp2 ixD (mVar 0) (mVar 2)) (mC (.str "goal"))) mNil)) (mCons (mC (.int 1)) mNil))) (gSb setD (mVar 1) (mVar 2))) (fun e st => .nx e st)) (sSeq (sPar2 3 4 (mCons (mOp2 ixD (mVar 1) (mOp2 ixD (mOp2 ixD (mVar 0) (mVar 2)) (mC (.int 0)))) (mCons (mOp2 ixD (mVar 1) (mOp2 ixD (mOp2 ixD (mVar 0) (mVar 2)) (mC (.int 0)))) mNil))) (sSeq (sFor (mIt (mOp2 ixD (mVar 0) (mVar 2))) (gN 5) innB) (sSeq (sAsg (mCall m__law_half (mCons (mVar 3) (mCons (mVar 4) mNil))) (gSb setD (mVar 1) (mVar 2))) (fun e st => .nx e st))))) (fun e st => .nx e st))
def EvC (net : List Row) (n : Nat) (e : Py.Loc) : Prop := ∃ d2 d3 d4 d5 : Option D, e = [some (netD net), some (.ref n), d2, d3, d4, d5]
theorem cstep {net : List Row} (hn : NetOk net) {B : Store}
    (k : Nat) (r : Row) (rs : List Row) (e : Py.Loc) (g : Store) (hd : net.drop k = r :: rs) (he : EvC net B.length e) : ∃ e' g', EvC net B.length e' ∧ ((gN 2) (.int (k : Nat)) e (B ++ [O.lst (List.replicate (k + 1) .non ++ (go chF 0 (k + 1) rs).map frD)] ++ g)).seq lcbody = .nx e' (B ++ [O.lst (List.replicate k .non ++ (go chF 0 k (r :: rs)).map frD)] ++ g') := by
  obtain ⟨d2, d3, d4, d5, rfl⟩ := he
  obtain ⟨hk, hlen⟩ := net_at hd
  have h40 := hn.hi
  have eg : (go chF 0 k (r :: rs)).map frD = frD (chF r fun w => (go chF 0 (k + 1) rs).getD (w - (k + 1)) 0) :: (go chF 0 (k + 1) rs).map frD := rfl
  rw [eg]
  obtain ⟨L, hL⟩ : ∃ L, L = go chF 0 (k + 1) rs := ⟨_, rfl⟩
  have hLl : L.length = rs.length := by rw [hL]; exact go_len chF 0 rs (k + 1)
  have hLd : ∀ x ∈ L, Dy rs.length x := by rw [hL]; exact ch_dy rs (k + 1)
  rw [← hL]
  obtain ⟨S, hS⟩ : ∃ S, S = B ++ [O.lst (List.replicate (k + 1) .non ++ L.map frD)] ++ g := ⟨_, rfl⟩
  have hvar : ∀ (d3 d4 d5 : Option D) (S : Store), mOp2 ixD (mVar 0) (mVar 2) [some (netD net), some (.ref B.length), some (.int (k : Nat)), d3, d4, d5] S = .ok (rowD r) S := fun d3 d4 d5 S => op2_of (var_of rfl) (var_of rfl) (row_at hd S)
  cases r with
  | fin b =>
    refine ⟨[some (netD net), some (.ref B.length), some (.int (k : Nat)), d3, d4, d5], g, ⟨_, _, _, _, rfl⟩, ?_⟩
    show (Fl.nx _ _).seq _ = _
    rw [Fl.seq_nx, ← hS]
    have hin := asB_ok (op2_of (f := inA2) (hvar d3 d4 d5 S) (tup_of (two_of (x_c (.str "goal")) (x_c (.str "lost"))) (by simp)) (in_gl b S))
    cases b with
    | true =>
      have e1 : intD [.bl true] S = some (.int 1, S) := rfl
      exact seq_nx (if_t hin (seq_nx (asg_of (tup_of (two_of (opN_of (one_of (op2_of (f := eqD) (hvar d3 d4 d5 S) (x_c (.str "goal")) (goal_goal S))) e1) rfl) (by simp)) (sub_of (var_of rfl) (var_of rfl) (by rw [hS]; exact set_row))) rfl)) rfl
    | false =>
      have e1 : intD [.bl false] S = some (.int 0, S) := rfl
      exact seq_nx (if_t hin (seq_nx (asg_of (tup_of (two_of (opN_of (one_of (op2_of (f := eqD) (hvar d3 d4 d5 S) (x_c (.str "goal")) (lost_goal S))) e1) rfl) (by simp)) (sub_of (var_of rfl) (var_of rfl) (by rw [hS]; exact set_row))) rfl)) rfl
  | to ws =>
    obtain ⟨w1, w2, w3⟩ := hn.at_ hk
    obtain ⟨look, hlook⟩ : ∃ look : Nat → Rat, look = fun w => L.getD (w - (k + 1)) 0 := ⟨_, rfl⟩
    rw [← hlook]
    have hld : ∀ w, Dy rs.length (look w) := fun w => by
      rw [hlook]
      simp only [List.getD_eq_getElem?_getD]
      cases e : L[w - (k + 1)]? with
      | none => exact dy_z _
      | some y => exact hLd y (List.mem_of_getElem? e)
    have hz : ∀ w, Sz 500 (look w) := fun w => (dy_sz (hld w)).mono (by omega)
    have hz' : ∀ x ∈ ws.map look, Sz 500 x := fun x hx => by
      obtain ⟨w, _, rfl⟩ := List.mem_map.mp hx
      exact hz w
    have hne : ws.map look ≠ [] := by simpa using w1
    have hget : ∀ w ∈ ws, ixD (.ref B.length) (.int (w : Nat)) S = some (frD (look w), S) := fun w hw => by
      have hb := w2 w hw
      have q := get_row (B := B) (g := g) (k := k) (w := w) (enc := frD) (L := L) (d := 0) hb.1 (by omega)
      rw [← hS] at q
      rw [hlook]
      exact q
    obtain ⟨w0, wr, hw0⟩ : ∃ w0 wr, ws = w0 :: wr := by
      cases ws with
      | nil => exact absurd rfl w1
      | cons a b => exact ⟨a, b, rfl⟩
    have hfst : ∀ d3 d4 d5, mOp2 ixD (mVar 1) (mOp2 ixD (mOp2 ixD (mVar 0) (mVar 2)) (mC (.int 0))) [some (netD net), some (.ref B.length), some (.int (k : Nat)), d3, d4, d5] S = .ok (frD (look w0)) S := fun d3 d4 d5 => by
      have i0 : ixD (rowD (.to ws)) (.int 0) S = some (.int (w0 : Nat), S) := by
        rw [row_to, hw0]
        have h0 := atI_of (xs := natsD (w0 :: wr)) (n := 0) (by simp [natsD])
        have h1 : atI (natsD (w0 :: wr)) 0 = some (.int (w0 : Nat)) := h0
        simp only [ixD, h1]
      exact op2_of (var_of rfl) (op2_of (hvar d3 d4 d5 S) rfl i0) (hget w0 (by rw [hw0]; exact List.mem_cons_self))
    obtain ⟨f5, hl⟩ := inn_loop (S := S) (n := B.length) (look := look) (some (netD net)) (some (.int (k : Nat))) ws (look w0) (look w0) d5 (fun w hw => ⟨hget w hw, hz w⟩) (hz w0) (hz w0)
    have e1 : (ws.map look).foldl mnS (look w0) = mnR (ws.map look) := by rw [hw0]; rfl
    have e2 : (ws.map look).foldl mxS (look w0) = mxR (ws.map look) := by rw [hw0]; rfl
    rw [e1, e2] at hl
    have z1 := hz' _ (mn_mem hne)
    have z2 := hz' _ (mx_mem hne)
    have h4 := e_law_half z1 z2 (by omega) S
    refine ⟨[some (netD net), some (.ref B.length), some (.int (k : Nat)), some (frD (mnR (ws.map look))), some (frD (mxR (ws.map look))), f5], g, ⟨_, _, _, _, rfl⟩, ?_⟩
    show (Fl.nx _ _).seq _ = _
    rw [Fl.seq_nx, ← hS]
    have hin := asB_ok (op2_of (f := inA2) (hvar d3 d4 d5 S) (tup_of (two_of (x_c (.str "goal")) (x_c (.str "lost"))) (by simp)) (in_gl_no ws S))
    have hit : itD (rowD (.to ws)) S = some ⟨natsD ws, fun _ => True⟩ := by rw [row_to]; rfl
    exact seq_nx (if_f hin (seq_nx (par2_of (hfst _ _ _) (hfst _ _ _)) (seq_nx (for_of (it_of (hvar _ _ _ S) hit) hl) (seq_nx (asg_of (call_of (two_of (var_of rfl) (var_of rfl)) h4) (sub_of (var_of rfl) (var_of rfl) (by rw [hS]; exact set_row))) rfl)))) rfl
theorem e_law_chances {net : List Row} (hn : NetOk net) (st : Store) : m__law_chances [netD net] st = .ok (.tup ((chQ net).map frD)) st := by
  have h40 := hn.hi
  obtain ⟨e', g', ⟨d2, d3, d4, d5, rfl⟩, hl⟩ := back_all (i := 2) (enc := frD) (B := st ++ [O.lst [.non]]) (Ev := EvC net (st ++ [O.lst [.non]]).length) (net := net) (f := chF) (dflt := 0) (body := lcbody) (fun k r rs e g hd he => cstep hn k r rs e g hd he) (e := [some (netD net), some (.ref (st ++ [O.lst [.non]]).length), none, none, none, none]) ⟨_, _, _, _, rfl⟩
  have hg : getL ((st ++ [O.lst [.non]]) ++ [O.lst ((go chF 0 0 net).map frD)] ++ g') (st ++ [O.lst [.non]]).length = some ((chQ net).map frD) := getL_at at_mid
  exact run_rtS (g := [O.lst [.non]] ++ [O.lst ((go chF 0 0 net).map frD)] ++ g') (st' := (st ++ [O.lst [.non]]) ++ [O.lst ((go chF 0 0 net).map frD)] ++ g') (seq_nx (set_of (new_list rfl (by omega))) (seq_nx (for_of (rg_net rfl (by omega)) hl) (seq_rt (ret_of (opN_of (f := tupD) (one_of (var_of rfl)) (by simp only [tupD, hg])))))) (by simp) (flat_frs _)
/-! ### by turns -/
def tuD (p : Bool × Bool) : D := .tup [.bl p.1, .bl p.2]
noncomputable abbrev btT (i j m : Nat) : Py.Loc → Store → Fl := (sSeq (sAsg (mTup (mCons (mOpN anyD (mCons (mLc (mIt (mOp2 ixD (mVar 0) (mVar j))) (.nm m) mYes (mOp2 ixD (mOp2 ixD (mVar i) (mVar m)) (mC (.int 1))) [m]) mNil)) (mCons (mOpN allD (mCons (mLc (mIt (mOp2 ixD (mVar 0) (mVar j))) (.nm m) mYes (mOp2 ixD (mOp2 ixD (mVar i) (mVar m)) (mC (.int 0))) [m]) mNil)) mNil))) (gSb setD (mVar i) (mVar j))) (fun e st => .nx e st))
theorem tu_ways {net : List Row} (hn : NetOk net) {B : Store} {i j m k : Nat} {ws : List Nat} {rs : List Row} {e : Py.Loc} {g : Store} (hd : net.drop k = .to ws :: rs) (h0 : e[0]? = some (some (netD net))) (hi : e[i]? = some (some (.ref B.length))) (hj : e[j]? = some (some (.int (k : Nat)))) (hm : m < e.length) (n0 : m ≠ 0) (ni : m ≠ i) (nj : m ≠ j) :
    ∃ g', btT i j m e (B ++ [O.lst (List.replicate (k + 1) .non ++ (go tuF (false, false) (k + 1) rs).map tuD)] ++ g) = .nx e (B ++ [O.lst (List.replicate k .non ++ (go tuF (false, false) k (.to ws :: rs)).map tuD)] ++ g') := by
  obtain ⟨hk, hlen⟩ := net_at hd
  have h40 := hn.hi
  have eg : (go tuF (false, false) k (.to ws :: rs)).map tuD = tuD (tuF (.to ws) fun w => (go tuF (false, false) (k + 1) rs).getD (w - (k + 1)) (false, false)) :: (go tuF (false, false) (k + 1) rs).map tuD := rfl
  rw [eg]
  obtain ⟨L, hL⟩ : ∃ L, L = go tuF (false, false) (k + 1) rs := ⟨_, rfl⟩
  have hLl : L.length = rs.length := by rw [hL]; exact go_len tuF _ rs (k + 1)
  rw [← hL]
  obtain ⟨w1, w2, w3⟩ := hn.at_ hk
  obtain ⟨look, hlook⟩ : ∃ look : Nat → Bool × Bool, look = fun w => L.getD (w - (k + 1)) (false, false) := ⟨_, rfl⟩
  rw [← hlook]
  have hvar : ∀ (S : Store), mOp2 ixD (mVar 0) (mVar j) e S = .ok (rowD (.to ws)) S := fun S => op2_of (var_of h0) (var_of hj) (row_at hd S)
  have hit : ∀ S, itD (rowD (.to ws)) S = some ⟨natsD ws, fun _ => True⟩ := fun S => by rw [row_to]; rfl
  have hlc : ∀ (g : Store) (q : Int) (pr : Bool × Bool → Bool), (∀ p S, ixD (tuD p) (.int q) S = some (.bl (pr p), S)) → mLc (mIt (mOp2 ixD (mVar 0) (mVar j))) (.nm m) mYes (mOp2 ixD (mOp2 ixD (mVar i) (mVar m)) (mC (.int q))) [m] e (B ++ [O.lst (List.replicate (k + 1) .non ++ L.map tuD)] ++ g) = .ok (.ref (B ++ [O.lst (List.replicate (k + 1) .non ++ L.map tuD)] ++ g).length) (B ++ [O.lst (List.replicate (k + 1) .non ++ L.map tuD)] ++ g ++ [.lst ((ws.map fun w => pr (look w)).map .bl)]) := fun g q pr hq => by
    have em : (ws.map fun w => pr (look w)).map D.bl = ws.map fun w => D.bl (pr (look w)) := by rw [List.map_map]; rfl
    rw [em]
    refine mLc_nats (ns := ws) (still := fun _ => True) (fun w => .bl (pr (look w))) (it_of (hvar _) (hit _)) trivial (by omega) fun w hw => ⟨(wipeE e [m]).set m (some (.int (w : Nat))), [], rfl, ?_, rfl⟩
    rw [List.append_nil]
    have hb := w2 w hw
    have qq := get_row (B := B) (g := g) (k := k) (w := w) (enc := tuD) (L := L) (d := (false, false)) hb.1 (by omega)
    rw [hlook]
    refine op2_of (op2_of (var_of (i := i) (d := .ref B.length) ?_) (var_of (i := m) (d := .int (w : Nat)) ?_) qq) rfl (hq _ _)
    · simp only [wipeE]; rw [List.getElem?_set_ne ni, List.getElem?_set_ne ni]; exact hi
    · simp only [wipeE]; rw [List.getElem?_set_self (by simpa using hm)]
  have l1 := hlc g 1 (fun p => p.2) (fun p S => rfl)
  obtain ⟨g1, hg1⟩ : ∃ g1, g1 = g ++ [O.lst ((ws.map fun w => (look w).2).map .bl)] := ⟨_, rfl⟩
  have l2 := hlc g1 0 (fun p => p.1) (fun p S => rfl)
  rw [List.append_assoc _ g, ← hg1] at l1
  have ha := anyD_of (st := B ++ [O.lst (List.replicate (k + 1) .non ++ L.map tuD)] ++ g1) (n := (B ++ [O.lst (List.replicate (k + 1) .non ++ L.map tuD)] ++ g).length) (bs := ws.map fun w => (look w).2) (by rw [hg1, ← List.append_assoc]; exact getL_new)
  have hb := allD_of (st := B ++ [O.lst (List.replicate (k + 1) .non ++ L.map tuD)] ++ g1 ++ [.lst ((ws.map fun w => (look w).1).map .bl)]) (n := (B ++ [O.lst (List.replicate (k + 1) .non ++ L.map tuD)] ++ g1).length) (bs := ws.map fun w => (look w).1) getL_new
  have ea : (ws.map fun w => (look w).2).any id = ws.any fun w => (look w).2 := by rw [List.any_map]; rfl
  have eb : (ws.map fun w => (look w).1).all id = ws.all fun w => (look w).1 := by rw [List.all_map]; rfl
  rw [ea] at ha
  rw [eb] at hb
  refine ⟨g1 ++ [.lst ((ws.map fun w => (look w).1).map .bl)], ?_⟩
  rw [List.append_assoc _ g1] at l2 hb
  exact seq_nx (asg_of (tup_of (two_of (opN_of (one_of l1) ha) (opN_of (one_of l2) hb)) (by simp)) (sub_of (var_of hi) (var_of hj) set_row)) rfl
noncomputable abbrev btF (i j : Nat) : Py.Loc → Store → Fl := (sSeq (sAsg (mTup (mCons (mOp2 eqD (mOp2 ixD (mVar 0) (mVar j)) (mC (.str "goal"))) (mCons (mOp2 eqD (mOp2 ixD (mVar 0) (mVar j)) (mC (.str "goal"))) mNil))) (gSb setD (mVar i) (mVar j))) (fun e st => .nx e st))
theorem tu_fin {net : List Row} {B : Store} {i j k : Nat} {b : Bool} {rs : List Row} {e : Py.Loc} {g : Store} (hd : net.drop k = .fin b :: rs) (h0 : e[0]? = some (some (netD net))) (hi : e[i]? = some (some (.ref B.length))) (hj : e[j]? = some (some (.int (k : Nat)))) :
    btF i j e (B ++ [O.lst (List.replicate (k + 1) .non ++ (go tuF (false, false) (k + 1) rs).map tuD)] ++ g) = .nx e (B ++ [O.lst (List.replicate k .non ++ (go tuF (false, false) k (.fin b :: rs)).map tuD)] ++ g) := by
  have hvar : ∀ (S : Store), mOp2 ixD (mVar 0) (mVar j) e S = .ok (rowD (.fin b)) S := fun S => op2_of (var_of h0) (var_of hj) (row_at hd S)
  have heq : ∀ (S : Store), mOp2 eqD (mOp2 ixD (mVar 0) (mVar j)) (mC (.str "goal")) e S = .ok (.bl b) S := fun S => by
    cases b with
    | true => exact op2_of (f := eqD) (hvar S) (x_c (.str "goal")) (goal_goal S)
    | false => exact op2_of (f := eqD) (hvar S) (x_c (.str "goal")) (lost_goal S)
  exact seq_nx (asg_of (tup_of (two_of (heq _) (heq _)) (by simp)) (sub_of (var_of hi) (var_of hj) set_row)) rfl
def EvB (net : List Row) (n : Nat) (m : D) (e : Py.Loc) : Prop := ∃ d3 d4 d5 : Option D, e = [some (netD net), some m, some (.ref n), d3, d4, d5]
theorem bstep {net : List Row} (hn : NetOk net) {B : Store} {md : D} (k : Nat) (r : Row) (rs : List Row) (e : Py.Loc) (g : Store) (hd : net.drop k = r :: rs) (he : EvB net B.length md e) : ∃ e' g', EvB net B.length md e' ∧ ((gN 3) (.int (k : Nat)) e (B ++ [O.lst (List.replicate (k + 1) .non ++ (go tuF (false, false) (k + 1) rs).map tuD)] ++ g)).seq (sSeq (sIf (asB (mIsi (mOp2 ixD (mVar 0) (mVar 3)) ["str"])) (btF 2 3) (btT 2 3 4)) (fun e st => .nx e st)) = .nx e' (B ++ [O.lst (List.replicate k .non ++ (go tuF (false, false) k (r :: rs)).map tuD)] ++ g') := by
  obtain ⟨d3, d4, d5, rfl⟩ := he
  have hvar : ∀ (S : Store), mOp2 ixD (mVar 0) (mVar 3) [some (netD net), some md, some (.ref B.length), some (.int (k : Nat)), d4, d5] S = .ok (rowD r) S := fun S => op2_of (var_of rfl) (var_of rfl) (row_at hd S)
  cases r with
  | fin b =>
    refine ⟨[some (netD net), some md, some (.ref B.length), some (.int (k : Nat)), d4, d5], g, ⟨_, _, _, rfl⟩, ?_⟩
    show (Fl.nx _ _).seq _ = _
    rw [Fl.seq_nx]
    exact seq_nx (if_t (asB_ok (isi_of (cs := ["str"]) (k := true) (hvar _) (t := "str") (by cases b <;> rfl) (by decide))) (tu_fin hd rfl rfl rfl)) rfl
  | to ws =>
    obtain ⟨g', h'⟩ := tu_ways hn (B := B) (i := 2) (j := 3) (m := 4) (e := [some (netD net), some md, some (.ref B.length), some (.int (k : Nat)), d4, d5]) (g := g) hd rfl rfl rfl (by simp) (by omega) (by omega) (by omega)
    refine ⟨[some (netD net), some md, some (.ref B.length), some (.int (k : Nat)), d4, d5], g', ⟨_, _, _, rfl⟩, ?_⟩
    show (Fl.nx _ _).seq _ = _
    rw [Fl.seq_nx]
    exact seq_nx (if_f (asB_ok (isi_of (cs := ["str"]) (k := false) (hvar _) (t := "tuple") (by rw [row_to]; rfl) (by decide))) h') rfl
def EvT (net : List Row) (n : Nat) (e : Py.Loc) : Prop := ∃ d3 d4 : Option D, e = [some (netD net), some (.ref n), d3, d4]
theorem tstep {net : List Row} (hn : NetOk net) {B : Store} (k : Nat) (r : Row) (rs : List Row) (e : Py.Loc) (g : Store) (hd : net.drop k = r :: rs) (he : EvT net B.length e) : ∃ e' g', EvT net B.length e' ∧ ((gN 2) (.int (k : Nat)) e (B ++ [O.lst (List.replicate (k + 1) .non ++ (go tuF (false, false) (k + 1) rs).map tuD)] ++ g)).seq (sSeq (sIf (asB (mOp2 inA2 (mOp2 ixD (mVar 0) (mVar 2)) (mTup (mCons (mC (.str "goal")) (mCons (mC (.str "lost")) mNil))))) (btF 1 2) (btT 1 2 3)) (fun e st => .nx e st)) = .nx e' (B ++ [O.lst (List.replicate k .non ++ (go tuF (false, false) k (r :: rs)).map tuD)] ++ g') := by
  obtain ⟨d3, d4, rfl⟩ := he
  have hvar : ∀ (S : Store), mOp2 ixD (mVar 0) (mVar 2) [some (netD net), some (.ref B.length), some (.int (k : Nat)), d4] S = .ok (rowD r) S := fun S => op2_of (var_of rfl) (var_of rfl) (row_at hd S)
  cases r with
  | fin b =>
    refine ⟨[some (netD net), some (.ref B.length), some (.int (k : Nat)), d4], g, ⟨_, _, rfl⟩, ?_⟩
    show (Fl.nx _ _).seq _ = _
    rw [Fl.seq_nx]
    exact seq_nx (if_t (asB_ok (op2_of (f := inA2) (hvar _) (tup_of (two_of (x_c (.str "goal")) (x_c (.str "lost"))) (by simp)) (in_gl b _))) (tu_fin hd rfl rfl rfl)) rfl
  | to ws =>
    obtain ⟨g', h'⟩ := tu_ways hn (B := B) (i := 1) (j := 2) (m := 3) (e := [some (netD net), some (.ref B.length), some (.int (k : Nat)), d4]) (g := g) hd rfl rfl rfl (by simp) (by omega) (by omega) (by omega)
    refine ⟨[some (netD net), some (.ref B.length), some (.int (k : Nat)), d4], g', ⟨_, _, rfl⟩, ?_⟩
    show (Fl.nx _ _).seq _ = _
    rw [Fl.seq_nx]
    exact seq_nx (if_f (asB_ok (op2_of (f := inA2) (hvar _) (tup_of (two_of (x_c (.str "goal")) (x_c (.str "lost"))) (by simp)) (in_gl_no ws _))) h') rfl
theorem flats_tu (L : List (Bool × Bool)) : flats (L.map tuD) = true := by
  induction L with
  | nil => rfl
  | cons a S ih => simp only [List.map_cons, flats, ih, Bool.and_true]; rfl
theorem e_law_turns {net : List Row} (hn : NetOk net) (st : Store) : m__law_turns [netD net] st = .ok (.ref st.length) (st ++ [O.lst ((tuQ net).map tuD)]) := by
  have h40 := hn.hi
  obtain ⟨e', g', ⟨d3, d4, rfl⟩, hl⟩ := back_all (i := 2) (enc := tuD) (B := st ++ [O.lst [.non]]) (Ev := EvT net (st ++ [O.lst [.non]]).length) (net := net) (f := tuF) (dflt := (false, false)) (fun k r rs e g hd he => tstep hn k r rs e g hd he) (e := [some (netD net), some (.ref (st ++ [O.lst [.non]]).length), none, none]) ⟨_, _, rfl⟩
  refine run_newS (n := (st ++ [O.lst [.non]]).length) (st' := (st ++ [O.lst [.non]]) ++ [O.lst ((go tuF (false, false) 0 net).map tuD)] ++ g') (g := [O.lst [.non]] ++ [O.lst ((go tuF (false, false) 0 net).map tuD)] ++ g') ?_ (by simp) (by simp) at_mid (lowO_flat (flats_tu _))
  exact seq_nx (set_of (new_list rfl (by omega))) (seq_nx (for_of (rg_net rfl (by omega)) hl) (seq_rt (ret_of (var_of rfl))))
def pick (m : Bool) (p : Bool × Bool) : Bool := if m = true then p.1 else p.2
theorem flats_bl (L : List Bool) : flats (L.map D.bl) = true := by
  induction L with
  | nil => rfl
  | cons a S ih => simp only [List.map_cons, flats, ih, Bool.and_true]; rfl
theorem e_by_turns {net : List Row} (hn : NetOk net) (m : Bool) (st : Store) : m_by_turns [netD net, .bl m] st = .ok (.tup (((tuQ net).map (pick m)).map .bl)) st := by
  have h40 := hn.hi
  obtain ⟨e', g', ⟨d3, d4, d5, rfl⟩, hl⟩ := back_all (i := 3) (enc := tuD) (B := st ++ [O.lst [.non]]) (Ev := EvB net (st ++ [O.lst [.non]]).length (.bl m)) (net := net) (f := tuF) (dflt := (false, false)) (fun k r rs e g hd he => bstep hn k r rs e g hd he) (e := [some (netD net), some (.bl m), some (.ref (st ++ [O.lst [.non]]).length), none, none, none]) ⟨_, _, _, rfl⟩
  obtain ⟨S, hS⟩ : ∃ S, S = (st ++ [O.lst [.non]]) ++ [O.lst ((go tuF (false, false) 0 net).map tuD)] ++ g' := ⟨_, rfl⟩
  have hg : getL S (st ++ [O.lst [.non]]).length = some ((tuQ net).map tuD) := by rw [hS]; exact getL_at at_mid
  have hll : (tuQ net).length = net.length := go_len _ _ _ _
  have hlc : mLc (mIt (mVar 2)) (.nm 5) mYes (mIf (asB (mVar 1)) (mOp2 ixD (mVar 5) (mC (.int 0))) (mOp2 ixD (mVar 5) (mC (.int 1)))) [5] [some (netD net), some (.bl m), some (.ref (st ++ [O.lst [.non]]).length), d3, d4, d5] S = .ok (.ref S.length) (S ++ [O.lst (((tuQ net).map (pick m)).map .bl)]) := by
    have e1 : ((tuQ net).map (pick m)).map D.bl = ((tuQ net).map tuD).map fun d => match d with | .tup [.bl a, .bl b] => .bl (pick m (a, b)) | _ => .non := by
      simp [Function.comp, tuD]
    rw [e1]
    refine mLc_map (it := ⟨(tuQ net).map tuD, stillD (.ref (st ++ [O.lst [.non]]).length) ((tuQ net).map tuD)⟩) _ (it_of (var_of rfl) (itD_seq hg)) (stillD_of (show seqOf (.ref (st ++ [O.lst [.non]]).length) S = some ((tuQ net).map tuD) from hg)) (by simp only [List.length_map, hll]; exact le_size (by omega)) fun d hd => ?_
    obtain ⟨p, _, rfl⟩ := List.mem_map.mp hd
    refine ⟨[some (netD net), some (.bl m), some (.ref (st ++ [O.lst [.non]]).length), d3, d4, some (tuD p)], [], rfl, ?_, rfl⟩
    rw [List.append_nil]
    cases m with
    | true => exact ifx_t (k := true) (asB_ok (var_of rfl)) (op2_of (f := ixD) (var_of rfl) rfl rfl)
    | false => exact ifx_f (k := true) (asB_ok (var_of rfl)) (op2_of (f := ixD) (var_of rfl) rfl rfl)
  have hg2 : getL (S ++ [O.lst (((tuQ net).map (pick m)).map .bl)]) S.length = some (((tuQ net).map (pick m)).map .bl) := getL_new
  refine run_rtS (g := [O.lst [.non]] ++ [O.lst ((go tuF (false, false) 0 net).map tuD)] ++ g' ++ [O.lst (((tuQ net).map (pick m)).map .bl)]) (st' := S ++ [O.lst (((tuQ net).map (pick m)).map .bl)]) ?_ (by rw [hS]; simp) (by show flats _ = true; exact flats_bl _)
  rw [← hS] at hl
  exact seq_nx (exp_of (call_of (one_of (var_of rfl)) (e_check hn st))) (seq_nx (if_f (not_of (k := true) (asB_ok (isi_of (cs := ["bool"]) (k := true) (var_of rfl) ty_bl (by decide)))) rfl) (seq_nx (set_of (new_list rfl (by omega))) (seq_nx (for_of (rg_net rfl (by omega)) hl) (seq_rt (ret_of (opN_of (f := tupD) (one_of hlc) (by simp only [tupD, hg2])))))))
end K99

set_option Elab.async false
set_option linter.all false
set_option maxRecDepth 100000
set_option maxHeartbeats 4000000
set_option exponentiation.threshold 10000
namespace K99
open Py L2 PySem PySem.Spec PyProof.Rows
variable [Tb]
/-! ### nets turned -/
def glD : List (D × D) := [(.str "goal", .str "lost"), (.str "lost", .str "goal")]
theorem disp_gl (e : Py.Loc) (st : Store) : mDisp [((mC (.str "goal")), (mC (.str "lost"))), ((mC (.str "lost")), (mC (.str "goal")))] e st = .ok (.ref st.length) (st ++ [O.dict glD]) := by
  have h1 : decide (dk (.str "goal") = some (.inl (.inr ("lost" : Str)))) = false := by decide +kernel
  have hf : foldP [] [(D.str "goal", D.str "lost"), (D.str "lost", D.str "goal")] = some glD := by
    simp only [foldP, keyD, putD, List.any_nil, List.any_cons, h1, Bool.false_eq_true, if_false, List.nil_append, Bool.or_self]
    rfl
  show (if (2 : Nat) ≤ 15 then (match foldP [] [(D.str "goal", D.str "lost"), (D.str "lost", D.str "goal")] with | some kvs => R.ok (D.ref st.length) (st ++ [O.dict kvs]) | none => .stuck) else .stuck) = _
  rw [if_pos (by omega), hf]
theorem dict_gl {st : Store} {n : Nat} (hn : st[n]? = some (.dict glD)) (b : Bool) : ixD (.ref n) (rowD (.fin b)) st = some (rowD (.fin !b), st) := by
  cases b with
  | true =>
    have e1 : dk (rowD (.fin true)) = some (.inl (.inr "goal")) := rfl
    have e2 : fitsK glD (.inl (.inr "goal")) = true := rfl
    have h1 : decide (dk (.str "goal") = some (.inl (.inr ("goal" : Str)))) = true := by decide +kernel
    have e3 : lookD glD (.inl (.inr "goal")) = some (.str "lost") := by
      simp only [lookD, glD, List.find?_cons, h1]
      rfl
    have e0 : rowD (.fin true) = .str "goal" := rfl
    rw [e0] at e1 ⊢
    simp only [ixD, hn, e1, e2, e3, if_true]
    rfl
  | false =>
    have e1 : dk (rowD (.fin false)) = some (.inl (.inr "lost")) := rfl
    have e2 : fitsK glD (.inl (.inr "lost")) = true := rfl
    have h1 : decide (dk (.str "goal") = some (.inl (.inr ("lost" : Str)))) = false := by decide +kernel
    have h2 : decide (dk (.str "lost") = some (.inl (.inr ("lost" : Str)))) = true := by decide +kernel
    have e3 : lookD glD (.inl (.inr "lost")) = some (.str "goal") := by
      simp only [lookD, glD, List.find?_cons, h1, h2]
      rfl
    have e0 : rowD (.fin false) = .str "lost" := rfl
    rw [e0] at e1 ⊢
    simp only [ixD, hn, e1, e2, e3, if_true]
    rfl
def turnD : D → D
  | .str s => if s = "goal" then .str "lost" else .str "goal"
  | d => d
theorem turnD_row (r : Row) : turnD (rowD r) = rowD (turn r) := by
  cases r with
  | fin b =>
    cases b with
    | true =>
      show (if ("goal" : Str) = "goal" then D.str "lost" else D.str "goal") = D.str "lost"
      rw [if_pos rfl]
    | false =>
      show (if ("lost" : Str) = "goal" then D.str "lost" else D.str "goal") = D.str "goal"
      rw [if_neg (by decide +kernel)]
  | to ws => rfl
theorem turn_items (net : List Row) : (net.map rowD).map turnD = (net.map turn).map rowD := by
  rw [List.map_map, List.map_map]
  exact List.map_congr_left fun r _ => turnD_row r
theorem flats_ints (is : List Int) : flats (intsD is) = true := by
  unfold intsD
  induction is with
  | nil => rfl
  | cons a is ih => simp only [List.map_cons, flats, ih, Bool.and_true]; rfl
theorem flat_row (r : Row) : flat (rowD r) = true := by
  cases r with
  | fin b => cases b <;> rfl
  | to ws => show flats (intsD _) = true; exact flats_ints _
theorem flats_net (net : List Row) : flats (net.map rowD) = true := by
  induction net with
  | nil => rfl
  | cons a S ih => simp only [List.map_cons, flats, ih, Bool.and_true, flat_row]
theorem flat_net (net : List Row) : flat (netD net) = true := by show flats _ = true; exact flats_net net
theorem row_str {r : Row} {st : Store} {e : Py.Loc} {i : Nat} (h : e[i]? = some (some (rowD r))) : ∃ b, mIsi (mVar i) ["str"] e st = .ok (.bl b) st ∧ ((b = true ∧ ∃ f, r = .fin f) ∨ (b = false ∧ ∃ ws, r = .to ws)) := by
  cases r with
  | fin f => exact ⟨true, isi_of (cs := ["str"]) (k := true) (var_of h) (t := "str") (by cases f <;> rfl) (by decide), .inl ⟨rfl, f, rfl⟩⟩
  | to ws => exact ⟨false, isi_of (cs := ["str"]) (k := false) (var_of h) (t := "tuple") (by rw [row_to]; rfl) (by decide), .inr ⟨rfl, ws, rfl⟩⟩
theorem e_turned {net : List Row} (hn : NetOk net) (st : Store) : m_turned_net [netD net] st = .ok (netD (net.map turn)) st := by
  have h40 := hn.hi
  have hlc : mLc (mIt (mVar 0)) (.nm 2) mYes (mIf (asB (mIsi (mVar 2) ["str"])) (mOp2 ixD (mVar 1) (mVar 2)) (mVar 2)) [2] [some (netD net), some (.ref st.length), none] (st ++ [O.dict glD]) = .ok (.ref (st ++ [O.dict glD]).length) (st ++ [O.dict glD] ++ [O.lst ((net.map turn).map rowD)]) := by
    rw [← turn_items]
    refine mLc_map (it := ⟨net.map rowD, fun _ => True⟩) turnD (it_of (var_of rfl) rfl) trivial (by simp only [List.length_map]; exact le_size (by omega)) fun d hd => ?_
    obtain ⟨r, _, rfl⟩ := List.mem_map.mp hd
    refine ⟨[some (netD net), some (.ref st.length), some (rowD r)], [], rfl, ?_, by rw [turnD_row]; exact lowD_flat (flat_row _)⟩
    rw [List.append_nil, turnD_row]
    obtain ⟨b, h1, ⟨rfl, f, rfl⟩ | ⟨rfl, ws, rfl⟩⟩ := row_str (r := r) (st := st ++ [O.dict glD]) (e := [some (netD net), some (.ref st.length), some (rowD r)]) (i := 2) rfl
    · exact ifx_t (k := true) (asB_ok h1) (op2_of (var_of rfl) (var_of rfl) (dict_gl (by simp) f))
    · exact ifx_f (k := true) (asB_ok h1) (var_of rfl)
  have hg : getL (st ++ [O.dict glD] ++ [O.lst ((net.map turn).map rowD)]) (st ++ [O.dict glD]).length = some ((net.map turn).map rowD) := getL_new
  exact run_rtS (g := [O.dict glD] ++ [O.lst ((net.map turn).map rowD)]) (st' := st ++ [O.dict glD] ++ [O.lst ((net.map turn).map rowD)]) (seq_nx (exp_of (call_of (one_of (var_of rfl)) (e_check hn st))) (seq_nx (set_of (disp_gl _ _)) (seq_rt (ret_of (opN_of (f := tupD) (one_of hlc) (by simp only [tupD, hg]; rfl)))))) (by simp) (flat_net _)
theorem fr_sub (c : Rat) : D.tup [.int ((c.den : Int) - c.num), .int (c.den : Int)] = frD (1 - c) := by
  have hd : ((c.den : Int) : Rat) ≠ 0 := by
    have h := c.den_nz
    intro z
    exact h (by exact_mod_cast z)
  have hs : c * ((c.den : Int) : Rat) = (c.num : Rat) := by
    have h := Rat.num_divInt_den c
    rw [Rat.divInt_eq_div] at h
    have h2 : (c.num : Rat) / ((c.den : Int) : Rat) * ((c.den : Int) : Rat) = (c.num : Rat) := Rat.div_mul_cancel hd
    rw [h] at h2
    exact h2
  have hne : (c.den : Int) ≠ 0 := by have := c.den_pos; omega
  have e1 : Rat.divInt ((c.den : Int) - c.num) (c.den : Int) = 1 - c := by
    rw [Rat.divInt_eq_div]
    have e2 : (((c.den : Int) - c.num : Int) : Rat) = (1 - c) * ((c.den : Int) : Rat) := by
      push_cast
      rw [← hs]
      push_cast
      grind
    rw [e2]
    exact Rat.mul_div_cancel hd
  have hg : Int.gcd ((c.den : Int) - c.num) (c.den : Int) = 1 := by
    have h1 : ((Int.gcd ((c.den : Int) - c.num) (c.den : Int) : Nat) : Int) ∣ c.num := by
      have a := Int.gcd_dvd_left ((c.den : Int) - c.num) (c.den : Int)
      have b := Int.gcd_dvd_right ((c.den : Int) - c.num) (c.den : Int)
      have := Int.dvd_sub b a
      rwa [show (c.den : Int) - ((c.den : Int) - c.num) = c.num by omega] at this
    have h2 : ((Int.gcd ((c.den : Int) - c.num) (c.den : Int) : Nat) : Int) ∣ (c.den : Int) := Int.gcd_dvd_right _ _
    have h3 : Int.gcd ((c.den : Int) - c.num) (c.den : Int) ∣ Nat.gcd c.num.natAbs c.den := Nat.dvd_gcd (Int.ofNat_dvd_left.mp h1) (by exact_mod_cast h2)
    have h4 : Nat.gcd c.num.natAbs c.den = 1 := c.reduced
    rw [h4] at h3
    exact Nat.dvd_one.mp h3
  have hpos : ¬ (c.den : Int) < 0 := by omega
  have en := frac_num ((c.den : Int) - c.num) (c.den : Int) hne
  have ed := frac_den ((c.den : Int) - c.num) (c.den : Int) hne
  rw [hg, if_neg hpos, e1] at en ed
  unfold frD
  rw [en, ed]
  simp
/-! ### a net judged -/
theorem sm_tup {st : Store} {k : Nat} {xs : List D} (hs : xs.length ≤ 1000) (h : ∀ d ∈ xs, Sm st k d d) : Sm st (k + 1) (.tup xs) (.tup xs) :=
  .tup rfl hs fun i a b h1 h2 => by
    rw [h1] at h2
    cases h2
    exact h a (List.mem_of_getElem? h1)
theorem sm_lst {st : Store} {k n m : Nat} {xs : List D} (h1 : st[n]? = some (.lst xs)) (h2 : st[m]? = some (.lst xs)) (hs : xs.length ≤ 1000) (h : ∀ d ∈ xs, Sm st k d d) : Sm st (k + 1) (.ref n) (.ref m) :=
  .lst h1 h2 rfl hs fun i a b q1 q2 => by
    rw [q1] at q2
    cases q2
    exact h a (List.mem_of_getElem? q1)
theorem sm_fr {st : Store} {k : Nat} (s : Rat) : Sm st (k + 1) (frD s) (frD s) := sm_tup (by simp) fun d hd => by
  simp at hd
  rcases hd with rfl | rfl <;> exact .int _
theorem sm_frs {st : Store} {k : Nat} {S : List Rat} (h : S.length ≤ 1000) : Sm st (k + 2) (.tup (S.map frD)) (.tup (S.map frD)) := sm_tup (by simpa using h) fun d hd => by
  obtain ⟨c, _, rfl⟩ := List.mem_map.mp hd
  exact sm_fr c
theorem sm_bls {st : Store} {k : Nat} {S : List Bool} (h : S.length ≤ 1000) : Sm st (k + 1) (.tup (S.map .bl)) (.tup (S.map .bl)) := sm_tup (by simpa using h) fun d hd => by
  obtain ⟨c, _, rfl⟩ := List.mem_map.mp hd
  exact .bl c
theorem sm_row {st : Store} {k n j : Nat} {r : Row} (h : rowOk n j r = true) : Sm st (k + 1) (rowD r) (rowD r) := by
  cases r with
  | fin b => cases b <;> exact .str (by decide +kernel)
  | to ws =>
    rw [row_to]
    simp only [rowOk, Bool.and_eq_true, decide_eq_true_eq] at h
    refine sm_tup (by rw [natsD_len]; omega) fun d hd => ?_
    obtain ⟨w, _, rfl⟩ := List.mem_map.mp hd
    exact .int _
theorem sm_net {st : Store} {k : Nat} {net : List Row} (h : NetOk net) : Sm st (k + 2) (netD net) (netD net) := by
  have h40 := h.hi
  refine sm_tup (by simp; omega) fun d hd => ?_
  obtain ⟨r, hr, rfl⟩ := List.mem_map.mp hd
  obtain ⟨i, hi, e⟩ := List.getElem_of_mem hr
  exact sm_row (rows_at h.ok (i := i) (r := r) (by rw [List.getElem?_eq_getElem hi, e]))
theorem tcomp {L : List (Bool × Bool)} (hL : L.length ≤ 1000) {S : Store} {n : Nat} {e : Py.Loc} {me : Py.Loc → Store → R D} (f : Bool × Bool → Bool) (h2 : e[2]? = some (some (.ref n))) (hl : 10 < e.length) (hn : S[n]? = some (.lst (L.map tuD))) (hme : ∀ (p : Bool × Bool) (e' : Py.Loc), e'[10]? = some (some (tuD p)) → me e' S = .ok (.bl (f p)) S) :
    mOpN tupD (mCons (mLc (mIt (mVar 2)) (.nm 10) mYes me [10]) mNil) e S = .ok (.tup ((L.map f).map .bl)) (S ++ [O.lst ((L.map f).map .bl)]) := by
  have hlc : mLc (mIt (mVar 2)) (.nm 10) mYes me [10] e S = .ok (.ref S.length) (S ++ [O.lst ((L.map f).map .bl)]) := by
    have e1 : (L.map f).map D.bl = (L.map tuD).map fun d => match d with | .tup [.bl a, .bl b] => .bl (f (a, b)) | _ => .non := by
      simp [Function.comp, tuD]
    have hg : seqOf (.ref n) S = some (L.map tuD) := getL_at hn
    rw [e1]
    refine mLc_map (it := ⟨L.map tuD, stillD (.ref n) (L.map tuD)⟩) _ (it_of (var_of h2) (itD_seq hg)) (stillD_of hg) (by simp only [List.length_map]; exact le_size (by omega)) fun d hd => ?_
    obtain ⟨p, _, rfl⟩ := List.mem_map.mp hd
    refine ⟨(wipeE e [10]).set 10 (some (tuD p)), [], rfl, ?_, rfl⟩
    rw [List.append_nil]
    exact hme p _ (by rw [List.getElem?_set_self (by simpa [wipeE] using hl)])
  have hg2 : getL (S ++ [O.lst ((L.map f).map .bl)]) S.length = some ((L.map f).map .bl) := getL_new
  exact opN_of (f := tupD) (one_of hlc) (by simp only [tupD, hg2])
theorem tu_ix0 (p : Bool × Bool) (S : Store) : ixD (tuD p) (.int 0) S = some (.bl p.1, S) := rfl
theorem tu_ix1 (p : Bool × Bool) (S : Store) : ixD (tuD p) (.int 1) S = some (.bl p.2, S) := rfl
theorem e_is_right {net : List Row} (hn : NetOk net) (st : Store) : m__law_is_right [netD net] st = .ok (.bl true) st := by
  have h40 := hn.hi
  have ht := turn_ok hn
  have cl : (chQ net).length ≤ 1000 := by unfold chQ; rw [go_len]; omega
  have pl : (prQ net).length ≤ 1000 := by unfold prQ; rw [go_len]; omega
  have tl : (tuQ net).length ≤ 1000 := by unfold tuQ; rw [go_len]; omega
  -- chances and turns
  obtain ⟨S1, hS1⟩ : ∃ S1, S1 = st ++ [O.lst ((tuQ net).map tuD)] := ⟨_, rfl⟩
  have q2 := e_law_turns hn st
  rw [← hS1] at q2
  have hturn : ∀ g : Store, (S1 ++ g)[st.length]? = some (.lst ((tuQ net).map tuD)) := fun g => by rw [hS1]; exact at_mid
  -- less
  have hless : mOpN tupD (mCons (mLc (mIt (mVar 1)) (.tp [8, 9]) mYes (mTup (mCons (mOp2 subD (mVar 9) (mVar 8)) (mCons (mVar 9) mNil))) [8, 9]) mNil) [some (netD net), some (.tup ((chQ net).map frD)), some (.ref st.length), none, none, none, none, none, none, none, none] S1 = .ok (.tup ((prQ net).map frD)) (S1 ++ [O.lst ((prQ net).map frD)]) := by
    have hlc : mLc (mIt (mVar 1)) (.tp [8, 9]) mYes (mTup (mCons (mOp2 subD (mVar 9) (mVar 8)) (mCons (mVar 9) mNil))) [8, 9] [some (netD net), some (.tup ((chQ net).map frD)), some (.ref st.length), none, none, none, none, none, none, none, none] S1 = .ok (.ref S1.length) (S1 ++ [O.lst ((prQ net).map frD)]) := by
      have e1 : (prQ net).map frD = ((chQ net).map frD).map fun d => match d with | .tup [.int a, .int b] => .tup [.int (b - a), .int b] | _ => .non := by
        rw [pr_ch hn, List.map_map, List.map_map]
        refine List.map_congr_left fun c _ => ?_
        exact (fr_sub c).symm
      rw [e1]
      refine mLc_map (it := ⟨(chQ net).map frD, fun _ => True⟩) _ (it_of (var_of rfl) rfl) trivial (by simp only [List.length_map]; exact le_size (by omega)) fun d hd => ?_
      obtain ⟨c, _, rfl⟩ := List.mem_map.mp hd
      refine ⟨[some (netD net), some (.tup ((chQ net).map frD)), some (.ref st.length), none, none, none, none, none, some (.int c.num), some (.int (c.den : Int)), none], [], rfl, ?_, rfl⟩
      rw [List.append_nil]
      exact tup_of (two_of (op2_of (var_of rfl) (var_of rfl) subI) (var_of rfl)) (by simp)
    have hg : getL (S1 ++ [O.lst ((prQ net).map frD)]) S1.length = some ((prQ net).map frD) := getL_new
    exact opN_of (f := tupD) (one_of hlc) (by simp only [tupD, hg])
  obtain ⟨S2, hS2⟩ : ∃ S2, S2 = S1 ++ [O.lst ((prQ net).map frD)] := ⟨_, rfl⟩
  rw [← hS2] at hless
  -- the first question
  obtain ⟨A, hA⟩ : ∃ A : List D, A = [.tup ((chQ net).map frD), .tup ((prQ net).map frD)] := ⟨_, rfl⟩
  obtain ⟨S3, hS3⟩ : ∃ S3, S3 = S2 ++ [O.lst A] ++ [O.lst A] := ⟨_, rfl⟩
  have i1 := e__law_is (st := S3) (k := 4) (a := .ref S2.length) (b := .ref (S2 ++ [O.lst A]).length) (sm_lst (xs := A) (by rw [hS3]; exact at_mid) (by rw [hS3]; simp) (by rw [hA]; simp) fun d hd => by
    rw [hA] at hd
    simp only [List.mem_cons, List.not_mem_nil, or_false] at hd
    rcases hd with rfl | rfl
    · exact sm_frs cl
    · exact sm_frs pl)
  -- the other net
  have hother : ∀ R : List (Option D), mOpN tupD (mCons (mLc (mIt (mVar 0)) (.nm 10) mYes (mIf (asB (mIsi (mVar 10) ["str"])) (mOp2 ixD (mDisp [((mC (.str "goal")), (mC (.str "lost"))), ((mC (.str "lost")), (mC (.str "goal")))]) (mVar 10)) (mVar 10)) [10]) mNil) [some (netD net), some (.tup ((chQ net).map frD)), some (.ref st.length), some (.tup ((prQ net).map frD)), none, none, none, none, none, none, none] S3 = .ok (netD (net.map turn)) (S3 ++ [O.lst ((net.map turn).map rowD)]) := fun R => by
    have hlc : mLc (mIt (mVar 0)) (.nm 10) mYes (mIf (asB (mIsi (mVar 10) ["str"])) (mOp2 ixD (mDisp [((mC (.str "goal")), (mC (.str "lost"))), ((mC (.str "lost")), (mC (.str "goal")))]) (mVar 10)) (mVar 10)) [10] [some (netD net), some (.tup ((chQ net).map frD)), some (.ref st.length), some (.tup ((prQ net).map frD)), none, none, none, none, none, none, none] S3 = .ok (.ref S3.length) (S3 ++ [O.lst ((net.map turn).map rowD)]) := by
      rw [← turn_items]
      refine mLc_map (it := ⟨net.map rowD, fun _ => True⟩) turnD (it_of (var_of rfl) rfl) trivial (by simp only [List.length_map]; exact le_size (by omega)) fun d hd => ?_
      obtain ⟨r, _, rfl⟩ := List.mem_map.mp hd
      rw [turnD_row]
      obtain ⟨b, h1, ⟨rfl, f, rfl⟩ | ⟨rfl, ws, rfl⟩⟩ := row_str (r := r) (st := S3) (e := [some (netD net), some (.tup ((chQ net).map frD)), some (.ref st.length), some (.tup ((prQ net).map frD)), none, none, none, none, none, none, some (rowD r)]) (i := 10) rfl
      · refine ⟨_, [O.dict glD], rfl, ifx_t (k := true) (asB_ok h1) (op2_of (disp_gl _ _) (var_of rfl) (dict_gl (by simp) f)), lowD_flat (flat_row _)⟩
      · refine ⟨_, [], rfl, ?_, lowD_flat (flat_row _)⟩
        rw [List.append_nil]
        exact ifx_f (k := true) (asB_ok h1) (var_of rfl)
    have hg : getL (S3 ++ [O.lst ((net.map turn).map rowD)]) S3.length = some ((net.map turn).map rowD) := getL_new
    exact opN_of (f := tupD) (one_of hlc) (by simp only [tupD, hg]; rfl)
  obtain ⟨S4, hS4⟩ : ∃ S4, S4 = S3 ++ [O.lst ((net.map turn).map rowD)] := ⟨_, rfl⟩
  simp only [← hS4] at hother
  -- the second question
  have t1 := e_turned hn S4
  have t2 := e_turned ht S4
  rw [turn_turn] at t2
  have t3 := e_prices ht S4
  rw [pr_turn hn] at t3
  have t4 := e_net hn S4
  obtain ⟨A2, hA2⟩ : ∃ A : List D, A = [netD (net.map turn), netD net, .tup ((chQ net).map frD), .bl true] := ⟨_, rfl⟩
  obtain ⟨S5, hS5⟩ : ∃ S5, S5 = S4 ++ [O.lst A2] ++ [O.lst A2] := ⟨_, rfl⟩
  have i2 := e__law_is (st := S5) (k := 4) (a := .ref S4.length) (b := .ref (S4 ++ [O.lst A2]).length) (sm_lst (xs := A2) (by rw [hS5]; exact at_mid) (by rw [hS5]; simp) (by rw [hA2]; simp) fun d hd => by
    rw [hA2] at hd
    simp only [List.mem_cons, List.not_mem_nil, or_false] at hd
    rcases hd with rfl | rfl | rfl | rfl
    · exact sm_net ht
    · exact sm_net hn
    · exact sm_frs cl
    · exact .bl _)
  -- by turns
  obtain ⟨u1, hu1⟩ : ∃ u1 : D, u1 = .tup (((tuQ net).map (pick true)).map .bl) := ⟨_, rfl⟩
  obtain ⟨u2, hu2⟩ : ∃ u2 : D, u2 = .tup (((tuQ net).map (pick false)).map .bl) := ⟨_, rfl⟩
  have b1 := e_by_turns hn true S5
  have b2 := e_by_turns hn false S5
  rw [← hu1] at b1
  rw [← hu2] at b2
  obtain ⟨S6, hS6⟩ : ∃ S6, S6 = S5 ++ [O.lst [u1, u2]] := ⟨_, rfl⟩
  have n6 : ∀ g : Store, (S6 ++ g)[S5.length]? = some (.lst [u1, u2]) := fun g => by rw [hS6]; exact at_mid
  have pre6 : ∃ g, S6 = S1 ++ g := ⟨[O.lst ((prQ net).map frD)] ++ [O.lst A] ++ [O.lst A] ++ [O.lst ((net.map turn).map rowD)] ++ [O.lst A2] ++ [O.lst A2] ++ [O.lst [u1, u2]], by rw [hS6, hS5, hS4, hS3, hS2]; simp⟩
  obtain ⟨p6, hp6⟩ := pre6
  have htu6 : ∀ g : Store, (S6 ++ g)[st.length]? = some (.lst ((tuQ net).map tuD)) := fun g => by rw [hp6, List.append_assoc]; exact hturn _
  obtain ⟨E6, hE6⟩ : ∃ E6 : Py.Loc, E6 = [some (netD net), some (.tup ((chQ net).map frD)), some (.ref st.length), some (.tup ((prQ net).map frD)), some (netD (net.map turn)), some (.ref S5.length), none, none, none, none, none] := ⟨_, rfl⟩
  have c1 := tcomp tl (S := S6) (n := st.length) (e := E6) (me := mOp2 ixD (mVar 10) (mC (.int 0))) (pick true) (by rw [hE6]; rfl) (by rw [hE6]; simp) (by have := htu6 []; rwa [List.append_nil] at this) (fun p e' he' => op2_of (var_of he') rfl (tu_ix0 p _))
  obtain ⟨S7, hS7⟩ : ∃ S7, S7 = S6 ++ [O.lst (((tuQ net).map (pick true)).map .bl)] := ⟨_, rfl⟩
  have c2 := tcomp tl (S := S7) (n := st.length) (e := E6) (me := mOp2 ixD (mVar 10) (mC (.int 1))) (pick false) (by rw [hE6]; rfl) (by rw [hE6]; simp) (by rw [hS7]; exact htu6 _) (fun p e' he' => op2_of (var_of he') rfl (tu_ix1 p _))
  obtain ⟨S8, hS8⟩ : ∃ S8, S8 = S7 ++ [O.lst (((tuQ net).map (pick false)).map .bl)] := ⟨_, rfl⟩
  rw [← hS7, ← hu1] at c1
  rw [← hS8, ← hu2] at c2
  obtain ⟨S9, hS9⟩ : ∃ S9, S9 = S8 ++ [O.lst [u1, u2]] := ⟨_, rfl⟩
  have sb : ∀ (S : Store) (k : Nat) (L : List Bool), L.length ≤ 1000 → Sm S (k + 1) (.tup (L.map .bl)) (.tup (L.map .bl)) := fun S k L h => sm_bls h
  have i3 := e__law_is (st := S9) (k := 4) (a := .ref S5.length) (b := .ref S8.length) (sm_lst (xs := [u1, u2]) (by rw [hS9, hS8, hS7, List.append_assoc, List.append_assoc]; exact n6 _) (by rw [hS9]; simp) (by simp) fun d hd => by
    simp only [List.mem_cons, List.not_mem_nil, or_false] at hd
    rcases hd with rfl | rfl
    · rw [hu1]; exact sb _ _ _ (by simpa using tl)
    · rw [hu2]; exact sb _ _ _ (by simpa using tl))
  -- back
  obtain ⟨v1, hv1⟩ : ∃ v1 : D, v1 = .tup (((tuQ net).map fun p => !p.2).map .bl) := ⟨_, rfl⟩
  obtain ⟨v2, hv2⟩ : ∃ v2 : D, v2 = .tup (((tuQ net).map fun p => !p.1).map .bl) := ⟨_, rfl⟩
  have b3 := e_by_turns ht true S9
  have b4 := e_by_turns ht false S9
  rw [tu_turn hn] at b3 b4
  have ev1 : ((tuQ net).map fun p => (!p.2, !p.1)).map (pick true) = (tuQ net).map fun p => !p.2 := by rw [List.map_map]; rfl
  have ev2 : ((tuQ net).map fun p => (!p.2, !p.1)).map (pick false) = (tuQ net).map fun p => !p.1 := by rw [List.map_map]; rfl
  rw [ev1, ← hv1] at b3
  rw [ev2, ← hv2] at b4
  obtain ⟨S10, hS10⟩ : ∃ S10, S10 = S9 ++ [O.lst [v1, v2]] := ⟨_, rfl⟩
  have pre10 : ∃ g, S10 = S6 ++ g := ⟨[O.lst (((tuQ net).map (pick true)).map .bl)] ++ [O.lst (((tuQ net).map (pick false)).map .bl)] ++ [O.lst [u1, u2]] ++ [O.lst [v1, v2]], by rw [hS10, hS9, hS8, hS7]; simp⟩
  obtain ⟨p10, hp10⟩ := pre10
  have htu10 : ∀ g : Store, (S10 ++ g)[st.length]? = some (.lst ((tuQ net).map tuD)) := fun g => by rw [hp10, List.append_assoc]; exact htu6 _
  have n10 : ∀ g : Store, (S10 ++ g)[S9.length]? = some (.lst [v1, v2]) := fun g => by rw [hS10]; exact at_mid
  obtain ⟨E10, hE10⟩ : ∃ E10 : Py.Loc, E10 = [some (netD net), some (.tup ((chQ net).map frD)), some (.ref st.length), some (.tup ((prQ net).map frD)), some (netD (net.map turn)), some (.ref S5.length), some (.ref S9.length), none, none, none, none] := ⟨_, rfl⟩
  have c3 := tcomp tl (S := S10) (n := st.length) (e := E10) (me := mNotV (mOp2 ixD (mVar 10) (mC (.int 1)))) (fun p => !p.2) (by rw [hE10]; rfl) (by rw [hE10]; simp) (by have := htu10 []; rwa [List.append_nil] at this) (fun p e' he' => notV_of (op2_of (var_of he') rfl (tu_ix1 p _)))
  obtain ⟨S11, hS11⟩ : ∃ S11, S11 = S10 ++ [O.lst (((tuQ net).map fun p => !p.2).map .bl)] := ⟨_, rfl⟩
  have c4 := tcomp tl (S := S11) (n := st.length) (e := E10) (me := mNotV (mOp2 ixD (mVar 10) (mC (.int 0)))) (fun p => !p.1) (by rw [hE10]; rfl) (by rw [hE10]; simp) (by rw [hS11]; exact htu10 _) (fun p e' he' => notV_of (op2_of (var_of he') rfl (tu_ix0 p _)))
  obtain ⟨S12, hS12⟩ : ∃ S12, S12 = S11 ++ [O.lst (((tuQ net).map fun p => !p.1).map .bl)] := ⟨_, rfl⟩
  rw [← hS11, ← hv1] at c3
  rw [← hS12, ← hv2] at c4
  obtain ⟨S13, hS13⟩ : ∃ S13, S13 = S12 ++ [O.lst [v1, v2]] := ⟨_, rfl⟩
  have i4 := e__law_is (st := S13) (k := 4) (a := .ref S9.length) (b := .ref S12.length) (sm_lst (xs := [v1, v2]) (by rw [hS13, hS12, hS11, List.append_assoc, List.append_assoc]; exact n10 _) (by rw [hS13]; simp) (by simp) fun d hd => by
    simp only [List.mem_cons, List.not_mem_nil, or_false] at hd
    rcases hd with rfl | rfl
    · rw [hv1]; exact sb _ _ _ (by simpa using tl)
    · rw [hv2]; exact sb _ _ _ (by simpa using tl))
  have pre13 : ∃ g, S13 = st ++ g := ⟨[O.lst ((tuQ net).map tuD)] ++ p6 ++ p10 ++ [O.lst (((tuQ net).map fun p => !p.2).map .bl)] ++ [O.lst (((tuQ net).map fun p => !p.1).map .bl)] ++ [O.lst [v1, v2]], by rw [hS13, hS12, hS11, hp10, hp6, hS1]; simp⟩
  obtain ⟨g13, hg13⟩ := pre13
  refine run_rtS (g := g13) (st' := S13) ?_ hg13 rfl
  refine seq_nx (e' := [some (netD net), some (.tup ((chQ net).map frD)), some (.ref st.length), none, none, none, none, none, none, none, none]) (par2_of (call_of (one_of (var_of rfl)) (e_law_chances hn st)) (call_of (one_of (var_of rfl)) q2)) ?_
  refine seq_nx (set_of hless) ?_
  have l1 : ∀ e : Py.Loc, e[0]? = some (some (netD net)) → mLst (mCons (mCall m_toss_chances (mCons (mVar 0) mNil)) (mCons (mCall m_prices (mCons (mVar 0) mNil)) mNil)) e S2 = .ok (.ref S2.length) (S2 ++ [O.lst A]) := fun e he => by
    rw [hA]; exact lst_of (two_of (call_of (one_of (var_of he)) (e_toss hn S2)) (call_of (one_of (var_of he)) (e_prices hn S2))) (by simp)
  have l2 : ∀ e : Py.Loc, e[1]? = some (some (.tup ((chQ net).map frD))) → e[3]? = some (some (.tup ((prQ net).map frD))) → mLst (mCons (mVar 1) (mCons (mVar 3) mNil)) e (S2 ++ [O.lst A]) = .ok (.ref (S2 ++ [O.lst A]).length) S3 := fun e h1 h3 => by
    rw [hS3]
    conv => rhs; rw [hA]
    have := lst_of (e := e) (st := S2 ++ [O.lst A]) (two_of (var_of h1) (var_of h3)) (by simp)
    rw [this, hA]
  refine seq_nx (if_f (not_of (k := true) (asB_ok (call_of (two_of (l1 _ rfl) (l2 _ rfl rfl)) i1))) rfl) ?_
  refine seq_nx (set_of (hother [])) ?_
  have l3 : ∀ e : Py.Loc, e[0]? = some (some (netD net)) → e[4]? = some (some (netD (net.map turn))) → mLst (mCons (mCall m_turned_net (mCons (mVar 0) mNil)) (mCons (mCall m_turned_net (mCons (mVar 4) mNil)) (mCons (mCall m_prices (mCons (mVar 4) mNil)) (mCons (mCall m_is_net (mCons (mVar 0) mNil)) mNil)))) e S4 = .ok (.ref S4.length) (S4 ++ [O.lst A2]) := fun e h0 h4 => by
    rw [hA2]; exact lst_of (cons_of (call_of (one_of (var_of h0)) t1) (cons_of (call_of (one_of (var_of h4)) t2) (two_of (call_of (one_of (var_of h4)) t3) (call_of (one_of (var_of h0)) t4)))) (by simp)
  have l4 : ∀ e : Py.Loc, e[0]? = some (some (netD net)) → e[1]? = some (some (.tup ((chQ net).map frD))) → e[4]? = some (some (netD (net.map turn))) → mLst (mCons (mVar 4) (mCons (mVar 0) (mCons (mVar 1) (mCons (mC (.bl true)) mNil)))) e (S4 ++ [O.lst A2]) = .ok (.ref (S4 ++ [O.lst A2]).length) S5 := fun e h0 h1 h4 => by
    have := lst_of (e := e) (st := S4 ++ [O.lst A2]) (cons_of (var_of h4) (cons_of (var_of h0) (two_of (var_of h1) (x_c (.bl true))))) (by simp)
    rw [this, hS5, hA2]
  refine seq_nx (if_f (not_of (k := true) (asB_ok (call_of (two_of (l3 _ rfl rfl) (l4 _ rfl rfl rfl)) i2))) rfl) ?_
  refine seq_nx (e' := E6) (st1 := S6) (by rw [hE6, hS6]; exact set_of (lst_of (two_of (call_of (two_of (var_of rfl) rfl) b1) (call_of (two_of (var_of rfl) rfl) b2)) (by simp))) ?_
  refine seq_nx (if_f (not_of (k := true) (asB_ok (call_of (two_of (var_of (by rw [hE6]; rfl)) (st2 := S9) (b := .ref S8.length) (by rw [hS9]; exact lst_of (two_of c1 c2) (by simp))) i3))) rfl) ?_
  refine seq_nx (e' := E10) (st1 := S10) (by rw [hE10, hS10, hE6]; exact set_of (lst_of (two_of (call_of (two_of (var_of rfl) rfl) b3) (call_of (two_of (var_of rfl) rfl) b4)) (by simp))) ?_
  refine seq_nx (e' := E10.set 7 (some (.ref S12.length))) (st1 := S13) (by rw [hS13]; exact set_of (lst_of (two_of c3 c4) (by simp))) ?_
  exact seq_rt (ret_of (call_of (two_of (var_of (by rw [hE10]; rfl)) (var_of (by rw [hE10]; rfl))) i4))
end K99

set_option Elab.async false
set_option linter.all false
set_option maxRecDepth 100000
set_option maxHeartbeats 4000000
set_option exponentiation.threshold 10000
namespace K99
open Py L2 PySem PySem.Spec PyProof.Rows
variable [Tb]
/-! ### drawn nets -/
theorem drawS {st s1 G : Store} {h c : Nat} {cells : List Int} (H : Hnd s1 h c cells) (x : Stp st s1 h c) (m : Nat) (hm : 0 < m) (hm2 : m < 2 ^ 63) : ∃ d s2, d < m ∧ m__law_draw [.ref h, .int (m : Nat)] (s1 ++ G) = .ok (.int (d : Nat)) (s2 ++ G) ∧ Stp st s2 h c ∧ Hnd s2 h c cells := by
  obtain ⟨d, S', h1, h2, h3, h4⟩ := draw' (H.app G) m hm hm2
  obtain ⟨s2, rfl, h5⟩ := h3.app H.hl
  exact ⟨d, s2, h1, h2, x.trans h5, h5.hnd H h4⟩
theorem anyS {st s1 G : Store} {h c : Nat} {cells : List Int} (H : Hnd s1 h c cells) (x : Stp st s1 h c) {n : Nat} {ds : List D} (hn : (s1 ++ G)[n]? = some (.lst ds)) (hne : n ≠ h) (h0 : 0 < ds.length) (hl : ds.length ≤ 1000) (hf : ∀ d ∈ ds, lowD (s1 ++ G).length d = true) : ∃ d s2, d ∈ ds ∧ m__law_any [.ref h, .ref n] (s1 ++ G) = .ok d (s2 ++ G) ∧ Stp st s2 h c ∧ Hnd s2 h c cells := by
  obtain ⟨d, S', h1, h2, h3, h4⟩ := any_list (H.app G) hn hne h0 hl hf
  obtain ⟨s2, rfl, h5⟩ := h3.app H.hl
  exact ⟨d, s2, h1, h2, x.trans h5, h5.hnd H h4⟩
noncomputable abbrev dtest : Py.Loc → Store → R Bool := asB (mOp2 eqD (mCall m__law_draw (mCons (mVar 0) (mCons (mC (.int 2)) mNil))) (mC (.int 0)))
theorem lc_draw {h c : Nat} {cells : List Int} {e : Py.Loc} (he : e[0]? = some (some (.ref h))) (hl : 6 < e.length) : ∀ (ks : List Nat) (S : Store), Hnd S h c cells →
    ∃ (ks' : List Nat) (S' : Store), lcL (fun _ => True) (fun d st => lcB (.nm 6) dtest (mVar 6) d (wipeE e [6]) st) (natsD ks) S = .ok (natsD ks') S' ∧ ks'.Sublist ks ∧ Stp S S' h c ∧ Hnd S' h c cells := by
  intro ks
  induction ks with
  | nil => exact fun S H => ⟨[], S, by show lcL _ _ [] S = _; unfold lcL; rw [if_pos trivial]; rfl, .slnil, Stp.refl H, H⟩
  | cons k ks ih =>
    intro S H
    obtain ⟨d, S1, hd, q, x, H1⟩ := draw' H 2 (by omega) (by omega)
    obtain ⟨ks', S2, q2, sb, x2, H2⟩ := ih S1 H1
    have e0 : natsD (k :: ks) = .int (k : Nat) :: natsD ks := rfl
    have hb : bindE (.nm 6) (.int (k : Nat)) (wipeE e [6]) = some ((wipeE e [6]).set 6 (some (.int (k : Nat)))) := rfl
    have h0 : ((wipeE e [6]).set 6 (some (D.int (k : Nat))))[0]? = some (some (.ref h)) := by
      simp only [wipeE]
      rw [List.getElem?_set_ne (by omega), List.getElem?_set_ne (by omega)]
      exact he
    have h6 : ((wipeE e [6]).set 6 (some (D.int (k : Nat))))[6]? = some (some (.int (k : Nat))) := by
      rw [List.getElem?_set_self (by simpa [wipeE] using hl)]
    have ht := asB_ok (op2_of (f := eqD) (call_of (m := m__law_draw) (two_of (var_of (i := 0) h0) (x_c (.int 2))) q) (x_c (.int 0)) eqI)
    have g1 : ∀ y : D, lowD S.length y = true → Py.gc S y S1 = (y, S1) := fun y hy => by
      have := x.gc (g := []) H hy
      rwa [List.append_nil] at this
    rw [e0]
    by_cases hk : d = 0
    · rw [decide_eq_true (show ((d : Nat) : Int) = 0 by omega)] at ht
      have hB : lcB (.nm 6) dtest (mVar 6) (.int (k : Nat)) (wipeE e [6]) S = .ok (some (.int (k : Nat))) S1 := by
        unfold lcB
        rw [hb]
        have gk := g1 (.int (k : Nat)) rfl
        simp only [ht, var_of (i := 6) h6, gk]
      refine ⟨k :: ks', S2, ?_, .cons_cons k sb, x.trans x2, H2⟩
      unfold lcL
      rw [if_pos trivial, hB]
      simp only [R.bind_ok]
      rw [q2]
      rfl
    · rw [decide_eq_false (show ¬ ((d : Nat) : Int) = 0 by omega)] at ht
      have hB : lcB (.nm 6) dtest (mVar 6) (.int (k : Nat)) (wipeE e [6]) S = .ok none S1 := by
        unfold lcB
        rw [hb]
        have gk := g1 .non rfl
        simp only [ht, gk]
      refine ⟨ks', S2, ?_, .cons k sb, x.trans x2, H2⟩
      unfold lcL
      rw [if_pos trivial, hB]
      simp only [R.bind_ok]
      rw [q2]
      rfl
theorem asc_of {l : List Nat} (h : l.Pairwise (· < ·)) : ascN l = true := by
  unfold ascN
  induction l with
  | nil => rfl
  | cons a l ih =>
    cases l with
    | nil => rfl
    | cons b l =>
      have h2 := List.pairwise_cons.mp h
      have ih' := ih h2.2
      simp only [List.drop_succ_cons, List.drop_zero, List.zip_cons_cons, List.all_cons, Bool.and_eq_true, decide_eq_true_eq] at ih' ⊢
      exact ⟨h2.1 b List.mem_cons_self, ih'⟩
theorem rowOk_to {n k : Nat} {ks : List Nat} (hn : n ≤ 40) (hne : ks ≠ []) (hs : ks.Sublist ((List.range (n - (k + 1))).map (k + 1 + ·))) : rowOk n k (.to ks) = true := by
  have hp : ((List.range (n - (k + 1))).map (k + 1 + ·)).Pairwise (· < ·) := by
    rw [List.pairwise_map]
    exact List.pairwise_lt_range.imp fun h => by omega
  have hl := hs.length_le
  simp only [List.length_map, List.length_range] at hl
  simp only [rowOk, Bool.and_eq_true, decide_eq_true_eq, List.all_eq_true]
  refine ⟨by cases ks <;> simp at hne ⊢, fun w hw => ?_, asc_of (hp.sublist hs), by omega⟩
  obtain ⟨i, hi, rfl⟩ := List.mem_map.mp (hs.subset hw)
  have := List.mem_range.mp hi
  omega
theorem rowsOk_app {n : Nat} {r : Row} : ∀ {rs : List Row} {k : Nat}, rowsOk n k (rs ++ [r]) = (rowsOk n k rs && rowOk n (k + rs.length) r) := by
  intro rs
  induction rs with
  | nil => intro k; simp [rowsOk]
  | cons a rs ih =>
    intro k
    simp only [List.cons_append, rowsOk, ih, List.length_cons, Bool.and_assoc]
    rw [show k + 1 + rs.length = k + (rs.length + 1) by omega]
theorem app_mid {st g : Store} {L : List D} {d : D} (h : L.length ≤ 1000000) : appD (.ref st.length) [d] (st ++ [O.lst L] ++ g) = some (.non, st ++ [O.lst (L ++ [d])] ++ g) := by
  simp only [appD, at_mid]
  rw [if_pos (by rw [sizeLine_eq]; omega), set_mid]
theorem isL_mid {st g : Store} {L : List D} : isLst (.ref st.length) (st ++ [O.lst L] ++ g) = true := by
  simp only [isLst, at_mid]
noncomputable abbrev nbodyD : Py.Loc → Store → Fl := (sSeq (sAsg (mOpN tupD (mCons (mLc (mRgs (mCons (mOp2 addD (mVar 4) (mC (.int 1))) (mCons (mVar 2) mNil))) (.nm 6) (asB (mOp2 eqD (mCall m__law_draw (mCons (mVar 0) (mCons (mC (.int 2)) mNil))) (mC (.int 0)))) (mVar 6) [6]) mNil)) (gN 5)) (sSeq (sExp (mMt appD (mVar 3) (mCons (mIf (asB (mOp2 gtD (mOpN lenD (mCons (mVar 5) mNil)) (mC (.int 0)))) (mVar 5) (mCall m__law_any (mCons (mVar 0) (mCons (mLst (mCons (mC (.str "goal")) (mCons (mC (.str "lost")) mNil))) mNil)))) mNil))) (fun e st => .nx e st)))
theorem nturn {st s1 g : Store} {h c n : Nat} {cells : List Int} (H : Hnd s1 h c cells) (x : Stp st s1 h c) (hn : n = st.length) {many k : Nat} (hk : k < many) (hm : many ≤ 40) (rows : List Row) (hr : rows.length ≤ 40) (d1 d5 d6 : Option D) :
    ∃ (s2 g2 : Store) (r : Row) (d5' : Option D), nbodyD [some (.ref h), d1, some (.int (many : Nat)), some (.ref n), some (.int (k : Nat)), d5, d6] (s1 ++ [O.lst (rows.map rowD)] ++ g) = .nx [some (.ref h), d1, some (.int (many : Nat)), some (.ref n), some (.int (k : Nat)), d5', d6] (s2 ++ [O.lst ((rows ++ [r]).map rowD)] ++ g2) ∧ Stp st s2 h c ∧ Hnd s2 h c cells ∧ rowOk many k r = true := by
  obtain ⟨E, hE⟩ : ∃ E : Py.Loc, E = [some (.ref h), d1, some (.int (many : Nat)), some (.ref n), some (.int (k : Nat)), d5, d6] := ⟨_, rfl⟩
  obtain ⟨ks, S', q, sb, x', H'⟩ := lc_draw (e := E) (by rw [hE]; rfl) (by rw [hE]; simp) ((List.range (many - (k + 1))).map (k + 1 + ·)) (s1 ++ ([O.lst (rows.map rowD)] ++ g)) (H.app _)
  obtain ⟨s2, rfl, x2⟩ := x'.app H.hl
  have H2 : Hnd s2 h c cells := x2.hnd H H'
  have hl := sb.length_le
  simp only [List.length_map, List.length_range] at hl
  have hadd : ∀ S, addD (.int (k : Nat)) (.int 1) S = some (.int ((k + 1 : Nat) : Int), S) := fun S => by rw [addI]; rfl
  have hrg : mRgs (mCons (mOp2 addD (mVar 4) (mC (.int 1))) (mCons (mVar 2) mNil)) E (s1 ++ ([O.lst (rows.map rowD)] ++ g)) = .ok ⟨natsD ((List.range (many - (k + 1))).map (k + 1 + ·)), fun _ => True⟩ (s1 ++ ([O.lst (rows.map rowD)] ++ g)) := by
    exact rgs_of (two_of (op2_of (var_of (by rw [hE]; rfl)) rfl (hadd _)) (var_of (by rw [hE]; rfl))) (rg2 (k + 1) many (by omega) (by omega))
  obtain ⟨S', hS'⟩ : ∃ S', S' = s2 ++ ([O.lst (rows.map rowD)] ++ g) := ⟨_, rfl⟩
  rw [← hS'] at q
  have hlc := mLc_run (vs := [6]) hrg (by rw [natsD_len, List.length_map, List.length_range]; exact le_size (by omega)) q
  have hg : getL (S' ++ [O.lst (natsD ks)]) S'.length = some (natsD ks) := getL_new
  have htup : mOpN tupD (mCons (mLc (mRgs (mCons (mOp2 addD (mVar 4) (mC (.int 1))) (mCons (mVar 2) mNil))) (.nm 6) (asB (mOp2 eqD (mCall m__law_draw (mCons (mVar 0) (mCons (mC (.int 2)) mNil))) (mC (.int 0)))) (mVar 6) [6]) mNil) E (s1 ++ ([O.lst (rows.map rowD)] ++ g)) = .ok (.tup (natsD ks)) (S' ++ [O.lst (natsD ks)]) := opN_of (f := tupD) (one_of hlc) (by simp only [tupD, hg])
  have eS : s1 ++ [O.lst (rows.map rowD)] ++ g = s1 ++ ([O.lst (rows.map rowD)] ++ g) := by simp
  rw [eS]
  have n2 : n = s2.length := by rw [x2.len, x.len, hn]
  have eS2 : S' ++ [O.lst (natsD ks)] = s2 ++ [O.lst (rows.map rowD)] ++ (g ++ [O.lst (natsD ks)]) := by rw [hS']; simp
  have hil : isLst (.ref n) (S' ++ [O.lst (natsD ks)]) = true := by rw [eS2, n2]; exact isL_mid
  have hgt := asB_ok (op2_of (f := gtD) (opN_of (f := lenD) (one_of (var_of (i := 5) (e := [some (.ref h), d1, some (.int (many : Nat)), some (.ref n), some (.int (k : Nat)), some (.tup (natsD ks)), d6]) (st := S' ++ [O.lst (natsD ks)]) rfl)) lenT) (x_c (.int 0)) gtI)
  rw [natsD_len] at hgt
  by_cases hne : ks = []
  · have hlen0 : ks.length = 0 := by rw [hne]; rfl
    rw [decide_eq_false (by omega)] at hgt
    obtain ⟨d, s3, hd, q3, x3, H3⟩ := anyS (st := st) (s1 := s2) (G := [O.lst (rows.map rowD)] ++ (g ++ [O.lst (natsD ks)]) ++ [O.lst [.str "goal", .str "lost"]]) H2 (x.trans x2) (n := (S' ++ [O.lst (natsD ks)]).length) (ds := [.str "goal", .str "lost"]) (by rw [eS2]; simp) (by have := H2.hl; rw [hS']; simp; omega) (by simp) (by simp) (fun d hd => by simp only [List.mem_cons, List.not_mem_nil, or_false] at hd; rcases hd with rfl | rfl <;> rfl)
    have hll : ∀ e : Py.Loc, mLst (mCons (mC (.str "goal")) (mCons (mC (.str "lost")) mNil)) e (S' ++ [O.lst (natsD ks)]) = .ok (.ref (S' ++ [O.lst (natsD ks)]).length) (s2 ++ ([O.lst (rows.map rowD)] ++ (g ++ [O.lst (natsD ks)]) ++ [O.lst [.str "goal", .str "lost"]])) := fun e => by
      have e1 : s2 ++ ([O.lst (rows.map rowD)] ++ (g ++ [O.lst (natsD ks)]) ++ [O.lst [.str "goal", .str "lost"]]) = (S' ++ [O.lst (natsD ks)]) ++ [O.lst [.str "goal", .str "lost"]] := by rw [eS2]; simp
      rw [e1]
      exact lst_of (two_of rfl rfl) (by simp)
    obtain ⟨b, rfl⟩ : ∃ b, d = rowD (.fin b) := by
      simp only [List.mem_cons, List.not_mem_nil, or_false] at hd
      rcases hd with rfl | rfl
      · exact ⟨true, rfl⟩
      · exact ⟨false, rfl⟩
    have n3 : n = s3.length := by rw [x3.len, hn]
    have eS3 : s3 ++ ([O.lst (rows.map rowD)] ++ (g ++ [O.lst (natsD ks)]) ++ [O.lst [.str "goal", .str "lost"]]) = s3 ++ [O.lst (rows.map rowD)] ++ (g ++ [O.lst (natsD ks)] ++ [O.lst [.str "goal", .str "lost"]]) := by simp
    have hap := app_mid (st := s3) (g := g ++ [O.lst (natsD ks)] ++ [O.lst [.str "goal", .str "lost"]]) (L := rows.map rowD) (d := rowD (.fin b)) (by simp; omega)
    rw [← eS3] at hap
    have er : rows.map rowD ++ [rowD (.fin b)] = (rows ++ [Row.fin b]).map rowD := by simp
    rw [er, ← n3] at hap
    refine ⟨s3, g ++ [O.lst (natsD ks)] ++ [O.lst [.str "goal", .str "lost"]], .fin b, some (.tup (natsD ks)), ?_, x3, H3, rfl⟩
    rw [← hE]
    exact seq_nx (e' := [some (.ref h), d1, some (.int (many : Nat)), some (.ref n), some (.int (k : Nat)), some (.tup (natsD ks)), d6]) (by rw [hE] at htup ⊢; exact set_of htup) (seq_nx (exp_of (mt_of (f := appD) (var_of rfl) hil (one_of (ifx_f (k := true) hgt (call_of (two_of (var_of rfl) (hll _)) q3))) hap)) rfl)
  · have hpos : 0 < ks.length := List.length_pos_iff.mpr hne
    rw [decide_eq_true (by omega)] at hgt
    have hap := app_mid (st := s2) (g := g ++ [O.lst (natsD ks)]) (L := rows.map rowD) (d := rowD (.to ks)) (by simp; omega)
    have er : rows.map rowD ++ [rowD (.to ks)] = (rows ++ [Row.to ks]).map rowD := by simp
    rw [← eS2, er, ← n2] at hap
    refine ⟨s2, g ++ [O.lst (natsD ks)], .to ks, some (.tup (natsD ks)), ?_, x.trans x2, H2, rowOk_to hm hne sb⟩
    rw [← hE]
    exact seq_nx (e' := [some (.ref h), d1, some (.int (many : Nat)), some (.ref n), some (.int (k : Nat)), some (.tup (natsD ks)), d6]) (by rw [hE] at htup ⊢; exact set_of htup) (seq_nx (exp_of (mt_of (f := appD) (var_of rfl) hil (one_of (ifx_t (k := true) hgt (by rw [← row_to]; exact var_of rfl))) hap)) rfl)
theorem nloopD {st : Store} {h c n : Nat} {cells : List Int} (hn : n = st.length) {many : Nat} (hm : many ≤ 40) (d1 d6 : Option D) : ∀ (m k : Nat) (rows : List Row) (s1 g : Store) (d4 d5 : Option D), k + m = many → rows.length = k → Hnd s1 h c cells → Stp st s1 h c → rowsOk many 0 rows = true →
    ∃ (s2 g2 : Store) (rows' : List Row) (d4' d5' : Option D), forL (fun _ => True) (fun d e st => (gN 4 d e st).seq nbodyD) (natsD (List.range' k m)) [some (.ref h), d1, some (.int (many : Nat)), some (.ref n), d4, d5, d6] (s1 ++ [O.lst (rows.map rowD)] ++ g) = .nx [some (.ref h), d1, some (.int (many : Nat)), some (.ref n), d4', d5', d6] (s2 ++ [O.lst (rows'.map rowD)] ++ g2) ∧ Stp st s2 h c ∧ Hnd s2 h c cells ∧ rows'.length = many ∧ rowsOk many 0 rows' = true := by
  intro m
  induction m with
  | zero => exact fun k rows s1 g d4 d5 hk hr H x ok => ⟨s1, g, rows, d4, d5, forL_nil trivial, x, H, by omega, ok⟩
  | succ m ih =>
    intro k rows s1 g d4 d5 hk hr H x ok
    obtain ⟨s2, g2, r, f5, q, x2, H2, hok⟩ := nturn (g := g) H x hn (many := many) (k := k) (by omega) hm rows (by omega) d1 d5 d6
    obtain ⟨s3, g3, rows3, f4, f5', q3, x3, H3, l3, o3⟩ := ih (k + 1) (rows ++ [r]) s2 g2 (some (.int (k : Nat))) f5 (by omega) (by simp [hr]) H2 x2 (by rw [rowsOk_app, ok, Nat.zero_add, hr, hok]; rfl)
    refine ⟨s3, g3, rows3, f4, f5', ?_, x3, H3, l3, o3⟩
    have e0 : natsD (List.range' k (m + 1)) = .int (k : Nat) :: natsD (List.range' (k + 1) m) := by rw [List.range'_succ]; rfl
    rw [e0, forL_nx trivial (e' := [some (.ref h), d1, some (.int (many : Nat)), some (.ref n), some (.int (k : Nat)), f5, d6]) (st' := s2 ++ [O.lst ((rows ++ [r]).map rowD)] ++ g2)]
    · exact q3
    · show (Fl.nx _ _).seq _ = _
      rw [Fl.seq_nx]
      exact q
theorem e_net_of {st : Store} {h c : Nat} {cells : List Int} (H : Hnd st h c cells) (m : Nat) (hm : 0 < m) (hm2 : m ≤ 30) : ∃ (net : List Row) (st' : Store), m__law_net_of [.ref h, .int (m : Nat)] st = .ok (netD net) st' ∧ Stp st st' h c ∧ Hnd st' h c cells ∧ NetOk net := by
  obtain ⟨k, s1, hk, q, x, H1⟩ := draw' H m hm (by omega)
  have hadd : addD (.int 1) (.int (k : Nat)) s1 = some (.int ((1 + k : Nat) : Int), s1) := by rw [addI]; congr 3
  have n1 : s1.length = st.length := x.len
  have hnew : ∀ e : Py.Loc, mLst mNil e s1 = .ok (.ref st.length) (s1 ++ [O.lst (([] : List Row).map rowD)]) := fun e => by rw [← n1]; exact lst_of rfl (by simp)
  obtain ⟨s2, g2, rows, f4, f5, q2, x2, H2, l2, o2⟩ := nloopD (st := st) (h := h) (c := c) (cells := cells) rfl (many := 1 + k) (by omega) (some (.int (m : Nat))) none (1 + k) 0 [] s1 [] none none (by omega) rfl H1 x rfl
  rw [List.append_nil] at q2
  rw [← List.range_eq_range'] at q2
  have n2 : st.length = s2.length := by rw [x2.len]
  have hg : tupD [.ref st.length] (s2 ++ [O.lst (rows.map rowD)] ++ g2) = some (netD rows, s2 ++ [O.lst (rows.map rowD)] ++ g2) := by
    have : getL (s2 ++ [O.lst (rows.map rowD)] ++ g2) st.length = some (rows.map rowD) := by rw [n2]; exact getL_at at_mid
    simp only [tupD, this]; rfl
  refine ⟨rows, s2, run_stp (g := [O.lst (rows.map rowD)] ++ g2) (s' := s2 ++ [O.lst (rows.map rowD)] ++ g2) H x2 ?_ (by simp) (flat_net rows), x2, H2, ⟨by omega, by omega, by rw [l2]; exact o2⟩⟩
  exact seq_nx (par2_of (op2_of rfl (call_of (two_of (var_of rfl) (var_of rfl)) q) hadd) (hnew _)) (seq_nx (for_of (rgs_of (one_of (var_of rfl)) (rg1 (1 + k) (by omega))) q2) (seq_rt (ret_of (opN_of (f := tupD) (one_of (var_of rfl)) hg))))
end K99

set_option Elab.async false
set_option linter.all false
set_option maxRecDepth 100000
set_option maxHeartbeats 4000000
set_option exponentiation.threshold 10000
namespace K99
open Py L2 PySem PySem.Spec PyProof.Rows
variable [Tb]
/-! ### sorting -/
def trD (l : List Int) : D := .tup (intsD l)
def trP (l : List Int) : PyData := .tuple (l.map .int)
def le3 (a b : List Int) : Bool := PySem.W.dataLe false (fun (p : D × PyData) => p.2) (trD a, trP a) (trD b, trP b)
def le1 (a b : Int) : Bool := PySem.W.dataLe false (fun (p : D × PyData) => p.2) (.int a, .int a) (.int b, .int b)
theorem tot3 : PySem.W.TotalLe le3 where
  trans a b c h1 h2 := (PySem.W.sortLe_total (PyProof.Rows.listOrd PyProof.Rows.itemOrd) false fun (p : D × PyData) => PySem.W.keyToks p.2).trans (trD a, trP a) (trD b, trP b) (trD c, trP c) h1 h2
  total a b := (PySem.W.sortLe_total (PyProof.Rows.listOrd PyProof.Rows.itemOrd) false fun (p : D × PyData) => PySem.W.keyToks p.2).total (trD a, trP a) (trD b, trP b)
theorem tot1 : PySem.W.TotalLe le1 where
  trans a b c h1 h2 := (PySem.W.sortLe_total (PyProof.Rows.listOrd PyProof.Rows.itemOrd) false fun (p : D × PyData) => PySem.W.keyToks p.2).trans (.int a, .int a) (.int b, .int b) (.int c, .int c) h1 h2
  total a b := (PySem.W.sortLe_total (PyProof.Rows.listOrd PyProof.Rows.itemOrd) false fun (p : D × PyData) => PySem.W.keyToks p.2).total (.int a, .int a) (.int b, .int b)
theorem le1_eq (a b : Int) : le1 a b = decide (a ≤ b) := by
  have e : le1 a b = !(decide (b < a) || (!decide (a < b) && false)) := rfl
  rw [e]
  simp only [Bool.and_false, Bool.or_false]
  by_cases h : b < a
  · simp [h]
  · simp [h]; omega
theorem sort_is {α : Type} {le : α → α → Bool} (t : PySem.W.TotalLe le) {l T : List α} (hp : T.Perm l) (hs : T.Pairwise fun a b => le a b = true) (ha : ∀ a ∈ T, ∀ b ∈ T, le a b = true → le b a = true → a = b) : l.mergeSort le = T := by
  have h1 := List.pairwise_mergeSort (le := le) (fun a b c => t.trans a b c) (fun a b => by rcases t.total a b with h | h <;> simp [h]) l
  have h2 := (List.mergeSort_perm l le).trans hp.symm
  exact h2.eq_of_pairwise (fun a b h3 h4 h5 h6 => ha a (h2.subset h3) b h4 h5 h6) h1 hs
theorem pys_tr (st : Store) (ls : List (List Int)) : pysOf st (ls.map trD) = some (ls.map fun l => (trD l, trP l)) := by
  induction ls with
  | nil => rfl
  | cons l ls ih =>
    have e : toPy st (trD l) = some (trP l) := by
      show toPy st (.tup (intsD l)) = _
      simp only [toPy, pyG, pyGs_ints]
      rfl
    simp only [List.map_cons, pysOf, e, ih]
theorem sort_tr {st : Store} {n : Nat} {ls T : List (List Int)} (h : getL st n = some (ls.map trD)) (hl : ls.length ≤ 10000) (hp : T.Perm ls) (hs : T.Pairwise fun a b => le3 a b = true) (ha : ∀ a ∈ T, ∀ b ∈ T, le3 a b = true → le3 b a = true → a = b) : sortD [.ref n] st = some (.ref st.length, st ++ [.lst (T.map trD)]) := by
  have hm := List.map_mergeSort (r := le3) (s := PySem.W.dataLe false fun (p : D × PyData) => p.2) (f := fun l => (trD l, trP l)) (l := ls) (fun a _ b _ => rfl)
  have hS : Sorts (ls.map fun l => (trD l, trP l)) := by
    refine ⟨?_, .inl fun p hp => ?_, fun p hp => ?_, ?_⟩
    · rw [List.map_map]
      refine PySem.W.AllAlike.of fun l l' => ?_
      show PySem.W.alike (.tuple (l.map .int)) (.tuple (l'.map .int)) = true
      simp only [PySem.W.alike]
      exact PySem.W.alike_ints _ _
    · obtain ⟨l, _, rfl⟩ := List.mem_map.mp hp; exact ⟨_, rfl⟩
    · obtain ⟨l, _, rfl⟩ := List.mem_map.mp hp
      have : PyData.depthAll (l.map .int) = 0 := PySem.W.depth_ints _
      show (PyData.tuple (l.map .int)).depth ≤ 64
      simp only [PyData.depth, this]
      omega
    · rw [List.length_map]; exact le_size (by omega)
  unfold sortD
  simp only [h, pys_tr]
  rw [if_pos hS]
  congr 4
  unfold sortP
  rw [← hm, List.map_map, sort_is tot3 hp hs ha]
  rfl
theorem pys_int (st : Store) (ls : List Int) : pysOf st (intsD ls) = some (ls.map fun l => (.int l, .int l)) := by
  unfold intsD
  induction ls with
  | nil => rfl
  | cons l ls ih =>
    have e : toPy st (.int l) = some (.int l) := rfl
    simp only [List.map_cons, pysOf, e, ih]
theorem sort_two {st : Store} {n : Nat} {a b : Nat} (h : getL st n = some [.int (a : Nat), .int (b : Nat)]) : sortD [.ref n] st = some (.ref st.length, st ++ [.lst (natsD [min a b, max a b])]) := by
  have hm := List.map_mergeSort (r := le1) (s := PySem.W.dataLe false fun (p : D × PyData) => p.2) (f := fun l => ((D.int l, PyData.int l) : D × PyData)) (l := [(a : Int), (b : Int)]) (fun a _ b _ => rfl)
  have hS : Sorts (([(a : Int), (b : Int)]).map fun l => (D.int l, PyData.int l)) := by
    refine ⟨?_, .inr fun p hp => ?_, fun p hp => ?_, ?_⟩
    · rw [List.map_map]
      exact PySem.W.AllAlike.of fun l l' => rfl
    · obtain ⟨l, _, rfl⟩ := List.mem_map.mp hp; exact ⟨(fun z => nomatch z), fun xs z => nomatch z⟩
    · obtain ⟨l, _, rfl⟩ := List.mem_map.mp hp
      show (PyData.int l).depth ≤ 64
      simp only [PyData.depth]
      omega
    · rw [List.length_map]; exact le_size (by simp)
  have h' : getL st n = some (intsD [(a : Int), (b : Int)]) := h
  have key : ([(a : Int), (b : Int)]).mergeSort le1 = [((min a b : Nat) : Int), ((max a b : Nat) : Int)] := by
    by_cases c : a ≤ b
    · rw [Nat.min_eq_left c, Nat.max_eq_right c]
      refine sort_is tot1 (.refl _) ?_ ?_
      · simp only [List.pairwise_cons, List.mem_singleton, forall_eq, le1_eq, decide_eq_true_eq]
        exact ⟨by omega, by simp⟩
      · intro x _ y _ h1 h2
        rw [le1_eq, decide_eq_true_eq] at h1 h2
        omega
    · rw [Nat.min_eq_right (by omega), Nat.max_eq_left (by omega)]
      refine sort_is tot1 (.swap _ _ _) ?_ ?_
      · simp only [List.pairwise_cons, List.mem_singleton, forall_eq, le1_eq, decide_eq_true_eq]
        exact ⟨by omega, by simp⟩
      · intro x _ y _ h1 h2
        rw [le1_eq, decide_eq_true_eq] at h1 h2
        omega
  unfold sortD
  simp only [h', pys_int]
  rw [if_pos hS]
  congr 4
  unfold sortP
  rw [← hm, List.map_map, key]
  rfl
/-! ### the program's ladder -/
def K0 (m : Nat) : List (Int × Int) := (List.range (2 * m)).flatMap fun t => (List.range (m + 1)).map fun u => (((u : Nat) : Int), ((t : Nat) : Int) - ((u : Nat) : Int))
def K1 (m : Nat) : List (Int × Int) := (K0 m).filter fun p => decide (0 ≤ p.2) && decide (p.2 ≤ ((m : Nat) : Int))
def prD (p : Int × Int) : D := .tup [.int p.1, .int p.2]
def ladRow (m : Nat) (K : List (Int × Int)) (p : Int × Int) : Option Row :=
  if p.1 = (m : Nat) then some (.fin true) else if p.2 = (m : Nat) then some (.fin false) else
    match K.findIdx? (fun q => decide (q = (p.1 + 1, p.2))), K.findIdx? (fun q => decide (q = (p.1, p.2 + 1))) with
    | some i, some j => some (.to [min i j, max i j])
    | _, _ => none
theorem py_prs (f : Nat → Option PyData) (K : List (Int × Int)) : pyGs f (K.map prD) = some (K.map fun p => .tuple [.int p.1, .int p.2]) := by
  induction K with
  | nil => rfl
  | cons p K ih => simp only [List.map_cons, pyGs, prD, pyG, ih]
theorem shaped_prs (K : List (Int × Int)) : SeqAt.shaped (.list (K.map fun p => .tuple [.int p.1, .int p.2])) = true := by
  have h1 : PyData.canLayAll0 (K.map fun p => .tuple [.int p.1, .int p.2]) = true := by
    induction K with
    | nil => rfl
    | cons p K ih => simp only [List.map_cons, PyData.canLayAll0, ih, PyData.canLay0]; rfl
  have h2 : PyData.depthAll (K.map fun p => .tuple [.int p.1, .int p.2]) ≤ 1 := by
    induction K with
    | nil => decide
    | cons p K ih =>
      have h1' : PyData.canLayAll0 (K.map fun p => PyData.tuple [.int p.1, .int p.2]) = true := by
        simp only [List.map_cons, PyData.canLayAll0, Bool.and_eq_true] at h1
        exact h1.2
      have := ih h1'
      simp only [List.map_cons, PyData.depthAll, PyData.depth]
      omega
  have h3 : (PyData.list (K.map fun p => .tuple [.int p.1, .int p.2])).depth ≤ 64 := by simp only [PyData.depth]; omega
  simp only [SeqAt.shaped, PyData.canLay0, h1, Bool.true_and, decide_eq_true_eq]
  exact h3
theorem idx_of {st : Store} {n : Nat} {K : List (Int × Int)} {q : Int × Int} {j : Nat} (hn : st[n]? = some (.lst (K.map prD))) (hj : K.findIdx? (fun p => decide (p = q)) = some j) : idxD (.ref n) [prD q] st = some (.int (j : Nat), st) := by
  have e1 : toPy st (.ref n) = some (.list (K.map fun p => .tuple [.int p.1, .int p.2])) := by
    show pyR st (7 + 1) n = _
    simp only [pyR, getL_at hn, py_prs]
  have e2 : toPy st (prD q) = some (.tuple [.int q.1, .int q.2]) := rfl
  have e3 : (K.map fun p => PyData.tuple [.int p.1, .int p.2]).findIdx? (fun z => PyData.eqv z (.tuple [.int q.1, .int q.2])) = some j := by
    rw [List.findIdx?_map]
    have : ((fun z => PyData.eqv z (.tuple [.int q.1, .int q.2])) ∘ fun p : Int × Int => PyData.tuple [.int p.1, .int p.2]) = fun p => decide (p = q) := by
      funext p
      have beqd : ∀ a b : Int, (a == b) = decide (a = b) := fun a b => by by_cases h : a = b <;> simp [h]
      simp only [Function.comp, PyData.eqv, PyData.eqvAll, beqd, Bool.and_true]
      by_cases h : p = q
      · subst h; simp
      · have : ¬ (p.1 = q.1 ∧ p.2 = q.2) := fun z => h (Prod.ext z.1 z.2)
        rw [decide_eq_false h]
        by_cases h1 : p.1 = q.1
        · have h2 : ¬ p.2 = q.2 := fun z => this ⟨h1, z⟩
          simp [h1, h2]
        · simp [h1]
    rw [this, hj]
  unfold idxD
  simp only [e1, e2, e3]
  rw [if_pos ⟨shaped_prs K, rfl⟩]
noncomputable abbrev ladB : Py.Loc → Store → Fl := (sSeq (sIf (mOr (asB (mOp2 eqD (mVar 3) (mVar 0))) (asB (mOp2 eqD (mVar 4) (mVar 0)))) (sSeq (sExp (mMt appD (mVar 1) (mCons (mIf (asB (mOp2 eqD (mVar 3) (mVar 0))) (mC (.str "goal")) (mC (.str "lost"))) mNil))) (fun e st => .nx e st)) (sSeq (sExp (mMt appD (mVar 1) (mCons (mOpN tupD (mCons (mOpN sortD (mCons (mLst (mCons (mMt idxD (mVar 2) (mCons (mTup (mCons (mOp2 addD (mVar 3) (mC (.int 1))) (mCons (mVar 4) mNil))) mNil)) (mCons (mMt idxD (mVar 2) (mCons (mTup (mCons (mVar 3) (mCons (mOp2 addD (mVar 4) (mC (.int 1))) mNil))) mNil)) mNil))) mNil)) mNil)) mNil))) (fun e st => .nx e st))) (fun e st => .nx e st))
theorem lad_step {st g : Store} {n m : Nat} {K : List (Int × Int)} {p : Int × Int} {r : Row} {L : List D} (hL : L.length ≤ 1000) (hn : (st ++ [O.lst L] ++ g)[n]? = some (.lst (K.map prD))) (hne : n ≠ st.length) (hr : ladRow m K p = some r) (d5 d6 : Option D) :
    ∃ g', ladB [some (.int (m : Nat)), some (.ref st.length), some (.ref n), some (.int p.1), some (.int p.2), d5, d6] (st ++ [O.lst L] ++ g) = .nx [some (.int (m : Nat)), some (.ref st.length), some (.ref n), some (.int p.1), some (.int p.2), d5, d6] (st ++ [O.lst (L ++ [rowD r])] ++ (g ++ g')) := by
  obtain ⟨S, hS⟩ : ∃ S, S = st ++ [O.lst L] ++ g := ⟨_, rfl⟩
  have h1 := asB_ok (op2_of (f := eqD) (var_of (i := 3) (e := [some (.int (m : Nat)), some (.ref st.length), some (.ref n), some (.int p.1), some (.int p.2), d5, d6]) (st := S) rfl) (var_of (i := 0) rfl) eqI)
  have h2 := asB_ok (op2_of (f := eqD) (var_of (i := 4) (e := [some (.int (m : Nat)), some (.ref st.length), some (.ref n), some (.int p.1), some (.int p.2), d5, d6]) (st := S) rfl) (var_of (i := 0) rfl) eqI)
  have hil : isLst (.ref st.length) S = true := by rw [hS]; exact isL_mid
  have hap : ∀ r : Row, appD (.ref st.length) [rowD r] S = some (.non, st ++ [O.lst (L ++ [rowD r])] ++ (g ++ [])) := fun r => by rw [hS, List.append_nil]; exact app_mid (by omega)
  unfold ladRow at hr
  rw [← hS] at hn ⊢
  by_cases c1 : p.1 = (m : Nat)
  · rw [decide_eq_true c1] at h1
    rw [if_pos c1] at hr
    cases hr
    exact ⟨[], seq_nx (if_t (or_t h1) (seq_nx (exp_of (mt_of (f := appD) (var_of rfl) hil (one_of (ifx_t (k := true) h1 rfl)) (hap (.fin true)))) rfl)) rfl⟩
  · rw [decide_eq_false c1] at h1
    rw [if_neg c1] at hr
    by_cases c2 : p.2 = (m : Nat)
    · rw [decide_eq_true c2] at h2
      rw [if_pos c2] at hr
      cases hr
      exact ⟨[], seq_nx (if_t (or_f h1 h2) (seq_nx (exp_of (mt_of (f := appD) (var_of rfl) hil (one_of (ifx_f (k := true) h1 rfl)) (hap (.fin false)))) rfl)) rfl⟩
    · rw [decide_eq_false c2] at h2
      rw [if_neg c2] at hr
      split at hr
      · rename_i i j e1 e2
        cases hr
        have i1 := idx_of hn e1
        have i2 := idx_of hn e2
        have hiln : isLst (.ref n) S = true := by simp only [isLst, hn]
        have hls : mLst (mCons (mMt idxD (mVar 2) (mCons (mTup (mCons (mOp2 addD (mVar 3) (mC (.int 1))) (mCons (mVar 4) mNil))) mNil)) (mCons (mMt idxD (mVar 2) (mCons (mTup (mCons (mVar 3) (mCons (mOp2 addD (mVar 4) (mC (.int 1))) mNil))) mNil)) mNil)) [some (.int (m : Nat)), some (.ref st.length), some (.ref n), some (.int p.1), some (.int p.2), d5, d6] S = .ok (.ref S.length) (S ++ [O.lst [.int (i : Nat), .int (j : Nat)]]) :=
          lst_of (two_of (mt_of (f := idxD) (var_of rfl) hiln (one_of (tup_of (two_of (op2_of (var_of rfl) rfl addI) (var_of rfl)) (by simp))) i1) (mt_of (f := idxD) (var_of rfl) hiln (one_of (tup_of (two_of (var_of rfl) (op2_of (var_of rfl) rfl addI)) (by simp))) i2)) (by simp)
        have hso := sort_two (st := S ++ [O.lst [.int (i : Nat), .int (j : Nat)]]) (n := S.length) (a := i) (b := j) getL_new
        obtain ⟨S2, hS2⟩ : ∃ S2, S2 = S ++ [O.lst [.int (i : Nat), .int (j : Nat)]] ++ [.lst (natsD [min i j, max i j])] := ⟨_, rfl⟩
        rw [← hS2] at hso
        have htu : tupD [.ref (S ++ [O.lst [.int (i : Nat), .int (j : Nat)]]).length] S2 = some (rowD (.to [min i j, max i j]), S2) := by
          have : getL S2 (S ++ [O.lst [.int (i : Nat), .int (j : Nat)]]).length = some (natsD [min i j, max i j]) := by rw [hS2]; exact getL_new
          simp only [tupD, this, row_to]
        refine ⟨[O.lst [.int (i : Nat), .int (j : Nat)]] ++ [.lst (natsD [min i j, max i j])], seq_nx (if_f (or_f h1 h2) (seq_nx (exp_of (mt_of (f := appD) (c := .non) (var_of rfl) hil (one_of (opN_of (f := tupD) (one_of (opN_of (f := sortD) (one_of hls) hso)) htu)) ?_)) rfl)) rfl⟩
        have eS : S2 = st ++ [O.lst L] ++ (g ++ ([O.lst [.int (i : Nat), .int (j : Nat)]] ++ [.lst (natsD [min i j, max i j])])) := by rw [hS2, hS]; simp
        rw [eS]
        exact app_mid (by omega)
      · cases hr
theorem lad_loop {st : Store} {n m : Nat} {K : List (Int × Int)} (hne : n ≠ st.length) (d5 d6 : Option D) : ∀ (ps : List (Int × Int)) (L : List Row) (g : Store) (d3 d4 : Option D), L.length + ps.length ≤ 1000 → (st ++ [O.lst (L.map rowD)] ++ g)[n]? = some (.lst (K.map prD)) → n < (st ++ [O.lst (L.map rowD)] ++ g).length → ∀ R : List Row, ps.map (ladRow m K) = R.map some →
    ∃ (g' : Store) (d3' d4' : Option D), forL (stillD (.ref n) (K.map prD)) (fun d e st => ((gTp 2 (gCn (gN 3) (gCn (gN 4) gNl))) d e st).seq ladB) (ps.map prD) [some (.int (m : Nat)), some (.ref st.length), some (.ref n), d3, d4, d5, d6] (st ++ [O.lst (L.map rowD)] ++ g) = .nx [some (.int (m : Nat)), some (.ref st.length), some (.ref n), d3', d4', d5, d6] (st ++ [O.lst ((L ++ R).map rowD)] ++ g') := by
  intro ps
  induction ps with
  | nil =>
    intro L g d3 d4 _ hn _ R hR
    cases R with
    | nil => exact ⟨g, d3, d4, by rw [List.append_nil]; exact forL_nil (getL_at hn)⟩
    | cons a b => cases hR
  | cons p ps ih =>
    intro L g d3 d4 hl hn hlt R hR
    cases R with
    | nil => cases hR
    | cons r R =>
      simp only [List.map_cons, List.cons.injEq] at hR
      simp only [List.length_cons] at hl
      obtain ⟨g1, q⟩ := lad_step (L := L.map rowD) (by rw [List.length_map]; omega) hn hne hR.1 d5 d6
      have eL : L.map rowD ++ [rowD r] = (L ++ [r]).map rowD := by simp
      rw [eL] at q
      have hn2 : (st ++ [O.lst ((L ++ [r]).map rowD)] ++ (g ++ g1))[n]? = some (.lst (K.map prD)) := by
        have e1 : st ++ [O.lst ((L ++ [r]).map rowD)] ++ (g ++ g1) = (st ++ [O.lst ((L ++ [r]).map rowD)] ++ g) ++ g1 := by simp
        have e2 : st ++ [O.lst ((L ++ [r]).map rowD)] ++ g = (st ++ [O.lst (L.map rowD)] ++ g).set st.length (O.lst ((L ++ [r]).map rowD)) := set_mid.symm
        rw [e1, List.getElem?_append_left (by rw [e2, List.length_set]; exact hlt), e2, List.getElem?_set_ne (fun z => hne z.symm)]
        exact hn
      obtain ⟨g2, f3, f4, q2⟩ := ih (L ++ [r]) (g ++ g1) (some (.int p.1)) (some (.int p.2)) (by simp; omega) hn2 (by simp at hlt ⊢; omega) R hR.2
      refine ⟨g2, f3, f4, ?_⟩
      have e9 : (L ++ [r]) ++ R = L ++ r :: R := by simp
      rw [e9] at q2
      rw [List.map_cons, forL_nx (e' := [some (.int (m : Nat)), some (.ref st.length), some (.ref n), some (.int p.1), some (.int p.2), d5, d6]) (st' := st ++ [O.lst ((L ++ [r]).map rowD)] ++ (g ++ g1)) (getL_at hn)]
      · exact q2
      · show (Fl.nx _ _).seq _ = _
        rw [Fl.seq_nx]
        exact q
theorem e_ladder {m : Nat} (h1 : 1 ≤ m) (h5 : m ≤ 5) {R : List Row} (hR : (K1 m).map (ladRow m (K1 m)) = R.map some) (st : Store) : m_ladder [.int (m : Nat)] st = .ok (netD R) st := by
  have hw := e_within (m : Nat) 1 5 st
  rw [decide_eq_true (show (1 : Int) ≤ ((m : Nat) : Int) by omega), decide_eq_true (show ((m : Nat) : Int) ≤ 5 by omega)] at hw
  have hK0 : (K0 m).length ≤ 1000 := by
    have hm : m = 1 ∨ m = 2 ∨ m = 3 ∨ m = 4 ∨ m = 5 := by omega
    clear hR hw
    rcases hm with rfl | rfl | rfl | rfl | rfl <;> decide +kernel
  have hK1 : (K1 m).length ≤ 1000 := Nat.le_trans (List.length_filter_le _ _) hK0
  obtain ⟨E, hE⟩ : ∃ E : Py.Loc, E = [some (.int (m : Nat)), none, none, none, none, none, none] := ⟨_, rfl⟩
  have hmul : ∀ S, mulD (.int 2) (.int (m : Nat)) S = some (.int ((2 * m : Nat) : Int), S) := fun S => by rw [mulI (mul_smallL (by omega) (by omega))]; rfl
  have hadd : ∀ S, addD (.int (m : Nat)) (.int 1) S = some (.int ((m + 1 : Nat) : Int), S) := fun S => by rw [addI]; rfl
  have hl2 : mLc2 (mRgs (mCons (mOp2 mulD (mC (.int 2)) (mVar 0)) mNil)) (.nm 5) mYes (mRgs (mCons (mOp2 addD (mVar 0) (mC (.int 1))) mNil)) (.nm 3) mYes (mTup (mCons (mVar 3) (mCons (mOp2 subD (mVar 5) (mVar 3)) mNil))) [5, 3] [3] E (st ++ [O.lst []]) = .ok (.ref (st ++ [O.lst []]).length) (st ++ [O.lst []] ++ [O.lst ((K0 m).map prD)]) := by
    have e0 : (K0 m).map prD = (List.range (2 * m)).flatMap fun t => (List.range (m + 1)).map fun u => D.tup [.int ((u : Nat) : Int), .int (((t : Nat) : Int) - ((u : Nat) : Int))] := by
      unfold K0
      rw [List.map_flatMap]
      congr 1
      funext t
      rw [List.map_map]
      rfl
    rw [e0, hE]
    refine mLc2_nats (ns := List.range (2 * m)) (still := fun _ => True) (fun _ => List.range (m + 1)) (fun t u => D.tup [.int ((u : Nat) : Int), .int (((t : Nat) : Int) - ((u : Nat) : Int))]) (rgs_of (one_of (op2_of rfl (var_of rfl) (hmul _))) (rg1 (2 * m) (by omega))) trivial (fun n _ => by simp; omega) ?_ fun t ht => ⟨[some (.int (m : Nat)), none, none, none, none, some (.int (t : Nat)), none], rfl, rgs_of (one_of (op2_of (var_of rfl) rfl (hadd _))) (rg1 (m + 1) (by omega)), fun u hu => ⟨[some (.int (m : Nat)), none, none, some (.int (u : Nat)), none, some (.int (t : Nat)), none], rfl, tup_of (two_of (var_of rfl) (op2_of (var_of rfl) (var_of rfl) subI)) (by simp), rfl⟩⟩
    have hm : m = 1 ∨ m = 2 ∨ m = 3 ∨ m = 4 ∨ m = 5 := by omega
    rcases hm with rfl | rfl | rfl | rfl | rfl <;> decide +kernel
  obtain ⟨S1, hS1⟩ : ∃ S1, S1 = st ++ [O.lst []] ++ [O.lst ((K0 m).map prD)] := ⟨_, rfl⟩
  rw [← hS1] at hl2
  have hg1 : getL S1 (st ++ [O.lst []]).length = some ((K0 m).map prD) := by rw [hS1]; exact getL_new
  have hl3 : mLc (mIt (mVar 2)) (.nm 6) (asB (mChain leD leD (mC (.int 0)) (mOp2 ixD (mVar 6) (mC (.int 1))) (mVar 0))) (mVar 6) [6] [some (.int (m : Nat)), some (.ref st.length), some (.ref (st ++ [O.lst []]).length), none, none, none, none] S1 = .ok (.ref S1.length) (S1 ++ [O.lst ((K1 m).map prD)]) := by
    have e1 : (K1 m).map prD = ((K0 m).map prD).filterMap fun d => match d with | .tup [.int a, .int b] => if (decide (0 ≤ b) && decide (b ≤ ((m : Nat) : Int))) = true then some (.tup [.int a, .int b]) else none | _ => none := by
      unfold K1
      generalize K0 m = K
      induction K with
      | nil => rfl
      | cons p K ih =>
        rw [List.filter_cons, List.map_cons, List.filterMap_cons]
        by_cases c : (decide (0 ≤ p.2) && decide (p.2 ≤ ((m : Nat) : Int))) = true
        · rw [if_pos c, List.map_cons, ih]
          simp [prD, c]
        · rw [if_neg c, ih]
          simp [prD, c]
    rw [e1]
    refine mLc_of (it := ⟨(K0 m).map prD, stillD (.ref (st ++ [O.lst []]).length) ((K0 m).map prD)⟩) _ (it_of (var_of rfl) (itD_seq (show seqOf (.ref (st ++ [O.lst []]).length) S1 = some ((K0 m).map prD) from hg1))) (stillD_of (show seqOf (.ref (st ++ [O.lst []]).length) S1 = some ((K0 m).map prD) from hg1)) (by simp only [List.length_map]; exact le_size (by omega)) fun d hd => ?_
    obtain ⟨p, _, rfl⟩ := List.mem_map.mp hd
    have key : mChain leD leD (mC (.int 0)) (mOp2 ixD (mVar 6) (mC (.int 1))) (mVar 0) [some (.int (m : Nat)), some (.ref st.length), some (.ref (st ++ [O.lst []]).length), none, none, none, some (prD p)] S1 = .ok (.bl (decide (0 ≤ p.2) && decide (p.2 ≤ ((m : Nat) : Int)))) S1 := by
      have i1 : ixD (prD p) (.int 1) S1 = some (.int p.2, S1) := rfl
      unfold mChain
      rw [x_c]
      simp only [Py.R.bind_ok]
      rw [op2_of (f := ixD) (var_of (i := 6) (d := prD p) rfl) (x_c (.int 1)) i1]
      simp only [Py.R.bind_ok, leI, ofO_some]
      by_cases c : (0 : Int) ≤ p.2
      · simp only [c, decide_true, Bool.true_and]
        rw [var_of (i := 0) (d := .int (m : Nat)) rfl]
        simp only [Py.R.bind_ok, leI, ofO_some]
      · simp only [c, decide_false, Bool.false_and]
    cases hb : (decide (0 ≤ p.2) && decide (p.2 ≤ ((m : Nat) : Int))) with
    | true =>
      rw [hb] at key
      have e2 : (match prD p with | .tup [.int a, .int b] => if (decide (0 ≤ b) && decide (b ≤ ((m : Nat) : Int))) = true then some (D.tup [.int a, .int b]) else none | _ => none) = some (prD p) := by simp only [prD, hb, if_true]
      rw [e2]
      refine lcB_some (g := []) (e1 := [some (.int (m : Nat)), some (.ref st.length), some (.ref (st ++ [O.lst []]).length), none, none, none, some (prD p)]) rfl (asB_ok key) ?_ rfl
      rw [List.append_nil]
      exact var_of rfl
    | false =>
      rw [hb] at key
      have e2 : (match prD p with | .tup [.int a, .int b] => if (decide (0 ≤ b) && decide (b ≤ ((m : Nat) : Int))) = true then some (D.tup [.int a, .int b]) else none | _ => none) = none := by simp only [prD, hb]; rfl
      rw [e2]
      refine lcB_none (g := []) (e1 := [some (.int (m : Nat)), some (.ref st.length), some (.ref (st ++ [O.lst []]).length), none, none, none, some (prD p)]) rfl ?_
      rw [List.append_nil]
      exact asB_ok key
  obtain ⟨g0, hg0⟩ : ∃ g0 : Store, g0 = [O.lst ((K0 m).map prD)] ++ [O.lst ((K1 m).map prD)] := ⟨_, rfl⟩
  have eS : S1 ++ [O.lst ((K1 m).map prD)] = st ++ [O.lst (([] : List Row).map rowD)] ++ g0 := by rw [hS1, hg0]; simp
  have nS : S1.length = st.length + 2 := by rw [hS1]; simp
  have hat : (st ++ [O.lst (([] : List Row).map rowD)] ++ g0)[S1.length]? = some (.lst ((K1 m).map prD)) := by rw [← eS]; simp
  obtain ⟨g', f3, f4, hl⟩ := lad_loop (st := st) (n := S1.length) (m := m) (K := K1 m) (by omega) none none (K1 m) [] g0 none none (by simp; omega) hat (by rw [← eS]; simp) R hR
  rw [List.nil_append, ← eS] at hl
  have hg2 : getL (S1 ++ [O.lst ((K1 m).map prD)]) S1.length = some ((K1 m).map prD) := getL_new
  have hfin : tupD [.ref st.length] (st ++ [O.lst (R.map rowD)] ++ g') = some (netD R, st ++ [O.lst (R.map rowD)] ++ g') := by
    have : getL (st ++ [O.lst (R.map rowD)] ++ g') st.length = some (R.map rowD) := getL_at at_mid
    simp only [tupD, this]; rfl
  rw [hE] at hl2
  exact run_rtS (g := [O.lst (R.map rowD)] ++ g') (st' := st ++ [O.lst (R.map rowD)] ++ g') (seq_nx (if_f (not_of (k := true) (asB_ok (call_of (cons_of (var_of rfl) (two_of rfl rfl)) hw))) rfl) (seq_nx (par2_of (lst_of rfl (by simp)) hl2) (seq_nx (set_of hl3) (seq_nx (for_of (it_of (var_of rfl) (itD_seq (show seqOf (.ref S1.length) _ = some ((K1 m).map prD) from hg2))) hl) (seq_rt (ret_of (opN_of (f := tupD) (one_of (var_of rfl)) hfin))))))) (by simp) (flat_net R)
theorem e_ladder_bad {d : D} {st : Store} (h : m_is_within [d, .int 1, .int 5] st = .ok (.bl false) st) : m_ladder [d] st = .ex "BadNumber" [] st :=
  run_ex0 (seq_ex (by
    unfold sIf
    rw [not_of (k := false) (asB_ok (call_of (cons_of (var_of rfl) (two_of rfl rfl)) h))]
    simp only [R.to_ok, Bool.not_false, if_true]
    exact seq_ex raise_of))
end K99

set_option Elab.async false
set_option linter.all false
set_option maxRecDepth 100000
set_option maxHeartbeats 4000000
set_option exponentiation.threshold 10000
namespace K99
open Py L2 PySem PySem.Spec PyProof.Rows
variable [Tb]
/-! ### the law's ladder -/
abbrev Tri := Int × Int × Int
def tr (t : Tri) : List Int := [t.1, t.2.1, t.2.2]
def W (m w : Nat) : List (List Int) := ((List.range (m + 1)).filter fun l => decide (w + l < 2 * m)).map fun l => [((w : Nat) : Int) + ((l : Nat) : Int), ((w : Nat) : Int), ((l : Nat) : Int)]
def R0 (m : Nat) : List (List Int) := (List.range (m + 1)).flatMap (W m)
def T3 (m : Nat) : List Tri := (K1 m).map fun p => (p.1 + p.2, p.1, p.2)
/-! dicts by rows -/
theorem keyDs_ints (l : List Int) : keyDs (intsD l) = some (l.map Sum.inl) := by
  unfold intsD
  induction l with
  | nil => rfl
  | cons a l ih => simp only [List.map_cons, keyDs, keyD, ih]
theorem keyT_tr (l : List Int) : keyT (trD l) = some (l.map Sum.inl) := by
  show keyDs (intsD l) = _
  exact keyDs_ints l
theorem dk_tr (l : List Int) : dk (trD l) = some (.inr (l.map Sum.inl)) := dk_inr (keyT_tr l)
def kv (k : Nat) : List (List Int) → List (D × D)
  | [] => []
  | l :: ls => (trD l, .int (k : Nat)) :: kv (k + 1) ls
def spD (k : Nat) : List (List Int) → List D
  | [] => []
  | l :: ls => .tup [trD l, .int (k : Nat)] :: spD (k + 1) ls
theorem pairs_sp : ∀ (ls : List (List Int)) (k : Nat), pairsT (spD k ls) = some (kv k ls) := by
  intro ls
  induction ls with
  | nil => intro k; rfl
  | cons l ls ih => intro k; simp only [spD, pairsT, keyT_tr, ih, kv]
theorem inl_inj : ∀ {a b : List Int}, (a.map Sum.inl : List Key) = b.map Sum.inl → a = b := by
  intro a
  induction a with
  | nil =>
    intro b h
    cases b with
    | nil => rfl
    | cons y b => cases h
  | cons x a ih =>
    intro b h
    cases b with
    | nil => cases h
    | cons y b =>
      simp only [List.map_cons, List.cons.injEq] at h
      rw [Sum.inl.inj h.1, ih h.2]
theorem fold_kv : ∀ (ls : List (List Int)) (k : Nat) (acc : List (D × D)), ls.Nodup → (∀ p ∈ acc, ∀ l ∈ ls, dk p.1 ≠ some (.inr (l.map Sum.inl))) → foldT acc (kv k ls) = acc ++ kv k ls := by
  intro ls
  induction ls with
  | nil => intro k acc _ _; simp [kv, foldT]
  | cons l ls ih =>
    intro k acc hn h
    simp only [kv, foldT, keyT_tr]
    have hp : putD acc (trD l) (.inr (l.map Sum.inl)) (.int (k : Nat)) = acc ++ [(trD l, .int (k : Nat))] := by
      unfold putD
      rw [if_neg]
      intro z
      obtain ⟨p, hp, e⟩ := List.any_eq_true.mp z
      exact h p hp l List.mem_cons_self (of_decide_eq_true e)
    rw [hp, ih (k + 1) _ (List.nodup_cons.mp hn).2]
    · simp
    · intro p hp l' hl'
      rcases List.mem_append.mp hp with hp | hp
      · exact h p hp l' (List.mem_cons_of_mem _ hl')
      · simp only [List.mem_singleton] at hp
        subst hp
        rw [dk_tr]
        intro z
        have e : l = l' := inl_inj (by simpa using z)
        exact (List.nodup_cons.mp hn).1 (by rw [e]; exact hl')
theorem look_kv (q : List Int) : ∀ (ls : List (List Int)) (k : Nat), lookD (kv k ls) (.inr (q.map Sum.inl)) = (ls.findIdx? fun l => decide (l = q)).map fun j => .int ((k + j : Nat) : Int) := by
  intro ls
  induction ls with
  | nil => intro k; rfl
  | cons l ls ih =>
    intro k
    have ih' := ih (k + 1)
    unfold lookD at ih' ⊢
    simp only [kv, List.find?_cons, dk_tr, List.findIdx?_cons]
    by_cases h : l = q
    · subst h
      simp
    · have h2 : decide (some (Sum.inr (l.map Sum.inl) : DKey) = some (.inr (q.map Sum.inl))) = false := decide_eq_false fun z => h (inl_inj (by simpa using z))
      rw [h2, decide_eq_false h]
      simp only [ih', Bool.false_eq_true, if_false, Option.map_map]
      congr 1
      funext j
      simp only [Function.comp]
      congr 2
      omega
theorem allT_kv : ∀ (ls : List (List Int)) (k : Nat), allT (kv k ls) = true := by
  intro ls
  induction ls with
  | nil => intro k; rfl
  | cons l ls ih =>
    intro k
    have := ih (k + 1)
    unfold allT at this ⊢
    simp only [kv, List.all_cons, keyT_tr, this]; rfl
theorem spot_at {st : Store} {n : Nat} {ls : List (List Int)} {q : List Int} {j : Nat} (hn : st[n]? = some (.dict (kv 0 ls))) (hj : (ls.findIdx? fun l => decide (l = q)) = some j) : ixD (.ref n) (trD q) st = some (.int (j : Nat), st) := by
  have h1 := look_kv q ls 0
  rw [hj] at h1
  have h2 : fitsK (kv 0 ls) (.inr (q.map Sum.inl)) = true := allT_kv ls 0
  have h3 : ixD (.ref n) (trD q) st = (match dk (trD q) with | some k => if fitsK (kv 0 ls) k = true then (match lookD (kv 0 ls) k with | some d => some (d, st) | none => none) else none | none => none) := by
    show ixD (.ref n) (.tup (intsD q)) st = _
    simp only [ixD, hn]
    rfl
  rw [h3, dk_tr]
  simp only [h2, h1, if_true, Option.map_some, Nat.zero_add]
/-! all rounds, by those won -/
theorem w_lc {m w : Nat} (hm : m ≤ 1000) (hw : w ≤ 1000) (d1 d3 d4 d5 d7 d8 : Option D) (S : Store) : mLc (mRgs (mCons (mOp2 addD (mVar 0) (mC (.int 1))) mNil)) (.nm 6) (asB (mOp2 ltD (mOp2 addD (mVar 2) (mVar 6)) (mOp2 mulD (mC (.int 2)) (mVar 0)))) (mTup (mCons (mOp2 addD (mVar 2) (mVar 6)) (mCons (mVar 2) (mCons (mVar 6) mNil)))) [6] [some (.int (m : Nat)), d1, some (.int (w : Nat)), d3, d4, d5, none, d7, d8] S = .ok (.ref S.length) (S ++ [O.lst ((W m w).map trD)]) := by
  have hmul : ∀ S, mulD (.int 2) (.int (m : Nat)) S = some (.int ((2 * m : Nat) : Int), S) := fun S => by rw [mulI (mul_smallL (by omega) (by omega))]; rfl
  have hadd : ∀ S, addD (.int (m : Nat)) (.int 1) S = some (.int ((m + 1 : Nat) : Int), S) := fun S => by rw [addI]; rfl
  have e1 : (W m w).map trD = (natsD (List.range (m + 1))).filterMap fun d => match d with | .int l => if decide (((w : Nat) : Int) + l < ((2 * m : Nat) : Int)) = true then some (trD [((w : Nat) : Int) + l, ((w : Nat) : Int), l]) else none | _ => none := by
    unfold W natsD
    generalize List.range (m + 1) = L
    induction L with
    | nil => rfl
    | cons l L ih =>
      have e2 : decide (((w : Nat) : Int) + ((l : Nat) : Int) < ((2 * m : Nat) : Int)) = decide (w + l < 2 * m) := decide_eq_decide.mpr (by omega)
      rw [List.filter_cons, List.map_cons, List.filterMap_cons]
      simp only [e2]
      by_cases c : decide (w + l < 2 * m) = true
      · rw [if_pos c, if_pos c, List.map_cons, List.map_cons, ih]
      · rw [if_neg c, if_neg c, ih]
  rw [e1]
  refine mLc_of (it := ⟨natsD (List.range (m + 1)), fun _ => True⟩) _ (rgs_of (one_of (op2_of (var_of rfl) rfl (hadd _))) (rg1 (m + 1) (by omega))) trivial (by rw [natsD_len, List.length_range]; exact le_size (by omega)) fun d hd => ?_
  obtain ⟨l, _, rfl⟩ := List.mem_map.mp hd
  have ht := asB_ok (op2_of (f := ltD) (op2_of (f := addD) (var_of (i := 2) (e := [some (.int (m : Nat)), d1, some (.int (w : Nat)), d3, d4, d5, some (.int (l : Nat)), d7, d8]) (st := S) rfl) (var_of (i := 6) rfl) addI) (op2_of (f := mulD) (x_c (.int 2)) (var_of (i := 0) rfl) (hmul S)) ltI)
  by_cases c : ((w : Nat) : Int) + ((l : Nat) : Int) < ((2 * m : Nat) : Int)
  · rw [decide_eq_true c] at ht
    have e2 : (match (D.int ((l : Nat) : Int)) with | .int l => if decide (((w : Nat) : Int) + l < ((2 * m : Nat) : Int)) = true then some (trD [((w : Nat) : Int) + l, ((w : Nat) : Int), l]) else none | _ => none) = some (trD [((w : Nat) : Int) + ((l : Nat) : Int), ((w : Nat) : Int), ((l : Nat) : Int)]) := if_pos (decide_eq_true c)
    rw [e2]
    refine lcB_some (g := []) (e1 := [some (.int (m : Nat)), d1, some (.int (w : Nat)), d3, d4, d5, some (.int (l : Nat)), d7, d8]) rfl ht ?_ rfl
    rw [List.append_nil]
    exact tup_of (cons_of (op2_of (var_of rfl) (var_of rfl) addI) (two_of (var_of rfl) (var_of rfl))) (by simp [intsD])
  · rw [decide_eq_false c] at ht
    have e2 : (match (D.int ((l : Nat) : Int)) with | .int l => if decide (((w : Nat) : Int) + l < ((2 * m : Nat) : Int)) = true then some (trD [((w : Nat) : Int) + l, ((w : Nat) : Int), l]) else none | _ => none) = none := if_neg (by rw [decide_eq_false c]; decide)
    rw [e2]
    refine lcB_none (g := []) (e1 := [some (.int (m : Nat)), d1, some (.int (w : Nat)), d3, d4, d5, some (.int (l : Nat)), d7, d8]) rfl ?_
    rw [List.append_nil]
    exact ht
theorem ext_mid {st g : Store} {L M : List D} {m : Nat} (hm : (st ++ [O.lst L] ++ g)[m]? = some (.lst M)) (h : L.length + M.length ≤ 1000000) : extD (.ref st.length) [.ref m] (st ++ [O.lst L] ++ g) = some (.non, st ++ [O.lst (L ++ M)] ++ g) := by
  simp only [extD, at_mid, hm]
  rw [if_pos (by rw [sizeLine_eq]; omega), set_mid]
theorem W_len (m w : Nat) : (W m w).length ≤ m + 1 := by
  unfold W
  rw [List.length_map]
  exact Nat.le_trans (List.length_filter_le _ _) (by simp)
theorem w_loop {st : Store} {m : Nat} (hm : m ≤ 100) (d3 d4 d5 d7 d8 : Option D) : ∀ (ws : List Nat) (L : List (List Int)) (g : Store) (d2 : Option D), (∀ w ∈ ws, w ≤ 1000) → L.length + 101 * ws.length ≤ 100000 →
    ∃ (g' : Store) (d2' : Option D), forL (fun _ => True) (fun d e st => (gN 2 d e st).seq (sSeq (sExp (mMt extD (mVar 1) (mCons (mLc (mRgs (mCons (mOp2 addD (mVar 0) (mC (.int 1))) mNil)) (.nm 6) (asB (mOp2 ltD (mOp2 addD (mVar 2) (mVar 6)) (mOp2 mulD (mC (.int 2)) (mVar 0)))) (mTup (mCons (mOp2 addD (mVar 2) (mVar 6)) (mCons (mVar 2) (mCons (mVar 6) mNil)))) [6]) mNil))) (fun e st => .nx e st))) (natsD ws) [some (.int (m : Nat)), some (.ref st.length), d2, d3, d4, d5, none, d7, d8] (st ++ [O.lst (L.map trD)] ++ g) = .nx [some (.int (m : Nat)), some (.ref st.length), d2', d3, d4, d5, none, d7, d8] (st ++ [O.lst ((L ++ ws.flatMap (W m)).map trD)] ++ g') := by
  intro ws
  induction ws with
  | nil => exact fun L g d2 _ _ => ⟨g, d2, by rw [List.flatMap_nil, List.append_nil]; exact forL_nil trivial⟩
  | cons w ws ih =>
    intro L g d2 hw hl
    simp only [List.length_cons] at hl
    have hWl := W_len m w
    obtain ⟨g', d2', q⟩ := ih (L ++ W m w) (g ++ [O.lst ((W m w).map trD)]) (some (.int (w : Nat))) (fun w' hw' => hw w' (List.mem_cons_of_mem _ hw')) (by simp; omega)
    refine ⟨g', d2', ?_⟩
    have e0 : natsD (w :: ws) = .int (w : Nat) :: natsD ws := rfl
    have e1 : L ++ W m w ++ ws.flatMap (W m) = L ++ (w :: ws).flatMap (W m) := by simp
    rw [e1] at q
    rw [e0, forL_nx trivial (e' := [some (.int (m : Nat)), some (.ref st.length), some (.int (w : Nat)), d3, d4, d5, none, d7, d8]) (st' := st ++ [O.lst ((L ++ W m w).map trD)] ++ (g ++ [O.lst ((W m w).map trD)]))]
    · exact q
    · show (Fl.nx _ _).seq _ = _
      rw [Fl.seq_nx]
      have hlc := w_lc (m := m) (w := w) (by omega) (hw w List.mem_cons_self) (some (.ref st.length)) d3 d4 d5 d7 d8 (st ++ [O.lst (L.map trD)] ++ g)
      have eS : st ++ [O.lst (L.map trD)] ++ g ++ [O.lst ((W m w).map trD)] = st ++ [O.lst (L.map trD)] ++ (g ++ [O.lst ((W m w).map trD)]) := by simp
      have hex := ext_mid (st := st) (g := g ++ [O.lst ((W m w).map trD)]) (L := L.map trD) (M := (W m w).map trD) (m := (st ++ [O.lst (L.map trD)] ++ g).length) (by rw [← eS]; simp) (by simp; omega)
      rw [← eS, ← List.map_append] at hex
      exact seq_nx (exp_of (mt_of (f := extD) (var_of rfl) isL_mid (one_of hlc) hex)) rfl
/-! the rows -/
def lawRow (m : Nat) (T : List (List Int)) (t : Tri) : Option Row :=
  if t.2.1 = (m : Nat) then some (.fin true) else if t.2.2 = (m : Nat) then some (.fin false) else
    match T.findIdx? (fun l => decide (l = [t.1 + 1, t.2.1 + 1, t.2.2])), T.findIdx? (fun l => decide (l = [t.1 + 1, t.2.1, t.2.2 + 1])) with
    | some i, some j => some (.to [min i j, max i j])
    | _, _ => none
noncomputable abbrev llB : Py.Loc → Store → Fl := (sSeq (sIf (mOr (asB (mOp2 eqD (mVar 2) (mVar 0))) (asB (mOp2 eqD (mVar 6) (mVar 0)))) (sSeq (sExp (mMt appD (mVar 3) (mCons (mIf (asB (mOp2 eqD (mVar 2) (mVar 0))) (mC (.str "goal")) (mC (.str "lost"))) mNil))) (fun e st => .nx e st)) (sSeq (sExp (mMt appD (mVar 3) (mCons (mOpN tupD (mCons (mOpN sortD (mCons (mLst (mCons (mOp2 ixD (mVar 4) (mTup (mCons (mOp2 addD (mVar 5) (mC (.int 1))) (mCons (mOp2 addD (mVar 2) (mC (.int 1))) (mCons (mVar 6) mNil))))) (mCons (mOp2 ixD (mVar 4) (mTup (mCons (mOp2 addD (mVar 5) (mC (.int 1))) (mCons (mVar 2) (mCons (mOp2 addD (mVar 6) (mC (.int 1))) mNil))))) mNil))) mNil)) mNil)) mNil))) (fun e st => .nx e st))) (fun e st => .nx e st))
theorem ll_step {st g : Store} {ns m : Nat} {T : List (List Int)} {t : Tri} {r : Row} {L : List D} (hL : L.length ≤ 1000) (hn : (st ++ [O.lst L] ++ g)[ns]? = some (.dict (kv 0 T))) (hr : lawRow m T t = some r) (d1 d7 d8 : Option D) :
    ∃ g', llB [some (.int (m : Nat)), d1, some (.int t.2.1), some (.ref st.length), some (.ref ns), some (.int t.1), some (.int t.2.2), d7, d8] (st ++ [O.lst L] ++ g) = .nx [some (.int (m : Nat)), d1, some (.int t.2.1), some (.ref st.length), some (.ref ns), some (.int t.1), some (.int t.2.2), d7, d8] (st ++ [O.lst (L ++ [rowD r])] ++ (g ++ g')) := by
  obtain ⟨S, hS⟩ : ∃ S, S = st ++ [O.lst L] ++ g := ⟨_, rfl⟩
  have h1 := asB_ok (op2_of (f := eqD) (var_of (i := 2) (e := [some (.int (m : Nat)), d1, some (.int t.2.1), some (.ref st.length), some (.ref ns), some (.int t.1), some (.int t.2.2), d7, d8]) (st := S) rfl) (var_of (i := 0) rfl) eqI)
  have h2 := asB_ok (op2_of (f := eqD) (var_of (i := 6) (e := [some (.int (m : Nat)), d1, some (.int t.2.1), some (.ref st.length), some (.ref ns), some (.int t.1), some (.int t.2.2), d7, d8]) (st := S) rfl) (var_of (i := 0) rfl) eqI)
  have hil : isLst (.ref st.length) S = true := by rw [hS]; exact isL_mid
  have hap : ∀ r : Row, appD (.ref st.length) [rowD r] S = some (.non, st ++ [O.lst (L ++ [rowD r])] ++ (g ++ [])) := fun r => by rw [hS, List.append_nil]; exact app_mid (by omega)
  unfold lawRow at hr
  rw [← hS] at hn ⊢
  by_cases c1 : t.2.1 = (m : Nat)
  · rw [decide_eq_true c1] at h1
    rw [if_pos c1] at hr
    cases hr
    exact ⟨[], seq_nx (if_t (or_t h1) (seq_nx (exp_of (mt_of (f := appD) (var_of rfl) hil (one_of (ifx_t (k := true) h1 rfl)) (hap (.fin true)))) rfl)) rfl⟩
  · rw [decide_eq_false c1] at h1
    rw [if_neg c1] at hr
    by_cases c2 : t.2.2 = (m : Nat)
    · rw [decide_eq_true c2] at h2
      rw [if_pos c2] at hr
      cases hr
      exact ⟨[], seq_nx (if_t (or_f h1 h2) (seq_nx (exp_of (mt_of (f := appD) (var_of rfl) hil (one_of (ifx_f (k := true) h1 rfl)) (hap (.fin false)))) rfl)) rfl⟩
    · rw [decide_eq_false c2] at h2
      rw [if_neg c2] at hr
      split at hr
      · rename_i i j e1 e2
        cases hr
        have i1 := spot_at hn e1
        have i2 := spot_at hn e2
        have hls : mLst (mCons (mOp2 ixD (mVar 4) (mTup (mCons (mOp2 addD (mVar 5) (mC (.int 1))) (mCons (mOp2 addD (mVar 2) (mC (.int 1))) (mCons (mVar 6) mNil))))) (mCons (mOp2 ixD (mVar 4) (mTup (mCons (mOp2 addD (mVar 5) (mC (.int 1))) (mCons (mVar 2) (mCons (mOp2 addD (mVar 6) (mC (.int 1))) mNil))))) mNil)) [some (.int (m : Nat)), d1, some (.int t.2.1), some (.ref st.length), some (.ref ns), some (.int t.1), some (.int t.2.2), d7, d8] S = .ok (.ref S.length) (S ++ [O.lst [.int (i : Nat), .int (j : Nat)]]) :=
          lst_of (two_of (op2_of (var_of rfl) (tup_of (cons_of (op2_of (var_of rfl) rfl addI) (two_of (op2_of (var_of rfl) rfl addI) (var_of rfl))) (by simp)) i1) (op2_of (var_of rfl) (tup_of (cons_of (op2_of (var_of rfl) rfl addI) (two_of (var_of rfl) (op2_of (var_of rfl) rfl addI))) (by simp)) i2)) (by simp)
        have hso := sort_two (st := S ++ [O.lst [.int (i : Nat), .int (j : Nat)]]) (n := S.length) (a := i) (b := j) getL_new
        obtain ⟨S2, hS2⟩ : ∃ S2, S2 = S ++ [O.lst [.int (i : Nat), .int (j : Nat)]] ++ [.lst (natsD [min i j, max i j])] := ⟨_, rfl⟩
        rw [← hS2] at hso
        have htu : tupD [.ref (S ++ [O.lst [.int (i : Nat), .int (j : Nat)]]).length] S2 = some (rowD (.to [min i j, max i j]), S2) := by
          have : getL S2 (S ++ [O.lst [.int (i : Nat), .int (j : Nat)]]).length = some (natsD [min i j, max i j]) := by rw [hS2]; exact getL_new
          simp only [tupD, this, row_to]
        refine ⟨[O.lst [.int (i : Nat), .int (j : Nat)]] ++ [.lst (natsD [min i j, max i j])], seq_nx (if_f (or_f h1 h2) (seq_nx (exp_of (mt_of (f := appD) (c := .non) (var_of rfl) hil (one_of (opN_of (f := tupD) (one_of (opN_of (f := sortD) (one_of hls) hso)) htu)) ?_)) rfl)) rfl⟩
        have eS : S2 = st ++ [O.lst L] ++ (g ++ ([O.lst [.int (i : Nat), .int (j : Nat)]] ++ [.lst (natsD [min i j, max i j])])) := by rw [hS2, hS]; simp
        rw [eS]
        exact app_mid (by omega)
      · cases hr
theorem keep_at {st g g1 : Store} {n : Nat} {L L' o : O} (hne : n ≠ st.length) (hn : (st ++ [L] ++ g)[n]? = some o) : (st ++ [L'] ++ (g ++ g1))[n]? = some o := by
  have hlt := (List.getElem?_eq_some_iff.mp hn).1
  have e1 : st ++ [L'] ++ (g ++ g1) = (st ++ [L'] ++ g) ++ g1 := by simp
  have e2 : st ++ [L'] ++ g = (st ++ [L] ++ g).set st.length L' := set_mid.symm
  rw [e1, List.getElem?_append_left (by rw [e2, List.length_set]; exact hlt), e2, List.getElem?_set_ne (fun z => hne z.symm)]
  exact hn
theorem ll_loop {st : Store} {nr ns m : Nat} {I : List D} {T : List (List Int)} (h1 : nr ≠ st.length) (h2 : ns ≠ st.length) (d1 d7 d8 : Option D) : ∀ (ts : List Tri) (L : List Row) (g : Store) (d2 d5 d6 : Option D), L.length + ts.length ≤ 1000 → (st ++ [O.lst (L.map rowD)] ++ g)[nr]? = some (.lst I) → (st ++ [O.lst (L.map rowD)] ++ g)[ns]? = some (.dict (kv 0 T)) → ∀ R : List Row, ts.map (lawRow m T) = R.map some →
    ∃ (g' : Store) (d2' d5' d6' : Option D), forL (stillD (.ref nr) I) (fun d e st => ((gTp 3 (gCn (gN 5) (gCn (gN 2) (gCn (gN 6) gNl)))) d e st).seq llB) (ts.map fun t => trD (tr t)) [some (.int (m : Nat)), d1, d2, some (.ref st.length), some (.ref ns), d5, d6, d7, d8] (st ++ [O.lst (L.map rowD)] ++ g) = .nx [some (.int (m : Nat)), d1, d2', some (.ref st.length), some (.ref ns), d5', d6', d7, d8] (st ++ [O.lst ((L ++ R).map rowD)] ++ g') ∧ (st ++ [O.lst ((L ++ R).map rowD)] ++ g')[nr]? = some (.lst I) := by
  intro ts
  induction ts with
  | nil =>
    intro L g d2 d5 d6 _ hr _ R hR
    cases R with
    | nil => exact ⟨g, d2, d5, d6, by rw [List.append_nil]; exact ⟨forL_nil (getL_at hr), hr⟩⟩
    | cons a b => cases hR
  | cons t ts ih =>
    intro L g d2 d5 d6 hl hr hs R hR
    cases R with
    | nil => cases hR
    | cons r R =>
      simp only [List.map_cons, List.cons.injEq] at hR
      simp only [List.length_cons] at hl
      obtain ⟨g1, q⟩ := ll_step (L := L.map rowD) (by rw [List.length_map]; omega) hs hR.1 d1 d7 d8
      have eL : L.map rowD ++ [rowD r] = (L ++ [r]).map rowD := by simp
      rw [eL] at q
      obtain ⟨g2, f2, f5, f6, q2, q3⟩ := ih (L ++ [r]) (g ++ g1) (some (.int t.2.1)) (some (.int t.1)) (some (.int t.2.2)) (by simp; omega) (keep_at h1 hr) (keep_at h2 hs) R hR.2
      have e9 : (L ++ [r]) ++ R = L ++ r :: R := by simp
      rw [e9] at q2 q3
      refine ⟨g2, f2, f5, f6, ?_, q3⟩
      rw [List.map_cons, forL_nx (e' := [some (.int (m : Nat)), d1, some (.int t.2.1), some (.ref st.length), some (.ref ns), some (.int t.1), some (.int t.2.2), d7, d8]) (st' := st ++ [O.lst ((L ++ [r]).map rowD)] ++ (g ++ g1)) (getL_at hr)]
      · exact q2
      · show (Fl.nx _ _).seq _ = _
        rw [Fl.seq_nx]
        exact q
theorem R0_len {m : Nat} (h5 : m ≤ 5) : (R0 m).length ≤ 900 := by
  have key : ∀ ws : List Nat, (ws.flatMap (W m)).length ≤ ws.length * 6 := by
    intro ws
    induction ws with
    | nil => simp
    | cons w ws ih =>
      have := W_len m w
      simp only [List.flatMap_cons, List.length_append, List.length_cons]
      omega
  have := key (List.range (m + 1))
  rw [List.length_range] at this
  unfold R0
  omega
theorem en_sp : ∀ (ls : List (List Int)) (k : Nat), (enF k (ls.map trD)).map (fun d => match d with | .tup [a, b] => .tup [b, a] | d => d) = spD k ls := by
  intro ls
  induction ls with
  | nil => intro k; rfl
  | cons l ls ih => intro k; simp only [List.map_cons, enF, spD, ih]
structure LawOk (m : Nat) (R : List Row) : Prop where
  perm : ((T3 m).map tr).Perm (R0 m)
  srt : ((T3 m).map tr).Pairwise fun a b => le3 a b = true
  anti : ∀ a ∈ (T3 m).map tr, ∀ b ∈ (T3 m).map tr, le3 a b = true → le3 b a = true → a = b
  nd : ((T3 m).map tr).Nodup
  ne : (T3 m).map tr ≠ []
  row : (T3 m).map (lawRow m ((T3 m).map tr)) = R.map some
theorem run_tupS {N : List Str} {mb : Py.Loc → Store → Fl} {ds es : List D} {st S : Store} (hb : mb (startE N ds) st = .rt (.tup es) S) (hf : lowDs st.length es = false) : runD N mb ds st = .ok (.tup es) S := by
  unfold runD
  rw [hb]
  have hgc : Py.gc st (.tup es) S = (.tup es, S) := by
    unfold Py.gc
    split
    · rw [if_neg (by simp only [lowD, hf]; decide)]
    · rfl
  simp only [hgc]
theorem e_law_ladder {m : Nat} (h5 : m ≤ 5) {R : List Row} (hR : LawOk m R) (st : Store) : ∃ (g : Store) (n : Nat), m__law_ladder [.int (m : Nat)] st = .ok (.tup [netD R, .ref n]) (st ++ g) ∧ st.length ≤ n ∧ (st ++ g)[n]? = some (.lst ((T3 m).map fun t => trD (tr t))) := by
  have hlen : (T3 m).length ≤ 900 := by
    have := (List.Perm.length_eq hR.perm)
    rw [List.length_map] at this
    rw [this]
    exact R0_len h5
  have hadd : ∀ S, addD (.int (m : Nat)) (.int 1) S = some (.int ((m + 1 : Nat) : Int), S) := fun S => by rw [addI]; rfl
  obtain ⟨g1, d2, q1⟩ := w_loop (st := st) (m := m) (by omega) none none none none none (List.range (m + 1)) [] [] none (fun w hw => by have := List.mem_range.mp hw; omega) (by simp; omega)
  rw [List.append_nil, List.nil_append] at q1
  have eR0 : (List.range (m + 1)).flatMap (W m) = R0 m := rfl
  rw [eR0] at q1
  obtain ⟨S1, hS1⟩ : ∃ S1, S1 = st ++ [O.lst ((R0 m).map trD)] ++ g1 := ⟨_, rfl⟩
  rw [← hS1] at q1
  have hg1 : getL S1 st.length = some ((R0 m).map trD) := by rw [hS1]; exact getL_at at_mid
  have hR0l : (R0 m).length ≤ 10000 := by
    have := (List.Perm.length_eq hR.perm)
    rw [List.length_map] at this
    omega
  have hso := sort_tr hg1 hR0l hR.perm hR.srt hR.anti
  have eT : ((T3 m).map tr).map trD = (T3 m).map fun t => trD (tr t) := by rw [List.map_map]; rfl
  rw [eT] at hso
  obtain ⟨I, hI⟩ : ∃ I, I = (T3 m).map fun t => trD (tr t) := ⟨_, rfl⟩
  rw [← hI] at hso
  obtain ⟨S2, hS2⟩ : ∃ S2, S2 = S1 ++ [O.lst I] := ⟨_, rfl⟩
  rw [← hS2] at hso
  have n2 : S2.length = S1.length + 1 := by rw [hS2]; simp
  -- the places
  obtain ⟨B, hB⟩ : ∃ B, B = S2 ++ [O.lst []] := ⟨_, rfl⟩
  have hBr : B[S1.length]? = some (.lst I) := by rw [hB, hS2, List.append_assoc]; simp
  have hlc : mLc (mEn (mVar 1)) (.tp [7, 8]) mYes (mTup (mCons (mVar 8) (mCons (mVar 7) mNil))) [7, 8] [some (.int (m : Nat)), some (.ref S1.length), d2, some (.ref S2.length), none, none, none, none, none] B = .ok (.ref B.length) (B ++ [O.lst (spD 0 ((T3 m).map tr))]) := by
    have hen : enD (.ref S1.length) B = some ⟨enF 0 I, stillD (.ref S1.length) I⟩ := by
      have hs : seqOf (.ref S1.length) B = some I := getL_at hBr
      simp only [enD, itD, hs, Option.map_some, enL_F]
    have e2 : spD 0 ((T3 m).map tr) = (enF 0 I).map fun d => match d with | .tup [a, b] => .tup [b, a] | d => d := by rw [hI, ← eT, en_sp]
    have hlenE : ∀ (l : List D) (k : Nat), (enF k l).length = l.length := by
      intro l
      induction l with
      | nil => intro k; rfl
      | cons a l ih => intro k; simp [enF, ih]
    have hmem : ∀ (ts : List Tri) (k : Nat) (d : D), d ∈ enF k (ts.map fun t => trD (tr t)) → ∃ (j : Nat) (t : Tri), d = .tup [.int (j : Nat), trD (tr t)] := by
      intro ts
      induction ts with
      | nil => intro k d hd; cases hd
      | cons c cs ih =>
        intro k d hd
        rcases List.mem_cons.mp hd with rfl | hd
        · exact ⟨k, c, rfl⟩
        · exact ih (k + 1) d hd
    rw [e2]
    refine mLc_map (it := ⟨enF 0 I, stillD (.ref S1.length) I⟩) _ (en_of (var_of rfl) hen) (stillD_of (show seqOf (.ref S1.length) B = some I from getL_at hBr)) (by simp only [hlenE, hI, List.length_map]; exact le_size (by omega)) fun d hd => ?_
    rw [hI] at hd
    obtain ⟨j, t, rfl⟩ := hmem _ _ d hd
    refine ⟨[some (.int (m : Nat)), some (.ref S1.length), d2, some (.ref S2.length), none, none, none, some (.int (j : Nat)), some (trD (tr t))], [], rfl, ?_, rfl⟩
    rw [List.append_nil]
    exact tup_of (two_of (var_of rfl) (var_of rfl)) (by simp)
  obtain ⟨S3, hS3⟩ : ∃ S3, S3 = B ++ [O.lst (spD 0 ((T3 m).map tr))] := ⟨_, rfl⟩
  rw [← hS3] at hlc
  have hft : foldT [] (kv 0 ((T3 m).map tr)) = kv 0 ((T3 m).map tr) := by
    have := fold_kv ((T3 m).map tr) 0 [] hR.nd (fun p hp => nomatch hp)
    rwa [List.nil_append] at this
  have hft2 : (foldT [] (kv 0 ((T3 m).map tr))).isEmpty = false := by
    rw [hft]
    cases e : (T3 m).map tr with
    | nil => exact absurd e hR.ne
    | cons a b => rfl
  have hdt : dictTD [.ref B.length] S3 = some (.ref S3.length, S3 ++ [O.dict (kv 0 ((T3 m).map tr))]) := by
    have hg : getL S3 B.length = some (spD 0 ((T3 m).map tr)) := by rw [hS3]; exact getL_new
    simp only [dictTD, hg, pairs_sp]
    rw [if_pos hft2, hft]
  obtain ⟨g4, hg4⟩ : ∃ g4 : Store, g4 = [O.lst (spD 0 ((T3 m).map tr))] ++ [O.dict (kv 0 ((T3 m).map tr))] := ⟨_, rfl⟩
  have eS4 : S3 ++ [O.dict (kv 0 ((T3 m).map tr))] = S2 ++ [O.lst (([] : List Row).map rowD)] ++ g4 := by rw [hS3, hB, hg4]; simp
  have n3 : S3.length = S2.length + 2 := by rw [hS3, hB]; simp
  have hr4 : (S2 ++ [O.lst (([] : List Row).map rowD)] ++ g4)[S1.length]? = some (.lst I) := by
    rw [← eS4, hS3, hB, hS2]
    simp
  have hs4 : (S2 ++ [O.lst (([] : List Row).map rowD)] ++ g4)[S3.length]? = some (.dict (kv 0 ((T3 m).map tr))) := by rw [← eS4]; simp
  obtain ⟨g5, f2, f5, f6, hl, hr5⟩ := ll_loop (st := S2) (nr := S1.length) (ns := S3.length) (m := m) (I := I) (T := (T3 m).map tr) (by omega) (by omega) (some (.ref S1.length)) none none (T3 m) [] g4 d2 none none (by simp; omega) hr4 hs4 R hR.row
  rw [List.nil_append] at hl hr5
  rw [← eS4] at hl
  have hfin : tupD [.ref S2.length] (S2 ++ [O.lst (R.map rowD)] ++ g5) = some (netD R, S2 ++ [O.lst (R.map rowD)] ++ g5) := by
    have : getL (S2 ++ [O.lst (R.map rowD)] ++ g5) S2.length = some (R.map rowD) := getL_at at_mid
    simp only [tupD, this]; rfl
  have hb : b__law_ladder (startE N__law_ladder [.int (m : Nat)]) st = .rt (.tup [netD R, .ref S1.length]) (S2 ++ [O.lst (R.map rowD)] ++ g5) := by
    refine seq_nx (set_of (lst_of rfl (by simp))) ?_
    refine seq_nx (for_of (rgs_of (one_of (op2_of (var_of rfl) rfl (hadd _))) (rg1 (m + 1) (by omega))) q1) ?_
    refine seq_nx (par2_of (opN_of (f := sortD) (one_of (var_of rfl)) hso) (lst_of rfl (by simp))) ?_
    rw [← hB]
    refine seq_nx (set_of (opN_of (f := dictTD) (one_of hlc) hdt)) ?_
    have hit : itD (.ref S1.length) (S3 ++ [O.dict (kv 0 ((T3 m).map tr))]) = some ⟨I, stillD (.ref S1.length) I⟩ := by
      have hs : seqOf (.ref S1.length) (S3 ++ [O.dict (kv 0 ((T3 m).map tr))]) = some I := by rw [eS4]; exact getL_at hr4
      exact itD_seq hs
    rw [← hI] at hl
    refine seq_nx (for_of (it_of (var_of rfl) hit) hl) ?_
    exact seq_rt (ret_of (tup_of (two_of (opN_of (f := tupD) (one_of (var_of rfl)) hfin) (var_of rfl)) (by simp)))
  have hpre : S2 ++ [O.lst (R.map rowD)] ++ g5 = st ++ ([O.lst ((R0 m).map trD)] ++ g1 ++ [O.lst I] ++ [O.lst (R.map rowD)] ++ g5) := by rw [hS2, hS1]; simp
  have n1 : st.length ≤ S1.length := by rw [hS1]; simp <;> omega
  have hf : lowDs st.length [netD R, .ref S1.length] = false := by
    simp only [lowDs, lowD, Bool.and_true, Bool.and_eq_false_iff]
    exact .inr (decide_eq_false (by omega))
  have hrun : m__law_ladder [.int (m : Nat)] st = .ok (.tup [netD R, .ref S1.length]) (S2 ++ [O.lst (R.map rowD)] ++ g5) := run_tupS hb hf
  rw [hpre] at hrun hr5
  exact ⟨_, S1.length, hrun, n1, by rw [← hI]; exact hr5⟩
/-! ### rounds -/
def pas (row : List Int) : List Int := List.zipWith (· + ·) (row ++ [0]) (0 :: row)
def rowN : Nat → List Int
  | 0 => [1]
  | n + 1 => pas (rowN n)
def roundQ (m w o : Nat) : Rat := Rat.divInt ((rowN (2 * m - 1 - w - o)).drop (m - w)).sum (rowN (2 * m - 1 - w - o)).sum
theorem rowN_len : ∀ n : Nat, (rowN n).length = n + 1 := by
  intro n
  induction n with
  | zero => rfl
  | succ n ih => simp only [rowN, pas, List.length_zipWith, List.length_append, List.length_cons, List.length_nil, ih]; omega
theorem rowN_sum {n : Nat} (h : n ≤ 9) : (rowN n).sum ≠ 0 ∧ (rowN n).sum.natAbs < 2 ^ 20 := by
  have hm : n = 0 ∨ n = 1 ∨ n = 2 ∨ n = 3 ∨ n = 4 ∨ n = 5 ∨ n = 6 ∨ n = 7 ∨ n = 8 ∨ n = 9 := by omega
  rcases hm with rfl | rfl | rfl | rfl | rfl | rfl | rfl | rfl | rfl | rfl <;> decide +kernel
theorem zip_add (xs ys : List Int) : ((zpL (intsD xs) (intsD ys)).map fun d => match d with | .tup [.int a, .int b] => .int (a + b) | _ => .non) = intsD (List.zipWith (· + ·) xs ys) := by
  rw [zip_ints, List.map_map]
  unfold intsD
  induction xs generalizing ys with
  | nil => rfl
  | cons x xs ih =>
    cases ys with
    | nil => rfl
    | cons y ys =>
      simp only [List.zip_cons_cons, List.map_cons, List.zipWith_cons_cons, ih]
      rfl
theorem pas_step {S : Store} {n : Nat} {row : List Int} {e : Py.Loc} (hl : row.length ≤ 1000) (h5 : e[5]? = some (some (.ref n))) (hel : 8 < e.length) (hn : S[n]? = some (.lst (intsD row))) : ∃ g, mLc (mZp (mCons (mOp2 addD (mVar 5) (mLst (mCons (mC (.int 0)) mNil))) (mCons (mOp2 addD (mLst (mCons (mC (.int 0)) mNil)) (mVar 5)) mNil))) (.tp [7, 8]) mYes (mOp2 addD (mVar 7) (mVar 8)) [7, 8] e S = .ok (.ref (S ++ g).length) (S ++ g ++ [O.lst (intsD (pas row))]) := by
  obtain ⟨S1, hS1⟩ : ∃ S1, S1 = S ++ [O.lst [.int 0]] := ⟨_, rfl⟩
  obtain ⟨S2, hS2⟩ : ∃ S2, S2 = S1 ++ [O.lst (intsD (row ++ [0]))] := ⟨_, rfl⟩
  obtain ⟨S3, hS3⟩ : ∃ S3, S3 = S2 ++ [O.lst [.int 0]] := ⟨_, rfl⟩
  obtain ⟨S4, hS4⟩ : ∃ S4, S4 = S3 ++ [O.lst (intsD (0 :: row))] := ⟨_, rfl⟩
  have hnl := (List.getElem?_eq_some_iff.mp hn).1
  have ei1 : intsD row ++ [D.int 0] = intsD (row ++ [0]) := by simp [intsD]
  have ei2 : [D.int 0] ++ intsD row = intsD (0 :: row) := by simp [intsD]
  have a1 : addD (.ref n) (.ref S.length) S1 = some (.ref S1.length, S2) := by
    have := add_lists (st := S1) (n := n) (m := S.length) (a := intsD row) (b := [.int 0]) (by rw [hS1, List.getElem?_append_left hnl]; exact hn) (by rw [hS1]; simp) (by simp [intsD]; omega)
    rw [this, ei1, ← hS2]
  have a2 : addD (.ref S2.length) (.ref n) S3 = some (.ref S3.length, S4) := by
    have := add_lists (st := S3) (n := S2.length) (m := n) (a := [.int 0]) (b := intsD row) (by rw [hS3]; simp) (by rw [hS3, hS2, hS1, List.append_assoc, List.append_assoc, List.getElem?_append_left hnl]; exact hn) (by simp [intsD]; omega)
    rw [this, ei2, ← hS4]
  have g1 : getL S4 S1.length = some (intsD (row ++ [0])) := by
    refine getL_at ?_
    rw [hS4, hS3, hS2]
    simp
  have g2 : getL S4 S3.length = some (intsD (0 :: row)) := by rw [hS4]; exact getL_new
  have hz : zpD [.ref S1.length, .ref S3.length] S4 = some ⟨zpL (intsD (row ++ [0])) (intsD (0 :: row)), fun st' => stillD (.ref S1.length) (intsD (row ++ [0])) st' ∧ stillD (.ref S3.length) (intsD (0 :: row)) st'⟩ := by
    have s1 : seqOf (.ref S1.length) S4 = some (intsD (row ++ [0])) := g1
    have s2 : seqOf (.ref S3.length) S4 = some (intsD (0 :: row)) := g2
    simp only [zpD, s1, s2]
    rw [if_pos (show isT' (D.ref S1.length) = isT' (D.ref S3.length) from rfl)]
  refine ⟨[O.lst [.int 0]] ++ [O.lst (intsD (row ++ [0]))] ++ [O.lst [.int 0]] ++ [O.lst (intsD (0 :: row))], ?_⟩
  have eS : S ++ ([O.lst [.int 0]] ++ [O.lst (intsD (row ++ [0]))] ++ [O.lst [.int 0]] ++ [O.lst (intsD (0 :: row))]) = S4 := by rw [hS4, hS3, hS2, hS1]; simp
  rw [eS]
  have l1 : mLst (mCons (mC (.int 0)) mNil) e S = .ok (.ref S.length) S1 := by rw [hS1]; exact lst_of (one_of rfl) (by simp)
  have l2 : mLst (mCons (mC (.int 0)) mNil) e S2 = .ok (.ref S2.length) S3 := by rw [hS3]; exact lst_of (one_of rfl) (by simp)
  have e1 : intsD (pas row) = (zpL (intsD (row ++ [0])) (intsD (0 :: row))).map fun d => match d with | .tup [.int a, .int b] => .int (a + b) | _ => .non := (zip_add _ _).symm
  rw [e1]
  refine mLc_map (it := ⟨zpL (intsD (row ++ [0])) (intsD (0 :: row)), fun st' => stillD (.ref S1.length) (intsD (row ++ [0])) st' ∧ stillD (.ref S3.length) (intsD (0 :: row)) st'⟩) _ (by
    rw [x_zp, two_of (op2_of (var_of h5) l1 a1) (op2_of l2 (var_of h5) a2)]
    simp only [R.bind_ok, hz]) ⟨stillD_of (show seqOf (.ref S1.length) S4 = some _ from g1), stillD_of (show seqOf (.ref S3.length) S4 = some _ from g2)⟩ (by rw [zip_ints, List.length_map, List.length_zip]; exact le_size (by simp; omega)) fun d hd => ?_
  rw [zip_ints] at hd
  obtain ⟨p, _, rfl⟩ := List.mem_map.mp hd
  refine ⟨((wipeE e [7, 8]).set 7 (some (.int p.1))).set 8 (some (.int p.2)), [], rfl, ?_, rfl⟩
  rw [List.append_nil]
  refine op2_of (var_of (i := 7) (d := .int p.1) ?_) (var_of (i := 8) (d := .int p.2) ?_) addI
  · rw [List.getElem?_set_ne (by omega), List.getElem?_set_self (by simp [wipeE]; omega)]
  · rw [List.getElem?_set_self (by simp [wipeE]; omega)]
theorem pas_loop (d0 d1 d2 d3 d4 : Option D) : ∀ (ks : List Nat) (S : Store) (n j : Nat) (d6 : Option D), S[n]? = some (.lst (intsD (rowN j))) → j + ks.length ≤ 900 →
    ∃ (g : Store) (n' : Nat) (d6' : Option D), forL (fun _ => True) (fun d e st => (gN 6 d e st).seq (sSeq (sAsg (mLc (mZp (mCons (mOp2 addD (mVar 5) (mLst (mCons (mC (.int 0)) mNil))) (mCons (mOp2 addD (mLst (mCons (mC (.int 0)) mNil)) (mVar 5)) mNil))) (.tp [7, 8]) mYes (mOp2 addD (mVar 7) (mVar 8)) [7, 8]) (gN 5)) (fun e st => .nx e st))) (natsD ks) [d0, d1, d2, d3, d4, some (.ref n), d6, none, none] S = .nx [d0, d1, d2, d3, d4, some (.ref n'), d6', none, none] (S ++ g) ∧ (S ++ g)[n']? = some (.lst (intsD (rowN (j + ks.length)))) := by
  intro ks
  induction ks with
  | nil => exact fun S n j d6 hn _ => ⟨[], n, d6, by rw [List.append_nil]; exact ⟨forL_nil trivial, hn⟩⟩
  | cons k ks ih =>
    intro S n j d6 hn hl
    simp only [List.length_cons] at hl
    obtain ⟨g1, q⟩ := pas_step (row := rowN j) (e := [d0, d1, d2, d3, d4, some (.ref n), some (.int (k : Nat)), none, none]) (by rw [rowN_len]; omega) rfl (by simp) hn
    have hr : pas (rowN j) = rowN (j + 1) := rfl
    rw [hr] at q
    obtain ⟨g2, n2, f6, q2, h2⟩ := ih (S ++ g1 ++ [O.lst (intsD (rowN (j + 1)))]) (S ++ g1).length (j + 1) (some (.int (k : Nat))) (by simp) (by omega)
    refine ⟨g1 ++ [O.lst (intsD (rowN (j + 1)))] ++ g2, n2, f6, ?_, ?_⟩
    · have e0 : natsD (k :: ks) = .int (k : Nat) :: natsD ks := rfl
      rw [e0, forL_nx trivial (e' := [d0, d1, d2, d3, d4, some (.ref (S ++ g1).length), some (.int (k : Nat)), none, none]) (st' := S ++ g1 ++ [O.lst (intsD (rowN (j + 1)))])]
      · rw [q2]; simp
      · show (Fl.nx _ _).seq _ = _
        rw [Fl.seq_nx]
        exact seq_nx (set_of q) rfl
    · have e1 : S ++ (g1 ++ [O.lst (intsD (rowN (j + 1)))] ++ g2) = S ++ g1 ++ [O.lst (intsD (rowN (j + 1)))] ++ g2 := by simp
      rw [e1, h2, List.length_cons]
      congr 4
      omega
theorem e_rounds {m w o : Nat} (hm : m ≤ 5) (hw : w < m) (ho : o < m) (st : Store) : m__law_rounds [.int (m : Nat), .int (w : Nat), .int (o : Nat)] st = .ok (frD (roundQ m w o)) st := by
  obtain ⟨left, hleft⟩ : ∃ left, left = 2 * m - 1 - w - o := ⟨_, rfl⟩
  have hmul : ∀ S, mulD (.int 2) (.int (m : Nat)) S = some (.int (2 * ((m : Nat) : Int)), S) := fun S => by rw [mulI (mul_smallL (by omega) (by omega))]
  have e1 : (2 * ((m : Nat) : Int) - 1 - ((w : Nat) : Int) - ((o : Nat) : Int)) = ((left : Nat) : Int) := by omega
  have e2 : ((m : Nat) : Int) - ((w : Nat) : Int) = ((m - w : Nat) : Int) := by omega
  obtain ⟨g, n, f6, hl, hn⟩ := pas_loop (some (.int (m : Nat))) (some (.int (w : Nat))) (some (.int (o : Nat))) (some (.int (left : Nat))) (some (.int (m - w : Nat))) (List.range left) (st ++ [O.lst [.int 1]]) st.length 0 none (by simp; rfl) (by simp; omega)
  simp only [List.length_range, Nat.zero_add] at hn
  obtain ⟨S, hS⟩ : ∃ S, S = st ++ [O.lst [.int 1]] ++ g := ⟨_, rfl⟩
  rw [← hS] at hl hn
  have hg : getL S n = some (intsD (rowN left)) := getL_at hn
  have hcut : Py.cutD (.ref n) (some ((m - w : Nat) : Int)) none S = some (.ref S.length, S ++ [O.lst (intsD ((rowN left).drop (m - w)))]) := by
    have e : cutL (intsD (rowN left)) (some (((m - w : Nat)) : Int)) none = intsD ((rowN left).drop (m - w)) := by
      unfold cutL intsD
      rw [HT.sIx_none, HT.sIx_nat]
      have hll := rowN_len left
      rw [List.length_map, hll, Nat.min_eq_left (by omega), ← List.map_drop]
      exact List.take_of_length_le (by simp [hll])
    simp only [Py.cutD, hg, e]
  have hs1 : sumD [.ref S.length] (S ++ [O.lst (intsD ((rowN left).drop (m - w)))]) = some (.int ((rowN left).drop (m - w)).sum, S ++ [O.lst (intsD ((rowN left).drop (m - w)))]) := by
    have : getL (S ++ [O.lst (intsD ((rowN left).drop (m - w)))]) S.length = some (intsD ((rowN left).drop (m - w))) := getL_new
    have h2 : intsOf (intsD ((rowN left).drop (m - w))) = some ((rowN left).drop (m - w)) := by
      generalize (rowN left).drop (m - w) = L
      unfold intsD
      induction L with
      | nil => rfl
      | cons a L ih => simp only [List.map_cons, intsOf, ih]
    simp only [sumD, this, h2]
  have hs2 : sumD [.ref n] (S ++ [O.lst (intsD ((rowN left).drop (m - w)))]) = some (.int (rowN left).sum, S ++ [O.lst (intsD ((rowN left).drop (m - w)))]) := by
    have : getL (S ++ [O.lst (intsD ((rowN left).drop (m - w)))]) n = some (intsD (rowN left)) := getL_at (by rw [List.getElem?_append_left (List.getElem?_eq_some_iff.mp hn).1]; exact hn)
    have h2 : intsOf (intsD (rowN left)) = some (rowN left) := by
      generalize rowN left = L
      unfold intsD
      induction L with
      | nil => rfl
      | cons a L ih => simp only [List.map_cons, intsOf, ih]
    simp only [sumD, this, h2]
  obtain ⟨z1, z2⟩ := rowN_sum (n := left) (by omega)
  have hf := e__law_frac ((rowN left).drop (m - w)).sum (rowN left).sum z1 (Nat.lt_of_lt_of_le z2 (Nat.pow_le_pow_right (by omega) (by omega))) (S ++ [O.lst (intsD ((rowN left).drop (m - w)))])
  have hQ : Rat.divInt ((rowN left).drop (m - w)).sum (rowN left).sum = roundQ m w o := by unfold roundQ; rw [hleft]
  rw [hQ] at hf
  refine run_rtS (g := [O.lst [.int 1]] ++ g ++ [O.lst (intsD ((rowN left).drop (m - w)))]) (st' := S ++ [O.lst (intsD ((rowN left).drop (m - w)))]) ?_ (by rw [hS]; simp) rfl
  refine seq_nx (e' := [some (.int (m : Nat)), some (.int (w : Nat)), some (.int (o : Nat)), some (.int (left : Nat)), some (.int (m - w : Nat)), none, none, none, none]) (st1 := st) (by rw [← e1, ← e2]; exact par2_of (op2_of (op2_of (op2_of (op2_of rfl (var_of rfl) (hmul _)) rfl subI) (var_of rfl) subI) (var_of rfl) subI) (op2_of (var_of rfl) (var_of rfl) subI)) ?_
  refine seq_nx (set_of (lst_of (one_of rfl) (by simp))) ?_
  refine seq_nx (for_of (rgs_of (one_of (var_of rfl)) (rg1 left (by omega))) hl) ?_
  exact seq_rt (ret_of (call_of (two_of (opN_of (f := sumD) (one_of (sl_of (var_of rfl) (p_of (var_of rfl)) rfl hcut)) hs1) (opN_of (f := sumD) (one_of (var_of rfl)) hs2)) hf))
end K99

set_option Elab.async false
set_option linter.all false
set_option maxRecDepth 100000
set_option maxHeartbeats 4000000
set_option exponentiation.threshold 10000
namespace K99
open Py L2 PySem PySem.Spec PyProof.Rows
instance rowDec : DecidableEq Row := fun a b =>
  match a, b with
  | .fin a, .fin b => if h : a = b then isTrue (by rw [h]) else isFalse fun z => h (Row.fin.inj z)
  | .to a, .to b => if h : a = b then isTrue (by rw [h]) else isFalse fun z => h (Row.to.inj z)
  | .fin _, .to _ => isFalse fun z => nomatch z
  | .to _, .fin _ => isFalse fun z => nomatch z
/-! ### ladders of one to five rounds -/
def ladN (m : Nat) : List Row := (K1 m).filterMap (ladRow m (K1 m))
def dueR (m : Nat) (t : Tri) : Rat := if t.2.1 = (m : Nat) then 1 else if t.2.2 = (m : Nat) then 0 else roundQ m t.2.1.toNat t.2.2.toNat
theorem lad_row {m : Nat} (h1 : 1 ≤ m) (h5 : m ≤ 5) : (K1 m).map (ladRow m (K1 m)) = (ladN m).map some := by
  have hm : m = 1 ∨ m = 2 ∨ m = 3 ∨ m = 4 ∨ m = 5 := by omega
  rcases hm with rfl | rfl | rfl | rfl | rfl <;> decide +kernel
theorem lad_perm {m : Nat} (h1 : 1 ≤ m) (h5 : m ≤ 5) : ((T3 m).map tr).Perm (R0 m) := by
  have hm : m = 1 ∨ m = 2 ∨ m = 3 ∨ m = 4 ∨ m = 5 := by omega
  rcases hm with rfl | rfl | rfl | rfl | rfl <;> decide +kernel
theorem lad_srt {m : Nat} (h1 : 1 ≤ m) (h5 : m ≤ 5) : ((T3 m).map tr).Pairwise fun a b => le3 a b = true := by
  have hm : m = 1 ∨ m = 2 ∨ m = 3 ∨ m = 4 ∨ m = 5 := by omega
  rcases hm with rfl | rfl | rfl | rfl | rfl <;> decide +kernel
theorem lad_anti {m : Nat} (h1 : 1 ≤ m) (h5 : m ≤ 5) : ∀ a ∈ (T3 m).map tr, ∀ b ∈ (T3 m).map tr, le3 a b = true → le3 b a = true → a = b := by
  have hm : m = 1 ∨ m = 2 ∨ m = 3 ∨ m = 4 ∨ m = 5 := by omega
  rcases hm with rfl | rfl | rfl | rfl | rfl <;> decide +kernel
theorem lad_nd {m : Nat} (h1 : 1 ≤ m) (h5 : m ≤ 5) : ((T3 m).map tr).Nodup ∧ (T3 m).map tr ≠ [] := by
  have hm : m = 1 ∨ m = 2 ∨ m = 3 ∨ m = 4 ∨ m = 5 := by omega
  rcases hm with rfl | rfl | rfl | rfl | rfl <;> decide +kernel
theorem lad_law {m : Nat} (h1 : 1 ≤ m) (h5 : m ≤ 5) : (T3 m).map (lawRow m ((T3 m).map tr)) = (ladN m).map some := by
  have hm : m = 1 ∨ m = 2 ∨ m = 3 ∨ m = 4 ∨ m = 5 := by omega
  rcases hm with rfl | rfl | rfl | rfl | rfl <;> decide +kernel
theorem lad_net {m : Nat} (h1 : 1 ≤ m) (h5 : m ≤ 5) : NetOk (ladN m) := by
  have hm : m = 1 ∨ m = 2 ∨ m = 3 ∨ m = 4 ∨ m = 5 := by omega
  rcases hm with rfl | rfl | rfl | rfl | rfl <;> exact ⟨by decide +kernel, by decide +kernel, by decide +kernel⟩
theorem lad_due {m : Nat} (h1 : 1 ≤ m) (h5 : m ≤ 5) : chQ (ladN m) = (T3 m).map (dueR m) := by
  have hm : m = 1 ∨ m = 2 ∨ m = 3 ∨ m = 4 ∨ m = 5 := by omega
  rcases hm with rfl | rfl | rfl | rfl | rfl <;> decide +kernel
theorem lad_bd {m : Nat} (h1 : 1 ≤ m) (h5 : m ≤ 5) : ∀ t ∈ T3 m, 0 ≤ t.2.1 ∧ t.2.1 ≤ (m : Nat) ∧ 0 ≤ t.2.2 ∧ t.2.2 ≤ (m : Nat) := by
  have hm : m = 1 ∨ m = 2 ∨ m = 3 ∨ m = 4 ∨ m = 5 := by omega
  rcases hm with rfl | rfl | rfl | rfl | rfl <;> decide +kernel
theorem lad_ok [Tb] {m : Nat} (h1 : 1 ≤ m) (h5 : m ≤ 5) : LawOk m (ladN m) := ⟨lad_perm h1 h5, lad_srt h1 h5, lad_anti h1 h5, (lad_nd h1 h5).1, (lad_nd h1 h5).2, lad_law h1 h5⟩
end K99

set_option Elab.async false
set_option linter.all false
set_option maxRecDepth 100000
set_option maxHeartbeats 4000000
set_option exponentiation.threshold 10000
namespace K99
open Py L2 PySem PySem.Spec PyProof.Rows
variable [Tb]
/-! ### what is no number, what is no net -/
def NotIn (h : Nat) (S : Store) (d : D) : Prop := ∀ S' : Store, (∀ i, i < S.length → i ≠ h → S'[i]? = S[i]?) → m_is_within [d, .int 1, .int 5] S' = .ok (.bl false) S'
theorem notIn_of {d : D} {t : String} (ht : ∀ S, tyName d S = some t) (hn : (isT t "int" && !isT t "bool") = false) (h : Nat) (S : Store) : NotIn h S d := fun S' _ => e_is_within (ht S') hn _ _
theorem notIn_int {i : Int} (hi : (decide (1 ≤ i) && decide (i ≤ 5)) = false) (h : Nat) (S : Store) : NotIn h S (.int i) := fun S' _ => by
  have := e_within i 1 5 S'
  rw [hi] at this
  exact this
theorem notIn_ref {h n : Nat} {S : Store} {ds : List D} (hn : S[n]? = some (.lst ds)) (hne : n ≠ h) : NotIn h S (.ref n) := fun S' hS => by
  have e := (hS n (List.getElem?_eq_some_iff.mp hn).1 hne).trans hn
  exact e_is_within (t := "list") (by simp only [tyName, e]) (by decide) _ _
theorem NotIn.mono {h : Nat} {S S2 : Store} {d : D} (x : NotIn h S d) (k : ∀ i, i < S.length → i ≠ h → S2[i]? = S[i]?) (hl : S.length ≤ S2.length) : NotIn h S2 d := fun S' hS => x S' fun i hi hne => (hS i (by omega) hne).trans (k i hi hne)
theorem run_refS {N : List Str} {mb : Py.Loc → Store → Fl} {ds : List D} {st st' g : Store} {h c n : Nat} {cells : List Int} {o : O} (H : Hnd st h c cells) (x : Stp st st' h c) (hb : mb (startE N ds) st = .rt (.ref n) (st' ++ g)) (hn : st.length ≤ n) (ho : (st' ++ g)[n]? = some o) (hlo : lowO st.length o = true) : runD N mb ds st = .ok (.ref st.length) (st' ++ [o]) := by
  unfold runD
  rw [hb]
  have hgc : Py.gc st (.ref n) (st' ++ g) = (.ref st.length, st' ++ [o]) := by
    obtain ⟨i, a, b, e, rfl⟩ := x
    have hl : (st.set h (hd5 c i a b e)).length = st.length := by simp
    have hk : (st.set h (hd5 c i a b e) ++ g).take st.length = st.set h (hd5 c i a b e) := by rw [← hl, List.take_left]
    unfold Py.gc
    rw [if_pos, if_neg (by simp only [lowD, decide_eq_true_eq]; omega)]
    · simp only [ho]
      rw [if_pos ⟨hn, hlo⟩, hk]
    · intro j hj
      rw [List.getElem?_append_left (by rw [hl]; exact hj)]
      by_cases hjh : j = h
      · subst hjh
        refine .inr ⟨_, at_set H.hl, ?_⟩
        simp [lowO, lowDs, lowD, H.cll]
      · left; rw [at_ne hjh]
  simp only [hgc]
theorem pow20 (s : Store) : powD (.int 10) (.int 20) s = some (.int 100000000000000000000, s) := by rw [powI ⟨by omega, by omega, by decide⟩]; rfl
theorem e_no_number {st : Store} {h c : Nat} {cells : List Int} (H : Hnd st h c cells) : ∃ (d : D) (s1 g : Store), m__law_no_number [.ref h] st = .ok d (s1 ++ g) ∧ Stp st s1 h c ∧ Hnd s1 h c cells ∧ (∀ M : Nat, (s1 ++ g).length ≤ M → lowD M d = true) ∧ NotIn h (s1 ++ g) d := by
  have hh := H.hl
  obtain ⟨ds, hds⟩ : ∃ ds : List D, ds = [.int (-1), .non, .bl true, .str "1", .tup [.int 1], .ref st.length, .int (-100000000000000000000)] := ⟨_, rfl⟩
  obtain ⟨G, hG⟩ : ∃ G : Store, G = [O.lst [.int 1], O.lst ds] := ⟨_, rfl⟩
  have hl : mLst (mCons (mOp1 negD (mC (.int 1))) (mCons (mC .non) (mCons (mC (.bl true)) (mCons (mC (.str "1")) (mCons (mTup (mCons (mC (.int 1)) mNil)) (mCons (mLst (mCons (mC (.int 1)) mNil)) (mCons (mOp1 negD (mOp2 powD (mC (.int 10)) (mC (.int 20)))) mNil))))))) (startE N__law_no_number [.ref h]) st = .ok (.ref (st.length + 1)) (st ++ G) := by
    have e1 : st ++ G = (st ++ [O.lst [.int 1]]) ++ [O.lst ds] := by rw [hG]; simp
    have e2 : st.length + 1 = (st ++ [O.lst [.int 1]]).length := by simp
    rw [e1, e2, hds]
    exact lst_of (cons_of (op1_of rfl negI) (cons_of rfl (cons_of rfl (cons_of rfl (cons_of (tup_of (one_of rfl) (by simp)) (two_of (lst_of (one_of rfl) (by simp)) (op1_of (op2_of rfl rfl (pow20 _)) negI))))))) (by simp)
  obtain ⟨d, s1, hd, q, x, H1⟩ := anyS (st := st) (G := G) H (Stp.refl H) (n := st.length + 1) (ds := ds) (by rw [hG]; simp) (by omega) (by rw [hds]; simp) (by rw [hds]; simp) (fun d hd => by
    rw [hds] at hd
    simp only [List.mem_cons, List.not_mem_nil, or_false] at hd
    rcases hd with rfl | rfl | rfl | rfl | rfl | rfl | rfl <;> first | rfl | (simp [lowD, hG]))
  have hb : b__law_no_number (startE N__law_no_number [.ref h]) st = .rt d (s1 ++ G) := seq_rt (ret_of (call_of (two_of (var_of rfl) hl) q))
  have low : ∀ {d : D}, b__law_no_number (startE N__law_no_number [.ref h]) st = .rt d (s1 ++ G) → (∀ L, lowD L d = true) → NotIn h s1 d → ∃ (d : D) (s1 g : Store), m__law_no_number [.ref h] st = .ok d (s1 ++ g) ∧ Stp st s1 h c ∧ Hnd s1 h c cells ∧ (∀ M : Nat, (s1 ++ g).length ≤ M → lowD M d = true) ∧ NotIn h (s1 ++ g) d := fun {d} hb f nt =>
    ⟨d, s1, [], by rw [List.append_nil]; exact run_low (g := G) H x hb rfl (f _), x, H1, fun M _ => f M, by rw [List.append_nil]; exact nt⟩
  rw [hds] at hd
  simp only [List.mem_cons, List.not_mem_nil, or_false] at hd
  rcases hd with rfl | rfl | rfl | rfl | rfl | rfl | rfl
  · exact low hb (fun _ => rfl) (notIn_int (by decide) _ _)
  · exact low hb (fun _ => rfl) (notIn_of (t := "NoneType") (fun _ => rfl) (by decide) _ _)
  · exact low hb (fun _ => rfl) (notIn_of (t := "bool") (fun _ => rfl) (by decide) _ _)
  · exact low hb (fun _ => rfl) (notIn_of (t := "str") (fun _ => rfl) (by decide) _ _)
  · exact low hb (fun _ => rfl) (notIn_of (t := "tuple") (fun _ => rfl) (by decide) _ _)
  · have ho : (s1 ++ G)[st.length]? = some (.lst [.int 1]) := by rw [hG, ← x.len]; simp
    refine ⟨.ref st.length, s1, [O.lst [.int 1]], run_refS H x hb (Nat.le_refl _) ho rfl, x, H1, fun M hM => by simp only [lowD, decide_eq_true_eq]; rw [List.length_append, x.len] at hM; simp at hM; omega, notIn_ref (ds := [.int 1]) (by rw [← x.len]; simp) (by omega)⟩
  · exact low hb (fun _ => rfl) (notIn_int (by decide) _ _)
/-- it stays no net while the list at a stays -/
def NoN (a : Nat) (d : D) : Prop := ∀ S' : Store, (∃ ds, S'[a]? = some (.lst ds)) → m_is_net [d] S' = .ok (.bl false) S'
theorem noN_tup {a : Nat} (rs : List Rw) (h : ∀ r ∈ rs, okR r) (hb : netB rs = false) : NoN a (.tup (rs.map rwD)) := fun S' _ => by
  have := e_is_net rs h S'
  rw [hb] at this
  exact this
theorem noN_of {a : Nat} {d : D} {t : String} (ht : ∀ S, tyName d S = some t) (hn : isT t "tuple" = false) : NoN a d := fun S' _ => e_is_net_no (ht S') hn
theorem noN_ref {a : Nat} : NoN a (.ref a) := fun S' ⟨ds, h⟩ => e_is_net_no (t := "list") (by simp only [tyName, h]) (by decide)
def bad1 (a : Nat) : List D := [.non, .tup [], .ref a, .tup [.str "Goal"], .tup [.tup []], .tup [.tup [.int 0]], .tup [.tup [.int 1]], .tup [.tup [.int 1, .int 1], .str "goal"], .int 0, .tup (repL 41 [.str "goal"])]
def bad2 : List D := [.tup [.non]]
theorem bad_no {a : Nat} : ∀ d ∈ bad1 a ++ bad2, NoN a d := by
  intro d hd
  simp only [bad1, bad2, List.mem_append, List.mem_cons, List.not_mem_nil, or_false] at hd
  have og : okS "goal" = true := by decide +kernel
  have oG : okS "Goal" = true := by decide +kernel
  rcases hd with (rfl | rfl | rfl | rfl | rfl | rfl | rfl | rfl | rfl | rfl) | rfl
  · exact noN_of (t := "NoneType") (fun _ => rfl) (by decide)
  · exact noN_tup [] (fun r hr => nomatch hr) (by decide +kernel)
  · exact noN_ref
  · exact noN_tup [.s "Goal"] (fun r hr => by simp only [List.mem_cons, List.not_mem_nil, or_false] at hr; subst hr; exact oG) (by decide +kernel)
  · exact noN_tup [.w []] (fun r hr => by simp only [List.mem_cons, List.not_mem_nil, or_false] at hr; subst hr; exact Nat.zero_le _) (by decide +kernel)
  · exact noN_tup [.w [0]] (fun r hr => by simp only [List.mem_cons, List.not_mem_nil, or_false] at hr; subst hr; show (1 : Nat) ≤ 1000; omega) (by decide +kernel)
  · exact noN_tup [.w [1]] (fun r hr => by simp only [List.mem_cons, List.not_mem_nil, or_false] at hr; subst hr; show (1 : Nat) ≤ 1000; omega) (by decide +kernel)
  · exact noN_tup [.w [1, 1], .s "goal"] (fun r hr => by
      simp only [List.mem_cons, List.not_mem_nil, or_false] at hr
      rcases hr with rfl | rfl
      · show (2 : Nat) ≤ 1000; omega
      · exact og) (by decide +kernel)
  · exact noN_of (t := "int") (fun _ => rfl) (by decide)
  · exact noN_tup (List.replicate 41 (.s "goal")) (fun r hr => by rw [List.eq_of_mem_replicate hr]; exact og) (by decide +kernel)
  · exact noN_tup [.n] (fun r hr => by simp only [List.mem_cons, List.not_mem_nil, or_false] at hr; subst hr; trivial) (by decide +kernel)
/-! ### the chances of a ladder -/
theorem in_two (m a b : Int) (st : Store) : inA2 (.int m) (.tup [.int a, .int b]) st = some (.bl (decide (a = m) || decide (b = m)), st) := by
  have h1 : inTD (.int m) (.tup [.int a, .int b]) st = some (.bl (decide (a = m) || decide (b = m)), st) := by
    unfold inTD
    have e1 : toPy st (.int m) = some (.int m) := rfl
    have e2 : toPy st (.tup [.int a, .int b]) = some (.tuple [.int a, .int b]) := rfl
    rw [e1, e2]
    simp only []
    rw [if_pos ⟨rfl, rfl⟩]
    have beqd : ∀ a b : Int, (a == b) = decide (a = b) := fun a b => by by_cases h : a = b <;> simp [h]
    simp only [List.any_cons, List.any_nil, PyData.eqv, beqd, Bool.or_false]
  unfold inA2
  rw [h1]
noncomputable abbrev dueB : Py.Loc → Store → Fl := (sSeq (sExp (mMt appD (mVar 6) (mCons (mIf (asB (mOp2 inA2 (mVar 3) (mTup (mCons (mVar 8) (mCons (mVar 9) mNil))))) (mTup (mCons (mOpN intD (mCons (mOp2 eqD (mVar 8) (mVar 3)) mNil)) (mCons (mC (.int 1)) mNil))) (mCall m__law_rounds (mCons (mVar 3) (mCons (mVar 8) (mCons (mVar 9) mNil))))) mNil))) (fun e st => .nx e st))
theorem due_loop {st : Store} {n m : Nat} {I : List D} (hm : m ≤ 5) (hne : n ≠ st.length) (d0 d1 d2 d4 d5 d10 d11 d12 : Option D) : ∀ (ts : List Tri) (L : List Rat) (g : Store) (d7 d8 d9 : Option D), L.length + ts.length ≤ 1000 → (∀ t ∈ ts, 0 ≤ t.2.1 ∧ t.2.1 ≤ (m : Nat) ∧ 0 ≤ t.2.2 ∧ t.2.2 ≤ (m : Nat)) → (st ++ [O.lst (L.map frD)] ++ g)[n]? = some (.lst I) →
    ∃ d7' d8' d9' : Option D, forL (stillD (.ref n) I) (fun d e st => ((gTp 3 (gCn (gN 7) (gCn (gN 8) (gCn (gN 9) gNl)))) d e st).seq dueB) (ts.map fun t => trD (tr t)) [d0, d1, d2, some (.int (m : Nat)), d4, d5, some (.ref st.length), d7, d8, d9, d10, d11, d12] (st ++ [O.lst (L.map frD)] ++ g) = .nx [d0, d1, d2, some (.int (m : Nat)), d4, d5, some (.ref st.length), d7', d8', d9', d10, d11, d12] (st ++ [O.lst ((L ++ ts.map (dueR m)).map frD)] ++ g) := by
  intro ts
  induction ts with
  | nil => exact fun L g d7 d8 d9 _ _ hn => ⟨d7, d8, d9, by simp only [List.map_nil, List.append_nil]; exact forL_nil (getL_at hn)⟩
  | cons t ts ih =>
    intro L g d7 d8 d9 hl hb hn
    simp only [List.length_cons] at hl
    obtain ⟨b1, b2, b3, b4⟩ := hb t List.mem_cons_self
    have hn2 : (st ++ [O.lst ((L ++ [dueR m t]).map frD)] ++ g)[n]? = some (.lst I) := by
      have := keep_at (L' := O.lst ((L ++ [dueR m t]).map frD)) (g1 := []) hne hn
      rwa [List.append_nil] at this
    obtain ⟨f7, f8, f9, q⟩ := ih (L ++ [dueR m t]) g (some (.int t.1)) (some (.int t.2.1)) (some (.int t.2.2)) (by simp; omega) (fun t' ht' => hb t' (List.mem_cons_of_mem _ ht')) hn2
    have e9 : L ++ [dueR m t] ++ ts.map (dueR m) = L ++ (t :: ts).map (dueR m) := by simp
    rw [e9] at q
    refine ⟨f7, f8, f9, ?_⟩
    obtain ⟨S, hS⟩ : ∃ S, S = st ++ [O.lst (L.map frD)] ++ g := ⟨_, rfl⟩
    have hin := asB_ok (op2_of (f := inA2) (var_of (i := 3) (e := [d0, d1, d2, some (.int (m : Nat)), d4, d5, some (.ref st.length), some (.int t.1), some (.int t.2.1), some (.int t.2.2), d10, d11, d12]) (st := S) rfl) (tup_of (two_of (var_of (i := 8) rfl) (var_of (i := 9) rfl)) (by simp)) (in_two _ _ _ S))
    have heq := op2_of (f := eqD) (var_of (i := 8) (e := [d0, d1, d2, some (.int (m : Nat)), d4, d5, some (.ref st.length), some (.int t.1), some (.int t.2.1), some (.int t.2.2), d10, d11, d12]) (st := S) rfl) (var_of (i := 3) rfl) eqI
    have hil : isLst (.ref st.length) S = true := by rw [hS]; exact isL_mid
    have hap : appD (.ref st.length) [frD (dueR m t)] S = some (.non, st ++ [O.lst ((L ++ [dueR m t]).map frD)] ++ g) := by
      have := app_mid (st := st) (g := g) (L := L.map frD) (d := frD (dueR m t)) (by simp; omega)
      rw [hS, this]
      simp
    have key : mIf (asB (mOp2 inA2 (mVar 3) (mTup (mCons (mVar 8) (mCons (mVar 9) mNil))))) (mTup (mCons (mOpN intD (mCons (mOp2 eqD (mVar 8) (mVar 3)) mNil)) (mCons (mC (.int 1)) mNil))) (mCall m__law_rounds (mCons (mVar 3) (mCons (mVar 8) (mCons (mVar 9) mNil)))) [d0, d1, d2, some (.int (m : Nat)), d4, d5, some (.ref st.length), some (.int t.1), some (.int t.2.1), some (.int t.2.2), d10, d11, d12] S = .ok (frD (dueR m t)) S := by
      unfold dueR
      by_cases c1 : t.2.1 = (m : Nat)
      · rw [if_pos c1]
        rw [decide_eq_true c1] at hin heq
        rw [Bool.true_or] at hin
        have e1 : intD [.bl true] S = some (.int 1, S) := rfl
        exact ifx_t (k := true) hin (tup_of (two_of (opN_of (one_of heq) e1) rfl) (by simp))
      · rw [if_neg c1]
        rw [decide_eq_false c1] at hin heq
        rw [Bool.false_or] at hin
        by_cases c2 : t.2.2 = (m : Nat)
        · rw [if_pos c2]
          rw [decide_eq_true c2] at hin
          have e1 : intD [.bl false] S = some (.int 0, S) := rfl
          exact ifx_t (k := true) hin (tup_of (two_of (opN_of (one_of heq) e1) rfl) (by simp))
        · rw [if_neg c2]
          rw [decide_eq_false c2] at hin
          have hr := e_rounds (m := m) (w := t.2.1.toNat) (o := t.2.2.toNat) hm (by omega) (by omega) S
          have e1 : ((t.2.1.toNat : Nat) : Int) = t.2.1 := by omega
          have e2 : ((t.2.2.toNat : Nat) : Int) = t.2.2 := by omega
          rw [e1, e2] at hr
          exact ifx_f (k := true) hin (call_of (cons_of (var_of rfl) (two_of (var_of rfl) (var_of rfl))) hr)
    rw [← hS] at hn ⊢
    rw [List.map_cons, forL_nx (e' := [d0, d1, d2, some (.int (m : Nat)), d4, d5, some (.ref st.length), some (.int t.1), some (.int t.2.1), some (.int t.2.2), d10, d11, d12]) (st' := st ++ [O.lst ((L ++ [dueR m t]).map frD)] ++ g) (getL_at hn)]
    · exact q
    · show (Fl.nx _ _).seq _ = _
      rw [Fl.seq_nx]
      exact seq_nx (exp_of (mt_of (f := appD) (var_of rfl) hil (one_of key) hap)) rfl
/-! ### refusals -/
abbrev netW : D := .str "net"
theorem word_net {me : Py.Loc → Store → R D} {e : Py.Loc} {st : Store} (h : me e st = .ex "BadBoardWays" [] st) : mWord tblW me e st = .ok netW st := word_ex h rfl
theorem e_toss_bad {d : D} {st : Store} (h : m_check_net [d] st = .ex "BadBoardWays" [] st) : m_toss_chances [d] st = .ex "BadBoardWays" [] st := run_ex0 (seq_ex (exp_ex (call_ex (one_of (var_of rfl)) h)))
theorem e_prices_bad {d : D} {st : Store} (h : m_check_net [d] st = .ex "BadBoardWays" [] st) : m_prices [d] st = .ex "BadBoardWays" [] st := run_ex0 (seq_ex (exp_ex (call_ex (one_of (var_of rfl)) h)))
theorem e_turned_bad {d : D} {st : Store} (h : m_check_net [d] st = .ex "BadBoardWays" [] st) : m_turned_net [d] st = .ex "BadBoardWays" [] st := run_ex0 (seq_ex (exp_ex (call_ex (one_of (var_of rfl)) h)))
theorem e_by_bad {d x : D} {st : Store} (h : m_check_net [d] st = .ex "BadBoardWays" [] st) : m_by_turns [d, x] st = .ex "BadBoardWays" [] st := run_ex0 (seq_ex (exp_ex (call_ex (one_of (var_of rfl)) h)))
abbrev wordsD : List D := [netW, netW, netW, netW, .str "number"]
theorem eq_words {S : Store} {a b : Nat} (ha : S[a]? = some (.lst wordsD)) (hb : S[b]? = some (.lst wordsD)) : eqD (.ref a) (.ref b) S = some (.bl true, S) := by
  have ga : getL S a = some wordsD := by unfold getL; rw [ha]
  have gb : getL S b = some wordsD := by unfold getL; rw [hb]
  have ta : toPy S (.ref a) = some (.list [.str "net", .str "net", .str "net", .str "net", .str "number"]) := by
    simp only [toPy, pyG, pyR, ga]; rfl
  have tb : toPy S (.ref b) = some (.list [.str "net", .str "net", .str "net", .str "net", .str "number"]) := by
    simp only [toPy, pyG, pyR, gb]; rfl
  unfold eqD
  rw [ta, tb]
  simp only []
  have hs : SeqAt.shaped (PyData.list [.str "net", .str "net", .str "net", .str "net", .str "number"]) = true := by decide +kernel
  rw [guard_pos ⟨hs, hs⟩]
  have he : PyData.eqv (PyData.list [.str "net", .str "net", .str "net", .str "net", .str "number"]) (PyData.list [.str "net", .str "net", .str "net", .str "net", .str "number"]) = true := by decide +kernel
  rw [he]
theorem t_loop {h c : Nat} {cells : List Int} (d0 : Option D) (R : List (Option D)) : ∀ (ks : List Nat) (st : Store) (d2 : Option D), Hnd st h c cells →
    ∃ (st' : Store) (d2' : Option D), forL (fun _ => True) (fun d e st => (gN 2 d e st).seq (sSeq (sIf (mNot (asB (mCall m__law_is_right (mCons (mCall m__law_net_of (mCons (mVar 1) (mCons (mC (.int 9)) mNil))) mNil)))) (sSeq (sRet (mC (.bl false))) (fun e st => .nx e st)) (fun e st => .nx e st)) (fun e st => .nx e st))) (natsD ks) (d0 :: some (.ref h) :: d2 :: R) st = .nx (d0 :: some (.ref h) :: d2' :: R) st' ∧ Hnd st' h c cells := by
  intro ks
  induction ks with
  | nil => exact fun st d2 H => ⟨st, d2, forL_nil trivial, H⟩
  | cons k ks ih =>
    intro st d2 H
    obtain ⟨net, s1, q1, _, H1, ok⟩ := e_net_of H 9 (by omega) (by omega)
    obtain ⟨s2, f2, hl, H2⟩ := ih s1 (some (.int (k : Nat))) H1
    refine ⟨s2, f2, ?_, H2⟩
    have e0 : natsD (k :: ks) = .int (k : Nat) :: natsD ks := rfl
    rw [e0, forL_nx trivial (e' := d0 :: some (.ref h) :: some (.int (k : Nat)) :: R) (st' := s1)]
    · exact hl
    · show (Fl.nx _ _).seq _ = _
      rw [Fl.seq_nx]
      exact seq_nx (if_f (not_of (k := true) (asB_ok (call_of (one_of (call_of (two_of (var_of (i := 1) rfl) rfl) q1)) (e_is_right ok s1)))) rfl) rfl
end K99

set_option Elab.async false
set_option linter.all false
set_option maxRecDepth 100000
set_option maxHeartbeats 4000000
set_option exponentiation.threshold 10000
namespace K99
open Py L2 PySem PySem.Spec PyProof.Rows
variable [Tb]
theorem app_at {S : Store} {n : Nat} {L : List D} {d : D} (hn : S[n]? = some (.lst L)) (h : L.length ≤ 1000000) : appD (.ref n) [d] S = some (.non, S.set n (.lst (L ++ [d]))) := by
  simp only [appD, hn]
  rw [if_pos (by rw [sizeLine_eq]; omega)]
theorem app_last {st : Store} {L : List D} {d : D} (h : L.length ≤ 1000000) : appD (.ref st.length) [d] (st ++ [O.lst L]) = some (.non, st ++ [O.lst (L ++ [d])]) := by
  rw [app_at (by simp) h]
  simp
theorem isL_at {S : Store} {n : Nat} {L : List D} (hn : S[n]? = some (.lst L)) : isLst (.ref n) S = true := by simp only [isLst, hn]
theorem step_net {st : Store} {L : List D} {me : Py.Loc → Store → R D} {e : Py.Loc} (hw : e[12]? = some (some (.ref st.length))) (hL : L.length ≤ 1000) (h : me e (st ++ [O.lst L]) = .ex "BadBoardWays" [] (st ++ [O.lst L])) : sExp (mMt appD (mVar 12) (mCons (mWord tblW me) mNil)) e (st ++ [O.lst L]) = .nx e (st ++ [O.lst (L ++ [netW])]) :=
  exp_of (mt_of (var_of hw) (isL_at (L := L) (by simp)) (one_of (word_net h)) (app_last (by omega)))
theorem words_rhs (T : Store) (R : Py.Loc) : mOp2 addD (mOp2 mulD (mLst (mCons (mC (.str "net")) mNil)) (mC (.int 4))) (mLst (mCons (mC (.str "number")) mNil)) R T = .ok (.ref (T.length + 3)) (T ++ [O.lst [netW], O.lst [netW, netW, netW, netW], O.lst [.str "number"], O.lst wordsD]) := by
  have e1 : T ++ [O.lst [netW], O.lst [netW, netW, netW, netW], O.lst [.str "number"], O.lst wordsD] = T ++ [O.lst [netW]] ++ [O.lst [netW, netW, netW, netW]] ++ [O.lst [.str "number"]] ++ [O.lst wordsD] := by simp
  have m1 : mulD (.ref T.length) (.int 4) (T ++ [O.lst [netW]]) = some (.ref (T ++ [O.lst [netW]]).length, T ++ [O.lst [netW]] ++ [O.lst [netW, netW, netW, netW]]) := by
    have : (T ++ [O.lst [netW]])[T.length]? = some (.lst [netW]) := by simp
    simp only [mulD, this]
    exact guard_pos ⟨by decide, by decide, by rw [sizeLine_eq]; decide⟩
  have m2 : addD (.ref (T ++ [O.lst [netW]]).length) (.ref (T ++ [O.lst [netW]] ++ [O.lst [netW, netW, netW, netW]]).length) (T ++ [O.lst [netW]] ++ [O.lst [netW, netW, netW, netW]] ++ [O.lst [.str "number"]]) = some (.ref (T.length + 3), T ++ [O.lst [netW]] ++ [O.lst [netW, netW, netW, netW]] ++ [O.lst [.str "number"]] ++ [O.lst wordsD]) := by
    have b1 : (T ++ [O.lst [netW]] ++ [O.lst [netW, netW, netW, netW]] ++ [O.lst [.str "number"]])[(T ++ [O.lst [netW]]).length]? = some (.lst [netW, netW, netW, netW]) := by simp
    have b2 : (T ++ [O.lst [netW]] ++ [O.lst [netW, netW, netW, netW]] ++ [O.lst [.str "number"]])[(T ++ [O.lst [netW]] ++ [O.lst [netW, netW, netW, netW]]).length]? = some (.lst [.str "number"]) := by simp
    have b3 : T.length + 3 = (T ++ [O.lst [netW]] ++ [O.lst [netW, netW, netW, netW]] ++ [O.lst [.str "number"]]).length := by simp
    rw [b3]
    simp only [addD, b1, b2]
    exact guard_pos (by rw [sizeLine_eq]; decide)
  rw [e1]
  exact op2_of (op2_of (lst_of (one_of rfl) (by simp)) rfl m1) (lst_of (one_of rfl) (by simp)) m2
theorem law_holds {ns : List Int} (hl : ns.length ≤ 63) {d0 : D} {st0 : Store} (hcut : Py.cutD d0 none (some 63) st0 = some (.ref st0.length, st0 ++ [.lst (intsD ns)])) : Holds1 m_law [d0] st0 := by
  obtain ⟨S, h, c, cells, H, hh⟩ := e_hand hl hcut
  obtain ⟨s1, f2, q1, H1⟩ := t_loop (some d0) [none, none, none, none, none, none, none, none, none, none] (List.range 6) S none H
  obtain ⟨k, s2, hk, q2, x2, H2⟩ := draw' H1 5 (by omega) (by omega)
  obtain ⟨m, hm⟩ : ∃ m, m = 1 + k := ⟨_, rfl⟩
  have h1 : 1 ≤ m := by omega
  have h5 : m ≤ 5 := by omega
  have hadd : addD (.int 1) (.int (k : Nat)) s2 = some (.int (m : Nat), s2) := by rw [addI, hm]; congr 3
  obtain ⟨g3, n, q3, hn1, hn3⟩ := e_law_ladder h5 (lad_ok h1 h5) s2
  obtain ⟨I, hI⟩ : ∃ I, I = (T3 m).map fun t => trD (tr t) := ⟨_, rfl⟩
  have ok := lad_net h1 h5
  obtain ⟨S3, hS3⟩ : ∃ S3, S3 = s2 ++ g3 := ⟨_, rfl⟩
  rw [← hS3] at q3 hn3
  have q4 := e_ladder h1 h5 (lad_row h1 h5) S3
  have i1 := e__law_is (sm_net (st := S3) (k := 2) ok)
  have q5 := e_is_right ok S3
  -- due
  have hT : (T3 m).length ≤ 900 := by
    have := (List.Perm.length_eq (lad_perm h1 h5))
    rw [List.length_map] at this
    rw [this]
    exact R0_len h5
  have hnlt := (List.getElem?_eq_some_iff.mp hn3).1
  obtain ⟨f7, f8, f9, q6⟩ := due_loop (st := S3) (n := n) (m := m) (I := I) h5 (by omega) (some d0) (some (.ref h)) f2 (some (netD (ladN m))) (some (.ref n)) none none none (T3 m) [] [] none none none (by simp; omega) (lad_bd h1 h5) (by rw [hI, List.append_nil, List.getElem?_append_left hnlt]; exact hn3)
  rw [List.append_nil, List.append_nil, List.nil_append, ← lad_due h1 h5, ← hI] at q6
  obtain ⟨S5, hS5⟩ : ∃ S5, S5 = S3 ++ [O.lst ((chQ (ladN m)).map frD)] := ⟨_, rfl⟩
  rw [← hS5] at q6
  have q7 := e_toss ok S5
  have hdu : tupD [.ref S3.length] S5 = some (.tup ((chQ (ladN m)).map frD), S5) := by
    have : getL S5 S3.length = some ((chQ (ladN m)).map frD) := by rw [hS5]; exact getL_new
    simp only [tupD, this]
  have hcl : (chQ (ladN m)).length ≤ 1000 := by
    rw [lad_due h1 h5, List.length_map]; omega
  have i2 := e__law_is (sm_frs (st := S5) (k := 2) hcl)
  -- the bad things
  obtain ⟨a, ha⟩ : ∃ a, a = S5.length := ⟨_, rfl⟩
  obtain ⟨S6, hS6⟩ : ∃ S6, S6 = S5 ++ [O.lst [.str "goal"]] ++ [O.lst (bad1 a)] := ⟨_, rfl⟩
  have hmul : ∀ s, mulD (.tup [.str "goal"]) (.int 41) s = some (.tup (repL 41 [.str "goal"]), s) := fun s => guard_pos ⟨by simp, by omega, by omega, by simp⟩
  have l1 : ∀ e : Py.Loc, mLst (mCons (mC .non) (mCons (mTup mNil) (mCons (mLst (mCons (mC (.str "goal")) mNil)) (mCons (mTup (mCons (mC (.str "Goal")) mNil)) (mCons (mTup (mCons (mTup mNil) mNil)) (mCons (mTup (mCons (mTup (mCons (mC (.int 0)) mNil)) mNil)) (mCons (mTup (mCons (mTup (mCons (mC (.int 1)) mNil)) mNil)) (mCons (mTup (mCons (mTup (mCons (mC (.int 1)) (mCons (mC (.int 1)) mNil))) (mCons (mC (.str "goal")) mNil))) (mCons (mC (.int 0)) (mCons (mOp2 mulD (mTup (mCons (mC (.str "goal")) mNil)) (mC (.int 41))) mNil)))))))))) e S5 = .ok (.ref (a + 1)) S6 := fun e => by
    have e2 : a + 1 = (S5 ++ [O.lst [D.str "goal"]]).length := by rw [ha]; simp
    rw [e2, hS6, ha]
    exact lst_of (cons_of rfl (cons_of (tup_of rfl (by simp)) (cons_of (lst_of (one_of rfl) (by simp)) (cons_of (tup_of (one_of rfl) (by simp)) (cons_of (tup_of (one_of (tup_of rfl (by simp))) (by simp)) (cons_of (tup_of (one_of (tup_of (one_of rfl) (by simp))) (by simp)) (cons_of (tup_of (one_of (tup_of (one_of rfl) (by simp))) (by simp)) (cons_of (tup_of (two_of (tup_of (two_of rfl rfl) (by simp)) rfl) (by simp)) (two_of rfl (op2_of (tup_of (one_of rfl) (by simp)) rfl (hmul _))))))))))) (show (bad1 _).length ≤ 1000000 by simp [bad1])
  obtain ⟨S7, hS7⟩ : ∃ S7, S7 = S6 ++ [O.lst bad2] ++ [O.lst (bad1 a ++ bad2)] := ⟨_, rfl⟩
  have n6 : S6.length = a + 2 := by rw [hS6, ha]; simp
  have l2 : ∀ e : Py.Loc, e[10]? = some (some (.ref (a + 1))) → mOp2 addD (mVar 10) (mLst (mCons (mTup (mCons (mC .non) mNil)) mNil)) e S6 = .ok (.ref (a + 3)) S7 := fun e he => by
    have b1 : (S6 ++ [O.lst bad2])[a + 1]? = some (.lst (bad1 a)) := by rw [hS6, ha]; simp
    have b2 : (S6 ++ [O.lst bad2])[S6.length]? = some (.lst bad2) := by simp
    have b3 : a + 3 = (S6 ++ [O.lst bad2]).length := by simp [n6]
    rw [b3, hS7]
    refine op2_of (var_of he) (lst_of (ds := bad2) (one_of (tup_of (one_of rfl) (by simp))) (by simp [bad2])) ?_
    simp only [addD, b1, b2]
    exact guard_pos (by simp [bad1, bad2]; rw [sizeLine_eq]; omega)
  obtain ⟨G7, hG7⟩ : ∃ G7, G7 = g3 ++ [O.lst ((chQ (ladN m)).map frD)] ++ [O.lst [.str "goal"]] ++ [O.lst (bad1 a)] ++ [O.lst bad2] ++ [O.lst (bad1 a ++ bad2)] := ⟨_, rfl⟩
  have eS7 : S7 = s2 ++ G7 := by rw [hS7, hS6, hS5, hS3, hG7]; simp
  have hhl := H2.hl
  have ha2 : s2.length + g3.length + 1 = a := by rw [ha, hS5, hS3]; simp; omega
  have l7 : (s2 ++ G7).length = a + 4 := by rw [← eS7, hS7]; simp [n6]
  obtain ⟨d, s3, hd, q8, x3, H3⟩ := anyS (st := s2) (G := G7) H2 (Stp.refl H2) (n := a + 3) (ds := bad1 a ++ bad2) (by rw [← eS7, hS7, show a + 3 = (S6 ++ [O.lst bad2]).length by simp [n6]]; simp) (by omega) (by simp [bad1]) (by simp [bad1, bad2]) (fun d hd => by
    rw [l7]
    simp only [bad1, bad2, List.mem_append, List.mem_cons, List.not_mem_nil, or_false] at hd
    rcases hd with (rfl | rfl | rfl | rfl | rfl | rfl | rfl | rfl | rfl | rfl) | rfl <;> first | rfl | (simp only [lowD, decide_eq_true_eq]; omega))
  rw [← eS7] at q8
  have nn := bad_no d hd
  obtain ⟨S8, hS8⟩ : ∃ S8, S8 = s3 ++ G7 := ⟨_, rfl⟩
  rw [← hS8] at q8
  have n8 : S8.length = a + 4 := by rw [hS8, ← l7, List.length_append, List.length_append, x3.len]
  have h8a : S8[a]? = some (.lst [.str "goal"]) := by
    have e1 : S8 = (s3 ++ g3 ++ [O.lst ((chQ (ladN m)).map frD)]) ++ [O.lst [.str "goal"]] ++ ([O.lst (bad1 a)] ++ [O.lst bad2] ++ [O.lst (bad1 a ++ bad2)]) := by rw [hS8, hG7]; simp
    have e2 : a = (s3 ++ g3 ++ [O.lst ((chQ (ladN m)).map frD)]).length := by rw [← ha2]; simp [x3.len]; omega
    rw [e1]
    conv => lhs; rw [e2]
    exact at_mid
  have nt : ∀ G : Store, m_check_net [d] (S8 ++ G) = .ex "BadBoardWays" [] (S8 ++ G) := fun G => e_check_bad (nn _ ⟨_, by rw [List.getElem?_append_left (by omega)]; exact h8a⟩)
  have nt0 : m_check_net [d] S8 = .ex "BadBoardWays" [] S8 := by have := nt []; rwa [List.append_nil] at this
  -- the words
  obtain ⟨E, hE⟩ : ∃ E : Py.Loc, E = [some d0, some (.ref h), f2, some (.int (m : Nat)), some (netD (ladN m)), some (.ref n), some (.ref S3.length), f7, f8, f9, some (.ref (a + 1)), some d, some (.ref S8.length)] := ⟨_, rfl⟩
  have E11 : E[11]? = some (some d) := by rw [hE]; rfl
  have E12 : E[12]? = some (some (.ref S8.length)) := by rw [hE]; rfl
  have E1 : E[1]? = some (some (.ref h)) := by rw [hE]; rfl
  have w1 : sAsg (mLst (mCons (mWord tblW (mCall m_toss_chances (mCons (mVar 11) mNil))) mNil)) (gN 12) [some d0, some (.ref h), f2, some (.int (m : Nat)), some (netD (ladN m)), some (.ref n), some (.ref S3.length), f7, f8, f9, some (.ref (a + 1)), some d, none] S8 = .nx E (S8 ++ [O.lst [netW]]) := by
    rw [hE]
    exact set_of (lst_of (one_of (word_net (call_ex (one_of (var_of rfl)) (e_toss_bad nt0)))) (by simp))
  have w2 := step_net (L := [netW]) E12 (by simp) (call_ex (m := m_prices) (one_of (var_of E11)) (e_prices_bad (nt [O.lst [netW]])))
  have w3 := step_net (L := [netW] ++ [netW]) E12 (by simp) (call_ex (m := m_turned_net) (one_of (var_of E11)) (e_turned_bad (nt [O.lst ([netW] ++ [netW])])))
  have w4 := step_net (L := [netW] ++ [netW] ++ [netW]) E12 (by simp) (call_ex (m := m_by_turns) (two_of (var_of E11) (x_c (.bl true))) (e_by_bad (nt [O.lst ([netW] ++ [netW] ++ [netW])])))
  obtain ⟨L4, hL4⟩ : ∃ L4 : List D, L4 = [netW] ++ [netW] ++ [netW] ++ [netW] := ⟨_, rfl⟩
  rw [← hL4] at w4
  -- the number
  obtain ⟨X4, hX4⟩ : ∃ X4, X4 = S8 ++ [O.lst L4] := ⟨_, rfl⟩
  have HX4 : Hnd X4 h c cells := by rw [hX4, hS8]; exact (H3.app _).app _
  obtain ⟨d5, X5, g5, q9, x5, H5, low5, ni⟩ := e_no_number HX4
  obtain ⟨X6, hX6⟩ : ∃ X6, X6 = X5 ++ g5 ++ [O.lst [d5, .int 0, .int 6]] := ⟨_, rfl⟩
  have HX6 : Hnd X6 h c cells := by rw [hX6]; exact (H5.app _).app _
  have hx5l : X5.length = a + 5 := by rw [x5.len, hX4]; simp [n8]
  obtain ⟨d6, X7, hd6, q10, x7, H7⟩ := any_list HX6 (n := (X5 ++ g5).length) (ds := [d5, .int 0, .int 6]) (by rw [hX6]; simp) (by rw [List.length_append]; omega) (by simp) (by simp) (fun y hy => by
    simp only [List.mem_cons, List.not_mem_nil, or_false] at hy
    rcases hy with rfl | rfl | rfl
    · exact low5 _ (by rw [hX6]; simp)
    · rfl
    · rfl)
  have hw6 : m_is_within [d6, .int 1, .int 5] X7 = .ok (.bl false) X7 := by
    simp only [List.mem_cons, List.not_mem_nil, or_false] at hd6
    rcases hd6 with rfl | rfl | rfl
    · refine ni X7 fun i hi hne => ?_
      rw [x7.at_ hne, hX6, List.getElem?_append_left hi]
    · exact e_within 0 1 5 X7
    · exact e_within 6 1 5 X7
  have hla := e_ladder_bad hw6
  have h4n : X4[S8.length]? = some (.lst L4) := by rw [hX4]; simp
  have hne8 : S8.length ≠ h := by omega
  have h7n : X7[S8.length]? = some (.lst L4) := by
    rw [x7.at_ hne8, hX6, List.append_assoc, List.getElem?_append_left (by omega), x5.at_ hne8]
    exact h4n
  have h7a : X7[a]? = some (.lst [.str "goal"]) := by
    have hah : a ≠ h := by omega
    rw [x7.at_ hah, hX6, List.append_assoc, List.getElem?_append_left (by omega), x5.at_ hah, hX4, List.getElem?_append_left (by omega)]
    exact h8a
  have eW : L4 ++ [D.str "number"] = wordsD := by rw [hL4]; rfl
  obtain ⟨X8, hX8⟩ : ∃ X8, X8 = X7.set S8.length (.lst wordsD) := ⟨_, rfl⟩
  have hap : appD (.ref S8.length) [.str "number"] X7 = some (.non, X8) := by
    rw [hX8, ← eW]
    exact app_at h7n (by rw [hL4]; simp)
  have hll : mLst (mCons (mCall m__law_no_number (mCons (mVar 1) mNil)) (mCons (mC (.int 0)) (mCons (mC (.int 6)) mNil))) E X4 = .ok (.ref (X5 ++ g5).length) X6 := by
    rw [hX6]
    exact lst_of (cons_of (call_of (one_of (var_of E1)) q9) (two_of rfl rfl)) (by simp)
  have w5 : sExp (mMt appD (mVar 12) (mCons (mWord tblW (mCall m_ladder (mCons (mCall m__law_any (mCons (mVar 1) (mCons (mLst (mCons (mCall m__law_no_number (mCons (mVar 1) mNil)) (mCons (mC (.int 0)) (mCons (mC (.int 6)) mNil)))) mNil))) mNil))) mNil)) E X4 = .nx E X8 :=
    exp_of (mt_of (f := appD) (c := .non) (var_of E12) (isL_at h4n) (one_of (word_ex (w := .str "number") (call_ex (one_of (call_of (two_of (var_of E1) hll) q10)) hla) rfl)) hap)
  -- the end
  have h7l := (List.getElem?_eq_some_iff.mp h7n).1
  have h8n : X8[S8.length]? = some (.lst wordsD) := by rw [hX8, List.getElem?_set_self h7l]
  have h8a2 : X8[a]? = some (.lst [.str "goal"]) := by rw [hX8, List.getElem?_set_ne (by omega)]; exact h7a
  obtain ⟨U, hU⟩ : ∃ U : Store, U = [O.lst [netW], O.lst [netW, netW, netW, netW], O.lst [.str "number"], O.lst wordsD] := ⟨_, rfl⟩
  have hrhs := words_rhs X8 E
  rw [← hU] at hrhs
  have heq : eqD (.ref S8.length) (.ref (X8.length + 3)) (X8 ++ U) = some (.bl true, X8 ++ U) := eq_words (by rw [List.getElem?_append_left (List.getElem?_eq_some_iff.mp h8n).1]; exact h8n) (by rw [hU]; simp)
  have hin : m_is_net [d] (X8 ++ U) = .ok (.bl false) (X8 ++ U) := nn _ ⟨_, by rw [List.getElem?_append_left (List.getElem?_eq_some_iff.mp h8a2).1]; exact h8a2⟩
  have hisd : isD2 (.bl false) (.bl false) (X8 ++ U) = some (.bl true, X8 ++ U) := rfl
  have hb : b_law (startE N_law [d0]) st0 = .rt (.bl true) (X8 ++ U) := by
    refine seq_nx (e' := [some d0, some (.ref h), none, none, none, none, none, none, none, none, none, none, none]) (set_of (call_of (one_of (var_of rfl)) hh)) ?_
    refine seq_nx (for_of (rgs_of (one_of rfl) (rg1 6 (by omega))) q1) ?_
    refine seq_nx (set_of (op2_of rfl (call_of (two_of (var_of rfl) rfl) q2) hadd)) ?_
    refine seq_nx (e' := [some d0, some (.ref h), f2, some (.int (m : Nat)), some (netD (ladN m)), some (.ref n), none, none, none, none, none, none, none]) (asg_of (call_of (one_of (var_of rfl)) q3) rfl) ?_
    refine seq_nx (if_f (or_f (not_of (k := true) (asB_ok (call_of (two_of (call_of (one_of (var_of rfl)) q4) (var_of rfl)) i1))) (not_of (k := true) (asB_ok (call_of (one_of (var_of rfl)) q5)))) rfl) ?_
    refine seq_nx (set_of (lst_of rfl (by simp))) ?_
    have hit : itD (.ref n) (S3 ++ [O.lst (([] : List Rat).map frD)]) = some ⟨I, stillD (.ref n) I⟩ := by
      have hs : seqOf (.ref n) (S3 ++ [O.lst (([] : List Rat).map frD)]) = some I := getL_at (by rw [hI, List.getElem?_append_left hnlt]; exact hn3)
      exact itD_seq hs
    refine seq_nx (for_of (it_of (var_of rfl) hit) q6) ?_
    refine seq_nx (if_f (not_of (k := true) (asB_ok (call_of (two_of (call_of (one_of (var_of rfl)) q7) (opN_of (f := tupD) (one_of (var_of rfl)) hdu)) i2))) rfl) ?_
    refine seq_nx (set_of (l1 _)) ?_
    refine seq_nx (set_of (call_of (two_of (var_of rfl) (l2 _ rfl)) q8)) ?_
    refine seq_nx w1 (seq_nx w2 (seq_nx w3 (seq_nx w4 ?_)))
    rw [← hX4]
    exact seq_nx w5 (seq_rt (ret_of (andV_t (op2_of (var_of E12) hrhs heq) (op2_of (call_of (one_of (var_of E11)) hin) rfl hisd))))
  refine ⟨(gc st0 (.bl true) (X8 ++ U)).2, ?_⟩
  unfold m_law runD
  rw [hb]
  simp only [gc_true]
end K99
theorem K99.law_ok (_ : Py.Tb) (ns : List Int) (h : ns.length ≤ 63) : Py.HoldsAt K99.m_law ns := ⟨K99.law_holds h (K99.cut_lst ns h), K99.law_holds h (K99.cut_frz ns h), K99.law_holds h (K99.cut_kl ns h)⟩

open PySem PySem.W PyProof.Rows
set_option maxHeartbeats 0 in
theorem PySem.Challenge.cw_stuckloses_k99_whole_chances_and_turns_holds : PySem.Challenge.rw_stuckloses_k99_whole_chances_and_turns.Holds := by
  w_on; o_law; k_head; (case hw => w_witness2)
  k_fill
  refine Py.walk_all (l := PySem.Challenge.rw_stuckloses_k99_whole_chances_and_turns) (n := 63) (k := 8) (x := "script") (CX := fun w => L2.CX PySem.Challenge.rw_stuckloses_k99_whole_chances_and_turns.prog w) rfl (by decide) rfl ⟨rfl, by decide, by decide⟩ (fun w h Y => PySem.W.km_in_of Y) ?F (fun _ H s e s' h => Py.no_cx H s e s' h)
  case F =>
    intro w mg fa h KX G hmg AT
    refine' K99.fin K99.law_ok KX G hmg AT ?a0 ?l0 ?c0 ?k0 ?a1 ?l1 ?c1 ?k1 ?a2 ?l2 ?c2 ?k2 ?a3 ?l3 ?c3 ?k3 ?a4 ?l4 ?c4 ?k4 ?a5 ?l5 ?c5 ?k5 ?a6 ?l6 ?c6 ?k6 ?a7 ?l7 ?c7 ?k7 ?a8 ?l8 ?c8 ?k8 ?a9 ?l9 ?c9 ?k9 ?a10 ?l10 ?c10 ?k10 ?a11 ?l11 ?c11 ?k11 ?a12 ?l12 ?c12 ?k12 ?a13 ?l13 ?c13 ?k13 ?a14 ?l14 ?c14 ?k14 ?a15 ?l15 ?c15 ?k15 ?a16 ?l16 ?c16 ?k16 ?a17 ?l17 ?c17 ?k17 ?a18 ?l18 ?c18 ?k18 ?a19 ?l19 ?c19 ?k19 ?a20 ?l20 ?c20 ?k20 ?a21 ?l21 ?c21 ?k21 ?a22 ?l22 ?c22 ?k22 ?a23 ?l23 ?c23 ?k23 ?a24 ?l24 ?c24 ?k24 ?a25 ?l25 ?c25 ?k25 ?a26 ?l26 ?c26 ?k26 ?a27 ?l27 ?c27 ?k27 ?a28 ?l28 ?c28 ?k28 ?a29 ?l29 ?c29 ?k29 ?a30 ?l30 ?c30 ?k30 ?a31 ?l31 ?c31 ?k31 ?a32 ?l32 ?c32 ?k32 ?a33 ?l33 ?c33 ?k33 ?o33 ?w33 ?n33 ?r33 ?a34 ?l34 ?c34 ?k34 ?pn ?z0 ?z1 ?z2 ?z3 ?z4 ?z5 ?z6 ?z7 ?z8 ?z9 ?z10 ?z11 ?z12 ?z13 ?z14 ?z15 ?z16 ?y_PlayError ?y_BadBoard ?y_BadBoardWays ?y_BadGame ?y_BadNumber ?y_BadOrder ?y_BadRule ?y_BadStrip ?y_BadWays ?y_TooMany ?x1_BadBoardWays ?x2_BadBoardWays ?x3_BadBoardWays ?x4_BadBoardWays ?h1_BadBoardWays ?h2_BadBoardWays ?h4_BadBoardWays ?h5_BadBoardWays ?h6_BadBoardWays ?h7_BadBoardWays ?h8_BadBoardWays ?t0_BadBoardWays ?t1_BadBoardWays ?t2_BadBoardWays ?t3_BadBoardWays ?t4_BadBoardWays ?t5_BadBoardWays ?t6_BadBoardWays ?t7_BadBoardWays ?t8_BadBoardWays ?t9_BadBoardWays ?t10_BadBoardWays ?x1_BadNumber ?x2_BadNumber ?x3_BadNumber ?x4_BadNumber ?h1_BadNumber ?h2_BadNumber ?h4_BadNumber ?h5_BadNumber ?h6_BadNumber ?h7_BadNumber ?h8_BadNumber ?t0_BadNumber ?t1_BadNumber ?t2_BadNumber ?t3_BadNumber ?t4_BadNumber ?t5_BadNumber ?t6_BadNumber ?t7_BadNumber ?t8_BadNumber ?t9_BadNumber ?t10_BadNumber ?u1_PlayError ?u2_PlayError ?u1_BadBoard ?u2_BadBoard ?u1_BadBoardWays ?u2_BadBoardWays ?u1_BadGame ?u2_BadGame ?u1_BadNumber ?u2_BadNumber ?u1_BadOrder ?u2_BadOrder ?u1_BadRule ?u2_BadRule ?u1_BadStrip ?u2_BadStrip ?u1_BadWays ?u2_BadWays ?u1_TooMany ?u2_TooMany ?u3 ?v_BadBoardWays_BadBoard ?v_BadBoardWays_BadGame ?v_BadBoardWays_BadNumber ?v_BadBoardWays_BadOrder ?v_BadBoardWays_BadRule ?v_BadBoardWays_BadStrip ?v_BadBoardWays_BadWays ?v_BadBoardWays_TooMany ?v_BadNumber_BadBoard ?v_BadNumber_BadGame ?v_BadNumber_BadBoardWays ?v_BadNumber_BadOrder ?v_BadNumber_BadRule ?v_BadNumber_BadStrip ?v_BadNumber_BadWays ?v_BadNumber_TooMany ?g2a ?g1a ?g0a
    (case a0 => k_is)
    (case l0 => k_is)
    (case c0 => k_is)
    (case k0 => k_is)
    (case a1 => k_is)
    (case l1 => k_is)
    (case c1 => k_is)
    (case k1 => k_is)
    (case a2 => k_is)
    (case l2 => k_is)
    (case c2 => k_is)
    (case k2 => k_is)
    (case a3 => k_is)
    (case l3 => k_is)
    (case c3 => k_is)
    (case k3 => k_is)
    (case a4 => k_is)
    (case l4 => k_is)
    (case c4 => k_is)
    (case k4 => k_is)
    (case a5 => k_is)
    (case l5 => k_is)
    (case c5 => k_is)
    (case k5 => k_is)
    (case a6 => k_is)
    (case l6 => k_is)
    (case c6 => k_is)
    (case k6 => k_is)
    (case a7 => k_is)
    (case l7 => k_is)
    (case c7 => k_is)
    (case k7 => k_is)
    (case a8 => k_is)
    (case l8 => k_is)
    (case c8 => k_is)
    (case k8 => k_is)
    (case a9 => k_is)
    (case l9 => k_is)
    (case c9 => k_is)
    (case k9 => k_is)
    (case a10 => k_is)
    (case l10 => k_is)
    (case c10 => k_is)
    (case k10 => k_is)
    (case a11 => k_is)
    (case l11 => k_is)
    (case c11 => k_is)
    (case k11 => k_is)
    (case a12 => k_is)
    (case l12 => k_is)
    (case c12 => k_is)
    (case k12 => k_is)
    (case a13 => k_is)
    (case l13 => k_is)
    (case c13 => k_is)
    (case k13 => k_is)
    (case a14 => k_is)
    (case l14 => k_is)
    (case c14 => k_is)
    (case k14 => k_is)
    (case a15 => k_is)
    (case l15 => k_is)
    (case c15 => k_is)
    (case k15 => k_is)
    (case a16 => k_is)
    (case l16 => k_is)
    (case c16 => k_is)
    (case k16 => k_is)
    (case a17 => k_is)
    (case l17 => k_is)
    (case c17 => k_is)
    (case k17 => k_is)
    (case a18 => k_is)
    (case l18 => k_is)
    (case c18 => k_is)
    (case k18 => k_is)
    (case a19 => k_is)
    (case l19 => k_is)
    (case c19 => k_is)
    (case k19 => k_is)
    (case a20 => k_is)
    (case l20 => k_is)
    (case c20 => k_is)
    (case k20 => k_is)
    (case a21 => k_is)
    (case l21 => k_is)
    (case c21 => k_is)
    (case k21 => k_is)
    (case a22 => k_is)
    (case l22 => k_is)
    (case c22 => k_is)
    (case k22 => k_is)
    (case a23 => k_is)
    (case l23 => k_is)
    (case c23 => k_is)
    (case k23 => k_is)
    (case a24 => k_is)
    (case l24 => k_is)
    (case c24 => k_is)
    (case k24 => k_is)
    (case a25 => k_is)
    (case l25 => k_is)
    (case c25 => k_is)
    (case k25 => k_is)
    (case a26 => k_is)
    (case l26 => k_is)
    (case c26 => k_is)
    (case k26 => k_is)
    (case a27 => k_is)
    (case l27 => k_is)
    (case c27 => k_is)
    (case k27 => k_is)
    (case a28 => k_is)
    (case l28 => k_is)
    (case c28 => k_is)
    (case k28 => k_is)
    (case a29 => k_is)
    (case l29 => k_is)
    (case c29 => k_is)
    (case k29 => k_is)
    (case a30 => k_is)
    (case l30 => k_is)
    (case c30 => k_is)
    (case k30 => k_is)
    (case a31 => k_is)
    (case l31 => k_is)
    (case c31 => k_is)
    (case k31 => k_is)
    (case a32 => k_is)
    (case l32 => k_is)
    (case c32 => k_is)
    (case k32 => k_is)
    (case a33 => k_is)
    (case l33 => k_is)
    (case c33 => k_is)
    (case k33 => k_is)
    (case o33 => k_is)
    (case w33 => exact ⟨⟨_, _, _, _, _, _, _, _, rfl, rfl, rfl, rfl, rfl, rfl, rfl, rfl, by decide⟩⟩)
    (case n33 => first | rfl | kernel_rfl)
    (case r33 => decide +kernel)
    (case a34 => k_is)
    (case l34 => k_is)
    (case c34 => k_is)
    (case k34 => k_is)
    (case pn => decide)
    (case z0 => k_is)
    (case z1 => k_is)
    (case z2 => k_is)
    (case z3 => k_is)
    (case z4 => k_is)
    (case z5 => k_is)
    (case z6 => k_is)
    (case z7 => k_is)
    (case z8 => k_is)
    (case z9 => k_is)
    (case z10 => k_is)
    (case z11 => k_is)
    (case z12 => k_is)
    (case z13 => k_is)
    (case z14 => k_is)
    (case z15 => k_is)
    (case z16 => k_is)
    (case y_PlayError => k_is)
    (case y_BadBoard => k_is)
    (case y_BadBoardWays => k_is)
    (case y_BadGame => k_is)
    (case y_BadNumber => k_is)
    (case y_BadOrder => k_is)
    (case y_BadRule => k_is)
    (case y_BadStrip => k_is)
    (case y_BadWays => k_is)
    (case y_TooMany => k_is)
    (case x1_BadBoardWays => k_exc)
    (case x2_BadBoardWays => k_is)
    (case x3_BadBoardWays => k_is)
    (case x4_BadBoardWays => k_is)
    (case h1_BadBoardWays => k_is)
    (case h2_BadBoardWays => k_is)
    (case h4_BadBoardWays => k_is)
    (case h5_BadBoardWays => k_is)
    (case h6_BadBoardWays => k_is)
    (case h7_BadBoardWays => k_is)
    (case h8_BadBoardWays => k_is)
    (case t0_BadBoardWays => k_is)
    (case t1_BadBoardWays => k_is)
    (case t2_BadBoardWays => k_is)
    (case t3_BadBoardWays => k_is)
    (case t4_BadBoardWays => k_is)
    (case t5_BadBoardWays => k_is)
    (case t6_BadBoardWays => k_is)
    (case t7_BadBoardWays => k_is)
    (case t8_BadBoardWays => k_is)
    (case t9_BadBoardWays => k_is)
    (case t10_BadBoardWays => k_is)
    (case x1_BadNumber => k_exc)
    (case x2_BadNumber => k_is)
    (case x3_BadNumber => k_is)
    (case x4_BadNumber => k_is)
    (case h1_BadNumber => k_is)
    (case h2_BadNumber => k_is)
    (case h4_BadNumber => k_is)
    (case h5_BadNumber => k_is)
    (case h6_BadNumber => k_is)
    (case h7_BadNumber => k_is)
    (case h8_BadNumber => k_is)
    (case t0_BadNumber => k_is)
    (case t1_BadNumber => k_is)
    (case t2_BadNumber => k_is)
    (case t3_BadNumber => k_is)
    (case t4_BadNumber => k_is)
    (case t5_BadNumber => k_is)
    (case t6_BadNumber => k_is)
    (case t7_BadNumber => k_is)
    (case t8_BadNumber => k_is)
    (case t9_BadNumber => k_is)
    (case t10_BadNumber => k_is)
    (case u1_PlayError => k_is)
    (case u2_PlayError => k_is)
    (case u1_BadBoard => k_is)
    (case u2_BadBoard => k_is)
    (case u1_BadBoardWays => k_is)
    (case u2_BadBoardWays => k_is)
    (case u1_BadGame => k_is)
    (case u2_BadGame => k_is)
    (case u1_BadNumber => k_is)
    (case u2_BadNumber => k_is)
    (case u1_BadOrder => k_is)
    (case u2_BadOrder => k_is)
    (case u1_BadRule => k_is)
    (case u2_BadRule => k_is)
    (case u1_BadStrip => k_is)
    (case u2_BadStrip => k_is)
    (case u1_BadWays => k_is)
    (case u2_BadWays => k_is)
    (case u1_TooMany => k_is)
    (case u2_TooMany => k_is)
    (case u3 => k_is)
    (case v_BadBoardWays_BadBoard => decide)
    (case v_BadBoardWays_BadGame => decide)
    (case v_BadBoardWays_BadNumber => decide)
    (case v_BadBoardWays_BadOrder => decide)
    (case v_BadBoardWays_BadRule => decide)
    (case v_BadBoardWays_BadStrip => decide)
    (case v_BadBoardWays_BadWays => decide)
    (case v_BadBoardWays_TooMany => decide)
    (case v_BadNumber_BadBoard => decide)
    (case v_BadNumber_BadGame => decide)
    (case v_BadNumber_BadBoardWays => decide)
    (case v_BadNumber_BadOrder => decide)
    (case v_BadNumber_BadRule => decide)
    (case v_BadNumber_BadStrip => decide)
    (case v_BadNumber_BadWays => decide)
    (case v_BadNumber_TooMany => decide)
    (case g2a => k_is)
    (case g1a => k_is)
    (case g0a => k_is)
