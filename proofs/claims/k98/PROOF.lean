import PyProof.Rows.All
import Wide.All
import OpenK.AllK
import Wide.FinOn
import HandS.ForMost
import HandS.ForExc
import HandS.Wide
import HandS.CallSlots
import HandS.ExcOwn
import HandS.WordsExc
import HandS.Style
import HandS.TupAny
import HandS.TupMul
import HandS.WideBits
import HandS.Deep
import HandS.IsInst
import HandS.Conv
import KE.DataMinMax
import KE.SortData
import HandS.More
import PyProof.ListStr
import HandS.WordsDict
import HandS.DictComp
import HandS.Zip
import HandS.Rev
import KE.GoesEnum
import HandS.RevRange
import HandS.Iter
import KE.BitLaws
import PySem.Challenge.RW_stuckloses_k98_whole_coins_and_twos
set_option Elab.async false
set_option linter.all false
set_option maxRecDepth 100000
set_option maxHeartbeats 1000000
namespace Py
open PySem PySem.Spec PyProof.Rows L2

/-- a value -/
inductive D where
  | non | bl (b : Bool) | int (i : Int) | str (s : Str) | tup (ds : List D) | ref (n : Nat) | gl (x : Str) | kt (ds : List D) | kl (ds : List D)
/-- an object -/
inductive O where
  | lst (ds : List D)
  | frz (ds : List D)
  | dict (kvs : List (D × D))
  | ins (c : Str) (fs : List (Str × D))
abbrev Store := List O
abbrev Loc := List (Option D)
inductive R (α : Type) where
  | ok (a : α) (st : Store)
  | ex (c : Str) (pl : List (Str × D)) (st : Store)
  | stuck
def R.bind {α β : Type} (r : R α) (f : α → Store → R β) : R β :=
  match r with
  | .ok a st => f a st
  | .ex c p st => .ex c p st
  | .stuck => .stuck
@[simp] theorem R.bind_ok {α β : Type} (a : α) (st : Store) (f : α → Store → R β) : (R.ok a st).bind f = f a st := rfl
@[simp] theorem R.bind_ex {α β : Type} (c : Str) (p : List (Str × D)) (st : Store) (f : α → Store → R β) : (R.ex c p st : R α).bind f = .ex c p st := rfl
@[simp] theorem R.bind_stuck {α β : Type} (f : α → Store → R β) : (R.stuck : R α).bind f = .stuck := rfl

def keyD : D → Option Key
  | .int i => some (.inl i)
  | .str s => some (.inr s)
  | _ => none
def keyDs : List D → Option (List Key)
  | [] => some []
  | d :: ds => match keyD d, keyDs ds with | some k, some ks => some (k :: ks) | _, _ => none
def keyT : D → Option (List Key)
  | .tup ds => keyDs ds
  | _ => none

section
variable (K : PySem.W.Frag) (mg : Str → Option Value)
mutual
def RD (ρ : List Addr) (H : Hp) : D → V → Prop
  | .non, v => v = .non
  | .bl b, v => v = .bl b
  | .int i, v => v = .int i
  | .str s, v => v = .str s
  | .tup ds, v => ∃ a xs, v = .ref a ∧ H a = some (.tup xs) ∧ RDs ρ H ds xs
  | .kt ds, v => ∃ (a : Addr) (xs : List V) (o : Obj) (its : Array Value) (n : Nat), v = .ref a ∧ (K.lookup a = some o ∧ o.cls = .type "tuple" ∧ o.data = .seq its n ∧ its.size ≤ sizeLine ∧ Vals xs its.toList) ∧ RDs ρ H ds xs
  | .kl ds, v => ∃ (a : Addr) (xs : List V) (o : Obj) (its : Array Value) (n : Nat), v = .ref a ∧ (K.lookup a = some o ∧ o.cls = .type "list" ∧ o.dict = none ∧ o.data = .seq its n ∧ its.size ≤ sizeLine ∧ Vals xs its.toList) ∧ RDs ρ H ds xs
  | .ref n, v => ∃ a, v = .ref a ∧ ρ[n]? = some a
  | .gl x, v => ∃ u, mg x = some u ∧ RelV v u
def RDs (ρ : List Addr) (H : Hp) : List D → List V → Prop
  | [], vs => vs = []
  | d :: ds, vs => ∃ x xs, vs = x :: xs ∧ RD ρ H d x ∧ RDs ρ H ds xs
end
structure Ext (_K : PySem.W.Frag) (ρ : List Addr) (H : Hp) (ρ' : List Addr) (H' : Hp) : Prop where
  pre : ∀ (n : Nat) (a : Addr), ρ[n]? = some a → ρ'[n]? = some a
  tup : ∀ (a : Addr) (xs : List V), H a = some (.tup xs) → H' a = some (.tup xs)
  frm : ∀ (a : Addr) (u : HO), H a = some u → a ∉ ρ → H' a = some u
  new_ : ∀ (a : Addr), a ∈ ρ' → a ∉ ρ → H a = none
def RKV (ρ : List Addr) (H : Hp) : List (D × D) → List (Key × V) → Prop := Paired fun p q => keyD p.1 = some q.1 ∧ RD K mg ρ H p.2 q.2
def RKT (ρ : List Addr) (H : Hp) : List (D × D) → List (List Key × V) → Prop := Paired fun p q => keyT p.1 = some q.1 ∧ RD K mg ρ H p.2 q.2
def RFS (ρ : List Addr) (H : Hp) : List (Str × D) → List (Str × V) → Prop := Paired fun p q => p.1 = q.1 ∧ RD K mg ρ H p.2 q.2
def RO (ρ : List Addr) (H : Hp) (a : Addr) : O → Prop
  | .lst ds => ∃ vs, H a = some (.lst vs) ∧ RDs K mg ρ H ds vs
  | .frz ds => ∃ o vs, H a = some (.frz o (.lst vs)) ∧ RDs K mg ρ H ds vs
  | .dict kvs => (∃ ks, H a = some (.dK ks) ∧ RKV K mg ρ H kvs ks) ∨ (∃ ks, H a = some (.dT ks) ∧ RKT K mg ρ H kvs ks) ∧ kvs ≠ []
  | .ins c fs => ∃ C dx vs, mg c = some (.ref C) ∧ H a = some (.ins C dx vs) ∧ RFS K mg ρ H fs vs
structure RS (ρ : List Addr) (H : Hp) (st : Store) : Prop where
  len : ρ.length = st.length
  nd : ρ.Nodup
  ob : ∀ (n : Nat) (a : Addr) (o : O), ρ[n]? = some a → st[n]? = some o → RO K mg ρ H a o
structure RE (ρ : List Addr) (H : Hp) (σ : L2.St) (e : Loc) : Prop where
  len : σ.length = e.length
  at_ : ∀ (i : Nat) (d : D), e[i]? = some (some d) → ∃ v, σ[i]? = some (some v) ∧ RD K mg ρ H d v
def RX (ρ : List Addr) (H : Hp) (c : Str) (pl : List (Str × D)) (cls : Value) (dd : Option Addr) : Prop :=
  ∃ C, mg c = some (.ref C) ∧ cls = .ref C ∧ ((pl = [] ∧ dd = none) ∨ ∃ d fs, dd = some d ∧ H d = some (.xd fs) ∧ RFS K mg ρ H pl fs)
end

section
variable {K : PySem.W.Frag} {mg : Str → Option Value} {ρ ρ' ρ'' : List Addr} {H H' H'' : Hp}
theorem Ext.refl : Ext K ρ H ρ H := ⟨fun _ _ h => h, fun _ _ h => h, fun _ _ h _ => h, fun _ h n => absurd h n⟩
theorem Ext.trans (a : Ext K ρ H ρ' H') (b : Ext K ρ' H' ρ'' H'') : Ext K ρ H ρ'' H'' := ⟨fun n x h => b.pre n x (a.pre n x h), fun x xs h => b.tup x xs (a.tup x xs h),
  fun x u h n => b.frm x u (a.frm x u h n) (fun hm => by have := a.new_ x hm n; rw [h] at this; cases this),
  fun x hx n => by
    by_cases hm : x ∈ ρ'
    · exact a.new_ x hm n
    · have h1 := b.new_ x hx hm
      cases q : H x with
      | none => rfl
      | some u => rw [a.frm x u q n] at h1; cases h1⟩
/-- the part of Ext that values ask -/
structure Wk (K : PySem.W.Frag) (ρ : List Addr) (H : Hp) (ρ' : List Addr) (H' : Hp) : Prop where
  pre : ∀ (n : Nat) (a : Addr), ρ[n]? = some a → ρ'[n]? = some a
  tup : ∀ (a : Addr) (xs : List V), H a = some (.tup xs) → H' a = some (.tup xs)
theorem Ext.wk (x : Ext K ρ H ρ' H') : Wk K ρ H ρ' H' := ⟨x.pre, x.tup⟩
theorem Wk.refl : Wk K ρ H ρ H := ⟨fun _ _ h => h, fun _ _ h => h⟩
theorem Wk.trans (a : Wk K ρ H ρ' H') (b : Wk K ρ' H' ρ'' H'') : Wk K ρ H ρ'' H'' := ⟨fun n x h => b.pre n x (a.pre n x h), fun x xs h => b.tup x xs (a.tup x xs h)⟩
mutual
theorem RD.mo (x : Wk K ρ H ρ' H') : ∀ {d : D} {v : V}, RD K mg ρ H d v → RD K mg ρ' H' d v
  | .non, _, h => by simp only [RD] at h ⊢; exact h
  | .bl _, _, h => by simp only [RD] at h ⊢; exact h
  | .int _, _, h => by simp only [RD] at h ⊢; exact h
  | .str _, _, h => by simp only [RD] at h ⊢; exact h
  | .tup ds, _, h => by
    simp only [RD] at h ⊢
    obtain ⟨a, xs, e, s, r⟩ := h
    exact ⟨a, xs, e, x.tup _ _ s, RDs.mo x r⟩
  | .kt ds, _, h => by
    simp only [RD] at h ⊢
    obtain ⟨a, xs, o, its, n, e, s, r⟩ := h
    exact ⟨a, xs, o, its, n, e, s, RDs.mo x r⟩
  | .kl ds, _, h => by
    simp only [RD] at h ⊢
    obtain ⟨a, xs, o, its, n, e, s, r⟩ := h
    exact ⟨a, xs, o, its, n, e, s, RDs.mo x r⟩
  | .ref _, _, h => by
    simp only [RD] at h ⊢
    obtain ⟨a, e, s⟩ := h
    exact ⟨a, e, x.pre _ _ s⟩
  | .gl _, _, h => by simp only [RD] at h ⊢; exact h
theorem RDs.mo (x : Wk K ρ H ρ' H') : ∀ {ds : List D} {vs : List V}, RDs K mg ρ H ds vs → RDs K mg ρ' H' ds vs
  | [], _, h => by simp only [RDs] at h ⊢; exact h
  | d :: ds, _, h => by
    simp only [RDs] at h ⊢
    obtain ⟨y, ys, e, h1, h2⟩ := h
    exact ⟨y, ys, e, RD.mo x h1, RDs.mo x h2⟩
end
theorem RD.mono (x : Ext K ρ H ρ' H') {d : D} {v : V} (h : RD K mg ρ H d v) : RD K mg ρ' H' d v := h.mo x.wk
theorem RDs.mono (x : Ext K ρ H ρ' H') {d : List D} {v : List V} (h : RDs K mg ρ H d v) : RDs K mg ρ' H' d v := h.mo x.wk
theorem RDs.length : ∀ {ds : List D} {vs : List V}, RDs K mg ρ H ds vs → ds.length = vs.length
  | [], _, h => by simp only [RDs] at h; rw [h]; rfl
  | d :: ds, _, h => by
    simp only [RDs] at h
    obtain ⟨y, ys, e, h1, h2⟩ := h
    rw [e, List.length_cons, List.length_cons, RDs.length h2]
theorem RDs.get : ∀ {ds : List D} {vs : List V} {i : Nat} {d : D}, RDs K mg ρ H ds vs → ds[i]? = some d → ∃ v, vs[i]? = some v ∧ RD K mg ρ H d v
  | [], _, _, _, _, e => by simp at e
  | d :: ds, _, i, x, h, e => by
    simp only [RDs] at h
    obtain ⟨y, ys, rfl, h1, h2⟩ := h
    cases i with
    | zero => simp at e; subst e; exact ⟨y, rfl, h1⟩
    | succ i =>
      obtain ⟨v, a, b⟩ := RDs.get (i := i) h2 (by simpa using e)
      exact ⟨v, by simpa using a, b⟩
theorem RDs.get' : ∀ {ds : List D} {vs : List V} {i : Nat} {v : V}, RDs K mg ρ H ds vs → vs[i]? = some v → ∃ d, ds[i]? = some d ∧ RD K mg ρ H d v
  | [], _, _, _, h, e => by simp only [RDs] at h; subst h; simp at e
  | d :: ds, _, i, x, h, e => by
    simp only [RDs] at h
    obtain ⟨y, ys, rfl, h1, h2⟩ := h
    cases i with
    | zero => simp at e; subst e; exact ⟨d, rfl, h1⟩
    | succ i =>
      obtain ⟨v, a, b⟩ := RDs.get' (i := i) h2 (by simpa using e)
      exact ⟨v, by simpa using a, b⟩
theorem RDs.append : ∀ {ds es : List D} {vs us : List V}, RDs K mg ρ H ds vs → RDs K mg ρ H es us → RDs K mg ρ H (ds ++ es) (vs ++ us)
  | [], _, _, _, h, q => by simp only [RDs] at h; subst h; exact q
  | d :: ds, _, _, _, h, q => by
    simp only [RDs] at h
    obtain ⟨y, ys, rfl, h1, h2⟩ := h
    show RDs K mg ρ H (d :: (ds ++ _)) (y :: (ys ++ _))
    simp only [RDs]
    exact ⟨y, _, rfl, h1, RDs.append h2 q⟩
theorem RDs.nil : RDs K mg ρ H [] [] := by simp only [RDs]
theorem RDs.cons {d : D} {ds : List D} {v : V} {vs : List V} (h : RD K mg ρ H d v) (t : RDs K mg ρ H ds vs) : RDs K mg ρ H (d :: ds) (v :: vs) := by
  simp only [RDs]; exact ⟨v, vs, rfl, h, t⟩
theorem RDs.uncons {d : D} {ds : List D} {vs : List V} (h : RDs K mg ρ H (d :: ds) vs) : ∃ x xs, vs = x :: xs ∧ RD K mg ρ H d x ∧ RDs K mg ρ H ds xs := by
  simpa only [RDs] using h
theorem RDs.take : ∀ {ds : List D} {vs : List V} (n : Nat), RDs K mg ρ H ds vs → RDs K mg ρ H (ds.take n) (vs.take n)
  | _, _, 0, _ => .nil
  | [], _, _ + 1, h => by simp only [RDs] at h; subst h; exact .nil
  | d :: ds, _, n + 1, h => by
    obtain ⟨y, ys, rfl, h1, h2⟩ := h.uncons
    exact .cons h1 (RDs.take n h2)
theorem RDs.drop : ∀ {ds : List D} {vs : List V} (n : Nat), RDs K mg ρ H ds vs → RDs K mg ρ H (ds.drop n) (vs.drop n)
  | _, _, 0, h => h
  | [], _, _ + 1, h => by simp only [RDs] at h; subst h; exact .nil
  | d :: ds, _, n + 1, h => by
    obtain ⟨y, ys, rfl, h1, h2⟩ := h.uncons
    exact RDs.drop n h2
theorem RDs.set {d : D} {v : V} (r : RD K mg ρ H d v) : ∀ {ds : List D} {vs : List V} (n : Nat), RDs K mg ρ H ds vs → RDs K mg ρ H (ds.set n d) (vs.set n v)
  | [], _, _, h => by simp only [RDs] at h; subst h; exact .nil
  | _ :: ds, _, n, h => by
    obtain ⟨y, ys, rfl, h1, h2⟩ := h.uncons
    cases n with
    | zero => exact .cons r h2
    | succ n => exact .cons h1 (RDs.set r n h2)
theorem Paired.imp {α β : Type} {F G : α → β → Prop} (f : ∀ a b, F a b → G a b) : ∀ {l₁ : List α} {l₂ : List β}, Paired F l₁ l₂ → Paired G l₁ l₂
  | _, _, .nil => .nil
  | _, _, .cons r t => .cons (f _ _ r) (Paired.imp f t)
theorem RO.mo {a : Addr} {o : O} (x : Wk K ρ H ρ' H') (h : RO K mg ρ H a o) (k : ∀ u, H a = some u → H' a = some u) : RO K mg ρ' H' a o := by
  cases o with
  | lst ds => obtain ⟨vs, e, r⟩ := h; exact ⟨vs, k _ e, r.mo x⟩
  | frz ds => obtain ⟨o, vs, e, r⟩ := h; exact ⟨o, vs, k _ e, r.mo x⟩
  | dict kvs =>
    rcases h with ⟨ks, e, r⟩ | ⟨⟨ks, e, r⟩, ne⟩
    · exact .inl ⟨ks, k _ e, Paired.imp (fun _ _ q => ⟨q.1, q.2.mo x⟩) r⟩
    · exact .inr ⟨⟨ks, k _ e, Paired.imp (fun _ _ q => ⟨q.1, q.2.mo x⟩) r⟩, ne⟩
  | ins c fs => obtain ⟨C, dx, vs, m, e, r⟩ := h; exact ⟨C, dx, vs, m, k _ e, Paired.imp (fun _ _ q => ⟨q.1, q.2.mo x⟩) r⟩
theorem RO.mono {a : Addr} {o : O} (x : Ext K ρ H ρ' H') (h : RO K mg ρ H a o) (k : ∀ u, H a = some u → H' a = some u) : RO K mg ρ' H' a o := h.mo x.wk k
theorem RO.is {a : Addr} {o : O} (h : RO K mg ρ H a o) : ∃ u, H a = some u ∧ ∀ xs, H a ≠ some (.tup xs) := by
  have aux : ∀ u, H a = some u → (∀ xs, u ≠ .tup xs) → ∃ u, H a = some u ∧ ∀ xs, H a ≠ some (.tup xs) := fun u e h1 => ⟨u, e, fun xs r => by rw [e] at r; exact h1 xs (Option.some.inj r)⟩
  cases o with
  | lst ds => obtain ⟨vs, e, r⟩ := h; exact aux _ e (fun _ z => nomatch z)
  | frz ds => obtain ⟨o, vs, e, r⟩ := h; exact aux _ e (fun _ z => nomatch z)
  | dict kvs =>
    rcases h with ⟨ks, e, r⟩ | ⟨⟨ks, e, r⟩, ne⟩
    · exact aux _ e (fun _ z => nomatch z)
    · exact aux _ e (fun _ z => nomatch z)
  | ins c fs => obtain ⟨C, dx, vs, m, e, r⟩ := h; exact aux _ e (fun _ z => nomatch z)
theorem RS.at_ {st : Store} {n : Nat} {o : O} (h : RS K mg ρ H st) (e : st[n]? = some o) : ∃ a, ρ[n]? = some a ∧ RO K mg ρ H a o := by
  have hn : n < ρ.length := by rw [h.len]; exact (List.getElem?_eq_some_iff.mp e).1
  exact ⟨ρ[n], List.getElem?_eq_getElem hn, h.ob n _ _ (List.getElem?_eq_getElem hn) e⟩
theorem RS.of_ {st : Store} {n : Nat} {a : Addr} (h : RS K mg ρ H st) (e : ρ[n]? = some a) : ∃ o, st[n]? = some o ∧ RO K mg ρ H a o := by
  have hn : n < st.length := by rw [← h.len]; exact (List.getElem?_eq_some_iff.mp e).1
  exact ⟨st[n], List.getElem?_eq_getElem hn, h.ob n _ _ e (List.getElem?_eq_getElem hn)⟩
theorem tup_new {p : Addr} {ho : HO} {a : Addr} {xs : List V} (hp : H p = none) (h : H a = some (.tup xs)) : (upd H p ho) a = some (.tup xs) := by
  rw [upd_ne (ne_of_none h hp)]; exact h
theorem Ext.new {p : Addr} {ho : HO} (hp : H p = none) : Ext K ρ H ρ (upd H p ho) := ⟨fun _ _ h => h, fun _ _ h => tup_new hp h, fun a u h _ => by rw [upd_ne (ne_of_none h hp)]; exact h, fun _ h n => absurd h n⟩
theorem Ext.push {p : Addr} {ho : HO} (hp : H p = none) : Ext K ρ H (ρ ++ [p]) (upd H p ho) := ⟨fun n a h => by
  rw [List.getElem?_append_left (List.getElem?_eq_some_iff.mp h).1]; exact h, fun _ _ h => tup_new hp h, fun a u h _ => by rw [upd_ne (ne_of_none h hp)]; exact h, fun a h n => by
    rcases List.mem_append.mp h with h | h
    · exact absurd h n
    · simp at h; subst h; exact hp⟩
/-- a new tuple -/
theorem RS.tupnew {st : Store} {p : Addr} {ho : HO} (h : RS K mg ρ H st) (hp : H p = none) : RS K mg ρ (upd H p ho) st :=
  ⟨h.len, h.nd, fun n a o e1 e2 => (h.ob n a o e1 e2).mono (Ext.new hp) fun u e => by rw [upd_ne (ne_of_none e hp)]; exact e⟩
theorem RS.fresh {st : Store} {p : Addr} (h : RS K mg ρ H st) (hp : H p = none) : p ∉ ρ := fun hm => by
  obtain ⟨n, hn, e⟩ := List.getElem_of_mem hm
  obtain ⟨o, _, r⟩ := h.of_ (n := n) (a := p) (by rw [List.getElem?_eq_getElem hn, e])
  obtain ⟨u, e2, _⟩ := r.is
  rw [hp] at e2; cases e2
/-- a new object -/
theorem RS.push {st : Store} {p : Addr} {ho : HO} {o : O} (h : RS K mg ρ H st) (hp : H p = none) (new : RO K mg (ρ ++ [p]) (upd H p ho) p o) : RS K mg (ρ ++ [p]) (upd H p ho) (st ++ [o]) := by
  refine ⟨by simp [h.len], List.nodup_append.mpr ⟨h.nd, by simp, fun a ha b hb => by simp at hb; subst hb; intro z; subst z; exact h.fresh hp ha⟩, fun n a u e1 e2 => ?_⟩
  by_cases hn : n < ρ.length
  · rw [List.getElem?_append_left hn] at e1
    rw [List.getElem?_append_left (by rw [← h.len]; exact hn)] at e2
    exact (h.ob n a u e1 e2).mono (Ext.push hp) fun w e => by rw [upd_ne (ne_of_none e hp)]; exact e
  · have hn' : n = ρ.length := by
      have := (List.getElem?_eq_some_iff.mp e1).1
      simp at this
      omega
    subst hn'
    simp at e1
    rw [h.len] at e2
    simp at e2
    subst e1; subst e2
    exact new
theorem Wk.write {a : Addr} {ho : HO} (hm : ∀ xs, H a ≠ some (.tup xs)) : Wk K ρ H ρ (upd H a ho) := ⟨fun _ _ h => h, fun b xs h => by
  have nb : b ≠ a := fun z => hm xs (by rw [← z]; exact h)
  rw [upd_ne nb]; exact h⟩
/-- an object that is not told is changed -/
theorem RS.beside {st : Store} {a : Addr} {ho : HO} (h : RS K mg ρ H st) (ha : a ∉ ρ) (hm : ∀ xs, H a ≠ some (.tup xs)) : RS K mg ρ (upd H a ho) st :=
  ⟨h.len, h.nd, fun n b o e1 e2 => (h.ob n b o e1 e2).mo (Wk.write hm) fun u q => by
    rw [upd_ne (fun z => ha (by rw [← z]; exact List.mem_of_getElem? e1))]; exact q⟩
theorem Ext.beside {a : Addr} {ho : HO} (x : Ext K ρ H ρ' H') (h0 : H a = none) (hm : ∀ xs, H' a ≠ some (.tup xs)) : Ext K ρ H ρ' (upd H' a ho) :=
  ⟨x.pre, fun b xs s => (Wk.write (ρ := ρ) (K := K) hm).tup b xs (x.tup b xs s), fun b u e n => by rw [upd_ne (ne_of_none e h0)]; exact x.frm b u e n, x.new_⟩
theorem Ext.write {a : Addr} {ho : HO} (ha : a ∈ ρ) (hm : ∀ xs, H a ≠ some (.tup xs)) : Ext K ρ H ρ (upd H a ho) := ⟨fun _ _ h => h, (Wk.write (ρ := ρ) (K := K) hm).tup, fun b u h n => by rw [upd_ne (fun z => n (by rw [z]; exact ha))]; exact h, fun _ h n => absurd h n⟩
/-- an object is changed -/
theorem RS.write {st : Store} {n : Nat} {a : Addr} {ho : HO} {o : O} (h : RS K mg ρ H st) (e : ρ[n]? = .some a) (new : RO K mg ρ (upd H a ho) a o) : RS K mg ρ (upd H a ho) (st.set n o) ∧ Ext K ρ H ρ (upd H a ho) := by
  obtain ⟨u, eu, ru⟩ := h.of_ e
  obtain ⟨w, ew, hm⟩ := ru.is
  have hn : n < st.length := (List.getElem?_eq_some_iff.mp eu).1
  have ha : a ∈ ρ := List.mem_of_getElem? e
  refine ⟨⟨by simp [h.len], h.nd, fun m b x e1 e2 => ?_⟩, Ext.write ha hm⟩
  by_cases hmn : m = n
  · subst hmn
    rw [e] at e1; cases e1
    rw [List.getElem?_set_self hn] at e2; cases e2
    exact new
  · rw [List.getElem?_set_ne (Ne.symm hmn)] at e2
    have nb : b ≠ a := fun z => by
      subst z
      have i1 := List.getElem?_eq_some_iff.mp e1
      have i2 := List.getElem?_eq_some_iff.mp e
      obtain ⟨l1, q1⟩ := i1
      obtain ⟨l2, q2⟩ := i2
      exact hmn ((List.getElem_inj h.nd).mp (q1.trans q2.symm))
    exact (h.ob m b x e1 e2).mono (Ext.write ha hm) fun w e => by rw [upd_ne nb]; exact e
theorem RE.mono {σ : L2.St} {e : Loc} (h : RE K mg ρ H σ e) (x : Ext K ρ H ρ' H') : RE K mg ρ' H' σ e := ⟨h.len, fun i d q => by
  obtain ⟨v, a, b⟩ := h.at_ i d q
  exact ⟨v, a, b.mono x⟩⟩
theorem RE.set {σ : L2.St} {e : Loc} {i : Nat} {d : D} {v : V} (h : RE K mg ρ H σ e) (r : RD K mg ρ H d v) : RE K mg ρ H (σ.set i (.some v)) (e.set i (.some d)) := ⟨by simp [h.len], fun j x q => by
  by_cases hj : i = j
  · subst hj
    have hl : i < e.length := by
      have := (List.getElem?_eq_some_iff.mp q).1
      simpa using this
    rw [List.getElem?_set_self hl] at q
    cases q
    exact ⟨v, by rw [List.getElem?_set_self (by rw [h.len]; exact hl)], r⟩
  · rw [List.getElem?_set_ne hj] at q ⊢
    exact h.at_ j x q⟩
end
end Py

set_option Elab.async false
set_option linter.all false
set_option maxRecDepth 100000
set_option maxHeartbeats 1000000
namespace Py
open PySem PySem.Spec PyProof.Rows L2

section
variable {K : PySem.W.Frag} {mg : Str → Option Value} {ρ ρ' ρ'' : List Addr} {H H' H'' : Hp}

/-- what is wanted of an outcome -/
def Post {α β : Type} (K : PySem.W.Frag) (mg : Str → Option Value) (Rel : List Addr → Hp → α → β → Prop) (W : WX) (σ : L2.St) (Q : β → Hp → Prop) (ρ : List Addr) (H : Hp) : R α → Prop
  | .ok a st' => ∀ ρ' H' v, Ext K ρ H ρ' H' → RS K mg ρ' H' st' → Rel ρ' H' a v → Q v H'
  | .ex c pl st' => ∀ ρ' H' cls dd, Ext K ρ H ρ' H' → RS K mg ρ' H' st' → RX K mg ρ' H' c pl cls dd → W cls dd σ H'
  | .stuck => False
variable {α β γ δ : Type} {Rel : List Addr → Hp → α → β → Prop} {Rel2 : List Addr → Hp → γ → δ → Prop} {W : WX} {σ : L2.St} {Q Q' : β → Hp → Prop}
theorem Post.rebase {r : R α} (h : Post K mg Rel W σ Q ρ H r) (x : Ext K ρ H ρ' H') : Post K mg Rel W σ Q ρ' H' r := by
  cases r with
  | ok a st => exact fun ρ2 H2 v e => h ρ2 H2 v (x.trans e)
  | ex c pl st => exact fun ρ2 H2 cls dd e => h ρ2 H2 cls dd (x.trans e)
  | stuck => exact h
theorem Post.imp {r : R α} (h : Post K mg Rel W σ Q ρ H r) (f : ∀ v H', Q v H' → Q' v H') : Post K mg Rel W σ Q' ρ H r := by
  cases r with
  | ok a st => exact fun ρ2 H2 v e s q => f _ _ (h ρ2 H2 v e s q)
  | ex c pl st => exact h
  | stuck => exact h
theorem Post.bind {r : R α} {f : α → Store → R γ} {Q2 : δ → Hp → Prop} (h : Post K mg Rel2 W σ Q2 ρ H (r.bind f)) :
    Post K mg Rel W σ (fun x H1 => ∃ a ρ1 st1, Ext K ρ H ρ1 H1 ∧ RS K mg ρ1 H1 st1 ∧ Rel ρ1 H1 a x ∧ Post K mg Rel2 W σ Q2 ρ1 H1 (f a st1)) ρ H r := by
  cases r with
  | ok a st => exact fun ρ1 H1 v e s q => ⟨a, ρ1, st, e, s, q, h.rebase e⟩
  | ex c pl st => exact h
  | stuck => exact h
/-- the reading of a meaning -/
def tG (K : PySem.W.Frag) (mg : Str → Option Value) {α β : Type} (Rel : List Addr → Hp → α → β → Prop) (W : WX) (m : Loc → Store → R α) : L2.St → Hp → (β → Hp → Prop) → Prop :=
  fun σ H Q => ∃ ρ e st, RS K mg ρ H st ∧ RE K mg ρ H σ e ∧ Post K mg Rel W σ Q ρ H (m e st)
abbrev RB : List Addr → Hp → Bool → Bool → Prop := fun _ _ a b => a = b
/-- a pure operation's outcome -/
def PostO (K : PySem.W.Frag) (mg : Str → Option Value) (Q : VK) (ρ : List Addr) (H : Hp) : Option (D × Store) → Prop
  | some (d, st') => ∀ ρ' H' v, Ext K ρ H ρ' H' → RS K mg ρ' H' st' → RD K mg ρ' H' d v → Q v H'
  | none => False
def ofO : Option (D × Store) → R D
  | some (d, st) => .ok d st
  | none => .stuck
@[simp] theorem ofO_some (d : D) (st : Store) : ofO (some (d, st)) = .ok d st := rfl
@[simp] theorem ofO_none : ofO none = .stuck := rfl
theorem Post.toO {o : Option (D × Store)} {Q : VK} (h : Post K mg (RD K mg) W σ Q ρ H (ofO o)) : PostO K mg Q ρ H o := by
  cases o with
  | none => exact h
  | some p => exact h
def r2 (K : PySem.W.Frag) (mg : Str → Option Value) (f : D → D → Store → Option (D × Store)) : R2 := fun x y H Q => ∃ ρ st d1 d2, RS K mg ρ H st ∧ RD K mg ρ H d1 x ∧ RD K mg ρ H d2 y ∧ PostO K mg Q ρ H (f d1 d2 st)
def r1 (K : PySem.W.Frag) (mg : Str → Option Value) (f : D → Store → Option (D × Store)) : V → Hp → VK → Prop := fun x H Q => ∃ ρ st d1, RS K mg ρ H st ∧ RD K mg ρ H d1 x ∧ PostO K mg Q ρ H (f d1 st)
def rN (K : PySem.W.Frag) (mg : Str → Option Value) (f : List D → Store → Option (D × Store)) : List V → Hp → VK → Prop := fun xs H Q => ∃ ρ st ds, RS K mg ρ H st ∧ RDs K mg ρ H ds xs ∧ PostO K mg Q ρ H (f ds st)
def rM (K : PySem.W.Frag) (mg : Str → Option Value) (f : D → List D → Store → Option (D × Store)) : V → List V → Hp → VK → Prop := fun x xs H Q => ∃ ρ st d ds, RS K mg ρ H st ∧ RD K mg ρ H d x ∧ RDs K mg ρ H ds xs ∧ PostO K mg Q ρ H (f d ds st)
end

theorem PE.imp {X : Cx} {e : Expr} {t t' : TE} (h : PE X e t) (f : ∀ σ H Q, t' σ H Q → t σ H Q) : PE X e t' := ⟨fun pins s σ H Q I q => h.run pins s σ H Q I (f _ _ _ q)⟩
theorem PT.imp {X : Cx} {e : Expr} {t t' : TT} (h : PT X e t) (f : ∀ σ H Q, t' σ H Q → t σ H Q) : PT X e t' := ⟨fun pins s σ H Q I q => h.run pins s σ H Q I (f _ _ _ q)⟩
theorem PW.imp {X : Cx} {e : Expr} {t t' : TT} (h : PW X e t) (f : ∀ σ H Q, t' σ H Q → t σ H Q) : PW X e t' := ⟨fun wh pins s σ H Q I q => h.run wh pins s σ H Q I (f _ _ _ q)⟩
theorem PA.imp {X : Cx} {e : List Expr} {t t' : TA} (h : PA X e t) (f : ∀ σ H Q, t' σ H Q → t σ H Q) : PA X e t' := ⟨fun p pins s σ H Q I q => h.run p pins s σ H Q I (f _ _ _ q)⟩
theorem PS.imp {X : Cx} {e : Stmt} {t t' : TS} (h : PS X e t) (f : ∀ D σ H, t' D σ H → t D σ H) : PS X e t' := ⟨fun pins s σ H Q I q => h.run pins s σ H Q I (f _ _ _ q)⟩
theorem PSs.imp {X : Cx} {e : List Stmt} {t t' : TS} (h : PSs X e t) (f : ∀ D σ H, t' D σ H → t D σ H) : PSs X e t' := ⟨fun pins s σ H Q I q => h.run pins s σ H Q I (f _ _ _ q)⟩
theorem OpR.imp {X : Cx} {f : Value → Value → Sem Value} {r r' : R2} (h : OpR X f r) (g : ∀ x y H Q, r' x y H Q → r x y H Q) : OpR X f r' := fun pins s σ H x y v u Q I rx ry q => h pins s σ H x y v u Q I rx ry (g _ _ _ _ q)
theorem UnR.imp {X : Cx} {f : Value → Sem Value} {r r' : V → Hp → VK → Prop} (h : UnR X f r) (g : ∀ x H Q, r' x H Q → r x H Q) : UnR X f r' := fun pins s σ H x v Q I rx q => h pins s σ H x v Q I rx (g _ _ _ q)
theorem CallR.imp {X : Cx} {f : Value} {r r' : List V → Hp → VK → Prop} (h : CallR X f r) (g : ∀ x H Q, r' x H Q → r x H Q) : CallR X f r' := fun pins s σ H x v Q I rx q => h pins s σ H x v Q I rx (g _ _ _ q)
theorem CallR.or {X : Cx} {f : Value} {r r' : List V → Hp → VK → Prop} (h : CallR X f r) (h' : CallR X f r') : CallR X f (fun x H Q => r x H Q ∨ r' x H Q) := fun pins s σ H x v Q I rx q => by
  rcases q with q | q
  · exact h pins s σ H x v Q I rx q
  · exact h' pins s σ H x v Q I rx q
theorem MtR.imp {X : Cx} {f : String} {r r' : V → List V → Hp → VK → Prop} (h : MtR X f r) (g : ∀ x xs H Q, r' x xs H Q → r x xs H Q) : MtR X f r' := fun pins s σ H x xs v us Q I rx rs q => h pins s σ H x xs v us Q I rx rs (g _ _ _ _ q)

/-! ### expressions -/
section
variable {X : Cx} {W : WX}
/-- e means m -/
abbrev SE (X : Cx) (W : WX) (e : Expr) (m : Loc → Store → R D) : Prop := PE X e (tG X.K X.mg (RD X.K X.mg) W m)
abbrev ST (X : Cx) (W : WX) (e : Expr) (m : Loc → Store → R Bool) : Prop := PT X e (tG X.K X.mg RB W m)
abbrev SW (X : Cx) (W : WX) (e : Expr) (m : Loc → Store → R Bool) : Prop := PW X e (tG X.K X.mg RB W m)
abbrev SA (X : Cx) (W : WX) (es : List Expr) (m : Loc → Store → R (List D)) : Prop := PA X es (tG X.K X.mg (RDs X.K X.mg) W m)
variable {a b c e : Expr} {es : List Expr} {pos : Pos} {ma mb mc : Loc → Store → R D}

def mVar (i : Nat) : Loc → Store → R D := fun e st => match e[i]? with | some (some d) => .ok d st | _ => .stuck
theorem se_var {i : Nat} {x : Str} (hN : X.N[i]? = some x) (hv : Vis X.env.scope x) (hd : (x == ("__debug__" : Str)) = false) (hcd : (x == ("__classdict__" : Str)) = false) : SE X W (.Name x pos) (mVar i) :=
  PE.imp (pe_var hN hv hd hcd) fun σ H Q ⟨ρ, e, st, rs, re, p⟩ => by
    unfold mVar at p
    split at p
    · rename_i d hd
      obtain ⟨v, e1, r⟩ := re.at_ i d hd
      exact ⟨v, e1, p ρ H v .refl rs r⟩
    · exact p.elim
def mC (d : D) : Loc → Store → R D := fun _ st => .ok d st
theorem se_const {t : TE} {d : D} {v : V} (h : PE X e (tC v)) (r : ∀ ρ H, RD X.K X.mg ρ H d v) : SE X W e (mC d) :=
  PE.imp h fun σ H Q ⟨ρ, e, st, rs, re, p⟩ => p ρ H v .refl rs (r ρ H)
theorem se_int {i j} : SE X W (.Constant (.int i) j pos) (mC (.int i)) := PE.imp pe_int fun σ H Q ⟨ρ, e, st, rs, re, p⟩ => p ρ H _ .refl rs (by simp only [RD])
theorem se_bl {i j} : SE X W (.Constant (.bool i) j pos) (mC (.bl i)) := PE.imp pe_bl fun σ H Q ⟨ρ, e, st, rs, re, p⟩ => p ρ H _ .refl rs (by simp only [RD])
theorem se_str {i j} : SE X W (.Constant (.str i) j pos) (mC (.str i)) := PE.imp pe_str fun σ H Q ⟨ρ, e, st, rs, re, p⟩ => p ρ H _ .refl rs (by simp only [RD])
theorem se_non {j} : SE X W (.Constant .none j pos) (mC .non) := PE.imp pe_non fun σ H Q ⟨ρ, e, st, rs, re, p⟩ => p ρ H _ .refl rs (by simp only [RD])

def mOp2 (f : D → D → Store → Option (D × Store)) (ma mb : Loc → Store → R D) : Loc → Store → R D := fun e st => (ma e st).bind fun x st => (mb e st).bind fun y st => ofO (f x y st)
theorem tOp_of {r : R2} {f : D → D → Store → Option (D × Store)} (hr : ∀ x y H Q, r2 X.K X.mg f x y H Q → r x y H Q) (σ : L2.St) (H : Hp) (Q : VK) (h : tG X.K X.mg (RD X.K X.mg) W (mOp2 f ma mb) σ H Q) :
    tOp r (tG X.K X.mg (RD X.K X.mg) W ma) (tG X.K X.mg (RD X.K X.mg) W mb) σ H Q := by
  obtain ⟨ρ, e, st, rs, re, p⟩ := h
  refine ⟨ρ, e, st, rs, re, (Post.bind p).imp fun x H1 ⟨d, ρ1, st1, x1, rs1, rd1, p1⟩ => ?_⟩
  refine ⟨ρ1, e, st1, rs1, re.mono x1, (Post.bind p1).imp fun y H2 ⟨d2, ρ2, st2, x2, rs2, rd2, p2⟩ => ?_⟩
  exact hr _ _ _ _ ⟨ρ2, st2, d, d2, rs2, rd1.mono x2, rd2, p2.toO⟩
theorem se_op {op : Operator} {f : D → D → Store → Option (D × Store)} (ho : OpR X (binaryOp op) (r2 X.K X.mg f)) (ha : SE X W a ma) (hb : SE X W b mb) : SE X W (.BinOp a op b pos) (mOp2 f ma mb) :=
  PE.imp (pe_op ho ha hb) (tOp_of fun _ _ _ _ h => h)
theorem se_cmp {op : CmpOp} {f : D → D → Store → Option (D × Store)} (ho : OpR X (compareOp op) (r2 X.K X.mg f)) (ha : SE X W a ma) (hb : SE X W b mb) (hm : behindInMarks op b = false) : SE X W (.Compare a [op] [b] pos) (mOp2 f ma mb) :=
  PE.imp (pe_cmpR ho ha hb hm) (tOp_of fun _ _ _ _ h => h)
def asB (m : Loc → Store → R D) : Loc → Store → R Bool := fun e st => (m e st).bind fun d st => match d with | .bl b => .ok b st | _ => .stuck
theorem asB_of {m : Loc → Store → R D} (σ : L2.St) (H : Hp) (Q : Bool → Hp → Prop) (h : tG X.K X.mg RB W (asB m) σ H Q) : tG X.K X.mg (RD X.K X.mg) W m σ H (fun x H' => ∃ k, x = .bl k ∧ Q k H') := by
  obtain ⟨ρ, e, st, rs, re, p⟩ := h
  refine ⟨ρ, e, st, rs, re, (Post.bind p).imp fun x H1 ⟨d, ρ1, st1, x1, rs1, rd1, p1⟩ => ?_⟩
  cases d with
  | bl b =>
    simp only [RD] at rd1
    exact ⟨b, rd1, p1 ρ1 H1 b .refl rs1 rfl⟩
  | _ => exact p1.elim
theorem st_cmp {op : CmpOp} {f : D → D → Store → Option (D × Store)} (ho : OpR X (compareOp op) (r2 X.K X.mg f)) (ha : SE X W a ma) (hb : SE X W b mb) (hm : behindInMarks op b = false) : ST X W (.Compare a [op] [b] pos) (asB (mOp2 f ma mb)) :=
  PT.imp (pt_cmpR ho ha hb hm) fun σ H Q h => tOp_of (fun _ _ _ _ h => h) σ H _ (asB_of σ H Q h)
/-- shapes whose truth is asked of their value -/
def plainT : Expr → Bool
  | .UnaryOp .Not _ _ => false
  | .BoolOp .. => false
  | .IfExp .. => false
  | .Compare .. => false
  | _ => true
theorem plainT_ok {e : Expr} (h : plainT e = true) (env : PySem.Env) (whole : Sem Value) : isTrue e env whole = (do let v ← whole; standAt e.pos; holding [v] (truthy v)) := by
  cases e with
  | UnaryOp op x p => cases op <;> first | rfl | (exact absurd h (by simp [plainT]))
  | BoolOp => exact absurd h (by simp [plainT])
  | IfExp => exact absurd h (by simp [plainT])
  | Compare => exact absurd h (by simp [plainT])
  | _ => rfl
theorem st_val (h : SE X W e ma) (hp : plainT e = true) : ST X W e (asB ma) :=
  PT.imp (pt_val h fun whole => plainT_ok hp _ _) fun σ H Q q => asB_of σ H Q q

/-! and, or, not, if -/
def mAnd (ma mb : Loc → Store → R Bool) : Loc → Store → R Bool := fun e st => (ma e st).bind fun c st => if c = true then mb e st else .ok false st
def mOr (ma mb : Loc → Store → R Bool) : Loc → Store → R Bool := fun e st => (ma e st).bind fun c st => if c = true then .ok true st else mb e st
def mNot (ma : Loc → Store → R Bool) : Loc → Store → R Bool := fun e st => (ma e st).bind fun c st => .ok (!c) st
variable {ta tb : Loc → Store → R Bool} {rest : List Expr}
theorem sw_and1 (h : ST X W a ta) : SW X W (.BoolOp .And [a] pos) ta := pw_and1 h
theorem sw_or1 (h : ST X W a ta) : SW X W (.BoolOp .Or [a] pos) ta := pw_or1 h
theorem sw_and (ha : ST X W a ta) (hb : SW X W (.BoolOp .And (b :: rest) pos) tb) : SW X W (.BoolOp .And (a :: b :: rest) pos) (mAnd ta tb) :=
  PW.imp (pw_and ha hb) fun σ H Q ⟨ρ, e, st, rs, re, p⟩ => by
    refine ⟨ρ, e, st, rs, re, (Post.bind p).imp fun x H1 ⟨d, ρ1, st1, x1, rs1, rd1, p1⟩ => ?_⟩
    cases rd1
    cases x with
    | true => exact ⟨ρ1, e, st1, rs1, re.mono x1, p1⟩
    | false => exact p1 ρ1 H1 false .refl rs1 rfl
theorem sw_or (ha : ST X W a ta) (hb : SW X W (.BoolOp .Or (b :: rest) pos) tb) : SW X W (.BoolOp .Or (a :: b :: rest) pos) (mOr ta tb) :=
  PW.imp (pw_or ha hb) fun σ H Q ⟨ρ, e, st, rs, re, p⟩ => by
    refine ⟨ρ, e, st, rs, re, (Post.bind p).imp fun x H1 ⟨d, ρ1, st1, x1, rs1, rd1, p1⟩ => ?_⟩
    cases rd1
    cases x with
    | true => exact p1 ρ1 H1 true .refl rs1 rfl
    | false => exact ⟨ρ1, e, st1, rs1, re.mono x1, p1⟩
theorem st_not (ha : ST X W a ta) : ST X W (.UnaryOp .Not a pos) (mNot ta) :=
  PT.imp (pt_not ha) fun σ H Q ⟨ρ, e, st, rs, re, p⟩ => by
    refine ⟨ρ, e, st, rs, re, (Post.bind p).imp fun x H1 ⟨d, ρ1, st1, x1, rs1, rd1, p1⟩ => ?_⟩
    cases rd1
    exact p1 ρ1 H1 _ .refl rs1 rfl
def mAndV (ma mb : Loc → Store → R D) : Loc → Store → R D := fun e st => (ma e st).bind fun d st => match d with | .bl true => mb e st | .bl false => .ok (.bl false) st | _ => .stuck
def mOrV (ma mb : Loc → Store → R D) : Loc → Store → R D := fun e st => (ma e st).bind fun d st => match d with | .bl true => .ok (.bl true) st | .bl false => mb e st | _ => .stuck
def mNotV (ma : Loc → Store → R D) : Loc → Store → R D := fun e st => (ma e st).bind fun d st => match d with | .bl b => .ok (.bl (!b)) st | _ => .stuck
theorem se_and (ha : SE X W a ma) (hb : SE X W (.BoolOp .And (b :: rest) pos) mb) : SE X W (.BoolOp .And (a :: b :: rest) pos) (mAndV ma mb) :=
  PE.imp (pe_and ha hb) fun σ H Q ⟨ρ, e, st, rs, re, p⟩ => by
    refine ⟨ρ, e, st, rs, re, (Post.bind p).imp fun x H1 ⟨d, ρ1, st1, x1, rs1, rd1, p1⟩ => ?_⟩
    cases d with
    | bl c =>
      simp only [RD] at rd1
      refine ⟨c, rd1, ?_⟩
      cases c with
      | true => exact ⟨ρ1, e, st1, rs1, re.mono x1, p1⟩
      | false => exact p1 ρ1 H1 _ .refl rs1 (by simp only [RD])
    | _ => exact p1.elim
theorem se_or (ha : SE X W a ma) (hb : SE X W (.BoolOp .Or (b :: rest) pos) mb) : SE X W (.BoolOp .Or (a :: b :: rest) pos) (mOrV ma mb) :=
  PE.imp (pe_or ha hb) fun σ H Q ⟨ρ, e, st, rs, re, p⟩ => by
    refine ⟨ρ, e, st, rs, re, (Post.bind p).imp fun x H1 ⟨d, ρ1, st1, x1, rs1, rd1, p1⟩ => ?_⟩
    cases d with
    | bl c =>
      simp only [RD] at rd1
      refine ⟨c, rd1, ?_⟩
      cases c with
      | false => exact ⟨ρ1, e, st1, rs1, re.mono x1, p1⟩
      | true => exact p1 ρ1 H1 _ .refl rs1 (by simp only [RD])
    | _ => exact p1.elim
theorem se_one {op} (h : SE X W a ma) : SE X W (.BoolOp op [a] pos) ma := pe_one h
theorem se_not (ha : SE X W a ma) : SE X W (.UnaryOp .Not a pos) (mNotV ma) :=
  PE.imp (pe_not ha) fun σ H Q ⟨ρ, e, st, rs, re, p⟩ => by
    refine ⟨ρ, e, st, rs, re, (Post.bind p).imp fun x H1 ⟨d, ρ1, st1, x1, rs1, rd1, p1⟩ => ?_⟩
    cases d with
    | bl c =>
      simp only [RD] at rd1
      exact ⟨c, rd1, p1 ρ1 H1 _ .refl rs1 (by simp only [RD])⟩
    | _ => exact p1.elim
def mIf (mt : Loc → Store → R Bool) (ma mb : Loc → Store → R D) : Loc → Store → R D := fun e st => (mt e st).bind fun c st => if c = true then ma e st else mb e st
theorem se_ifExp (hc : ST X W c ta) (ha : SE X W a ma) (hb : SE X W b mb) : SE X W (.IfExp c a b pos) (mIf ta ma mb) :=
  PE.imp (pe_ifExp hc ha hb) fun σ H Q ⟨ρ, e, st, rs, re, p⟩ => by
    refine ⟨ρ, e, st, rs, re, (Post.bind p).imp fun x H1 ⟨d, ρ1, st1, x1, rs1, rd1, p1⟩ => ?_⟩
    cases rd1
    cases x with
    | true => exact ⟨ρ1, e, st1, rs1, re.mono x1, p1⟩
    | false => exact ⟨ρ1, e, st1, rs1, re.mono x1, p1⟩
/-- a chain of two comparisons -/
def mChain (f g : D → D → Store → Option (D × Store)) (ma mb mc : Loc → Store → R D) : Loc → Store → R D := fun e st =>
  (ma e st).bind fun x st => (mb e st).bind fun y st => (ofO (f x y st)).bind fun z st => match z with | .bl true => (mc e st).bind fun w st => ofO (g y w st) | .bl false => .ok (.bl false) st | _ => .stuck
theorem PostO.bind {o : Option (D × Store)} {f : D → Store → R D} {ρ : List Addr} {H : Hp} {σ : L2.St} {Q2 : VK} (h : Post X.K X.mg (RD X.K X.mg) W σ Q2 ρ H ((ofO o).bind f)) :
    PostO X.K X.mg (fun x H1 => ∃ a ρ1 st1, Ext X.K ρ H ρ1 H1 ∧ RS X.K X.mg ρ1 H1 st1 ∧ RD X.K X.mg ρ1 H1 a x ∧ Post X.K X.mg (RD X.K X.mg) W σ Q2 ρ1 H1 (f a st1)) ρ H o := (Post.bind h).toO
theorem tChain_of {r r' : R2} {f g : D → D → Store → Option (D × Store)} (hr : ∀ x y H Q, r2 X.K X.mg f x y H Q → r x y H Q) (hr' : ∀ x y H Q, r2 X.K X.mg g x y H Q → r' x y H Q) (σ : L2.St) (H : Hp) (Q : VK)
    (h : tG X.K X.mg (RD X.K X.mg) W (mChain f g ma mb mc) σ H Q) : tChain r r' (tG X.K X.mg (RD X.K X.mg) W ma) (tG X.K X.mg (RD X.K X.mg) W mb) (tG X.K X.mg (RD X.K X.mg) W mc) σ H Q := by
  obtain ⟨ρ, e, st, rs, re, p⟩ := h
  refine ⟨ρ, e, st, rs, re, (Post.bind p).imp fun x H1 ⟨d, ρ1, st1, x1, rs1, rd1, p1⟩ => ?_⟩
  refine ⟨ρ1, e, st1, rs1, re.mono x1, (Post.bind p1).imp fun y H2 ⟨d2, ρ2, st2, x2, rs2, rd2, p2⟩ => ?_⟩
  refine hr _ _ _ _ ⟨ρ2, st2, d, d2, rs2, rd1.mono x2, rd2, ?_⟩
  have p3 := PostO.bind p2
  revert p3
  cases f d d2 st2 with
  | none => exact fun h => h
  | some q =>
    obtain ⟨z, st3⟩ := q
    intro p3 ρ3 H3 v x3 rs3 rd3
    obtain ⟨z', ρ4, st4, x4, rs4, rd4, p4⟩ := p3 ρ3 H3 v x3 rs3 rd3
    cases z' with
    | bl k =>
      simp only [RD] at rd4
      refine ⟨k, rd4, ?_⟩
      cases k with
      | true =>
        have xx : Ext X.K ρ H ρ4 H3 := x1.trans (x2.trans x4)
        refine ⟨ρ4, e, st4, rs4, re.mono xx, (Post.bind p4).imp fun w H5 ⟨d5, ρ5, st5, x5, rs5, rd5, p5⟩ => ?_⟩
        exact hr' _ _ _ _ ⟨ρ5, st5, d2, d5, rs5, rd2.mono (x4.trans x5), rd5, p5.toO⟩
      | false => exact p4 ρ4 H3 _ .refl rs4 (by simp only [RD])
    | _ => exact p4.elim
theorem se_chain {op op' : CmpOp} {f g : D → D → Store → Option (D × Store)} (ho : OpR X (compareOp op) (r2 X.K X.mg f)) (ho' : OpR X (compareOp op') (r2 X.K X.mg g)) (ha : SE X W a ma) (hb : SE X W b mb) (hc : SE X W c mc) (hm : lastMarks [op, op'] [b, c] = false) :
    SE X W (.Compare a [op, op'] [b, c] pos) (mChain f g ma mb mc) := PE.imp (pe_chain ho ho' ha hb hc hm) (tChain_of (fun _ _ _ _ h => h) (fun _ _ _ _ h => h))
theorem st_chain {op op' : CmpOp} {f g : D → D → Store → Option (D × Store)} (ho : OpR X (compareOp op) (r2 X.K X.mg f)) (ho' : OpR X (compareOp op') (r2 X.K X.mg g)) (ha : SE X W a ma) (hb : SE X W b mb) (hc : SE X W c mc) (hm : lastMarks [op, op'] [b, c] = false) :
    ST X W (.Compare a [op, op'] [b, c] pos) (asB (mChain f g ma mb mc)) := PT.imp (pt_chain ho ho' ha hb hc hm) fun σ H Q h => tChain_of (fun _ _ _ _ h => h) (fun _ _ _ _ h => h) σ H _ (asB_of σ H Q h)
/-! unary -/
def mOp1 (f : D → Store → Option (D × Store)) (ma : Loc → Store → R D) : Loc → Store → R D := fun e st => (ma e st).bind fun x st => ofO (f x st)
theorem se_un {op : UnaryOp} {f : D → Store → Option (D × Store)} (ho : UnR X (unaryOp op) (r1 X.K X.mg f)) (ha : SE X W a ma) : SE X W (.UnaryOp op a pos) (mOp1 f ma) :=
  PE.imp (pe_un ho ha) fun σ H Q ⟨ρ, e, st, rs, re, p⟩ => ⟨ρ, e, st, rs, re, (Post.bind p).imp fun x H1 ⟨d, ρ1, st1, x1, rs1, rd1, p1⟩ => ⟨ρ1, st1, d, rs1, rd1, p1.toO⟩⟩
/-! argument lists, displays -/
def noStar : Expr → Bool
  | .Starred .. => false
  | _ => true
theorem noStar_ok {e : Expr} (h : noStar e = true) (es : List Expr) (env : PySem.Env) : starEach (e :: es) env = (false, eval e env) :: starEach es env := by
  cases e with
  | Starred => exact absurd h (by simp [noStar])
  | _ => rfl
theorem noStars_ok : ∀ {es : List Expr}, es.all noStar = true → ∀ (pos : Pos) (env : PySem.Env), (backTo pos (starEach es env)).any (·.1) = false
  | [], _, _, _ => rfl
  | e :: es, h, pos, env => by
    simp only [List.all_cons, Bool.and_eq_true] at h
    rw [noStar_ok h.1]
    have ih := noStars_ok h.2 pos env
    simpa [backTo] using ih
def mNil : Loc → Store → R (List D) := fun _ st => .ok [] st
def mCons (ma : Loc → Store → R D) (mr : Loc → Store → R (List D)) : Loc → Store → R (List D) := fun e st => (ma e st).bind fun x st => (mr e st).bind fun xs st => .ok (x :: xs) st
theorem sa_nil : SA X W [] mNil := PA.imp pa_nil fun σ H Q ⟨ρ, e, st, rs, re, p⟩ => p ρ H [] .refl rs .nil
theorem sa_cons {mr : Loc → Store → R (List D)} (ha : SE X W e ma) (hr : SA X W es mr) (hs : noStar e = true) : SA X W (e :: es) (mCons ma mr) :=
  PA.imp (pa_cons ha hr (noStar_ok hs _ _)) fun σ H Q ⟨ρ, e, st, rs, re, p⟩ => by
    refine ⟨ρ, e, st, rs, re, (Post.bind p).imp fun x H1 ⟨d, ρ1, st1, x1, rs1, rd1, p1⟩ => ?_⟩
    refine ⟨ρ1, e, st1, rs1, re.mono x1, (Post.bind p1).imp fun y H2 ⟨d2, ρ2, st2, x2, rs2, rd2, p2⟩ => ?_⟩
    exact p2 ρ2 H2 _ .refl rs2 (.cons (rd1.mono x2) rd2)
noncomputable def mTup (m : Loc → Store → R (List D)) : Loc → Store → R D := fun e st => (m e st).bind fun ds st => if ds.length ≤ sizeLine then .ok (.tup ds) st else .stuck
noncomputable def mLst (m : Loc → Store → R (List D)) : Loc → Store → R D := fun e st => (m e st).bind fun ds st => if ds.length ≤ sizeLine then .ok (.ref st.length) (st ++ [.lst ds]) else .stuck
theorem newLst {ρ : List Addr} {H : Hp} {st : Store} {ds : List D} {vs : List V} {p : Addr} (rs : RS X.K X.mg ρ H st) (r : RDs X.K X.mg ρ H ds vs) (hp : H p = none) :
    RS X.K X.mg (ρ ++ [p]) (upd H p (.lst vs)) (st ++ [.lst ds]) ∧ RD X.K X.mg (ρ ++ [p]) (upd H p (.lst vs)) (.ref st.length) (.ref p) := by
  refine ⟨rs.push hp ⟨vs, upd_same, r.mono (Ext.push hp)⟩, ?_⟩
  simp only [RD]
  exact ⟨p, rfl, by rw [← rs.len]; simp⟩
theorem newTup {ρ : List Addr} {H : Hp} {st : Store} {ds : List D} {vs : List V} {p : Addr} (rs : RS X.K X.mg ρ H st) (r : RDs X.K X.mg ρ H ds vs) (hp : H p = none) :
    RS X.K X.mg ρ (upd H p (.tup vs)) st ∧ RD X.K X.mg ρ (upd H p (.tup vs)) (.tup ds) (.ref p) := by
  refine ⟨rs.tupnew hp, ?_⟩
  simp only [RD]
  exact ⟨p, vs, rfl, upd_same, r.mono (Ext.new hp)⟩
theorem se_tup {k : Nat} {m : Loc → Store → R (List D)} (h : SA X W es m) : SE X W (.Tuple es k pos) (mTup m) :=
  PE.imp (pe_tup h) fun σ H Q ⟨ρ, e, st, rs, re, p⟩ => by
    refine ⟨ρ, e, st, rs, re, (Post.bind p).imp fun x H1 ⟨ds, ρ1, st1, x1, rs1, rd1, p1⟩ => ?_⟩
    by_cases hl : ds.length ≤ sizeLine
    · rw [if_pos hl] at p1
      refine ⟨by rw [← rd1.length]; exact hl, fun q hq => ?_⟩
      obtain ⟨a1, a2⟩ := newTup rs1 rd1 hq
      exact p1 _ _ _ (Ext.new hq) a1 a2
    · rw [if_neg hl] at p1; exact p1.elim
theorem se_lst {m : Loc → Store → R (List D)} (h : SA X W es m) : SE X W (.List es pos) (mLst m) :=
  PE.imp (pe_lst h) fun σ H Q ⟨ρ, e, st, rs, re, p⟩ => by
    refine ⟨ρ, e, st, rs, re, (Post.bind p).imp fun x H1 ⟨ds, ρ1, st1, x1, rs1, rd1, p1⟩ => ?_⟩
    by_cases hl : ds.length ≤ sizeLine
    · rw [if_pos hl] at p1
      refine ⟨by rw [← rd1.length]; exact hl, fun q hq => ?_⟩
      obtain ⟨a1, a2⟩ := newLst rs1 rd1 hq
      exact p1 _ _ _ (Ext.push hq) a1 a2
    · rw [if_neg hl] at p1; exact p1.elim
/-! subscripts -/
def plainIx : Expr → Bool
  | .Slice .. => false
  | _ => true
theorem plainIx_ok {b : Expr} (h : plainIx b = true) : PlainIx b := fun o i => by
  cases b with
  | Slice => exact absurd h (by simp [plainIx])
  | _ => rfl
theorem se_ix {f : D → D → Store → Option (D × Store)} (ho : IxR X (r2 X.K X.mg f)) (ha : SE X W a ma) (hb : SE X W b mb) (hp : plainIx b = true) : SE X W (.Subscript a b pos) (mOp2 f ma mb) :=
  PE.imp (pe_ix ho ha hb (plainIx_ok hp)) (tOp_of fun _ _ _ _ h => h)
/-! built-ins, methods by values -/
def mOpN (f : List D → Store → Option (D × Store)) (m : Loc → Store → R (List D)) : Loc → Store → R D := fun e st => (m e st).bind fun xs st => ofO (f xs st)
theorem tCB_of {f : List D → Store → Option (D × Store)} {m : Loc → Store → R (List D)} (σ : L2.St) (H : Hp) (Q : VK) (h : tG X.K X.mg (RD X.K X.mg) W (mOpN f m) σ H Q) : tCB (rN X.K X.mg f) (tG X.K X.mg (RDs X.K X.mg) W m) σ H Q := by
  obtain ⟨ρ, e, st, rs, re, p⟩ := h
  exact ⟨ρ, e, st, rs, re, (Post.bind p).imp fun x H1 ⟨d, ρ1, st1, x1, rs1, rd1, p1⟩ => ⟨ρ1, st1, d, rs1, rd1, p1.toO⟩⟩
theorem se_callB {x : Str} {id : String} {p : Pos} {f : List D → Store → Option (D × Store)} {m : Loc → Store → R (List D)} (hc : CallR X (.builtin id) (rN X.K X.mg f)) (hg : Gl X x) (hm : X.mg x = none) (hv : bootBuiltins x = some (.builtin id)) (ha : SA X W (e :: es) m)
    (hn : x ≠ "__name__") (hdb : (x == ("__debug__" : Str)) = false) (hs : (e :: es).all noStar = true) : SE X W (.Call (.Name x p) (e :: es) [] pos) (mOpN f m) := by
  simp only [List.all_cons, Bool.and_eq_true] at hs
  exact PE.imp (pe_callB hc hg hm hv ha hn hdb (noStar_ok hs.1 _ _) (noStars_ok hs.2 _ _)) tCB_of
theorem se_callTy {x : Str} {T : String} {p : Pos} {f : List D → Store → Option (D × Store)} {m : Loc → Store → R (List D)} (hc : CallR X (.type T) (rN X.K X.mg f)) (hg : Gl X x) (hm : X.mg x = none) (hv : bootBuiltins x = some (.type T)) (ha : SA X W (e :: es) m)
    (hn : x ≠ "__name__") (hdb : (x == ("__debug__" : Str)) = false) (hs : (e :: es).all noStar = true) : SE X W (.Call (.Name x p) (e :: es) [] pos) (mOpN f m) := by
  simp only [List.all_cons, Bool.and_eq_true] at hs
  exact PE.imp (pe_callTy hc hg hm hv ha hn hdb (noStar_ok hs.1 _ _) (noStars_ok hs.2 _ _)) tCB_of
end
end Py

set_option Elab.async false
set_option linter.all false
set_option maxRecDepth 100000
set_option maxHeartbeats 1000000
namespace Py
open PySem PySem.Spec PyProof.Rows L2

/-- where a statement ends -/
inductive Fl where
  | nx (e : Py.Loc) (st : Store)
  | rt (d : D) (st : Store)
  | bk (e : Py.Loc) (st : Store)
  | ct (e : Py.Loc) (st : Store)
  | ex (c : Str) (pl : List (Str × D)) (e : Py.Loc) (st : Store)
  | stuck
def Fl.seq (r : Fl) (f : Loc → Store → Fl) : Fl :=
  match r with
  | .nx e st => f e st
  | .rt d st => .rt d st
  | .bk e st => .bk e st
  | .ct e st => .ct e st
  | .ex c p e st => .ex c p e st
  | .stuck => .stuck
def R.to {α : Type} (r : R α) (e : Py.Loc) (f : α → Store → Fl) : Fl :=
  match r with
  | .ok a st => f a st
  | .ex c p st => .ex c p e st
  | .stuck => .stuck
@[simp] theorem Fl.seq_nx (e : Py.Loc) (st : Store) (f : Loc → Store → Fl) : (Fl.nx e st).seq f = f e st := rfl
@[simp] theorem Fl.seq_rt (e : D) (st : Store) (f : Loc → Store → Fl) : (Fl.rt e st).seq f = .rt e st := rfl
@[simp] theorem Fl.seq_bk (e : Py.Loc) (st : Store) (f : Loc → Store → Fl) : (Fl.bk e st).seq f = .bk e st := rfl
@[simp] theorem Fl.seq_ct (e : Py.Loc) (st : Store) (f : Loc → Store → Fl) : (Fl.ct e st).seq f = .ct e st := rfl
@[simp] theorem Fl.seq_ex (c p) (e : Py.Loc) (st : Store) (f : Loc → Store → Fl) : (Fl.ex c p e st).seq f = .ex c p e st := rfl
@[simp] theorem Fl.seq_stuck (f : Loc → Store → Fl) : Fl.stuck.seq f = .stuck := rfl
@[simp] theorem R.to_ok {α : Type} (a : α) (st : Store) (e : Py.Loc) (f : α → Store → Fl) : (R.ok a st).to e f = f a st := rfl
@[simp] theorem R.to_ex {α : Type} (c p) (st : Store) (e : Py.Loc) (f : α → Store → Fl) : (R.ex c p st : R α).to e f = .ex c p e st := rfl
@[simp] theorem R.to_stuck {α : Type} (e : Py.Loc) (f : α → Store → Fl) : (R.stuck : R α).to e f = .stuck := rfl

section
variable {K : PySem.W.Frag} {mg : Str → Option Value} {ρ ρ' ρ'' : List Addr} {H H' H'' : Hp} {W : WX} {σ : L2.St} {Dn Dn' : Ends}
def PostS (K : PySem.W.Frag) (mg : Str → Option Value) (W : WX) (Dn : Ends) (ρ : List Addr) (H : Hp) : Fl → Prop
  | .nx e' st' => ∀ ρ' H' σ', Ext K ρ H ρ' H' → RS K mg ρ' H' st' → RE K mg ρ' H' σ' e' → Dn.nx σ' H'
  | .rt d st' => ∀ ρ' H' v, Ext K ρ H ρ' H' → RS K mg ρ' H' st' → RD K mg ρ' H' d v → Dn.rt v H'
  | .bk e' st' => ∀ ρ' H' σ', Ext K ρ H ρ' H' → RS K mg ρ' H' st' → RE K mg ρ' H' σ' e' → Dn.bk σ' H'
  | .ct e' st' => ∀ ρ' H' σ', Ext K ρ H ρ' H' → RS K mg ρ' H' st' → RE K mg ρ' H' σ' e' → Dn.ct σ' H'
  | .ex c pl e' st' => ∀ ρ' H' σ' cls dd, Ext K ρ H ρ' H' → RS K mg ρ' H' st' → RE K mg ρ' H' σ' e' → RX K mg ρ' H' c pl cls dd → W cls dd σ' H'
  | .stuck => False
theorem PostS.rebase {r : Fl} (h : PostS K mg W Dn ρ H r) (x : Ext K ρ H ρ' H') : PostS K mg W Dn ρ' H' r := by
  cases r with
  | nx e st => exact fun ρ2 H2 v q => h ρ2 H2 v (x.trans q)
  | rt e st => exact fun ρ2 H2 v q => h ρ2 H2 v (x.trans q)
  | bk e st => exact fun ρ2 H2 v q => h ρ2 H2 v (x.trans q)
  | ct e st => exact fun ρ2 H2 v q => h ρ2 H2 v (x.trans q)
  | ex c pl e st => exact fun ρ2 H2 v cls dd q => h ρ2 H2 v cls dd (x.trans q)
  | stuck => exact h
theorem PostS.seq {r : Fl} {f : Loc → Store → Fl} (h : PostS K mg W Dn ρ H (r.seq f)) :
    PostS K mg W { Dn with nx := fun σ' H' => ∃ ρ1 e1 st1, Ext K ρ H ρ1 H' ∧ RS K mg ρ1 H' st1 ∧ RE K mg ρ1 H' σ' e1 ∧ PostS K mg W Dn ρ1 H' (f e1 st1) } ρ H r := by
  cases r with
  | nx e st => exact fun ρ2 H2 v q a b => ⟨ρ2, e, st, q, a, b, h.rebase q⟩
  | rt e st => exact h
  | bk e st => exact h
  | ct e st => exact h
  | ex c pl e st => exact h
  | stuck => exact h
theorem PostS.to {α β : Type} {Rel : List Addr → Hp → α → β → Prop} {r : R α} {e : Py.Loc} {f : α → Store → Fl} (h : PostS K mg W Dn ρ H (r.to e f)) (re : RE K mg ρ H σ e) :
    Post K mg Rel W σ (fun x H1 => ∃ a ρ1 st1, Ext K ρ H ρ1 H1 ∧ RS K mg ρ1 H1 st1 ∧ Rel ρ1 H1 a x ∧ PostS K mg W Dn ρ1 H1 (f a st1)) ρ H r := by
  cases r with
  | ok a st => exact fun ρ1 H1 v q s rl => ⟨a, ρ1, st, q, s, rl, h.rebase q⟩
  | ex c pl st => exact fun ρ1 H1 cls dd q s x => h ρ1 H1 σ cls dd q s (re.mono q) x
  | stuck => exact h
def tS (K : PySem.W.Frag) (mg : Str → Option Value) (W : WX) (m : Loc → Store → Fl) : TS := fun Dn σ H => ∃ ρ e st, RS K mg ρ H st ∧ RE K mg ρ H σ e ∧ PostS K mg W Dn ρ H (m e st)
/-- a target -/
def nxOnly (Q : L2.St → Hp → Prop) : Ends := { nx := Q, rt := fun _ _ => False }
def tT (K : PySem.W.Frag) (mg : Str → Option Value) (W : WX) (m : D → Loc → Store → Fl) : TG := fun v σ H Q => ∃ ρ e st d, RS K mg ρ H st ∧ RE K mg ρ H σ e ∧ RD K mg ρ H d v ∧ PostS K mg W (nxOnly Q) ρ H (m d e st)
def tTs (K : PySem.W.Frag) (mg : Str → Option Value) (W : WX) (m : List D → Loc → Store → Fl) : TGs := fun v σ H Q => ∃ ρ e st d, RS K mg ρ H st ∧ RE K mg ρ H σ e ∧ RDs K mg ρ H d v ∧ PostS K mg W (nxOnly Q) ρ H (m d e st)
end
section
variable {X : Cx} {W : WX}
abbrev SS (X : Cx) (W : WX) (s : Stmt) (m : Loc → Store → Fl) : Prop := PS X s (tS X.K X.mg W m)
abbrev SSs (X : Cx) (W : WX) (s : List Stmt) (m : Loc → Store → Fl) : Prop := PSs X s (tS X.K X.mg W m)
abbrev SG (X : Cx) (W : WX) (tg : Expr) (m : D → Loc → Store → Fl) : Prop := PG X tg (tT X.K X.mg W m)
abbrev SGs (X : Cx) (W : WX) (tg : List Expr) (m : List D → Loc → Store → Fl) : Prop := PGs X tg (tTs X.K X.mg W m)
theorem PG.imp {tg : Expr} {t t' : TG} (h : PG X tg t) (f : ∀ v σ H Q, t' v σ H Q → t v σ H Q) : PG X tg t' := ⟨fun pins s σ H x v Q I r q => h.run pins s σ H x v Q I r (f _ _ _ _ q)⟩
end
end Py

set_option Elab.async false
set_option linter.all false
set_option maxRecDepth 100000
set_option maxHeartbeats 1000000
namespace Py
open PySem PySem.Spec PyProof.Rows L2
section
variable {X : Cx} {W : WX} {pos : Pos} {e : Expr} {es : List Expr} {ma mb : Py.Loc → Store → R D}
/-! targets -/
def gN (i : Nat) : D → Py.Loc → Store → Fl := fun d e st => .nx (e.set i (some d)) st
theorem sg_name {i : Nat} {x : Str} (hN : X.N.Nodup) (hi : X.N[i]? = some x) (hx : L2.Loc X.env.scope x) (hf : X.fn x = true ∨ X.env.scope.names.lookup x = some .local) : SG X W (.Name x pos) (gN i) :=
  PG.imp (pg_name hN hi hx hf) fun v σ H Q ⟨ρ, e, st, d, rs, re, rd, p⟩ => p ρ H _ .refl rs (re.set rd)
def gNl : List D → Py.Loc → Store → Fl := fun ds e st => match ds with | [] => .nx e st | _ => .stuck
def gCn (g : D → Py.Loc → Store → Fl) (gs : List D → Py.Loc → Store → Fl) : List D → Py.Loc → Store → Fl := fun ds e st => match ds with | d :: ds => (g d e st).seq fun e st => gs ds e st | [] => .stuck
theorem PGs.imp {tg : List Expr} {t t' : TGs} (h : PGs X tg t) (f : ∀ v σ H Q, t' v σ H Q → t v σ H Q) : PGs X tg t' := ⟨fun pins s σ H x v Q I r q => h.run pins s σ H x v Q I r (f _ _ _ _ q)⟩
theorem sgs_nil : SGs X W [] gNl := PGs.imp pgs_nil fun v σ H Q ⟨ρ, e, st, d, rs, re, rd, p⟩ => by
  cases d with
  | nil => simp only [RDs] at rd; exact ⟨rd, p ρ H _ .refl rs re⟩
  | cons _ _ => exact p.elim
theorem assignEach_cons (e : Expr) (es : List Expr) (env : PySem.Env) (h : noStar e = true) : (assignEach (e :: es) env).map (·.2) = assign e env :: (assignEach es env).map (·.2) := by
  cases e with
  | Starred => exact absurd h (by simp [noStar])
  | _ => rfl
theorem assignEach_len : ∀ (es : List Expr) (env : PySem.Env), (assignEach es env).length = es.length
  | [], _ => rfl
  | e :: es, env => by
    have ih := assignEach_len es env
    cases e <;> (show (_ :: assignEach es env).length = _; simp [ih])
theorem assignEach_star : ∀ (es : List Expr) (env : PySem.Env), es.all noStar = true → (assignEach es env).findIdx? (·.1) = none
  | [], _, _ => rfl
  | e :: es, env, h => by
    simp only [List.all_cons, Bool.and_eq_true] at h
    have ih := assignEach_star es env h.2
    have aux : ∀ x : Sem Value → Sem Value, True := fun _ => trivial
    cases e with
    | Starred => exact absurd h.1 (by simp [noStar])
    | _ =>
      show List.findIdx? _ ((false, _) :: assignEach es env) = none
      rw [List.findIdx?_cons]
      simp [ih]
theorem sgs_cons {g : D → Py.Loc → Store → Fl} {gs : List D → Py.Loc → Store → Fl} (h1 : SG X W e g) (h2 : SGs X W es gs) (hs : noStar e = true) : SGs X W (e :: es) (gCn g gs) :=
  PGs.imp (pgs_cons h1 h2 (assignEach_cons e es _ hs)) fun v σ H Q ⟨ρ, e, st, d, rs, re, rd, p⟩ => by
    cases d with
    | nil => exact p.elim
    | cons d ds =>
      obtain ⟨x, xs, rfl, r1, r2⟩ := rd.uncons
      refine ⟨x, xs, rfl, ρ, e, st, d, rs, re, r1, ?_⟩
      have q := PostS.seq p
      revert q
      cases g d e st with
      | nx e1 st1 =>
        intro q ρ1 H1 σ1 x1 rs1 re1
        obtain ⟨ρ2, e2, st2, x2, rs2, re2, p2⟩ := q ρ1 H1 σ1 x1 rs1 re1
        exact ⟨ρ2, e2, st2, ds, rs2, re2, r2.mono x2, p2⟩
      | rt _ _ => exact fun q => q
      | bk _ _ => exact fun q => q
      | ct _ _ => exact fun q => q
      | ex _ _ _ _ => exact fun q => q
      | stuck => exact fun q => q
def gTp (n : Nat) (gs : List D → Py.Loc → Store → Fl) : D → Py.Loc → Store → Fl := fun d e st => match d with | .tup ds => if ds.length = n then gs ds e st else .stuck | _ => .stuck
theorem sg_tup {k : Nat} {gs : List D → Py.Loc → Store → Fl} (hc : X.calm = true) (h : SGs X W es gs) (hs : es.all noStar = true) : SG X W (.Tuple es k pos) (gTp es.length gs) :=
  PG.imp (pg_tup (n := es.length) hc h (assignEach_len es _) (assignEach_star es _ hs)) fun v σ H Q ⟨ρ, e, st, d, rs, re, rd, p⟩ => by
    cases d with
    | tup ds =>
      simp only [RD] at rd
      obtain ⟨a, xs, rfl, hq, r⟩ := rd
      simp only [gTp] at p
      split at p
      · rename_i hl
        exact ⟨a, xs, rfl, .of hq, by rw [← r.length]; exact hl, ρ, e, st, ds, rs, re, r, p⟩
      · exact p.elim
    | _ => exact p.elim
/-- o[i] = v by values -/
def rSt (K : PySem.W.Frag) (mg : Str → Option Value) (f : D → D → D → Store → Option Store) : TSet := fun o i v H Q => ∃ ρ st d1 d2 d3, RS K mg ρ H st ∧ RD K mg ρ H d1 o ∧ RD K mg ρ H d2 i ∧ RD K mg ρ H d3 v ∧
  match f d1 d2 d3 st with | some st' => ∀ ρ' H', Ext K ρ H ρ' H' → RS K mg ρ' H' st' → Q H' | none => False
def gSb (f : D → D → D → Store → Option Store) (mo mi : Py.Loc → Store → R D) : D → Py.Loc → Store → Fl := fun d e st => (mo e st).to e fun o st => (mi e st).to e fun i st => match f o i d st with | some st => .nx e st | none => .stuck
theorem sg_sub {o i : Expr} {mo mi : Py.Loc → Store → R D} {f : D → D → D → Store → Option Store} (hf : PSet X (rSt X.K X.mg f)) (ho : SE X W o mo) (hi : SE X W i mi) (hp : plainIx i = true) : SG X W (.Subscript o i pos) (gSb f mo mi) :=
  PG.imp (pg_sub ho hi hf (fun _ => by cases i <;> first | rfl | exact absurd hp (by simp [plainIx]))) fun v σ H Q ⟨ρ, e, st, d, rs, re, rd, p⟩ => by
    refine ⟨ρ, e, st, rs, re, (PostS.to p re).imp fun x H1 ⟨d1, ρ1, st1, x1, rs1, rd1, p1⟩ => ?_⟩
    refine ⟨ρ1, e, st1, rs1, re.mono x1, (PostS.to p1 (re.mono x1)).imp fun y H2 ⟨d2, ρ2, st2, x2, rs2, rd2, p2⟩ => ?_⟩
    refine ⟨ρ2, st2, d1, d2, d, rs2, rd1.mono x2, rd2, rd.mono (x1.trans x2), ?_⟩
    revert p2
    cases f d1 d2 d st2 with
    | none => exact fun q => q
    | some st3 => exact fun q ρ3 H3 x3 rs3 => q ρ3 H3 σ x3 rs3 (re.mono (x1.trans (x2.trans x3)))

/-! statements -/
theorem ss_pass : SS X W (.Pass pos) (fun e st => .nx e st) := PS.imp ps_pass fun Dn σ H ⟨ρ, e, st, rs, re, p⟩ => p ρ H σ .refl rs re
theorem ss_break : SS X W (.Break pos) (fun e st => .bk e st) := PS.imp ps_break fun Dn σ H ⟨ρ, e, st, rs, re, p⟩ => p ρ H σ .refl rs re
theorem ss_cont : SS X W (.Continue pos) (fun e st => .ct e st) := PS.imp ps_continue fun Dn σ H ⟨ρ, e, st, rs, re, p⟩ => p ρ H σ .refl rs re
def noComp : Expr → Bool
  | .ListComp .. => false
  | .SetComp .. => false
  | .DictComp .. => false
  | _ => true
theorem noComp_ok {e : Expr} (h : noComp e = true) (t : Option Expr) (l : Nat) (env : PySem.Env) : swapsWith e t l env = pure false := by
  cases e with
  | ListComp => exact absurd h (by simp [noComp])
  | SetComp => exact absurd h (by simp [noComp])
  | DictComp => exact absurd h (by simp [noComp])
  | _ => rfl
def sExp (ma : Py.Loc → Store → R D) : Py.Loc → Store → Fl := fun e st => (ma e st).to e fun _ st => .nx e st
theorem ss_expr (he : SE X W e ma) (hs : noComp e = true) : SS X W (.Expr e pos) (sExp ma) := PS.imp (ps_expr he (noComp_ok hs _ _ _)) fun Dn σ H ⟨ρ, e, st, rs, re, p⟩ =>
  ⟨ρ, e, st, rs, re, (PostS.to p re).imp fun x H1 ⟨d, ρ1, st1, x1, rs1, rd1, p1⟩ => p1 ρ1 H1 σ .refl rs1 (re.mono x1)⟩
def sRet (ma : Py.Loc → Store → R D) : Py.Loc → Store → Fl := fun e st => (ma e st).to e fun d st => .rt d st
theorem ss_ret (he : SE X W e ma) : SS X W (.Return (some e) pos) (sRet ma) := PS.imp (ps_ret he) fun Dn σ H ⟨ρ, e, st, rs, re, p⟩ =>
  ⟨ρ, e, st, rs, re, (PostS.to p re).imp fun x H1 ⟨d, ρ1, st1, x1, rs1, rd1, p1⟩ => p1 ρ1 H1 x .refl rs1 rd1⟩
theorem ss_retN : SS X W (.Return none pos) (fun e st => .rt .non st) := PS.imp ps_retN fun Dn σ H ⟨ρ, e, st, rs, re, p⟩ => p ρ H .non .refl rs (by simp only [RD])
def sIf (mc : Py.Loc → Store → R Bool) (m1 m2 : Py.Loc → Store → Fl) : Py.Loc → Store → Fl := fun e st => (mc e st).to e fun c st => if c = true then m1 e st else m2 e st
theorem ss_if {c : Expr} {a b : List Stmt} {mc : Py.Loc → Store → R Bool} {m1 m2 : Py.Loc → Store → Fl} (hc : ST X W c mc) (ha : SSs X W a m1) (hb : SSs X W b m2) : SS X W (.If c a b pos) (sIf mc m1 m2) :=
  PS.imp (ps_if hc ha hb) fun Dn σ H ⟨ρ, e, st, rs, re, p⟩ => by
    refine ⟨ρ, e, st, rs, re, (PostS.to p re).imp fun x H1 ⟨d, ρ1, st1, x1, rs1, rd1, p1⟩ => ?_⟩
    cases rd1
    cases x with
    | true => exact ⟨ρ1, e, st1, rs1, re.mono x1, p1⟩
    | false => exact ⟨ρ1, e, st1, rs1, re.mono x1, p1⟩
theorem ss_never {s : Stmt} : SS X W s (fun _ _ => .stuck) := PS.imp ps_never fun Dn σ H ⟨ρ, e, st, rs, re, p⟩ => p.elim
theorem sss_nil : SSs X W [] (fun e st => .nx e st) := PSs.imp pss_nil fun Dn σ H ⟨ρ, e, st, rs, re, p⟩ => p ρ H σ .refl rs re
def sSeq (m1 m2 : Py.Loc → Store → Fl) : Py.Loc → Store → Fl := fun e st => (m1 e st).seq m2
theorem sss_cons {s : Stmt} {r : List Stmt} {m1 m2 : Py.Loc → Store → Fl} (h1 : SS X W s m1) (h2 : SSs X W r m2) : SSs X W (s :: r) (sSeq m1 m2) :=
  PSs.imp (pss_cons h1 h2) fun Dn σ H ⟨ρ, e, st, rs, re, p⟩ => by
    refine ⟨ρ, e, st, rs, re, ?_⟩
    have q := PostS.seq p
    revert q
    cases m1 e st with
    | nx e1 st1 =>
      intro q ρ1 H1 σ1 x1 rs1 re1
      obtain ⟨ρ2, e2, st2, x2, rs2, re2, p2⟩ := q ρ1 H1 σ1 x1 rs1 re1
      exact ⟨ρ2, e2, st2, rs2, re2, p2⟩
    | rt _ _ => exact fun q => q
    | bk _ _ => exact fun q => q
    | ct _ _ => exact fun q => q
    | ex _ _ _ _ => exact fun q => q
    | stuck => exact fun q => q
/-- targets: x = e; (a, b) = e; o[i] = e -/
def sAsg (ma : Py.Loc → Store → R D) (g : D → Py.Loc → Store → Fl) : Py.Loc → Store → Fl := fun e st => (ma e st).to e fun d st => (g d e st).seq fun e st => .nx e st
def Fl.tg : Fl → Bool
  | .nx _ _ => true
  | .ex _ _ _ _ => true
  | .stuck => true
  | _ => false
theorem tT_of {m : D → Py.Loc → Store → Fl} {Dn : Ends} {ρ : List Addr} {H : Hp} {σ : L2.St} {e : Py.Loc} {st : Store} {d : D} {x : V} (rs : RS X.K X.mg ρ H st) (re : RE X.K X.mg ρ H σ e) (rd : RD X.K X.mg ρ H d x)
    (nr : (m d e st).tg = true) (p : PostS X.K X.mg W Dn ρ H (m d e st)) : tT X.K X.mg W m x σ H Dn.nx := by
  refine ⟨ρ, e, st, d, rs, re, rd, ?_⟩
  revert p nr
  cases m d e st with
  | nx e1 st1 => exact fun _ p => p
  | rt _ _ => exact fun q => by cases q
  | bk _ _ => exact fun q => by cases q
  | ct _ _ => exact fun q => by cases q
  | ex _ _ _ _ => exact fun _ p => p
  | stuck => exact fun _ p => p
/-- a target's meaning does not return, break or go on -/
def Tgt (g : D → Py.Loc → Store → Fl) : Prop := ∀ d e st, (g d e st).tg = true
def Tgts (g : List D → Py.Loc → Store → Fl) : Prop := ∀ d e st, (g d e st).tg = true
theorem tgt_name (i : Nat) : Tgt (gN i) := fun d e st => rfl
theorem tgts_nil : Tgts gNl := fun d e st => by cases d <;> rfl
theorem tgts_cons {g : D → Py.Loc → Store → Fl} {gs : List D → Py.Loc → Store → Fl} (h1 : Tgt g) (h2 : Tgts gs) : Tgts (gCn g gs) := fun d e st => by
  cases d with
  | nil => rfl
  | cons d ds =>
    have a := h1 d e st
    simp only [gCn]
    revert a
    cases g d e st with
    | nx e1 st1 => exact fun _ => h2 ds e1 st1
    | rt _ _ => exact fun q => by cases q
    | bk _ _ => exact fun q => by cases q
    | ct _ _ => exact fun q => by cases q
    | ex _ _ _ _ => exact fun _ => rfl
    | stuck => exact fun _ => rfl
theorem tgt_tup {n : Nat} {gs : List D → Py.Loc → Store → Fl} (h : Tgts gs) : Tgt (gTp n gs) := fun d e st => by
  cases d with
  | tup ds =>
    simp only [gTp]
    split
    · exact h ds e st
    · rfl
  | _ => rfl
theorem tgt_sub {f : D → D → D → Store → Option Store} {mo mi : Py.Loc → Store → R D} : Tgt (gSb f mo mi) := fun d e st => by
  simp only [gSb]
  cases mo e st with
  | ok o st1 =>
    simp only [R.to_ok]
    cases mi e st1 with
    | ok i st2 =>
      simp only [R.to_ok]
      cases f o i d st2 <;> rfl
    | ex _ _ _ => rfl
    | stuck => rfl
  | ex _ _ _ => rfl
  | stuck => rfl
theorem Fl.seq_self (r : Fl) : (r.seq fun e st => .nx e st) = r := by cases r <;> rfl
theorem tAsg_of {g : D → Py.Loc → Store → Fl} (hg : Tgt g) (Dn : Ends) (σ : L2.St) (H : Hp) (h : tS X.K X.mg W (sAsg ma g) Dn σ H) : tAsg (tG X.K X.mg (RD X.K X.mg) W ma) (tT X.K X.mg W g) Dn σ H := by
  obtain ⟨ρ, e, st, rs, re, p⟩ := h
  refine ⟨ρ, e, st, rs, re, (PostS.to p re).imp fun x H1 ⟨d, ρ1, st1, x1, rs1, rd1, p1⟩ => ?_⟩
  rw [Fl.seq_self] at p1
  exact tT_of rs1 (re.mono x1) rd1 (hg d e st1) p1
/-- an assignment that is not the exchanged form -/
def swS (sc : Scope) (targets : List Expr) (value : Expr) : Option (Option (List Str)) :=
  match targets, value with
  | [.Tuple ts _ _], .Tuple vs _ _ =>
    if (!(ts.length == 2 || ts.length == 3) || vs.length != ts.length) = true then some none
    else if (vs.any fun | .Starred .. => true | _ => false) = true then some none
    else
      let line := (ts.head?.map (·.pos.line)).getD 0
      let names := ts.filterMap fun
        | .Name id pos => if sc.names.lookup id == some .local && pos.line == line then some id else none
        | _ => none
      if (names.length != ts.length || names.eraseDups.length != names.length) = true then some none
      else if vs.all (foldedForSure 8) = true then some none
      else if vs.all (constantsAlone 8) = true then none
      else some (some names)
  | [.List ts _], .Tuple vs _ _ => none
  | [.Name _ _], _ => some none
  | [.Subscript _ _ _], _ => some none
  | [.Tuple _ _ _], .Starred _ _ => none
  | [.Tuple _ _ _], _ => some none
  | _, _ => none
theorem swS_ok {env : PySem.Env} {ts : List Expr} {v : Expr} {r : Option (List Str)} (hk : env.scope.kind = .function) (h : swS env.scope ts v = some r) : swappedStores ts v env = pure r := by
  have hb : (env.blockKind != ScopeKind.function) = false := by
    unfold Env.blockKind
    rw [hk]
    rfl
  unfold swS at h
  split at h
  · rename_i ts vs _ _ _ _
    unfold swappedStores
    simp only [hb, Bool.or_false]
    split at h
    · rename_i c
      cases h
      exact if_pos c
    · rename_i c
      refine Eq.trans (if_neg c) ?_
      split at h
      · rename_i c2
        cases h
        exact if_pos c2
      · rename_i c2
        refine Eq.trans (if_neg c2) ?_
        dsimp only at h
        split at h
        · rename_i c3
          cases h
          exact if_pos c3
        · rename_i c3
          refine Eq.trans (if_neg c3) ?_
          split at h
          · rename_i c4
            cases h
            exact if_pos c4
          · rename_i c4
            refine Eq.trans (if_neg c4) ?_
            split at h
            · cases h
            · rename_i c5
              cases h
              exact if_neg c5
  · cases h
  · cases h; rfl
  · cases h; rfl
  · cases h
  · rename_i hne1 hne2
    cases h
    unfold swappedStores
    cases v <;> first | rfl | (exact absurd rfl (hne1 _ _ _)) | (exact absurd rfl (hne2 _ _))
  · cases h
end
end Py

set_option Elab.async false
set_option linter.all false
set_option maxRecDepth 100000
set_option maxHeartbeats 1000000
namespace Py
open PySem PySem.Spec PyProof.Rows L2
section
variable {X : Cx} {W : WX} {pos : Pos} {e : Expr} {es : List Expr} {ma mb : Py.Loc → Store → R D}
theorem ss_asg {tg : Expr} {g : D → Py.Loc → Store → Fl} (he : SE X W e ma) (hg : SG X W tg g) (ht : Tgt g) (hk : X.env.scope.kind = .function) (hs : noComp e = true) (hw : swS X.env.scope [tg] e = some none) (hn : noStar tg = true) : SS X W (.Assign [tg] e pos) (sAsg ma g) :=
  PS.imp (ps_asg he hg (noComp_ok hs _ _ _) (swS_ok hk hw) (assignEach_cons tg [] _ hn)) (tAsg_of ht)
theorem ss_set {i : Nat} {x : Str} {pos' : Pos} (hN : X.N.Nodup) (hi : X.N[i]? = some x) (hx : L2.Loc X.env.scope x) (he : SE X W e ma) (hs : swapsWith e (some (.Name x pos')) pos.line X.env = pure false) (hf : X.fn x = true ∨ X.env.scope.names.lookup x = some .local) : SS X W (.Assign [.Name x pos'] e pos) (sAsg ma (gN i)) :=
  PS.imp (ps_set hN hi hx he hs hf) fun Dn σ H h => by
    obtain ⟨ρ, e, st, rs, re, p⟩ := h
    refine ⟨ρ, e, st, rs, re, (PostS.to p re).imp fun x H1 ⟨d, ρ1, st1, x1, rs1, rd1, p1⟩ => ?_⟩
    exact p1 ρ1 H1 _ .refl rs1 ((re.mono x1).set rd1)
def sPar2 (i j : Nat) (m : Py.Loc → Store → R (List D)) : Py.Loc → Store → Fl := fun e st => (m e st).to e fun ds st => match ds with | [a, b] => .nx ((e.set i (some a)).set j (some b)) st | _ => .stuck
def sPar3 (i j l : Nat) (m : Py.Loc → Store → R (List D)) : Py.Loc → Store → Fl := fun e st => (m e st).to e fun ds st => match ds with | [a, b, c] => .nx (((e.set i (some a)).set j (some b)).set l (some c)) st | _ => .stuck
theorem ss_par2 {i j : Nat} {x y : Str} {a b : Expr} {m : Py.Loc → Store → R (List D)} {px py pt : Pos} {kt k2 pt2} (hk : X.env.scope.kind = .function) (hc : X.calm = true) (hN : X.N.Nodup) (hi : X.N[i]? = some x) (hj : X.N[j]? = some y) (hij : i ≠ j)
    (hx : X.env.scope.names.lookup x = some .local) (hy : X.env.scope.names.lookup y = some .local) (ha : SA X W [a, b] m)
    (hw : swS X.env.scope [.Tuple [.Name x px, .Name y py] kt pt] (.Tuple [a, b] k2 pt2) = some (some [x, y])) :
    SS X W (.Assign [.Tuple [.Name x px, .Name y py] kt pt] (.Tuple [a, b] k2 pt2) pos) (sPar2 i j m) :=
  PS.imp (ps_par hc hN hi hj hij hx hy ha (swS_ok hk hw)) fun Dn σ H ⟨ρ, e, st, rs, re, p⟩ => by
    refine ⟨ρ, e, st, rs, re, (PostS.to p re).imp fun x H1 ⟨d, ρ1, st1, x1, rs1, rd1, p1⟩ => ?_⟩
    match d, rd1, p1 with
    | [a, b], rd1, p1 =>
      obtain ⟨u, us, rfl, r1, rd2⟩ := rd1.uncons
      obtain ⟨v, vs, rfl, r2, rd3⟩ := rd2.uncons
      simp only [RDs] at rd3
      subst rd3
      exact ⟨u, v, rfl, p1 ρ1 H1 _ .refl rs1 (((re.mono x1).set r1).set r2)⟩
    | [], _, p1 => exact p1.elim
    | [_], _, p1 => exact p1.elim
    | _ :: _ :: _ :: _, _, p1 => exact p1.elim
theorem ss_par3 {i j l : Nat} {x y z : Str} {a b c : Expr} {m : Py.Loc → Store → R (List D)} {px py pz pt : Pos} {kt k2 pt2} (hk : X.env.scope.kind = .function) (hc : X.calm = true) (hN : X.N.Nodup) (hi : X.N[i]? = some x) (hj : X.N[j]? = some y) (hl : X.N[l]? = some z) (hij : i ≠ j) (hil : i ≠ l) (hjl : j ≠ l)
    (hx : X.env.scope.names.lookup x = some .local) (hy : X.env.scope.names.lookup y = some .local) (hz : X.env.scope.names.lookup z = some .local) (ha : SA X W [a, b, c] m)
    (hw : swS X.env.scope [.Tuple [.Name x px, .Name y py, .Name z pz] kt pt] (.Tuple [a, b, c] k2 pt2) = some (some [x, y, z])) :
    SS X W (.Assign [.Tuple [.Name x px, .Name y py, .Name z pz] kt pt] (.Tuple [a, b, c] k2 pt2) pos) (sPar3 i j l m) :=
  PS.imp (ps_par3 hc hN hi hj hl hij hil hjl hx hy hz ha (swS_ok hk hw)) fun Dn σ H ⟨ρ, e, st, rs, re, p⟩ => by
    refine ⟨ρ, e, st, rs, re, (PostS.to p re).imp fun x H1 ⟨d, ρ1, st1, x1, rs1, rd1, p1⟩ => ?_⟩
    match d, rd1, p1 with
    | [a, b, c], rd1, p1 =>
      obtain ⟨u, us, rfl, r1, rd2⟩ := rd1.uncons
      obtain ⟨v, vs, rfl, r2, rd3⟩ := rd2.uncons
      obtain ⟨w, ws, rfl, r3, rd4⟩ := rd3.uncons
      simp only [RDs] at rd4
      subst rd4
      exact ⟨u, v, w, rfl, p1 ρ1 H1 _ .refl rs1 ((((re.mono x1).set r1).set r2).set r3)⟩
    | [], _, p1 => exact p1.elim
    | [_], _, p1 => exact p1.elim
    | [_, _], _, p1 => exact p1.elim
    | _ :: _ :: _ :: _ :: _, _, p1 => exact p1.elim

/-! ### what is walked -/
/-- the items of a walk, and what must stand meanwhile -/
structure Iter where
  items : List D
  still : Store → Prop
def RI (K : PySem.W.Frag) (mg : Str → Option Value) (ρ : List Addr) (H : Hp) (it : Iter) (J : It) : Prop :=
  ∀ ρ' H' st', Wk K ρ H ρ' H' → RS K mg ρ' H' st' → it.still st' → ∀ i : Nat,
    (∀ d, it.items[i]? = some d → J.go i H' ∧ ∀ x H'', J.yld i H' x H'' → Ext K ρ' H' ρ' H'' ∧ RS K mg ρ' H'' st' ∧ RD K mg ρ' H'' d x) ∧
    (it.items[i]? = none → J.stop i H')
theorem RI.mono {K : PySem.W.Frag} {mg : Str → Option Value} {ρ ρ' : List Addr} {H H' : Hp} {it : Iter} {J : It} (h : RI K mg ρ H it J) (x : Ext K ρ H ρ' H') : RI K mg ρ' H' it J :=
  fun ρ2 H2 st2 x2 => h ρ2 H2 st2 (x.wk.trans x2)
abbrev SI (X : Cx) (W : WX) (tg iter : Expr) (m : Py.Loc → Store → R Iter) : Prop := PI X tg iter (tG X.K X.mg (RI X.K X.mg) W m)
open Classical in
noncomputable def forL (still : Store → Prop) (b : D → Py.Loc → Store → Fl) : List D → Py.Loc → Store → Fl
  | [], e, st => if still st then .nx e st else .stuck
  | d :: ds, e, st => if still st then (match b d e st with
      | .nx e st => forL still b ds e st
      | .ct e st => forL still b ds e st
      | .bk e st => .nx e st
      | .rt d st => .rt d st
      | .ex c p e st => .ex c p e st
      | .stuck => .stuck) else .stuck
noncomputable def sFor (mi : Py.Loc → Store → R Iter) (g : D → Py.Loc → Store → Fl) (b : Py.Loc → Store → Fl) : Py.Loc → Store → Fl :=
  fun e st => (mi e st).to e fun it st => forL it.still (fun d e st => (g d e st).seq b) it.items e st
theorem PI.imp {tg it : Expr} {t t' : TI} (h : PI X tg it t) (f : ∀ σ H Q, t' σ H Q → t σ H Q) : PI X tg it t' := ⟨fun pins s σ H Q I q => h.run pins s σ H Q I (f _ _ _ q)⟩
theorem sFor_turn {K : PySem.W.Frag} {mg : Str → Option Value} {g : D → Py.Loc → Store → Fl} {b : Py.Loc → Store → Fl} (hg : Tgt g) {Dn : Ends} {N : L2.St → Hp → Prop} {ρ : List Addr} {H : Hp} {σ : L2.St} {e : Py.Loc} {st : Store} {d : D} {x : V}
    (rs : RS K mg ρ H st) (re : RE K mg ρ H σ e) (rd : RD K mg ρ H d x) (p : PostS K mg W { Dn with nx := N, ct := N, bk := Dn.nx } ρ H ((g d e st).seq b)) :
    tT K mg W g x σ H fun σ2 H2 => tS K mg W b { Dn with nx := N, ct := N, bk := Dn.nx } σ2 H2 := by
  refine ⟨ρ, e, st, d, rs, re, rd, ?_⟩
  have q := PostS.seq p
  have t := hg d e st
  revert q t
  cases g d e st with
  | nx e1 st1 =>
    intro q _ ρ1 H1 σ1 x1 rs1 re1
    obtain ⟨ρ2, e2, st2, x2, rs2, re2, p2⟩ := q ρ1 H1 σ1 x1 rs1 re1
    exact ⟨ρ2, e2, st2, rs2, re2, p2⟩
  | rt _ _ => exact fun _ q => by cases q
  | bk _ _ => exact fun _ q => by cases q
  | ct _ _ => exact fun _ q => by cases q
  | ex _ _ _ _ => exact fun q _ => q
  | stuck => exact fun q _ => q
theorem ss_for {tg iter : Expr} {body : List Stmt} {mi : Py.Loc → Store → R Iter} {g : D → Py.Loc → Store → Fl} {b : Py.Loc → Store → Fl} (hp : PassesOwn (model X.prog X.w) X.A X.env X.xe) (hc : X.calm = true) (hi : SI X W tg iter mi) (hg : SG X W tg g) (ht : Tgt g) (hb : SSs X W body b)
    (hs : ∀ x, foldedSetIterable iter X.env x = pure x) : SS X W (.For tg iter body [] pos) (sFor mi g b) :=
  PS.imp (ps_for hp hc hi hg hb hs) fun Dn σ H ⟨ρ, e, st, rs, re, p⟩ => by
    refine ⟨ρ, e, st, rs, re, (PostS.to p re).imp fun J H1 ⟨it, ρ1, st1, x1, rs1, ri, p1⟩ => ?_⟩
    refine ⟨fun i m σ2 H2 => i + m = it.items.length ∧ ∃ ρ2 e2 st2, Ext X.K ρ1 H1 ρ2 H2 ∧ RS X.K X.mg ρ2 H2 st2 ∧ RE X.K X.mg ρ2 H2 σ2 e2 ∧ PostS X.K X.mg W Dn ρ2 H2 (forL it.still (fun d e st => (g d e st).seq b) (it.items.drop i) e2 st2),
      ⟨it.items.length, by omega, ρ1, e, st1, .refl, rs1, re.mono x1, p1⟩, fun i m σ2 H2 hW => ?_⟩
    obtain ⟨him, ρ2, e2, st2, x2, rs2, re2, p2⟩ := hW
    by_cases hil : i < it.items.length
    · refine .inr ?_
      obtain ⟨d, hd⟩ : ∃ d, it.items[i]? = some d := ⟨_, List.getElem?_eq_getElem hil⟩
      rw [List.drop_eq_getElem_cons hil] at p2
      have ed : it.items[i] = d := by rw [List.getElem?_eq_getElem hil] at hd; exact Option.some.inj hd
      rw [ed] at p2
      unfold forL at p2
      by_cases hst : it.still st2
      · rw [if_pos hst] at p2
        obtain ⟨a1, _⟩ := ri ρ2 H2 st2 x2.wk rs2 hst i
        obtain ⟨hgo, hy⟩ := a1 d hd
        refine ⟨hgo, fun σ3 H3 => ∃ ρ3 e3 st3, Ext X.K ρ1 H1 ρ3 H3 ∧ RS X.K X.mg ρ3 H3 st3 ∧ RE X.K X.mg ρ3 H3 σ3 e3 ∧ PostS X.K X.mg W Dn ρ3 H3 (forL it.still (fun d e st => (g d e st).seq b) (it.items.drop (i + 1)) e3 st3),
          fun σ3 H3 hN => ⟨m - 1, by omega, by omega, hN⟩, fun x H3 hyl => ?_⟩
        obtain ⟨xa, rsa, rda⟩ := hy x H3 hyl
        have rea := re2.mono xa
        have p3 := p2.rebase xa
        refine sFor_turn ht rsa rea rda ?_
        revert p3
        cases (g d e2 st2).seq b with
        | nx e4 st4 => exact fun p3 ρ4 H4 σ4 x4 rs4 re4 => ⟨ρ4, e4, st4, x2.trans (xa.trans x4), rs4, re4, p3.rebase x4⟩
        | ct e4 st4 => exact fun p3 ρ4 H4 σ4 x4 rs4 re4 => ⟨ρ4, e4, st4, x2.trans (xa.trans x4), rs4, re4, p3.rebase x4⟩
        | bk e4 st4 => exact fun p3 => p3
        | rt _ _ => exact fun p3 => p3
        | ex _ _ _ _ => exact fun p3 => p3
        | stuck => exact fun p3 => p3
      · rw [if_neg hst] at p2; exact p2.elim
    · refine .inl ?_
      rw [List.drop_of_length_le (by omega)] at p2
      unfold forL at p2
      by_cases hst : it.still st2
      · rw [if_pos hst] at p2
        obtain ⟨_, a2⟩ := ri ρ2 H2 st2 x2.wk rs2 hst i
        exact ⟨a2 (List.getElem?_eq_none (by omega)), p2 ρ2 H2 σ2 .refl rs2 re2⟩
      · rw [if_neg hst] at p2; exact p2.elim

/-! ### while -/
/-- n turns at most -/
def whN (c : Py.Loc → Store → R Bool) (b : Py.Loc → Store → Fl) : Nat → Py.Loc → Store → Option Fl
  | 0, _, _ => none
  | n + 1, e, st =>
    match c e st with
    | .ok false st => some (.nx e st)
    | .ok true st => match b e st with
      | .nx e st => whN c b n e st
      | .ct e st => whN c b n e st
      | .bk e st => some (.nx e st)
      | .rt d st => some (.rt d st)
      | .ex c p e st => some (.ex c p e st)
      | .stuck => some .stuck
    | .ex c p st => some (.ex c p e st)
    | .stuck => some .stuck
open Classical in
noncomputable def sWh (c : Py.Loc → Store → R Bool) (b : Py.Loc → Store → Fl) : Py.Loc → Store → Fl := fun e st =>
  if h : ∃ n r, whN c b n e st = some r then (Classical.choose (Classical.choose_spec h)) else .stuck
theorem whN_mono {c : Py.Loc → Store → R Bool} {b : Py.Loc → Store → Fl} : ∀ {n : Nat} {e : Py.Loc} {st : Store} {r : Fl} {m : Nat}, whN c b n e st = some r → n ≤ m → whN c b m e st = some r
  | 0, _, _, _, _, h, _ => by cases h
  | n + 1, e, st, r, 0, _, h => by omega
  | n + 1, e, st, r, m + 1, h, hm => by
    unfold whN at h ⊢
    cases hc : c e st with
    | ok k st1 =>
      rw [hc] at h
      cases k with
      | false => exact h
      | true =>
        simp only at h ⊢
        cases hb : b e st1 with
        | nx e2 st2 => rw [hb] at h; exact whN_mono h (by omega)
        | ct e2 st2 => rw [hb] at h; exact whN_mono h (by omega)
        | bk _ _ => rw [hb] at h; exact h
        | rt _ _ => rw [hb] at h; exact h
        | ex _ _ _ _ => rw [hb] at h; exact h
        | stuck => rw [hb] at h; exact h
    | ex _ _ _ => rw [hc] at h; exact h
    | stuck => rw [hc] at h; exact h
theorem sWh_of {c : Py.Loc → Store → R Bool} {b : Py.Loc → Store → Fl} {n : Nat} {e : Py.Loc} {st : Store} {r : Fl} (h : whN c b n e st = some r) : sWh c b e st = r := by
  have ex : ∃ n r, whN c b n e st = some r := ⟨n, r, h⟩
  unfold sWh
  rw [dif_pos ex]
  have h2 := Classical.choose_spec (Classical.choose_spec ex)
  have a := whN_mono h (Nat.le_max_left n (Classical.choose ex))
  have b := whN_mono h2 (Nat.le_max_right n (Classical.choose ex))
  rw [a] at b
  exact (Option.some.inj b).symm
theorem sWh_unf (c : Py.Loc → Store → R Bool) (b : Py.Loc → Store → Fl) (e : Py.Loc) (st : Store) : sWh c b e st = match c e st with
    | .ok false st => .nx e st
    | .ok true st => (match b e st with
      | .nx e st => sWh c b e st
      | .ct e st => sWh c b e st
      | .bk e st => .nx e st
      | .rt d st => .rt d st
      | .ex c p e st => .ex c p e st
      | .stuck => .stuck)
    | .ex c p st => .ex c p e st
    | .stuck => .stuck := by
  have key : ∀ e1 st1, (∀ n, whN c b (n + 1) e st = whN c b n e1 st1) → sWh c b e st = sWh c b e1 st1 := fun e1 st1 hk => by
    by_cases ex : ∃ n r, whN c b n e1 st1 = some r
    · obtain ⟨n, r, h⟩ := ex
      rw [sWh_of h, sWh_of (n := n + 1) (by rw [hk]; exact h)]
    · have ex2 : ¬ ∃ n r, whN c b n e st = some r := fun ⟨n, r, h⟩ => by
        cases n with
        | zero => cases h
        | succ n => exact ex ⟨n, r, by rw [← hk]; exact h⟩
      unfold sWh
      rw [dif_neg ex, dif_neg ex2]
  cases hc : c e st with
  | ok k st1 =>
    cases k with
    | false => exact sWh_of (n := 1) (by unfold whN; rw [hc])
    | true =>
      simp only
      cases hb : b e st1 with
      | nx e2 st2 => exact key e2 st2 fun n => by rw [whN, hc]; simp only [hb]
      | ct e2 st2 => exact key e2 st2 fun n => by rw [whN, hc]; simp only [hb]
      | bk _ _ => exact sWh_of (n := 1) (by unfold whN; rw [hc]; simp only [hb])
      | rt _ _ => exact sWh_of (n := 1) (by unfold whN; rw [hc]; simp only [hb])
      | ex _ _ _ _ => exact sWh_of (n := 1) (by unfold whN; rw [hc]; simp only [hb])
      | stuck => exact sWh_of (n := 1) (by unfold whN; rw [hc]; simp only [hb])
  | ex _ _ _ => exact sWh_of (n := 1) (by unfold whN; rw [hc])
  | stuck => exact sWh_of (n := 1) (by unfold whN; rw [hc])
theorem ss_while {c : Expr} {body : List Stmt} {mc : Py.Loc → Store → R Bool} {b : Py.Loc → Store → Fl} (hp : PassesOwn (model X.prog X.w) X.A X.env X.xe) (hc : ST X W c mc) (hb : SSs X W body b) : SS X W (.While c body [] pos) (sWh mc b) :=
  PS.imp (ps_while hp hc hb) fun Dn σ H ⟨ρ, e, st, rs, re, p⟩ => by
    have ex : ∃ n r, whN mc b n e st = some r := by
      by_cases ex : ∃ n r, whN mc b n e st = some r
      · exact ex
      · unfold sWh at p; rw [dif_neg ex] at p; exact p.elim
    obtain ⟨n, r, hr⟩ := ex
    rw [sWh_of hr] at p
    refine ⟨fun m σ2 H2 => ∃ ρ2 e2 st2 r2, RS X.K X.mg ρ2 H2 st2 ∧ RE X.K X.mg ρ2 H2 σ2 e2 ∧ whN mc b m e2 st2 = some r2 ∧ PostS X.K X.mg W Dn ρ2 H2 r2, ⟨n, ρ, e, st, r, rs, re, hr, p⟩, fun m σ2 H2 hW => ?_⟩
    obtain ⟨ρ2, e2, st2, r2, rs2, re2, h2, p2⟩ := hW
    cases m with
    | zero => cases h2
    | succ m =>
      unfold whN at h2
      refine ⟨ρ2, e2, st2, rs2, re2, ?_⟩
      cases hc : mc e2 st2 with
      | ok k st3 =>
        rw [hc] at h2
        intro ρ3 H3 k' x3 rs3 hk
        cases hk
        cases k with
        | false =>
          simp only at h2
          rw [if_neg (by decide)]
          cases h2
          exact p2 ρ3 H3 σ2 x3 rs3 (re2.mono x3)
        | true =>
          simp only at h2
          rw [if_pos rfl]
          refine ⟨fun σ4 H4 => ∃ ρ4 e4 st4 r4, RS X.K X.mg ρ4 H4 st4 ∧ RE X.K X.mg ρ4 H4 σ4 e4 ∧ whN mc b m e4 st4 = some r4 ∧ PostS X.K X.mg W Dn ρ4 H4 r4, fun σ4 H4 hN => ⟨m, Nat.lt_succ_self m, hN⟩, ρ3, e2, st3, rs3, re2.mono x3, ?_⟩
          have p3 := p2.rebase x3
          cases hb : b e2 st3 with
          | nx e4 st4 => rw [hb] at h2; exact fun ρ4 H4 σ4 x4 rs4 re4 => ⟨ρ4, e4, st4, r2, rs4, re4, h2, p3.rebase x4⟩
          | ct e4 st4 => rw [hb] at h2; exact fun ρ4 H4 σ4 x4 rs4 re4 => ⟨ρ4, e4, st4, r2, rs4, re4, h2, p3.rebase x4⟩
          | bk e4 st4 => rw [hb] at h2; cases h2; exact p3
          | rt _ _ => rw [hb] at h2; cases h2; exact p3
          | ex _ _ _ _ => rw [hb] at h2; cases h2; exact p3
          | stuck => rw [hb] at h2; cases h2; exact p3
      | ex c' pl st3 =>
        rw [hc] at h2
        cases h2
        exact fun ρ3 H3 cls dd x3 rs3 rx => p2 ρ3 H3 σ2 cls dd x3 rs3 (re2.mono x3) rx
      | stuck => rw [hc] at h2; cases h2; exact p2
end
end Py

set_option Elab.async false
set_option linter.all false
set_option maxRecDepth 100000
set_option maxHeartbeats 1000000
namespace Py
open PySem PySem.Spec PyProof.Rows L2
/-! ### dropping what nobody sees -/
mutual
def lowD (L : Nat) : D → Bool
  | .tup ds => lowDs L ds
  | .kt ds => lowDs L ds
  | .kl ds => lowDs L ds
  | .ref n => decide (n < L)
  | _ => true
def lowDs (L : Nat) : List D → Bool
  | [] => true
  | d :: ds => lowD L d && lowDs L ds
end
def lowO (L : Nat) : O → Bool
  | .lst ds => lowDs L ds
  | .frz ds => lowDs L ds
  | .dict kvs => lowDs L (kvs.map (·.2))
  | .ins _ fs => lowDs L (fs.map (·.2))
open Classical in
noncomputable def gc (st : Store) (d : D) (st' : Store) : D × Store :=
  if ∀ i, i < st.length → (st'[i]? = st[i]? ∨ ∃ o, st'[i]? = some o ∧ lowO st.length o = true) then
    if lowD st.length d = true then (d, st'.take st.length)
    else match d with
      | .ref n => (match st'[n]? with
        | some o => if st.length ≤ n ∧ lowO st.length o = true then (.ref st.length, st'.take st.length ++ [o]) else (d, st')
        | none => (d, st'))
      | _ => (d, st')
  else (d, st')
section
variable {K : PySem.W.Frag} {mg : Str → Option Value} {ρ ρ' ρ'' : List Addr} {H H' H'' : Hp}
mutual
theorem RD.low : ∀ {d : D} {v : V}, RD K mg ρ H d v → lowD ρ.length d = true
  | .non, _, _ => rfl
  | .bl _, _, _ => rfl
  | .int _, _, _ => rfl
  | .str _, _, _ => rfl
  | .gl _, _, _ => rfl
  | .ref n, _, h => by
    simp only [RD] at h
    obtain ⟨a, _, e⟩ := h
    simp only [lowD, decide_eq_true_eq]
    exact (List.getElem?_eq_some_iff.mp e).1
  | .tup ds, _, h => by
    simp only [RD] at h
    obtain ⟨a, xs, _, _, r⟩ := h
    simp only [lowD]
    exact RDs.low r
  | .kt ds, _, h => by
    simp only [RD] at h
    obtain ⟨a, xs, _, _, _, _, _, r⟩ := h
    simp only [lowD]
    exact RDs.low r
  | .kl ds, _, h => by
    simp only [RD] at h
    obtain ⟨a, xs, _, _, _, _, _, r⟩ := h
    simp only [lowD]
    exact RDs.low r
theorem RDs.low : ∀ {ds : List D} {vs : List V}, RDs K mg ρ H ds vs → lowDs ρ.length ds = true
  | [], _, _ => rfl
  | d :: ds, _, h => by
    obtain ⟨x, xs, rfl, h1, h2⟩ := h.uncons
    simp only [lowDs, Bool.and_eq_true]
    exact ⟨RD.low h1, RDs.low h2⟩
end
mutual
theorem RD.cut {L : Nat} : ∀ {d : D} {v : V}, RD K mg ρ H d v → lowD L d = true → ∀ {ρ2 : List Addr}, (∀ n, n < L → ρ2[n]? = ρ[n]?) → RD K mg ρ2 H d v
  | .non, _, h, _, _, _ => by simp only [RD] at h ⊢; exact h
  | .bl _, _, h, _, _, _ => by simp only [RD] at h ⊢; exact h
  | .int _, _, h, _, _, _ => by simp only [RD] at h ⊢; exact h
  | .str _, _, h, _, _, _ => by simp only [RD] at h ⊢; exact h
  | .gl _, _, h, _, _, _ => by simp only [RD] at h ⊢; exact h
  | .ref n, _, h, l, _, e => by
    simp only [RD] at h ⊢
    obtain ⟨a, r, q⟩ := h
    exact ⟨a, r, by rw [e n (by simpa [lowD] using l)]; exact q⟩
  | .tup ds, _, h, l, _, e => by
    simp only [RD] at h ⊢
    obtain ⟨a, xs, r, q, z⟩ := h
    exact ⟨a, xs, r, q, RDs.cut z (by simpa [lowD] using l) e⟩
  | .kt ds, _, h, l, _, e => by
    simp only [RD] at h ⊢
    obtain ⟨a, xs, o, its, n, r, q, z⟩ := h
    exact ⟨a, xs, o, its, n, r, q, RDs.cut z (by simpa [lowD] using l) e⟩
  | .kl ds, _, h, l, _, e => by
    simp only [RD] at h ⊢
    obtain ⟨a, xs, o, its, n, r, q, z⟩ := h
    exact ⟨a, xs, o, its, n, r, q, RDs.cut z (by simpa [lowD] using l) e⟩
theorem RDs.cut {L : Nat} : ∀ {ds : List D} {vs : List V}, RDs K mg ρ H ds vs → lowDs L ds = true → ∀ {ρ2 : List Addr}, (∀ n, n < L → ρ2[n]? = ρ[n]?) → RDs K mg ρ2 H ds vs
  | [], _, h, _, _, _ => by simp only [RDs] at h ⊢; exact h
  | d :: ds, _, h, l, _, e => by
    obtain ⟨x, xs, rfl, h1, h2⟩ := h.uncons
    simp only [lowDs, Bool.and_eq_true] at l
    exact .cons (RD.cut h1 l.1 e) (RDs.cut h2 l.2 e)
end
theorem RKV.lowv : ∀ {kvs : List (D × D)} {ks : List (Key × V)}, RKV K mg ρ H kvs ks → lowDs ρ.length (kvs.map (·.2)) = true
  | _, _, .nil => rfl
  | _, _, .cons r t => by simp only [List.map_cons, lowDs, Bool.and_eq_true]; exact ⟨r.2.low, RKV.lowv t⟩
theorem RKT.lowv : ∀ {kvs : List (D × D)} {ks : List (List Key × V)}, RKT K mg ρ H kvs ks → lowDs ρ.length (kvs.map (·.2)) = true
  | _, _, .nil => rfl
  | _, _, .cons r t => by simp only [List.map_cons, lowDs, Bool.and_eq_true]; exact ⟨r.2.low, RKT.lowv t⟩
theorem RFS.lowv : ∀ {kvs : List (Str × D)} {ks : List (Str × V)}, RFS K mg ρ H kvs ks → lowDs ρ.length (kvs.map (·.2)) = true
  | _, _, .nil => rfl
  | _, _, .cons r t => by simp only [List.map_cons, lowDs, Bool.and_eq_true]; exact ⟨r.2.low, RFS.lowv t⟩
theorem RKV.cut {L : Nat} {ρ2 : List Addr} (e : ∀ n, n < L → ρ2[n]? = ρ[n]?) : ∀ {kvs : List (D × D)} {ks : List (Key × V)}, RKV K mg ρ H kvs ks → lowDs L (kvs.map (·.2)) = true → RKV K mg ρ2 H kvs ks
  | _, _, .nil, _ => .nil
  | _, _, .cons r t, l => by simp only [List.map_cons, lowDs, Bool.and_eq_true] at l; exact .cons ⟨r.1, r.2.cut l.1 e⟩ (RKV.cut e t l.2)
theorem RKT.cut {L : Nat} {ρ2 : List Addr} (e : ∀ n, n < L → ρ2[n]? = ρ[n]?) : ∀ {kvs : List (D × D)} {ks : List (List Key × V)}, RKT K mg ρ H kvs ks → lowDs L (kvs.map (·.2)) = true → RKT K mg ρ2 H kvs ks
  | _, _, .nil, _ => .nil
  | _, _, .cons r t, l => by simp only [List.map_cons, lowDs, Bool.and_eq_true] at l; exact .cons ⟨r.1, r.2.cut l.1 e⟩ (RKT.cut e t l.2)
theorem RFS.cut {L : Nat} {ρ2 : List Addr} (e : ∀ n, n < L → ρ2[n]? = ρ[n]?) : ∀ {kvs : List (Str × D)} {ks : List (Str × V)}, RFS K mg ρ H kvs ks → lowDs L (kvs.map (·.2)) = true → RFS K mg ρ2 H kvs ks
  | _, _, .nil, _ => .nil
  | _, _, .cons r t, l => by simp only [List.map_cons, lowDs, Bool.and_eq_true] at l; exact .cons ⟨r.1, r.2.cut l.1 e⟩ (RFS.cut e t l.2)
theorem RO.low {a : Addr} {o : O} (h : RO K mg ρ H a o) : lowO ρ.length o = true := by
  cases o with
  | lst ds => obtain ⟨vs, e, r⟩ := h; exact r.low
  | frz ds => obtain ⟨o, vs, e, r⟩ := h; exact r.low
  | dict kvs => rcases h with ⟨ks, e, r⟩ | ⟨⟨ks, e, r⟩, _⟩ <;> exact r.lowv
  | ins c fs => obtain ⟨C, dx, vs, m, e, r⟩ := h; exact r.lowv
theorem RO.cut {L : Nat} {a : Addr} {o : O} (h : RO K mg ρ H a o) (l : lowO L o = true) {ρ2 : List Addr} (e : ∀ n, n < L → ρ2[n]? = ρ[n]?) : RO K mg ρ2 H a o := by
  cases o with
  | lst ds => obtain ⟨vs, q, r⟩ := h; exact ⟨vs, q, r.cut l e⟩
  | frz ds => obtain ⟨o, vs, q, r⟩ := h; exact ⟨o, vs, q, r.cut l e⟩
  | dict kvs =>
    rcases h with ⟨ks, q, r⟩ | ⟨⟨ks, q, r⟩, ne⟩
    · exact .inl ⟨ks, q, RKV.cut e r l⟩
    · exact .inr ⟨⟨ks, q, RKT.cut e r l⟩, ne⟩
  | ins c fs => obtain ⟨C, dx, vs, m, q, r⟩ := h; exact ⟨C, dx, vs, m, q, RFS.cut e r l⟩
theorem gc_sound {st st' : Store} {d : D} {v : V} (rs : RS K mg ρ H st) (x : Ext K ρ H ρ' H') (rs' : RS K mg ρ' H' st') (rd : RD K mg ρ' H' d v) :
    ∃ ρ'', Ext K ρ H ρ'' H' ∧ RS K mg ρ'' H' (gc st d st').2 ∧ RD K mg ρ'' H' (gc st d st').1 v ∧ (∀ c w, RD K mg ρ' H' c w → lowD st.length c = true → RD K mg ρ'' H' c w) := by
  unfold gc
  by_cases hc : ∀ i, i < st.length → (st'[i]? = st[i]? ∨ ∃ o, st'[i]? = some o ∧ lowO st.length o = true)
  · rw [if_pos hc]
    have hlow : ∀ (i : Nat) o, i < st.length → st'[i]? = some o → lowO st.length o = true := fun i o hi ho => by
      rcases hc i hi with h | ⟨o', h, l⟩
      · obtain ⟨a, _, r⟩ := rs.at_ (n := i) (o := o) (by rw [← h]; exact ho)
        rw [← rs.len]
        exact r.low
      · rw [ho] at h; cases h; exact l
    have hlen : ρ.length ≤ ρ'.length := by
      by_cases h0 : ρ.length = 0
      · omega
      · have := x.pre (ρ.length - 1) (ρ[ρ.length - 1]'(by omega)) (List.getElem?_eq_getElem (by omega))
        have := (List.getElem?_eq_some_iff.mp this).1
        omega
    have ht : ∀ n, n < st.length → (ρ'.take st.length)[n]? = ρ'[n]? := fun n hn => by rw [List.getElem?_take, if_pos hn]
    have e1 : Ext K ρ H (ρ'.take st.length) H' := ⟨fun n a h => by
      have hn : n < st.length := by rw [← rs.len]; exact (List.getElem?_eq_some_iff.mp h).1
      rw [ht n hn]; exact x.pre n a h, x.tup, x.frm, fun a h n => x.new_ a (List.mem_of_mem_take h) n⟩
    have s1 : RS K mg (ρ'.take st.length) H' (st'.take st.length) := ⟨by rw [List.length_take, List.length_take, rs'.len], rs'.nd.sublist (List.take_sublist _ _), fun n a o h1 h2 => by
      have hn : n < st.length := by have := (List.getElem?_eq_some_iff.mp h2).1; rw [List.length_take] at this; omega
      rw [ht n hn] at h1
      rw [List.getElem?_take, if_pos hn] at h2
      exact (rs'.ob n a o h1 h2).cut (hlow n o hn h2) (fun m hm => ht m hm)⟩
    by_cases hd : lowD st.length d = true
    · rw [if_pos hd]
      exact ⟨_, e1, s1, rd.cut hd ht, fun c w r l => r.cut l ht⟩
    · rw [if_neg hd]
      cases d with
      | ref n =>
        simp only
        cases ho : st'[n]? with
        | none => exact ⟨ρ', x, rs', rd, fun c w r _ => r⟩
        | some o =>
          simp only
          by_cases hl : st.length ≤ n ∧ lowO st.length o = true
          · rw [if_pos hl]
            simp only [RD] at rd
            obtain ⟨a, rfl, ha⟩ := rd
            have hnew : a ∉ ρ'.take st.length := fun hm => by
              obtain ⟨m, hm1, e⟩ := List.getElem_of_mem hm
              have hm2 : m < st.length := by rw [List.length_take] at hm1; omega
              have q : ρ'[m]? = some a := by rw [← ht m hm2, List.getElem?_eq_getElem hm1, e]
              obtain ⟨l1, q1⟩ := List.getElem?_eq_some_iff.mp q
              obtain ⟨l2, q2⟩ := List.getElem?_eq_some_iff.mp ha
              have := (List.getElem_inj rs'.nd).mp (q1.trans q2.symm)
              omega
            have hL : (ρ'.take st.length).length = st.length := by rw [List.length_take]; have := rs.len; omega
            have hL2 : (st'.take st.length).length = st.length := by rw [← s1.len, hL]
            have ht2 : ∀ m, m < st.length → (ρ'.take st.length ++ [a])[m]? = ρ'[m]? := fun m hm => by rw [List.getElem?_append_left (by rw [hL]; exact hm), ht m hm]
            refine ⟨ρ'.take st.length ++ [a], ⟨fun m b h => ?_, x.tup, x.frm, fun b h nb => ?_⟩, ⟨?_, ?_, fun m b u h1 h2 => ?_⟩, ?_, fun c w r l => r.cut l ht2⟩
            · have hm : m < st.length := by rw [← rs.len]; exact (List.getElem?_eq_some_iff.mp h).1
              rw [ht2 m hm]; exact x.pre m b h
            · rcases List.mem_append.mp h with h | h
              · exact x.new_ b (List.mem_of_mem_take h) nb
              · simp at h; subst h
                exact x.new_ b (List.mem_of_getElem? ha) nb
            · simp [hL, hL2]
            · refine List.nodup_append.mpr ⟨rs'.nd.sublist (List.take_sublist _ _), by simp, fun b hb c hc => ?_⟩
              simp at hc; subst hc
              intro z; subst z; exact hnew hb
            · by_cases hm : m < st.length
              · rw [ht2 m hm] at h1
                rw [List.getElem?_append_left (by rw [hL2]; exact hm), List.getElem?_take, if_pos hm] at h2
                exact (rs'.ob m b u h1 h2).cut (hlow m u hm h2) ht2
              · have hm' : m = st.length := by
                  have := (List.getElem?_eq_some_iff.mp h2).1
                  simp [hL2] at this
                  omega
                subst hm'
                rw [List.getElem?_append_right (by rw [hL]; exact Nat.le_refl _), hL] at h1
                rw [List.getElem?_append_right (by rw [hL2]; exact Nat.le_refl _), hL2] at h2
                simp at h1 h2
                subst h1; subst h2
                exact (rs'.ob n a o ha ho).cut hl.2 ht2
            · simp only [RD]
              exact ⟨a, rfl, by rw [List.getElem?_append_right (by rw [hL]; exact Nat.le_refl _), hL]; simp⟩
          · rw [if_neg hl]
            exact ⟨ρ', x, rs', rd, fun c w r _ => r⟩
      | _ => exact ⟨ρ', x, rs', rd, fun c w r _ => r⟩
  · rw [if_neg hc]
    exact ⟨ρ', x, rs', rd, fun c w r _ => r⟩
/-- an object that stands untold is told -/
theorem RS.adopt {st : Store} {p : Addr} {vs : List V} {ds : List D} (h : RS K mg ρ H st) (hp : p ∉ ρ) (e : H p = some (.lst vs)) (r : RDs K mg ρ H ds vs) : RS K mg (ρ ++ [p]) H (st ++ [.lst ds]) := by
  have mono : ∀ {d : D} {v : V}, RD K mg ρ H d v → RD K mg (ρ ++ [p]) H d v := fun {d v} q => q.cut q.low fun n hn => List.getElem?_append_left hn
  refine ⟨by simp [h.len], List.nodup_append.mpr ⟨h.nd, by simp, fun a ha b hb => by simp at hb; subst hb; intro z; subst z; exact hp ha⟩, fun n a u e1 e2 => ?_⟩
  by_cases hn : n < ρ.length
  · rw [List.getElem?_append_left hn] at e1
    rw [List.getElem?_append_left (by rw [← h.len]; exact hn)] at e2
    have q := h.ob n a u e1 e2
    exact q.cut q.low fun m hm => List.getElem?_append_left hm
  · have hn' : n = ρ.length := by
      have := (List.getElem?_eq_some_iff.mp e1).1
      simp at this
      omega
    subst hn'
    simp at e1
    rw [h.len] at e2
    simp at e2
    subst e1; subst e2
    exact ⟨vs, e, r.cut r.low fun m hm => List.getElem?_append_left hm⟩
end
/-! ### comprehensions -/
/-- a comprehension's target: a name, a tuple of names -/
inductive Tg where
  | nm (i : Nat)
  | tp (is : List Nat)
def setE : Py.Loc → List Nat → List D → Py.Loc
  | e, i :: is, d :: ds => setE (e.set i (some d)) is ds
  | e, _, _ => e
def setV : L2.St → List Nat → List V → L2.St
  | e, i :: is, d :: ds => setV (e.set i (some d)) is ds
  | e, _, _ => e
def bindE : Tg → D → Py.Loc → Option Py.Loc
  | .nm i, d, e => some (e.set i (some d))
  | .tp is, .tup ds, e => if ds.length = is.length then some (setE e is ds) else none
  | _, _, _ => none
def wipeE (e : Py.Loc) : List Nat → Py.Loc
  | [] => e
  | v :: vs => (wipeE e vs).set v none
def Tg.slots : Tg → List Nat
  | .nm i => [i]
  | .tp is => is
def gTg (K : PySem.W.Frag) : Tg → TG
  | .nm i => gName i
  | .tp is => gTup K is.length (fun vs σ H Q => vs.length = is.length ∧ Q (setV σ is vs) H)
section
variable {X : Cx} {W : WX} {pos : Pos}
def namesIx (N : List Str) : List Expr → List Nat → Bool
  | [], [] => true
  | .Name x _ :: es, i :: is => decide (N[i]? = some x) && namesIx N es is
  | _, _ => false
def namesOk (fnb : Str → Bool) (sc : Scope) : List Expr → Bool
  | [] => true
  | .Name x _ :: es => (decide (sc.names.lookup x = some .local) || (fnb x && decide (sc.names.lookup x = some .cell))) && namesOk fnb sc es
  | _ => false
theorem sg_names (hN : X.N.Nodup) : ∀ {es : List Expr} {is : List Nat}, namesIx X.N es is = true → namesOk X.fn X.env.scope es = true → PGs X es (fun vs σ H Q => vs.length = is.length ∧ Q (setV σ is vs) H) ∧ es.all noStar = true ∧ es.length = is.length
  | [], [], _, _ => ⟨⟨fun pins s σ H vs us Q I r h => pgs_nil.run pins s σ H vs us Q I r (by
      obtain ⟨h1, h2⟩ := h
      cases vs with
      | nil => exact ⟨rfl, h2⟩
      | cons _ _ => cases h1)⟩, rfl, rfl⟩
  | [], _ :: _, h, _ => by cases h
  | e :: es, [], h, k => by cases e <;> cases h
  | e :: es, i :: is, h, k => by
    cases e with
    | Name x p =>
      simp only [namesIx, Bool.and_eq_true, decide_eq_true_eq] at h
      simp only [namesOk, Bool.and_eq_true, Bool.or_eq_true, decide_eq_true_eq] at k
      obtain ⟨ih, ih2, ih3⟩ := sg_names hN (es := es) (is := is) h.2 k.2
      have hl : L2.Loc X.env.scope x := k.1.elim .inl fun z => .inr z.2
      have hf : X.fn x = true ∨ X.env.scope.names.lookup x = some .local := k.1.elim .inr fun z => .inl z.1
      refine ⟨⟨fun pins s σ H vs us Q I r q => (pgs_cons (pg_name hN h.1 hl hf) ih (assignEach_cons _ _ _ rfl)).run pins s σ H vs us Q I r ?_⟩, by simpa [noStar] using ih2, by simp [ih3]⟩
      obtain ⟨h1, h2⟩ := q
      cases vs with
      | nil => cases h1
      | cons v vs => exact ⟨v, vs, rfl, by simpa using h1, h2⟩
    | _ => cases k
def tgOk (N : List Str) (fnb : Str → Bool) (sc : Scope) : Expr → Tg → Bool
  | .Name x _, .nm i => decide (N[i]? = some x) && (decide (sc.names.lookup x = some .local) || (fnb x && decide (sc.names.lookup x = some .cell)))
  | .Tuple es _ _, .tp is => namesIx N es is && namesOk fnb sc es
  | _, _ => false
theorem sg_tg (hN : X.N.Nodup) (hc : X.calm = true) {tg : Expr} {t : Tg} (h : tgOk X.N X.fn X.env.scope tg t = true) : PG X tg (gTg X.K t) := by
  cases t with
  | nm i =>
    cases tg with
    | Name x p =>
      simp only [tgOk, Bool.and_eq_true, Bool.or_eq_true, decide_eq_true_eq] at h
      exact pg_name hN h.1 (h.2.elim .inl fun z => .inr z.2) (h.2.elim .inr fun z => .inl z.1)
    | _ => cases h
  | tp is =>
    cases tg with
    | Tuple es k p =>
      simp only [tgOk, Bool.and_eq_true] at h
      obtain ⟨a, b, c⟩ := sg_names hN h.1 h.2
      exact pg_tup hc a (by rw [assignEach_len, c]) (assignEach_star es _ b)
    | _ => cases h
theorem RE.setAll {K : PySem.W.Frag} {mg : Str → Option Value} {ρ : List Addr} {H : Hp} : ∀ {is : List Nat} {ds : List D} {vs : List V} {σ : L2.St} {e : Py.Loc}, RE K mg ρ H σ e → RDs K mg ρ H ds vs → RE K mg ρ H (setV σ is vs) (setE e is ds)
  | [], _, _, _, _, h, _ => by simp only [setV, setE]; exact h
  | i :: is, [], _, _, _, h, r => by simp only [RDs] at r; subst r; exact h
  | i :: is, d :: ds, _, σ, e, h, r => by
    obtain ⟨x, xs, rfl, h1, h2⟩ := r.uncons
    show RE K mg ρ H (setV (σ.set i (some x)) is xs) (setE (e.set i (some d)) is ds)
    exact RE.setAll (RE.set h h1) h2
theorem RE.wipe {K : PySem.W.Frag} {mg : Str → Option Value} {ρ : List Addr} {H : Hp} {σ : L2.St} {e : Py.Loc} (h : RE K mg ρ H σ e) : ∀ vs : List Nat, RE K mg ρ H (wipe σ vs) (wipeE e vs)
  | [] => h
  | v :: vs => by
    have ih := RE.wipe h vs
    refine ⟨by simp [L2.wipe, wipeE, ih.len], fun i d q => ?_⟩
    unfold wipeE at q
    by_cases hi : v = i
    · subst hi
      have hl : v < (wipeE e vs).length := by have := (List.getElem?_eq_some_iff.mp q).1; simpa using this
      rw [List.getElem?_set_self hl] at q; cases q
    · rw [List.getElem?_set_ne hi] at q
      obtain ⟨v', a, b⟩ := ih.at_ i d q
      exact ⟨v', by unfold L2.wipe; rw [List.getElem?_set_ne hi]; exact a, b⟩
theorem wipe_ext {σ σ' : L2.St} : ∀ {vs : List Nat}, (∀ i, i ∉ vs → σ[i]? = σ'[i]?) → σ.length = σ'.length → wipe σ vs = wipe σ' vs := fun {vs} h hl => by
  refine List.ext_getElem? fun i => ?_
  by_cases hi : i ∈ vs
  · have : ∀ (τ : L2.St) (vs : List Nat), i ∈ vs → (wipe τ vs)[i]? = if i < τ.length then some none else none := by
      intro τ vs hi
      induction vs with
      | nil => cases hi
      | cons v vs ih =>
        unfold L2.wipe
        by_cases hv : v = i
        · subst hv
          rw [List.getElem?_set]
          simp [wipe_length]
        · rw [List.getElem?_set_ne hv]
          exact ih ((List.mem_cons.mp hi).resolve_left (Ne.symm hv))
    rw [this σ vs hi, this σ' vs hi, hl]
  · rw [wipe_out hi, wipe_out hi]; exact h i hi
theorem setV_out : ∀ {is : List Nat} {vs : List V} {σ : L2.St} {i : Nat}, i ∉ is → (setV σ is vs)[i]? = σ[i]?
  | [], _, _, _, _ => rfl
  | j :: is, [], _, _, _ => rfl
  | j :: is, v :: vs, σ, i, h => by
    unfold setV
    rw [setV_out (fun z => h (List.mem_cons_of_mem _ z)), List.getElem?_set_ne (fun z => h (by rw [z]; exact List.mem_cons_self))]
theorem setV_len : ∀ {is : List Nat} {vs : List V} {σ : L2.St}, (setV σ is vs).length = σ.length
  | [], _, _ => rfl
  | j :: is, [], _ => rfl
  | j :: is, v :: vs, σ => by unfold setV; rw [setV_len]; simp
theorem wipe_wipe (σ : L2.St) (vs : List Nat) : wipe (wipe σ vs) vs = wipe σ vs := wipe_ext (fun i hi => wipe_out hi) (wipe_length _ _)
/-- one item of a comprehension -/
noncomputable def lcB (tg : Tg) (mt : Py.Loc → Store → R Bool) (me : Py.Loc → Store → R D) (d : D) (e : Py.Loc) (st : Store) : R (Option D) :=
  match bindE tg d e with
  | none => .stuck
  | some e1 => match mt e1 st with
    | .ok false st1 => .ok none (gc st .non st1).2
    | .ok true st1 => (match me e1 st1 with
      | .ok y st2 => .ok (some (gc st y st2).1) (gc st y st2).2
      | _ => .stuck)
    | _ => .stuck
open Classical in
noncomputable def lcL (still : Store → Prop) (b : D → Store → R (Option D)) : List D → Store → R (List D)
  | [], st => if still st then .ok [] st else .stuck
  | d :: ds, st => if still st then (b d st).bind fun o st => (lcL still b ds st).bind fun r st => .ok (o.toList ++ r) st else .stuck
noncomputable def mLc (mi : Py.Loc → Store → R Iter) (tg : Tg) (mt : Py.Loc → Store → R Bool) (me : Py.Loc → Store → R D) (vs : List Nat) : Py.Loc → Store → R D := fun e st =>
  (mi e st).bind fun it st => if it.items.length ≤ sizeLine then (lcL it.still (fun d st => lcB tg mt me d (wipeE e vs) st) it.items st).bind fun ds st => .ok (.ref st.length) (st ++ [.lst ds]) else .stuck
abbrev W0 : WX := fun _ _ _ _ => False
theorem gTg_of {K : PySem.W.Frag} {mg : Str → Option Value} {ρ : List Addr} {H : Hp} {t : Tg} {vs : List Nat} {σ : L2.St} {e e1 : Py.Loc} {d : D} {x : V} {Q : L2.St → Hp → Prop} (hs : ∀ i ∈ t.slots, i ∈ vs) (re : RE K mg ρ H σ e) (rd : RD K mg ρ H d x) (hb : bindE t d e = some e1)
    (h : ∀ σ', RE K mg ρ H σ' e1 → wipe σ' vs = wipe σ vs → Q σ' H) : gTg K t x σ H Q := by
  cases t with
  | nm i =>
    simp only [bindE, Option.some.injEq] at hb
    subst hb
    refine h _ (re.set rd) (wipe_ext (fun j hj => ?_) (by simp))
    rw [List.getElem?_set_ne (fun z => hj (by rw [← z]; exact hs i (by simp [Tg.slots])))]
  | tp is =>
    cases d with
    | tup ds =>
      simp only [bindE] at hb
      split at hb
      · rename_i hl
        simp only [Option.some.injEq] at hb
        subst hb
        simp only [RD] at rd
        obtain ⟨a, xs, rfl, hq, r⟩ := rd
        refine ⟨a, xs, rfl, .of hq, by rw [← r.length]; exact hl, by rw [← r.length]; exact hl, h _ (re.setAll r) (wipe_ext (fun j hj => setV_out fun z => hj (hs j z)) setV_len)⟩
      · cases hb
    | _ => cases hb
theorem lc_of {mi : Py.Loc → Store → R Iter} {tg : Tg} {mt : Py.Loc → Store → R Bool} {me : Py.Loc → Store → R D} {vs : List Nat} (hs : ∀ i ∈ tg.slots, i ∈ vs) (σ : L2.St) (H : Hp) (Q : VK) (h : tG X.K X.mg (RD X.K X.mg) W (mLc mi tg mt me vs) σ H Q) :
    tLc (tG X.K X.mg (RI X.K X.mg) W mi) (gTg X.K tg) (tG X.K X.mg RB W0 mt) (tG X.K X.mg (RD X.K X.mg) W0 me) vs σ H Q := by
  obtain ⟨ρ, e, st, rs, re, p⟩ := h
  refine ⟨ρ, e, st, rs, re, (Post.bind p).imp fun J H1 ⟨it, ρ1, st1, x1, rs1, ri, p1⟩ => ?_⟩
  split at p1
  rotate_left
  · exact p1.elim
  rename_i hsz
  intro Dd hD
  have rew : RE X.K X.mg ρ1 H1 (wipe σ vs) (wipeE e vs) := (re.mono x1).wipe vs
  have hDn : Dd ∉ ρ1 := rs1.fresh hD
  generalize hbb : (fun d st => lcB tg mt me d (wipeE e vs) st) = bb at p1
  refine ⟨fun i m H2 => i + m = it.items.length ∧ ∃ ρ2 st2 acc av, Ext X.K ρ1 H1 ρ2 H2 ∧ Dd ∉ ρ2 ∧ H2 Dd = some (.lst av) ∧ RDs X.K X.mg ρ2 H2 acc av ∧ acc.length ≤ i ∧ RS X.K X.mg ρ2 H2 st2 ∧
      Post X.K X.mg (RD X.K X.mg) W σ Q ρ1 H1 ((lcL it.still bb (it.items.drop i) st2).bind fun ds st => .ok (.ref st.length) (st ++ [.lst (acc ++ ds)])),
    ⟨it.items.length, by omega, ρ1, st1, [], [], Ext.new hD, hDn, upd_same, .nil, Nat.le_refl _, rs1.tupnew hD, by simpa using p1⟩, fun i m H2 hW => ?_⟩
  obtain ⟨him, ρ2, st2, acc, av, x2, hd2, eD, ra, la, rs2, p2⟩ := hW
  have xb : Ext X.K ρ1 H1 ρ2 H2 := x2
  by_cases hil : i < it.items.length
  · refine .inr ?_
    obtain ⟨d, hd⟩ : ∃ d, it.items[i]? = some d := ⟨_, List.getElem?_eq_getElem hil⟩
    rw [List.drop_eq_getElem_cons hil] at p2
    have ed : it.items[i] = d := by rw [List.getElem?_eq_getElem hil] at hd; exact Option.some.inj hd
    rw [ed] at p2
    unfold lcL at p2
    by_cases hst : it.still st2
    · rw [if_pos hst] at p2
      obtain ⟨a1, _⟩ := ri ρ2 H2 st2 xb.wk rs2 hst i
      obtain ⟨hgo, hy⟩ := a1 d hd
      refine ⟨hgo, fun H3 => ∃ ρ3 st3 acc' av', Ext X.K ρ1 H1 ρ3 H3 ∧ Dd ∉ ρ3 ∧ H3 Dd = some (.lst av') ∧ RDs X.K X.mg ρ3 H3 acc' av' ∧ acc'.length ≤ i + 1 ∧ RS X.K X.mg ρ3 H3 st3 ∧
          Post X.K X.mg (RD X.K X.mg) W σ Q ρ1 H1 ((lcL it.still bb (it.items.drop (i + 1)) st3).bind fun ds st => .ok (.ref st.length) (st ++ [.lst (acc' ++ ds)])),
        fun H3 hN => ⟨m - 1, by omega, by omega, hN⟩, fun x H3 hyl => ?_⟩
      obtain ⟨xa, rsa, rda⟩ := hy x H3 hyl
      have eD3 : H3 Dd = some (.lst av) := xa.frm _ _ eD hd2
      rw [← hbb] at p2
      simp only [lcB] at p2
      cases hbd : bindE tg d (wipeE e vs) with
      | none => rw [hbd] at p2; exact p2.elim
      | some e1 =>
        rw [hbd] at p2
        simp only at p2
        have rew3 : RE X.K X.mg ρ2 H3 (wipe σ vs) (wipeE e vs) := (rew.mono xb).mono xa
        refine gTg_of hs rew3 rda hbd fun σ2 re2 hw2 => ⟨by rw [hw2]; exact wipe_wipe σ vs, ?_⟩
        refine ⟨ρ2, e1, st2, rsa, re2, ?_⟩
        cases hmt : mt e1 st2 with
        | ok k st4 =>
          rw [hmt] at p2
          intro ρ4 H4 k' x4 rs4 hk
          cases hk
          have hD4 : Dd ∉ ρ4 := fun hm => by have := x4.new_ Dd hm hd2; rw [eD3] at this; cases this
          have eD4 : H4 Dd = some (.lst av) := x4.frm _ _ eD3 hd2
          cases k with
          | false =>
            rw [if_neg (by decide)]
            simp only at p2
            obtain ⟨ρ5, x5, rs5, _, _⟩ := gc_sound rsa x4 rs4 (d := .non) (v := .non) (by simp only [RD])
            have hD5 : Dd ∉ ρ5 := fun hm => by have := x5.new_ Dd hm hd2; rw [eD3] at this; cases this
            refine ⟨ρ5, _, acc, av, x2.trans (xa.trans x5), hD5, eD4, ra.mono (xa.trans x5), by omega, rs5, ?_⟩
            simp only [R.bind_ok, Option.toList_none, List.nil_append] at p2
            rw [← hbb]
            have idb : ∀ r : R (List D), (r.bind fun r st => R.ok r st) = r := fun r => by cases r <;> rfl
            rw [idb] at p2
            exact p2
          | true =>
            rw [if_pos rfl]
            simp only at p2
            refine ⟨ρ4, e1, st4, rs4, re2.mono x4, ?_⟩
            cases hme : me e1 st4 with
            | ok y st5 =>
              rw [hme] at p2
              intro ρ5 H5 v x5 rs5 rd5
              obtain ⟨ρ6, x6, rs6, rd6, _⟩ := gc_sound rsa (x4.trans x5) rs5 rd5
              have eD5 : H5 Dd = some (.lst av) := (x4.trans x5).frm _ _ eD3 hd2
              have hD6 : Dd ∉ ρ6 := fun hm => by have := x6.new_ Dd hm hd2; rw [eD3] at this; cases this
              refine ⟨av, eD5, by rw [← ra.length]; omega, ?_⟩
              have hm : ∀ xs, H5 Dd ≠ some (.tup xs) := fun xs r => by rw [eD5] at r; cases r
              refine ⟨ρ6, _, acc ++ [(gc st2 y st5).1], av ++ [v], (x2.trans (xa.trans x6)).beside hD hm, hD6, upd_same, ?_, by simp; omega, rs6.beside hD6 hm, ?_⟩
              · exact ((ra.mono (xa.trans x6)).append (.cons rd6 .nil)).mo (Wk.write hm)
              · rw [← hbb]
                have idb : ∀ (r : R (List D)), ((r.bind fun r st => R.ok ((some (gc st2 y st5).1).toList ++ r) st).bind fun ds st => R.ok (D.ref st.length) (st ++ [O.lst (acc ++ ds)])) = r.bind fun ds st => R.ok (D.ref st.length) (st ++ [O.lst (acc ++ [(gc st2 y st5).1] ++ ds)]) := fun r => by
                  cases r with
                  | ok a st => simp
                  | _ => rfl
                rw [← idb]
                exact p2
            | _ => rw [hme] at p2; exact p2.elim
        | _ => rw [hmt] at p2; exact p2.elim
    · rw [if_neg hst] at p2; exact p2.elim
  · refine .inl ?_
    rw [List.drop_of_length_le (by omega)] at p2
    unfold lcL at p2
    by_cases hst : it.still st2
    · rw [if_pos hst] at p2
      obtain ⟨_, a2⟩ := ri ρ2 H2 st2 xb.wk rs2 hst i
      refine ⟨a2 (List.getElem?_eq_none (by omega)), ?_⟩
      simp only [R.bind_ok, List.append_nil] at p2
      refine p2 (ρ2 ++ [Dd]) H2 (.ref Dd) ⟨fun n a q => by rw [List.getElem?_append_left (List.getElem?_eq_some_iff.mp (xb.pre n a q)).1]; exact xb.pre n a q, xb.tup, xb.frm, fun a ha na => ?_⟩ (rs2.adopt hd2 eD ra) ?_
      · rcases List.mem_append.mp ha with ha | ha
        · exact xb.new_ a ha na
        · simp at ha; subst ha; exact hD
      · simp only [RD]
        exact ⟨Dd, rfl, by rw [← rs2.len]; simp⟩
    · rw [if_neg hst] at p2; exact p2.elim
end
end Py

set_option Elab.async false
set_option linter.all false
set_option maxRecDepth 100000
set_option maxHeartbeats 1000000
namespace Py
open PySem PySem.Spec PyProof.Rows L2
abbrev Mean := List D → Store → R D
section
variable {K : PySem.W.Frag} {mg : Str → Option Value}
/-- what a def promises: its meaning -/
def spD (K : PySem.W.Frag) (mg : Str → Option Value) (n : Nat) (m : Mean) : Sp := fun vs H Q E => vs.length = n ∧ ∃ ρ st ds, RS K mg ρ H st ∧ RDs K mg ρ H ds vs ∧ Post K mg (RD K mg) (fun cls dd _ H => E cls dd H) [] Q ρ H (m ds st)
theorem Post.wish {α β : Type} {Rel : List Addr → Hp → α → β → Prop} {W W' : WX} {σ σ' : L2.St} {Q : β → Hp → Prop} {ρ : List Addr} {H : Hp} {r : R α} (h : Post K mg Rel W σ Q ρ H r) (f : ∀ c d H, W c d σ H → W' c d σ' H) : Post K mg Rel W' σ' Q ρ H r := by
  cases r with
  | ok a st => exact h
  | ex c pl st => exact fun ρ2 H2 cls dd e s x => f _ _ _ (h ρ2 H2 cls dd e s x)
  | stuck => exact h
end
/-- the module's def x, with n parameters, means m -/
structure FnD (P : Program) (w : World) (K : PySem.W.Frag) (mg : Str → Option Value) (base : Heap) (k : Nat) (x : Str) (n : Nat) (m : Mean) : Prop where
  ex : ∃ f fd ps, mg x = some (.ref f) ∧ PySem.W.keepIn K (.ref f) = true ∧ Binds K fd ps [] ∧ ps.length = n ∧ FnOk P w K mg base (L2.CX P w) k f fd ps (spD K mg n m)
theorem FnD.mono {P : Program} {w : World} {K : PySem.W.Frag} {mg : Str → Option Value} {base : Heap} {j k : Nat} {x : Str} {n : Nat} {m : Mean} (h : FnD P w K mg base j x n m) (l : j ≤ k) : FnD P w K mg base k x n m := by
  obtain ⟨f, fd, ps, a, b, c, d, e⟩ := h.ex
  exact ⟨f, fd, ps, a, b, c, d, e.mono l⟩
def mCall (m : Mean) (ma : Py.Loc → Store → R (List D)) : Py.Loc → Store → R D := fun e st => (ma e st).bind m
section
variable {X : Cx} {W : WX} {pos : Pos} {e : Expr} {es : List Expr}
theorem se_call {k n : Nat} {x : Str} {p : Pos} {m : Mean} {ma : Py.Loc → Store → R (List D)} (F : FnD X.prog X.w X.K X.mg X.base k x n m) (hr : Room k X.A) (tk : Takes X W) (hg : Gl X x) (ha : SA X W (e :: es) ma) (hn : (e :: es).length = n) (hdb : (x == ("__debug__" : Str)) = false)
    (hs : (e :: es).all noStar = true) (hl : ∀ e st ds st', ma e st = .ok ds st' → ds.length = n) : SE X W (.Call (.Name x p) (e :: es) [] pos) (mCall m ma) := by
  obtain ⟨f, fd, ps, a, b, c, d, F⟩ := F.ex
  simp only [List.all_cons, Bool.and_eq_true] at hs
  refine PE.imp (pe_callSD (E := WE W) (dvs := []) (ds := []) F hr hg a b c .nil (passAt tk) ha hdb (noStar_ok hs.1 _ _) (noStars_ok hs.2 _ _)) fun σ H Q ⟨ρ, e, st, rs, re, p⟩ => ?_
  refine ⟨ρ, e, st, rs, re, ?_⟩
  have q := Post.bind (Rel := RDs X.K X.mg) p
  revert q
  cases h : ma e st with
  | ok ds st1 =>
    intro q ρ1 H1 vs x1 rs1 rd1
    obtain ⟨ds', ρ2, st2, x2, rs2, rd2, p2⟩ := q ρ1 H1 vs x1 rs1 rd1
    have hlen : vs.length = n := by rw [← rd1.length]; exact hl _ _ _ _ h
    refine ⟨by rw [List.append_nil]; exact hlen, ρ2, st2, ds', rs2, by rw [List.append_nil]; exact rd2, p2.wish fun _ _ _ h => h⟩
  | ex c pl st1 => exact fun q => q
  | stuck => exact fun q => q
end
/-! ### a def -/
def startE (N : List Str) (ds : List D) : Py.Loc := ds.map some ++ List.replicate (N.length - ds.length) none
open Classical in
noncomputable def gcX (st : Store) (pl : List (Str × D)) (st' : Store) : Store := if lowDs st.length (pl.map (·.2)) = true then (gc st .non st').2 else st'
noncomputable def runD (N : List Str) (mb : Py.Loc → Store → Fl) : Mean := fun ds st => match mb (startE N ds) st with
  | .nx _ st' => .ok .non (gc st .non st').2
  | .rt d st' => .ok (gc st d st').1 (gc st d st').2
  | .ex c pl _ st' => .ex c pl (gcX st pl st')
  | _ => .stuck
theorem gc_non (st st' : Store) : (gc st .non st').1 = .non := by
  unfold gc
  split
  · simp [lowD]
  · rfl
section
variable {K : PySem.W.Frag} {mg : Str → Option Value}
theorem RE.start {N : List Str} {ρ : List Addr} {H : Hp} {ds : List D} {vs : List V} (h : RDs K mg ρ H ds vs) : RE K mg ρ H (L2.start N vs) (startE N ds) := by
  refine ⟨by simp [L2.start, startE, h.length], fun i d q => ?_⟩
  unfold startE at q
  by_cases hi : i < ds.length
  · rw [List.getElem?_append_left (by simpa using hi), List.getElem?_map] at q
    cases hd : ds[i]? with
    | none => rw [hd] at q; cases q
    | some d' =>
      rw [hd] at q
      simp at q
      subst q
      obtain ⟨v, hv, r⟩ := h.get hd
      refine ⟨v, ?_, r⟩
      unfold L2.start
      rw [List.getElem?_append_left (by rw [List.length_map, ← h.length]; exact hi), List.getElem?_map, hv]
      rfl
  · rw [List.getElem?_append_right (by simpa using hi), List.getElem?_replicate] at q
    split at q <;> cases q
theorem RFS.cutAll {ρ ρ2 : List Addr} {H : Hp} {L : Nat} (f : ∀ c w, RD K mg ρ H c w → lowD L c = true → RD K mg ρ2 H c w) : ∀ {kvs : List (Str × D)} {ks : List (Str × V)}, RFS K mg ρ H kvs ks → lowDs L (kvs.map (·.2)) = true → RFS K mg ρ2 H kvs ks
  | _, _, .nil, _ => .nil
  | _, _, .cons r t, l => by simp only [List.map_cons, lowDs, Bool.and_eq_true] at l; exact .cons ⟨r.1, f _ _ r.2 l.1⟩ (RFS.cutAll f t l.2)
end
section
variable {P : Program} {w : World} {K : PySem.W.Frag} {mg : Str → Option Value} {base : Heap}
theorem fn_sound {x qual : Str} {st : Stmt} {f : Addr} {fd : FuncData} {N ps : List Str} {k : Nat} {mb : Py.Loc → Store → Fl} (F : L2.Fun K x qual st f fd) (S : FnScope N ps (defScope st))
    (hb : ∀ (X : Cx) (W : WX), X.prog = P → X.w = w → X.K = K → X.mg = mg → X.base = base → X.N = N → X.env.scope = defScope st → (X.fn = fun _ => true) → X.calm = true → X.stack = X.env :: X.outer → X.env.frame = some X.env.locals →
      Room k X.A → Takes X W → PassesOwn (model X.prog X.w) X.A X.env X.xe → SSs X W (defBody st) mb) :
    FnOk P w K mg base (L2.CX P w) (k + 1) f fd ps (spD K mg ps.length (runD N mb)) := by
  refine F.okX S (fun vs H Q E h => h.1) (fun cdv A outer s H vs Q E hr h => ?_)
  obtain ⟨hl, ρ, st0, ds, rs, rd, p⟩ := h
  refine ⟨_, hb (cxOf (L2.CX P w) P w K mg base N qual (defScope st) f cdv A outer s H E) (fun cls d _ H => E cls d H) rfl rfl rfl rfl rfl rfl rfl rfl rfl rfl rfl hr (takes_of rfl rfl rfl rfl) (passes_of rfl), ρ, startE N ds, st0, rs, .start rd, ?_⟩
  revert p
  simp only [runD]
  show Post K mg (RD K mg) _ [] Q ρ H _ → PostS K mg _ _ ρ H (mb (startE N ds) st0)
  cases mb (startE N ds) st0 with
  | nx e1 st1 =>
    intro p ρ1 H1 σ1 x1 rs1 re1
    obtain ⟨ρ2, x2, rs2, rd2, _⟩ := gc_sound rs x1 rs1 (d := .non) (v := .non) (by simp only [RD])
    exact p ρ2 H1 .non x2 rs2 (by simp only [RD])
  | rt d st1 =>
    intro p ρ1 H1 v x1 rs1 rd1
    obtain ⟨ρ2, x2, rs2, rd2, _⟩ := gc_sound rs x1 rs1 rd1
    exact p ρ2 H1 v x2 rs2 rd2
  | bk _ _ => exact fun p => p.elim
  | ct _ _ => exact fun p => p.elim
  | ex c pl e1 st1 =>
    intro p ρ1 H1 σ1 cls dd x1 rs1 re1 rx
    have p' : ∀ ρ' H' cls dd, Ext K ρ H ρ' H' → RS K mg ρ' H' (gcX st0 pl st1) → RX K mg ρ' H' c pl cls dd → E cls dd H' := p
    by_cases hlow : lowDs st0.length (pl.map (·.2)) = true
    · obtain ⟨ρ2, x2, rs2, rd2, cut⟩ := gc_sound rs x1 rs1 (d := .non) (v := .non) (by simp only [RD])
      refine p' ρ2 H1 cls dd x2 (by unfold gcX; rw [if_pos hlow]; exact rs2) ?_
      obtain ⟨C, hC, rfl, h⟩ := rx
      refine ⟨C, hC, rfl, ?_⟩
      rcases h with h | ⟨d, fs, h1, h2, h3⟩
      · exact .inl h
      · exact .inr ⟨d, fs, h1, h2, RFS.cutAll cut h3 hlow⟩
    · exact p' ρ1 H1 cls dd x1 (by unfold gcX; rw [if_neg hlow]; exact rs1) rx
  | stuck => exact fun p => p.elim
theorem fnD_of {x qual : Str} {st : Stmt} {f : Addr} {fd : FuncData} {N ps : List Str} {k : Nat} {mb : Py.Loc → Store → Fl} (F : L2.Fun K x qual st f fd) (hm : mg x = some (.ref f)) (b : Binds K fd ps []) (S : FnScope N ps (defScope st))
    (hb : ∀ (X : Cx) (W : WX), X.prog = P → X.w = w → X.K = K → X.mg = mg → X.base = base → X.N = N → X.env.scope = defScope st → (X.fn = fun _ => true) → X.calm = true → X.stack = X.env :: X.outer → X.env.frame = some X.env.locals →
      Room k X.A → Takes X W → PassesOwn (model X.prog X.w) X.A X.env X.xe → SSs X W (defBody st) mb) : FnD P w K mg base (k + 1) x ps.length (runD N mb) :=
  ⟨f, fd, ps, hm, F.kp, b, rfl, fn_sound F S hb⟩
end
end Py

set_option Elab.async false
set_option linter.all false
set_option maxRecDepth 100000
set_option maxHeartbeats 1000000
namespace Py
open PySem PySem.Spec PyProof.Rows L2
/-! ### reading -/
def getL (st : Store) (n : Nat) : Option (List D) := match st[n]? with | some (.lst ds) => some ds | some (.frz ds) => some ds | _ => none
def getT : D → Option (List D) | .tup ds => some ds | .kt ds => some ds | _ => none
section
variable {K : PySem.W.Frag} {mg : Str → Option Value} {ρ : List Addr} {H : Hp} {st : Store}
theorem lst_at {n : Nat} {v : V} {ds : List D} (rs : RS K mg ρ H st) (h : RD K mg ρ H (.ref n) v) (e : st[n]? = some (.lst ds)) : ∃ a vs, v = .ref a ∧ ρ[n]? = some a ∧ H a = some (.lst vs) ∧ RDs K mg ρ H ds vs := by
  simp only [RD] at h
  obtain ⟨a, rfl, ha⟩ := h
  obtain ⟨vs, h1, h2⟩ := rs.ob n a _ ha e
  exact ⟨a, vs, rfl, ha, h1, h2⟩
theorem seq_at {n : Nat} {v : V} {ds : List D} (rs : RS K mg ρ H st) (h : RD K mg ρ H (.ref n) v) (e : getL st n = some ds) : ∃ a vs, v = .ref a ∧ ρ[n]? = some a ∧ SqL K H a vs ∧ RDs K mg ρ H ds vs := by
  simp only [RD] at h
  obtain ⟨a, rfl, ha⟩ := h
  unfold getL at e
  split at e
  · rename_i ds' h'
    cases e
    obtain ⟨vs, h1, h2⟩ := rs.ob n a _ ha h'
    exact ⟨a, vs, rfl, ha, .of h1, h2⟩
  · rename_i ds' h'
    cases e
    obtain ⟨o, vs, h1, h2⟩ := rs.ob n a _ ha h'
    exact ⟨a, vs, rfl, ha, .inl (.inr ⟨o, h1⟩), h2⟩
  · cases e
theorem kl_at {v : V} {ds : List D} (h : RD K mg ρ H (.kl ds) v) : ∃ a vs, v = .ref a ∧ (∀ H', SqL K H' a vs) ∧ RDs K mg ρ H ds vs := by
  simp only [RD] at h
  obtain ⟨a, xs, o, its, n, rfl, h1, h2⟩ := h
  exact ⟨a, xs, rfl, fun _ => .inr ⟨o, its, n, h1⟩, h2⟩
theorem tup_at {d : D} {v : V} {ds : List D} (h : RD K mg ρ H d v) (e : getT d = some ds) : ∃ a vs, v = .ref a ∧ SqT K H a vs ∧ RDs K mg ρ H ds vs := by
  cases d with
  | tup es =>
    cases e
    simp only [RD] at h
    obtain ⟨a, xs, rfl, h1, h2⟩ := h
    exact ⟨a, xs, rfl, .of h1, h2⟩
  | kt es =>
    cases e
    simp only [RD] at h
    obtain ⟨a, xs, o, its, n, rfl, h1, h2⟩ := h
    exact ⟨a, xs, rfl, .inr ⟨o, its, n, h1⟩, h2⟩
  | _ => cases e
end
/-! ### arithmetic -/
open Classical in
noncomputable def guard (p : Prop) (x : D) (st : Store) : Option (D × Store) := if p then some (x, st) else none
theorem guard_pos {p : Prop} {x : D} {st : Store} (h : p) : guard p x st = some (x, st) := if_pos h
section
variable {X : Cx}
theorem PostO.guard {p : Prop} {x : D} {st : Store} {ρ : List Addr} {H : Hp} {Q : VK} {K : PySem.W.Frag} {mg : Str → Option Value} (h : PostO K mg Q ρ H (Py.guard p x st)) : p ∧ PostO K mg Q ρ H (some (x, st)) := by
  unfold Py.guard at h
  split at h
  · rename_i hp; exact ⟨hp, h⟩
  · exact h.elim
theorem PostO.here {x : D} {v : V} {st : Store} {ρ : List Addr} {H : Hp} {Q : VK} {K : PySem.W.Frag} {mg : Str → Option Value} (h : PostO K mg Q ρ H (some (x, st))) (rs : RS K mg ρ H st) (r : RD K mg ρ H x v) : Q v H := h ρ H v .refl rs r
theorem rd_int {K : PySem.W.Frag} {mg : Str → Option Value} {ρ : List Addr} {H : Hp} {i : Int} : RD K mg ρ H (.int i) (.int i) := by simp only [RD]
theorem rd_bl {K : PySem.W.Frag} {mg : Str → Option Value} {ρ : List Addr} {H : Hp} {i : Bool} : RD K mg ρ H (.bl i) (.bl i) := by simp only [RD]
theorem rd_str {K : PySem.W.Frag} {mg : Str → Option Value} {ρ : List Addr} {H : Hp} {i : Str} : RD K mg ρ H (.str i) (.str i) := by simp only [RD]
theorem rd_non {K : PySem.W.Frag} {mg : Str → Option Value} {ρ : List Addr} {H : Hp} : RD K mg ρ H .non .non := by simp only [RD]
/-- two ints, a condition, a result -/
noncomputable def intO (C : Int → Int → Prop) (g : Int → Int → D) : D → D → Store → Option (D × Store)
  | .int i, .int j, st => guard (C i j) (g i j) st
  | _, _, _ => none
def VofD : D → V
  | .int i => .int i
  | .bl b => .bl b
  | .str s => .str s
  | _ => .non
theorem intO_ok {f : Value → Value → Sem Value} {C : Int → Int → Prop} {g : Int → Int → D} {g' : Int → Int → V} (h : OpR X f (rI C g')) (hg : ∀ (ρ : List Addr) (H : Hp) i j, RD X.K X.mg ρ H (g i j) (g' i j)) : OpR X f (r2 X.K X.mg (intO C g)) :=
  OpR.imp h fun x y H Q ⟨ρ, st, d1, d2, rs, h1, h2, p⟩ => by
    cases d1 with
    | int i =>
      cases d2 with
      | int j =>
        simp only [RD] at h1 h2
        obtain ⟨c, p⟩ := PostO.guard p
        exact ⟨i, j, h1, h2, c, p.here rs (hg ρ H i j)⟩
      | _ => exact p.elim
    | _ => exact p.elim
theorem rI_of0 {f : Value → Value → Sem Value} {g' : Int → Int → V} (h : OpR X f (rI0 g')) : OpR X f (rI (fun _ _ => True) g') := OpR.imp h fun x y H Q ⟨i, j, a, b, _, q⟩ => ⟨i, j, a, b, q⟩
def MulOk (i j : Int) : Prop := CMul i j ∨ CMulW i j ∨ CMulX i j
theorem op_mulAny : OpR X (binaryOp .Mult) (rI MulOk fun i j => .int (i * j)) := OpR.imp ((op_mul.or op_mulW).or op_mulX) fun x y H Q ⟨i, j, a, b, c, q⟩ => by
  rcases c with c | c | c
  · exact .inl (.inl ⟨i, j, a, b, c, q⟩)
  · exact .inl (.inr ⟨i, j, a, b, c, q⟩)
  · exact .inr ⟨i, j, a, b, c, q⟩
def DivOk (_ j : Int) : Prop := j ≠ 0 ∧ j.natAbs.log2 < 9000
theorem op_fdivAny : OpR X (binaryOp .FloorDiv) (rI DivOk fun i j => .int (i.fdiv j)) := opI fun i j _ _ _ _ _ hc q => floordiv_int hc.1 q (.inl (PyProof.noPylong_of_log2 hc.2))
noncomputable def subD := intO (fun _ _ => True) fun i j => .int (i - j)
noncomputable def fdivD := intO DivOk fun i j => .int (i.fdiv j)
noncomputable def modD := intO (fun _ j => j ≠ 0) fun i j => .int (i.fmod j)
noncomputable def powD := intO CPow fun i j => .int (i ^ j.toNat)
noncomputable def shlD := intO CShl fun i j => .int (i * 2 ^ j.toNat)
noncomputable def shrD := intO (fun _ j => 0 ≤ j) fun i j => .int (i / 2 ^ j.toNat)
noncomputable def andD := intO (fun _ _ => True) fun i j => .int (Builtin.bitAnd i j)
noncomputable def orD := intO (fun _ _ => True) fun i j => .int (Builtin.bitOr i j)
noncomputable def xorD := intO (fun _ _ => True) fun i j => .int (Builtin.bitXor i j)
theorem ok_sub : OpR X (binaryOp .Sub) (r2 X.K X.mg subD) := intO_ok (rI_of0 op_sub) fun _ _ _ _ => rd_int
theorem ok_fdiv : OpR X (binaryOp .FloorDiv) (r2 X.K X.mg fdivD) := intO_ok op_fdivAny fun _ _ _ _ => rd_int
theorem ok_mod : OpR X (binaryOp .Mod) (r2 X.K X.mg modD) := intO_ok op_modN fun _ _ _ _ => rd_int
theorem ok_pow : OpR X (binaryOp .Pow) (r2 X.K X.mg powD) := intO_ok op_pow fun _ _ _ _ => rd_int
theorem ok_shl : OpR X (binaryOp .LShift) (r2 X.K X.mg shlD) := intO_ok op_shlW fun _ _ _ _ => rd_int
theorem ok_shr : OpR X (binaryOp .RShift) (r2 X.K X.mg shrD) := intO_ok op_shr fun _ _ _ _ => rd_int
theorem ok_and : OpR X (binaryOp .BitAnd) (r2 X.K X.mg andD) := intO_ok (rI_of0 op_and) fun _ _ _ _ => rd_int
theorem ok_or : OpR X (binaryOp .BitOr) (r2 X.K X.mg orD) := intO_ok (rI_of0 op_or) fun _ _ _ _ => rd_int
theorem ok_xor : OpR X (binaryOp .BitXor) (r2 X.K X.mg xorD) := intO_ok (rI_of0 op_xor) fun _ _ _ _ => rd_int
/-- + -/
noncomputable def addD : D → D → Store → Option (D × Store)
  | .int i, .int j, st => some (.int (i + j), st)
  | .str a, .str b, st => guard (a.length + b.length ≤ sizeLine) (.str (a ++ b)) st
  | .tup a, .tup b, st => guard (a.length + b.length ≤ sizeLine) (.tup (a ++ b)) st
  | .ref n, .ref m, st => match st[n]?, st[m]? with
    | some (.lst a), some (.lst b) => guard (a.length + b.length ≤ sizeLine) (.ref st.length) (st ++ [.lst (a ++ b)])
    | _, _ => none
  | _, _, _ => none
theorem RDs.nil_iff {K : PySem.W.Frag} {mg : Str → Option Value} {ρ : List Addr} {H : Hp} {ds : List D} {vs : List V} (h : RDs K mg ρ H ds vs) : vs = [] ↔ ds = [] := by
  cases ds with
  | nil => simp only [RDs] at h; simp [h]
  | cons d ds => obtain ⟨x, xs, rfl, _, _⟩ := h.uncons; simp
theorem ok_add : OpR X (binaryOp .Add) (r2 X.K X.mg addD) := OpR.imp ((op_add.or op_add_str).or (op_catA.or op_cat)) fun x y H Q ⟨ρ, st, d1, d2, rs, h1, h2, p⟩ => by
  cases d1 with
  | int i =>
    cases d2 with
    | int j =>
      simp only [RD] at h1 h2
      exact .inl (.inl ⟨i, j, h1, h2, p.here rs rd_int⟩)
    | _ => exact p.elim
  | str i =>
    cases d2 with
    | str j =>
      simp only [RD] at h1 h2
      obtain ⟨c, p⟩ := PostO.guard p
      exact .inl (.inr ⟨i, j, h1, h2, c, p.here rs rd_str⟩)
    | _ => exact p.elim
  | tup ds =>
    cases d2 with
    | tup es =>
      obtain ⟨c, p⟩ := PostO.guard p
      have g1 := h1
      have g2 := h2
      simp only [RD] at h1 h2
      obtain ⟨a, xs, rfl, ha, ra⟩ := h1
      obtain ⟨b, ys, rfl, hb, rb⟩ := h2
      refine .inr (.inl ⟨a, b, xs, ys, rfl, rfl, .of ha, .of hb, by rw [← ra.length, ← rb.length]; exact c, fun e => ?_, fun _ e => ?_, fun _ _ q hq => ?_⟩)
      · have e2 := ra.nil_iff.mp e
        subst e2
        exact p.here rs g2
      · have e2 := rb.nil_iff.mp e
        subst e2
        rw [List.append_nil] at p
        exact p.here rs g1
      · obtain ⟨a1, a2⟩ := newTup rs (ra.append rb) hq
        exact p _ _ _ (Ext.new hq) a1 a2
    | _ => exact p.elim
  | ref n =>
    cases d2 with
    | ref m =>
      simp only [addD] at p
      split at p
      · rename_i ds es e1 e2
        obtain ⟨c, p⟩ := PostO.guard p
        obtain ⟨a, xs, rfl, _, ha, ra⟩ := lst_at rs h1 e1
        obtain ⟨b, ys, rfl, _, hb, rb⟩ := lst_at rs h2 e2
        refine .inr (.inr ⟨a, b, xs, ys, rfl, rfl, ha, hb, by rw [← ra.length, ← rb.length]; exact c, fun q hq => ?_⟩)
        obtain ⟨a1, a2⟩ := newLst rs (ra.append rb) hq
        exact p _ _ _ (Ext.push hq) a1 a2
      · exact p.elim
    | _ => exact p.elim
  | _ => exact p.elim
/-- * -/
def repL {α : Type} (k : Int) (xs : List α) : List α := (List.replicate k.toNat xs).flatten
theorem RDs.rep {K : PySem.W.Frag} {mg : Str → Option Value} {ρ : List Addr} {H : Hp} {ds : List D} {vs : List V} (h : RDs K mg ρ H ds vs) : ∀ n : Nat, RDs K mg ρ H (List.replicate n ds).flatten (List.replicate n vs).flatten
  | 0 => .nil
  | n + 1 => by rw [List.replicate_succ, List.replicate_succ, List.flatten_cons, List.flatten_cons]; exact h.append (RDs.rep h n)
noncomputable def mulD : D → D → Store → Option (D × Store)
  | .int i, .int j, st => guard (MulOk i j) (.int (i * j)) st
  | .ref n, .int k, st => match st[n]? with
    | some (.lst a) => guard (-(2 ^ 63) ≤ k ∧ k < 2 ^ 63 ∧ a.length * k.toNat ≤ sizeLine) (.ref st.length) (st ++ [.lst (repL k a)])
    | _ => none
  | .tup ds, .int k, st => guard (ds ≠ [] ∧ 2 ≤ k ∧ k ≤ 1000 ∧ ds.length ≤ 1000) (.tup (repL k ds)) st
  | _, _, _ => none
theorem ok_mul : OpR X (binaryOp .Mult) (r2 X.K X.mg mulD) := OpR.imp (op_mulAny.or (op_rep.or op_repT)) fun x y H Q ⟨ρ, st, d1, d2, rs, h1, h2, p⟩ => by
  cases d1 with
  | int i =>
    cases d2 with
    | int j =>
      simp only [RD] at h1 h2
      obtain ⟨c, p⟩ := PostO.guard p
      exact .inl ⟨i, j, h1, h2, c, p.here rs rd_int⟩
    | _ => exact p.elim
  | ref n =>
    cases d2 with
    | int k =>
      simp only [mulD] at p
      split at p
      · rename_i ds e1
        obtain ⟨c, p⟩ := PostO.guard p
        obtain ⟨a, xs, rfl, _, ha, ra⟩ := lst_at rs h1 e1
        simp only [RD] at h2
        refine .inr (.inl ⟨a, k, xs, rfl, h2, ha, c.1, c.2.1, by rw [← ra.length]; exact c.2.2, fun q hq => ?_⟩)
        obtain ⟨a1, a2⟩ := newLst rs (ra.rep k.toNat) hq
        exact p _ _ _ (Ext.push hq) a1 a2
      · exact p.elim
    | _ => exact p.elim
  | tup ds =>
    cases d2 with
    | int k =>
      obtain ⟨c, p⟩ := PostO.guard p
      simp only [RD] at h1 h2
      obtain ⟨a, xs, rfl, ha, ra⟩ := h1
      refine .inr (.inr ⟨a, k, xs, rfl, h2, .of ha, fun e => c.1 (ra.nil_iff.mp e), c.2.1, c.2.2.1, by rw [← ra.length]; exact c.2.2.2, fun q hq => ?_⟩)
      obtain ⟨a1, a2⟩ := newTup rs (ra.rep k.toNat) hq
      exact p _ _ _ (Ext.new hq) a1 a2
    | _ => exact p.elim
  | _ => exact p.elim
/-! unary -/
def negD : D → Store → Option (D × Store) | .int i, st => some (.int (-i), st) | _, _ => none
def invD : D → Store → Option (D × Store) | .int i, st => some (.int (Builtin.bitNot i), st) | _, _ => none
theorem ok_neg : UnR X (unaryOp .USub) (r1 X.K X.mg negD) := UnR.imp un_neg fun x H Q ⟨ρ, st, d1, rs, h1, p⟩ => by
  cases d1 with
  | int i => simp only [RD] at h1; exact ⟨i, h1, p.here rs rd_int⟩
  | _ => exact p.elim
theorem ok_inv : UnR X (unaryOp .Invert) (r1 X.K X.mg invD) := UnR.imp un_inv fun x H Q ⟨ρ, st, d1, rs, h1, p⟩ => by
  cases d1 with
  | int i => simp only [RD] at h1; exact ⟨i, h1, p.here rs rd_int⟩
  | _ => exact p.elim
/-! order -/
def strLt (a b : Str) : Bool := decide (a.cps.toList < b.cps.toList)
def ltD : D → D → Store → Option (D × Store)
  | .int i, .int j, st => some (.bl (decide (i < j)), st)
  | .str i, .str j, st => some (.bl (strLt i j), st)
  | _, _, _ => none
def leD : D → D → Store → Option (D × Store)
  | .int i, .int j, st => some (.bl (decide (i ≤ j)), st)
  | .str i, .str j, st => some (.bl (!strLt j i), st)
  | _, _, _ => none
def gtD : D → D → Store → Option (D × Store)
  | .int i, .int j, st => some (.bl (decide (j < i)), st)
  | .str i, .str j, st => some (.bl (strLt j i), st)
  | _, _, _ => none
def geD : D → D → Store → Option (D × Store)
  | .int i, .int j, st => some (.bl (decide (j ≤ i)), st)
  | .str i, .str j, st => some (.bl (!strLt i j), st)
  | _, _, _ => none
theorem ok_lt : OpR X (compareOp .Lt) (r2 X.K X.mg ltD) := OpR.imp (op_lt.or op_lt_str) fun x y H Q ⟨ρ, st, d1, d2, rs, h1, h2, p⟩ => by
  cases d1 <;> cases d2 <;> first | exact p.elim | (simp only [RD] at h1 h2; exact .inl ⟨_, _, h1, h2, p.here rs rd_bl⟩) | (simp only [RD] at h1 h2; exact .inr ⟨_, _, h1, h2, p.here rs rd_bl⟩)
theorem ok_le : OpR X (compareOp .LtE) (r2 X.K X.mg leD) := OpR.imp (op_le.or op_le_str) fun x y H Q ⟨ρ, st, d1, d2, rs, h1, h2, p⟩ => by
  cases d1 <;> cases d2 <;> first | exact p.elim | (simp only [RD] at h1 h2; exact .inl ⟨_, _, h1, h2, p.here rs rd_bl⟩) | (simp only [RD] at h1 h2; exact .inr ⟨_, _, h1, h2, p.here rs rd_bl⟩)
theorem ok_gt : OpR X (compareOp .Gt) (r2 X.K X.mg gtD) := OpR.imp (op_gt.or op_gt_str) fun x y H Q ⟨ρ, st, d1, d2, rs, h1, h2, p⟩ => by
  cases d1 <;> cases d2 <;> first | exact p.elim | (simp only [RD] at h1 h2; exact .inl ⟨_, _, h1, h2, p.here rs rd_bl⟩) | (simp only [RD] at h1 h2; exact .inr ⟨_, _, h1, h2, p.here rs rd_bl⟩)
theorem ok_ge : OpR X (compareOp .GtE) (r2 X.K X.mg geD) := OpR.imp (op_ge.or op_ge_str) fun x y H Q ⟨ρ, st, d1, d2, rs, h1, h2, p⟩ => by
  cases d1 <;> cases d2 <;> first | exact p.elim | (simp only [RD] at h1 h2; exact .inl ⟨_, _, h1, h2, p.here rs rd_bl⟩) | (simp only [RD] at h1 h2; exact .inr ⟨_, _, h1, h2, p.here rs rd_bl⟩)
/-! == -/
mutual
def pyG (f : Nat → Option PyData) : D → Option PyData
  | .non => some .none
  | .bl b => some (.bool b)
  | .int i => some (.int i)
  | .str s => some (.str s)
  | .tup ds => match pyGs f ds with | some ps => some (.tuple ps) | none => none
  | .kt ds => match pyGs f ds with | some ps => some (.tuple ps) | none => none
  | .ref n => f n
  | .gl _ => none
  | .kl _ => none
def pyGs (f : Nat → Option PyData) : List D → Option (List PyData)
  | [] => some []
  | d :: ds => match pyG f d, pyGs f ds with | some p, some ps => some (p :: ps) | _, _ => none
end
def pyR (st : Store) : Nat → Nat → Option PyData
  | 0, _ => none
  | k + 1, n => match getL st n with | some ds => (match pyGs (pyR st k) ds with | some ps => some (.list ps) | none => none) | none => none
def toPy (st : Store) (d : D) : Option PyData := pyG (pyR st 8) d
section
variable {K : PySem.W.Frag} {mg : Str → Option Value} {ρ : List Addr} {H : Hp} {st : Store}
mutual
theorem pyG_dp {f : Nat → Option PyData} (hf : ∀ n v p, RD K mg ρ H (.ref n) v → f n = some p → Dp K H v p) : ∀ {d : D} {v : V} {p : PyData}, RD K mg ρ H d v → pyG f d = some p → Dp K H v p
  | .non, _, _, h, e => by simp only [RD] at h; subst h; cases e; exact .non
  | .bl _, _, _, h, e => by simp only [RD] at h; subst h; cases e; exact .bl _
  | .int _, _, _, h, e => by simp only [RD] at h; subst h; cases e; exact .int _
  | .str _, _, _, h, e => by simp only [RD] at h; subst h; cases e; exact .str _
  | .tup ds, _, _, h, e => by
    simp only [pyG] at e
    split at e
    · rename_i ps hp
      cases e
      obtain ⟨a, xs, rfl, h1, h2⟩ := tup_at h rfl
      exact .tup h1 (pyGs_dp hf h2 hp)
    · cases e
  | .kt ds, _, _, h, e => by
    simp only [pyG] at e
    split at e
    · rename_i ps hp
      cases e
      obtain ⟨a, xs, rfl, h1, h2⟩ := tup_at h rfl
      exact .tup h1 (pyGs_dp hf h2 hp)
    · cases e
  | .ref n, _, _, h, e => hf n _ _ h e
  | .gl _, _, _, _, e => by cases e
  | .kl _, _, _, _, e => by cases e
theorem pyGs_dp {f : Nat → Option PyData} (hf : ∀ n v p, RD K mg ρ H (.ref n) v → f n = some p → Dp K H v p) : ∀ {ds : List D} {vs : List V} {ps : List PyData}, RDs K mg ρ H ds vs → pyGs f ds = some ps → DpAll K H vs ps
  | [], _, _, h, e => by simp only [RDs] at h; subst h; cases e; exact .nil
  | d :: ds, _, _, h, e => by
    obtain ⟨x, xs, rfl, h1, h2⟩ := h.uncons
    simp only [pyGs] at e
    split at e
    · rename_i p ps e1 e2
      cases e
      exact .cons (pyG_dp hf h1 e1) (pyGs_dp hf h2 e2)
    · cases e
end
theorem pyR_dp (rs : RS K mg ρ H st) : ∀ (k n : Nat) (v : V) (p : PyData), RD K mg ρ H (.ref n) v → pyR st k n = some p → Dp K H v p
  | 0, _, _, _, _, e => by cases e
  | k + 1, n, v, p, h, e => by
    simp only [pyR] at e
    split at e
    · rename_i ds hd
      split at e
      · rename_i ps hp
        cases e
        obtain ⟨a, vs, rfl, _, h1, h2⟩ := seq_at rs h hd
        exact .lst h1 (pyGs_dp (pyR_dp rs k) h2 hp)
      · cases e
    · cases e
theorem toPy_dp (rs : RS K mg ρ H st) {d : D} {v : V} {p : PyData} (h : RD K mg ρ H d v) (e : toPy st d = some p) : Dp K H v p := pyG_dp (pyR_dp rs 8) h e
end
noncomputable def eqD : D → D → Store → Option (D × Store) := fun a b st => match toPy st a, toPy st b with
  | some p, some q => guard (SeqAt.shaped p = true ∧ SeqAt.shaped q = true) (.bl (PyData.eqv p q)) st
  | _, _ => none
noncomputable def neD : D → D → Store → Option (D × Store) := fun a b st => match toPy st a, toPy st b with
  | some p, some q => guard (SeqAt.shaped p = true ∧ SeqAt.shaped q = true) (.bl (!PyData.eqv p q)) st
  | _, _ => none
theorem ok_eq (hu : X.A.units + 64 < cLine) : OpR X (compareOp .Eq) (r2 X.K X.mg eqD) := OpR.imp (op_eqD hu) fun x y H Q ⟨ρ, st, d1, d2, rs, h1, h2, p⟩ => by
  simp only [eqD] at p
  split at p
  · rename_i q1 q2 e1 e2
    obtain ⟨c, p⟩ := PostO.guard p
    exact ⟨q1, q2, toPy_dp rs h1 e1, toPy_dp rs h2 e2, c.1, c.2, p.here rs rd_bl⟩
  · exact p.elim
theorem ok_ne (hu : X.A.units + 64 < cLine) : OpR X (compareOp .NotEq) (r2 X.K X.mg neD) := OpR.imp (op_neD hu) fun x y H Q ⟨ρ, st, d1, d2, rs, h1, h2, p⟩ => by
  simp only [neD] at p
  split at p
  · rename_i q1 q2 e1 e2
    obtain ⟨c, p⟩ := PostO.guard p
    exact ⟨q1, q2, toPy_dp rs h1 e1, toPy_dp rs h2 e2, c.1, c.2, p.here rs rd_bl⟩
  · exact p.elim
/-! is -/
def isD : D → D → Store → Option (D × Store)
  | .bl a, .bl b, st => some (.bl (decide (a = b)), st)
  | d, .non, st => some (.bl (match d with | .non => true | _ => false), st)
  | _, _, _ => none
def isnD : D → D → Store → Option (D × Store)
  | .bl a, .bl b, st => some (.bl (!decide (a = b)), st)
  | d, .non, st => some (.bl (match d with | .non => false | _ => true), st)
  | _, _, _ => none
theorem rd_isNon {K : PySem.W.Frag} {mg : Str → Option Value} {ρ : List Addr} {H : Hp} {d : D} {x : V} (h : RD K mg ρ H d x) (hg : ∀ y, d ≠ .gl y) : decide (x = .non) = (match d with | .non => true | _ => false) := by
  cases d with
  | non => simp only [RD] at h; subst h; rfl
  | bl b => simp only [RD] at h; subst h; rfl
  | int b => simp only [RD] at h; subst h; rfl
  | str b => simp only [RD] at h; subst h; rfl
  | tup ds => simp only [RD] at h; obtain ⟨a, xs, rfl, _⟩ := h; rfl
  | kt ds => simp only [RD] at h; obtain ⟨a, xs, o, its, n, rfl, _⟩ := h; rfl
  | kl ds => simp only [RD] at h; obtain ⟨a, xs, o, its, n, rfl, _⟩ := h; rfl
  | ref n => simp only [RD] at h; obtain ⟨a, rfl, _⟩ := h; rfl
  | gl y => exact absurd rfl (hg y)
end
end Py

set_option Elab.async false
set_option linter.all false
set_option maxRecDepth 100000
set_option maxHeartbeats 1000000
namespace Py
open L2 PySem PySem.Spec PyProof.Rows
section
variable {X : Cx}
/-! is -/
def isD2 : D → D → Store → Option (D × Store)
  | .gl _, .non, _ => none
  | a, b, st => isD a b st
def isnD2 : D → D → Store → Option (D × Store)
  | .gl _, .non, _ => none
  | a, b, st => isnD a b st
theorem ok_is : OpR X (compareOp .Is) (r2 X.K X.mg isD2) := OpR.imp (op_isN.or op_isBl) fun x y H Q ⟨ρ, st, d1, d2, rs, h1, h2, p⟩ => by
  cases d2 with
  | non =>
    have g1 := h1
    simp only [RD] at h2
    subst h2
    refine .inl ⟨rfl, ?_⟩
    cases d1 with
    | gl y => exact p.elim
    | _ => rw [rd_isNon g1 (fun _ z => nomatch z)]; exact p.here rs rd_bl
  | bl b =>
    cases d1 with
    | bl a =>
      simp only [RD] at h1 h2
      exact .inr ⟨a, b, h1, h2, p.here rs rd_bl⟩
    | _ => exact p.elim
  | _ => cases d1 <;> exact p.elim
theorem ok_isn : OpR X (compareOp .IsNot) (r2 X.K X.mg isnD2) := OpR.imp (op_notN.or op_notBl) fun x y H Q ⟨ρ, st, d1, d2, rs, h1, h2, p⟩ => by
  cases d2 with
  | non =>
    have g1 := h1
    simp only [RD] at h2
    subst h2
    refine .inl ⟨rfl, ?_⟩
    cases d1 with
    | gl y => exact p.elim
    | non => rw [rd_isNon g1 (fun _ z => nomatch z)]; exact p.here rs rd_bl
    | _ => rw [rd_isNon g1 (fun _ z => nomatch z)]; exact p.here rs rd_bl
  | bl b =>
    cases d1 with
    | bl a =>
      simp only [RD] at h1 h2
      exact .inr ⟨a, b, h1, h2, p.here rs rd_bl⟩
    | _ => exact p.elim
  | _ => cases d1 <;> exact p.elim
/-! ### dicts -/
abbrev DKey := Sum Key (List Key)
def dk (d : D) : Option DKey := match keyD d with | some k => some (.inl k) | none => (match keyT d with | some k => some (.inr k) | none => none)
/-- all keys scalars (true), all keys tuples (false) -/
def allK (kvs : List (D × D)) : Bool := kvs.all fun p => (keyD p.1).isSome
def allT (kvs : List (D × D)) : Bool := kvs.all fun p => (keyT p.1).isSome
def lookD (kvs : List (D × D)) (k : DKey) : Option D := (kvs.find? fun p => decide (dk p.1 = some k)).map (·.2)
def putD (kvs : List (D × D)) (d : D) (k : DKey) (v : D) : List (D × D) :=
  if (kvs.any fun p => decide (dk p.1 = some k)) = true then kvs.map (fun p => if dk p.1 = some k then (p.1, v) else p) else kvs ++ [(d, v)]
/-- the key fits the dict -/
def fitsK (kvs : List (D × D)) : DKey → Bool
  | .inl _ => allK kvs
  | .inr _ => allT kvs
theorem dk_inl {d : D} {k : Key} (h : keyD d = some k) : dk d = some (.inl k) := by unfold dk; rw [h]
theorem keyT_D {d : D} {k : List Key} (h : keyT d = some k) : keyD d = none := by cases d <;> first | rfl | cases h
theorem dk_inr {d : D} {k : List Key} (h : keyT d = some k) : dk d = some (.inr k) := by unfold dk; rw [keyT_D h, h]
theorem dk_l {d : D} {k : Key} (h : dk d = some (.inl k)) : keyD d = some k := by
  unfold dk at h
  cases e : keyD d with
  | some k' => rw [e] at h; simp at h; rw [h]
  | none =>
    rw [e] at h
    simp only at h
    cases e2 : keyT d with
    | some _ => rw [e2] at h; simp at h
    | none => rw [e2] at h; cases h
theorem dk_r {d : D} {k : List Key} (h : dk d = some (.inr k)) : keyT d = some k := by
  unfold dk at h
  cases e : keyD d with
  | some k' => rw [e] at h; simp at h
  | none =>
    rw [e] at h
    simp only at h
    cases e2 : keyT d with
    | some _ => rw [e2] at h; simp at h; rw [h]
    | none => rw [e2] at h; cases h
section
variable {K : PySem.W.Frag} {mg : Str → Option Value} {ρ : List Addr} {H : Hp} {st : Store}
theorem rd_key {d : D} {k : Key} {v : V} (h : RD K mg ρ H d v) (e : keyD d = some k) : v = kV k := by
  cases d with
  | int i => simp only [RD] at h; cases e; exact h
  | str i => simp only [RD] at h; cases e; exact h
  | _ => cases e
theorem rds_key : ∀ {ds : List D} {ks : List Key} {vs : List V}, RDs K mg ρ H ds vs → keyDs ds = some ks → vs = ks.map kV
  | [], _, _, h, e => by simp only [RDs] at h; subst h; cases e; rfl
  | d :: ds, _, _, h, e => by
    obtain ⟨x, xs, rfl, h1, h2⟩ := h.uncons
    simp only [keyDs] at e
    split at e
    · rename_i k ks e1 e2
      cases e
      rw [rd_key h1 e1, rds_key h2 e2]
      rfl
    · cases e
theorem rd_keyT {d : D} {k : List Key} {v : V} (h : RD K mg ρ H d v) (e : keyT d = some k) : ∃ b, v = .ref b ∧ H b = some (.tup (k.map kV)) := by
  cases d with
  | tup ds =>
    simp only [RD] at h
    obtain ⟨a, xs, rfl, h1, h2⟩ := h
    exact ⟨a, rfl, by rw [h1, rds_key h2 e]⟩
  | _ => cases e
theorem rkv_look : ∀ {kvs : List (D × D)} {ks : List (Key × V)}, RKV K mg ρ H kvs ks → ∀ k : Key, (lookD kvs (.inl k) = none → valV ks k = none) ∧ (∀ d, lookD kvs (.inl k) = some d → ∃ v, valV ks k = some v ∧ RD K mg ρ H d v)
  | _, _, .nil, k => ⟨fun _ => rfl, fun _ h => by cases h⟩
  | p :: kvs, q :: ks, .cons r t, k => by
    obtain ⟨i1, i2⟩ := rkv_look t k
    by_cases e : q.1 = k
    · have e1 : dk p.1 = some (.inl k) := by rw [dk_inl r.1, e]
      refine ⟨fun h => by simp [lookD, List.find?_cons, e1] at h, fun d h => ?_⟩
      simp [lookD, List.find?_cons, e1] at h
      subst h
      exact ⟨q.2, valV_pos e, r.2⟩
    · have e1 : ¬ dk p.1 = some (.inl k) := fun z => e (by rw [dk_inl r.1] at z; simpa using z)
      have e2 : lookD (p :: kvs) (.inl k) = lookD kvs (.inl k) := by simp [lookD, List.find?_cons, e1]
      rw [e2, valV_neg e]
      exact ⟨i1, i2⟩
theorem rkt_look : ∀ {kvs : List (D × D)} {ks : List (List Key × V)}, RKT K mg ρ H kvs ks → ∀ k : List Key, (lookD kvs (.inr k) = none → valV ks k = none) ∧ (∀ d, lookD kvs (.inr k) = some d → ∃ v, valV ks k = some v ∧ RD K mg ρ H d v)
  | _, _, .nil, k => ⟨fun _ => rfl, fun _ h => by cases h⟩
  | p :: kvs, q :: ks, .cons r t, k => by
    obtain ⟨i1, i2⟩ := rkt_look t k
    by_cases e : q.1 = k
    · have e1 : dk p.1 = some (.inr k) := by rw [dk_inr r.1, e]
      refine ⟨fun h => by simp [lookD, List.find?_cons, e1] at h, fun d h => ?_⟩
      simp [lookD, List.find?_cons, e1] at h
      subst h
      exact ⟨q.2, valV_pos e, r.2⟩
    · have e1 : ¬ dk p.1 = some (.inr k) := fun z => e (by rw [dk_inr r.1] at z; simpa using z)
      have e2 : lookD (p :: kvs) (.inr k) = lookD kvs (.inr k) := by simp [lookD, List.find?_cons, e1]
      rw [e2, valV_neg e]
      exact ⟨i1, i2⟩
theorem rkv_any {kvs : List (D × D)} {ks : List (Key × V)} (h : RKV K mg ρ H kvs ks) (k : Key) : (kvs.any fun p => decide (dk p.1 = some (.inl k))) = ks.any fun q => decide (q.1 = k) := by
  induction h with
  | nil => rfl
  | @cons p q l1 l2 r t ih =>
    rw [List.any_cons, List.any_cons, ih, dk_inl r.1]
    simp
theorem rkt_any {kvs : List (D × D)} {ks : List (List Key × V)} (h : RKT K mg ρ H kvs ks) (k : List Key) : (kvs.any fun p => decide (dk p.1 = some (.inr k))) = ks.any fun q => decide (q.1 = k) := by
  induction h with
  | nil => rfl
  | @cons p q l1 l2 r t ih =>
    rw [List.any_cons, List.any_cons, ih, dk_inr r.1]
    simp
theorem Paired.app {α β : Type} {F : α → β → Prop} : ∀ {l₁ m₁ : List α} {l₂ m₂ : List β}, Paired F l₁ l₂ → Paired F m₁ m₂ → Paired F (l₁ ++ m₁) (l₂ ++ m₂)
  | _, _, _, _, .nil, h => h
  | _, _, _, _, .cons r t, h => .cons r (Paired.app t h)
theorem rkv_put {kvs : List (D × D)} {ks : List (Key × V)} {d x : D} {k : Key} {v : V} (h : RKV K mg ρ H kvs ks) (e : keyD d = some k) (r : RD K mg ρ H x v) : RKV K mg ρ H (putD kvs d (.inl k) x) (putK ks k v) := by
  unfold putD putK
  rw [rkv_any h k]
  split
  · have aux : ∀ {l1 : List (D × D)} {l2 : List (Key × V)}, RKV K mg ρ H l1 l2 → RKV K mg ρ H (l1.map fun p => if dk p.1 = some (.inl k) then (p.1, x) else p) (l2.map fun kv => if kv.1 = k then (kv.1, v) else kv) := by
      intro l1 l2 t
      induction t with
      | nil => exact .nil
      | @cons p q l1 l2 r' t ih =>
        refine .cons ?_ ih
        by_cases e : q.1 = k
        · simp only [if_pos (show dk p.1 = some (.inl k) by rw [dk_inl r'.1, e]), if_pos e]; exact ⟨r'.1, r⟩
        · simp only [if_neg (show ¬ dk p.1 = some (.inl k) from fun z => e (by rw [dk_inl r'.1] at z; simpa using z)), if_neg e]; exact r'
    exact aux h
  · exact Paired.app h (.cons ⟨e, r⟩ .nil)
theorem rkt_put {kvs : List (D × D)} {ks : List (List Key × V)} {d x : D} {k : List Key} {v : V} (h : RKT K mg ρ H kvs ks) (e : keyT d = some k) (r : RD K mg ρ H x v) : RKT K mg ρ H (putD kvs d (.inr k) x) (putK ks k v) := by
  unfold putD putK
  rw [rkt_any h k]
  split
  · have aux : ∀ {l1 : List (D × D)} {l2 : List (List Key × V)}, RKT K mg ρ H l1 l2 → RKT K mg ρ H (l1.map fun p => if dk p.1 = some (.inr k) then (p.1, x) else p) (l2.map fun kv => if kv.1 = k then (kv.1, v) else kv) := by
      intro l1 l2 t
      induction t with
      | nil => exact .nil
      | @cons p q l1 l2 r' t ih =>
        refine .cons ?_ ih
        by_cases e : q.1 = k
        · simp only [if_pos (show dk p.1 = some (.inr k) by rw [dk_inr r'.1, e]), if_pos e]; exact ⟨r'.1, r⟩
        · simp only [if_neg (show ¬ dk p.1 = some (.inr k) from fun z => e (by rw [dk_inr r'.1] at z; simpa using z)), if_neg e]; exact r'
    exact aux h
  · exact Paired.app h (.cons ⟨e, r⟩ .nil)
theorem rkv_len {kvs : List (D × D)} {ks : List (Key × V)} (h : RKV K mg ρ H kvs ks) : kvs.length = ks.length := Paired.length h
theorem rkt_len {kvs : List (D × D)} {ks : List (List Key × V)} (h : RKT K mg ρ H kvs ks) : kvs.length = ks.length := Paired.length h
theorem rkt_nil {kvs : List (D × D)} {ks : List (List Key × V)} (h : RKT K mg ρ H kvs ks) (e : allK kvs = true) : kvs = [] ∧ ks = [] := by
  cases h with
  | nil => exact ⟨rfl, rfl⟩
  | @cons p q l1 l2 r t =>
    simp only [allK, List.all_cons, Bool.and_eq_true] at e
    rw [keyT_D r.1] at e
    exact absurd e.1 (by simp)
theorem rkv_nil {kvs : List (D × D)} {ks : List (Key × V)} (h : RKV K mg ρ H kvs ks) (e : allT kvs = true) : kvs = [] ∧ ks = [] := by
  cases h with
  | nil => exact ⟨rfl, rfl⟩
  | @cons p q l1 l2 r t =>
    simp only [allT, List.all_cons, Bool.and_eq_true] at e
    have h1 := e.1
    cases hd : p.1 with
    | int i => rw [hd] at h1; cases h1
    | str i => rw [hd] at h1; cases h1
    | _ => have := r.1; rw [hd] at this; cases this
end
/-- an empty dict is one of tuple keys, too -/
theorem inv_dT {pins : List (Addr × Obj)} {σ : L2.St} {H : Hp} {s : Shared} {a : Addr} (I : Inv X pins σ H s) (h : H a = some (.dK [])) : Inv X pins σ (upd H a (.dT [])) s := by
  obtain ⟨z, y, vs, r, o, es, ep, e1, e2, e3, e4, e6, e5⟩ := I.hok a _ h
  cases r
  refine I.write (x := a) (e := a) (h' := s.heap) (t' := s.toks) (by rw [h]; trivial) (.inl rfl) (fun b u _ q => q) ⟨o, e1⟩ ?_
  have e7 : es.toList = [] := by
    generalize es.toList = l at e6
    cases e6
    rfl
  exact ⟨z, y, [], .nil, o, es, ep, e1, e2, e3, by rw [e7]; rfl, by simp⟩
theorem inv_dK {pins : List (Addr × Obj)} {σ : L2.St} {H : Hp} {s : Shared} {a : Addr} (I : Inv X pins σ H s) (h : H a = some (.dT [])) : Inv X pins σ (upd H a (.dK [])) s := by
  obtain ⟨z, y, xs, r, o, es, ep, e1, e2, e3, e4, e5⟩ := I.hok a _ h
  cases r
  refine I.write (x := a) (e := a) (h' := s.heap) (t' := s.toks) (by rw [h]; trivial) (.inl rfl) (fun b u _ q => q) ⟨o, e1⟩ ?_
  have e7 : es = #[] := by simpa using e4
  subst e7
  exact ⟨z, y, [], .nil, o, #[], ep, e1, e2, e3, fun e he => by simp at he, .nil, by simp⟩
theorem upd_self {H : Hp} {a : Addr} {o u : HO} (h : H a = some o) : upd (upd H a u) a o = H := by
  rw [upd_upd]
  funext b
  unfold upd
  split
  · rename_i e; rw [e, h]
  · rfl
section
variable {K : PySem.W.Frag} {mg : Str → Option Value} {ρ : List Addr} {H : Hp} {st : Store}
/-- how a dict is asked -/
inductive DAt (H : Hp) (a : Addr) (y : V) (o : Option V) : Prop where
  | now (h : DGet H a y o)
  | empty (h : H a = some (.dK [])) (b : Addr) (k : List Key) (ey : y = .ref b) (hb : H b = some (.tup (k.map kV))) (ho : o = none)
theorem dat {n : Nat} {v y : V} {kvs : List (D × D)} {d : D} {k : DKey} (rs : RS K mg ρ H st) (h : RD K mg ρ H (.ref n) v) (e : st[n]? = some (.dict kvs)) (hd : RD K mg ρ H d y) (ek : dk d = some k) (hf : fitsK kvs k = true) :
    ∃ a o, v = .ref a ∧ DAt H a y o ∧ (lookD kvs k = none → o = none) ∧ ∀ x, lookD kvs k = some x → ∃ w, o = some w ∧ RD K mg ρ H x w := by
  simp only [RD] at h
  obtain ⟨a, rfl, ha⟩ := h
  have ro := rs.ob n a _ ha e
  cases k with
  | inl k =>
    have ek := dk_l ek
    have ey := rd_key hd ek
    rcases ro with ⟨ks, q, r⟩ | ⟨⟨ks, q, r⟩, ne⟩
    · obtain ⟨i1, i2⟩ := rkv_look r k
      exact ⟨a, valV ks k, rfl, .now (by rw [ey]; exact DGet.k q), i1, i2⟩
    · exact absurd (rkt_nil r hf).1 ne
  | inr k =>
    have ek := dk_r ek
    obtain ⟨b, rfl, hb⟩ := rd_keyT hd ek
    rcases ro with ⟨ks, q, r⟩ | ⟨⟨ks, q, r⟩, ne⟩
    · obtain ⟨rfl, rfl⟩ := rkv_nil r hf
      exact ⟨a, none, rfl, .empty q b k rfl hb rfl, fun _ => rfl, fun x h => by cases h⟩
    · obtain ⟨i1, i2⟩ := rkt_look r k
      exact ⟨a, valV ks k, rfl, .now (DGet.t q hb), i1, i2⟩
end
/-- in, not in a dict -/
def inDictD : D → D → Store → Option (D × Store)
  | d, .ref n, st => match st[n]? with
    | some (.dict kvs) => (match dk d with | some k => if fitsK kvs k = true then some (.bl (lookD kvs k).isSome, st) else none | none => none)
    | _ => none
  | _, _, _ => none
def ninDictD : D → D → Store → Option (D × Store)
  | d, .ref n, st => match st[n]? with
    | some (.dict kvs) => (match dk d with | some k => if fitsK kvs k = true then some (.bl (!(lookD kvs k).isSome), st) else none | none => none)
    | _ => none
  | _, _, _ => none
theorem ok_inDict (hu : X.A.units + 1 < cLine) : OpR X (compareOp .In) (r2 X.K X.mg inDictD) := by
  intro pins s σ H x y v u Q I rx ry ⟨ρ, st, d1, d2, rs, h1, h2, p⟩
  cases d2 with
  | ref n =>
    simp only [inDictD] at p
    split at p
    · rename_i kvs e
      split at p
      · rename_i k ek
        split at p
        · rename_i hf
          obtain ⟨a, o, rfl, da, i1, i2⟩ := dat rs h2 e h1 ek hf
          have eo : o.isSome = (lookD kvs k).isSome := by
            cases hl : lookD kvs k with
            | none => rw [i1 hl]; rfl
            | some x => obtain ⟨w, e, _⟩ := i2 x hl; rw [e]; rfl
          obtain rfl : u = Value.ref a := ry
          cases da with
          | now g => exact d_in hu I g rx fun s1 I1 => ⟨.bl o.isSome, H, I1, rfl, by rw [eo]; exact p.here rs rd_bl⟩
          | empty h b k ey hb ho =>
            subst ho ey
            have hne : b ≠ a := fun z => by rw [z, h] at hb; cases hb
            have g : DGet (upd H a (.dT [])) a (.ref b) none := DGet.t (kvs := []) upd_same (by rw [upd_ne hne]; exact hb)
            refine d_in hu (inv_dT I h) g rx fun s1 I1 => ⟨.bl false, H, ?_, rfl, by rw [show false = (lookD kvs _).isSome from eo]; exact p.here rs rd_bl⟩
            have := inv_dK I1 upd_same
            rwa [upd_self h] at this
        · exact p.elim
      · exact p.elim
    · exact p.elim
  | _ => exact p.elim
theorem ok_ninDict (hu : X.A.units + 1 < cLine) : OpR X (compareOp .NotIn) (r2 X.K X.mg ninDictD) := by
  intro pins s σ H x y v u Q I rx ry ⟨ρ, st, d1, d2, rs, h1, h2, p⟩
  cases d2 with
  | ref n =>
    simp only [ninDictD] at p
    split at p
    · rename_i kvs e
      split at p
      · rename_i k ek
        split at p
        · rename_i hf
          obtain ⟨a, o, rfl, da, i1, i2⟩ := dat rs h2 e h1 ek hf
          have eo : o.isSome = (lookD kvs k).isSome := by
            cases hl : lookD kvs k with
            | none => rw [i1 hl]; rfl
            | some x => obtain ⟨w, e, _⟩ := i2 x hl; rw [e]; rfl
          obtain rfl : u = Value.ref a := ry
          cases da with
          | now g => exact d_notIn hu I g rx fun s1 I1 => ⟨.bl (!o.isSome), H, I1, rfl, by rw [eo]; exact p.here rs rd_bl⟩
          | empty h b k ey hb ho =>
            subst ho ey
            have hne : b ≠ a := fun z => by rw [z, h] at hb; cases hb
            have g : DGet (upd H a (.dT [])) a (.ref b) none := DGet.t (kvs := []) upd_same (by rw [upd_ne hne]; exact hb)
            refine d_notIn hu (inv_dT I h) g rx fun s1 I1 => ⟨.bl true, H, ?_, rfl, by rw [show true = !(lookD kvs _).isSome by rw [← eo]; rfl]; exact p.here rs rd_bl⟩
            have := inv_dK I1 upd_same
            rwa [upd_self h] at this
        · exact p.elim
      · exact p.elim
    · exact p.elim
  | _ => exact p.elim
/-- o[i] = v: a list, a dict -/
def setD : D → D → D → Store → Option Store
  | .ref n, i, v, st => match st[n]? with
    | some (.lst ds) => (match i with | .int k => (match ixN ds.length k with | some j => some (st.set n (.lst (ds.set j v))) | none => none) | _ => none)
    | some (.dict kvs) => (match dk i with | some k => if fitsK kvs k = true ∧ kvs.length < sizeLine then some (st.set n (.dict (putD kvs i k v))) else none | none => none)
    | _ => none
  | _, _, _, _ => none
theorem putD_ne (kvs : List (D × D)) (i : D) (k : DKey) (v : D) : putD kvs i k v ≠ [] := by
  unfold putD
  split
  · rename_i h
    intro e
    have : kvs = [] := by simpa using e
    subst this
    cases h
  · simp
theorem ok_set (hu : X.A.units + 1 < cLine) : PSet X (rSt X.K X.mg setD) := by
  intro pins s σ H o i v ov iv u Q I ro ri rv ⟨ρ, st, d1, d2, d3, rs, h1, h2, h3, p⟩
  cases d1 with
  | ref n =>
    simp only [setD] at p
    split at p
    rotate_right
    · exact p.elim
    · rename_i x st' hx
      split at hx
      · rename_i ds e
        obtain ⟨a, vs, rfl, ha, hH, r⟩ := lst_at rs h1 e
        split at hx
        · rename_i k
          split at hx
          · rename_i j hj
            cases hx
            simp only [RD] at h2
            refine set_list pins s σ H _ _ _ ov iv u Q I ro ri rv ⟨a, vs, k, j, rfl, h2, hH, by rw [← r.length]; exact hj, ?_⟩
            obtain ⟨w1, w2⟩ := rs.write ha (ho := .lst (vs.set j v)) (o := .lst (ds.set j d3)) ⟨_, upd_same, ((r.set h3 j).mo (Wk.write fun xs z => by rw [hH] at z; cases z))⟩
            exact p ρ _ w2 w1
          · cases hx
        · cases hx
      · rename_i kvs e
        split at hx
        · rename_i k ek
          split at hx
          · rename_i hf
            cases hx
            simp only [RD] at h1
            obtain ⟨a, rfl, ha⟩ := h1
            obtain rfl : ov = Value.ref a := ro
            have r := rs.ob n a _ ha e
            have hw : ∀ (ho : HO), RO X.K X.mg ρ (upd H a ho) a (.dict (putD kvs d2 k d3)) → Q (upd H a ho) := fun ho new => by
              obtain ⟨w1, w2⟩ := rs.write ha (ho := ho) new
              exact p ρ _ w2 w1
            have nt : ∀ xs, H a ≠ some (.tup xs) := by obtain ⟨u, _, z⟩ := r.is; exact z
            cases k with
            | inl k =>
              have ek := dk_l ek
              have ey := rd_key h2 ek
              rcases r with ⟨ks, q, r⟩ | ⟨⟨ks, q, r⟩, ne⟩
              · rw [ey] at ri
                refine d_setItem hu I (DPut.k q (by rw [← rkv_len r]; exact hf.2)) ri rv fun s1 I1 => ⟨_, I1, hw _ (.inl ⟨_, upd_same, ?_⟩)⟩
                exact rkv_put (Paired.imp (fun _ _ z => ⟨z.1, z.2.mo (Wk.write nt)⟩) r) ek (h3.mo (Wk.write nt))
              · exact absurd (rkt_nil r hf.1).1 ne
            | inr k =>
              have ek := dk_r ek
              obtain ⟨b, rfl, hb⟩ := rd_keyT h2 ek
              rcases r with ⟨ks, q, r⟩ | ⟨⟨ks, q, r⟩, ne⟩
              · obtain ⟨rfl, rfl⟩ := rkv_nil r hf.1
                have hne : b ≠ a := fun z => by rw [z, q] at hb; cases hb
                refine d_setItem hu (inv_dT I q) (DPut.t (kvs := []) upd_same (by rw [upd_ne hne]; exact hb) (by rw [sizeLine_eq]; decide)) ri rv fun s1 I1 => ?_
                rw [upd_upd] at I1
                refine ⟨_, I1, hw _ (.inr ⟨⟨_, upd_same, ?_⟩, putD_ne _ _ _ _⟩)⟩
                exact rkt_put .nil ek (h3.mo (Wk.write nt))
              · refine d_setItem hu I (DPut.t q hb (by rw [← rkt_len r]; exact hf.2)) ri rv fun s1 I1 => ⟨_, I1, hw _ (.inr ⟨⟨_, upd_same, ?_⟩, putD_ne _ _ _ _⟩)⟩
                exact rkt_put (Paired.imp (fun _ _ z => ⟨z.1, z.2.mo (Wk.write nt)⟩) r) ek (h3.mo (Wk.write nt))
          · cases hx
        · cases hx
      · cases hx
  | _ => exact p.elim
end
end Py

set_option Elab.async false
set_option linter.all false
set_option maxRecDepth 100000
set_option maxHeartbeats 1000000
namespace Py
open L2 PySem PySem.Spec PyProof.Rows
section
variable {X : Cx}
/-! ### o[i] -/
theorem ixr_of {v u : Value} {T id : String} {Q : Value → Shared → Prop} {A : Around} {E : Value → Shared → Prop} {prog : Program} {w : World} {s : Shared} (value slice : Expr) (hl : typeLookup (.type T) "__getitem__" = pure (some (.builtin id))) (hT : s.TypeIs v T)
    (h : wpAny (model prog w) A (getItem v u) Q E s) (hs : subscripted slice false v u = operate [v, u] (getItem v u)) : wpAny (model prog w) A (subscriptTail value slice v u) Q E s := by
  unfold subscriptTail
  refine wpAny_bind ?_
  rw [getitemInPython_of_ne hT.not_modules]
  refine wpAny_bind (wpAny_specialOf hT hl ?_)
  have fin : wpAny (model prog w) A (subscripted slice false v u) (fun r s₃ => wpAny (model prog w) A (letTemporaryGo value v r >>= fun _ => pure r) Q E s₃) E s := by
    rw [hs]
    exact wpAny_operating (wpAny_mono h (fun r s₃ h₃ => wpAny_bind (wpAny_letTemporaryGo (wpAny_pure h₃))) fun _ _ x => x)
  first
    | exact wpAny_pure (wpAny_bind fin)
    | exact wpAny_bind (wpAny_pure (wpAny_bind fin))
    | exact wpAny_bind fin
def ixD : D → D → Store → Option (D × Store)
  | .tup ds, .int i, st => (match atI ds i with | some d => some (d, st) | none => none)
  | .kl ds, .int i, st => (match atI ds i with | some d => some (d, st) | none => none)
  | .kt ds, .int i, st => (match atI ds i with | some d => some (d, st) | none => none)
  | .str z, .int i, st => if z.length ≤ sizeLine then (match atI z.cps.toList i with | some c => some (.str ⟨#[c]⟩, st) | none => none) else none
  | .ref n, i, st => match st[n]? with
    | some (.lst ds) => (match i with | .int k => (match atI ds k with | some d => some (d, st) | none => none) | _ => none)
    | some (.frz ds) => (match i with | .int k => (match atI ds k with | some d => some (d, st) | none => none) | _ => none)
    | some (.dict kvs) => (match dk i with | some k => if fitsK kvs k = true then (match lookD kvs k with | some d => some (d, st) | none => none) else none | none => none)
    | _ => none
  | _, _, _ => none
theorem atI_rel {K : PySem.W.Frag} {mg : Str → Option Value} {ρ : List Addr} {H : Hp} {ds : List D} {vs : List V} {i : Int} {d : D} (h : RDs K mg ρ H ds vs) (e : atI ds i = some d) : ∃ v, atI vs i = some v ∧ RD K mg ρ H d v := by
  unfold atI at e ⊢
  rw [← h.length]
  cases hx : ixN ds.length i with
  | none => rw [hx] at e; cases e
  | some j =>
    rw [hx] at e
    exact h.get e
theorem ok_ix (hu : X.A.units + 1 < cLine) : IxR X (r2 X.K X.mg ixD) := by
  intro value slice pins s σ H x y v u Q I rx ry ⟨ρ, st, d1, d2, rs, h1, h2, p⟩ hs
  have seq : ∀ {ds : List D} {i : Int} {a : Addr} {vs : List V}, x = .ref a → SqL X.K H a vs ∨ SqT X.K H a vs → RDs X.K X.mg ρ H ds vs → y = .int i → PostO X.K X.mg Q ρ H (match atI ds i with | some d => some (d, st) | none => none) → wpAny (model X.prog X.w) X.A (subscriptTail value slice v u) (EP X pins σ Q) X.xe s := by
    intro ds i a vs ex hq r ey p
    split at p
    · rename_i d hd
      obtain ⟨w, hw, rw'⟩ := atI_rel r hd
      rcases hq with hq | hq
      · exact ix_list value slice pins s σ H x y v u Q I rx ry ⟨a, vs, i, w, ex, ey, hq, hw, p.here rs rw'⟩ hs
      · exact ix_tup value slice pins s σ H x y v u Q I rx ry ⟨a, vs, i, w, ex, ey, hq, hw, p.here rs rw'⟩ hs
    · exact p.elim
  cases d1 with
  | tup ds =>
    cases d2 with
    | int i =>
      simp only [RD] at h2
      obtain ⟨a, vs, ex, hq, r⟩ := tup_at h1 rfl
      exact seq ex (.inr hq) r h2 p
    | _ => exact p.elim
  | kt ds =>
    cases d2 with
    | int i =>
      simp only [RD] at h2
      obtain ⟨a, vs, ex, hq, r⟩ := tup_at h1 rfl
      exact seq ex (.inr hq) r h2 p
    | _ => exact p.elim
  | kl ds =>
    cases d2 with
    | int i =>
      simp only [RD] at h2
      obtain ⟨a, vs, ex, hq, r⟩ := kl_at h1
      exact seq ex (.inl (hq H)) r h2 p
    | _ => exact p.elim
  | str z =>
    cases d2 with
    | int i =>
      simp only [RD] at h1 h2
      simp only [ixD] at p
      split at p
      · rename_i hz
        split at p
        · rename_i c hc
          exact ix_str value slice pins s σ H x y v u Q I rx ry ⟨z, i, c, h1, h2, hz, hc, p.here rs rd_str⟩ hs
        · exact p.elim
      · exact p.elim
    | _ => exact p.elim
  | ref n =>
    simp only [ixD] at p
    split at p
    · rename_i ds e
      cases d2 with
      | int i =>
        simp only [RD] at h2
        obtain ⟨a, vs, ex, _, hq, r⟩ := seq_at rs h1 (show getL st n = some ds by unfold getL; rw [e])
        exact seq ex (.inl hq) r h2 p
      | _ => exact p.elim
    · rename_i ds e
      cases d2 with
      | int i =>
        simp only [RD] at h2
        obtain ⟨a, vs, ex, _, hq, r⟩ := seq_at rs h1 (show getL st n = some ds by unfold getL; rw [e])
        exact seq ex (.inl hq) r h2 p
      | _ => exact p.elim
    · rename_i kvs e
      split at p
      · rename_i k ek
        split at p
        · rename_i hf
          split at p
          · rename_i d hd
            obtain ⟨a, o, rfl, da, i1, i2⟩ := dat rs h1 e h2 ek hf
            obtain ⟨w, rfl, rw'⟩ := i2 d hd
            obtain rfl : v = Value.ref a := rx
            cases da with
            | now g =>
              refine ixr_of value slice PySem.F.slot_dict_getitem.lookup (dict_typeIs I g) ?_ hs
              exact d_getItem hu I g ry fun w' s1 I1 rw1 => ⟨w, H, I1, rw1, p.here rs rw'⟩
            | empty h b k ey hb ho => cases ho
          · exact p.elim
        · exact p.elim
      · exact p.elim
    · exact p.elim
  | _ => exact p.elim
/-! ### slices -/
def cutL {α : Type} (xs : List α) (lo hi : Option Int) : List α := (xs.drop (HT.sIx xs.length 0 lo)).take (HT.sIx xs.length xs.length hi - HT.sIx xs.length 0 lo)
def cutD : D → Option Int → Option Int → Store → Option (D × Store)
  | .tup ds, lo, hi, st => some (.tup (cutL ds lo hi), st)
  | .ref n, lo, hi, st => (match getL st n with | some ds => some (.ref st.length, st ++ [.lst (cutL ds lo hi)]) | none => none)
  | .kl ds, lo, hi, st => some (.ref st.length, st ++ [.lst (cutL ds lo hi)])
  | .str z, lo, hi, st => if z.length ≤ sizeLine then some (.str (cutS z lo hi), st) else none
  | _, _, _, _ => none
theorem RDs.cutL {K : PySem.W.Frag} {mg : Str → Option Value} {ρ : List Addr} {H : Hp} {ds : List D} {vs : List V} (h : RDs K mg ρ H ds vs) (lo hi : Option Int) : RDs K mg ρ H (Py.cutL ds lo hi) (cutV vs lo hi) := by
  unfold Py.cutL cutV
  rw [h.length]
  exact (h.drop _).take _
def rSl (K : PySem.W.Frag) (mg : Str → Option Value) : V → Option Int → Option Int → Hp → VK → Prop := fun x lo hi H Q => ∃ ρ st d, RS K mg ρ H st ∧ RD K mg ρ H d x ∧ PostO K mg Q ρ H (cutD d lo hi st)
theorem ok_cut : SlR X (rSl X.K X.mg) := by
  intro pins s σ H x v vl vu lo hi sl Q I rx hs pl pu ⟨ρ, st, d, rs, h, p⟩
  cases d with
  | tup ds =>
    have g := h
    obtain ⟨a, vs, ex, hq, r⟩ := tup_at h rfl
    refine sl_tupA pins s σ H x v vl vu lo hi sl Q I rx hs pl pu ⟨a, vs, ex, hq, fun hw => ?_, fun _ q hq => ?_⟩
    · have e : Py.cutL ds lo hi = ds := by
        unfold Py.cutL
        rw [r.length, hw.1, hw.2, ← r.length]
        simp
      simp only [cutD, e] at p
      rw [ex] at g
      exact p.here rs g
    · obtain ⟨a1, a2⟩ := newTup rs (r.cutL lo hi) hq
      exact p _ _ _ (Ext.new hq) a1 a2
  | kl ds =>
    obtain ⟨a, vs, ex, hq, r⟩ := kl_at h
    refine sl_list pins s σ H x v vl vu lo hi sl Q I rx hs pl pu ⟨a, vs, ex, hq H, fun q hq => ?_⟩
    obtain ⟨a1, a2⟩ := newLst rs (r.cutL lo hi) hq
    exact p _ _ _ (Ext.push hq) a1 a2
  | ref n =>
    simp only [cutD] at p
    split at p
    · rename_i ds e
      obtain ⟨a, vs, ex, _, hq, r⟩ := seq_at rs h e
      refine sl_list pins s σ H x v vl vu lo hi sl Q I rx hs pl pu ⟨a, vs, ex, hq, fun q hq => ?_⟩
      obtain ⟨a1, a2⟩ := newLst rs (r.cutL lo hi) hq
      exact p _ _ _ (Ext.push hq) a1 a2
    · exact p.elim
  | str z =>
    simp only [RD] at h
    simp only [cutD] at p
    split at p
    · rename_i hz
      exact sl_str pins s σ H x v vl vu lo hi sl Q I rx hs pl pu ⟨z, h, hz, p.here rs rd_str⟩
    · exact p.elim
  | _ => exact p.elim
section
variable {W : WX} {pos p2 : Pos} {e a b : Expr} {me ma mb : Py.Loc → Store → R D}
abbrev SO (X : Cx) (W : WX) (e : Option Expr) (m : Py.Loc → Store → R (Option Int)) : Prop := PO X e (tG X.K X.mg (fun _ _ a b => a = b) W m)
theorem PO.imp {e : Option Expr} {t t' : TO} (h : PO X e t) (f : ∀ σ H Q, t' σ H Q → t σ H Q) : PO X e t' := ⟨fun pins s σ H Q I q => h.run pins s σ H Q I (f _ _ _ q)⟩
def mNoP : Py.Loc → Store → R (Option Int) := fun _ st => .ok none st
def mP (ma : Py.Loc → Store → R D) : Py.Loc → Store → R (Option Int) := fun e st => (ma e st).bind fun d st => match d with | .int i => .ok (some i) st | _ => .stuck
theorem so_none : SO X W none mNoP := PO.imp po_none fun σ H Q ⟨ρ, e, st, rs, re, p⟩ => p ρ H none .refl rs rfl
theorem so_some (h : SE X W e me) : SO X W (some e) (mP me) := PO.imp (po_some h) fun σ H Q ⟨ρ, e, st, rs, re, p⟩ => by
  refine ⟨ρ, e, st, rs, re, (Post.bind p).imp fun x H1 ⟨d, ρ1, st1, x1, rs1, rd1, p1⟩ => ?_⟩
  cases d with
  | int i =>
    simp only [RD] at rd1
    exact ⟨i, rd1, p1 ρ1 H1 _ .refl rs1 rfl⟩
  | _ => exact p1.elim
def mSl (me : Py.Loc → Store → R D) (ml mh : Py.Loc → Store → R (Option Int)) : Py.Loc → Store → R D := fun e st => (me e st).bind fun d st => (ml e st).bind fun lo st => (mh e st).bind fun hi st => ofO (cutD d lo hi st)
theorem se_sl {lo hi : Option Expr} {ml mh : Py.Loc → Store → R (Option Int)} (he : SE X W e me) (hl : SO X W lo ml) (hh : SO X W hi mh) : SE X W (.Subscript e (.Slice lo hi none p2) pos) (mSl me ml mh) :=
  PE.imp (pe_slice ok_cut he hl hh) fun σ H Q ⟨ρ, e, st, rs, re, p⟩ => by
    refine ⟨ρ, e, st, rs, re, (Post.bind p).imp fun x H1 ⟨d, ρ1, st1, x1, rs1, rd1, p1⟩ => ?_⟩
    refine ⟨ρ1, e, st1, rs1, re.mono x1, (Post.bind p1).imp fun y H2 ⟨l, ρ2, st2, x2, rs2, rd2, p2⟩ => ?_⟩
    refine ⟨ρ2, e, st2, rs2, re.mono (x1.trans x2), (Post.bind p2).imp fun z H3 ⟨h', ρ3, st3, x3, rs3, rd3, p3⟩ => ?_⟩
    subst rd2 rd3
    exact ⟨ρ3, st3, d, rs3, rd1.mono (x2.trans x3), p3.toO⟩
end
/-! ### in -/
def flatD : D → Bool | .non => true | .bl _ => true | .int _ => true | .str _ => true | _ => false
def eqF (a b : D) : Bool := eqV (VofD a) (VofD b)
theorem rd_flat {K : PySem.W.Frag} {mg : Str → Option Value} {ρ : List Addr} {H : Hp} {d : D} {v : V} (h : RD K mg ρ H d v) (f : flatD d = true) : v = VofD d ∧ flatV v = true := by
  cases d with
  | non => simp only [RD] at h; subst h; exact ⟨rfl, rfl⟩
  | bl _ => simp only [RD] at h; subst h; exact ⟨rfl, rfl⟩
  | int _ => simp only [RD] at h; subst h; exact ⟨rfl, rfl⟩
  | str _ => simp only [RD] at h; subst h; exact ⟨rfl, rfl⟩
  | _ => cases f
theorem rds_flat {K : PySem.W.Frag} {mg : Str → Option Value} {ρ : List Addr} {H : Hp} : ∀ {ds : List D} {vs : List V}, RDs K mg ρ H ds vs → ds.all flatD = true → vs = ds.map VofD ∧ vs.all flatV = true
  | [], _, h, _ => by simp only [RDs] at h; subst h; exact ⟨rfl, rfl⟩
  | d :: ds, _, h, f => by
    obtain ⟨x, xs, rfl, h1, h2⟩ := h.uncons
    simp only [List.all_cons, Bool.and_eq_true] at f ⊢
    obtain ⟨a1, a2⟩ := rd_flat h1 f.1
    obtain ⟨b1, b2⟩ := rds_flat h2 f.2
    exact ⟨by rw [List.map_cons, ← a1, ← b1], a2, b2⟩
/-- x in a tuple of flat things, in a text of signs, in a list, in a dict: the answer -/
noncomputable def inB : D → D → Store → Option Bool
  | .str c, .str z, _ => (match c.cps.toList with | [x] => some (decide (x ∈ z.cps.toList)) | _ => some (!(Builtin.Str.occurrences z c 0 z.length 1).isEmpty))
  | d, .tup ds, _ => if flatD d = true ∧ ds.all flatD = true then some (ds.any fun y => eqF y d) else none
  | d, .kt ds, _ => if flatD d = true ∧ ds.all flatD = true then some (ds.any fun y => eqF y d) else none
  | d, .ref n, st => match st[n]? with
    | some (.dict kvs) => (match dk d with | some k => if fitsK kvs k = true then some (lookD kvs k).isSome else none | none => none)
    | some (.lst _) => (match toPy st d, toPy st (.ref n) with
      | some p, some (.list ps) => if SeqAt.shaped p = true ∧ SeqAt.shaped (.list ps) = true then some (ps.any fun z => PyData.eqv z p) else none
      | _, _ => none)
    | _ => none
  | _, _, _ => none
noncomputable def inD (a b : D) (st : Store) : Option (D × Store) := match inB a b st with | some k => some (.bl k, st) | none => none
noncomputable def ninD (a b : D) (st : Store) : Option (D × Store) := match inB a b st with | some k => some (.bl (!k), st) | none => none
theorem sign_eq {c : Str} {x : Nat} (h : c.cps.toList = [x]) : c = ⟨#[x]⟩ := by
  cases c with
  | mk a =>
    have : a = #[x] := by rw [← Array.toList_inj]; simpa using h
    rw [this]
theorem ok_in (hu : X.A.units + 65 < cLine) : OpR X (compareOp .In) (r2 X.K X.mg inD) := by
  intro pins s σ H x y v u Q I rx ry ⟨ρ, st, d1, d2, rs, h1, h2, p⟩
  have tupc : ∀ {ds : List D}, getT d2 = some ds → PostO X.K X.mg Q ρ H (match (if flatD d1 = true ∧ ds.all flatD = true then some (ds.any fun y => eqF y d1) else none : Option Bool) with | some k => some (.bl k, st) | none => none) → wpAny (model X.prog X.w) X.A (compareOp .In v u) (EP X pins σ Q) X.xe s := by
    intro ds hg p
    split at p
    · rename_i k hk
      split at hk
      · rename_i hf
        cases hk
        obtain ⟨a, vs, ey, hq, r⟩ := tup_at h2 hg
        obtain ⟨a1, a2⟩ := rd_flat h1 hf.1
        obtain ⟨b1, b2⟩ := rds_flat r hf.2
        refine op_in_seq pins s σ H x y v u Q I rx ry ⟨a, vs, ey, .inr hq, a2, b2, ?_⟩
        have e : inV x vs = ds.any fun y => eqF y d1 := by
          rw [a1, b1]
          unfold inV eqF
          rw [List.any_map]
          rfl
        rw [if_neg (by decide), e]
        exact p.here rs rd_bl
      · cases hk
    · exact p.elim
  cases d2 with
  | str z =>
    cases d1 with
    | str c =>
      simp only [RD] at h1 h2
      simp only [inD, inB] at p
      split at p
      · rename_i k hk
        split at hk
        · rename_i x' hx
          cases hk
          exact op_in_sign pins s σ H x y v u Q I rx ry ⟨x', z, by rw [h1, sign_eq hx], h2, p.here rs rd_bl⟩
        · cases hk
          exact op_in_str pins s σ H x y v u Q I rx ry ⟨c, z, h1, h2, p.here rs rd_bl⟩
      · exact p.elim
    | _ => exact p.elim
  | tup ds =>
    refine tupc rfl ?_
    cases d1 <;> exact p
  | kt ds =>
    refine tupc rfl ?_
    cases d1 <;> exact p
  | ref n =>
    have p' : PostO X.K X.mg Q ρ H (match (match st[n]? with
      | some (.dict kvs) => (match dk d1 with | some k => if fitsK kvs k = true then some (lookD kvs k).isSome else none | none => none)
      | some (.lst _) => (match toPy st d1, toPy st (.ref n) with
        | some p, some (.list ps) => if SeqAt.shaped p = true ∧ SeqAt.shaped (.list ps) = true then some (ps.any fun z => PyData.eqv z p) else none
        | _, _ => none)
      | _ => none : Option Bool) with | some k => some (.bl k, st) | none => none) := by cases d1 <;> exact p
    clear p
    split at p'
    · rename_i k hk
      split at hk
      · rename_i kvs e
        refine ok_inDict (by omega) pins s σ H x y v u Q I rx ry ⟨ρ, st, d1, .ref n, rs, h1, h2, ?_⟩
        simp only [inDictD, e]
        split at hk
        · rename_i k' ek
          try simp only [ek]
          split at hk
          · rename_i hf
            cases hk
            rw [if_pos hf]
            exact p'
          · cases hk
        · cases hk
      · split at hk
        · rename_i q ps e1 e2
          split at hk
          · rename_i hf
            cases hk
            exact op_inD hu pins s σ H x y v u Q I rx ry ⟨q, ps, toPy_dp rs h1 e1, toPy_dp rs h2 e2, hf.1, hf.2, p'.here rs rd_bl⟩
          · cases hk
        · cases hk
      · cases hk
    · exact p'.elim
  | _ => cases d1 <;> exact p.elim
theorem ok_nin (hu : X.A.units + 65 < cLine) : OpR X (compareOp .NotIn) (r2 X.K X.mg ninD) := by
  intro pins s σ H x y v u Q I rx ry ⟨ρ, st, d1, d2, rs, h1, h2, p⟩
  have tupc : ∀ {ds : List D}, getT d2 = some ds → PostO X.K X.mg Q ρ H (match (if flatD d1 = true ∧ ds.all flatD = true then some (ds.any fun y => eqF y d1) else none : Option Bool) with | some k => some (.bl (!k), st) | none => none) → wpAny (model X.prog X.w) X.A (compareOp .NotIn v u) (EP X pins σ Q) X.xe s := by
    intro ds hg p
    split at p
    · rename_i k hk
      split at hk
      · rename_i hf
        cases hk
        obtain ⟨a, vs, ey, hq, r⟩ := tup_at h2 hg
        obtain ⟨a1, a2⟩ := rd_flat h1 hf.1
        obtain ⟨b1, b2⟩ := rds_flat r hf.2
        refine op_notIn_seq pins s σ H x y v u Q I rx ry ⟨a, vs, ey, .inr hq, a2, b2, ?_⟩
        have e : inV x vs = ds.any fun y => eqF y d1 := by
          rw [a1, b1]
          unfold inV eqF
          rw [List.any_map]
          rfl
        rw [if_pos rfl, e]
        exact p.here rs rd_bl
      · cases hk
    · exact p.elim
  cases d2 with
  | str z =>
    cases d1 with
    | str c =>
      simp only [RD] at h1 h2
      simp only [ninD, inB] at p
      split at p
      · rename_i k hk
        split at hk
        · rename_i x' hx
          cases hk
          exact op_notIn_sign pins s σ H x y v u Q I rx ry ⟨x', z, by rw [h1, sign_eq hx], h2, p.here rs rd_bl⟩
        · cases hk
          exact L2.op_notIn_str pins s σ H x y v u Q I rx ry ⟨c, z, h1, h2, p.here rs rd_bl⟩
      · exact p.elim
    | _ => exact p.elim
  | tup ds =>
    refine tupc rfl ?_
    cases d1 <;> exact p
  | kt ds =>
    refine tupc rfl ?_
    cases d1 <;> exact p
  | ref n =>
    have p' : PostO X.K X.mg Q ρ H (match (match st[n]? with
      | some (.dict kvs) => (match dk d1 with | some k => if fitsK kvs k = true then some (lookD kvs k).isSome else none | none => none)
      | some (.lst _) => (match toPy st d1, toPy st (.ref n) with
        | some p, some (.list ps) => if SeqAt.shaped p = true ∧ SeqAt.shaped (.list ps) = true then some (ps.any fun z => PyData.eqv z p) else none
        | _, _ => none)
      | _ => none : Option Bool) with | some k => some (.bl (!k), st) | none => none) := by cases d1 <;> exact p
    clear p
    split at p'
    · rename_i k hk
      split at hk
      · rename_i kvs e
        refine ok_ninDict (by omega) pins s σ H x y v u Q I rx ry ⟨ρ, st, d1, .ref n, rs, h1, h2, ?_⟩
        simp only [ninDictD, e]
        split at hk
        · rename_i k' ek
          try simp only [ek]
          split at hk
          · rename_i hf
            cases hk
            rw [if_pos hf]
            exact p'
          · cases hk
        · cases hk
      · split at hk
        · rename_i q ps e1 e2
          split at hk
          · rename_i hf
            cases hk
            exact op_notInD hu pins s σ H x y v u Q I rx ry ⟨q, ps, toPy_dp rs h1 e1, toPy_dp rs h2 e2, hf.1, hf.2, p'.here rs rd_bl⟩
          · cases hk
        · cases hk
      · cases hk
    · exact p'.elim
  | _ => cases d1 <;> exact p.elim
end
end Py

set_option Elab.async false
set_option linter.all false
set_option maxRecDepth 100000
set_option maxHeartbeats 1000000
namespace Py
open L2 PySem PySem.Spec PyProof.Rows
section
variable {X : Cx}
/-! ### built-ins -/
def seqOf (d : D) (st : Store) : Option (List D) := match d with | .tup ds => some ds | .kt ds => some ds | .kl ds => some ds | .ref n => getL st n | _ => none
theorem seqOf_at {K : PySem.W.Frag} {mg : Str → Option Value} {ρ : List Addr} {H : Hp} {st : Store} {d : D} {v : V} {ds : List D} (rs : RS K mg ρ H st) (h : RD K mg ρ H d v) (e : seqOf d st = some ds) : ∃ a vs, v = .ref a ∧ (SqL K H a vs ∨ SqT K H a vs) ∧ RDs K mg ρ H ds vs := by
  cases d with
  | tup es => obtain ⟨a, vs, r1, r2, r3⟩ := tup_at h e; exact ⟨a, vs, r1, .inr r2, r3⟩
  | kt es => obtain ⟨a, vs, r1, r2, r3⟩ := tup_at h e; exact ⟨a, vs, r1, .inr r2, r3⟩
  | kl es => cases e; obtain ⟨a, vs, r1, r2, r3⟩ := kl_at h; exact ⟨a, vs, r1, .inl (r2 H), r3⟩
  | ref n => obtain ⟨a, vs, r1, _, r2, r3⟩ := seq_at rs h e; exact ⟨a, vs, r1, .inl r2, r3⟩
  | _ => cases e
theorem rds_one {K : PySem.W.Frag} {mg : Str → Option Value} {ρ : List Addr} {H : Hp} {d : D} {xs : List V} (h : RDs K mg ρ H [d] xs) : ∃ x, xs = [x] ∧ RD K mg ρ H d x := by
  obtain ⟨x, ys, rfl, h1, h2⟩ := h.uncons
  simp only [RDs] at h2
  exact ⟨x, by rw [h2], h1⟩
theorem rds_two {K : PySem.W.Frag} {mg : Str → Option Value} {ρ : List Addr} {H : Hp} {d e : D} {xs : List V} (h : RDs K mg ρ H [d, e] xs) : ∃ x y, xs = [x, y] ∧ RD K mg ρ H d x ∧ RD K mg ρ H e y := by
  obtain ⟨x, ys, rfl, h1, h2⟩ := h.uncons
  obtain ⟨y, rfl, h3⟩ := rds_one h2
  exact ⟨x, y, rfl, h1, h3⟩
def lenD : List D → Store → Option (D × Store)
  | [.str z], st => if z.length ≤ sizeLine then some (.int z.length, st) else none
  | [.ref n], st => (match st[n]? with | some (.dict kvs) => if allK kvs = true then some (.int kvs.length, st) else none | _ => (match getL st n with | some ds => some (.int ds.length, st) | none => none))
  | [.tup ds], st => some (.int ds.length, st)
  | [.kt ds], st => some (.int ds.length, st)
  | [.kl ds], st => some (.int ds.length, st)
  | _, _ => none
theorem ok_len : CallR X (.builtin "len") (rN X.K X.mg lenD) := CallR.imp (call_len.or call_lenD) fun xs H Q ⟨ρ, st, ds, rs, h, p⟩ => by
  unfold lenD at p
  split at p
  · obtain ⟨x, rfl, h1⟩ := rds_one h
    simp only [RD] at h1
    split at p
    · rename_i hz
      exact .inl ⟨x, _, rfl, by rw [h1]; exact ⟨hz, rfl⟩, p.here rs rd_int⟩
    · exact p.elim
  · obtain ⟨x, rfl, h1⟩ := rds_one h
    split at p
    · rename_i kvs e
      split at p
      · rename_i hk
        simp only [RD] at h1
        obtain ⟨a, rfl, ha⟩ := h1
        rcases rs.ob _ a _ ha e with ⟨ks, q, r⟩ | ⟨⟨ks, q, r⟩, ne⟩
        · exact .inr ⟨a, ks, rfl, q, by rw [← rkv_len r]; exact p.here rs rd_int⟩
        · exact absurd (rkt_nil r hk).1 ne
      · exact p.elim
    · split at p
      · rename_i ds e
        obtain ⟨a, vs, rfl, _, hq, r⟩ := seq_at rs h1 e
        exact .inl ⟨_, vs.length, rfl, .inl ⟨vs, hq, rfl⟩, by rw [← r.length]; exact p.here rs rd_int⟩
      · exact p.elim
  · obtain ⟨x, rfl, h1⟩ := rds_one h
    obtain ⟨a, vs, rfl, hq, r⟩ := tup_at h1 rfl
    exact .inl ⟨_, vs.length, rfl, .inr ⟨vs, hq, rfl⟩, by rw [← r.length]; exact p.here rs rd_int⟩
  · obtain ⟨x, rfl, h1⟩ := rds_one h
    obtain ⟨a, vs, rfl, hq, r⟩ := tup_at h1 rfl
    exact .inl ⟨_, vs.length, rfl, .inr ⟨vs, hq, rfl⟩, by rw [← r.length]; exact p.here rs rd_int⟩
  · obtain ⟨x, rfl, h1⟩ := rds_one h
    obtain ⟨a, vs, rfl, hq, r⟩ := kl_at h1
    exact .inl ⟨_, vs.length, rfl, .inl ⟨vs, hq H, rfl⟩, by rw [← r.length]; exact p.here rs rd_int⟩
  · exact p.elim
def absD : List D → Store → Option (D × Store)
  | [.int i], st => some (.int (if i < 0 then -i else i), st)
  | _, _ => none
theorem ok_abs : CallR X (.builtin "abs") (rN X.K X.mg absD) := CallR.imp call_abs fun xs H Q ⟨ρ, st, ds, rs, h, p⟩ => by
  unfold absD at p
  split at p
  · obtain ⟨x, rfl, h1⟩ := rds_one h
    simp only [RD] at h1
    exact ⟨_, by rw [h1], p.here rs rd_int⟩
  · exact p.elim
def intD : List D → Store → Option (D × Store)
  | [.int i], st => some (.int i, st)
  | [.bl b], st => some (.int (if b then 1 else 0), st)
  | _, _ => none
theorem ok_int : CallR X (.type "int") (rN X.K X.mg intD) := CallR.imp call_int1 fun xs H Q ⟨ρ, st, ds, rs, h, p⟩ => by
  unfold intD at p
  split at p
  · obtain ⟨x, rfl, h1⟩ := rds_one h
    simp only [RD] at h1
    exact .inl ⟨_, by rw [h1], p.here rs rd_int⟩
  · obtain ⟨x, rfl, h1⟩ := rds_one h
    simp only [RD] at h1
    exact .inr ⟨_, by rw [h1], p.here rs rd_int⟩
  · exact p.elim
def tupD : List D → Store → Option (D × Store)
  | [.ref n], st => (match getL st n with | some ds => some (.tup ds, st) | none => none)
  | [.tup ds], st => some (.tup ds, st)
  | _, _ => none
theorem ok_tuple : CallR X (.type "tuple") (rN X.K X.mg tupD) := CallR.imp call_tuple_of fun xs H Q ⟨ρ, st, ds, rs, h, p⟩ => by
  unfold tupD at p
  split at p
  · obtain ⟨x, rfl, h1⟩ := rds_one h
    split at p
    · rename_i ds e
      obtain ⟨a, vs, rfl, _, hq, r⟩ := seq_at rs h1 e
      refine ⟨a, vs, rfl, .inl ⟨hq, fun l hl => ?_⟩⟩
      obtain ⟨a1, a2⟩ := newTup rs r hl
      exact p _ _ _ (Ext.new hl) a1 a2
    · exact p.elim
  · obtain ⟨x, rfl, h1⟩ := rds_one h
    have g := h1
    obtain ⟨a, vs, rfl, hq, r⟩ := tup_at h1 rfl
    exact ⟨a, vs, rfl, .inr ⟨hq, p.here rs g⟩⟩
  · exact p.elim
theorem call_listS (hc : X.calm = true) : CallR X (.type "list") (fun xs H Q => ∃ z : Str, xs = [V.str z] ∧ z.length ≤ sizeLine ∧ ∀ q, H q = none → Q (.ref q) (upd H q (.lst (z.cps.toList.map fun c => V.str ⟨#[c]⟩)))) := by
  intro pins s σ H xs us Q I r ⟨z, ez, hz, q⟩
  subst ez
  obtain ⟨u, eu, t, rfl⟩ := vals1 r
  subst eu
  refine PySem.call_list_str (hn := hz) (I.ok.hd hc) z t fun h' tk acc c' hk e hi => ?_
  refine ⟨.ref s.heap.objs.size, upd H s.heap.objs.size (.lst (z.cps.toList.map fun c => V.str ⟨#[c]⟩)), I.laid hk (Nat.le_refl _) ⟨by rw [List.length_map, Array.length_toList]; exact hz, acc.toList, c', ?_, by rw [Array.toArray_toList]; exact e⟩, rfl, q _ (I.hok.fresh (Nat.le_refl _))⟩
  refine vals_of_idx _ _ (by rw [List.length_map, Array.length_toList, Array.length_toList]; exact hi.1) fun j u hj => ?_
  obtain ⟨c, t', hc, rfl⟩ := hi.2 j u (by rw [← Array.getElem?_toList]; exact hj)
  exact ⟨.str ⟨#[c]⟩, by rw [List.getElem?_map, Array.getElem?_toList, hc]; rfl, ⟨_, rfl⟩⟩
def listD : List D → Store → Option (D × Store)
  | [.ref n], st => (match st[n]? with
    | some (.dict kvs) => if allK kvs = true then some (.ref st.length, st ++ [.lst (kvs.map (·.1))]) else none
    | _ => (match getL st n with | some ds => some (.ref st.length, st ++ [.lst ds]) | none => none))
  | [.tup ds], st => some (.ref st.length, st ++ [.lst ds])
  | [.str z], st => if z.length ≤ sizeLine then some (.ref st.length, st ++ [.lst (z.cps.toList.map fun c => .str ⟨#[c]⟩)]) else none
  | _, _ => none
theorem rds_chars {K : PySem.W.Frag} {mg : Str → Option Value} {ρ : List Addr} {H : Hp} : ∀ l : List Nat, RDs K mg ρ H (l.map fun c => D.str ⟨#[c]⟩) (l.map fun c => V.str ⟨#[c]⟩)
  | [] => .nil
  | c :: l => .cons (by simp only [RD]) (rds_chars l)
theorem rkv_keys {K : PySem.W.Frag} {mg : Str → Option Value} {ρ : List Addr} {H : Hp} : ∀ {kvs : List (D × D)} {ks : List (Key × V)}, RKV K mg ρ H kvs ks → RDs K mg ρ H (kvs.map (·.1)) (ks.map fun kv => kV kv.1)
  | _, _, .nil => .nil
  | (p1, p2) :: kvs, (q1, q2) :: ks, .cons r t => by
    refine .cons ?_ (rkv_keys t)
    have h := r.1
    show RD K mg ρ H p1 (kV q1)
    cases p1 with
    | int i => cases h; exact rd_int
    | str i => cases h; exact rd_str
    | _ => cases h
theorem ok_list (hc : X.calm = true) : CallR X (.type "list") (rN X.K X.mg listD) := CallR.imp ((call_list_of.or (call_list_dK hc)).or (call_listS hc)) fun xs H Q ⟨ρ, st, ds, rs, h, p⟩ => by
  unfold listD at p
  split at p
  · obtain ⟨x, rfl, h1⟩ := rds_one h
    split at p
    · rename_i kvs e
      split at p
      · rename_i hk
        simp only [RD] at h1
        obtain ⟨a, rfl, ha⟩ := h1
        rcases rs.ob _ a _ ha e with ⟨ks, q, r⟩ | ⟨⟨ks, q, r⟩, ne⟩
        · refine .inl (.inr ⟨a, ks, rfl, q, fun l hl => ?_⟩)
          obtain ⟨a1, a2⟩ := newLst rs (rkv_keys r) hl
          exact p _ _ _ (Ext.push hl) a1 a2
        · exact absurd (rkt_nil r hk).1 ne
      · exact p.elim
    · split at p
      · rename_i ds e
        obtain ⟨a, vs, rfl, _, hq, r⟩ := seq_at rs h1 e
        refine .inl (.inl ⟨a, vs, rfl, .inl hq, fun l hl => ?_⟩)
        obtain ⟨a1, a2⟩ := newLst rs r hl
        exact p _ _ _ (Ext.push hl) a1 a2
      · exact p.elim
  · obtain ⟨x, rfl, h1⟩ := rds_one h
    obtain ⟨a, vs, rfl, hq, r⟩ := tup_at h1 rfl
    refine .inl (.inl ⟨a, vs, rfl, .inr hq, fun l hl => ?_⟩)
    obtain ⟨a1, a2⟩ := newLst rs r hl
    exact p _ _ _ (Ext.push hl) a1 a2
  · obtain ⟨x, rfl, h1⟩ := rds_one h
    simp only [RD] at h1
    split at p
    · rename_i hz
      refine .inr ⟨_, by rw [h1], hz, fun l hl => ?_⟩
      obtain ⟨a1, a2⟩ := newLst rs (rds_chars _) hl
      exact p _ _ _ (Ext.push hl) a1 a2
    · exact p.elim
  · exact p.elim
/-! ints, bools of a list -/
def intsOf : List D → Option (List Int)
  | [] => some []
  | .int i :: ds => (match intsOf ds with | some is => some (i :: is) | none => none)
  | _ => none
def bsOf : List D → Option (List Bool)
  | [] => some []
  | .bl i :: ds => (match bsOf ds with | some is => some (i :: is) | none => none)
  | _ => none
def strsOf : List D → Option (List Str)
  | [] => some []
  | .str i :: ds => (match strsOf ds with | some is => some (i :: is) | none => none)
  | _ => none
theorem intsOf_at {K : PySem.W.Frag} {mg : Str → Option Value} {ρ : List Addr} {H : Hp} : ∀ {ds : List D} {vs : List V} {is : List Int}, RDs K mg ρ H ds vs → intsOf ds = some is → vs = is.map V.int
  | [], _, _, h, e => by simp only [RDs] at h; subst h; cases e; rfl
  | .int i :: ds, _, _, h, e => by
    obtain ⟨x, xs, rfl, h1, h2⟩ := h.uncons
    simp only [intsOf] at e
    split at e
    · rename_i is e2
      cases e
      simp only [RD] at h1
      rw [h1, intsOf_at h2 e2]
      rfl
    · cases e
  | .non :: _, _, _, _, e => by cases e
  | .bl _ :: _, _, _, _, e => by cases e
  | .str _ :: _, _, _, _, e => by cases e
  | .tup _ :: _, _, _, _, e => by cases e
  | .kt _ :: _, _, _, _, e => by cases e
  | .kl _ :: _, _, _, _, e => by cases e
  | .ref _ :: _, _, _, _, e => by cases e
  | .gl _ :: _, _, _, _, e => by cases e
theorem bsOf_at {K : PySem.W.Frag} {mg : Str → Option Value} {ρ : List Addr} {H : Hp} : ∀ {ds : List D} {vs : List V} {is : List Bool}, RDs K mg ρ H ds vs → bsOf ds = some is → vs = is.map V.bl
  | [], _, _, h, e => by simp only [RDs] at h; subst h; cases e; rfl
  | .bl i :: ds, _, _, h, e => by
    obtain ⟨x, xs, rfl, h1, h2⟩ := h.uncons
    simp only [bsOf] at e
    split at e
    · rename_i is e2
      cases e
      simp only [RD] at h1
      rw [h1, bsOf_at h2 e2]
      rfl
    · cases e
  | .non :: _, _, _, _, e => by cases e
  | .int _ :: _, _, _, _, e => by cases e
  | .str _ :: _, _, _, _, e => by cases e
  | .tup _ :: _, _, _, _, e => by cases e
  | .kt _ :: _, _, _, _, e => by cases e
  | .kl _ :: _, _, _, _, e => by cases e
  | .ref _ :: _, _, _, _, e => by cases e
  | .gl _ :: _, _, _, _, e => by cases e
theorem strsOf_at {K : PySem.W.Frag} {mg : Str → Option Value} {ρ : List Addr} {H : Hp} : ∀ {ds : List D} {vs : List V} {is : List Str}, RDs K mg ρ H ds vs → strsOf ds = some is → vs = is.map V.str
  | [], _, _, h, e => by simp only [RDs] at h; subst h; cases e; rfl
  | .str i :: ds, _, _, h, e => by
    obtain ⟨x, xs, rfl, h1, h2⟩ := h.uncons
    simp only [strsOf] at e
    split at e
    · rename_i is e2
      cases e
      simp only [RD] at h1
      rw [h1, strsOf_at h2 e2]
      rfl
    · cases e
  | .non :: _, _, _, _, e => by cases e
  | .int _ :: _, _, _, _, e => by cases e
  | .bl _ :: _, _, _, _, e => by cases e
  | .tup _ :: _, _, _, _, e => by cases e
  | .kt _ :: _, _, _, _, e => by cases e
  | .kl _ :: _, _, _, _, e => by cases e
  | .ref _ :: _, _, _, _, e => by cases e
  | .gl _ :: _, _, _, _, e => by cases e
def sumD : List D → Store → Option (D × Store)
  | [.ref n], st => (match getL st n with | some ds => (match intsOf ds with | some is => some (.int is.sum, st) | none => none) | none => none)
  | _, _ => none
theorem ok_sum (hc : X.calm = true) : CallR X (.builtin "sum") (rN X.K X.mg sumD) := CallR.imp (cr_sum hc) fun xs H Q ⟨ρ, st, ds, rs, h, p⟩ => by
  unfold sumD at p
  split at p
  · obtain ⟨x, rfl, h1⟩ := rds_one h
    split at p
    · rename_i ds e
      split at p
      · rename_i is e2
        obtain ⟨a, vs, rfl, _, hq, r⟩ := seq_at rs h1 e
        exact ⟨a, is, rfl, by rw [← intsOf_at r e2]; exact hq, p.here rs rd_int⟩
      · exact p.elim
    · exact p.elim
  · exact p.elim
def anyD : List D → Store → Option (D × Store)
  | [.ref n], st => (match getL st n with | some ds => (match bsOf ds with | some is => some (.bl (is.any id), st) | none => none) | none => none)
  | _, _ => none
def allD : List D → Store → Option (D × Store)
  | [.ref n], st => (match getL st n with | some ds => (match bsOf ds with | some is => some (.bl (is.all id), st) | none => none) | none => none)
  | _, _ => none
theorem ok_any (hc : X.calm = true) : CallR X (.builtin "any") (rN X.K X.mg anyD) := CallR.imp (cr_any hc) fun xs H Q ⟨ρ, st, ds, rs, h, p⟩ => by
  unfold anyD at p
  split at p
  · obtain ⟨x, rfl, h1⟩ := rds_one h
    split at p
    · rename_i ds e
      split at p
      · rename_i is e2
        obtain ⟨a, vs, rfl, _, hq, r⟩ := seq_at rs h1 e
        exact ⟨a, is, rfl, by rw [← bsOf_at r e2]; exact hq, p.here rs rd_bl⟩
      · exact p.elim
    · exact p.elim
  · exact p.elim
theorem ok_all (hc : X.calm = true) : CallR X (.builtin "all") (rN X.K X.mg allD) := CallR.imp (cr_all hc) fun xs H Q ⟨ρ, st, ds, rs, h, p⟩ => by
  unfold allD at p
  split at p
  · obtain ⟨x, rfl, h1⟩ := rds_one h
    split at p
    · rename_i ds e
      split at p
      · rename_i is e2
        obtain ⟨a, vs, rfl, _, hq, r⟩ := seq_at rs h1 e
        exact ⟨a, is, rfl, by rw [← bsOf_at r e2]; exact hq, p.here rs rd_bl⟩
      · exact p.elim
    · exact p.elim
  · exact p.elim
/-! max, min: two ints, a list or tuple of ints -/
def maxI : Int → List Int → Int := List.foldl max
def minI : Int → List Int → Int := List.foldl min
def maxD' : List D → Store → Option (D × Store)
  | [.int i, .int j], st => some (.int (max i j), st)
  | [d], st => (match seqOf d st with | some ds => (match intsOf ds with | some (i :: is) => some (.int (maxI i is), st) | _ => none) | none => none)
  | _, _ => none
def minD' : List D → Store → Option (D × Store)
  | [.int i, .int j], st => some (.int (min i j), st)
  | [d], st => (match seqOf d st with | some ds => (match intsOf ds with | some (i :: is) => some (.int (minI i is), st) | _ => none) | none => none)
  | _, _ => none
theorem maxI_mem : ∀ (is : List Int) (i : Int), maxI i is ∈ i :: is ∧ ∀ y ∈ i :: is, y ≤ maxI i is
  | [], i => ⟨by simp [maxI], fun y hy => by simp at hy; subst hy; exact Int.le_refl _⟩
  | j :: is, i => by
    obtain ⟨h1, h2⟩ := maxI_mem is (max i j)
    have e : maxI i (j :: is) = maxI (max i j) is := rfl
    rw [e]
    refine ⟨?_, fun y hy => ?_⟩
    · rcases List.mem_cons.mp h1 with h | h
      · rw [h]
        rcases Int.le_total i j with z | z
        · rw [Int.max_eq_right z]; simp
        · rw [Int.max_eq_left z]; simp
      · exact List.mem_cons_of_mem _ (List.mem_cons_of_mem _ h)
    · have h3 := h2 (max i j) List.mem_cons_self
      rcases List.mem_cons.mp hy with rfl | hy
      · exact Int.le_trans (Int.le_max_left _ _) h3
      · rcases List.mem_cons.mp hy with rfl | hy
        · exact Int.le_trans (Int.le_max_right _ _) h3
        · exact h2 y (List.mem_cons_of_mem _ hy)
theorem minI_mem : ∀ (is : List Int) (i : Int), minI i is ∈ i :: is ∧ ∀ y ∈ i :: is, minI i is ≤ y
  | [], i => ⟨by simp [minI], fun y hy => by simp at hy; subst hy; exact Int.le_refl _⟩
  | j :: is, i => by
    obtain ⟨h1, h2⟩ := minI_mem is (min i j)
    have e : minI i (j :: is) = minI (min i j) is := rfl
    rw [e]
    refine ⟨?_, fun y hy => ?_⟩
    · rcases List.mem_cons.mp h1 with h | h
      · rw [h]
        rcases Int.le_total i j with z | z
        · rw [Int.min_eq_left z]; simp
        · rw [Int.min_eq_right z]; simp
      · exact List.mem_cons_of_mem _ (List.mem_cons_of_mem _ h)
    · have h3 := h2 (min i j) List.mem_cons_self
      rcases List.mem_cons.mp hy with rfl | hy
      · exact Int.le_trans h3 (Int.min_le_left _ _)
      · rcases List.mem_cons.mp hy with rfl | hy
        · exact Int.le_trans h3 (Int.min_le_right _ _)
        · exact h2 y (List.mem_cons_of_mem _ hy)
/-- max of a tuple of ints -/
theorem reads_ints {h : Heap} : ∀ {its : List Value} {is : List Int}, Vals (is.map V.int) its → ∃ as, ReadsAll h its (is.map PyData.int) as
  | [], [], _ => ⟨[], .nil⟩
  | _ :: _, [], r => by cases r
  | [], _ :: _, r => by cases r
  | u :: its, i :: is, r => by
    cases r with
    | cons r t =>
      obtain ⟨as, q⟩ := reads_ints (h := h) t
      obtain ⟨t', rfl⟩ := r
      exact ⟨[] ++ as, .cons (.int i t') q⟩
theorem alike_ints (is : List Int) : PySem.W.AlikeAll (is.map PyData.int) := by
  refine ⟨fun x hx y hy => ?_, fun x hx => ?_⟩
  · obtain ⟨i, _, rfl⟩ := List.mem_map.mp hx
    obtain ⟨j, _, rfl⟩ := List.mem_map.mp hy
    simp [PySem.W.alike]
  · obtain ⟨i, _, rfl⟩ := List.mem_map.mp hx
    simp
theorem depth_ints (is : List Int) : PyData.depthAll (is.map PyData.int) = 0 := PySem.W.depth_ints is
def rMaxT (K : PySem.W.Frag) : List V → Hp → VK → Prop := fun xs H Q => ∃ a i is, xs = [.ref a] ∧ SqT K H a ((i :: is).map V.int) ∧ Q (.int (maxI i is)) H
def rMinT (K : PySem.W.Frag) : List V → Hp → VK → Prop := fun xs H Q => ∃ a i is, xs = [.ref a] ∧ SqT K H a ((i :: is).map V.int) ∧ Q (.int (minI i is)) H
theorem cr_maxT (hc : X.calm = true) (hu : X.A.units + 1 < cLine) : CallR X (.builtin "max") (rMaxT X.K) := by
  intro pins s σ H xs us Q I r ⟨a, i, is, ex, hq, q⟩
  subst ex
  obtain ⟨u, rfl, ru⟩ := vals1 r
  cases ru
  obtain ⟨its, rv, p1, _⟩ := I.tuple hq
  obtain ⟨as, hr⟩ := reads_ints (h := s.heap) rv
  refine PySem.W.max_tuple_data (I.ok.hd hc) (show s.heap.IsTuple a its.toArray from p1) (x := .int i) (xs := is.map .int) (as := as) (by simpa using hr) (alike_ints (i :: is)) (by rw [show PyData.int i :: is.map PyData.int = (i :: is).map PyData.int from rfl, depth_ints]; exact hu) fun j v h' tk bs hv hb hk => ?_
  rw [PySem.W.maxD_ints] at hb
  cases hb
  exact ⟨.int _, H, I.kept hk, ⟨_, rfl⟩, q⟩
theorem cr_minT (hc : X.calm = true) (hu : X.A.units + 1 < cLine) : CallR X (.builtin "min") (rMinT X.K) := by
  intro pins s σ H xs us Q I r ⟨a, i, is, ex, hq, q⟩
  subst ex
  obtain ⟨u, rfl, ru⟩ := vals1 r
  cases ru
  obtain ⟨its, rv, p1, _⟩ := I.tuple hq
  obtain ⟨as, hr⟩ := reads_ints (h := s.heap) rv
  refine PySem.W.min_tuple_data (I.ok.hd hc) (show s.heap.IsTuple a its.toArray from p1) (x := .int i) (xs := is.map .int) (as := as) (by simpa using hr) (alike_ints (i :: is)) (by rw [show PyData.int i :: is.map PyData.int = (i :: is).map PyData.int from rfl, depth_ints]; exact hu) fun j v h' tk bs hv hb hk => ?_
  rw [PySem.W.minD_ints] at hb
  cases hb
  exact ⟨.int _, H, I.kept hk, ⟨_, rfl⟩, q⟩
theorem ok_max (hc : X.calm = true) (hu : X.A.units + 1 < cLine) : CallR X (.builtin "max") (rN X.K X.mg maxD') := CallR.imp ((call_max2 hc).or ((cr_max hc).or (cr_maxT hc hu))) fun xs H Q ⟨ρ, st, ds, rs, h, p⟩ => by
  unfold maxD' at p
  split at p
  · rename_i i j
    obtain ⟨x, y, rfl, h1, h2⟩ := rds_two h
    simp only [RD] at h1 h2
    refine .inl ⟨i, j, by rw [h1, h2], ?_⟩
    have e : (if j > i then j else i) = max i j := by
      rw [Int.max_def]
      split <;> split <;> omega
    rw [e]
    exact p.here rs rd_int
  · rename_i d _
    obtain ⟨x, rfl, h1⟩ := rds_one h
    split at p
    · rename_i ds e
      split at p
      · rename_i i is e2
        obtain ⟨a, vs, rfl, hq, r⟩ := seqOf_at rs h1 e
        have ev := intsOf_at r e2
        rcases hq with hq | hq
        · obtain ⟨m1, m2⟩ := maxI_mem is i
          refine .inr (.inl ⟨a, i :: is, rfl, by rw [← ev]; exact hq, by simp, fun m hm hle => ?_⟩)
          have e3 : m = maxI i is := Int.le_antisymm (m2 m hm) (hle _ m1)
          rw [e3]
          exact p.here rs rd_int
        · exact .inr (.inr ⟨a, i, is, rfl, by rw [← ev]; exact hq, p.here rs rd_int⟩)
      · exact p.elim
    · exact p.elim
  · exact p.elim
theorem ok_min (hc : X.calm = true) (hu : X.A.units + 1 < cLine) : CallR X (.builtin "min") (rN X.K X.mg minD') := CallR.imp ((call_min2 hc).or ((cr_min hc).or (cr_minT hc hu))) fun xs H Q ⟨ρ, st, ds, rs, h, p⟩ => by
  unfold minD' at p
  split at p
  · rename_i i j
    obtain ⟨x, y, rfl, h1, h2⟩ := rds_two h
    simp only [RD] at h1 h2
    refine .inl ⟨i, j, by rw [h1, h2], ?_⟩
    have e : (if j < i then j else i) = min i j := by
      rw [Int.min_def]
      split <;> split <;> omega
    rw [e]
    exact p.here rs rd_int
  · rename_i d _
    obtain ⟨x, rfl, h1⟩ := rds_one h
    split at p
    · rename_i ds e
      split at p
      · rename_i i is e2
        obtain ⟨a, vs, rfl, hq, r⟩ := seqOf_at rs h1 e
        have ev := intsOf_at r e2
        rcases hq with hq | hq
        · obtain ⟨m1, m2⟩ := minI_mem is i
          refine .inr (.inl ⟨a, i :: is, rfl, by rw [← ev]; exact hq, by simp, fun m hm hle => ?_⟩)
          have e3 : m = minI i is := Int.le_antisymm (hle _ m1) (m2 m hm)
          rw [e3]
          exact p.here rs rd_int
        · exact .inr (.inr ⟨a, i, is, rfl, by rw [← ev]; exact hq, p.here rs rd_int⟩)
      · exact p.elim
    · exact p.elim
  · exact p.elim
end
end Py

set_option Elab.async false
set_option linter.all false
set_option maxRecDepth 100000
set_option maxHeartbeats 1000000
namespace Py
open L2 PySem PySem.Spec PyProof.Rows
section
variable {K : PySem.W.Frag} {mg : Str → Option Value} {ρ : List Addr} {H : Hp}
/-- any object that stands untold is told -/
theorem RS.adoptO {st : Store} {p : Addr} {o : O} (h : RS K mg ρ H st) (hp : p ∉ ρ) (r : RO K mg ρ H p o) : RS K mg (ρ ++ [p]) H (st ++ [o]) := by
  refine ⟨by simp [h.len], List.nodup_append.mpr ⟨h.nd, by simp, fun a ha b hb => by simp at hb; subst hb; intro z; subst z; exact hp ha⟩, fun n a u e1 e2 => ?_⟩
  by_cases hn : n < ρ.length
  · rw [List.getElem?_append_left hn] at e1
    rw [List.getElem?_append_left (by rw [← h.len]; exact hn)] at e2
    have q := h.ob n a u e1 e2
    exact q.cut q.low fun m hm => List.getElem?_append_left hm
  · have hn' : n = ρ.length := by
      have := (List.getElem?_eq_some_iff.mp e1).1
      simp at this
      omega
    subst hn'
    simp at e1
    rw [h.len] at e2
    simp at e2
    subst e1; subst e2
    exact r.cut r.low fun m hm => List.getElem?_append_left hm
theorem Ext.adopt {ρ' : List Addr} {H' : Hp} {p : Addr} (x : Ext K ρ H ρ' H') (h0 : H p = none) : Ext K ρ H (ρ' ++ [p]) H' :=
  ⟨fun n a q => by rw [List.getElem?_append_left (List.getElem?_eq_some_iff.mp (x.pre n a q)).1]; exact x.pre n a q, x.tup, x.frm, fun a ha na => by
    rcases List.mem_append.mp ha with ha | ha
    · exact x.new_ a ha na
    · simp at ha; subst ha; exact h0⟩
end
section
variable {X : Cx} {W : WX} {pos : Pos}
/-! ### dict comprehensions -/
noncomputable def dcB (tg : Tg) (mt : Py.Loc → Store → R Bool) (mk mv : Py.Loc → Store → R D) (d : D) (e : Py.Loc) (st : Store) : R (Option (D × D)) :=
  match bindE tg d e with
  | none => .stuck
  | some e1 => match mt e1 st with
    | .ok false st1 => .ok none (gc st .non st1).2
    | .ok true st1 => (match mk e1 st1 with
      | .ok k st2 => (match keyD k with
        | some _ => (match mv e1 st2 with
          | .ok y st3 => .ok (some (k, (gc st y st3).1)) (gc st y st3).2
          | _ => .stuck)
        | none => .stuck)
      | _ => .stuck)
    | _ => .stuck
def putO (acc : List (D × D)) : Option (D × D) → List (D × D)
  | none => acc
  | some (k, v) => (match keyD k with | some q => putD acc k (.inl q) v | none => acc)
open Classical in
noncomputable def dcL (still : Store → Prop) (b : D → Store → R (Option (D × D))) : List D → List (D × D) → Store → R (List (D × D))
  | [], acc, st => if still st then .ok acc st else .stuck
  | d :: ds, acc, st => if still st then (b d st).bind fun o st => dcL still b ds (putO acc o) st else .stuck
noncomputable def mDc (mi : Py.Loc → Store → R Iter) (tg : Tg) (mt : Py.Loc → Store → R Bool) (mk mv : Py.Loc → Store → R D) (vs : List Nat) : Py.Loc → Store → R D := fun e st =>
  (mi e st).bind fun it st => if it.items.length ≤ sizeLine then (dcL it.still (fun d st => dcB tg mt mk mv d (wipeE e vs) st) it.items [] st).bind fun ds st => .ok (.ref st.length) (st ++ [.dict ds]) else .stuck
theorem putD_len (kvs : List (D × D)) (i : D) (k : DKey) (v : D) : (putD kvs i k v).length ≤ kvs.length + 1 := by
  unfold putD
  split
  · simp
  · simp
theorem dc_of {mi : Py.Loc → Store → R Iter} {tg : Tg} {mt : Py.Loc → Store → R Bool} {mk mv : Py.Loc → Store → R D} {vs : List Nat} (hs : ∀ i ∈ tg.slots, i ∈ vs) (σ : L2.St) (H : Hp) (Q : VK) (h : tG X.K X.mg (RD X.K X.mg) W (mDc mi tg mt mk mv vs) σ H Q) :
    tDc (tG X.K X.mg (RI X.K X.mg) W mi) (gTg X.K tg) (tG X.K X.mg RB W0 mt) (tG X.K X.mg (RD X.K X.mg) W0 mk) (tG X.K X.mg (RD X.K X.mg) W0 mv) vs σ H Q := by
  obtain ⟨ρ, e, st, rs, re, p⟩ := h
  refine ⟨ρ, e, st, rs, re, (Post.bind p).imp fun J H1 ⟨it, ρ1, st1, x1, rs1, ri, p1⟩ => ?_⟩
  split at p1
  rotate_left
  · exact p1.elim
  rename_i hsz
  intro Dd hD
  have rew : RE X.K X.mg ρ1 H1 (wipe σ vs) (wipeE e vs) := (re.mono x1).wipe vs
  have hDn : Dd ∉ ρ1 := rs1.fresh hD
  generalize hbb : (fun d st => dcB tg mt mk mv d (wipeE e vs) st) = bb at p1
  refine ⟨fun i m H2 => i + m = it.items.length ∧ ∃ ρ2 st2 acc av, Ext X.K ρ1 H1 ρ2 H2 ∧ Dd ∉ ρ2 ∧ H2 Dd = some (.dK av) ∧ RKV X.K X.mg ρ2 H2 acc av ∧ acc.length ≤ i ∧ RS X.K X.mg ρ2 H2 st2 ∧
      Post X.K X.mg (RD X.K X.mg) W σ Q ρ1 H1 ((dcL it.still bb (it.items.drop i) acc st2).bind fun ds st => .ok (.ref st.length) (st ++ [.dict ds])),
    ⟨it.items.length, by omega, ρ1, st1, [], [], Ext.new hD, hDn, upd_same, .nil, Nat.le_refl _, rs1.tupnew hD, by simpa using p1⟩, fun i m H2 hW => ?_⟩
  obtain ⟨him, ρ2, st2, acc, av, xb, hd2, eD, ra, la, rs2, p2⟩ := hW
  by_cases hil : i < it.items.length
  · refine .inr ?_
    obtain ⟨d, hd⟩ : ∃ d, it.items[i]? = some d := ⟨_, List.getElem?_eq_getElem hil⟩
    rw [List.drop_eq_getElem_cons hil] at p2
    have ed : it.items[i] = d := by rw [List.getElem?_eq_getElem hil] at hd; exact Option.some.inj hd
    rw [ed] at p2
    unfold dcL at p2
    by_cases hst : it.still st2
    · rw [if_pos hst] at p2
      obtain ⟨a1, _⟩ := ri ρ2 H2 st2 xb.wk rs2 hst i
      obtain ⟨hgo, hy⟩ := a1 d hd
      refine ⟨hgo, fun H3 => ∃ ρ3 st3 acc' av', Ext X.K ρ1 H1 ρ3 H3 ∧ Dd ∉ ρ3 ∧ H3 Dd = some (.dK av') ∧ RKV X.K X.mg ρ3 H3 acc' av' ∧ acc'.length ≤ i + 1 ∧ RS X.K X.mg ρ3 H3 st3 ∧
          Post X.K X.mg (RD X.K X.mg) W σ Q ρ1 H1 ((dcL it.still bb (it.items.drop (i + 1)) acc' st3).bind fun ds st => .ok (.ref st.length) (st ++ [.dict ds])),
        fun H3 hN => ⟨m - 1, by omega, by omega, hN⟩, fun x H3 hyl => ?_⟩
      obtain ⟨xa, rsa, rda⟩ := hy x H3 hyl
      have eD3 : H3 Dd = some (.dK av) := xa.frm _ _ eD hd2
      rw [← hbb] at p2
      simp only [dcB] at p2
      cases hbd : bindE tg d (wipeE e vs) with
      | none => rw [hbd] at p2; exact p2.elim
      | some e1 =>
        rw [hbd] at p2
        simp only at p2
        have rew3 : RE X.K X.mg ρ2 H3 (wipe σ vs) (wipeE e vs) := (rew.mono xb).mono xa
        refine gTg_of hs rew3 rda hbd fun σ2 re2 hw2 => ⟨by rw [hw2]; exact wipe_wipe σ vs, ?_⟩
        refine ⟨ρ2, e1, st2, rsa, re2, ?_⟩
        cases hmt : mt e1 st2 with
        | ok k st4 =>
          rw [hmt] at p2
          intro ρ4 H4 k' x4 rs4 hk
          cases hk
          have eD4 : H4 Dd = some (.dK av) := x4.frm _ _ eD3 hd2
          cases k with
          | false =>
            rw [if_neg (by decide)]
            simp only at p2
            obtain ⟨ρ5, x5, rs5, _, _⟩ := gc_sound rsa x4 rs4 (d := .non) (v := .non) (by simp only [RD])
            have hD5 : Dd ∉ ρ5 := fun hm => by have := x5.new_ Dd hm hd2; rw [eD3] at this; cases this
            refine ⟨ρ5, _, acc, av, xb.trans (xa.trans x5), hD5, eD4, Paired.imp (fun _ _ q => ⟨q.1, q.2.mono (xa.trans x5)⟩) ra, by omega, rs5, ?_⟩
            simp only [R.bind_ok, putO] at p2
            rw [← hbb]
            exact p2
          | true =>
            rw [if_pos rfl]
            simp only at p2
            refine ⟨ρ4, e1, st4, rs4, re2.mono x4, ?_⟩
            cases hmk : mk e1 st4 with
            | ok kd st6 =>
              rw [hmk] at p2
              simp only at p2
              cases hkd : keyD kd with
              | none => rw [hkd] at p2; exact p2.elim
              | some kk =>
              rw [hkd] at p2
              simp only at p2
              intro ρ6 H6 kv x6 rs6 rdk
              refine ⟨ρ6, e1, st6, rs6, (re2.mono x4).mono x6, ?_⟩
              cases hme : mv e1 st6 with
              | ok y st5 =>
                rw [hme] at p2
                intro ρ5 H5 v x5 rs5 rd5
                have x46 := x4.trans (x6.trans x5)
                obtain ⟨ρ7, x7, rs7, rd7, _⟩ := gc_sound rsa x46 rs5 rd5
                have eD5 : H5 Dd = some (.dK av) := x46.frm _ _ eD3 hd2
                have hD7 : Dd ∉ ρ7 := fun hm => by have := x7.new_ Dd hm hd2; rw [eD3] at this; cases this
                have hm : ∀ xs, H5 Dd ≠ some (.tup xs) := fun xs r => by rw [eD5] at r; cases r
                refine ⟨av, kk, rd_key rdk hkd, eD5, by rw [← rkv_len ra]; omega, ρ7, _, putD acc kd (.inl kk) (gc st2 y st5).1, putK av kk v, (xb.trans (xa.trans x7)).beside hD hm, hD7, upd_same, ?_, Nat.le_trans (putD_len _ _ _ _) (by omega), rs7.beside hD7 hm, ?_⟩
                · exact rkv_put (Paired.imp (fun _ _ q => ⟨q.1, (q.2.mono (xa.trans x7)).mo (Wk.write hm)⟩) ra) hkd (rd7.mo (Wk.write hm))
                · rw [← hbb]
                  simp only [R.bind_ok, putO, hkd] at p2
                  exact p2
              | _ => rw [hme] at p2; exact p2.elim
            | _ => rw [hmk] at p2; exact p2.elim
        | _ => rw [hmt] at p2; exact p2.elim
    · rw [if_neg hst] at p2; exact p2.elim
  · refine .inl ?_
    rw [List.drop_of_length_le (by omega)] at p2
    unfold dcL at p2
    by_cases hst : it.still st2
    · rw [if_pos hst] at p2
      obtain ⟨_, a2⟩ := ri ρ2 H2 st2 xb.wk rs2 hst i
      refine ⟨a2 (List.getElem?_eq_none (by omega)), ?_⟩
      simp only [R.bind_ok] at p2
      refine p2 (ρ2 ++ [Dd]) H2 (.ref Dd) (xb.adopt hD) (rs2.adoptO hd2 (.inl ⟨av, eD, ra⟩)) ?_
      simp only [RD]
      exact ⟨Dd, rfl, by rw [← rs2.len]; simp⟩
    · rw [if_neg hst] at p2; exact p2.elim
/-! ### written dicts -/
def mPs : List ((Py.Loc → Store → R D) × (Py.Loc → Store → R D)) → Py.Loc → Store → R (List (D × D))
  | [] => fun _ st => .ok [] st
  | (mk, mv) :: r => fun e st => (mk e st).bind fun k st => (mv e st).bind fun v st => (mPs r e st).bind fun ps st => .ok ((k, v) :: ps) st
def RPs (K : PySem.W.Frag) (mg : Str → Option Value) : List Addr → Hp → List (D × D) → List (V × V) → Prop := fun ρ H ps qs => Paired (fun (p : D × D) (q : V × V) => RD K mg ρ H p.1 q.1 ∧ RD K mg ρ H p.2 q.2) ps qs
def foldP : List (D × D) → List (D × D) → Option (List (D × D))
  | acc, [] => some acc
  | acc, (k, v) :: r => (match keyD k with | some q => foldP (putD acc k (.inl q) v) r | none => none)
def mDisp (ms : List ((Py.Loc → Store → R D) × (Py.Loc → Store → R D))) : Py.Loc → Store → R D := fun e st => (mPs ms e st).bind fun ps st => if ps.length ≤ 15 then (match foldP [] ps with | some kvs => .ok (.ref st.length) (st ++ [.dict kvs]) | none => .stuck) else .stuck
theorem tPairs_of : ∀ (ms : List ((Py.Loc → Store → R D) × (Py.Loc → Store → R D))) (σ : L2.St) (H : Hp) (Q : List (V × V) → Hp → Prop), tG X.K X.mg (RPs X.K X.mg) W (mPs ms) σ H Q →
    tPairs (ms.map fun m => (tG X.K X.mg (RD X.K X.mg) W m.1, tG X.K X.mg (RD X.K X.mg) W m.2)) σ H Q
  | [], σ, H, Q, ⟨ρ, e, st, rs, re, p⟩ => p ρ H [] .refl rs .nil
  | (mk, mv) :: r, σ, H, Q, ⟨ρ, e, st, rs, re, p⟩ => by
    refine ⟨ρ, e, st, rs, re, (Post.bind p).imp fun x H1 ⟨k, ρ1, st1, x1, rs1, rd1, p1⟩ => ?_⟩
    refine ⟨ρ1, e, st1, rs1, re.mono x1, (Post.bind p1).imp fun y H2 ⟨v, ρ2, st2, x2, rs2, rd2, p2⟩ => ?_⟩
    refine tPairs_of r σ H2 _ ⟨ρ2, e, st2, rs2, re.mono (x1.trans x2), (Post.bind p2).imp fun ps H3 ⟨ds, ρ3, st3, x3, rs3, rd3, p3⟩ => ?_⟩
    exact p3 ρ3 H3 _ .refl rs3 (.cons ⟨rd1.mono (x2.trans x3), rd2.mono x3⟩ rd3)
theorem foldP_rel {K : PySem.W.Frag} {mg : Str → Option Value} {ρ : List Addr} {H : Hp} : ∀ {ps : List (D × D)} {qs : List (V × V)} {acc kvs : List (D × D)} {ak : List (Key × V)}, RPs K mg ρ H ps qs → RKV K mg ρ H acc ak → foldP acc ps = some kvs →
    ∃ ms : List (Key × V), qs = ms.map (fun kv => (kV kv.1, kv.2)) ∧ RKV K mg ρ H kvs (mergeK ak ms) ∧ ms.length = ps.length
  | _, _, acc, kvs, ak, .nil, ra, e => by cases e; exact ⟨[], rfl, ra, rfl⟩
  | (k, v) :: ps, (x, y) :: qs, acc, kvs, ak, .cons r t, ra, e => by
    simp only [foldP] at e
    split at e
    · rename_i q hq
      obtain ⟨ms, e1, e2, e3⟩ := foldP_rel t (rkv_put ra hq r.2) e
      have ex : x = kV q := rd_key r.1 hq
      exact ⟨(q, y) :: ms, by rw [e1, List.map_cons, ex], e2, by simp [e3]⟩
    · cases e
theorem se_disp {ks : List (Option Expr)} {vs : List Expr} {ms : List ((Py.Loc → Store → R D) × (Py.Loc → Store → R D))} (h : PPs X pos ks vs (ms.map fun m => (tG X.K X.mg (RD X.K X.mg) W m.1, tG X.K X.mg (RD X.K X.mg) W m.2)))
    (hall : ks.all (·.isSome) = true) (hl : ks.length = vs.length) (h0 : ks ≠ []) (h15 : ks.length ≤ 15) : SE X W (.Dict ks vs pos) (mDisp ms) :=
  PE.imp (pe_disp h hall hl h0 h15) fun σ H Q ⟨ρ, e, st, rs, re, p⟩ => by
    intro a ha
    have xn : Ext X.K ρ H ρ (upd H a (.dK [])) := Ext.new ha
    have hna : a ∉ ρ := rs.fresh ha
    refine tPairs_of ms σ _ _ ⟨ρ, e, st, rs.tupnew ha, re.mono xn, ?_⟩
    revert p
    simp only [mDisp]
    cases hm : mPs ms e st with
    | ok ps st1 =>
      intro p ρ1 H1 qs x1 rs1 rp
      simp only [R.bind_ok] at p
      split at p
      · rename_i h15'
        split at p
        · rename_i kvs hf
          have hd1 : a ∉ ρ1 := fun hz => by have := x1.new_ a hz hna; rw [upd_same] at this; cases this
          have eD : H1 a = some (.dK []) := x1.frm _ _ upd_same hna
          obtain ⟨mm, e1, e2, e3⟩ := foldP_rel rp .nil hf
          have hmt : ∀ xs, H1 a ≠ some (.tup xs) := fun xs r => by rw [eD] at r; cases r
          refine ⟨eD, mm, e1, by rw [e3]; exact h15', ?_⟩
          have xx : Ext X.K ρ H ρ1 (upd H1 a (.dK (mergeK [] mm))) := (xn.trans x1).beside ha hmt
          refine p (ρ1 ++ [a]) _ (.ref a) (xx.adopt ha) ((rs1.beside hd1 hmt).adoptO hd1 (.inl ⟨_, upd_same, Paired.imp (fun _ _ q => ⟨q.1, q.2.mo (Wk.write hmt)⟩) e2⟩)) ?_
          simp only [RD]
          exact ⟨a, rfl, by rw [← rs1.len]; simp⟩
        · exact p.elim
      · exact p.elim
    | ex c pl st1 => exact fun p ρ1 H1 cls dd x1 rs1 rx => p ρ1 H1 cls dd (xn.trans x1) rs1 rx
    | stuck => exact fun p => p
def mNewD : Py.Loc → Store → R D := fun _ st => .ok (.ref st.length) (st ++ [.dict []])
theorem se_newD : SE X W (.Dict [] [] pos) mNewD := PE.imp pe_dnewK fun σ H Q ⟨ρ, e, st, rs, re, p⟩ => by
  intro a ha
  refine p _ _ _ (Ext.push ha) (rs.push ha (.inl ⟨[], upd_same, .nil⟩)) ?_
  simp only [RD]
  exact ⟨a, rfl, by rw [← rs.len]; simp⟩
end
end Py

set_option Elab.async false
set_option linter.all false
set_option maxRecDepth 100000
set_option maxHeartbeats 1000000
namespace Py
open L2 PySem PySem.Spec PyProof.Rows
section
variable {X : Cx} {W : WX} {pos p : Pos} {a b e : Expr} {ma mb me : Py.Loc → Store → R D}
/-! ### list(range(..)), tuple(range(..)) -/
def RgO (a b : Int) : Prop := -(2 ^ 62) ≤ a ∧ a < 2 ^ 62 ∧ -(2 ^ 62) ≤ b ∧ b < 2 ^ 62 ∧ (b - a).toNat ≤ 2 ^ 24
def rgD (a b : Int) : List D := (List.range (b - a).toNat).map fun i => D.int (a + (i : Nat))
theorem rgD_rel {K : PySem.W.Frag} {mg : Str → Option Value} {ρ : List Addr} {H : Hp} (a b : Int) : RDs K mg ρ H (rgD a b) (rgV a b) := by
  unfold rgD rgV
  induction (List.range (b - a).toNat) with
  | nil => exact .nil
  | cons i r ih => exact .cons rd_int ih
abbrev RR : List Addr → Hp → Int × Int → Int × Int → Prop := fun _ _ a b => a = b
abbrev SR (X : Cx) (W : WX) (e : Expr) (m : Py.Loc → Store → R (Int × Int)) : Prop := PRg X e (fun σ H Q => tG X.K X.mg RR W m σ H (fun x H1 => Q x.1 x.2 H1))
def mR1 (ma : Py.Loc → Store → R D) : Py.Loc → Store → R (Int × Int) := fun e st => (ma e st).bind fun d st => match d with | .int n => .ok (0, n) st | _ => .stuck
def mR2 (ma mb : Py.Loc → Store → R D) : Py.Loc → Store → R (Int × Int) := fun e st => (ma e st).bind fun d st => (mb e st).bind fun d2 st => match d, d2 with | .int i, .int j => .ok (i, j) st | _, _ => .stuck
theorem PRg.imp {e : Expr} {t t' : L2.St → Hp → (Int → Int → Hp → Prop) → Prop} (h : PRg X e t) (f : ∀ σ H Q, t' σ H Q → t σ H Q) : PRg X e t' := fun pins s σ H Q I q => h pins s σ H Q I (f _ _ _ q)
theorem sr_1 (hg : Gl X "range") (hm : X.mg "range" = none) (ha : SE X W a ma) (na : noStar a = true) : SR X W (.Call (.Name "range" p) [a] [] pos) (mR1 ma) :=
  PRg.imp (prg_1 hg hm ha (noStar_ok na _ _)) fun σ H Q ⟨ρ, e, st, rs, re, p⟩ => by
    refine ⟨ρ, e, st, rs, re, (Post.bind p).imp fun x H1 ⟨d, ρ1, st1, x1, rs1, rd1, p1⟩ => ?_⟩
    cases d with
    | int n => simp only [RD] at rd1; exact ⟨n, rd1, p1 ρ1 H1 (0, n) .refl rs1 rfl⟩
    | _ => exact p1.elim
theorem sr_2 (hg : Gl X "range") (hm : X.mg "range" = none) (ha : SE X W a ma) (hb : SE X W b mb) (na : noStar a = true) (nb : noStar b = true) : SR X W (.Call (.Name "range" p) [a, b] [] pos) (mR2 ma mb) :=
  PRg.imp (prg_2 hg hm ha hb (noStar_ok na _ _) (noStar_ok nb _ _) (noStars_ok (es := [b]) (by simpa using nb) _ _)) fun σ H Q ⟨ρ, e, st, rs, re, p⟩ => by
    refine ⟨ρ, e, st, rs, re, (Post.bind p).imp fun x H1 ⟨d, ρ1, st1, x1, rs1, rd1, p1⟩ => ?_⟩
    refine ⟨ρ1, e, st1, rs1, re.mono x1, (Post.bind p1).imp fun y H2 ⟨d2, ρ2, st2, x2, rs2, rd2, p2⟩ => ?_⟩
    cases d with
    | int i =>
      cases d2 with
      | int j => simp only [RD] at rd1 rd2; exact ⟨i, j, rd1, rd2, p2 ρ2 H2 (i, j) .refl rs2 rfl⟩
      | _ => exact p2.elim
    | _ => exact p2.elim
open Classical in
noncomputable def mLstRg (m : Py.Loc → Store → R (Int × Int)) : Py.Loc → Store → R D := fun e st => (m e st).bind fun r st => if RgO r.1 r.2 then .ok (.ref st.length) (st ++ [.lst (rgD r.1 r.2)]) else .stuck
open Classical in
noncomputable def mTupRg (m : Py.Loc → Store → R (Int × Int)) : Py.Loc → Store → R D := fun e st => (m e st).bind fun r st => if RgO r.1 r.2 then .ok (.tup (rgD r.1 r.2)) st else .stuck
theorem se_lstRg {m : Py.Loc → Store → R (Int × Int)} (hc : X.calm = true) (hg : Gl X "list") (hm : X.mg "list" = none) (he : SR X W e m) (na : noStar e = true) : SE X W (.Call (.Name "list" p) [e] [] pos) (mLstRg m) :=
  PE.imp (pe_listRg hc hg hm he (noStar_ok na _ _)) fun σ H Q ⟨ρ, e, st, rs, re, p⟩ => by
    refine ⟨ρ, e, st, rs, re, (Post.bind p).imp fun x H1 ⟨d, ρ1, st1, x1, rs1, rd1, p1⟩ => ?_⟩
    cases rd1
    split at p1
    · rename_i hr
      refine ⟨hr, fun q hq => ?_⟩
      obtain ⟨a1, a2⟩ := newLst rs1 (rgD_rel x.1 x.2) hq
      exact p1 _ _ _ (Ext.push hq) a1 a2
    · exact p1.elim
theorem se_tupRg {m : Py.Loc → Store → R (Int × Int)} (hc : X.calm = true) (hg : Gl X "tuple") (hm : X.mg "tuple" = none) (he : SR X W e m) (na : noStar e = true) : SE X W (.Call (.Name "tuple" p) [e] [] pos) (mTupRg m) :=
  PE.imp (pe_tupRg hc hg hm he (noStar_ok na _ _)) fun σ H Q ⟨ρ, e, st, rs, re, p⟩ => by
    refine ⟨ρ, e, st, rs, re, (Post.bind p).imp fun x H1 ⟨d, ρ1, st1, x1, rs1, rd1, p1⟩ => ?_⟩
    cases rd1
    split at p1
    · rename_i hr
      refine ⟨hr, fun q hq => ?_⟩
      obtain ⟨a1, a2⟩ := newTup rs1 (rgD_rel x.1 x.2) hq
      exact p1 _ _ _ (Ext.new hq) a1 a2
    · exact p1.elim
/-! ### isinstance of built-in classes -/
def tyName (d : D) (st : Store) : Option String := match d with
  | .non => some "NoneType" | .bl _ => some "bool" | .int _ => some "int" | .str _ => some "str" | .tup _ => some "tuple"
  | .ref n => (match st[n]? with | some (.lst _) => some "list" | some (.frz _) => some "list" | some (.dict _) => some "dict" | _ => none)
  | _ => none
def isT (a b : String) : Bool := decide (a = b) || (decide (a = "bool") && decide (b = "int"))
theorem tyName_at {K : PySem.W.Frag} {mg : Str → Option Value} {ρ : List Addr} {H : Hp} {st : Store} {d : D} {x : V} {t : String} (rs : RS K mg ρ H st) (h : RD K mg ρ H d x) (e : tyName d st = some t) : TyX K H x (.type t) := by
  cases d with
  | non => cases e; simp only [RD] at h; subst h; exact .base .non
  | bl b => cases e; simp only [RD] at h; subst h; exact .base (.bl b)
  | int b => cases e; simp only [RD] at h; subst h; exact .base (.int b)
  | str b => cases e; simp only [RD] at h; subst h; exact .base (.str b)
  | tup ds => cases e; simp only [RD] at h; obtain ⟨a, xs, rfl, h1, _⟩ := h; exact .base (.tup h1)
  | ref n =>
    simp only [RD] at h
    obtain ⟨a, rfl, ha⟩ := h
    simp only [tyName] at e
    split at e
    · rename_i ds h'
      cases e
      obtain ⟨vs, h1, h2⟩ := rs.ob n a _ ha h'
      exact .base (.lst h1)
    · rename_i ds h'
      cases e
      obtain ⟨o, vs, h1, h2⟩ := rs.ob n a _ ha h'
      exact .base (.frz h1)
    · rename_i ds h'
      cases e
      rcases rs.ob n a _ ha h' with ⟨ks, q, r⟩ | ⟨⟨ks, q, r⟩, ne⟩
      · exact .base (.dK q)
      · exact .base (.dT q)
    · cases e
  | _ => cases e
def tyIn : List String := ["NoneType", "bool", "int", "str", "tuple", "list", "dict"]
def tyOf : List String := ["bool", "int", "str", "tuple", "list", "dict"]
theorem kitAll : ∀ t ∈ tyIn, ∀ c ∈ tyOf, kitB t c = some (isT t c) := by decide +kernel
theorem tyName_in {d : D} {st : Store} {t : String} (e : tyName d st = some t) : t ∈ tyIn := by
  unfold tyName at e
  split at e
  · cases e; decide
  · cases e; decide
  · cases e; decide
  · cases e; decide
  · cases e; decide
  · split at e
    · cases e; decide
    · cases e; decide
    · cases e; decide
    · cases e
  · cases e
def mIsi (ma : Py.Loc → Store → R D) (cs : List String) : Py.Loc → Store → R D := fun e st => (ma e st).bind fun d st => match tyName d st with | some t => .ok (.bl (cs.any fun c => isT t c)) st | none => .stuck
/-- a name of a built-in class -/
def TyNm (X : Cx) (e : Expr) (c : String) : Prop := ∃ p, e = .Name (Str.ofString c) p ∧ c ∈ tyOf ∧ Gl X (Str.ofString c) ∧ X.mg (Str.ofString c) = none
theorem boot_ty : ∀ c ∈ tyOf, bootBuiltins (Str.ofString c) = some (.type c) ∧ Str.ofString c ≠ "__name__" ∧ (Str.ofString c == ("__debug__" : Str)) = false := by decide +kernel
theorem TyNm.pe {e : Expr} {c : String} (h : TyNm X e c) : PE X e (tC (.ty c)) := by
  obtain ⟨p, rfl, hc, hg, hm⟩ := h
  obtain ⟨h1, h2, h3⟩ := boot_ty c hc
  exact pe_bltn hg hm h1 rfl h2 h3
theorem TyNm.ns {e : Expr} {c : String} (h : TyNm X e c) : noStar e = true := by obtain ⟨p, rfl, _⟩ := h; rfl
theorem se_isi {c : Expr} {cn : String} (hg : Gl X "isinstance") (hm : X.mg "isinstance" = none) (ha : SE X W a ma) (hc : TyNm X c cn) (na : noStar a = true) : SE X W (.Call (.Name "isinstance" p) [a, c] [] pos) (mIsi ma [cn]) :=
  PE.imp (pe_callB call_isi hg hm (by decide +kernel) (pa_cons ha (pa_cons hc.pe pa_nil (noStar_ok hc.ns _ _)) (noStar_ok na _ _)) (by decide) (by decide) (noStar_ok na _ _) (noStars_ok (es := [c]) (by simpa using hc.ns) _ _)) fun σ H Q ⟨ρ, e, st, rs, re, p⟩ => by
    refine ⟨ρ, e, st, rs, re, (Post.bind p).imp fun x H1 ⟨d, ρ1, st1, x1, rs1, rd1, p1⟩ => ?_⟩
    split at p1
    · rename_i t ht
      obtain ⟨_, _, hcn, _, _⟩ := hc
      refine ⟨x, .ty cn, .type t, .type cn, isT t cn, rfl, .ty cn, tyName_at rs1 rd1 ht, kit_ty (kitAll t (tyName_in ht) cn hcn), ?_⟩
      have := p1 ρ1 H1 (.bl (isT t cn)) .refl rs1 (by simpa using rd_bl)
      exact this
    · exact p1.elim
theorem kitAny_ty {K : PySem.W.Frag} {t : String} (ht : t ∈ tyIn) : ∀ cs : List String, (∀ c ∈ cs, c ∈ tyOf) → PySem.W.kitAny K (.type t) (cs.map .type) = some (cs.any fun c => isT t c)
  | [], _ => rfl
  | c :: cs, h => by
    refine kitAny_cons (kit_ty (kitAll t ht c (h c List.mem_cons_self))) (fun hb => ?_) fun hb => ?_
    · rw [kitAny_ty ht cs fun x hx => h x (List.mem_cons_of_mem _ hx), List.any_cons, hb, Bool.false_or]
    · rw [List.any_cons, hb, Bool.true_or]
def TyNms (X : Cx) : List Expr → List String → Prop
  | [], [] => True
  | e :: es, c :: cs => TyNm X e c ∧ TyNms X es cs
  | _, _ => False
def tTys (cs : List String) : TA := fun _ H Q => Q (cs.map V.ty) H
theorem TyNms.pa : ∀ {es : List Expr} {cs : List String}, TyNms X es cs → PA X es (tTys cs)
  | [], [], _ => PA.imp pa_nil fun _ _ _ h => h
  | e :: es, c :: cs, h => PA.imp (pa_cons h.1.pe (TyNms.pa h.2) (noStar_ok h.1.ns _ _)) fun _ _ _ h => h
  | [], _ :: _, h => h.elim
  | _ :: _, [], h => h.elim
theorem TyNms.all : ∀ {es : List Expr} {cs : List String}, TyNms X es cs → ∀ c ∈ cs, c ∈ tyOf
  | [], [], _ => fun c hc => by cases hc
  | e :: es, c :: cs, h => fun x hx => by
    rcases List.mem_cons.mp hx with rfl | hx
    · obtain ⟨_, _, hc, _⟩ := h.1; exact hc
    · exact TyNms.all h.2 x hx
  | [], _ :: _, h => h.elim
  | _ :: _, [], h => h.elim
theorem pair_ty : ∀ cs : List String, Paired ClsV (cs.map V.ty) (cs.map Value.type)
  | [] => .nil
  | c :: cs => .cons (.ty c) (pair_ty cs)
theorem se_isiT {es : List Expr} {k : Nat} {pt : Pos} {cs : List String} (hg : Gl X "isinstance") (hm : X.mg "isinstance" = none) (ha : SE X W a ma) (hc : TyNms X es cs) (hl : cs.length ≤ 100) (na : noStar a = true) : SE X W (.Call (.Name "isinstance" p) [a, .Tuple es k pt] [] pos) (mIsi ma cs) :=
  PE.imp (pe_callB call_isiT hg hm (by decide +kernel) (pa_cons ha (pa_cons (pe_tup hc.pa) pa_nil (noStar_ok rfl _ _)) (noStar_ok na _ _)) (by decide) (by decide) (noStar_ok na _ _) (noStars_ok (es := [.Tuple es k pt]) rfl _ _)) fun σ H Q ⟨ρ, e, st, rs, re, p⟩ => by
    refine ⟨ρ, e, st, rs, re, (Post.bind p).imp fun x H1 ⟨d, ρ1, st1, x1, rs1, rd1, p1⟩ => ?_⟩
    split at p1
    · rename_i t ht
      refine ⟨by rw [List.length_map]; exact Nat.le_of_lt (small1000 (by omega)), fun q hq => ?_⟩
      have xn : Ext X.K ρ1 H1 ρ1 (upd H1 q (.tup (cs.map V.ty))) := Ext.new hq
      exact ⟨x, q, cs.map V.ty, .type t, cs.map .type, cs.any fun c => isT t c, rfl, upd_same, pair_ty cs, tyName_at (rs1.tupnew hq) (rd1.mono xn) ht, kitAny_ty (tyName_in ht) cs hc.all, p1 _ _ _ xn (rs1.tupnew hq) rd_bl⟩
    · exact p1.elim
/-! ### methods of lists, of texts -/
def noCall : Expr → Bool
  | .Call .. => false
  | _ => true
theorem attrB_ok {o : Expr} (h : noCall o = true) (n : Str) (env : PySem.Env) : attributeBase o n env (eval o env) = eval o env := by
  cases o with
  | Call => exact absurd h (by simp [noCall])
  | _ => rfl
def isLst (d : D) (st : Store) : Bool := match d with | .ref n => (match st[n]? with | some (.lst _) => true | _ => false) | _ => false
def mMt (f : D → List D → Store → Option (D × Store)) (mo : Py.Loc → Store → R D) (m : Py.Loc → Store → R (List D)) : Py.Loc → Store → R D := fun e st => (mo e st).bind fun o st => if isLst o st = true then (m e st).bind fun ds st => ofO (f o ds st) else .stuck
theorem isLst_ty {K : PySem.W.Frag} {mg : Str → Option Value} {ρ : List Addr} {H : Hp} {st : Store} {d : D} {x : V} (rs : RS K mg ρ H st) (h : RD K mg ρ H d x) (e : isLst d st = true) : tyV K "list" x H := by
  cases d with
  | ref n =>
    simp only [isLst] at e
    split at e
    · rename_i ds h'
      obtain ⟨a, vs, rfl, _, h1, h2⟩ := lst_at rs h h'
      exact .inl ⟨rfl, _, .of h1⟩
    · cases e
  | _ => cases e
theorem few_ok {e : Expr} (h : noStar e = true) (pos : Pos) (env : PySem.Env) : ((backTo pos (starEach [e] env)).all (fun x => !x.1) && (backToKw pos (keywordEach [] env)).all (fun x => x.1.isSome)
      && decide (([e] : List Expr).length + ([] : List Keyword).length + (if ([] : List Keyword).isEmpty then 0 else 1) < 30)) = true := by
  rw [noStar_ok h]
  rfl
theorem se_mtL {o : Expr} {name : Str} {id : String} {ap : Pos} {f : D → List D → Store → Option (D × Store)} {mo : Py.Loc → Store → R D} {m : Py.Loc → Store → R (List D)} (slot : Slot "list" name id) (hty : typeOf (.builtin id) = pure (.type "method_descriptor")) (hm : MtR X id (rM X.K X.mg f))
    (ho : SE X W o mo) (ha : SA X W [e] m) (hb : noCall o = true) (hs : noStar e = true) (hline : (ap.endLine == pos.line) = true) : SE X W (.Call (.Attribute o name ap) [e] [] pos) (mMt f mo m) := by
  exact PE.imp (pe_bm PySem.F.plainAttrs_list slot hty hm ho ha (attrB_ok hb _ _) (few_ok hs _ _) hline (noStar_ok hs _ _) (noStars_ok (es := []) rfl _ _)) fun σ H Q ⟨ρ, e, st, rs, re, p⟩ => by
    refine ⟨ρ, e, st, rs, re, (Post.bind p).imp fun x H1 ⟨d, ρ1, st1, x1, rs1, rd1, p1⟩ => ?_⟩
    split at p1
    · rename_i hl
      refine ⟨isLst_ty rs1 rd1 hl, ρ1, e, st1, rs1, re.mono x1, (Post.bind p1).imp fun y H2 ⟨d2, ρ2, st2, x2, rs2, rd2, p2⟩ => ?_⟩
      exact ⟨ρ2, st2, d, d2, rs2, rd1.mono x2, rd2, p2.toO⟩
    · exact p1.elim
theorem se_mtL0 {o : Expr} {name : Str} {id : String} {ap : Pos} {f : D → List D → Store → Option (D × Store)} {mo : Py.Loc → Store → R D} (slot : Slot "list" name id) (hty : typeOf (.builtin id) = pure (.type "method_descriptor")) (hm : MtR X id (rM X.K X.mg f))
    (ho : SE X W o mo) (hb : noCall o = true) (hline : (ap.endLine == pos.line) = true) : SE X W (.Call (.Attribute o name ap) [] [] pos) (mMt f mo mNil) :=
  PE.imp (pe_bm0 PySem.F.plainAttrs_list slot hty hm ho (attrB_ok hb _ _) hline) fun σ H Q ⟨ρ, e, st, rs, re, p⟩ => by
    refine ⟨ρ, e, st, rs, re, (Post.bind p).imp fun x H1 ⟨d, ρ1, st1, x1, rs1, rd1, p1⟩ => ?_⟩
    split at p1
    · rename_i hl
      refine ⟨isLst_ty rs1 rd1 hl, ?_⟩
      simp only [mNil, R.bind_ok] at p1
      exact ⟨ρ1, st1, d, [], rs1, rd1, .nil, p1.toO⟩
    · exact p1.elim
def appD : D → List D → Store → Option (D × Store)
  | .ref n, [d], st => (match st[n]? with | some (.lst ds) => if ds.length < sizeLine then some (.non, st.set n (.lst (ds ++ [d]))) else none | _ => none)
  | _, _, _ => none
theorem ok_app : MtR X "list.append" (rM X.K X.mg appD) := MtR.imp mt_append fun x xs H Q ⟨ρ, st, d, ds, rs, h1, h2, p⟩ => by
  unfold appD at p
  split at p
  · rename_i n d'
    split at p
    · rename_i ds' e
      split at p
      · rename_i hl
        obtain ⟨a, vs, rfl, ha, hH, r⟩ := lst_at rs h1 e
        obtain ⟨y, rfl, h3⟩ := rds_one h2
        refine ⟨a, vs, y, rfl, rfl, hH, by rw [← r.length]; exact hl, ?_⟩
        obtain ⟨w1, w2⟩ := rs.write ha (ho := .lst (vs ++ [y])) (o := .lst (ds' ++ [d'])) ⟨_, upd_same, ((r.append (.cons h3 .nil)).mo (Wk.write fun xs z => by rw [hH] at z; cases z))⟩
        exact p ρ _ _ w2 w1 rd_non
      · exact p.elim
    · exact p.elim
  · exact p.elim
def extD : D → List D → Store → Option (D × Store)
  | .ref n, [.ref m], st => (match st[n]?, st[m]? with | some (.lst ds), some (.lst es) => if ds.length + es.length ≤ sizeLine then some (.non, st.set n (.lst (ds ++ es))) else none | _, _ => none)
  | _, _, _ => none
theorem ok_ext : MtR X "list.extend" (rM X.K X.mg extD) := MtR.imp mt_extend fun x xs H Q ⟨ρ, st, d, ds, rs, h1, h2, p⟩ => by
  unfold extD at p
  split at p
  · rename_i n m
    split at p
    · rename_i ds' es' e e'
      split at p
      · rename_i hl
        obtain ⟨a, vs, rfl, ha, hH, r⟩ := lst_at rs h1 e
        obtain ⟨y, rfl, h3⟩ := rds_one h2
        obtain ⟨b, us, rfl, hb, hH2, r2⟩ := lst_at rs h3 e'
        refine ⟨a, b, vs, us, rfl, rfl, hH, hH2, by rw [← r.length, ← r2.length]; exact hl, ?_⟩
        obtain ⟨w1, w2⟩ := rs.write ha (ho := .lst (vs ++ us)) (o := .lst (ds' ++ es')) ⟨_, upd_same, ((r.append r2).mo (Wk.write fun xs z => by rw [hH] at z; cases z))⟩
        exact p ρ _ _ w2 w1 rd_non
      · exact p.elim
    · exact p.elim
  · exact p.elim
def popD : D → List D → Store → Option (D × Store)
  | .ref n, [], st => (match st[n]? with | some (.lst ds) => (match ds[ds.length - 1]? with | some d => some (d, st.set n (.lst ds.dropLast)) | none => none) | _ => none)
  | _, _, _ => none
theorem RDs.dropLast {K : PySem.W.Frag} {mg : Str → Option Value} {ρ : List Addr} {H : Hp} {ds : List D} {vs : List V} (h : RDs K mg ρ H ds vs) : RDs K mg ρ H ds.dropLast vs.dropLast := by
  rw [List.dropLast_eq_take, List.dropLast_eq_take, h.length]
  exact h.take _
theorem ok_pop : MtR X "list.pop" (rM X.K X.mg popD) := MtR.imp mt_pop fun x xs H Q ⟨ρ, st, d, ds, rs, h1, h2, p⟩ => by
  unfold popD at p
  split at p
  · rename_i n
    split at p
    · rename_i ds' e
      split at p
      · rename_i d' hd
        obtain ⟨a, vs, rfl, ha, hH, r⟩ := lst_at rs h1 e
        simp only [RDs] at h2
        subst h2
        obtain ⟨y, hy, ry⟩ := r.get hd
        have wk : Wk X.K ρ H ρ (upd H a (.lst vs.dropLast)) := Wk.write fun xs z => by rw [hH] at z; cases z
        refine ⟨a, vs, y, rfl, rfl, hH, by rw [← r.length]; exact hy, ?_⟩
        obtain ⟨w1, w2⟩ := rs.write ha (ho := .lst vs.dropLast) (o := .lst ds'.dropLast) ⟨_, upd_same, r.dropLast.mo wk⟩
        exact p ρ _ _ w2 w1 (ry.mo wk)
      · exact p.elim
    · exact p.elim
  · exact p.elim
/-- sep.join(xs) -/
def joinD : D → List D → Store → Option (D × Store)
  | .str z, [d], st => (match seqOf d st with | some ds => (match strsOf ds with | some ys => if (ys.map (·.length)).sum + ys.length * z.length ≤ 16777216 then some (.str (Txt.join z ys), st) else none | none => none) | none => none)
  | _, _, _ => none
theorem ok_join : MtR X "str.join" (rM X.K X.mg joinD) := MtR.imp mt_join fun x xs H Q ⟨ρ, st, d, ds, rs, h1, h2, p⟩ => by
  unfold joinD at p
  split at p
  · rename_i z d'
    obtain ⟨y, rfl, h3⟩ := rds_one h2
    simp only [RD] at h1
    split at p
    · rename_i ds' e
      split at p
      · rename_i ys e2
        split at p
        · rename_i hl
          obtain ⟨a, vs, rfl, hq, r⟩ := seqOf_at rs h3 e
          rw [strsOf_at r e2] at hq
          exact ⟨z, a, ys, h1, rfl, hq, hl, p.here rs rd_str⟩
        · exact p.elim
      · exact p.elim
    · exact p.elim
  · exact p.elim
def mMtS (f : D → List D → Store → Option (D × Store)) (mo ma : Py.Loc → Store → R D) : Py.Loc → Store → R D := fun e st => (mo e st).bind fun o st => match o with | .str z => (ma e st).bind fun d st => ofO (f (.str z) [d] st) | _ => .stuck
theorem se_mtS {o : Expr} {name : Str} {id : String} {ap : Pos} {f : D → List D → Store → Option (D × Store)} {mo : Py.Loc → Store → R D} (slot : Slot "str" name id) (hty : typeOf (.builtin id) = pure (.type "method_descriptor")) (hm : MtR X id (rM X.K X.mg f))
    (ho : SE X W o mo) (ha : SE X W a ma) (hb : noCall o = true) (hs : noStar a = true) (hline : (ap.endLine == pos.line) = true) : SE X W (.Call (.Attribute o name ap) [a] [] pos) (mMtS f mo ma) :=
  PE.imp (pe_m1 slot hty hm ho ha (noStar_ok hs [] _) (attrB_ok hb _ _) hline) fun σ H Q ⟨ρ, e, st, rs, re, p⟩ => by
    refine ⟨ρ, e, st, rs, re, (Post.bind p).imp fun x H1 ⟨d, ρ1, st1, x1, rs1, rd1, p1⟩ => ?_⟩
    cases d with
    | str z =>
      have g := rd1
      simp only [RD] at rd1
      refine ⟨⟨z, rd1⟩, ρ1, e, st1, rs1, re.mono x1, (Post.bind p1).imp fun y H2 ⟨d2, ρ2, st2, x2, rs2, rd2, p2⟩ => ?_⟩
      exact ⟨ρ2, st2, .str z, [d2], rs2, g.mono x2, .cons rd2 .nil, p2.toO⟩
    | _ => exact p1.elim
end
end Py

set_option Elab.async false
set_option linter.all false
set_option maxRecDepth 100000
set_option maxHeartbeats 1000000
/-! enumerate over a tuple, over a text -/
namespace PySem
theorem pyEnum1_meets {v : Value} {ob : Obj} {G : Heap → Prop} (B : Begins v ob G) : Meets (Builtin.«enumerate.__new__» ⟨[.type "enumerate", v], []⟩) (fun _ R s => G s.heap ∧
    R (.ok (.ret (.ref (s.heap.push ob).objs.size))) { s with heap := (s.heap.push ob).push { cls := .type "enumerate", data := .fields #[.none, .bool false, .ref s.heap.objs.size, rawInt 0, .none, .none] } }) := .of_wp fun prog w A R s h => by
  obtain ⟨hp, g, d, tk, os⟩ := s
  obtain ⟨h1, h⟩ := h
  have hsub := sub_enumerate
  have goIter : ∀ {A' : Around} {E : Value → Shared → Prop} {Q : Value → Shared → Prop}, Q (.ref hp.objs.size) ⟨hp.push ob, g, d, tk, os⟩ → wpAny (model prog w) A' (pyIter v) Q E ⟨hp, g, d, tk, os⟩ := fun q => B.iter prog w _ _ ⟨hp, g, d, tk, os⟩ _ h1 q
  wp_walk using goIter
  refine wpAny_stack_any fun st => wpAny_pure ?_
  split
  · rename_i c _ _ _ _ _
    cases (c == Value.type "enumerate") <;> (wp_walk using goIter; exact ⟨_, rfl, h⟩)
  · wp_walk using goIter
    exact ⟨_, rfl, h⟩
theorem pyEnum1 {prog : Program} {w : World} {A : Around} {E : Value → Shared → Prop} {s : Shared} {v : Value} {ob : Obj} {G : Heap → Prop} {Q : Value → Shared → Prop} (B : Begins v ob G) (h1 : G s.heap)
    (h : ∀ h', IsEnum h' (s.heap.objs.size + 1) s.heap.objs.size 0 .none → h'.get? s.heap.objs.size = some ob → (∀ b u, s.heap.get? b = some u → h'.get? b = some u) → Q (.ref (s.heap.objs.size + 1)) { s with heap := h' }) :
    wpAny (model prog w) A (call (.type "enumerate") [v]) Q E s := by
  refine callType_new F.called_enumerate (by decide) (F.typeCall_enumerate_1 _) (F.newCall_enumerate_1 _) (fun obj => F.args_object_init_2 obj _) F.entry_enumerate_new (pyEnum1_meets B) ⟨h1, ?_⟩
  have hz : (s.heap.push ob).objs.size = s.heap.objs.size + 1 := Heap.size_push ..
  show _ ∧ _
  rw [hz]
  have he : IsEnum ((s.heap.push ob).push { cls := .type "enumerate", data := .fields #[.none, .bool false, .ref s.heap.objs.size, rawInt 0, .none, .none] }) (s.heap.objs.size + 1) s.heap.objs.size 0 .none := by
    have hq := Heap.get?_push_size (s.heap.push ob) (o := { cls := .type "enumerate", data := .fields #[.none, .bool false, .ref s.heap.objs.size, rawInt 0, .none, .none] }) rfl
    rwa [hz] at hq
  exact ⟨⟨_, he, rfl⟩, h _ he (Heap.get?_push_of_some _ (Heap.get?_push_size _ B.free)) fun b u x => Heap.get?_push_of_some _ (Heap.get?_push_of_some _ x)⟩
end PySem
namespace Py
open L2 PySem PySem.Spec PyProof.Rows
/-- the pairs (0, x), (1, y), .. of fixed things -/
def ItE (src : Hp → Prop) (xs : List V) : It :=
  ⟨fun i H => src H ∧ i < xs.length, fun i H v H' => ∃ T x, v = .ref T ∧ H T = none ∧ H' = upd H T (.tup [.int (i : Nat), x]) ∧ xs[i]? = some x, fun i H => src H ∧ xs.length ≤ i⟩
theorem turn_enumG {P : Program} {w : World} {K : PySem.W.Frag} {elts : List Expr} {kk : Nat} {tpos : Pos} (e it : Addr) (hne : e ≠ it) {src : Hp → Prop} {xs : List V} {own : Nat → Heap → Prop}
    (keepOwn : ∀ i h h', own i h → (∀ o, h.get? it = some o → h'.get? it = some o) → own i h') (objOwn : ∀ i h, own i h → ∃ o, h.get? it = some o ∧ ∀ v, o.data ≠ .cell v)
    (draws : ∀ (X : Cx) (pins : List (Addr × Obj)) (s : Shared) (σ : L2.St) (H : Hp), X.prog = P → X.w = w → X.K = K → X.calm = true → Inv X pins σ H s → H e = none → src H → ∀ i, own i s.heap →
      ∃ (fp : List Addr) (Pv : Nat → Value → Prop) (St : Nat → Heap → Prop), Draws P w X.A.in1 it fp xs.length Pv St ∧ e ∉ fp ∧ St i s.heap ∧ (∀ i h, St i h → own i h) ∧ ∀ i v, Pv i v → ∃ x, xs[i]? = some x ∧ RelV x v) :
    Turn P w K (.Tuple elts kk tpos) (ItE src xs) [e, it] e (fun i h => (∃ old, IsEnum h e it ((i : Nat) : Int) old) ∧ own i h ∧ i ≤ xs.length) where
  mem := by simp
  obj := fun i h st b hb => by
    obtain ⟨⟨old, he⟩, ho, _⟩ := st
    have e' : b = e ∨ b = it := by simpa using hb
    rcases e' with z | z
    · rw [z]; exact ⟨_, he, fun v q => nomatch q⟩
    · rw [z]; exact objOwn i h ho
  keep := fun i h h' st k => ⟨let ⟨old, he⟩ := st.1; ⟨old, k e (by simp) _ he⟩, keepOwn i h h' st.2.1 (fun o q => k it (by simp) o q), st.2.2⟩
  item := by
    intro X hP hw hK hc i pins s σ H E I hf st hg
    obtain ⟨⟨old, he⟩, how, _⟩ := st
    obtain ⟨hsrc, hi⟩ := hg
    obtain ⟨fp, Pv, St, D, hef, hst, hSo, hval⟩ := draws X pins s σ H hP hw hK hc I (hf e (by simp)).1 hsrc i how
    subst hP hw hK
    have hel : e < s.heap.objs.size := Heap.lt_size he
    have hil : it < s.heap.objs.size := by obtain ⟨o, q, _⟩ := objOwn i _ how; exact Heap.lt_size q
    refine wpAny_pyNext_enum_itemC D he hst hi hne hef fun u h' tk hPu ho hit' hT hsz hk => ?_
    obtain ⟨x, hx, ru⟩ := hval i u hPu
    refine ⟨_, rfl, wpAny_letOwnedTupleGo_enum (s := { s with heap := h', toks := tk + 1 }) ho fun h'' he' sb => ?_⟩
    have hT2 : h''.get? s.heap.objs.size = some { cls := .type "tuple", data := .seq #[.int i tk, u] } := (sb.2 _ (Nat.ne_of_gt hel)).trans hT
    have new : ObjOk X.prog X.w (upd H s.heap.objs.size (.tup [.int (i : Nat), x])) h'' s.heap.objs.size (.tup [.int (i : Nat), x]) :=
      ⟨by show 2 ≤ sizeLine; decide, [.int i tk, u], .cons ⟨_, rfl⟩ (.cons ru .nil), ⟨_, hT2, rfl, _, rfl⟩⟩
    have I1 : Inv X pins σ (upd H s.heap.objs.size (.tup [.int (i : Nat), x])) { s with heap := h'', toks := tk + 1 } :=
      I.turnedNew (ch := [e, it]) (fun b ob hb q => (sb.2 b (fun z => hb (by simp [z]))).trans (hk b ob (fun z => hb (by simp [z])) (fun z => hb (by simp [z])) q)) hf (Nat.le_refl _) new
    refine ⟨.ref s.heap.objs.size, _, I1, rfl, ⟨_, x, rfl, I.hok.fresh (Nat.le_refl _), rfl, hx⟩, ⟨⟨u, ?_⟩, keepOwn _ _ _ (hSo _ _ hit') (fun o q => (sb.2 it (Ne.symm hne)).trans q), hi⟩, fun b hb => ?_⟩
    · have e1 : ((i + 1 : Nat) : Int) = (i : Int) + 1 := by omega
      rw [e1]; exact he'
    · have hb' : b < s.heap.objs.size := by
        have e' : b = e ∨ b = it := by simpa using hb
        rcases e' with z | z
        · rw [z]; exact hel
        · rw [z]; exact hil
      rw [upd_ne (Nat.ne_of_lt hb')]
      exact (hf b hb).1
  done := by
    intro X hP hw hK hc i pins s σ H E I hf st hg
    obtain ⟨⟨old, he⟩, how, hle⟩ := st
    obtain ⟨hsrc, hi⟩ := hg
    obtain ⟨fp, Pv, St, D, hef, hst, hSo, hval⟩ := draws X pins s σ H hP hw hK hc I (hf e (by simp)).1 hsrc i how
    subst hP hw hK
    obtain ⟨f0, f1, f2, f3, f4, f5⟩ := hf it (by simp)
    have ei : i = xs.length := by omega
    exact wpAny_pyNext_enum_endD D he (by rw [← ei]; exact hst) fun h' eb => ⟨rfl, I.turned (t' := s.toks) (fun b o hb q => eb b o hb q) f0 f1 f3 f4 f5⟩
  self := fun A i s Q E st h => let ⟨⟨_, he⟩, _⟩ := st; wpAny_pyIter_enum he h
section
variable {X : Cx} {tg : Expr}
def iEnumT (K : PySem.W.Frag) (te : TE) : TI := fun σ H R => te σ H fun v H1 => ∃ a xs, v = .ref a ∧ H1 a = some (.tup xs) ∧ R (ItE (fun H => H a = some (.tup xs)) xs) H1
def iEnumS (te : TE) : TI := fun σ H R => te σ H fun v H1 => ∃ z : Str, v = .str z ∧ R (ItE (fun _ => True) (z.cps.toList.map fun c => V.str ⟨#[c]⟩)) H1
theorem pi_enumT {e : Expr} {te : TE} {p pos tpos : Pos} {elts : List Expr} {kk : Nat} (hg : Gl X "enumerate") (hm : X.mg "enumerate" = none) (he : PE X e te) (hs : noStar e = true) : PI X (.Tuple elts kk tpos) (.Call (.Name "enumerate" p) [e] [] pos) (iEnumT X.K te) := by
  refine ⟨fun pins s σ H R I h => ?_⟩
  refine Call_ (ld_blt I hg hm boot_enumerate (PyProof.Rows.callWith_type1 (args_cons (thn (he.run pins s σ H _ I h) fun u s1 ⟨v, H1, I1, r1, q1⟩ => args_nil ?_) (noStar_ok hs _ _)) (noStar_ok hs _ _)))
  obtain ⟨a, xs, rfl, hq, q⟩ := q1
  cases r1
  obtain ⟨its, rv, p', hz⟩ := I1.tuple (.of hq)
  refine pyEnum1 (begins_tuple a its.toArray) (show s1.heap.IsTuple a its.toArray from p') fun h' hen hit hk => wpAny_pyIter_enum hen ?_
  have I2 : Inv X pins σ H1 { s1 with heap := h' } := I1.kept (t' := s1.toks) hk
  refine ⟨s1.heap.objs.size + 1, [s1.heap.objs.size + 1, s1.heap.objs.size], _, _, H1, rfl, I2, turn_enumG (s1.heap.objs.size + 1) s1.heap.objs.size (Nat.succ_ne_self _) (own := fun i h => h.IsTupleIter s1.heap.objs.size a i)
    (fun i h h2 st k => st.at k) (fun i h st => ?_) (fun X' pins' s' σ' H' hP hw hK hc I' hne hsrc i st => ?_), ⟨⟨.none, hen⟩, ⟨_, hit, rfl, rfl⟩, Nat.zero_le _⟩, fun b hb => ?_, q⟩
  · obtain ⟨o, e1, c, d⟩ := st
    exact ⟨o, e1, fun v z => by rw [d] at z; cases z⟩
  · obtain ⟨its', rv', p2, _⟩ := I'.tuple (.of hsrc)
    have hin : X'.A.in1.handled = none := I'.ok.hd hc
    have ha1 : a ≠ s1.heap.objs.size := by have := p'.lt; exact Nat.ne_of_lt this
    have D := Draws.tuple (prog := X.prog) (w := X.w) (A := X'.A.in1) hin s1.heap.objs.size a ha1 its'.toArray
    have hl : its'.toArray.size = xs.length := by rw [List.size_toArray, rv'.length]
    rw [hl] at D
    refine ⟨_, _, _, D, fun hm => ?_, ⟨st, show s'.heap.IsTuple a its'.toArray from p2⟩, fun i h q => q.1, fun i v hv => ?_⟩
    · rcases List.mem_cons.mp hm with z | z
      · exact Nat.succ_ne_self _ z
      · rcases List.mem_cons.mp z with z | z
        · rw [z, hsrc] at hne; cases hne
        · cases z
    · have hv' : its'[i]? = some v := by simpa using hv
      cases hx : xs[i]? with
      | none => have := rv'.none_of hx; rw [hv'] at this; cases this
      | some x =>
        obtain ⟨u, hu, ru⟩ := rv'.get hx
        rw [hv'] at hu; cases hu
        exact ⟨x, rfl, ru⟩
  · have hle : s1.heap.objs.size ≤ b := by
      have e' : b = s1.heap.objs.size + 1 ∨ b = s1.heap.objs.size := by simpa using hb
      rcases e' with z | z
      · rw [z]; exact Nat.le_add_right _ _
      · rw [z]; exact Nat.le_refl _
    exact I1.fpOk hle (I1.hok.fresh hle)
theorem pi_enumS {e : Expr} {te : TE} {p pos tpos : Pos} {elts : List Expr} {kk : Nat} (hg : Gl X "enumerate") (hm : X.mg "enumerate" = none) (he : PE X e te) (hs : noStar e = true) : PI X (.Tuple elts kk tpos) (.Call (.Name "enumerate" p) [e] [] pos) (iEnumS te) := by
  refine ⟨fun pins s σ H R I h => ?_⟩
  refine Call_ (ld_blt I hg hm boot_enumerate (PyProof.Rows.callWith_type1 (args_cons (thn (he.run pins s σ H _ I h) fun u s1 ⟨v, H1, I1, r1, q1⟩ => args_nil ?_) (noStar_ok hs _ _)) (noStar_ok hs _ _)))
  obtain ⟨z, rfl, q⟩ := q1
  obtain ⟨t, rfl⟩ := r1
  refine pyEnum1 (begins_text z t) trivial fun h' hen hit hk => wpAny_pyIter_enum hen ?_
  have I2 : Inv X pins σ H1 { s1 with heap := h' } := I1.kept (t' := s1.toks) hk
  refine ⟨s1.heap.objs.size + 1, [s1.heap.objs.size + 1, s1.heap.objs.size], _, _, H1, rfl, I2, turn_enumG (s1.heap.objs.size + 1) s1.heap.objs.size (Nat.succ_ne_self _) (own := fun i h => h.IsStrIter s1.heap.objs.size (strIterType z) z t i)
    (fun i h h2 st k => ?_) (fun i h st => ?_) (fun X' pins' s' σ' H' hP hw hK hc I' hne hsrc i st => ?_), ⟨⟨.none, hen⟩, ⟨_, hit, rfl, rfl⟩, Nat.zero_le _⟩, fun b hb => ?_, q⟩
  · obtain ⟨o, ho, r⟩ := st
    exact ⟨o, k o ho, r⟩
  · obtain ⟨o, e1, c, d⟩ := st
    exact ⟨o, e1, fun v z => by rw [d] at z; cases z⟩
  · have hin : X'.A.in1.handled = none := I'.ok.hd hc
    have D := Draws.text (prog := X.prog) (w := X.w) (A := X'.A.in1) hin s1.heap.objs.size z t
    have hl : z.cps.size = (z.cps.toList.map fun c => V.str ⟨#[c]⟩).length := by simp
    rw [hl] at D
    refine ⟨_, _, _, D, fun hm => ?_, st, fun i h q => q, fun i v hv => ?_⟩
    · rcases List.mem_cons.mp hm with z | z
      · exact Nat.succ_ne_self _ z
      · cases z
    · obtain ⟨c, u, hc', rfl⟩ := hv
      refine ⟨.str ⟨#[c]⟩, ?_, u, rfl⟩
      rw [List.getElem?_map, Array.getElem?_toList, hc']
      rfl
  · have hle : s1.heap.objs.size ≤ b := by
      have e' : b = s1.heap.objs.size + 1 ∨ b = s1.heap.objs.size := by simpa using hb
      rcases e' with z | z
      · rw [z]; exact Nat.le_add_right _ _
      · rw [z]; exact Nat.le_refl _
    exact I1.fpOk hle (I1.hok.fresh hle)
end
end Py

set_option Elab.async false
set_option linter.all false
set_option maxRecDepth 100000
set_option maxHeartbeats 1000000
namespace Py
open L2 PySem PySem.Spec PyProof.Rows
/-! ### what a loop walks -/
/-- the items of a list or tuple, and what must stand -/
def stillD : D → List D → Store → Prop
  | .ref n, ds, st => getL st n = some ds
  | _, _, _ => True
def isT' : D → Bool | .tup _ => true | .kt _ => true | _ => false
section
variable {K : PySem.W.Frag} {mg : Str → Option Value} {ρ : List Addr} {H : Hp} {st : Store}
/-- the walked thing stands at a for good -/
theorem walk_at {d : D} {v : V} {ds : List D} (rs : RS K mg ρ H st) (h : RD K mg ρ H d v) (e : seqOf d st = some ds) :
    ∃ a, v = .ref a ∧ (isT' d = true → ∃ vs, SqT K H a vs) ∧ (isT' d = false → ∃ vs, SqL K H a vs) ∧ ∀ ρ' H' st', Wk K ρ H ρ' H' → RS K mg ρ' H' st' → stillD d ds st' → ∃ vs, RDs K mg ρ' H' ds vs ∧ (isT' d = true → SqT K H' a vs) ∧ (isT' d = false → SqL K H' a vs) := by
  cases d with
  | tup es =>
    cases e
    obtain ⟨a, vs, rfl, h1, h2⟩ := tup_at h rfl
    refine ⟨a, rfl, fun _ => ⟨vs, h1⟩, fun z => (nomatch z), fun ρ' H' st' x rs' _ => ?_⟩
    simp only [RD] at h
    obtain ⟨a', xs, e1, s, r⟩ := h
    cases e1
    exact ⟨xs, r.mo x, fun _ => .of (x.tup _ _ s), fun z => (nomatch z)⟩
  | kt es =>
    cases e
    simp only [RD] at h
    obtain ⟨a, xs, o, its, n, rfl, h1, h2⟩ := h
    exact ⟨a, rfl, fun _ => ⟨xs, .inr ⟨o, its, n, h1⟩⟩, fun z => (nomatch z), fun ρ' H' st' x rs' _ => ⟨xs, h2.mo x, fun _ => .inr ⟨o, its, n, h1⟩, fun z => (nomatch z)⟩⟩
  | kl es =>
    cases e
    simp only [RD] at h
    obtain ⟨a, xs, o, its, n, rfl, h1, h2⟩ := h
    exact ⟨a, rfl, fun z => (nomatch z), fun _ => ⟨xs, .inr ⟨o, its, n, h1⟩⟩, fun ρ' H' st' x rs' _ => ⟨xs, h2.mo x, fun z => (nomatch z), fun _ => .inr ⟨o, its, n, h1⟩⟩⟩
  | ref n =>
    obtain ⟨a, vs, rfl, ha, h1, h2⟩ := seq_at rs h e
    refine ⟨a, rfl, fun z => (nomatch z), fun _ => ⟨vs, h1⟩, fun ρ' H' st' x rs' hs => ?_⟩
    obtain ⟨a', vs', e1, ha', h1', h2'⟩ := seq_at rs' (h.mo x) hs
    cases e1
    exact ⟨vs', h2', fun z => (nomatch z), fun _ => h1'⟩
  | _ => cases e
end
def itD (d : D) (st : Store) : Option Iter := match d with
  | .str z => some ⟨z.cps.toList.map fun c => .str ⟨#[c]⟩, fun _ => True⟩
  | d => (seqOf d st).map fun ds => ⟨ds, stillD d ds⟩
def mIt (me : Py.Loc → Store → R D) : Py.Loc → Store → R Iter := fun e st => (me e st).bind fun d st => match itD d st with | some it => .ok it st | none => .stuck
section
variable {X : Cx} {W : WX} {tg e : Expr} {me : Py.Loc → Store → R D} {p pos : Pos}
theorem ri_list {d : D} {v : V} {ds : List D} {ρ : List Addr} {H : Hp} {st : Store} {a : Addr} (h : ∀ ρ' H' st', Wk X.K ρ H ρ' H' → RS X.K X.mg ρ' H' st' → stillD d ds st' → ∃ vs, RDs X.K X.mg ρ' H' ds vs ∧ SqL X.K H' a vs) : RI X.K X.mg ρ H ⟨ds, stillD d ds⟩ (Itl X.K a) := by
  intro ρ' H' st' x rs hs i
  obtain ⟨vs, r, hq⟩ := h ρ' H' st' x rs hs
  refine ⟨fun y hy => ?_, fun hn => ⟨vs, hq, ?_⟩⟩
  · obtain ⟨u, hu, ru⟩ := r.get hy
    refine ⟨⟨vs, u, hq, hu⟩, fun z H'' ⟨e1, k⟩ => ?_⟩
    subst e1
    have := k vs hq
    rw [hu] at this; cases this
    exact ⟨.refl, rs, ru⟩
  · rw [← r.length]; exact List.getElem?_eq_none_iff.mp hn
theorem ri_tup {d : D} {v : V} {ds : List D} {ρ : List Addr} {H : Hp} {st : Store} {a : Addr} (h : ∀ ρ' H' st', Wk X.K ρ H ρ' H' → RS X.K X.mg ρ' H' st' → stillD d ds st' → ∃ vs, RDs X.K X.mg ρ' H' ds vs ∧ SqT X.K H' a vs) : RI X.K X.mg ρ H ⟨ds, stillD d ds⟩ (Itt X.K a) := by
  intro ρ' H' st' x rs hs i
  obtain ⟨vs, r, hq⟩ := h ρ' H' st' x rs hs
  refine ⟨fun y hy => ?_, fun hn => ⟨vs, hq, ?_⟩⟩
  · obtain ⟨u, hu, ru⟩ := r.get hy
    refine ⟨⟨vs, u, hq, hu⟩, fun z H'' ⟨e1, k⟩ => ?_⟩
    subst e1
    have := k vs hq
    rw [hu] at this; cases this
    exact ⟨.refl, rs, ru⟩
  · rw [← r.length]; exact List.getElem?_eq_none_iff.mp hn
theorem ri_str {z : Str} {ρ : List Addr} {H : Hp} : RI X.K X.mg ρ H ⟨z.cps.toList.map fun c => .str ⟨#[c]⟩, fun _ => True⟩ (Its z) := by
  intro ρ' H' st' x rs hs i
  refine ⟨fun y hy => ?_, fun hn => ?_⟩
  · rw [List.getElem?_map, Array.getElem?_toList] at hy
    cases hc : z.cps[i]? with
    | none => rw [hc] at hy; cases hy
    | some c =>
      rw [hc] at hy; cases hy
      refine ⟨(Array.getElem?_eq_some_iff.mp hc).1, fun w H'' ⟨e1, c', hc', e2⟩ => ?_⟩
      subst e1 e2
      rw [hc] at hc'; cases hc'
      exact ⟨.refl, rs, by simp only [RD]⟩
  · show z.cps.size ≤ i; simpa using hn
/-- a value, walked -/
theorem pi_any {W : WX} (he : SE X W e me) : SI X W tg e (mIt me) := by
  refine ⟨fun pins s σ H R I h => ?_⟩
  obtain ⟨ρ, e1, st, rs, re, p⟩ := h
  refine thn (he.run pins s σ H _ I ⟨ρ, e1, st, rs, re, Post.bind p⟩) fun v s1 ⟨x, H1, I1, r1, d, ρ1, st1, x1, rs1, rd1, p1⟩ => ?_
  by_cases hstr : ∃ z, d = .str z
  · obtain ⟨z, rfl⟩ := hstr
    have p2 := p1 ρ1 H1 (Its z) .refl rs1 ri_str
    simp only [RD] at rd1
    subst rd1
    obtain ⟨t, rfl⟩ := r1
    cases ha : z.cps.all (· < 128)
    · exact wpAny_pyIter_wide ha (pi_one (tk := s1.toks) I1 _ (turn_str _ z t "str_iterator" (.inr rfl)) ⟨_, Heap.get?_push_size _ rfl, rfl, rfl⟩ p2)
    · exact wpAny_pyIter_ascii ha (pi_one (tk := s1.toks) I1 _ (turn_str _ z t "str_ascii_iterator" (.inl rfl)) ⟨_, Heap.get?_push_size _ rfl, rfl, rfl⟩ p2)
  · have e2 : itD d st1 = (seqOf d st1).map fun ds => ⟨ds, stillD d ds⟩ := by
      cases d <;> first | rfl | exact absurd ⟨_, rfl⟩ hstr
    rw [e2] at p1
    cases hs : seqOf d st1 with
    | none => rw [hs] at p1; exact p1.elim
    | some ds =>
      rw [hs] at p1
      simp only [Option.map_some] at p1
      obtain ⟨a, rfl, hT, hL, hw⟩ := walk_at rs1 rd1 hs
      cases r1
      cases hk : isT' d with
      | true =>
        obtain ⟨vs0, hq⟩ := hT hk
        have p2 := p1 ρ1 H1 (Itt X.K a) .refl rs1 (ri_tup (v := .ref a) (st := st1) fun ρ' H' st' x rs hs => let ⟨vs, r, q, _⟩ := hw ρ' H' st' x rs hs; ⟨vs, r, q hk⟩)
        obtain ⟨its, rv, pp, hz⟩ := I1.tuple hq
        refine wpAny_pyIter_tuple (show s1.heap.IsTuple a its.toArray from pp) ?_
        refine ⟨s1.heap.objs.size, [s1.heap.objs.size], _, _, H1, rfl, I1.kept (t' := s1.toks) fun b o e => Heap.get?_push_of_some _ e, turn_tuple a _, ⟨_, Heap.get?_push_size _ rfl, rfl, rfl⟩, fun b hb => ?_, p2⟩
        have e : b = s1.heap.objs.size := by simpa using hb
        subst e
        exact I1.fpOk (Nat.le_refl _) (I1.hok.fresh (Nat.le_refl _))
      | false =>
        obtain ⟨vs0, hq⟩ := hL hk
        have p2 := p1 ρ1 H1 (Itl X.K a) .refl rs1 (ri_list (v := .ref a) (st := st1) fun ρ' H' st' x rs hs => let ⟨vs, r, _, q⟩ := hw ρ' H' st' x rs hs; ⟨vs, r, q hk⟩)
        obtain ⟨its, rv, pp, hz⟩ := I1.list hq
        refine wpAny_pyIter_list pp.isList ?_
        refine ⟨s1.heap.objs.size, [s1.heap.objs.size], _, _, H1, rfl, I1.kept (t' := s1.toks) fun b o e => Heap.get?_push_of_some _ e, turn_list a _, ⟨_, Heap.get?_push_size _ rfl, rfl, rfl⟩, fun b hb => ?_, p2⟩
        have e : b = s1.heap.objs.size := by simpa using hb
        subst e
        exact I1.fpOk (Nat.le_refl _) (I1.hok.fresh (Nat.le_refl _))
end
end Py

set_option Elab.async false
set_option linter.all false
set_option maxRecDepth 100000
set_option maxHeartbeats 1000000
namespace Py
open L2 PySem PySem.Spec PyProof.Rows
section
variable {X : Cx} {W : WX} {tg e a b c : Expr} {me ma mb mc : Py.Loc → Store → R D} {p pos : Pos}
theorem tup_for {K : PySem.W.Frag} {mg : Str → Option Value} {ρ : List Addr} {H : Hp} {d : D} {v : V} {ds : List D} (h : RD K mg ρ H d v) (e : getT d = some ds) : ∃ a vs, v = .ref a ∧ ∀ ρ' H', Wk K ρ H ρ' H' → RDs K mg ρ' H' ds vs ∧ SqT K H' a vs := by
  cases d with
  | tup es =>
    cases e
    simp only [RD] at h
    obtain ⟨a, xs, rfl, h1, h2⟩ := h
    exact ⟨a, xs, rfl, fun ρ' H' x => ⟨h2.mo x, .of (x.tup _ _ h1)⟩⟩
  | kt es =>
    cases e
    simp only [RD] at h
    obtain ⟨a, xs, o, its, n, rfl, h1, h2⟩ := h
    exact ⟨a, xs, rfl, fun ρ' H' x => ⟨h2.mo x, .inr ⟨o, its, n, h1⟩⟩⟩
  | _ => cases e
/-! ### enumerate -/
def enL (ds : List D) : List D := ds.mapIdx fun i d => .tup [.int (i : Nat), d]
theorem enL_get {ds : List D} {i : Nat} {y : D} (h : (enL ds)[i]? = some y) : ∃ d, ds[i]? = some d ∧ y = .tup [.int (i : Nat), d] := by
  unfold enL at h
  rw [List.getElem?_mapIdx] at h
  cases hd : ds[i]? with
  | none => rw [hd] at h; cases h
  | some d => rw [hd] at h; cases h; exact ⟨d, rfl, rfl⟩
theorem enL_none {ds : List D} {i : Nat} (h : (enL ds)[i]? = none) : ds.length ≤ i := by
  have := List.getElem?_eq_none_iff.mp h
  unfold enL at this
  simpa using this
def enD (d : D) (st : Store) : Option Iter := (itD d st).map fun it => ⟨enL it.items, it.still⟩
def mEn (me : Py.Loc → Store → R D) : Py.Loc → Store → R Iter := fun e st => (me e st).bind fun d st => match enD d st with | some it => .ok it st | none => .stuck
theorem pairNew {K : PySem.W.Frag} {mg : Str → Option Value} {ρ : List Addr} {H : Hp} {st : Store} {T : Addr} {u v : V} {d e : D} (rs : RS K mg ρ H st) (hT : H T = none) (h1 : RD K mg ρ H d u) (h2 : RD K mg ρ H e v) :
    Ext K ρ H ρ (upd H T (.tup [u, v])) ∧ RS K mg ρ (upd H T (.tup [u, v])) st ∧ RD K mg ρ (upd H T (.tup [u, v])) (.tup [d, e]) (.ref T) := by
  have xn : Ext K ρ H ρ (upd H T (.tup [u, v])) := Ext.new hT
  refine ⟨xn, rs.tupnew hT, ?_⟩
  simp only [RD]
  exact ⟨T, _, rfl, upd_same, .cons (h1.mono xn) (.cons (h2.mono xn) .nil)⟩
theorem ri_enE {src : Hp → Prop} {xs : List V} {ds : List D} {ρ : List Addr} {H : Hp} {still : Store → Prop} (h : ∀ ρ' H' st', Wk X.K ρ H ρ' H' → RS X.K X.mg ρ' H' st' → still st' → RDs X.K X.mg ρ' H' ds xs ∧ src H') : RI X.K X.mg ρ H ⟨enL ds, still⟩ (ItE src xs) := by
  intro ρ' H' st' x rs hs i
  obtain ⟨r, hq⟩ := h ρ' H' st' x rs hs
  refine ⟨fun y hy => ?_, fun hn => ⟨hq, ?_⟩⟩
  · obtain ⟨d, hd, rfl⟩ := enL_get hy
    obtain ⟨u, hu, ru⟩ := r.get hd
    refine ⟨⟨hq, (List.getElem?_eq_some_iff.mp hu).1⟩, fun z H'' ⟨T, x', e1, hT, e2, e3⟩ => ?_⟩
    subst e1 e2
    rw [hu] at e3; cases e3
    exact pairNew rs hT (by simp only [RD]) ru
  · rw [← r.length]; exact enL_none hn
theorem ri_enL {ds : List D} {ρ : List Addr} {H : Hp} {a : Addr} {still : Store → Prop} (h : ∀ ρ' H' st', Wk X.K ρ H ρ' H' → RS X.K X.mg ρ' H' st' → still st' → ∃ vs, RDs X.K X.mg ρ' H' ds vs ∧ SqL X.K H' a vs) : RI X.K X.mg ρ H ⟨enL ds, still⟩ (Ite X.K a) := by
  intro ρ' H' st' x rs hs i
  obtain ⟨vs, r, hq⟩ := h ρ' H' st' x rs hs
  refine ⟨fun y hy => ?_, fun hn => ⟨vs, hq, ?_⟩⟩
  · obtain ⟨d, hd, rfl⟩ := enL_get hy
    obtain ⟨u, hu, ru⟩ := r.get hd
    refine ⟨⟨vs, u, hq, hu⟩, fun z H'' ⟨T, x', e1, hT, e2, e3⟩ => ?_⟩
    subst e1 e2
    have := e3 vs hq
    rw [hu] at this; cases this
    exact pairNew rs hT (by simp only [RD]) ru
  · rw [← r.length]; exact enL_none hn
theorem rds_str {K : PySem.W.Frag} {mg : Str → Option Value} {ρ : List Addr} {H : Hp} : ∀ l : List Nat, RDs K mg ρ H (l.map fun c => D.str ⟨#[c]⟩) (l.map fun c => V.str ⟨#[c]⟩)
  | [] => .nil
  | c :: l => .cons (by simp only [RD]) (rds_str l)
theorem pi_enumA {tpos : Pos} {elts : List Expr} {kk : Nat} (hg : Gl X "enumerate") (hm : X.mg "enumerate" = none) (he : SE X W e me) (hs : noStar e = true) : SI X W (.Tuple elts kk tpos) (.Call (.Name "enumerate" p) [e] [] pos) (mEn me) := by
  refine ⟨fun pins s σ H R I h => ?_⟩
  obtain ⟨ρ, e1, st, rs, re, p1⟩ := h
  refine Call_ (ld_blt I hg hm boot_enumerate (PyProof.Rows.callWith_type1 (args_cons (thn (he.run pins s σ H _ I ⟨ρ, e1, st, rs, re, Post.bind p1⟩) fun u s1 ⟨v, H1, I1, r1, d, ρ1, st1, x1, rs1, rd1, p1⟩ => args_nil ?_) (noStar_ok hs _ _)) (noStar_ok hs _ _)))
  have fresh2 : ∀ b ∈ [s1.heap.objs.size + 1, s1.heap.objs.size], FpOk X pins H1 b := fun b hb => by
    have hle : s1.heap.objs.size ≤ b := by
      have e' : b = s1.heap.objs.size + 1 ∨ b = s1.heap.objs.size := by simpa using hb
      rcases e' with z | z
      · rw [z]; exact Nat.le_add_right _ _
      · rw [z]; exact Nat.le_refl _
    exact I1.fpOk hle (I1.hok.fresh hle)
  by_cases hstr : ∃ z, d = .str z
  · obtain ⟨z, rfl⟩ := hstr
    have p2 := p1 ρ1 H1 (ItE (fun _ => True) (z.cps.toList.map fun c => V.str ⟨#[c]⟩)) .refl rs1 (ri_enE fun ρ' H' st' x rs' _ => ⟨rds_str _, trivial⟩)
    simp only [RD] at rd1
    subst rd1
    obtain ⟨t, rfl⟩ := r1
    refine pyEnum1 (begins_text z t) trivial fun h' hen hit hk => wpAny_pyIter_enum hen ?_
    have I2 : Inv X pins σ H1 { s1 with heap := h' } := I1.kept (t' := s1.toks) hk
    refine ⟨s1.heap.objs.size + 1, [s1.heap.objs.size + 1, s1.heap.objs.size], _, _, H1, rfl, I2, turn_enumG (s1.heap.objs.size + 1) s1.heap.objs.size (Nat.succ_ne_self _) (own := fun i h => h.IsStrIter s1.heap.objs.size (strIterType z) z t i)
      (fun i h h2 st k => ?_) (fun i h st => ?_) (fun X' pins' s' σ' H' hP hw hK hc I' hne hsrc i st => ?_), ⟨⟨.none, hen⟩, ⟨_, hit, rfl, rfl⟩, Nat.zero_le _⟩, fresh2, p2⟩
    · obtain ⟨o, ho, r⟩ := st
      exact ⟨o, k o ho, r⟩
    · obtain ⟨o, e1, c, d⟩ := st
      exact ⟨o, e1, fun v z => by rw [d] at z; cases z⟩
    · have hin : X'.A.in1.handled = none := I'.ok.hd hc
      have D := Draws.text (prog := X.prog) (w := X.w) (A := X'.A.in1) hin s1.heap.objs.size z t
      have hl : z.cps.size = (z.cps.toList.map fun c => V.str ⟨#[c]⟩).length := by simp
      rw [hl] at D
      refine ⟨_, _, _, D, fun hm => ?_, st, fun i h q => q, fun i v hv => ?_⟩
      · rcases List.mem_cons.mp hm with z | z
        · exact Nat.succ_ne_self _ z
        · cases z
      · obtain ⟨c, u, hc', rfl⟩ := hv
        refine ⟨.str ⟨#[c]⟩, ?_, u, rfl⟩
        rw [List.getElem?_map, Array.getElem?_toList, hc']
        rfl
  · have e2 : itD d st1 = (seqOf d st1).map fun ds => ⟨ds, stillD d ds⟩ := by
      cases d <;> first | rfl | exact absurd ⟨_, rfl⟩ hstr
    simp only [enD] at p1
    rw [e2] at p1
    cases hs : seqOf d st1 with
    | none => rw [hs] at p1; exact p1.elim
    | some ds =>
      rw [hs] at p1
      simp only [Option.map_some] at p1
      cases hk : isT' d with
      | true =>
        have hgt : getT d = some ds := by cases d <;> first | exact hs | cases hk
        obtain ⟨a, xs, rfl, hT⟩ := tup_for rd1 hgt
        cases r1
        have p2 := p1 ρ1 H1 (ItE (fun H => SqT X.K H a xs) xs) .refl rs1 (ri_enE fun ρ' H' st' x rs' _ => hT ρ' H' x)
        obtain ⟨its, rv, p', hz⟩ := I1.tuple (hT ρ1 H1 Wk.refl).2
        have ha : a < s1.heap.objs.size := p'.lt
        refine pyEnum1 (begins_tuple a its.toArray) (show s1.heap.IsTuple a its.toArray from p') fun h' hen hit hk => wpAny_pyIter_enum hen ?_
        have I2 : Inv X pins σ H1 { s1 with heap := h' } := I1.kept (t' := s1.toks) hk
        refine ⟨s1.heap.objs.size + 1, [s1.heap.objs.size + 1, s1.heap.objs.size], _, _, H1, rfl, I2, turn_enumG (s1.heap.objs.size + 1) s1.heap.objs.size (Nat.succ_ne_self _) (own := fun i h => h.IsTupleIter s1.heap.objs.size a i)
          (fun i h h2 st k => st.at k) (fun i h st => ?_) (fun X' pins' s' σ' H' hP hw hK hc I' hne hsrc i st => ?_), ⟨⟨.none, hen⟩, ⟨_, hit, rfl, rfl⟩, Nat.zero_le _⟩, fresh2, p2⟩
        · obtain ⟨o, e1, c, d⟩ := st
          exact ⟨o, e1, fun v z => by rw [d] at z; cases z⟩
        · obtain ⟨its', rv', p2, _⟩ := I'.tuple (by rw [hK]; exact hsrc)
          have hin : X'.A.in1.handled = none := I'.ok.hd hc
          have ha1 : a ≠ s1.heap.objs.size := Nat.ne_of_lt ha
          have D := Draws.tuple (prog := X.prog) (w := X.w) (A := X'.A.in1) hin s1.heap.objs.size a ha1 its'.toArray
          have hl : its'.toArray.size = xs.length := by rw [List.size_toArray, rv'.length]
          rw [hl] at D
          refine ⟨_, _, _, D, fun hm => ?_, ⟨st, show s'.heap.IsTuple a its'.toArray from p2⟩, fun i h q => q.1, fun i v hv => ?_⟩
          · rcases List.mem_cons.mp hm with z | z
            · exact Nat.succ_ne_self _ z
            · rcases List.mem_cons.mp z with z | z
              · exact absurd (z ▸ ha : s1.heap.objs.size + 1 < s1.heap.objs.size) (Nat.not_lt.mpr (Nat.le_succ _))
              · cases z
          · have hv' : its'[i]? = some v := by simpa using hv
            cases hx : xs[i]? with
            | none => have := rv'.none_of hx; rw [hv'] at this; cases this
            | some x =>
              obtain ⟨u, hu, ru⟩ := rv'.get hx
              rw [hv'] at hu; cases hu
              exact ⟨x, rfl, ru⟩
      | false =>
        obtain ⟨a, rfl, _, hL, hw⟩ := walk_at rs1 rd1 hs
        obtain ⟨xs, hq⟩ := hL hk
        cases r1
        have p2 := p1 ρ1 H1 (Ite X.K a) .refl rs1 (ri_enL fun ρ' H' st' x rs' hs' => let ⟨vs, r, _, q⟩ := hw ρ' H' st' x rs' hs'; ⟨vs, r, q hk⟩)
        obtain ⟨its, rv, p', hz⟩ := I1.list hq
        refine call_enumerate_list p'.isList fun h' he hit hsz hk => wpAny_pyIter_enum he ?_
        have I2 : Inv X pins σ H1 { s1 with heap := h' } := I1.kept (t' := s1.toks) hk
        exact ⟨s1.heap.objs.size + 1, [s1.heap.objs.size + 1, s1.heap.objs.size], _, _, H1, rfl, I2, turn_enum a (s1.heap.objs.size + 1) s1.heap.objs.size, ⟨⟨.none, he⟩, hit, Nat.succ_ne_self _⟩, fresh2, p2⟩
/-! ### range -/
def rgDn (a b : Int) : List D := (List.range (a - b).toNat).map fun i => D.int (a - (i : Nat))
def okB (a b : Int) : Bool := decide (-(2 ^ 62) ≤ a ∧ a < 2 ^ 62 ∧ -(2 ^ 62) ≤ b ∧ b < 2 ^ 62)
def rgIt : List D → Option Iter
  | [.int j] => if okB 0 j then some ⟨rgD 0 j, fun _ => True⟩ else none
  | [.int i, .int j] => if okB i j then some ⟨rgD i j, fun _ => True⟩ else none
  | [.int i, .int j, .int c] => if okB i j && decide (c = -1) then some ⟨rgDn i j, fun _ => True⟩ else none
  | _ => none
def mRgs (m : Py.Loc → Store → R (List D)) : Py.Loc → Store → R Iter := fun e st => (m e st).bind fun ds st => match rgIt ds with | some it => .ok it st | none => .stuck
theorem rgD_get {a b : Int} {i : Nat} {y : D} (h : (rgD a b)[i]? = some y) : i < (b - a).toNat ∧ y = .int (a + (i : Nat)) := by
  unfold rgD at h
  rw [List.getElem?_map] at h
  by_cases hi : i < (b - a).toNat
  · rw [List.getElem?_range hi] at h; cases h; exact ⟨hi, rfl⟩
  · rw [List.getElem?_eq_none (by simpa using hi)] at h; cases h
theorem rgD_none {a b : Int} {i : Nat} (h : (rgD a b)[i]? = none) : (b - a).toNat ≤ i := by
  have := List.getElem?_eq_none_iff.mp h
  simpa [rgD] using this
theorem ri_rg {ρ : List Addr} {H : Hp} {a b : Int} : RI X.K X.mg ρ H ⟨rgD a b, fun _ => True⟩ (Itr a (b - a).toNat) := by
  intro ρ' H' st' x rs hs i
  refine ⟨fun y hy => ?_, fun hn => rgD_none hn⟩
  obtain ⟨h1, rfl⟩ := rgD_get hy
  refine ⟨h1, fun z H'' ⟨e1, e2⟩ => ?_⟩
  subst e1 e2
  exact ⟨.refl, rs, by simp only [RD]⟩
theorem ri_rgDn {ρ : List Addr} {H : Hp} {a b : Int} : RI X.K X.mg ρ H ⟨rgDn a b, fun _ => True⟩ (Itc a (-1) (a - b).toNat) := by
  intro ρ' H' st' x rs hs i
  refine ⟨fun y hy => ?_, fun hn => ?_⟩
  · unfold rgDn at hy
    rw [List.getElem?_map] at hy
    by_cases hi : i < (a - b).toNat
    · rw [List.getElem?_range hi] at hy; cases hy
      refine ⟨hi, fun z H'' ⟨e1, e2⟩ => ?_⟩
      subst e1 e2
      refine ⟨.refl, rs, ?_⟩
      simp only [RD]
      congr 1
      omega
    · rw [List.getElem?_eq_none (by simpa using hi)] at hy; cases hy
  · have := List.getElem?_eq_none_iff.mp hn
    show (a - b).toNat ≤ i
    simpa [rgDn] using this
theorem okB_of {a b : Int} (h : okB a b = true) : -(2 ^ 62) ≤ a ∧ a < 2 ^ 62 ∧ -(2 ^ 62) ≤ b ∧ b < 2 ^ 62 := by simpa [okB] using h
variable {m : Py.Loc → Store → R (List D)}
theorem si_rg1 (hg : Gl X "range") (hm : X.mg "range" = none) (ha : SA X W [a] m) (na : noStar a = true) (hl : ∀ e st ds st', m e st = .ok ds st' → ds.length = 1) : SI X W tg (.Call (.Name "range" p) [a] [] pos) (mRgs m) :=
  PI.imp (pi_range1 hg hm ha (noStar_ok na _ _)) fun σ H Q ⟨ρ, e, st, rs, re, p⟩ => by
    refine ⟨ρ, e, st, rs, re, ?_⟩
    have q := Post.bind (Rel := RDs X.K X.mg) p
    revert q
    cases hmm : m e st with
    | ok ds st1 =>
      intro q ρ1 H1 vs x1 rs1 rd1
      obtain ⟨ds', ρ2, st2, x2, rs2, rd2, p2⟩ := q ρ1 H1 vs x1 rs1 rd1
      have hlen := rd2.length.trans rd1.length.symm
      rw [hl _ _ _ _ hmm] at hlen
      match ds', hlen, rd2, p2 with
      | [d], _, rd2, p2 =>
        obtain ⟨u, rfl, r⟩ := rds_one rd2
        cases d with
        | int j =>
          simp only [RD] at r
          subst r
          simp only [rgIt] at p2
          by_cases hb : okB 0 j = true
          · rw [if_pos hb] at p2
            obtain ⟨_, _, b3, b4⟩ := okB_of hb
            have p3 := p2 ρ2 H1 (Itr 0 (j - 0).toNat) .refl rs2 ri_rg
            exact ⟨j, rfl, b3, b4, by simpa using p3⟩
          · rw [if_neg hb] at p2; exact p2.elim
        | _ => exact p2.elim
    | ex c pl st1 => exact fun q => q
    | stuck => exact fun q => q
theorem si_rg2 (hg : Gl X "range") (hm : X.mg "range" = none) (ha : SA X W [a, b] m) (na : noStar a = true) (nb : noStar b = true) (hl : ∀ e st ds st', m e st = .ok ds st' → ds.length = 2) : SI X W tg (.Call (.Name "range" p) [a, b] [] pos) (mRgs m) :=
  PI.imp (pi_range2 hg hm ha (by rw [noStar_ok na, noStar_ok nb]; rfl) (noStar_ok nb _ _)) fun σ H Q ⟨ρ, e, st, rs, re, p⟩ => by
    refine ⟨ρ, e, st, rs, re, ?_⟩
    have q := Post.bind (Rel := RDs X.K X.mg) p
    revert q
    cases hmm : m e st with
    | ok ds st1 =>
      intro q ρ1 H1 vs x1 rs1 rd1
      obtain ⟨ds', ρ2, st2, x2, rs2, rd2, p2⟩ := q ρ1 H1 vs x1 rs1 rd1
      have hlen := rd2.length.trans rd1.length.symm
      rw [hl _ _ _ _ hmm] at hlen
      match ds', hlen, rd2, p2 with
      | [d, d2], _, rd2, p2 =>
        obtain ⟨u, v, rfl, r1, r2⟩ := rds_two rd2
        cases d with
        | int i =>
          cases d2 with
          | int j =>
            simp only [RD] at r1 r2
            subst r1 r2
            simp only [rgIt] at p2
            by_cases hb : okB i j = true
            · rw [if_pos hb] at p2
              exact ⟨i, j, rfl, okB_of hb, p2 ρ2 H1 (Itr i (j - i).toNat) .refl rs2 ri_rg⟩
            · rw [if_neg hb] at p2; exact p2.elim
          | _ => exact p2.elim
        | _ => exact p2.elim
    | ex c pl st1 => exact fun q => q
    | stuck => exact fun q => q
theorem rds_three {K : PySem.W.Frag} {mg : Str → Option Value} {ρ : List Addr} {H : Hp} {d e f : D} {xs : List V} (h : RDs K mg ρ H [d, e, f] xs) : ∃ x y z, xs = [x, y, z] ∧ RD K mg ρ H d x ∧ RD K mg ρ H e y ∧ RD K mg ρ H f z := by
  obtain ⟨x, xs, rfl, h1, h2⟩ := h.uncons
  obtain ⟨y, z, rfl, h3, h4⟩ := rds_two h2
  exact ⟨x, y, z, rfl, h1, h3, h4⟩
theorem si_rg3 (hg : Gl X "range") (hm : X.mg "range" = none) (ha : SA X W [a, b, c] m) (na : noStar a = true) (nb : noStar b = true) (nc : noStar c = true) (hl : ∀ e st ds st', m e st = .ok ds st' → ds.length = 3) : SI X W tg (.Call (.Name "range" p) [a, b, c] [] pos) (mRgs m) :=
  PI.imp (pi_range3 hg hm ha (noStar_ok na _ _) (noStars_ok (es := [b, c]) (by simp [nb, nc]) _ _)) fun σ H Q ⟨ρ, e, st, rs, re, p⟩ => by
    refine ⟨ρ, e, st, rs, re, ?_⟩
    have q := Post.bind (Rel := RDs X.K X.mg) p
    revert q
    cases hmm : m e st with
    | ok ds st1 =>
      intro q ρ1 H1 vs x1 rs1 rd1
      obtain ⟨ds', ρ2, st2, x2, rs2, rd2, p2⟩ := q ρ1 H1 vs x1 rs1 rd1
      have hlen := rd2.length.trans rd1.length.symm
      rw [hl _ _ _ _ hmm] at hlen
      match ds', hlen, rd2, p2 with
      | [d, d2, d3], _, rd2, p2 =>
        obtain ⟨u, v, w, rfl, r1, r2, r3⟩ := rds_three rd2
        cases d with
        | int i =>
          cases d2 with
          | int j =>
            cases d3 with
            | int c =>
              simp only [RD] at r1 r2 r3
              subst r1 r2 r3
              simp only [rgIt] at p2
              by_cases hb : (okB i j && decide (c = -1)) = true
              · rw [if_pos hb] at p2
                simp only [Bool.and_eq_true, decide_eq_true_eq] at hb
                obtain ⟨hb, rfl⟩ := hb
                obtain ⟨b1, b2, b3, b4⟩ := okB_of hb
                exact ⟨i, j, -1, (i - j).toNat, rfl, RgC.neg b1 b2 b3 b4, p2 ρ2 H1 (Itc i (-1) (i - j).toNat) .refl rs2 ri_rgDn⟩
              · rw [if_neg hb] at p2; exact p2.elim
            | _ => exact p2.elim
          | _ => exact p2.elim
        | _ => exact p2.elim
    | ex c pl st1 => exact fun q => q
    | stuck => exact fun q => q
/-! ### zip -/
def zpL (ds es : List D) : List D := List.zipWith (fun a b => .tup [a, b]) ds es
def zpD : List D → Store → Option Iter
  | [d1, d2], st => (match seqOf d1 st, seqOf d2 st with | some ds, some es => if isT' d1 = isT' d2 then some ⟨zpL ds es, fun st' => stillD d1 ds st' ∧ stillD d2 es st'⟩ else none | _, _ => none)
  | _, _ => none
def mZp (m : Py.Loc → Store → R (List D)) : Py.Loc → Store → R Iter := fun e st => (m e st).bind fun ds st => match zpD ds st with | some it => .ok it st | none => .stuck
theorem zpL_get {ds es : List D} {i : Nat} {y : D} (h : (zpL ds es)[i]? = some y) : ∃ a b, ds[i]? = some a ∧ es[i]? = some b ∧ y = .tup [a, b] := by
  unfold zpL at h
  rw [List.getElem?_zipWith] at h
  split at h
  · rename_i a b h1 h2
    cases h
    exact ⟨a, b, h1, h2, rfl⟩
  · cases h
theorem zpL_none {ds es : List D} {i : Nat} (h : (zpL ds es)[i]? = none) : ds.length ≤ i ∨ es.length ≤ i := by
  have := List.getElem?_eq_none_iff.mp h
  simp only [zpL, List.length_zipWith] at this
  omega
theorem ri_zpG {ds es : List D} {ρ : List Addr} {H : Hp} {a b : Addr} {still : Store → Prop} {Sq : Hp → Addr → List V → Prop} {J : It}
    (hgo : ∀ i H, J.go i H = ∃ (xs ys : List V) (x y : V), Sq H a xs ∧ Sq H b ys ∧ xs[i]? = some x ∧ ys[i]? = some y)
    (hyl : ∀ i H v H', J.yld i H v H' = ∃ T x y, v = .ref T ∧ H T = none ∧ H' = upd H T (.tup [x, y]) ∧ (∀ xs, Sq H a xs → xs[i]? = some x) ∧ ∀ ys, Sq H b ys → ys[i]? = some y)
    (hstp : ∀ i H, J.stop i H = ∃ xs ys : List V, Sq H a xs ∧ Sq H b ys ∧ (xs.length ≤ i ∨ ys.length ≤ i))
    (h : ∀ ρ' H' st', Wk X.K ρ H ρ' H' → RS X.K X.mg ρ' H' st' → still st' → ∃ vs us, RDs X.K X.mg ρ' H' ds vs ∧ RDs X.K X.mg ρ' H' es us ∧ Sq H' a vs ∧ Sq H' b us) : RI X.K X.mg ρ H ⟨zpL ds es, still⟩ J := by
  intro ρ' H' st' x rs hs i
  obtain ⟨vs, us, r, r', hq, hq'⟩ := h ρ' H' st' x rs hs
  refine ⟨fun y hy => ?_, fun hn => ?_⟩
  · obtain ⟨d, d', hd, hd', rfl⟩ := zpL_get hy
    obtain ⟨u, hu, ru⟩ := r.get hd
    obtain ⟨u', hu', ru'⟩ := r'.get hd'
    refine ⟨by rw [hgo]; exact ⟨vs, us, u, u', hq, hq', hu, hu'⟩, fun z H'' hz => ?_⟩
    rw [hyl] at hz
    obtain ⟨T, x', y', e1, hT, e2, e3, e4⟩ := hz
    subst e1 e2
    have q3 := e3 vs hq
    have q4 := e4 us hq'
    rw [hu] at q3; cases q3
    rw [hu'] at q4; cases q4
    exact pairNew rs hT ru ru'
  · rw [hstp]
    refine ⟨vs, us, hq, hq', ?_⟩
    rw [← r.length, ← r'.length]
    exact zpL_none hn
theorem si_zip {tpos : Pos} {elts : List Expr} {kk : Nat} (hg : Gl X "zip") (hm : X.mg "zip" = none) (ha : SA X W [a, b] m) (na : noStar a = true) (nb : noStar b = true) (hl : ∀ e st ds st', m e st = .ok ds st' → ds.length = 2) :
    SI X W (.Tuple elts kk tpos) (.Call (.Name "zip" p) [a, b] [] pos) (mZp m) :=
  PI.imp (RZ.pi_zipA hg hm ha (noStar_ok na _ _) (noStars_ok (es := [b]) (by simp [nb]) _ _)) fun σ H Q ⟨ρ, e, st, rs, re, p⟩ => by
    refine ⟨ρ, e, st, rs, re, ?_⟩
    have q := Post.bind (Rel := RDs X.K X.mg) p
    revert q
    cases hmm : m e st with
    | ok ds st1 =>
      intro q ρ1 H1 vs x1 rs1 rd1
      obtain ⟨ds', ρ2, st2, x2, rs2, rd2, p2⟩ := q ρ1 H1 vs x1 rs1 rd1
      have hlen := rd2.length.trans rd1.length.symm
      rw [hl _ _ _ _ hmm] at hlen
      match ds', hlen, rd2, p2 with
      | [d1, d2], _, rd2, p2 =>
        obtain ⟨u, v, rfl, r1, r2⟩ := rds_two rd2
        simp only [zpD] at p2
        cases h1 : seqOf d1 st2 with
        | none => rw [h1] at p2; exact p2.elim
        | some ds =>
          cases h2 : seqOf d2 st2 with
          | none => rw [h1, h2] at p2; exact p2.elim
          | some es =>
            rw [h1, h2] at p2
            simp only at p2
            by_cases hk : isT' d1 = isT' d2
            · rw [if_pos hk] at p2
              obtain ⟨a, rfl, aT, aL, aw⟩ := walk_at rs2 r1 h1
              obtain ⟨b, rfl, bT, bL, bw⟩ := walk_at rs2 r2 h2
              cases hk1 : isT' d1 with
              | true =>
                have hk2 : isT' d2 = true := hk ▸ hk1
                obtain ⟨xs, hx⟩ := aT hk1
                obtain ⟨ys, hy⟩ := bT hk2
                refine ⟨a, b, xs, ys, rfl, .inr ⟨hx, hy, p2 ρ2 H1 _ .refl rs2 (ri_zpG (Sq := SqT X.K) (a := a) (b := b) (fun _ _ => rfl) (fun _ _ _ _ => rfl) (fun _ _ => rfl) fun ρ' H' st' x rs' hs => ?_)⟩⟩
                obtain ⟨vs, q1, q2, _⟩ := aw ρ' H' st' x rs' hs.1
                obtain ⟨us, q3, q4, _⟩ := bw ρ' H' st' x rs' hs.2
                exact ⟨vs, us, q1, q3, q2 hk1, q4 hk2⟩
              | false =>
                have hk2 : isT' d2 = false := hk ▸ hk1
                obtain ⟨xs, hx⟩ := aL hk1
                obtain ⟨ys, hy⟩ := bL hk2
                refine ⟨a, b, xs, ys, rfl, .inl ⟨hx, hy, p2 ρ2 H1 _ .refl rs2 (ri_zpG (Sq := SqL X.K) (a := a) (b := b) (fun _ _ => rfl) (fun _ _ _ _ => rfl) (fun _ _ => rfl) fun ρ' H' st' x rs' hs => ?_)⟩⟩
                obtain ⟨vs, q1, _, q2⟩ := aw ρ' H' st' x rs' hs.1
                obtain ⟨us, q3, _, q4⟩ := bw ρ' H' st' x rs' hs.2
                exact ⟨vs, us, q1, q3, q2 hk1, q4 hk2⟩
            · rw [if_neg hk] at p2; exact p2.elim
    | ex c pl st1 => exact fun q => q
    | stuck => exact fun q => q
/-! ### reversed -/
def rvD (d : D) (st : Store) : Option Iter := match seqOf d st with | some ds => some ⟨ds.reverse, fun st' => stillD d ds st'⟩ | none => none
def mRv (me : Py.Loc → Store → R D) : Py.Loc → Store → R Iter := fun e st => (me e st).bind fun d st => match rvD d st with | some it => .ok it st | none => .stuck
theorem ri_rvG {ds : List D} {ρ : List Addr} {H : Hp} {a : Addr} {n : Nat} {still : Store → Prop} {Sq : Hp → Addr → List V → Prop} {J : It} (hn : n = ds.length)
    (hgo : ∀ i H, J.go i H = (i < n ∧ ∃ (xs : List V) (x : V), Sq H a xs ∧ xs[n - 1 - i]? = some x))
    (hyl : ∀ i H v H', J.yld i H v H' = (H' = H ∧ ∀ xs, Sq H a xs → xs[n - 1 - i]? = some v))
    (hstp : ∀ i H, J.stop i H = (n ≤ i))
    (h : ∀ ρ' H' st', Wk X.K ρ H ρ' H' → RS X.K X.mg ρ' H' st' → still st' → ∃ vs, RDs X.K X.mg ρ' H' ds vs ∧ Sq H' a vs) : RI X.K X.mg ρ H ⟨ds.reverse, still⟩ J := by
  intro ρ' H' st' x rs hs i
  obtain ⟨vs, r, hq⟩ := h ρ' H' st' x rs hs
  subst hn
  refine ⟨fun y hy => ?_, fun hn => ?_⟩
  · have hi : i < ds.length := by have := (List.getElem?_eq_some_iff.mp hy).1; simpa using this
    rw [List.getElem?_reverse hi] at hy
    obtain ⟨u, hu, ru⟩ := r.get hy
    refine ⟨by rw [hgo]; exact ⟨hi, vs, u, hq, hu⟩, fun z H'' hz => ?_⟩
    rw [hyl] at hz
    obtain ⟨e1, k⟩ := hz
    subst e1
    have := k vs hq
    rw [hu] at this; cases this
    exact ⟨.refl, rs, ru⟩
  · rw [hstp]
    have := List.getElem?_eq_none_iff.mp hn
    simpa using this
theorem si_rev (hg : Gl X "reversed") (hm : X.mg "reversed" = none) (ha : SE X W a ma) (na : noStar a = true) : SI X W tg (.Call (.Name "reversed" p) [a] [] pos) (mRv ma) :=
  PI.imp (RT.pi_revA hg hm ha (noStar_ok na _ _)) fun σ H Q ⟨ρ, e, st, rs, re, p⟩ => by
    refine ⟨ρ, e, st, rs, re, (Post.bind p).imp fun v H1 ⟨d, ρ1, st1, x1, rs1, rd1, p1⟩ => ?_⟩
    simp only [rvD] at p1
    cases h1 : seqOf d st1 with
    | none => rw [h1] at p1; exact p1.elim
    | some ds =>
      rw [h1] at p1
      simp only at p1
      obtain ⟨a', vs', rfl, hsq, rds⟩ := seqOf_at rs1 rd1 h1
      obtain ⟨a, e1, aT, aL, aw⟩ := walk_at rs1 rd1 h1
      cases e1
      cases hk : isT' d with
      | true =>
        obtain ⟨xs, q1, q2, _⟩ := aw ρ1 H1 st1 Wk.refl rs1 (by cases d <;> first | trivial | cases hk)
        exact ⟨a', xs, rfl, .inr ⟨q2 hk, p1 ρ1 H1 _ .refl rs1 (ri_rvG (Sq := SqT X.K) (a := a') (n := xs.length) q1.length.symm (fun _ _ => rfl) (fun _ _ _ _ => rfl) (fun _ _ => rfl) fun ρ' H' st' x rs' hs => let ⟨vs, q1, q2, _⟩ := aw ρ' H' st' x rs' hs; ⟨vs, q1, q2 hk⟩)⟩⟩
      | false =>
        obtain ⟨xs, q1, _, q2⟩ := aw ρ1 H1 st1 Wk.refl rs1 (by cases d <;> first | exact h1 | trivial)
        exact ⟨a', xs, rfl, .inl ⟨q2 hk, p1 ρ1 H1 _ .refl rs1 (ri_rvG (Sq := SqL X.K) (a := a') (n := xs.length) q1.length.symm (fun _ _ => rfl) (fun _ _ _ _ => rfl) (fun _ _ => rfl) fun ρ' H' st' x rs' hs => let ⟨vs, q1, _, q2⟩ := aw ρ' H' st' x rs' hs; ⟨vs, q1, q2 hk⟩)⟩⟩
end
end Py

set_option Elab.async false
set_option linter.all false
set_option maxRecDepth 100000
set_option maxHeartbeats 1000000
namespace Py
open L2 PySem PySem.Spec PyProof.Rows
/-! ### [.. for .. in .. for .. in ..] -/
noncomputable def lc2B (tg : Tg) (mt : Py.Loc → Store → R Bool) (mi1 : Py.Loc → Store → R Iter) (tg1 : Tg) (mt1 : Py.Loc → Store → R Bool) (me : Py.Loc → Store → R D) (vs1 : List Nat) (n : Nat) (d : D) (e : Py.Loc) (st : Store) : R (List D) :=
  match bindE tg d e with
  | none => .stuck
  | some e1 => match mt e1 st with
    | .ok false st1 => .ok [] (gc st .non st1).2
    | .ok true st1 => (match mi1 e1 st1 with
      | .ok it1 st2 => if n + it1.items.length ≤ sizeLine then lcL it1.still (fun d st => lcB tg1 mt1 me d (wipeE e1 vs1) st) it1.items st2 else .stuck
      | _ => .stuck)
    | _ => .stuck
open Classical in
noncomputable def lc2L (still : Store → Prop) (b : Nat → D → Store → R (List D)) : List D → Nat → Store → R (List D)
  | [], _, st => if still st then .ok [] st else .stuck
  | d :: ds, n, st => if still st then (b n d st).bind fun xs st => (lc2L still b ds (n + xs.length) st).bind fun r st => .ok (xs ++ r) st else .stuck
noncomputable def mLc2 (mi : Py.Loc → Store → R Iter) (tg : Tg) (mt : Py.Loc → Store → R Bool) (mi1 : Py.Loc → Store → R Iter) (tg1 : Tg) (mt1 : Py.Loc → Store → R Bool) (me : Py.Loc → Store → R D) (vs vs1 : List Nat) : Py.Loc → Store → R D := fun e st =>
  (mi e st).bind fun it st => (lc2L it.still (fun n d st => lc2B tg mt mi1 tg1 mt1 me vs1 n d (wipeE e vs) st) it.items 0 st).bind fun ds st => .ok (.ref st.length) (st ++ [.lst ds])
section
variable {X : Cx} {W : WX} {pos : Pos}
theorem RE.mo {K : PySem.W.Frag} {mg : Str → Option Value} {ρ ρ' : List Addr} {H H' : Hp} {σ : L2.St} {e : Py.Loc} (h : RE K mg ρ H σ e) (x : Wk K ρ H ρ' H') : RE K mg ρ' H' σ e := ⟨h.len, fun i d q => by
  obtain ⟨v, a, b⟩ := h.at_ i d q
  exact ⟨v, a, b.mo x⟩⟩
theorem bind_id {α : Type} : ∀ r : R α, (r.bind fun r st => R.ok r st) = r := fun r => by cases r <;> rfl
theorem bind_assoc {α β γ : Type} (r : R α) (f : α → Store → R β) (g : β → Store → R γ) : (r.bind f).bind g = r.bind fun a st => (f a st).bind g := by cases r <;> rfl
theorem lc2_of {mi mi1 : Py.Loc → Store → R Iter} {tg tg1 : Tg} {mt mt1 : Py.Loc → Store → R Bool} {me : Py.Loc → Store → R D} {vs vs1 : List Nat} (hs : ∀ i ∈ tg.slots, i ∈ vs) (hs1 : ∀ i ∈ tg1.slots, i ∈ vs1) (σ : L2.St) (H : Hp) (Q : VK)
    (h : tG X.K X.mg (RD X.K X.mg) W (mLc2 mi tg mt mi1 tg1 mt1 me vs vs1) σ H Q) :
    tLc2 (tG X.K X.mg (RI X.K X.mg) W mi) (gTg X.K tg) (tG X.K X.mg RB W0 mt) (tG X.K X.mg (RI X.K X.mg) W0 mi1) (gTg X.K tg1) (tG X.K X.mg RB W0 mt1) (tG X.K X.mg (RD X.K X.mg) W0 me) vs vs1 σ H Q := by
  obtain ⟨ρ, e, st, rs, re, p⟩ := h
  refine ⟨ρ, e, st, rs, re, (Post.bind p).imp fun J H1 ⟨it, ρ1, st1, x1, rs1, ri, p1⟩ => ?_⟩
  intro Dd hD
  have rew : RE X.K X.mg ρ1 H1 (wipe σ vs) (wipeE e vs) := (re.mono x1).wipe vs
  have hDn : Dd ∉ ρ1 := rs1.fresh hD
  generalize hbb : (fun n d st => lc2B tg mt mi1 tg1 mt1 me vs1 n d (wipeE e vs) st) = bb at p1
  refine ⟨fun i m H2 => i + m = it.items.length ∧ ∃ ρ2 st2 acc av, Ext X.K ρ1 H1 ρ2 H2 ∧ Dd ∉ ρ2 ∧ H2 Dd = some (.lst av) ∧ RDs X.K X.mg ρ2 H2 acc av ∧ RS X.K X.mg ρ2 H2 st2 ∧
      Post X.K X.mg (RD X.K X.mg) W σ Q ρ1 H1 ((lc2L it.still bb (it.items.drop i) acc.length st2).bind fun ds st => .ok (.ref st.length) (st ++ [.lst (acc ++ ds)])),
    ⟨it.items.length, by omega, ρ1, st1, [], [], Ext.new hD, hDn, upd_same, .nil, rs1.tupnew hD, by simpa using p1⟩, fun i m H2 hW => ?_⟩
  obtain ⟨him, ρ2, st2, acc, av, x2, hd2, eD, ra, rs2, p2⟩ := hW
  have xb : Ext X.K ρ1 H1 ρ2 H2 := x2
  by_cases hil : i < it.items.length
  · refine .inr ?_
    obtain ⟨d, hd⟩ : ∃ d, it.items[i]? = some d := ⟨_, List.getElem?_eq_getElem hil⟩
    rw [List.drop_eq_getElem_cons hil] at p2
    have ed : it.items[i] = d := by rw [List.getElem?_eq_getElem hil] at hd; exact Option.some.inj hd
    rw [ed] at p2
    unfold lc2L at p2
    by_cases hst : it.still st2
    · rw [if_pos hst] at p2
      obtain ⟨a1, _⟩ := ri ρ2 H2 st2 xb.wk rs2 hst i
      obtain ⟨hgo, hy⟩ := a1 d hd
      refine ⟨hgo, fun H3 => ∃ ρ3 st3 acc' av', Ext X.K ρ1 H1 ρ3 H3 ∧ Dd ∉ ρ3 ∧ H3 Dd = some (.lst av') ∧ RDs X.K X.mg ρ3 H3 acc' av' ∧ RS X.K X.mg ρ3 H3 st3 ∧
          Post X.K X.mg (RD X.K X.mg) W σ Q ρ1 H1 ((lc2L it.still bb (it.items.drop (i + 1)) acc'.length st3).bind fun ds st => .ok (.ref st.length) (st ++ [.lst (acc' ++ ds)])),
        fun H3 hN => ⟨m - 1, by omega, by omega, hN⟩, fun x H3 hyl => ?_⟩
      obtain ⟨xa, rsa, rda⟩ := hy x H3 hyl
      have eD3 : H3 Dd = some (.lst av) := xa.frm _ _ eD hd2
      rw [bind_assoc] at p2
      have p2' : Post X.K X.mg (RD X.K X.mg) W σ Q ρ1 H1 ((lc2B tg mt mi1 tg1 mt1 me vs1 acc.length d (wipeE e vs) st2).bind fun xs st => ((lc2L it.still bb (it.items.drop (i + 1)) (acc.length + xs.length) st).bind fun r st => R.ok (xs ++ r) st).bind fun ds st => .ok (.ref st.length) (st ++ [.lst (acc ++ ds)])) := by
        rw [← hbb] at p2 ⊢; exact p2
      simp only [lc2B] at p2'
      cases hbd : bindE tg d (wipeE e vs) with
      | none => rw [hbd] at p2'; exact p2'.elim
      | some e1 =>
        rw [hbd] at p2'
        simp only at p2'
        have rew3 : RE X.K X.mg ρ2 H3 (wipe σ vs) (wipeE e vs) := (rew.mono xb).mono xa
        refine gTg_of hs rew3 rda hbd fun σ2 re2 hw2 => ⟨by rw [hw2]; exact wipe_wipe σ vs, ?_⟩
        refine ⟨ρ2, e1, st2, rsa, re2, ?_⟩
        cases hmt : mt e1 st2 with
        | ok k st4 =>
          rw [hmt] at p2'
          intro ρ4 H4 k' x4 rs4 hk
          cases hk
          have hD4 : Dd ∉ ρ4 := fun hm => by have := x4.new_ Dd hm hd2; rw [eD3] at this; cases this
          have eD4 : H4 Dd = some (.lst av) := x4.frm _ _ eD3 hd2
          cases k with
          | false =>
            rw [if_neg (by decide)]
            simp only at p2'
            obtain ⟨ρ5, x5, rs5, _, _⟩ := gc_sound rsa x4 rs4 (d := .non) (v := .non) (by simp only [RD])
            have hD5 : Dd ∉ ρ5 := fun hm => by have := x5.new_ Dd hm hd2; rw [eD3] at this; cases this
            refine ⟨ρ5, _, acc, av, x2.trans (xa.trans x5), hD5, eD4, ra.mono (xa.trans x5), rs5, ?_⟩
            simp only [R.bind_ok, List.length_nil, Nat.add_zero, List.nil_append] at p2'
            rw [bind_id] at p2'
            exact p2'
          | true =>
            rw [if_pos rfl]
            simp only at p2'
            refine ⟨ρ4, e1, st4, rs4, re2.mono x4, ?_⟩
            cases hmi : mi1 e1 st4 with
            | ok it1 st5 =>
              rw [hmi] at p2'
              simp only at p2'
              by_cases hsz : acc.length + it1.items.length ≤ sizeLine
              rotate_left
              · rw [if_neg hsz] at p2'; exact p2'.elim
              rw [if_pos hsz] at p2'
              intro ρ5 H5 J1 x5 rs5 ri1
              have hD5 : Dd ∉ ρ5 := fun hm => by have := x5.new_ Dd hm hD4; rw [eD4] at this; cases this
              have eD5 : H5 Dd = some (.lst av) := x5.frm _ _ eD4 hD4
              have re5 : RE X.K X.mg ρ5 H5 (wipe σ2 vs1) (wipeE e1 vs1) := (re2.mono (x4.trans x5)).wipe vs1
              have x15 : Ext X.K ρ1 H1 ρ5 H5 := xb.trans (xa.trans (x4.trans x5))
              generalize hbi : (fun d st => lcB tg1 mt1 me d (wipeE e1 vs1) st) = bi at p2'
              -- the inner loop
              refine ⟨fun j k H6 => j + k = it1.items.length ∧ ∃ ρ6 st6 acc2 av2, Ext X.K ρ1 H1 ρ6 H6 ∧ Wk X.K ρ5 H5 ρ6 H6 ∧ RE X.K X.mg ρ6 H6 (wipe σ2 vs1) (wipeE e1 vs1) ∧ Dd ∉ ρ6 ∧ H6 Dd = some (.lst av2) ∧ RDs X.K X.mg ρ6 H6 (acc ++ acc2) av2 ∧ acc2.length ≤ j ∧ RS X.K X.mg ρ6 H6 st6 ∧
                Post X.K X.mg (RD X.K X.mg) W σ Q ρ1 H1 ((lcL it1.still bi (it1.items.drop j) st6).bind fun xs st => ((lc2L it.still bb (it.items.drop (i + 1)) (acc.length + (acc2 ++ xs).length) st).bind fun r st => R.ok ((acc2 ++ xs) ++ r) st).bind fun ds st => .ok (.ref st.length) (st ++ [.lst (acc ++ ds)])),
                ⟨it1.items.length, by omega, ρ5, st5, [], av, x15, .refl, re5, hD5, eD5, by simpa using ra.mono (xa.trans (x4.trans x5)), Nat.le_refl _, rs5, by simpa using p2'⟩, fun j k H6 hV => ?_⟩
              obtain ⟨hjk, ρ6, st6, acc2, av2, x16, x6, re6, hd6, eD6, ra6, la6, rs6, p6⟩ := hV
              by_cases hjl : j < it1.items.length
              · refine .inr ?_
                obtain ⟨d1, hd1⟩ : ∃ d, it1.items[j]? = some d := ⟨_, List.getElem?_eq_getElem hjl⟩
                rw [List.drop_eq_getElem_cons hjl] at p6
                have ed1 : it1.items[j] = d1 := by rw [List.getElem?_eq_getElem hjl] at hd1; exact Option.some.inj hd1
                rw [ed1] at p6
                unfold lcL at p6
                by_cases hst1 : it1.still st6
                · rw [if_pos hst1] at p6
                  obtain ⟨b1, _⟩ := ri1 ρ6 H6 st6 x6 rs6 hst1 j
                  obtain ⟨hgo1, hy1⟩ := b1 d1 hd1
                  refine ⟨hgo1, fun H7 => ∃ ρ7 st7 acc3 av3, Ext X.K ρ1 H1 ρ7 H7 ∧ Wk X.K ρ5 H5 ρ7 H7 ∧ RE X.K X.mg ρ7 H7 (wipe σ2 vs1) (wipeE e1 vs1) ∧ Dd ∉ ρ7 ∧ H7 Dd = some (.lst av3) ∧ RDs X.K X.mg ρ7 H7 (acc ++ acc3) av3 ∧ acc3.length ≤ j + 1 ∧ RS X.K X.mg ρ7 H7 st7 ∧
                      Post X.K X.mg (RD X.K X.mg) W σ Q ρ1 H1 ((lcL it1.still bi (it1.items.drop (j + 1)) st7).bind fun xs st => ((lc2L it.still bb (it.items.drop (i + 1)) (acc.length + (acc3 ++ xs).length) st).bind fun r st => R.ok ((acc3 ++ xs) ++ r) st).bind fun ds st => .ok (.ref st.length) (st ++ [.lst (acc ++ ds)])),
                    fun H7 hN => ⟨k - 1, by omega, by omega, hN⟩, fun x7 H7 hyl7 => ?_⟩
                  obtain ⟨xc, rsc, rdc⟩ := hy1 x7 H7 hyl7
                  have eD7 : H7 Dd = some (.lst av2) := xc.frm _ _ eD6 hd6
                  rw [bind_assoc] at p6
                  have p6' : Post X.K X.mg (RD X.K X.mg) W σ Q ρ1 H1 ((lcB tg1 mt1 me d1 (wipeE e1 vs1) st6).bind fun o st => ((lcL it1.still bi (it1.items.drop (j + 1)) st).bind fun r st => R.ok (o.toList ++ r) st).bind fun xs st => ((lc2L it.still bb (it.items.drop (i + 1)) (acc.length + (acc2 ++ xs).length) st).bind fun r st => R.ok ((acc2 ++ xs) ++ r) st).bind fun ds st => .ok (.ref st.length) (st ++ [.lst (acc ++ ds)])) := by
                    rw [← hbi] at p6 ⊢; exact p6
                  simp only [lcB] at p6'
                  cases hbd1 : bindE tg1 d1 (wipeE e1 vs1) with
                  | none => rw [hbd1] at p6'; exact p6'.elim
                  | some e2 =>
                    rw [hbd1] at p6'
                    simp only at p6'
                    have re7 : RE X.K X.mg ρ6 H7 (wipe σ2 vs1) (wipeE e1 vs1) := re6.mono xc
                    refine gTg_of hs1 re7 rdc hbd1 fun σ3 re3 hw3 => ⟨by rw [hw3]; exact wipe_wipe σ2 vs1, ?_⟩
                    refine ⟨ρ6, e2, st6, rsc, re3, ?_⟩
                    cases hmt1 : mt1 e2 st6 with
                    | ok k1 st8 =>
                      rw [hmt1] at p6'
                      intro ρ8 H8 k1' x8 rs8 hk1
                      cases hk1
                      have hD8 : Dd ∉ ρ8 := fun hm => by have := x8.new_ Dd hm hd6; rw [eD7] at this; cases this
                      have eD8 : H8 Dd = some (.lst av2) := x8.frm _ _ eD7 hd6
                      cases k1 with
                      | false =>
                        rw [if_neg (by decide)]
                        simp only at p6'
                        obtain ⟨ρ9, x9, rs9, _, _⟩ := gc_sound rsc x8 rs8 (d := .non) (v := .non) (by simp only [RD])
                        have hD9 : Dd ∉ ρ9 := fun hm => by have := x9.new_ Dd hm hd6; rw [eD7] at this; cases this
                        refine ⟨ρ9, _, acc2, av2, x16.trans (xc.trans x9), x6.trans (xc.trans x9).wk, re6.mono (xc.trans x9), hD9, eD8, ra6.mono (xc.trans x9), by omega, rs9, ?_⟩
                        simp only [R.bind_ok, Option.toList_none, List.nil_append] at p6'
                        rw [bind_id] at p6'
                        exact p6'
                      | true =>
                        rw [if_pos rfl]
                        simp only at p6'
                        refine ⟨ρ8, e2, st8, rs8, re3.mono x8, ?_⟩
                        cases hme : me e2 st8 with
                        | ok y st9 =>
                          rw [hme] at p6'
                          intro ρ9 H9 v x9 rs9 rd9
                          obtain ⟨ρa, x10, rsA, rdA, _⟩ := gc_sound rsc (x8.trans x9) rs9 rd9
                          have eD9 : H9 Dd = some (.lst av2) := (x8.trans x9).frm _ _ eD7 hd6
                          have hDA : Dd ∉ ρa := fun hm => by have := x10.new_ Dd hm hd6; rw [eD7] at this; cases this
                          have hlen : av2.length < sizeLine := by
                            have hl := ra6.length
                            rw [List.length_append] at hl
                            omega
                          refine ⟨av2, eD9, hlen, ?_⟩
                          have hm : ∀ xs, H9 Dd ≠ some (.tup xs) := fun xs r => by rw [eD9] at r; cases r
                          have x1A : Ext X.K ρ1 H1 ρa H9 := x16.trans (xc.trans x10)
                          refine ⟨ρa, _, acc2 ++ [(gc st6 y st9).1], av2 ++ [v], x1A.beside hD hm, (x6.trans (xc.trans x10).wk).trans (Wk.write hm), ?_, hDA, upd_same, ?_, by simp; omega, rsA.beside hDA hm, ?_⟩
                          · exact (re6.mono (xc.trans x10)).mo (Wk.write hm)
                          · rw [← List.append_assoc]
                            exact ((ra6.mono (xc.trans x10)).append (.cons rdA .nil)).mo (Wk.write hm)
                          · simp only [R.bind_ok, Option.toList_some] at p6'
                            rw [bind_assoc] at p6'
                            simp only [R.bind_ok] at p6'
                            simpa [List.append_assoc] using p6'
                        | _ => rw [hme] at p6'; exact p6'.elim
                    | _ => rw [hmt1] at p6'; exact p6'.elim
                · rw [if_neg hst1] at p6; exact p6.elim
              · refine .inl ?_
                rw [List.drop_of_length_le (by omega)] at p6
                unfold lcL at p6
                by_cases hst1 : it1.still st6
                · rw [if_pos hst1] at p6
                  obtain ⟨_, b2⟩ := ri1 ρ6 H6 st6 x6 rs6 hst1 j
                  refine ⟨b2 (List.getElem?_eq_none (by omega)), ρ6, st6, acc ++ acc2, av2, x16, hd6, eD6, ra6, rs6, ?_⟩
                  simp only [R.bind_ok, List.append_nil] at p6
                  rw [bind_assoc] at p6
                  simpa [List.append_assoc] using p6
                · rw [if_neg hst1] at p6; exact p6.elim
            | _ => rw [hmi] at p2'; exact p2'.elim
        | _ => rw [hmt] at p2'; exact p2'.elim
    · rw [if_neg hst] at p2; exact p2.elim
  · refine .inl ?_
    rw [List.drop_of_length_le (by omega)] at p2
    unfold lc2L at p2
    by_cases hst : it.still st2
    · rw [if_pos hst] at p2
      obtain ⟨_, a2⟩ := ri ρ2 H2 st2 xb.wk rs2 hst i
      refine ⟨a2 (List.getElem?_eq_none (by omega)), ?_⟩
      simp only [R.bind_ok, List.append_nil] at p2
      refine p2 (ρ2 ++ [Dd]) H2 (.ref Dd) (xb.adopt hD) (rs2.adopt hd2 eD ra) ?_
      simp only [RD]
      exact ⟨Dd, rfl, by rw [← rs2.len]; simp⟩
    · rw [if_neg hst] at p2; exact p2.elim
end
end Py

set_option Elab.async false
set_option linter.all false
set_option maxRecDepth 100000
set_option maxHeartbeats 1000000
namespace Py
open L2 PySem PySem.Spec PyProof.Rows
/-! ### the place where an expression stands: its names, its scope, its room -/
structure Ct (BL : List Str) (GC : List (Str × D)) (X : Cx) (W : WX) (N : List Str) (sc : Scope) (fb : Str → Bool) (k : Nat) : Prop where
  hN : X.N = N
  nd : N.Nodup
  hsc : X.env.scope = sc
  hfn : X.fn = fb
  kind : sc.kind = .function
  calm : X.calm = true
  room : Room k X.A
  tk : Takes X W
  bl : ∀ x ∈ BL, X.mg x = none
  gc : ∀ x d, (x, d) ∈ GC → ∃ u v, X.mg x = some u ∧ RelV v u ∧ ∀ ρ H, RD X.K X.mg ρ H d v
section
variable {BL : List Str} {GC : List (Str × D)} {X : Cx} {W : WX} {N : List Str} {sc : Scope} {fb : Str → Bool} {k : Nat} {pos : Pos} {e a b c : Expr} {es : List Expr} {ma mb mc : Py.Loc → Store → R D} {ta tb : Py.Loc → Store → R Bool}
theorem Ct.un (z : Ct BL GC X W N sc fb k) : X.A.units + 64 < cLine := z.room.units
theorem Ct.un1 (z : Ct BL GC X W N sc fb k) : X.A.units + 1 < cLine := by have := z.room.un; omega
theorem Ct.un65 (z : Ct BL GC X W N sc fb k) : X.A.units + 65 < cLine := by have := z.room.un; omega
def okDbg (x : Str) : Bool := !(x == ("__debug__" : Str)) && !(x == ("__classdict__" : Str))
def visB (N : List Str) (sc : Scope) (i : Nat) (x : Str) : Bool := decide (N[i]? = some x) && (match sc.names.lookup x with | some .local => true | some .cell => true | some .free => true | _ => false) && okDbg x
theorem Ct.v (z : Ct BL GC X W N sc fb k) {i : Nat} {x : Str} (h : visB N sc i x = true) : SE X W (.Name x pos) (mVar i) := by
  simp only [visB, okDbg, Bool.and_eq_true, decide_eq_true_eq, Bool.not_eq_true'] at h
  obtain ⟨⟨h1, h2⟩, h3, h4⟩ := h
  refine se_var (by rw [z.hN]; exact h1) ?_ h3 h4
  unfold L2.Vis
  rw [z.hsc]
  split at h2
  · exact .inl (by assumption)
  · exact .inr (.inl (by assumption))
  · exact .inr (.inr (by assumption))
  · cases h2
def glB (sc : Scope) (x : Str) : Bool := (match sc.names.lookup x with | some .globalImplicit => true | _ => false) && okDbg x
theorem Ct.gl (z : Ct BL GC X W N sc fb k) {x : Str} (h : glB sc x = true) : Gl X x := by
  simp only [glB, Bool.and_eq_true] at h
  unfold L2.Gl Env.kindOf
  rw [z.hsc]
  have h1 := h.1
  split at h1
  · assumption
  · cases h1
def blB (BL : List Str) (sc : Scope) (x : Str) : Bool := glB sc x && BL.contains x && !(x == ("__name__" : Str))
theorem str_contains {BL : List Str} {x : Str} (h : BL.contains x = true) : x ∈ BL := by
  rw [List.contains_iff_exists_mem_beq] at h
  obtain ⟨y, hy, e⟩ := h
  rw [eq_of_beq e]; exact hy
theorem Ct.bn (z : Ct BL GC X W N sc fb k) {x : Str} (h : blB BL sc x = true) : Gl X x ∧ X.mg x = none ∧ x ≠ "__name__" ∧ (x == ("__debug__" : Str)) = false := by
  simp only [blB, Bool.and_eq_true, Bool.not_eq_true'] at h
  obtain ⟨⟨h1, h2⟩, h3⟩ := h
  refine ⟨z.gl h1, z.bl x (str_contains h2), fun q => by rw [q] at h3; revert h3; decide, ?_⟩
  simp only [glB, okDbg, Bool.and_eq_true, Bool.not_eq_true'] at h1
  exact h1.2.1
/-- a module's constant -/
theorem Ct.g (z : Ct BL GC X W N sc fb k) {x : Str} {d : D} (j : Nat) (hj : GC[j]? = some (x, d)) (h : glB sc x = true) : SE X W (.Name x pos) (mC d) := by
  obtain ⟨u, v, h1, h2, h3⟩ := z.gc x d (List.mem_of_getElem? hj)
  refine se_const (t := tC v) (pe_glob (z.gl h) h1 h2 ?_) h3
  simp only [glB, okDbg, Bool.and_eq_true, Bool.not_eq_true'] at h
  exact h.2.1
/-- argument lists -/
structure SAL (X : Cx) (W : WX) (es : List Expr) (m : Py.Loc → Store → R (List D)) : Prop where
  sa : SA X W es m
  ln : ∀ e st ds st', m e st = .ok ds st' → ds.length = es.length
  ns : es.all noStar = true
theorem al_nil : SAL X W [] mNil := ⟨sa_nil, fun e st ds st' h => by cases h; rfl, rfl⟩
theorem al_cons {m : Py.Loc → Store → R (List D)} (h : SE X W e ma) (t : SAL X W es m) (hs : noStar e = true := by rfl) : SAL X W (e :: es) (mCons ma m) := by
  refine ⟨sa_cons h t.sa hs, fun l st ds st' q => ?_, by simp [hs, t.ns]⟩
  unfold mCons at q
  cases h1 : ma l st with
  | ok x st1 =>
    rw [h1] at q
    simp only [R.bind_ok] at q
    cases h2 : m l st1 with
    | ok xs st2 =>
      rw [h2] at q
      simp only [R.bind_ok] at q
      cases q
      simp [t.ln _ _ _ _ h2]
    | _ => rw [h2] at q; cases q
  | _ => rw [h1] at q; cases q
/-- a module's def, called -/
theorem Ct.call (z : Ct BL GC X W N sc fb k) {j n : Nat} {x : Str} {p : Pos} {m : Mean} {ma : Py.Loc → Store → R (List D)} (F : FnD X.prog X.w X.K X.mg X.base j x n m) (hj : j ≤ k) (h : glB sc x = true) (ha : SAL X W (e :: es) ma) (hn : (e :: es).length = n := by rfl) :
    SE X W (.Call (.Name x p) (e :: es) [] pos) (mCall m ma) := by
  refine se_call (F.mono hj) z.room z.tk (z.gl h) ha.sa hn ?_ ha.ns fun e st ds st' q => (ha.ln _ _ _ _ q).trans hn
  simp only [glB, okDbg, Bool.and_eq_true, Bool.not_eq_true'] at h
  exact h.2.1
/-- a built-in function, a type, called -/
theorem Ct.cb (z : Ct BL GC X W N sc fb k) {x : Str} {id : String} {p : Pos} {f : List D → Store → Option (D × Store)} {m : Py.Loc → Store → R (List D)} (hc : CallR X (.builtin id) (rN X.K X.mg f)) (hv : bootBuiltins x = some (.builtin id)) (h : blB BL sc x = true) (ha : SAL X W (e :: es) m) :
    SE X W (.Call (.Name x p) (e :: es) [] pos) (mOpN f m) := let ⟨h1, h2, h3, h4⟩ := z.bn h; se_callB hc h1 h2 hv ha.sa h3 h4 ha.ns
theorem Ct.ct (z : Ct BL GC X W N sc fb k) {x : Str} {T : String} {p : Pos} {f : List D → Store → Option (D × Store)} {m : Py.Loc → Store → R (List D)} (hc : CallR X (.type T) (rN X.K X.mg f)) (hv : bootBuiltins x = some (.type T)) (h : blB BL sc x = true) (ha : SAL X W (e :: es) m) :
    SE X W (.Call (.Name x p) (e :: es) [] pos) (mOpN f m) := let ⟨h1, h2, h3, h4⟩ := z.bn h; se_callTy hc h1 h2 hv ha.sa h3 h4 ha.ns
theorem Ct.len (z : Ct BL GC X W N sc fb k) {p : Pos} (ha : SE X W a ma) (h : blB BL sc "len" = true) (hs : noStar a = true := by rfl) : SE X W (.Call (.Name "len" p) [a] [] pos) (mOpN lenD (mCons ma mNil)) := z.cb ok_len boot_len h (al_cons ha al_nil hs)
theorem Ct.abs (z : Ct BL GC X W N sc fb k) {p : Pos} (ha : SE X W a ma) (h : blB BL sc "abs" = true) (hs : noStar a = true := by rfl) : SE X W (.Call (.Name "abs" p) [a] [] pos) (mOpN absD (mCons ma mNil)) := z.cb ok_abs (by decide +kernel) h (al_cons ha al_nil hs)
theorem Ct.int (z : Ct BL GC X W N sc fb k) {p : Pos} (ha : SE X W a ma) (h : blB BL sc "int" = true) (hs : noStar a = true := by rfl) : SE X W (.Call (.Name "int" p) [a] [] pos) (mOpN intD (mCons ma mNil)) := z.ct ok_int (by decide +kernel) h (al_cons ha al_nil hs)
theorem Ct.tuple (z : Ct BL GC X W N sc fb k) {p : Pos} (ha : SE X W a ma) (h : blB BL sc "tuple" = true) (hs : noStar a = true := by rfl) : SE X W (.Call (.Name "tuple" p) [a] [] pos) (mOpN tupD (mCons ma mNil)) := z.ct ok_tuple (by decide +kernel) h (al_cons ha al_nil hs)
theorem Ct.list (z : Ct BL GC X W N sc fb k) {p : Pos} (ha : SE X W a ma) (h : blB BL sc "list" = true) (hs : noStar a = true := by rfl) : SE X W (.Call (.Name "list" p) [a] [] pos) (mOpN listD (mCons ma mNil)) := z.ct (ok_list z.calm) (by decide +kernel) h (al_cons ha al_nil hs)
theorem Ct.sum (z : Ct BL GC X W N sc fb k) {p : Pos} (ha : SE X W a ma) (h : blB BL sc "sum" = true) (hs : noStar a = true := by rfl) : SE X W (.Call (.Name "sum" p) [a] [] pos) (mOpN sumD (mCons ma mNil)) := z.cb (ok_sum z.calm) (by decide +kernel) h (al_cons ha al_nil hs)
theorem Ct.any (z : Ct BL GC X W N sc fb k) {p : Pos} (ha : SE X W a ma) (h : blB BL sc "any" = true) (hs : noStar a = true := by rfl) : SE X W (.Call (.Name "any" p) [a] [] pos) (mOpN anyD (mCons ma mNil)) := z.cb (ok_any z.calm) (by decide +kernel) h (al_cons ha al_nil hs)
theorem Ct.all (z : Ct BL GC X W N sc fb k) {p : Pos} (ha : SE X W a ma) (h : blB BL sc "all" = true) (hs : noStar a = true := by rfl) : SE X W (.Call (.Name "all" p) [a] [] pos) (mOpN allD (mCons ma mNil)) := z.cb (ok_all z.calm) (by decide +kernel) h (al_cons ha al_nil hs)
theorem Ct.max (z : Ct BL GC X W N sc fb k) {p : Pos} {m : Py.Loc → Store → R (List D)} (h : blB BL sc "max" = true) (ha : SAL X W (e :: es) m) : SE X W (.Call (.Name "max" p) (e :: es) [] pos) (mOpN maxD' m) := z.cb (ok_max z.calm z.un1) (by decide +kernel) h ha
theorem Ct.min (z : Ct BL GC X W N sc fb k) {p : Pos} {m : Py.Loc → Store → R (List D)} (h : blB BL sc "min" = true) (ha : SAL X W (e :: es) m) : SE X W (.Call (.Name "min" p) (e :: es) [] pos) (mOpN minD' m) := z.cb (ok_min z.calm z.un1) (by decide +kernel) h ha
theorem Ct.lstRg (z : Ct BL GC X W N sc fb k) {p : Pos} {m : Py.Loc → Store → R (Int × Int)} (he : SR X W e m) (h : blB BL sc "list" = true) (hs : noStar e = true := by rfl) : SE X W (.Call (.Name "list" p) [e] [] pos) (mLstRg m) := let ⟨h1, h2, _⟩ := z.bn h; se_lstRg z.calm h1 h2 he hs
theorem Ct.tupRg (z : Ct BL GC X W N sc fb k) {p : Pos} {m : Py.Loc → Store → R (Int × Int)} (he : SR X W e m) (h : blB BL sc "tuple" = true) (hs : noStar e = true := by rfl) : SE X W (.Call (.Name "tuple" p) [e] [] pos) (mTupRg m) := let ⟨h1, h2, _⟩ := z.bn h; se_tupRg z.calm h1 h2 he hs
theorem Ct.sr1 (z : Ct BL GC X W N sc fb k) {p : Pos} (ha : SE X W a ma) (h : blB BL sc "range" = true) (hs : noStar a = true := by rfl) : SR X W (.Call (.Name "range" p) [a] [] pos) (mR1 ma) := let ⟨h1, h2, _⟩ := z.bn h; sr_1 h1 h2 ha hs
theorem Ct.sr2 (z : Ct BL GC X W N sc fb k) {p : Pos} (ha : SE X W a ma) (hb : SE X W b mb) (h : blB BL sc "range" = true) (hs : noStar a = true := by rfl) (hs2 : noStar b = true := by rfl) : SR X W (.Call (.Name "range" p) [a, b] [] pos) (mR2 ma mb) := let ⟨h1, h2, _⟩ := z.bn h; sr_2 h1 h2 ha hb hs hs2
/-- isinstance -/
def tyB (BL : List Str) (sc : Scope) (c : String) : Bool := blB BL sc (Str.ofString c) && tyOf.contains c
theorem Ct.ty (z : Ct BL GC X W N sc fb k) {c : String} {p : Pos} (h : tyB BL sc c = true) : TyNm X (.Name (Str.ofString c) p) c := by
  simp only [tyB, Bool.and_eq_true] at h
  obtain ⟨h1, h2, _⟩ := z.bn h.1
  exact ⟨p, rfl, by simpa using h.2, h1, h2⟩
theorem Ct.isi (z : Ct BL GC X W N sc fb k) {cn : String} {p : Pos} (ha : SE X W a ma) (hc : TyNm X c cn) (h : blB BL sc "isinstance" = true) (hs : noStar a = true := by rfl) : SE X W (.Call (.Name "isinstance" p) [a, c] [] pos) (mIsi ma [cn]) := let ⟨h1, h2, _⟩ := z.bn h; se_isi h1 h2 ha hc hs
theorem Ct.isiT (z : Ct BL GC X W N sc fb k) {cs : List String} {kk : Nat} {pt p : Pos} (ha : SE X W a ma) (hc : TyNms X es cs) (hl : cs.length ≤ 100) (h : blB BL sc "isinstance" = true) (hs : noStar a = true := by rfl) : SE X W (.Call (.Name "isinstance" p) [a, .Tuple es kk pt] [] pos) (mIsi ma cs) := let ⟨h1, h2, _⟩ := z.bn h; se_isiT h1 h2 ha hc hl hs
/-- all of `in` -/
noncomputable def inA (d1 d2 : D) (st : Store) : Option (D × Store) := match inDictD d1 d2 st with | some r => some r | none => inD d1 d2 st
noncomputable def ninA (d1 d2 : D) (st : Store) : Option (D × Store) := match ninDictD d1 d2 st with | some r => some r | none => ninD d1 d2 st
theorem Ct.opIn (z : Ct BL GC X W N sc fb k) : OpR X (compareOp .In) (r2 X.K X.mg inA) := OpR.imp ((ok_inDict z.un1).or (ok_in z.un65)) fun x y H Q ⟨ρ, st, d1, d2, rs, h1, h2, p⟩ => by
  unfold inA at p
  cases hq : inDictD d1 d2 st with
  | some r => rw [hq] at p; exact .inl ⟨ρ, st, d1, d2, rs, h1, h2, by rw [hq]; exact p⟩
  | none => rw [hq] at p; exact .inr ⟨ρ, st, d1, d2, rs, h1, h2, p⟩
theorem Ct.opNin (z : Ct BL GC X W N sc fb k) : OpR X (compareOp .NotIn) (r2 X.K X.mg ninA) := OpR.imp ((ok_ninDict z.un1).or (ok_nin z.un65)) fun x y H Q ⟨ρ, st, d1, d2, rs, h1, h2, p⟩ => by
  unfold ninA at p
  cases hq : ninDictD d1 d2 st with
  | some r => rw [hq] at p; exact .inl ⟨ρ, st, d1, d2, rs, h1, h2, by rw [hq]; exact p⟩
  | none => rw [hq] at p; exact .inr ⟨ρ, st, d1, d2, rs, h1, h2, p⟩
theorem Ct.ix (z : Ct BL GC X W N sc fb k) (ha : SE X W a ma) (hb : SE X W b mb) (hp : plainIx b = true := by rfl) : SE X W (.Subscript a b pos) (mOp2 ixD ma mb) := se_ix (ok_ix z.un1) ha hb hp
/-! iterators -/
theorem Ct.rg1 (z : Ct BL GC X W N sc fb k) {tg : Expr} {p : Pos} (ha : SE X W a ma) (h : blB BL sc "range" = true) (hs : noStar a = true := by rfl) : SI X W tg (.Call (.Name "range" p) [a] [] pos) (mRgs (mCons ma mNil)) :=
  let ⟨h1, h2, _⟩ := z.bn h; let l := al_cons (es := []) ha al_nil hs; si_rg1 h1 h2 l.sa hs l.ln
theorem Ct.rg2 (z : Ct BL GC X W N sc fb k) {tg : Expr} {p : Pos} (ha : SE X W a ma) (hb : SE X W b mb) (h : blB BL sc "range" = true) (hs : noStar a = true := by rfl) (hs2 : noStar b = true := by rfl) : SI X W tg (.Call (.Name "range" p) [a, b] [] pos) (mRgs (mCons ma (mCons mb mNil))) :=
  let ⟨h1, h2, _⟩ := z.bn h; let l := al_cons ha (al_cons (es := []) hb al_nil hs2) hs; si_rg2 h1 h2 l.sa hs hs2 l.ln
theorem Ct.rg3 (z : Ct BL GC X W N sc fb k) {tg : Expr} {p : Pos} (ha : SE X W a ma) (hb : SE X W b mb) (hc : SE X W c mc) (h : blB BL sc "range" = true) (hs : noStar a = true := by rfl) (hs2 : noStar b = true := by rfl) (hs3 : noStar c = true := by rfl) : SI X W tg (.Call (.Name "range" p) [a, b, c] [] pos) (mRgs (mCons ma (mCons mb (mCons mc mNil)))) :=
  let ⟨h1, h2, _⟩ := z.bn h; let l := al_cons ha (al_cons hb (al_cons (es := []) hc al_nil hs3) hs2) hs; si_rg3 h1 h2 l.sa hs hs2 hs3 l.ln
theorem Ct.enm (z : Ct BL GC X W N sc fb k) {tpos p : Pos} {elts : List Expr} {kk : Nat} (ha : SE X W a ma) (h : blB BL sc "enumerate" = true) (hs : noStar a = true := by rfl) : SI X W (.Tuple elts kk tpos) (.Call (.Name "enumerate" p) [a] [] pos) (mEn ma) := let ⟨h1, h2, _⟩ := z.bn h; pi_enumA h1 h2 ha hs
theorem Ct.zip (z : Ct BL GC X W N sc fb k) {tpos p : Pos} {elts : List Expr} {kk : Nat} (ha : SE X W a ma) (hb : SE X W b mb) (h : blB BL sc "zip" = true) (hs : noStar a = true := by rfl) (hs2 : noStar b = true := by rfl) : SI X W (.Tuple elts kk tpos) (.Call (.Name "zip" p) [a, b] [] pos) (mZp (mCons ma (mCons mb mNil))) :=
  let ⟨h1, h2, _⟩ := z.bn h; let l := al_cons ha (al_cons (es := []) hb al_nil hs2) hs; si_zip h1 h2 l.sa hs hs2 l.ln
theorem Ct.rev (z : Ct BL GC X W N sc fb k) {tg : Expr} {p : Pos} (ha : SE X W a ma) (h : blB BL sc "reversed" = true) (hs : noStar a = true := by rfl) : SI X W tg (.Call (.Name "reversed" p) [a] [] pos) (mRv ma) := let ⟨h1, h2, _⟩ := z.bn h; si_rev h1 h2 ha hs
/-! methods -/
theorem Ct.app (z : Ct BL GC X W N sc fb k) {ap : Pos} (ho : SE X W a ma) (hb : SE X W b mb) (hl : (ap.endLine == pos.line) = true := by rfl) (hs : noStar b = true := by rfl) (hc : noCall a = true := by rfl) : SE X W (.Call (.Attribute a "append" ap) [b] [] pos) (mMt appD ma (mCons mb mNil)) :=
  se_mtL F.slot_list_append F.type_list_append ok_app ho (al_cons (es := []) hb al_nil hs).sa hc hs hl
theorem Ct.ext (z : Ct BL GC X W N sc fb k) {ap : Pos} (ho : SE X W a ma) (hb : SE X W b mb) (hl : (ap.endLine == pos.line) = true := by rfl) (hs : noStar b = true := by rfl) (hc : noCall a = true := by rfl) : SE X W (.Call (.Attribute a "extend" ap) [b] [] pos) (mMt extD ma (mCons mb mNil)) :=
  se_mtL F.slot_list_extend F.type_list_extend ok_ext ho (al_cons (es := []) hb al_nil hs).sa hc hs hl
theorem Ct.pop (z : Ct BL GC X W N sc fb k) {ap : Pos} (ho : SE X W a ma) (hl : (ap.endLine == pos.line) = true := by rfl) (hc : noCall a = true := by rfl) : SE X W (.Call (.Attribute a "pop" ap) [] [] pos) (mMt popD ma mNil) :=
  se_mtL0 F.slot_list_pop F.type_list_pop ok_pop ho hc hl
theorem Ct.join (z : Ct BL GC X W N sc fb k) {ap : Pos} (ho : SE X W a ma) (hb : SE X W b mb) (hl : (ap.endLine == pos.line) = true := by rfl) (hs : noStar b = true := by rfl) (hc : noCall a = true := by rfl) : SE X W (.Call (.Attribute a "join" ap) [b] [] pos) (mMtS joinD ma mb) :=
  se_mtS F.slot_str_join F.type_str_join ok_join ho hb hc hs hl
/-! targets, stores -/
def locB (N : List Str) (sc : Scope) (fb : Str → Bool) (i : Nat) (x : Str) : Bool := decide (N[i]? = some x) && (match sc.names.lookup x with | some .local => true | some .cell => fb x | _ => false)
theorem Ct.lo (z : Ct BL GC X W N sc fb k) {i : Nat} {x : Str} (h : locB N sc fb i x = true) : X.N[i]? = some x ∧ L2.Loc X.env.scope x ∧ (X.fn x = true ∨ X.env.scope.names.lookup x = some .local) := by
  simp only [locB, Bool.and_eq_true, decide_eq_true_eq] at h
  refine ⟨by rw [z.hN]; exact h.1, ?_, ?_⟩
  · unfold L2.Loc; rw [z.hsc]
    have h2 := h.2
    split at h2
    · exact .inl (by assumption)
    · exact .inr (by assumption)
    · cases h2
  · rw [z.hsc, z.hfn]
    have h2 := h.2
    split at h2
    · exact .inr (by assumption)
    · exact .inl h2
    · cases h2
theorem Ct.tn (z : Ct BL GC X W N sc fb k) {i : Nat} {x : Str} (h : locB N sc fb i x = true) : SG X W (.Name x pos) (gN i) := let ⟨h1, h2, h3⟩ := z.lo h; sg_name (by rw [z.hN]; exact z.nd) h1 h2 h3
theorem Ct.tt (z : Ct BL GC X W N sc fb k) {kk : Nat} {gs : List D → Py.Loc → Store → Fl} (h : SGs X W es gs) (hs : es.all noStar = true := by rfl) : SG X W (.Tuple es kk pos) (gTp es.length gs) := sg_tup z.calm h hs
theorem Ct.ts (z : Ct BL GC X W N sc fb k) (ha : SE X W a ma) (hb : SE X W b mb) (hp : plainIx b = true := by rfl) : SG X W (.Subscript a b pos) (gSb setD ma mb) := sg_sub (ok_set z.un1) ha hb hp
def swB (value : Expr) (sc : Scope) (t : Str) (tp : Pos) : Bool := match value with
  | .ListComp _ _ s _ | .SetComp _ _ s _ | .DictComp _ _ _ s _ => (sc.names.lookup t == some .local) && (tp.line == value.pos.line) && !(s.names.any fun (n, k) => n == t && (k == .local || k == .cell))
  | _ => false
theorem swB_ok {env : PySem.Env} (hk : env.scope.kind = .function) (value : Expr) (t : Str) (tp : Pos) (l : Nat) : swapsWith value (some (.Name t tp)) l env = pure (swB value env.scope t tp) := by
  have hb : (env.blockKind == ScopeKind.function) = true := by unfold Env.blockKind; rw [hk]; rfl
  cases value with
  | ListComp => unfold swapsWith swB Env.kindOf; simp only [hb, Bool.true_and]
  | SetComp => unfold swapsWith swB Env.kindOf; simp only [hb, Bool.true_and]
  | DictComp => unfold swapsWith swB Env.kindOf; simp only [hb, Bool.true_and]
  | _ => rfl
theorem Ct.set (z : Ct BL GC X W N sc fb k) {i : Nat} {x : Str} {p' : Pos} (he : SE X W e ma) (h : (locB N sc fb i x && !swB e sc x p') = true) : SS X W (.Assign [.Name x p'] e pos) (sAsg ma (gN i)) := by
  simp only [Bool.and_eq_true, Bool.not_eq_true'] at h
  obtain ⟨h1, h2, h3⟩ := z.lo h.1
  exact ss_set (by rw [z.hN]; exact z.nd) h1 h2 he (by rw [swB_ok (by rw [z.hsc]; exact z.kind), z.hsc, h.2]) h3
theorem Ct.asg (z : Ct BL GC X W N sc fb k) {tg : Expr} {g : D → Py.Loc → Store → Fl} (he : SE X W e ma) (hg : SG X W tg g) (ht : Tgt g) (hs : noComp e = true) (hw : decide (swS sc [tg] e = some none) = true) (hn : noStar tg = true := by rfl) : SS X W (.Assign [tg] e pos) (sAsg ma g) :=
  ss_asg he hg ht (by rw [z.hsc]; exact z.kind) hs (by rw [z.hsc]; exact of_decide_eq_true hw) hn
def lcl (N : List Str) (sc : Scope) (i : Nat) (x : Str) : Bool := decide (N[i]? = some x) && decide (sc.names.lookup x = some .local)
theorem Ct.par2 (z : Ct BL GC X W N sc fb k) {i j : Nat} {x y : Str} {m : Py.Loc → Store → R (List D)} {px py pt : Pos} {kt k2 : Nat} {pt2 : Pos} (ha : SAL X W [a, b] m)
    (h : (lcl N sc i x && lcl N sc j y && !(i == j) && decide (swS sc [.Tuple [.Name x px, .Name y py] kt pt] (.Tuple [a, b] k2 pt2) = some (some [x, y]))) = true) :
    SS X W (.Assign [.Tuple [.Name x px, .Name y py] kt pt] (.Tuple [a, b] k2 pt2) pos) (sPar2 i j m) := by
  simp only [lcl, Bool.and_eq_true, decide_eq_true_eq, Bool.not_eq_true', beq_eq_false_iff_ne] at h
  obtain ⟨⟨⟨⟨h1, h2⟩, h3, h4⟩, h5⟩, h6⟩ := h
  exact ss_par2 (by rw [z.hsc]; exact z.kind) z.calm (by rw [z.hN]; exact z.nd) (by rw [z.hN]; exact h1) (by rw [z.hN]; exact h3) h5 (by rw [z.hsc]; exact h2) (by rw [z.hsc]; exact h4) ha.sa (by rw [z.hsc]; exact h6)
theorem Ct.par3 (z : Ct BL GC X W N sc fb k) {i j l : Nat} {x y w : Str} {m : Py.Loc → Store → R (List D)} {px py pw pt : Pos} {kt k2 : Nat} {pt2 : Pos} (ha : SAL X W [a, b, c] m)
    (h : (lcl N sc i x && lcl N sc j y && lcl N sc l w && !(i == j) && !(i == l) && !(j == l) && decide (swS sc [.Tuple [.Name x px, .Name y py, .Name w pw] kt pt] (.Tuple [a, b, c] k2 pt2) = some (some [x, y, w]))) = true) :
    SS X W (.Assign [.Tuple [.Name x px, .Name y py, .Name w pw] kt pt] (.Tuple [a, b, c] k2 pt2) pos) (sPar3 i j l m) := by
  simp only [lcl, Bool.and_eq_true, decide_eq_true_eq, Bool.not_eq_true', beq_eq_false_iff_ne] at h
  obtain ⟨⟨⟨⟨⟨⟨⟨h1, h2⟩, h3, h4⟩, h5, h6⟩, h7⟩, h8⟩, h9⟩, h10⟩ := h
  exact ss_par3 (by rw [z.hsc]; exact z.kind) z.calm (by rw [z.hN]; exact z.nd) (by rw [z.hN]; exact h1) (by rw [z.hN]; exact h3) (by rw [z.hN]; exact h5) h7 h8 h9 (by rw [z.hsc]; exact h2) (by rw [z.hsc]; exact h4) (by rw [z.hsc]; exact h6) ha.sa (by rw [z.hsc]; exact h10)
end
end Py

set_option Elab.async false
set_option linter.all false
set_option maxRecDepth 100000
set_option maxHeartbeats 1000000
namespace Py
open L2 PySem PySem.Spec PyProof.Rows
/-! ### blocks -/
def rl (scope sc : Scope) : Scope := { scope with names := scope.names.map fun (n, k) => if (k == .free && sc.kind == .function && sc.names.lookup n == some .cell) then (n, .cell) else (n, k) }
theorem rl_eq (scope : Scope) (env : PySem.Env) : relabel scope env = rl scope env.scope := rfl
def fbk (scope : Scope) : Str → Bool := fun x => scope.names.lookup x == some .cell
section
variable {BL : List Str} {GC : List (Str × D)} {X : Cx} {W : WX} {N : List Str} {sc : Scope} {fb : Str → Bool} {k : Nat} {pos : Pos} {e a b c : Expr} {es : List Expr} {ma mb mc : Py.Loc → Store → R D} {ta tb : Py.Loc → Store → R Bool}
theorem Ct.blk (z : Ct BL GC X W N sc fb k) {scope : Scope} (hk : scope.kind = .function) (s : Shared) (H : Hp) (C : Addr) (cl : List (Str × Addr)) (fp : List Addr) : Ct BL GC (X.blk s H scope (compEnvC scope cl C X.env) fp) W0 N (rl scope sc) (fbk scope) k where
  hN := z.hN
  nd := z.nd
  hsc := by show relabel scope X.env = _; rw [rl_eq, z.hsc]
  hfn := rfl
  kind := hk
  calm := z.calm
  room := z.room
  tk := fun u s' ⟨_, _, _, _, _, _, _, _, _, _, _, _, _, _, _, _, w⟩ => w.elim
  bl := z.bl
  gc := z.gc
abbrev STs (X : Cx) (W : WX) (es : List Expr) (m : Py.Loc → Store → R Bool) : Prop := PTs X es (tG X.K X.mg RB W m)
def mYes : Py.Loc → Store → R Bool := fun _ st => .ok true st
theorem ts_nil : STs X W [] mYes := ⟨fun pins s σ H Q I ⟨ρ, e, st, rs, re, p⟩ => pts_nil.run pins s σ H Q I (p ρ H true .refl rs rfl)⟩
theorem ts_one (h : ST X W a ta) : STs X W [a] ta := pts_one h
def inOwn (t : Tg) (vs : List Nat) : Bool := t.slots.all fun i => vs.contains i
theorem inOwn_ok {t : Tg} {vs : List Nat} (h : inOwn t vs = true) : ∀ i ∈ t.slots, i ∈ vs := fun i hi => by
  unfold inOwn at h
  rw [List.all_eq_true] at h
  simpa using h i hi
def lcB' (N : List Str) (sc scope : Scope) (own : List (Str × Nat)) (tg : Expr) (t : Tg) : Bool := blkC N sc scope own && tgOk N (fbk scope) (rl scope sc) tg t && inOwn t (own.map (·.2))
def kF (scope : Scope) (h : blkC N sc scope own = true) : scope.kind = .function := (blkOk_by h).kind
def noSet : Expr → Bool | .Set .. => false | _ => true
theorem noSet_ok {e : Expr} (h : noSet e = true) (env : PySem.Env) (x : Value) : foldedSetIterable e env x = pure x := by
  cases e with
  | Set => cases h
  | _ => rfl
theorem Ct.sgT (z : Ct BL GC X W N sc fb k) {tg : Expr} {t : Tg} (h : tgOk N fb sc tg t = true) : PG X tg (gTg X.K t) := sg_tg (by rw [z.hN]; exact z.nd) z.calm (by rw [z.hN, z.hfn, z.hsc]; exact h)
section
variable {elt tg iter : Expr} {ifs : List Expr} {scope : Scope} {mi : Py.Loc → Store → R Iter} {mt : Py.Loc → Store → R Bool} {me mk mv : Py.Loc → Store → R D} {t : Tg}
theorem Ct.lc (z : Ct BL GC X W N sc fb k) (own : List (Str × Nat)) (hi : SI X W tg iter mi) (h : lcB' N sc scope own tg t = true)
    (ht : ∀ (s : Shared) (H : Hp) (C : Addr) (cl : List (Str × Addr)) (fp : List Addr), Ct BL GC (X.blk s H scope (compEnvC scope cl C X.env) fp) W0 N (rl scope sc) (fbk scope) k → STs (X.blk s H scope (compEnvC scope cl C X.env) fp) W0 ifs mt)
    (he : ∀ (s : Shared) (H : Hp) (C : Addr) (cl : List (Str × Addr)) (fp : List Addr), Ct BL GC (X.blk s H scope (compEnvC scope cl C X.env) fp) W0 N (rl scope sc) (fbk scope) k → SE (X.blk s H scope (compEnvC scope cl C X.env) fp) W0 elt me) (hs : noSet iter = true := by rfl) :
    SE X W (.ListComp elt [⟨tg, iter, ifs, 0⟩] scope pos) (mLc mi t mt me (own.map (·.2))) := by
  simp only [lcB', Bool.and_eq_true] at h
  have ok := blkOk_by h.1.1
  exact PE.imp (pe_lc (wi := tG X.K X.mg (RI X.K X.mg) W mi) (g := gTg X.K t) (tt := tG X.K X.mg RB W0 mt) (te := tG X.K X.mg (RD X.K X.mg) W0 me) z.calm (by rw [z.hN]; exact z.nd) hi (by rw [z.hN, z.hsc]; exact ok) (fun s H C cl fp => (z.blk ok.kind s H C cl fp).sgT h.1.2) (fun s H C cl fp => ht s H C cl fp (z.blk ok.kind s H C cl fp)) (fun s H C cl fp => he s H C cl fp (z.blk ok.kind s H C cl fp)) (fun x => noSet_ok hs _ x)) (lc_of (inOwn_ok h.2))
theorem Ct.setLc (z : Ct BL GC X W N sc fb k) {i : Nat} {y : Str} {py spos : Pos} (own : List (Str × Nat)) (hi : SI X W tg iter mi) (h : (lcB' N sc scope own tg t && lcl N sc i y && swB (.ListComp elt [⟨tg, iter, ifs, 0⟩] scope pos) sc y py) = true)
    (ht : ∀ (s : Shared) (H : Hp) (C : Addr) (cl : List (Str × Addr)) (fp : List Addr), Ct BL GC (X.blk s H scope (compEnvC scope cl C X.env) fp) W0 N (rl scope sc) (fbk scope) k → STs (X.blk s H scope (compEnvC scope cl C X.env) fp) W0 ifs mt)
    (he : ∀ (s : Shared) (H : Hp) (C : Addr) (cl : List (Str × Addr)) (fp : List Addr), Ct BL GC (X.blk s H scope (compEnvC scope cl C X.env) fp) W0 N (rl scope sc) (fbk scope) k → SE (X.blk s H scope (compEnvC scope cl C X.env) fp) W0 elt me) (hs : noSet iter = true := by rfl) :
    SS X W (.Assign [.Name y py] (.ListComp elt [⟨tg, iter, ifs, 0⟩] scope pos) spos) (sAsg (mLc mi t mt me (own.map (·.2))) (gN i)) := by
  simp only [lcB', lcl, Bool.and_eq_true, decide_eq_true_eq] at h
  obtain ⟨⟨h, h1, h2⟩, h3⟩ := h
  have ok := blkOk_by h.1.1
  refine PS.imp (ps_setLc (i := i) (wi := tG X.K X.mg (RI X.K X.mg) W mi) (g := gTg X.K t) (tt := tG X.K X.mg RB W0 mt) (te := tG X.K X.mg (RD X.K X.mg) W0 me) z.calm (by rw [z.hN]; exact z.nd) (by rw [z.hN]; exact h1) (by rw [z.hsc]; exact h2) (by rw [swB_ok (by rw [z.hsc]; exact z.kind), z.hsc, h3]) hi (by rw [z.hN, z.hsc]; exact ok) (fun s H C cl fp => (z.blk ok.kind s H C cl fp).sgT h.1.2) (fun s H C cl fp => ht s H C cl fp (z.blk ok.kind s H C cl fp)) (fun s H C cl fp => he s H C cl fp (z.blk ok.kind s H C cl fp)) (fun x => noSet_ok hs _ x)) fun Dn σ H q => ?_
  obtain ⟨ρ, e, st, rs, re, p⟩ := q
  refine lc_of (inOwn_ok h.2) σ H _ ⟨ρ, e, st, rs, re, (PostS.to p re).imp fun x H1 ⟨d, ρ1, st1, x1, rs1, rd1, p1⟩ => ?_⟩
  exact p1 ρ1 H1 _ .refl rs1 ((re.mono x1).set rd1)
theorem Ct.dc (z : Ct BL GC X W N sc fb k) {kx vx : Expr} (own : List (Str × Nat)) (hi : SI X W tg iter mi) (h : lcB' N sc scope own tg t = true)
    (ht : ∀ (s : Shared) (H : Hp) (C : Addr) (cl : List (Str × Addr)) (fp : List Addr), Ct BL GC (X.blk s H scope (compEnvC scope cl C X.env) fp) W0 N (rl scope sc) (fbk scope) k → STs (X.blk s H scope (compEnvC scope cl C X.env) fp) W0 ifs mt)
    (hk : ∀ (s : Shared) (H : Hp) (C : Addr) (cl : List (Str × Addr)) (fp : List Addr), Ct BL GC (X.blk s H scope (compEnvC scope cl C X.env) fp) W0 N (rl scope sc) (fbk scope) k → SE (X.blk s H scope (compEnvC scope cl C X.env) fp) W0 kx mk)
    (hv : ∀ (s : Shared) (H : Hp) (C : Addr) (cl : List (Str × Addr)) (fp : List Addr), Ct BL GC (X.blk s H scope (compEnvC scope cl C X.env) fp) W0 N (rl scope sc) (fbk scope) k → SE (X.blk s H scope (compEnvC scope cl C X.env) fp) W0 vx mv) (hs : noSet iter = true := by rfl) :
    SE X W (.DictComp kx vx [⟨tg, iter, ifs, 0⟩] scope pos) (mDc mi t mt mk mv (own.map (·.2))) := by
  simp only [lcB', Bool.and_eq_true] at h
  have ok := blkOk_by h.1.1
  exact PE.imp (pe_dc z.calm (by rw [z.hN]; exact z.nd) hi (by rw [z.hN, z.hsc]; exact ok) (fun s H C cl fp => (z.blk ok.kind s H C cl fp).sgT h.1.2) (fun s H C cl fp => ht s H C cl fp (z.blk ok.kind s H C cl fp)) (fun s H C cl fp => hk s H C cl fp (z.blk ok.kind s H C cl fp)) (fun s H C cl fp => hv s H C cl fp (z.blk ok.kind s H C cl fp)) (fun x => noSet_ok hs _ x)) (dc_of (inOwn_ok h.2))
theorem ps_setDc {i : Nat} {y : Str} {py : Pos} {kx vx tg iter : Expr} {ifs : List Expr} {scope : Scope} {own : List (Str × Nat)} {pos spos : Pos} {wi : TI} {g : TG} {tt : TT} {tk tv : TE} (hc : X.calm = true) (hN : X.N.Nodup) (hy : X.N[i]? = some y) (hyl : X.env.scope.names.lookup y = some .local)
    (hsw : swapsWith (.DictComp kx vx [⟨tg, iter, ifs, 0⟩] scope pos) (some (.Name y py)) spos.line X.env = pure true) (hi : PI X tg iter wi) (ok : BlkOk X.N X.env.scope scope own)
    (hg : ∀ (s : Shared) (H : Hp) (C : Addr) (cl : List (Str × Addr)) (fp : List Addr), PG (X.blk s H scope (compEnvC scope cl C X.env) fp) tg g) (ht : ∀ (s : Shared) (H : Hp) (C : Addr) (cl : List (Str × Addr)) (fp : List Addr), PTs (X.blk s H scope (compEnvC scope cl C X.env) fp) ifs tt)
    (hk : ∀ (s : Shared) (H : Hp) (C : Addr) (cl : List (Str × Addr)) (fp : List Addr), PE (X.blk s H scope (compEnvC scope cl C X.env) fp) kx tk)
    (he : ∀ (s : Shared) (H : Hp) (C : Addr) (cl : List (Str × Addr)) (fp : List Addr), PE (X.blk s H scope (compEnvC scope cl C X.env) fp) vx tv) (hs : ∀ x, foldedSetIterable iter X.env x = pure x) :
    PS X (.Assign [.Name y py] (.DictComp kx vx [⟨tg, iter, ifs, 0⟩] scope pos) spos) (tAsg (tDc wi g tt tk tv (own.map (·.2))) (gName i)) := by
  refine ⟨fun pins s σ H D I h => ?_⟩
  rw [exec_Assign_Name_used _ _ _ _ hsw]
  refine wpAny_bind (wpAny_standAt (wpAny_bind ?_))
  show wpAny _ X.A (do let _ ← comprehension (.DictComp kx vx [⟨tg, iter, ifs, 0⟩] scope pos) scope X.env (firstIterPos [⟨tg, iter, ifs, 0⟩] pos) newDict false (eval iter X.env) (some (assign (.Name y py) X.env))) _ _ s
  have h : tDc wi g tt tk tv (own.map (·.2)) σ H (fun x H1 => gName i x σ H1 D.nx) := h
  refine wpAny_bind (thn (dc_core (Qf := fun _ s' => SP X pins D .next s') hc hN I hi ok hg ht hk he hs h fun L C s' m H' I' q hn f => ?_) fun _ s' hq => wpAny_pure (wpAny_pure hq))
  show wpAny _ _ (assign (.Name y py) X.env (.ref L)) _ _ _
  refine wpAny_assign_Name (store_ok2 (v := V.ref L) I' hN hy (.inl hyl) rfl (fun s2 I2 ⟨a, sb, ha⟩ => ?_) (.inr hyl))
  obtain ⟨f0, f1, f2, f3, f4, f5⟩ := f
  have haC : C ≠ a := by
    rcases ha with z | z
    · rw [z]; exact f1
    · exact fun e => f4 y a z e.symm
  refine ⟨m, hn.sameBut sb haC, fun h3 sb3 => ?_⟩
  exact ⟨_, H', I2.turned (t' := s2.toks) (fun b o hb e => (sb3.2 b hb).trans e) f0 f1 f3 f4 f5, q⟩
theorem Ct.setDc (z : Ct BL GC X W N sc fb k) {i : Nat} {y : Str} {py spos : Pos} {kx vx : Expr} (own : List (Str × Nat)) (hi : SI X W tg iter mi) (h : (lcB' N sc scope own tg t && lcl N sc i y && swB (.DictComp kx vx [⟨tg, iter, ifs, 0⟩] scope pos) sc y py) = true)
    (ht : ∀ (s : Shared) (H : Hp) (C : Addr) (cl : List (Str × Addr)) (fp : List Addr), Ct BL GC (X.blk s H scope (compEnvC scope cl C X.env) fp) W0 N (rl scope sc) (fbk scope) k → STs (X.blk s H scope (compEnvC scope cl C X.env) fp) W0 ifs mt)
    (hk : ∀ (s : Shared) (H : Hp) (C : Addr) (cl : List (Str × Addr)) (fp : List Addr), Ct BL GC (X.blk s H scope (compEnvC scope cl C X.env) fp) W0 N (rl scope sc) (fbk scope) k → SE (X.blk s H scope (compEnvC scope cl C X.env) fp) W0 kx mk)
    (hv : ∀ (s : Shared) (H : Hp) (C : Addr) (cl : List (Str × Addr)) (fp : List Addr), Ct BL GC (X.blk s H scope (compEnvC scope cl C X.env) fp) W0 N (rl scope sc) (fbk scope) k → SE (X.blk s H scope (compEnvC scope cl C X.env) fp) W0 vx mv) (hs : noSet iter = true := by rfl) :
    SS X W (.Assign [.Name y py] (.DictComp kx vx [⟨tg, iter, ifs, 0⟩] scope pos) spos) (sAsg (mDc mi t mt mk mv (own.map (·.2))) (gN i)) := by
  simp only [lcB', lcl, Bool.and_eq_true, decide_eq_true_eq] at h
  obtain ⟨⟨h, h1, h2⟩, h3⟩ := h
  have ok := blkOk_by h.1.1
  refine PS.imp (ps_setDc (i := i) (wi := tG X.K X.mg (RI X.K X.mg) W mi) (g := gTg X.K t) (tt := tG X.K X.mg RB W0 mt) (tk := tG X.K X.mg (RD X.K X.mg) W0 mk) (tv := tG X.K X.mg (RD X.K X.mg) W0 mv) z.calm (by rw [z.hN]; exact z.nd) (by rw [z.hN]; exact h1) (by rw [z.hsc]; exact h2) (by rw [swB_ok (by rw [z.hsc]; exact z.kind), z.hsc, h3]) hi (by rw [z.hN, z.hsc]; exact ok) (fun s H C cl fp => (z.blk ok.kind s H C cl fp).sgT h.1.2) (fun s H C cl fp => ht s H C cl fp (z.blk ok.kind s H C cl fp)) (fun s H C cl fp => hk s H C cl fp (z.blk ok.kind s H C cl fp)) (fun s H C cl fp => hv s H C cl fp (z.blk ok.kind s H C cl fp)) (fun x => noSet_ok hs _ x)) fun Dn σ H q => ?_
  obtain ⟨ρ, e, st, rs, re, p⟩ := q
  refine dc_of (inOwn_ok h.2) σ H _ ⟨ρ, e, st, rs, re, (PostS.to p re).imp fun x H1 ⟨d, ρ1, st1, x1, rs1, rd1, p1⟩ => ?_⟩
  exact p1 ρ1 H1 _ .refl rs1 ((re.mono x1).set rd1)
variable {tg1 iter1 : Expr} {ifs1 : List Expr} {mi1 : Py.Loc → Store → R Iter} {mt1 : Py.Loc → Store → R Bool} {t1 : Tg}
def lc2B' (N : List Str) (sc scope : Scope) (own : List (Str × Nat)) (vs1 : List Nat) (tg : Expr) (t : Tg) (tg1 : Expr) (t1 : Tg) : Bool := lcB' N sc scope own tg t && tgOk N (fbk scope) (rl scope sc) tg1 t1 && inOwn t1 vs1 && vs1.all fun i => (own.map (·.2)).contains i
theorem Ct.lc2 (z : Ct BL GC X W N sc fb k) (own : List (Str × Nat)) (vs1 : List Nat) (hi : SI X W tg iter mi) (h : lc2B' N sc scope own vs1 tg t tg1 t1 = true)
    (ht : ∀ (s : Shared) (H : Hp) (C : Addr) (cl : List (Str × Addr)) (fp : List Addr), Ct BL GC (X.blk s H scope (compEnvC scope cl C X.env) fp) W0 N (rl scope sc) (fbk scope) k → STs (X.blk s H scope (compEnvC scope cl C X.env) fp) W0 ifs mt)
    (hi1 : ∀ (s : Shared) (H : Hp) (C : Addr) (cl : List (Str × Addr)) (fp : List Addr), Ct BL GC (X.blk s H scope (compEnvC scope cl C X.env) fp) W0 N (rl scope sc) (fbk scope) k → SI (X.blk s H scope (compEnvC scope cl C X.env) fp) W0 tg1 iter1 mi1)
    (ht1 : ∀ (s : Shared) (H : Hp) (C : Addr) (cl : List (Str × Addr)) (fp : List Addr), Ct BL GC (X.blk s H scope (compEnvC scope cl C X.env) fp) W0 N (rl scope sc) (fbk scope) k → STs (X.blk s H scope (compEnvC scope cl C X.env) fp) W0 ifs1 mt1)
    (he : ∀ (s : Shared) (H : Hp) (C : Addr) (cl : List (Str × Addr)) (fp : List Addr), Ct BL GC (X.blk s H scope (compEnvC scope cl C X.env) fp) W0 N (rl scope sc) (fbk scope) k → SE (X.blk s H scope (compEnvC scope cl C X.env) fp) W0 elt me) (hs : noSet iter = true := by rfl) (hs1 : noSet iter1 = true := by rfl) :
    SE X W (.ListComp elt [⟨tg, iter, ifs, 0⟩, ⟨tg1, iter1, ifs1, 0⟩] scope pos) (mLc2 mi t mt mi1 t1 mt1 me (own.map (·.2)) vs1) := by
  simp only [lc2B', lcB', Bool.and_eq_true, List.all_eq_true] at h
  obtain ⟨⟨⟨h, h1⟩, h2⟩, h3⟩ := h
  have ok := blkOk_by h.1.1
  exact PE.imp (pe_lc2 (wi := tG X.K X.mg (RI X.K X.mg) W mi) (g := gTg X.K t) (tt := tG X.K X.mg RB W0 mt) (wi1 := tG X.K X.mg (RI X.K X.mg) W0 mi1) (g1 := gTg X.K t1) (tt1 := tG X.K X.mg RB W0 mt1) (te := tG X.K X.mg (RD X.K X.mg) W0 me) z.calm (by rw [z.hN]; exact z.nd) hi (by rw [z.hN, z.hsc]; exact ok) (fun i hi => by simpa using h3 i hi) (fun s H C cl fp => (z.blk ok.kind s H C cl fp).sgT h.1.2) (fun s H C cl fp => ht s H C cl fp (z.blk ok.kind s H C cl fp)) (fun s H C cl fp => hi1 s H C cl fp (z.blk ok.kind s H C cl fp))
    (fun s H C cl fp => (z.blk ok.kind s H C cl fp).sgT h1) (fun s H C cl fp => ht1 s H C cl fp (z.blk ok.kind s H C cl fp)) (fun s H C cl fp => he s H C cl fp (z.blk ok.kind s H C cl fp)) (fun x => noSet_ok hs _ x) (fun env x => noSet_ok hs1 env x)) (lc2_of (inOwn_ok h.2) (inOwn_ok h2))
theorem Ct.setLc2 (z : Ct BL GC X W N sc fb k) {i : Nat} {y : Str} {py spos : Pos} (own : List (Str × Nat)) (vs1 : List Nat) (hi : SI X W tg iter mi) (h : (lc2B' N sc scope own vs1 tg t tg1 t1 && lcl N sc i y && swB (.ListComp elt [⟨tg, iter, ifs, 0⟩, ⟨tg1, iter1, ifs1, 0⟩] scope pos) sc y py) = true)
    (ht : ∀ (s : Shared) (H : Hp) (C : Addr) (cl : List (Str × Addr)) (fp : List Addr), Ct BL GC (X.blk s H scope (compEnvC scope cl C X.env) fp) W0 N (rl scope sc) (fbk scope) k → STs (X.blk s H scope (compEnvC scope cl C X.env) fp) W0 ifs mt)
    (hi1 : ∀ (s : Shared) (H : Hp) (C : Addr) (cl : List (Str × Addr)) (fp : List Addr), Ct BL GC (X.blk s H scope (compEnvC scope cl C X.env) fp) W0 N (rl scope sc) (fbk scope) k → SI (X.blk s H scope (compEnvC scope cl C X.env) fp) W0 tg1 iter1 mi1)
    (ht1 : ∀ (s : Shared) (H : Hp) (C : Addr) (cl : List (Str × Addr)) (fp : List Addr), Ct BL GC (X.blk s H scope (compEnvC scope cl C X.env) fp) W0 N (rl scope sc) (fbk scope) k → STs (X.blk s H scope (compEnvC scope cl C X.env) fp) W0 ifs1 mt1)
    (he : ∀ (s : Shared) (H : Hp) (C : Addr) (cl : List (Str × Addr)) (fp : List Addr), Ct BL GC (X.blk s H scope (compEnvC scope cl C X.env) fp) W0 N (rl scope sc) (fbk scope) k → SE (X.blk s H scope (compEnvC scope cl C X.env) fp) W0 elt me) (hs : noSet iter = true := by rfl) (hs1 : noSet iter1 = true := by rfl) :
    SS X W (.Assign [.Name y py] (.ListComp elt [⟨tg, iter, ifs, 0⟩, ⟨tg1, iter1, ifs1, 0⟩] scope pos) spos) (sAsg (mLc2 mi t mt mi1 t1 mt1 me (own.map (·.2)) vs1) (gN i)) := by
  simp only [lc2B', lcB', lcl, Bool.and_eq_true, decide_eq_true_eq, List.all_eq_true] at h
  obtain ⟨⟨⟨⟨⟨h, h1⟩, h2⟩, h3⟩, h4, h5⟩, h6⟩ := h
  have ok := blkOk_by h.1.1
  refine PS.imp (ps_setLc2 (i := i) (wi := tG X.K X.mg (RI X.K X.mg) W mi) (g := gTg X.K t) (tt := tG X.K X.mg RB W0 mt) (wi1 := tG X.K X.mg (RI X.K X.mg) W0 mi1) (g1 := gTg X.K t1) (tt1 := tG X.K X.mg RB W0 mt1) (te := tG X.K X.mg (RD X.K X.mg) W0 me) z.calm (by rw [z.hN]; exact z.nd) (by rw [z.hN]; exact h4) (by rw [z.hsc]; exact h5) (by rw [swB_ok (by rw [z.hsc]; exact z.kind), z.hsc, h6]) hi (by rw [z.hN, z.hsc]; exact ok) (fun i hi => by simpa using h3 i hi) (fun s H C cl fp => (z.blk ok.kind s H C cl fp).sgT h.1.2) (fun s H C cl fp => ht s H C cl fp (z.blk ok.kind s H C cl fp)) (fun s H C cl fp => hi1 s H C cl fp (z.blk ok.kind s H C cl fp))
    (fun s H C cl fp => (z.blk ok.kind s H C cl fp).sgT h1) (fun s H C cl fp => ht1 s H C cl fp (z.blk ok.kind s H C cl fp)) (fun s H C cl fp => he s H C cl fp (z.blk ok.kind s H C cl fp)) (fun x => noSet_ok hs _ x) (fun env x => noSet_ok hs1 env x)) fun Dn σ H q => ?_
  obtain ⟨ρ, e, st, rs, re, p⟩ := q
  refine lc2_of (inOwn_ok h.2) (inOwn_ok h2) σ H _ ⟨ρ, e, st, rs, re, (PostS.to p re).imp fun x H1 ⟨d, ρ1, st1, x1, rs1, rd1, p1⟩ => ?_⟩
  exact p1 ρ1 H1 _ .refl rs1 ((re.mono x1).set rd1)
end
end
/-! ### a def -/
structure Cf (BL : List Str) (GC : List (Str × D)) (X : Cx) (W : WX) (N : List Str) (sc : Scope) (k : Nat) : Prop extends Ct BL GC X W N sc (fun _ => true) k where
  ps : PassesOwn (model X.prog X.w) X.A X.env X.xe
section
variable {BL : List Str} {GC : List (Str × D)} {X : Cx} {W : WX} {N : List Str} {sc : Scope} {k : Nat} {pos : Pos}
theorem Cf.for_ (z : Cf BL GC X W N sc k) {tg iter : Expr} {body : List Stmt} {mi : Py.Loc → Store → R Iter} {g : D → Py.Loc → Store → Fl} {b : Py.Loc → Store → Fl} (hi : SI X W tg iter mi) (hg : SG X W tg g) (ht : Tgt g) (hb : SSs X W body b) (hs : noSet iter = true := by rfl) : SS X W (.For tg iter body [] pos) (sFor mi g b) :=
  ss_for z.ps z.calm hi hg ht hb fun x => noSet_ok hs _ x
theorem Cf.whl (z : Cf BL GC X W N sc k) {c : Expr} {body : List Stmt} {mc : Py.Loc → Store → R Bool} {b : Py.Loc → Store → Fl} (hc : ST X W c mc) (hb : SSs X W body b) : SS X W (.While c body [] pos) (sWh mc b) := ss_while z.ps hc hb
theorem sss_stuck {body : List Stmt} : SSs X W body (fun _ _ => .stuck) := ⟨fun pins s σ H Q I ⟨_, _, _, _, _, p⟩ => p.elim⟩
end
section
variable {P : Program} {w : World} {K : PySem.W.Frag} {mg : Str → Option Value} {base : Heap}
/-- what the laws' heads tell of a def -/
structure Def (K : PySem.W.Frag) (mg : Str → Option Value) (x : Str) (st : Stmt) (N ps : List Str) : Prop where
  ex : ∃ f fd, L2.Fun K x x st f fd ∧ mg x = some (.ref f) ∧ Binds K fd ps []
  sc : FnScope N ps (defScope st)
theorem Def.fn (BL : List Str) (GC : List (Str × D)) {x : Str} {st : Stmt} {N ps : List Str} (F : Def K mg x st N ps) {k : Nat} {mb : Py.Loc → Store → Fl} (hbl : ∀ x ∈ BL, mg x = none) (hgc : ∀ x d, (x, d) ∈ GC → ∃ u v, mg x = some u ∧ RelV v u ∧ ∀ ρ H, RD K mg ρ H d v)
    (hb : ∀ (X : Cx) (W : WX), X.prog = P → X.w = w → X.K = K → X.mg = mg → X.base = base → Cf BL GC X W N (defScope st) k → SSs X W (defBody st) mb) : FnD P w K mg base (k + 1) x ps.length (runD N mb) := by
  obtain ⟨f, fd, h1, h2, h3⟩ := F.ex
  refine fnD_of h1 h2 h3 F.sc fun X W e1 e2 e3 e4 e5 e6 e7 e8 e9 _ _ r t p => hb X W e1 e2 e3 e4 e5 { hN := e6, nd := F.sc.nd, hsc := e7, hfn := e8, kind := F.sc.kind, calm := e9, room := r, tk := t, bl := by rw [e4]; exact hbl, gc := by rw [e4, e3]; exact hgc, ps := p }
theorem Def.stuck {x : Str} {st : Stmt} {N ps : List Str} (F : Def K mg x st N ps) {k : Nat} : FnD P w K mg base (k + 1) x ps.length (runD N fun _ _ => .stuck) := by
  obtain ⟨f, fd, h1, h2, h3⟩ := F.ex
  exact fnD_of h1 h2 h3 F.sc fun X W _ _ _ _ _ _ _ _ _ _ _ _ _ _ => sss_stuck
end
end Py

set_option Elab.async false
set_option linter.all false
set_option maxRecDepth 100000
set_option maxHeartbeats 1000000
/-! sorting tuples of which some are empty -/
namespace PySem.W
open PySem PySem.Calls PyProof.Rows PySem.SeqAt
section
variable {A : Around} {s : Shared}
theorem call_tuple_lt {prog : Program} {w : World} {E : Value → Shared → Prop} {Q : Value → Shared → Prop} {l b : Addr} {items items2 : Array Value} {e r : Nat → Bool} (hl : s.heap.IsTuple l items) (hb : s.heap.IsTuple b items2)
    (he : ∀ j (h1 : j < items.size) (h2 : j < items2.size), EqAt A.in1 s items[j] items2[j] (e j)) (hr : ∀ j (h1 : j < items.size) (h2 : j < items2.size), e j = false → RcLt A.in1 s items[j] items2[j] (r j))
    (h : Q (.bool (firstLt e r (decide (items.size < items2.size)) (List.range (min items.size items2.size)))) s) : wpAny (model prog w) A (call (.builtin "tuple.__lt__") [.ref l, .ref b]) Q E s := by
  obtain ⟨⟨cls, dd, data, sl⟩, ho, hc, n, hd⟩ := id hl
  obtain ⟨⟨cls2, dd2, data2, sl2⟩, ho2, hc2, n2, hd2⟩ := id hb
  simp only at hc hd hc2 hd2
  subst hc hd hc2 hd2
  exact call_meets F.slot_tuple_lt ⟨_, ho, rfl⟩ F.entry_tuple_lt (F.args_tuple_lt_2 _ _) (tuple_ltAt l b items items2 n n2 dd dd2 sl sl2 e r) ⟨ho, ho2, he, hr, h⟩
def neT : PyData → Bool | .tuple (_ :: _) => true | _ => false
end
section
variable {prog : Program} {w : World} {A : Around} {s : Shared} {E : Value → Shared → Prop}
theorem oneLt_tup {xs ys : List PyData} {a b : Value} {as bs : List Addr} {Q : Bool → Shared → Prop} (ra : Reads s.heap a (.tuple xs) as) (rb : Reads s.heap b (.tuple ys) bs) (hal : alikeAll xs ys = true)
    (hu : A.units + min (PyData.depth (.tuple xs)) (PyData.depth (.tuple ys)) < cLine) (hq : Q (dataLt (.tuple xs) (.tuple ys)) s) : wpAny (model prog w) A (oneLt' true a b) Q E s := by
  cases ra with
  | @tuple l o vs n _ as₁ h1 h2 h3 h4 =>
    cases rb with
    | @tuple l' o' vs' n' _ bs₁ k1 k2 k3 k4 =>
      have n1 : vs.size = xs.length := by simpa using SeqAt.ReadsAll.length _ _ _ h4
      have n2 : vs'.size = ys.length := by simpa using SeqAt.ReadsAll.length _ _ _ k4
      rw [dataLt_tuple, ← firstLt_toks xs ys hal, ← n1, ← n2] at hq
      rw [oneLt'_eq]
      simp only [if_true]
      refine wpAny_bind (wpAny_cRoomFor (room_here hu) ?_)
      refine wpAny_bind (wpAny_callSpecialIfBound?_slot (T := "tuple") ⟨_, h1, h2⟩ F.slot_tuple_lt (call_tuple_lt (e := pairEq xs ys) (r := fun j => dataLt (xs.getD j .none) (ys.getD j .none)) ⟨_, h1, h2, _, h3⟩ ⟨_, k1, k2, _, k3⟩ (fun j j1 j2 => ?_) (fun j j1 j2 hj => ?_) ?_))
      · have := eqAt_alikeAll xs ys A.in1 s vs.toList vs'.toList _ _ h4 k4 hal (room_in hu) j (by simpa using j1) (by simpa using j2)
        simpa using this
      · have := rcLt_alikeAll xs ys A.in1 s vs.toList vs'.toList _ _ h4 k4 hal (room_in hu) j (by simpa using j1) (by simpa using j2) hj
        simpa using this
      · exact wpAny_truthy_bool hq
theorem firsts_mix {M : Model} : ∀ (vs : List Value) (ds : List PyData) {Q : List (Option Value) → Shared → Prop}, EachIs (fun v d => ∃ as, Reads s.heap v d as) vs ds → (∀ d, d ∈ ds → ∃ xs, d = .tuple xs) →
    (∀ fs : List (Option Value), fs.map Option.isSome = ds.map neT → Q fs s) → wpAny M A (vs.mapM firstOfTuple') Q E s
  | [], [], Q, _, _, h => by rw [List.mapM_nil]; exact wpAny_pure (h [] rfl)
  | v :: vs, d :: ds, Q, .cons ⟨as, r⟩ t, ht, h => by
    obtain ⟨xs, rfl⟩ := ht d (List.mem_cons_self ..)
    rw [List.mapM_cons]
    refine wpAny_bind ?_
    rw [kas_first_eq]
    cases r with
    | @tuple a o ys n _ _ ho hc hd hr =>
      refine wpAny_bind (Looks.here (show Looks M s.heap (typeOf (.ref a)) o.cls from (Looks.ld ho).andThen .now) ?_)
      rw [hc, if_neg (by first | decide | simp)]
      refine wpAny_bind (listItems_at ho hd (wpAny_pure ?_))
      refine wpAny_bind (firsts_mix vs ds (Q := fun bs s' => wpAny M A (pure (ys[0]? :: bs)) Q E s') t (fun d hd => ht d (List.mem_cons_of_mem _ hd)) fun fs hf => wpAny_pure (h _ ?_))
      rw [List.map_cons, List.map_cons, hf]
      congr 1
      have hl := SeqAt.ReadsAll.length _ _ _ hr
      cases xs with
      | nil =>
        have : ys[0]? = none := by
          rw [Array.getElem?_eq_none_iff]
          simp at hl
          simp [hl]
        rw [this]; rfl
      | cons x xs =>
        have hs : 0 < ys.size := by
          have : ys.toList.length = xs.length + 1 := by rw [hl]; rfl
          rw [Array.length_toList] at this
          omega
        rw [Array.getElem?_eq_getElem hs]; rfl
theorem kind_mix {vs : List Value} {ds : List PyData} {Q : SortKind → Shared → Prop} (e : EachIs (fun v d => ∃ as, Reads s.heap v d as) vs ds) (ht : ∀ d, d ∈ ds → ∃ xs, d = .tuple xs) (hne : ds.all neT = false) (h1 : (ds.map neT)[0]? = some true → Q general' s) (h2 : (ds.map neT)[0]? = some false → Q oneType' s) :
    wpAny (model prog w) A (keyKind' vs.toArray) Q E s := by
  rw [keyKind'_eq, List.mapM_toArray, map_eq_pure_bind]
  refine wpAny_bind (wpAny_bind (firsts_mix vs ds e ht fun fs hf => wpAny_pure ?_))
  have hall : (fs.toArray.all fun x => x.isSome) = false := by
    rw [List.all_toArray]
    have e1 : (fs.all fun x => x.isSome) = (fs.map Option.isSome).all id := by rw [List.all_map]; rfl
    rw [e1, hf, List.all_map]
    exact hne
  rw [if_neg (by rw [hall]; exact Bool.false_ne_true)]
  have hh : (fs.toArray[0]?.bind id).isSome = ((ds.map neT)[0]?.getD false) := by
    rw [← hf, List.getElem?_toArray, List.getElem?_map]
    cases fs with
    | nil => rfl
    | cons f fs => cases f <;> rfl
  rw [hh]
  cases hd : (ds.map neT)[0]? with
  | none =>
    cases ds with
    | nil => simp at hne
    | cons d ds => simp at hd
  | some b =>
    cases b with
    | true => exact wpAny_pure (h1 hd)
    | false =>
      rw [Option.getD_some, if_neg Bool.false_ne_true, oneTypeOnly'_eq, List.mapM_toArray, map_eq_pure_bind]
      have hT : ∀ v ∈ vs, Looks (model prog w) s.heap (typeOf v) (.type "tuple") := fun v hv => by
        obtain ⟨d, hd, as, r⟩ := e.left v hv
        obtain ⟨xs, rfl⟩ := ht d hd
        exact looks_reads r
      refine wpAny_bind (wpAny_bind (wpAny_bind (kas_mapM (r := .type "tuple") _ (fun v hv Q' hq => (hT v hv).here hq) (wpAny_pure ?_))))
      have hvs : vs ≠ [] := fun z => by
        subst z
        cases e
        simp at hne
      obtain ⟨v, vr, rfl⟩ := List.exists_cons_of_ne_nil hvs
      have hall : ((List.map (fun _ => Value.type "tuple") (v :: vr)).toArray.all fun x => x == Value.type "tuple") = true := by
        simp only [List.all_toArray, List.all_map, List.all_eq_true]
        intro _ _
        rfl
      have h0 : (List.map (fun _ => Value.type "tuple") (v :: vr)).toArray[0]? = some (Value.type "tuple") := by simp
      rw [h0]
      simp only [hall, if_true]
      exact wpAny_pure (wpAny_pure (h2 hd))
/-- tuples of any lengths can be sorted -/
theorem SortsAt.tups {vs : List Value} {ds : List PyData} (e : EachIs (fun v d => ∃ as, Reads s.heap v d as) vs ds) (hal : AllAlike ds) (ht : ∀ d, d ∈ ds → ∃ xs, d = .tuple xs) (hu : ∀ d, d ∈ ds → A.units + d.depth < cLine) : SortsAt prog w A s (dataKind s.heap ds) vs := by
  cases hne : ds.all neT with
  | true =>
    refine SortsAt.data e hal (.inl fun d hd => ?_) hu
    rw [List.all_eq_true] at hne
    have q := hne d hd
    obtain ⟨xs, rfl⟩ := ht d hd
    cases xs with
    | nil => cases q
    | cons x r => exact ⟨x, r, rfl⟩
  | false =>
    have room : ∀ {d d' : PyData}, d ∈ ds → A.units + min d.depth d'.depth < cLine := fun {d d'} hd => Nat.lt_of_le_of_lt (Nat.add_le_add_left (Nat.min_le_left _ _) _) (hu d hd)
    refine ⟨fun v hv => ?_, ?_⟩
    · obtain ⟨d, hd, as, r⟩ := e.left v hv
      exact ⟨_, dataKind_some hal hd r⟩
    · cases h0 : (ds.map neT)[0]? with
      | none =>
        cases ds with
        | nil => simp at hne
        | cons d ds => simp at h0
      | some b =>
        cases b with
        | true =>
          refine ⟨general', ?_, fun _ E Q hq => kind_mix e ht hne (fun _ => hq) fun z => by rw [h0] at z; cases z⟩
          intro E x y a b Q ha hb hq
          obtain ⟨d, as, hd, ra, rfl⟩ := dataKind_inv ha
          obtain ⟨d', as', hd', rb, rfl⟩ := dataKind_inv hb
          show wpAny _ _ (oneLt' false x y) _ _ _
          refine oneLt_alike (fun z => by cases z) ra rb (hal d hd d' hd') (fun z => ?_) (room hd) hq
          obtain ⟨xs, e1⟩ := ht d hd
          rw [z] at e1; cases e1
        | false =>
          refine ⟨oneType', ?_, fun _ E Q hq => kind_mix e ht hne (fun z => by rw [h0] at z; cases z) fun _ => hq⟩
          intro E x y a b Q ha hb hq
          obtain ⟨d, as, hd, ra, rfl⟩ := dataKind_inv ha
          obtain ⟨d', as', hd', rb, rfl⟩ := dataKind_inv hb
          rw [keyLt'_oneType]
          have hdd := hal d hd d' hd'
          have hr := room (d' := d') hd
          obtain ⟨xs, rfl⟩ := ht d hd
          obtain ⟨ys, rfl⟩ := ht d' hd'
          exact oneLt_tup ra rb (by simpa [alike] using hdd) hr hq
/-- sorted(xs) of tuples of any lengths -/
theorem sorted_tups {β : Type} {vs : List Value} {bs : List β} {enc : β → PyData} {R : Value → β → Prop} {l : Addr} {Q : Value → Shared → Prop} (hl : s.heap.IsList l vs.toArray) (e : EachIs R vs bs) (er : EachIs (fun v b => ∃ as, Reads s.heap v (enc b) as) vs bs) (hal : AllAlike (bs.map enc)) (hk : ∀ d, d ∈ bs.map enc → ∃ xs, d = .tuple xs) (hL : bs.length ≤ sizeLine)
    (hu : ∀ b, b ∈ bs → A.units + 2 + (enc b).depth < cLine) (h : ∀ out, out.length = bs.length → EachIs R out (bs.mergeSort (dataLe false enc)) → Q (.ref (s.heap.objs.size + 1)) { s with heap := sortedAll s.heap vs (List.toArray out) }) :
    wpAny (model prog w) A (call (.builtin "sorted") [.ref l]) Q E s := by
  have er' : EachIs (fun v b => ∃ as, Reads (sortingHeap (copyHeap s.heap vs) (s.heap.objs.size + 1) vs) v (enc b) as) vs bs := er.mono fun _ _ ⟨as, r⟩ => ⟨as, PyProof.Rows.Reads.keeps (fun _ _ => sorting_copy_old) r⟩
  exact sorted_vals hl (SortsAt.tups (s := { s with heap := sortingHeap (copyHeap s.heap vs) (s.heap.objs.size + 1) vs }) (each_map (R := fun v d => ∃ as, Reads (sortingHeap (copyHeap s.heap vs) (s.heap.objs.size + 1) vs) v d as) enc er') hal hk (bound_map hu)) (by rw [e.length]; exact hL)
    (h _ (by rw [sortVals_length false rfl]; exact e.length) (sortVals_data false e er' hal))
end
end PySem.W

set_option Elab.async false
set_option linter.all false
set_option maxRecDepth 100000
set_option maxHeartbeats 1000000
namespace Py
open L2 PySem PySem.Spec PyProof.Rows
/-! ### sorted -/
def pysOf (st : Store) : List D → Option (List (D × PyData))
  | [] => some []
  | d :: ds => match toPy st d, pysOf st ds with | some p, some ps => some ((d, p) :: ps) | _, _ => none
def Sorts (ps : List (D × PyData)) : Prop := PySem.W.AllAlike (ps.map (·.2)) ∧ ((∀ p ∈ ps, ∃ xs, p.2 = .tuple xs) ∨ ∀ p ∈ ps, p.2 ≠ .none ∧ ∀ xs, p.2 ≠ .tuple xs) ∧ (∀ p ∈ ps, p.2.depth ≤ 64) ∧ ps.length ≤ sizeLine
def sortP (ps : List (D × PyData)) : List D := (ps.mergeSort (PySem.W.dataLe false (·.2))).map (·.1)
open Classical in
noncomputable def sortD : List D → Store → Option (D × Store)
  | [.ref n], st => (match getL st n with | some ds => (match pysOf st ds with | some ps => if Sorts ps then some (.ref st.length, st ++ [.lst (sortP ps)]) else none | none => none) | none => none)
  | _, _ => none
section
variable {K : PySem.W.Frag} {mg : Str → Option Value} {ρ : List Addr} {H : Hp} {st : Store}
/-- the items with their values and data -/
theorem triples {ds : List D} {vs : List V} {ps : List (D × PyData)} (rs : RS K mg ρ H st) (h : RDs K mg ρ H ds vs) (e : pysOf st ds = some ps) :
    ∃ bs : List (D × V × PyData), bs.map (·.1) = ds ∧ bs.map (·.2.1) = vs ∧ bs.map (fun b => (b.1, b.2.2)) = ps ∧ ∀ b ∈ bs, RD K mg ρ H b.1 b.2.1 ∧ Dp K H b.2.1 b.2.2 := by
  induction ds generalizing vs ps with
  | nil => simp only [RDs] at h; subst h; cases e; exact ⟨[], rfl, rfl, rfl, fun b hb => by cases hb⟩
  | cons d ds ih =>
    obtain ⟨v, vr, rfl, h1, h2⟩ := h.uncons
    simp only [pysOf] at e
    split at e
    · rename_i p pr e1 e2
      cases e
      obtain ⟨bs, b1, b2, b3, b4⟩ := ih h2 e2
      refine ⟨(d, v, p) :: bs, by rw [List.map_cons, b1], by rw [List.map_cons, b2], by rw [List.map_cons, b3], fun b hb => ?_⟩
      rcases List.mem_cons.mp hb with rfl | hb
      · exact ⟨h1, toPy_dp rs h1 e1⟩
      · exact b4 b hb
    · cases e
theorem rds_of_map {bs : List (D × V × PyData)} (h : ∀ b ∈ bs, RD K mg ρ H b.1 b.2.1) : RDs K mg ρ H (bs.map (·.1)) (bs.map (·.2.1)) := by
  induction bs with
  | nil => exact .nil
  | cons b bs ih => exact .cons (h b List.mem_cons_self) (ih fun b' hb => h b' (List.mem_cons_of_mem _ hb))
end
theorem vals_each {bs : List (D × V × PyData)} {its : List Value} (h : Vals (bs.map (·.2.1)) its) : PySem.W.EachIs (fun (u : Value) (b : D × V × PyData) => RelV b.2.1 u) its bs := by
  induction bs generalizing its with
  | nil => cases h; exact .nil
  | cons b bs ih => cases h with | cons r t => exact .cons r (ih t)
theorem each_vals {bs : List (D × V × PyData)} {its : List Value} (h : PySem.W.EachIs (fun (u : Value) (b : D × V × PyData) => RelV b.2.1 u) its bs) : Vals (bs.map (·.2.1)) its := by
  induction h with
  | nil => exact .nil
  | cons r t ih => exact .cons r ih
theorem each_and {α β : Type} {R : α → β → Prop} {P : β → Prop} {as : List α} {bs : List β} (h : PySem.W.EachIs R as bs) (k : ∀ b ∈ bs, P b) : PySem.W.EachIs (fun a b => R a b ∧ P b) as bs := by
  induction h with
  | nil => exact .nil
  | cons r t ih => exact .cons ⟨r, k _ List.mem_cons_self⟩ (ih fun b hb => k b (List.mem_cons_of_mem _ hb))
section
variable {X : Cx}
theorem ok_sorted (hu : X.A.units + 100 < cLine) : CallR X (.builtin "sorted") (rN X.K X.mg sortD) := by
  intro pins s σ H xs us Q I r ⟨ρ, st, ds, rs, h, p⟩
  unfold sortD at p
  split at p
  · rename_i n
    obtain ⟨x, rfl, h1⟩ := rds_one h
    split at p
    · rename_i ds e
      split at p
      · rename_i ps e2
        split at p
        · rename_i hS
          obtain ⟨a, vs, rfl, _, hq, rd⟩ := seq_at rs h1 e
          obtain ⟨bs, b1, b2, b3, b4⟩ := triples rs rd e2
          obtain ⟨its, rv, hl, _⟩ := I.list hq
          rw [Vals.ref1 r]
          rw [← b2] at rv
          have hb3 : bs.map (·.2.2) = ps.map (·.2) := by rw [← b3, List.map_map]; rfl
          have hlen : bs.length = ps.length := by rw [← b3, List.length_map]
          have ee := vals_each rv
          have er : PySem.W.EachIs (fun u (b : D × V × PyData) => ∃ as, Reads s.heap u b.2.2 as) its bs := (each_and ee (P := fun b => Dp X.K H b.2.1 b.2.2) fun b hb => (b4 b hb).2).mono fun u b ⟨q1, q2⟩ => Dp.reads I _ _ u q2 q1
          have hL : bs.length ≤ sizeLine := by rw [hlen]; exact hS.2.2.2
          have hmem : ∀ b ∈ bs, (b.1, b.2.2) ∈ ps := fun b hb => by rw [← b3]; exact List.mem_map.mpr ⟨b, hb, rfl⟩
          have hdep : ∀ b, b ∈ bs → X.A.units + 2 + b.2.2.depth < cLine := fun b hb => by have := hS.2.2.1 _ (hmem b hb); simp only at this; omega
          have fin : ∀ out : List Value, out.length = bs.length → PySem.W.EachIs (fun (u : Value) (b : D × V × PyData) => RelV b.2.1 u) out (bs.mergeSort (PySem.W.dataLe false fun b => b.2.2)) →
              EP X pins σ Q (.ref (s.heap.objs.size + 1)) { s with heap := PyProof.Rows.sortedAll s.heap its (List.toArray out) } := fun out ho eo => by
            obtain ⟨ep, he'⟩ := PyProof.Rows.sortedAll_at s.heap its out.toArray
            have hv := each_vals eo
            have hq0 : H (s.heap.objs.size + 1) = none := I.hok.fresh (Nat.le_succ _)
            have hsub : ∀ b ∈ bs.mergeSort (PySem.W.dataLe false fun b => b.2.2), RD X.K X.mg ρ H b.1 b.2.1 := fun b hb => (b4 b (List.mem_mergeSort.mp hb)).1
            have hln : ((bs.mergeSort (PySem.W.dataLe false fun b => b.2.2)).map (·.2.1)).length ≤ sizeLine := by rw [List.length_map, List.length_mergeSort]; exact hL
            refine ⟨.ref (s.heap.objs.size + 1), upd H (s.heap.objs.size + 1) (.lst ((bs.mergeSort (PySem.W.dataLe false fun b => b.2.2)).map (·.2.1))), I.laid (t' := s.toks) (fun _ _ => PyProof.Rows.sortedAll_old) (Nat.le_succ _) ⟨hln, out, ep, hv, he'⟩, rfl, ?_⟩
            obtain ⟨a1, a2⟩ := newLst rs (rds_of_map hsub) hq0
            have hso : (bs.mergeSort (PySem.W.dataLe false fun b => b.2.2)).map (·.1) = sortP ps := by
              unfold sortP
              have hm := List.map_mergeSort (r := PySem.W.dataLe false fun (b : D × V × PyData) => b.2.2) (s := PySem.W.dataLe false fun (b : D × PyData) => b.2) (f := fun b => (b.1, b.2.2)) (l := bs) (fun a _ b _ => rfl)
              rw [← b3, ← hm, List.map_map]
              rfl
            rw [hso] at a1
            exact p _ _ _ (Ext.push hq0) a1 a2
          rcases hS.2.1 with ht | hn
          · exact PySem.W.sorted_tups (bs := bs) (enc := fun b => b.2.2) hl.isList ee er (by rw [hb3]; exact hS.1) (fun d hd => by rw [hb3] at hd; obtain ⟨q, hq, rfl⟩ := List.mem_map.mp hd; exact ht q hq) hL hdep fin
          · exact PySem.W.sorted_data (bs := bs) (enc := fun b => b.2.2) hl.isList ee er (by rw [hb3]; exact hS.1) (.inr fun d hd => by rw [hb3] at hd; obtain ⟨q, hq, rfl⟩ := List.mem_map.mp hd; exact hn q hq) hL hdep fin
        · exact p.elim
      · exact p.elim
    · exact p.elim
  · exact p.elim
end
section
variable {BL : List Str} {GC : List (Str × D)} {X : Cx} {W : WX} {N : List Str} {sc : Scope} {fb : Str → Bool} {k : Nat} {pos : Pos} {a : Expr} {ma : Py.Loc → Store → R D}
theorem Ct.sorted (z : Ct BL GC X W N sc fb k) {p : Pos} (ha : SE X W a ma) (h : blB BL sc "sorted" = true) (hs : noStar a = true := by rfl) : SE X W (.Call (.Name "sorted" p) [a] [] pos) (mOpN sortD (mCons ma mNil)) := z.cb (ok_sorted (by have := z.room.un; omega)) (by decide +kernel) h (al_cons ha al_nil hs)
end
end Py

set_option Elab.async false
set_option linter.all false
set_option maxRecDepth 100000
set_option maxHeartbeats 1000000
namespace Py
open L2 PySem PySem.Spec PyProof.Rows
/-! ### what a text's head has written, and the end -/
section
variable {K : PySem.W.Frag} {mg : Str → Option Value} {h : Heap}
theorem def_mk {x : Str} {st : Stmt} {N ps : List Str} {f : Addr} {od an : Option Addr} {sl : Array (Option Value)} {oc kV dc pm cd ct : Value} (X : K.In h) (G : h.Ns mainGlobals mg) (a : PySem.W.nsIn K mainGlobals x = some (some (.ref f)))
    (l : K.lookup f = some ⟨oc, od, .func (PySem.W.fnOf x x (defArgs st) (defBody st) (defScope st) .none kV dc pm an cd ct), sl⟩) (c : PySem.W.codeIn K cd x = true) (k : PySem.W.keepIn K (.ref f) = true) (S : FnScope N ps (defScope st))
    (hb : ∀ (kV doc pm : Value) (an : Option Addr) (cdv ct : Value) (us : List Value), us.length = ps.length → bindArgs (PySem.W.fnOf x x (defArgs st) (defBody st) (defScope st) .none kV doc pm an cdv ct) ⟨us, []⟩ = pure (ps.zip us)) : Def K mg x st N ps :=
  ⟨⟨f, _, fun_mk (st := st) l c k, PySem.W.mg_of X G a, (fun_mk (st := st) l c k).binds hb⟩, S⟩
def GcAt (K : PySem.W.Frag) (mg : Str → Option Value) (x : Str) (d : D) : Prop := ∃ u v, mg x = some u ∧ RelV v u ∧ ∀ ρ H, RD K mg ρ H d v
theorem gc_nil : ∀ x d, (x, d) ∈ ([] : List (Str × D)) → GcAt K mg x d := fun x d h => by cases h
theorem gc_cons {y : Str} {e : D} {l : List (Str × D)} (h : GcAt K mg y e) (t : ∀ x d, (x, d) ∈ l → GcAt K mg x d) : ∀ x d, (x, d) ∈ (y, e) :: l → GcAt K mg x d := fun x d hm => by
  rcases List.mem_cons.mp hm with q | q
  · cases q; exact h
  · exact t x d q
theorem gc_int {x : Str} {i : Int} {t : Tok} (h : mg x = some (.int i t)) : GcAt K mg x (.int i) := ⟨_, .int i, h, ⟨t, rfl⟩, fun ρ H => by simp only [RD]⟩
theorem gc_str {x : Str} {i : Str} {t : Tok} (h : mg x = some (.str i t)) : GcAt K mg x (.str i) := ⟨_, .str i, h, ⟨t, rfl⟩, fun ρ H => by simp only [RD]⟩
theorem gc_bl {x : Str} {i : Bool} (h : mg x = some (.bool i)) : GcAt K mg x (.bl i) := ⟨_, .bl i, h, rfl, fun ρ H => by simp only [RD]⟩
theorem gc_tup {x : Str} {ds : List D} {vs : List V} {a : Addr} {od : Option Addr} {its : Array Value} {n : Nat} {sl : Array (Option Value)} (h : mg x = some (.ref a)) (l : K.lookup a = some ⟨.type "tuple", od, .seq its n, sl⟩) (hs : its.size ≤ sizeLine)
    (hv : Vals vs its.toList) (hd : ∀ ρ H, RDs K mg ρ H ds vs) : GcAt K mg x (.kt ds) := ⟨_, .ref a, h, rfl, fun ρ H => by simp only [RD]; exact ⟨a, vs, _, its, n, rfl, ⟨l, rfl, rfl, hs, hv⟩, hd ρ H⟩⟩
theorem bl_nil : ∀ x ∈ ([] : List Str), mg x = none := fun x h => by cases h
theorem bl_cons {y : Str} {l : List Str} (h : mg y = none) (t : ∀ x ∈ l, mg x = none) : ∀ x ∈ y :: l, mg x = none := fun x hm => by
  rcases List.mem_cons.mp hm with rfl | q
  · exact h
  · exact t x q
/-- what a law promises -/
def spLaw (K : PySem.W.Frag) : Sp := fun vs H Q _ => ∃ (a : Addr) (ns : List Int), vs = [.ref a] ∧ SqL K H a (ns.map V.int) ∧ Only H ∧ ns.length ≤ 63 ∧ ∀ H', Q (.bl true) H'
def intsD (ns : List Int) : List D := ns.map .int
theorem rds_ints {ρ : List Addr} {H : Hp} : ∀ ns : List Int, RDs K mg ρ H (intsD ns) (ns.map V.int)
  | [] => .nil
  | n :: ns => .cons (by simp only [RD]) (rds_ints ns)
def Holds1 (m : Mean) (ds : List D) (st : Store) : Prop := ∃ st', m ds st = .ok (.bl true) st'
theorem law_end {m : Mean} (h1 : ∀ ns : List Int, ns.length ≤ 63 → Holds1 m [.ref 0] [.frz (intsD ns)]) (h2 : ∀ ns : List Int, ns.length ≤ 63 → Holds1 m [.kl (intsD ns)] []) (vs : List V) (H : Hp) (Q : VK) (E : XK) (h : spLaw K vs H Q E) : spD K mg 1 m vs H Q E := by
  obtain ⟨a, ns, rfl, hq, ho, hl, q⟩ := h
  refine ⟨rfl, ?_⟩
  have post : ∀ {ds : List D} {st : Store} (ρ : List Addr), Holds1 m ds st → Post K mg (RD K mg) (fun cls dd _ H => E cls dd H) [] Q ρ H (m ds st) := fun ρ ⟨st', e⟩ => by
    rw [e]
    intro ρ' H' v _ _ r
    simp only [RD] at r
    rw [r]; exact q H'
  rcases hq with (hr | ⟨o, hr⟩) | ⟨o, its, n, hk⟩
  · rcases ho a with z | ⟨o, xs, z⟩
    · rw [hr] at z; cases z
    · rw [hr] at z; cases z
  · refine ⟨[a], [.frz (intsD ns)], [.ref 0], ⟨rfl, by simp, fun i b o e1 e2 => ?_⟩, .cons (by simp only [RD]; exact ⟨a, rfl, rfl⟩) .nil, post [a] (h1 ns hl)⟩
    cases i with
    | zero => cases e1; cases e2; exact ⟨o, _, hr, rds_ints ns⟩
    | succ i => cases e1
  · refine ⟨[], [], [.kl (intsD ns)], ⟨rfl, .nil, fun i b o e1 e2 => by cases e1⟩, .cons ?_ .nil, post [] (h2 ns hl)⟩
    simp only [RD]
    exact ⟨a, _, o, its, n, rfl, hk, rds_ints ns⟩
theorem fnOk_law {P : Program} {w : World} {base : Heap} (BL : List Str) (GC : List (Str × D)) {x : Str} {st : Stmt} {N : List Str} {p : Str} {f : Addr} {fd : FuncData} (F : L2.Fun K x x st f fd) (S : FnScope N [p] (defScope st)) {k : Nat} {mb : Py.Loc → Store → Fl} (hbl : ∀ x ∈ BL, mg x = none) (hgc : ∀ x d, (x, d) ∈ GC → GcAt K mg x d)
    (hb : ∀ (X : Cx) (W : WX), X.prog = P → X.w = w → X.K = K → X.mg = mg → X.base = base → Cf BL GC X W N (defScope st) k → SSs X W (defBody st) mb)
    (h1 : ∀ ns : List Int, ns.length ≤ 63 → Holds1 (runD N mb) [.ref 0] [.frz (intsD ns)]) (h2 : ∀ ns : List Int, ns.length ≤ 63 → Holds1 (runD N mb) [.kl (intsD ns)] []) : FnOk P w K mg base (L2.CX P w) (k + 1) f fd [p] (spLaw K) :=
  (fn_sound F S fun X W e1 e2 e3 e4 e5 e6 e7 e8 e9 _ _ r t p => hb X W e1 e2 e3 e4 e5 { hN := e6, nd := S.nd, hsc := e7, hfn := e8, kind := S.kind, calm := e9, room := r, tk := t, bl := by rw [e4]; exact hbl, gc := by rw [e4, e3]; exact hgc, ps := p }).imp (law_end h1 h2)
theorem no_cx {P : Program} {w : World} (H : Hp) (s : Shared) (e : Value) (s' : Shared) (h : L2.CX P w [] H s (fun _ _ _ => False) e s') : False := by
  obtain ⟨_, _, _, _, _, _, _, _, _, _, _, _, h⟩ := h
  exact h
end
end Py

set_option Elab.async false
set_option linter.all false
set_option maxRecDepth 100000
set_option maxHeartbeats 1000000
namespace Py
open L2 PySem PySem.Spec PyProof.Rows
/-! ### reading meanings: one row a rule -/
section
variable {e : Py.Loc} {st : Store} {ma mb mc : Py.Loc → Store → R D} {ml mr : Py.Loc → Store → R (List D)} {ta tb : Py.Loc → Store → R Bool}
@[simp] theorem x_var {i : Nat} {d : D} (h : e[i]? = some (some d)) : mVar i e st = .ok d st := by unfold mVar; rw [h]
@[simp] theorem x_c (d : D) : mC d e st = .ok d st := (rfl)
@[simp] theorem x_op2 (f : D → D → Store → Option (D × Store)) : mOp2 f ma mb e st = (ma e st).bind fun x st => (mb e st).bind fun y st => ofO (f x y st) := (rfl)
@[simp] theorem x_op1 (f : D → Store → Option (D × Store)) : mOp1 f ma e st = (ma e st).bind fun x st => ofO (f x st) := (rfl)
@[simp] theorem x_opN (f : List D → Store → Option (D × Store)) : mOpN f ml e st = (ml e st).bind fun xs st => ofO (f xs st) := (rfl)
@[simp] theorem x_nil : mNil e st = .ok [] st := (rfl)
@[simp] theorem x_cons : mCons ma ml e st = (ma e st).bind fun x st => (ml e st).bind fun xs st => .ok (x :: xs) st := (rfl)
@[simp] theorem x_call (m : Mean) : mCall m ml e st = (ml e st).bind m := (rfl)
@[simp] theorem x_asB : asB ma e st = (ma e st).bind fun d st => match d with | .bl b => .ok b st | _ => .stuck := (rfl)
@[simp] theorem x_and : mAnd ta tb e st = (ta e st).bind fun c st => if c = true then tb e st else .ok false st := (rfl)
@[simp] theorem x_or : mOr ta tb e st = (ta e st).bind fun c st => if c = true then .ok true st else tb e st := (rfl)
@[simp] theorem x_not : mNot ta e st = (ta e st).bind fun c st => .ok (!c) st := (rfl)
@[simp] theorem x_andV : mAndV ma mb e st = (ma e st).bind fun d st => match d with | .bl true => mb e st | .bl false => .ok (.bl false) st | _ => .stuck := (rfl)
@[simp] theorem x_orV : mOrV ma mb e st = (ma e st).bind fun d st => match d with | .bl true => .ok (.bl true) st | .bl false => mb e st | _ => .stuck := (rfl)
@[simp] theorem x_notV : mNotV ma e st = (ma e st).bind fun d st => match d with | .bl b => .ok (.bl (!b)) st | _ => .stuck := (rfl)
@[simp] theorem x_if : mIf ta ma mb e st = (ta e st).bind fun c st => if c = true then ma e st else mb e st := (rfl)
@[simp] theorem x_chain (f g : D → D → Store → Option (D × Store)) : mChain f g ma mb mc e st =
  (ma e st).bind fun x st => (mb e st).bind fun y st => (ofO (f x y st)).bind fun z st => match z with | .bl true => (mc e st).bind fun w st => ofO (g y w st) | .bl false => .ok (.bl false) st | _ => .stuck := (rfl)
@[simp] theorem x_isi (cs : List String) : mIsi ma cs e st = (ma e st).bind fun d st => match tyName d st with | some t => .ok (.bl (cs.any fun c => isT t c)) st | none => .stuck := (rfl)
@[simp] theorem x_sl (m1 m2 : Py.Loc → Store → R (Option Int)) : mSl ma m1 m2 e st = (ma e st).bind fun d st => (m1 e st).bind fun lo st => (m2 e st).bind fun hi st => ofO (cutD d lo hi st) := (rfl)
@[simp] theorem x_noP : mNoP e st = .ok none st := (rfl)
@[simp] theorem x_P : mP ma e st = (ma e st).bind fun d st => match d with | .int i => .ok (some i) st | _ => .stuck := (rfl)
@[simp] theorem x_yes : mYes e st = .ok true st := (rfl)
@[simp] theorem x_newD : mNewD e st = .ok (.ref st.length) (st ++ [.dict []]) := (rfl)
theorem x_tup : mTup ml e st = (ml e st).bind fun ds st => if ds.length ≤ sizeLine then .ok (.tup ds) st else .stuck := (rfl)
theorem x_lst : mLst ml e st = (ml e st).bind fun ds st => if ds.length ≤ sizeLine then .ok (.ref st.length) (st ++ [.lst ds]) else .stuck := (rfl)
@[simp] theorem x_mt (f : D → List D → Store → Option (D × Store)) : mMt f ma ml e st = (ma e st).bind fun o st => if isLst o st = true then (ml e st).bind fun ds st => ofO (f o ds st) else .stuck := (rfl)
@[simp] theorem x_mtS (f : D → List D → Store → Option (D × Store)) : mMtS f ma mb e st = (ma e st).bind fun o st => match o with | .str z => (mb e st).bind fun d st => ofO (f (.str z) [d] st) | _ => .stuck := (rfl)
@[simp] theorem x_it : mIt ma e st = (ma e st).bind fun d st => match itD d st with | some it => .ok it st | none => .stuck := (rfl)
@[simp] theorem x_en : mEn ma e st = (ma e st).bind fun d st => match enD d st with | some it => .ok it st | none => .stuck := (rfl)
@[simp] theorem x_rv : mRv ma e st = (ma e st).bind fun d st => match rvD d st with | some it => .ok it st | none => .stuck := (rfl)
theorem x_rgs : mRgs ml e st = (ml e st).bind fun ds st => match rgIt ds with | some it => .ok it st | none => .stuck := (rfl)
@[simp] theorem x_zp : mZp ml e st = (ml e st).bind fun ds st => match zpD ds st with | some it => .ok it st | none => .stuck := (rfl)
variable {m1 m2 : Py.Loc → Store → Fl} {g : D → Py.Loc → Store → Fl} {mi : Py.Loc → Store → R Iter}
@[simp] theorem y_seq : sSeq m1 m2 e st = (m1 e st).seq m2 := (rfl)
@[simp] theorem y_if : sIf ta m1 m2 e st = (ta e st).to e fun c st => if c = true then m1 e st else m2 e st := (rfl)
@[simp] theorem y_ret : sRet ma e st = (ma e st).to e fun d st => .rt d st := (rfl)
@[simp] theorem y_exp : sExp ma e st = (ma e st).to e fun _ st => .nx e st := (rfl)
@[simp] theorem y_asg : sAsg ma g e st = (ma e st).to e fun d st => (g d e st).seq fun e st => .nx e st := (rfl)
@[simp] theorem y_gN (i : Nat) (d : D) : gN i d e st = .nx (e.set i (some d)) st := (rfl)
@[simp] theorem y_par2 (i j : Nat) : sPar2 i j ml e st = (ml e st).to e fun ds st => match ds with | [a, b] => .nx ((e.set i (some a)).set j (some b)) st | _ => .stuck := (rfl)
@[simp] theorem y_par3 (i j l : Nat) : sPar3 i j l ml e st = (ml e st).to e fun ds st => match ds with | [a, b, c] => .nx (((e.set i (some a)).set j (some b)).set l (some c)) st | _ => .stuck := (rfl)
@[simp] theorem y_for (b : Py.Loc → Store → Fl) : sFor mi g b e st = (mi e st).to e fun it st => forL it.still (fun d e st => (g d e st).seq b) it.items e st := (rfl)
@[simp] theorem y_sub (f : D → D → D → Store → Option Store) (d : D) : gSb f ma mb d e st = (ma e st).to e fun o st => (mb e st).to e fun i st => match f o i d st with | some st => .nx e st | none => .stuck := (rfl)
end
/-! ### what a def hands back -/
theorem gc_low {st st' : Store} {d : D} (h : ∀ i, i < st.length → (st'[i]? = st[i]? ∨ ∃ o, st'[i]? = some o ∧ lowO st.length o = true)) (l : lowD st.length d = true) : gc st d st' = (d, st'.take st.length) := by
  unfold gc
  rw [if_pos h, if_pos l]
theorem gc_app {st g : Store} {d : D} (l : lowD st.length d = true) : gc st d (st ++ g) = (d, st) := by
  rw [gc_low (fun i hi => .inl (List.getElem?_append_left hi)) l, List.take_left]
theorem gc_same {st : Store} {d : D} (l : lowD st.length d = true) : gc st d st = (d, st) := by
  have := gc_app (g := []) l
  rwa [List.append_nil] at this
theorem gc_new {st g : Store} {n : Nat} {o : O} (hn : st.length ≤ n) (ho : (st ++ g)[n]? = some o) (l : lowO st.length o = true) : gc st (.ref n) (st ++ g) = (.ref st.length, st ++ [o]) := by
  unfold gc
  rw [if_pos (fun i hi => .inl (List.getElem?_append_left hi)), if_neg (by simp only [lowD, decide_eq_true_eq]; omega)]
  simp only [ho]
  rw [if_pos ⟨hn, l⟩, List.take_left]
mutual
def flat : D → Bool
  | .tup ds => flats ds
  | .kt ds => flats ds
  | .kl ds => flats ds
  | .ref _ => false
  | _ => true
def flats : List D → Bool
  | [] => true
  | d :: ds => flat d && flats ds
end
mutual
theorem lowD_flat {L : Nat} : ∀ {d : D}, flat d = true → lowD L d = true
  | .tup ds, h => by simp only [flat] at h; simp only [lowD]; exact lowDs_flat h
  | .kt ds, h => by simp only [flat] at h; simp only [lowD]; exact lowDs_flat h
  | .kl ds, h => by simp only [flat] at h; simp only [lowD]; exact lowDs_flat h
  | .ref _, h => by simp [flat] at h
  | .non, _ => rfl
  | .bl _, _ => rfl
  | .int _, _ => rfl
  | .str _, _ => rfl
  | .gl _, _ => rfl
theorem lowDs_flat {L : Nat} : ∀ {ds : List D}, flats ds = true → lowDs L ds = true
  | [], _ => rfl
  | d :: ds, h => by simp only [flats, Bool.and_eq_true] at h; simp only [lowDs, Bool.and_eq_true]; exact ⟨lowD_flat h.1, lowDs_flat h.2⟩
end
theorem flats_all {ds : List D} : flats ds = ds.all flat := by
  induction ds with
  | nil => rfl
  | cons d ds ih => simp [flats, ih]
/-- a def that returns -/
theorem run_rt {N : List Str} {mb : Py.Loc → Store → Fl} {ds : List D} {st g : Store} {d : D} (h : mb (startE N ds) st = .rt d (st ++ g)) (f : flat d = true) : runD N mb ds st = .ok d st := by
  unfold runD
  rw [h]
  simp only [gc_app (lowD_flat f)]
theorem run_rt0 {N : List Str} {mb : Py.Loc → Store → Fl} {ds : List D} {st : Store} {d : D} (h : mb (startE N ds) st = .rt d st) (f : flat d = true) : runD N mb ds st = .ok d st := run_rt (g := []) (by rw [List.append_nil]; exact h) f
theorem run_nx {N : List Str} {mb : Py.Loc → Store → Fl} {ds : List D} {st g : Store} {e : Py.Loc} (h : mb (startE N ds) st = .nx e (st ++ g)) : runD N mb ds st = .ok .non st := by
  unfold runD
  rw [h]
  simp only [gc_app (d := .non) rfl]
theorem run_nx0 {N : List Str} {mb : Py.Loc → Store → Fl} {ds : List D} {st : Store} {e : Py.Loc} (h : mb (startE N ds) st = .nx e st) : runD N mb ds st = .ok .non st := run_nx (g := []) (by rw [List.append_nil]; exact h)
/-- a def that returns a new list -/
theorem run_new {N : List Str} {mb : Py.Loc → Store → Fl} {ds : List D} {st g : Store} {n : Nat} {o : O} (h : mb (startE N ds) st = .rt (.ref n) (st ++ g)) (hn : st.length ≤ n) (ho : (st ++ g)[n]? = some o) (l : lowO st.length o = true) : runD N mb ds st = .ok (.ref st.length) (st ++ [o]) := by
  unfold runD
  rw [h]
  simp only [gc_new hn ho l]
theorem lowO_flat {L : Nat} {ds : List D} (h : flats ds = true) : lowO L (.lst ds) = true := by simp only [lowO]; exact lowDs_flat h
/-! ### loops -/
section
variable {b : D → Py.Loc → Store → Fl} {e : Py.Loc} {st : Store} {still : Store → Prop}
theorem forL_nil (h : still st) : forL still b [] e st = .nx e st := by unfold forL; rw [if_pos h]
theorem forL_nx {d : D} {ds : List D} {e' : Py.Loc} {st' : Store} (h : still st) (hb : b d e st = .nx e' st') : forL still b (d :: ds) e st = forL still b ds e' st' := by conv => lhs; unfold forL; rw [if_pos h, hb]
theorem forL_ct {d : D} {ds : List D} {e' : Py.Loc} {st' : Store} (h : still st) (hb : b d e st = .ct e' st') : forL still b (d :: ds) e st = forL still b ds e' st' := by conv => lhs; unfold forL; rw [if_pos h, hb]
theorem forL_rt {d r : D} {ds : List D} {st' : Store} (h : still st) (hb : b d e st = .rt r st') : forL still b (d :: ds) e st = .rt r st' := by conv => lhs; unfold forL; rw [if_pos h, hb]
theorem forL_bk {d : D} {ds : List D} {e' : Py.Loc} {st' : Store} (h : still st) (hb : b d e st = .bk e' st') : forL still b (d :: ds) e st = .nx e' st' := by conv => lhs; unfold forL; rw [if_pos h, hb]
/-- a loop that turns a state s -/
theorem forL_fold {α : Type} (E : α → Py.Loc) (f : α → D → α) (hs : still st) : ∀ (ds : List D) (s : α), (∀ d ∈ ds, ∀ s, b d (E s) st = .nx (E (f s d)) st) → forL still b ds (E s) st = .nx (E (ds.foldl f s)) st
  | [], s, _ => forL_nil hs
  | d :: ds, s, h => by
    rw [forL_nx hs (h d List.mem_cons_self s)]
    exact forL_fold E f hs ds (f s d) fun d' hd => h d' (List.mem_cons_of_mem _ hd)
/-- the same where the store goes along -/
theorem forL_run {α : Type} (E : α → Py.Loc) (S : α → Store) (f : α → D → α) (ok : α → Prop) (hs : ∀ s, ok s → still (S s)) : ∀ (ds : List D) (s : α), ok s → (∀ d ∈ ds, ∀ s, ok s → b d (E s) (S s) = .nx (E (f s d)) (S (f s d)) ∧ ok (f s d)) → forL still b ds (E s) (S s) = .nx (E (ds.foldl f s)) (S (ds.foldl f s)) ∧ ok (ds.foldl f s)
  | [], s, h0, _ => ⟨forL_nil (hs s h0), h0⟩
  | d :: ds, s, h0, h => by
    obtain ⟨h1, h2⟩ := h d List.mem_cons_self s h0
    rw [forL_nx (hs s h0) h1]
    exact forL_run E S f ok hs ds (f s d) h2 fun d' hd => h d' (List.mem_cons_of_mem _ hd)
/-- a comprehension's loop, the items one by one -/
theorem lcL_of {b : D → Store → R (Option D)} (g : D → Option D) (hs : still st) : ∀ ds : List D, (∀ d ∈ ds, b d st = .ok (g d) st) → lcL still b ds st = .ok (ds.filterMap g) st
  | [], _ => by unfold lcL; rw [if_pos hs]; rfl
  | d :: ds, h => by
    unfold lcL
    rw [if_pos hs, h d List.mem_cons_self]
    simp only [R.bind_ok]
    rw [lcL_of g hs ds fun d' hd => h d' (List.mem_cons_of_mem _ hd)]
    simp only [R.bind_ok]
    congr 1
    cases hg : g d with
    | none => simp [hg]
    | some y => simp [hg]
theorem mLc_of {mi : Py.Loc → Store → R Iter} {tg : Tg} {mt : Py.Loc → Store → R Bool} {me : Py.Loc → Store → R D} {vs : List Nat} {it : Iter} {st' : Store} (g : D → Option D) (hi : mi e st = .ok it st') (hs : it.still st') (hl : it.items.length ≤ sizeLine)
    (h : ∀ d ∈ it.items, lcB tg mt me d (wipeE e vs) st' = .ok (g d) st') : mLc mi tg mt me vs e st = .ok (.ref st'.length) (st' ++ [.lst (it.items.filterMap g)]) := by
  unfold mLc
  rw [hi]
  simp only [R.bind_ok]
  rw [if_pos hl, lcL_of g hs _ h]
  rfl
theorem lcB_some {tg : Tg} {mt : Py.Loc → Store → R Bool} {me : Py.Loc → Store → R D} {d y : D} {e1 : Py.Loc} {g : Store} (hb : bindE tg d e = some e1) (ht : mt e1 st = .ok true st) (he : me e1 st = .ok y (st ++ g)) (f : lowD st.length y = true) : lcB tg mt me d e st = .ok (some y) st := by
  unfold lcB
  rw [hb]
  simp only [ht, he, gc_app f]
theorem lcB_none {tg : Tg} {mt : Py.Loc → Store → R Bool} {me : Py.Loc → Store → R D} {d : D} {e1 : Py.Loc} {g : Store} (hb : bindE tg d e = some e1) (ht : mt e1 st = .ok false (st ++ g)) : lcB tg mt me d e st = .ok none st := by
  unfold lcB
  rw [hb]
  simp only [ht, gc_app (d := .non) rfl]
theorem filterMap_some {α β : Type} (f : α → β) : ∀ l : List α, l.filterMap (fun a => some (f a)) = l.map f
  | [] => rfl
  | a :: l => by rw [List.filterMap_cons, List.map_cons, filterMap_some f l]
/-- all items told, nothing dropped -/
theorem mLc_map {mi : Py.Loc → Store → R Iter} {tg : Tg} {me : Py.Loc → Store → R D} {vs : List Nat} {it : Iter} {st' : Store} (f : D → D) (hi : mi e st = .ok it st') (hs : it.still st') (hl : it.items.length ≤ sizeLine)
    (h : ∀ d ∈ it.items, ∃ e1 g, bindE tg d (wipeE e vs) = some e1 ∧ me e1 st' = .ok (f d) (st' ++ g) ∧ lowD st'.length (f d) = true) : mLc mi tg mYes me vs e st = .ok (.ref st'.length) (st' ++ [.lst (it.items.map f)]) := by
  rw [← filterMap_some]
  refine mLc_of _ hi hs hl fun d hd => ?_
  obtain ⟨e1, g, h1, h2, h3⟩ := h d hd
  exact lcB_some h1 rfl h2 h3
end
end Py

set_option Elab.async false
set_option linter.all false
set_option maxRecDepth 100000
set_option maxHeartbeats 1000000
namespace Py
open L2 PySem PySem.Spec PyProof.Rows
section
variable {st : Store} {i j : Int} {a b : Str} {p q : Bool}
@[simp] theorem addI : addD (.int i) (.int j) st = some (.int (i + j), st) := (rfl)
@[simp] theorem subI : subD (.int i) (.int j) st = some (.int (i - j), st) := guard_pos trivial
theorem fdivI (h : DivOk i j) : fdivD (.int i) (.int j) st = some (.int (i.fdiv j), st) := guard_pos h
theorem modI (h : j ≠ 0) : modD (.int i) (.int j) st = some (.int (i.fmod j), st) := guard_pos h
theorem mulI (h : MulOk i j) : mulD (.int i) (.int j) st = some (.int (i * j), st) := guard_pos h
theorem powI (h : CPow i j) : powD (.int i) (.int j) st = some (.int (i ^ j.toNat), st) := guard_pos h
theorem shlI (h : CShl i j) : shlD (.int i) (.int j) st = some (.int (i * 2 ^ j.toNat), st) := guard_pos h
theorem shrI (h : 0 ≤ j) : shrD (.int i) (.int j) st = some (.int (i / 2 ^ j.toNat), st) := guard_pos h
@[simp] theorem andI : andD (.int i) (.int j) st = some (.int (Builtin.bitAnd i j), st) := guard_pos trivial
@[simp] theorem orI : orD (.int i) (.int j) st = some (.int (Builtin.bitOr i j), st) := guard_pos trivial
@[simp] theorem xorI : xorD (.int i) (.int j) st = some (.int (Builtin.bitXor i j), st) := guard_pos trivial
@[simp] theorem negI : negD (.int i) st = some (.int (-i), st) := (rfl)
@[simp] theorem invI : invD (.int i) st = some (.int (Builtin.bitNot i), st) := (rfl)
@[simp] theorem ltI : ltD (.int i) (.int j) st = some (.bl (decide (i < j)), st) := (rfl)
@[simp] theorem leI : leD (.int i) (.int j) st = some (.bl (decide (i ≤ j)), st) := (rfl)
@[simp] theorem gtI : gtD (.int i) (.int j) st = some (.bl (decide (j < i)), st) := (rfl)
@[simp] theorem geI : geD (.int i) (.int j) st = some (.bl (decide (j ≤ i)), st) := (rfl)
theorem eqv_int : PyData.eqv (.int i) (.int j) = decide (i = j) := by rw [PyData.eqv]; by_cases h : i = j <;> simp [h]
theorem eqv_str : PyData.eqv (.str a) (.str b) = decide (a = b) := by rw [PyData.eqv]; by_cases h : a = b <;> simp [h]
theorem eqv_bl : PyData.eqv (.bool p) (.bool q) = decide (p = q) := by rw [PyData.eqv]; cases p <;> cases q <;> rfl
theorem shaped_int : SeqAt.shaped (.int i) = true := rfl
theorem shaped_bl : SeqAt.shaped (.bool p) = true := rfl
def okS (a : Str) : Bool := SeqAt.shaped (.str a)
@[simp] theorem eqI : eqD (.int i) (.int j) st = some (.bl (decide (i = j)), st) := by
  unfold eqD
  simp only [toPy, pyG]
  rw [guard_pos ⟨shaped_int, shaped_int⟩, eqv_int]
@[simp] theorem eqBl : eqD (.bl p) (.bl q) st = some (.bl (decide (p = q)), st) := by
  unfold eqD
  simp only [toPy, pyG]
  rw [guard_pos ⟨shaped_bl, shaped_bl⟩, eqv_bl]
@[simp] theorem neI : neD (.int i) (.int j) st = some (.bl (!decide (i = j)), st) := by
  unfold neD
  simp only [toPy, pyG]
  rw [guard_pos ⟨shaped_int, shaped_int⟩, eqv_int]
@[simp] theorem neBl : neD (.bl p) (.bl q) st = some (.bl (!decide (p = q)), st) := by
  unfold neD
  simp only [toPy, pyG]
  rw [guard_pos ⟨shaped_bl, shaped_bl⟩, eqv_bl]
theorem eqSt (h1 : okS a = true) (h2 : okS b = true) : eqD (.str a) (.str b) st = some (.bl (decide (a = b)), st) := by
  unfold eqD
  simp only [toPy, pyG]
  rw [guard_pos ⟨h1, h2⟩, eqv_str]
theorem neSt (h1 : okS a = true) (h2 : okS b = true) : neD (.str a) (.str b) st = some (.bl (!decide (a = b)), st) := by
  unfold neD
  simp only [toPy, pyG]
  rw [guard_pos ⟨h1, h2⟩, eqv_str]
@[simp] theorem isNon_non : isD2 .non .non st = some (.bl true, st) := (rfl)
@[simp] theorem isNon_int : isD2 (.int i) .non st = some (.bl false, st) := (rfl)
@[simp] theorem isNon_bl : isD2 (.bl p) .non st = some (.bl false, st) := (rfl)
@[simp] theorem isNon_str : isD2 (.str a) .non st = some (.bl false, st) := (rfl)
@[simp] theorem isNon_tup {ds : List D} : isD2 (.tup ds) .non st = some (.bl false, st) := (rfl)
@[simp] theorem isNon_ref {n : Nat} : isD2 (.ref n) .non st = some (.bl false, st) := (rfl)
@[simp] theorem isBl_bl : isD2 (.bl p) (.bl q) st = some (.bl (decide (p = q)), st) := (rfl)
@[simp] theorem isnNon_non : isnD2 .non .non st = some (.bl false, st) := (rfl)
@[simp] theorem isnNon_int : isnD2 (.int i) .non st = some (.bl true, st) := (rfl)
@[simp] theorem isnNon_bl : isnD2 (.bl p) .non st = some (.bl true, st) := (rfl)
@[simp] theorem isnNon_str : isnD2 (.str a) .non st = some (.bl true, st) := (rfl)
@[simp] theorem isnNon_tup {ds : List D} : isnD2 (.tup ds) .non st = some (.bl true, st) := (rfl)
@[simp] theorem isnNon_ref {n : Nat} : isnD2 (.ref n) .non st = some (.bl true, st) := (rfl)
@[simp] theorem isnBl_bl : isnD2 (.bl p) (.bl q) st = some (.bl (!decide (p = q)), st) := (rfl)
@[simp] theorem ty_int : tyName (.int i) st = some "int" := (rfl)
@[simp] theorem ty_bl : tyName (.bl p) st = some "bool" := (rfl)
@[simp] theorem ty_str : tyName (.str a) st = some "str" := (rfl)
@[simp] theorem ty_tup {ds : List D} : tyName (.tup ds) st = some "tuple" := (rfl)
@[simp] theorem ty_non : tyName .non st = some "NoneType" := (rfl)
@[simp] theorem absI : absD [.int i] st = some (.int (if i < 0 then -i else i), st) := (rfl)
@[simp] theorem intI : intD [.int i] st = some (.int i, st) := (rfl)
@[simp] theorem intBl : intD [.bl p] st = some (.int (if p then 1 else 0), st) := (rfl)
@[simp] theorem lenT {ds : List D} : lenD [.tup ds] st = some (.int ds.length, st) := (rfl)
@[simp] theorem tupT {ds : List D} : tupD [.tup ds] st = some (.tup ds, st) := (rfl)
theorem getL_app {g : Store} {n : Nat} {ds : List D} (h : getL st n = some ds) : getL (st ++ g) n = some ds := by
  unfold getL at h ⊢
  cases hq : st[n]? with
  | none => rw [hq] at h; cases h
  | some o => rw [List.getElem?_append_left (List.getElem?_eq_some_iff.mp hq).1, hq]; rw [hq] at h; exact h
@[simp] theorem getL_new {ds : List D} : getL (st ++ [.lst ds]) st.length = some ds := by
  unfold getL
  simp
theorem seqOf_app {g : Store} {d : D} {ds : List D} (h : seqOf d st = some ds) : seqOf d (st ++ g) = some ds := by
  cases d with
  | ref n => exact getL_app h
  | _ => exact h
@[simp] theorem seqOf_tup {ds : List D} : seqOf (.tup ds) st = some ds := (rfl)
@[simp] theorem seqOf_kt {ds : List D} : seqOf (.kt ds) st = some ds := (rfl)
@[simp] theorem seqOf_kl {ds : List D} : seqOf (.kl ds) st = some ds := (rfl)
theorem seqOf_ref {n : Nat} : seqOf (.ref n) st = getL st n := rfl
@[simp] theorem seqOf_new {ds : List D} : seqOf (.ref st.length) (st ++ [.lst ds]) = some ds := getL_new
theorem itD_seq {d : D} {ds : List D} (h : seqOf d st = some ds) : itD d st = some ⟨ds, stillD d ds⟩ := by
  cases d with
  | str z => cases h
  | _ => simp only [itD, h]; rfl
theorem stillD_of {d : D} {ds : List D} {st' : Store} (h : seqOf d st' = some ds) : stillD d ds st' := by
  cases d with
  | ref n => exact h
  | _ => trivial
@[simp] theorem isT_ii : isT "int" "int" = true := by decide
@[simp] theorem isT_ib : isT "int" "bool" = false := by decide
@[simp] theorem isT_bi : isT "bool" "int" = true := by decide
@[simp] theorem isT_bb : isT "bool" "bool" = true := by decide
@[simp] theorem isT_tt : isT "tuple" "tuple" = true := by decide
@[simp] theorem isT_it : isT "int" "tuple" = false := by decide
@[simp] theorem isT_il : isT "int" "list" = false := by decide
@[simp] theorem isT_tl : isT "tuple" "list" = false := by decide
@[simp] theorem isT_ti : isT "tuple" "int" = false := by decide
@[simp] theorem isT_tb : isT "tuple" "bool" = false := by decide
@[simp] theorem isT_ll : isT "list" "list" = true := by decide
@[simp] theorem isT_ss : isT "str" "str" = true := by decide
@[simp] theorem isT_si : isT "str" "int" = false := by decide
@[simp] theorem isT_sb : isT "str" "bool" = false := by decide
@[simp] theorem isT_st : isT "str" "tuple" = false := by decide
@[simp] theorem isT_is : isT "int" "str" = false := by decide
@[simp] theorem isT_ts : isT "tuple" "str" = false := by decide
@[simp] theorem isT_bt : isT "bool" "tuple" = false := by decide
@[simp] theorem isT_bs : isT "bool" "str" = false := by decide
@[simp] theorem isT_bl : isT "bool" "list" = false := by decide
theorem nat_xor_and (a b : Nat) : (a ^^^ b) + 2 * (a &&& b) = a + b := by
  induction a using Nat.strongRecOn generalizing b with
  | _ a ih =>
    by_cases h0 : a = 0
    · subst h0; simp
    · have h := ih (a / 2) (by omega) (b / 2)
      have e1 : (a ^^^ b) / 2 = (a / 2) ^^^ (b / 2) := Nat.xor_div_two
      have e2 : (a &&& b) / 2 = (a / 2) &&& (b / 2) := Nat.and_div_two
      have e3 : (a ^^^ b) % 2 = (a + b) % 2 := by
        by_cases hc : (a % 2 = 1 ↔ b % 2 = 1)
        · have : ¬ (a ^^^ b) % 2 = 1 := fun z => (Nat.xor_mod_two_eq_one.mp z) hc
          omega
        · have := Nat.xor_mod_two_eq_one.mpr hc
          omega
      have e4 : (a &&& b) % 2 = if a % 2 = 1 ∧ b % 2 = 1 then 1 else 0 := by
        by_cases hc : a % 2 = 1 ∧ b % 2 = 1
        · rw [if_pos hc]; exact Nat.and_mod_two_eq_one.mpr hc
        · rw [if_neg hc]
          have : ¬ (a &&& b) % 2 = 1 := fun z => hc (Nat.and_mod_two_eq_one.mp z)
          omega
      rw [← e1, ← e2] at h
      split at e4 <;> omega
theorem xorN (a b : Nat) : Builtin.bitXor (a : Int) (b : Int) = ((a ^^^ b : Nat) : Int) := by
  rw [PyProof.Rows.bitXor_and]
  have h := nat_xor_and a b
  have e : Builtin.bitAnd (a : Int) (b : Int) = ((a &&& b : Nat) : Int) := by
    unfold Builtin.bitAnd
    simp
  rw [e]
  omega
theorem andN (a b : Nat) : Builtin.bitAnd (a : Int) (b : Int) = ((a &&& b : Nat) : Int) := by
  unfold Builtin.bitAnd
  simp
end
end Py

set_option Elab.async false
set_option linter.all false
set_option maxRecDepth 100000
set_option maxHeartbeats 1000000
namespace Py
open L2 PySem PySem.Spec PyProof.Rows
/-! ### the laws' hand: a list of five things that the draws change -/
abbrev hd5 (c : Nat) (i a b e : Int) : O := .lst [.ref c, .int i, .int a, .int b, .int e]
section
variable {s : Store} {h c : Nat} {i a b e v : Int} {ds : List D} {o : O}
theorem ix_at {st : Store} {n : Nat} {k : Int} {d : D} (hn : st[n]? = some (.lst ds)) (hk : atI ds k = some d) : ixD (.ref n) (.int k) st = some (d, st) := by simp [ixD, hn, hk]
theorem at_set (hh : h < s.length) : (s.set h o)[h]? = some o := List.getElem?_set_self hh
theorem at_ne (hc : c ≠ h) : (s.set h o)[c]? = s[c]? := List.getElem?_set_ne (Ne.symm hc)
theorem h0 (hh : h < s.length) : ixD (.ref h) (.int 0) (s.set h (hd5 c i a b e)) = some (.ref c, s.set h (hd5 c i a b e)) := ix_at (at_set hh) rfl
theorem h1 (hh : h < s.length) : ixD (.ref h) (.int 1) (s.set h (hd5 c i a b e)) = some (.int i, s.set h (hd5 c i a b e)) := ix_at (at_set hh) rfl
theorem h2 (hh : h < s.length) : ixD (.ref h) (.int 2) (s.set h (hd5 c i a b e)) = some (.int a, s.set h (hd5 c i a b e)) := ix_at (at_set hh) rfl
theorem h3 (hh : h < s.length) : ixD (.ref h) (.int 3) (s.set h (hd5 c i a b e)) = some (.int b, s.set h (hd5 c i a b e)) := ix_at (at_set hh) rfl
theorem h4 (hh : h < s.length) : ixD (.ref h) (.int 4) (s.set h (hd5 c i a b e)) = some (.int e, s.set h (hd5 c i a b e)) := ix_at (at_set hh) rfl
theorem hset (hh : h < s.length) {k : Int} {j : Nat} {d : D} (hk : ixN ds.length k = some j) : setD (.ref h) (.int k) d (s.set h (.lst ds)) = some (s.set h (.lst (ds.set j d))) := by
  simp only [setD]
  rw [at_set hh]
  simp only [hk]
  rw [List.set_set]
theorem s1 (hh : h < s.length) : setD (.ref h) (.int 1) (.int v) (s.set h (hd5 c i a b e)) = some (s.set h (hd5 c v a b e)) := hset hh (ds := [.ref c, .int i, .int a, .int b, .int e]) (j := 1) rfl
theorem s2 (hh : h < s.length) : setD (.ref h) (.int 2) (.int v) (s.set h (hd5 c i a b e)) = some (s.set h (hd5 c i v b e)) := hset hh (ds := [.ref c, .int i, .int a, .int b, .int e]) (j := 2) rfl
theorem s3 (hh : h < s.length) : setD (.ref h) (.int 3) (.int v) (s.set h (hd5 c i a b e)) = some (s.set h (hd5 c i a v e)) := hset hh (ds := [.ref c, .int i, .int a, .int b, .int e]) (j := 3) rfl
theorem s4 (hh : h < s.length) : setD (.ref h) (.int 4) (.int v) (s.set h (hd5 c i a b e)) = some (s.set h (hd5 c i a b v)) := hset hh (ds := [.ref c, .int i, .int a, .int b, .int e]) (j := 4) rfl
/-- a hand in good order at h, its cells at c -/
structure Good (cells : List Int) (i a b e : Int) : Prop where
  n : cells.length ≤ 63
  z : ∀ x ∈ cells, 0 ≤ x ∧ x < 10 ^ 40
  i0 : 0 ≤ i
  a0 : 0 ≤ a
  a1 : a < 10 ^ 40
  b0 : 0 ≤ b
  b1 : b < 2147483629
  e0 : 0 ≤ e
theorem gc_hand {st : Store} {h c : Nat} {i a b e i' a' b' e' : Int} {d : D} {g : Store} (hh : h < st.length) (hc : c < st.length) (f : flat d = true) : gc (st.set h (hd5 c i a b e)) d (st.set h (hd5 c i' a' b' e') ++ g) = (d, st.set h (hd5 c i' a' b' e')) := by
  have hl : (st.set h (hd5 c i a b e)).length = st.length := by simp
  have hl2 : (st.set h (hd5 c i' a' b' e')).length = st.length := by simp
  rw [gc_low (fun j hj => ?_) (lowD_flat f)]
  · rw [hl, ← hl2, List.take_left]
  · rw [hl] at hj
    rw [List.getElem?_append_left (by rw [hl2]; exact hj)]
    by_cases hjh : j = h
    · subst hjh
      refine .inr ⟨_, at_set hh, ?_⟩
      simp [lowO, lowDs, lowD, hc]
    · left
      rw [at_ne hjh, at_ne hjh]
theorem run_hand {N : List Str} {mb : Py.Loc → Store → Fl} {ds : List D} {st g : Store} {h c : Nat} {i a b e i' a' b' e' : Int} {d : D} (hh : h < st.length) (hc : c < st.length) (hb : mb (startE N ds) (st.set h (hd5 c i a b e)) = .rt d (st.set h (hd5 c i' a' b' e') ++ g)) (f : flat d = true) :
    runD N mb ds (st.set h (hd5 c i a b e)) = .ok d (st.set h (hd5 c i' a' b' e')) := by
  unfold runD
  rw [hb]
  simp only [gc_hand hh hc f]
theorem mul_small {x y : Int} (h0 : 0 ≤ y) (h1 : y < 2 ^ 63) : MulOk x y := .inl (.inr ⟨by omega, by omega⟩)
theorem mul_smallL {x y : Int} (h0 : 0 ≤ x) (h1 : x < 2 ^ 63) : MulOk x y := .inl (.inl ⟨by omega, by omega⟩)
theorem fmod_bd {x m : Int} (h : 0 < m) : 0 ≤ x.fmod m ∧ x.fmod m < m := ⟨Int.fmod_nonneg_of_pos x h, Int.fmod_lt_of_pos x h⟩
theorem div_ok {x y : Int} (h0 : 0 < y) (h1 : y < 2 ^ 63) : DivOk x y := ⟨by omega, by
  have : y.natAbs < 2 ^ 63 := by omega
  have h2 : y.natAbs.log2 < 63 := (Nat.log2_lt (by omega)).mpr this
  omega⟩
end
end Py

set_option Elab.async false
set_option linter.all false
set_option maxRecDepth 100000
set_option maxHeartbeats 1000000
namespace Py
open L2 PySem PySem.Spec PyProof.Rows
/-! ### dicts by their keys -/
def hasD (kvs : List (D × D)) (k : DKey) : Bool := kvs.any fun p => decide (dk p.1 = some k)
theorem lookD_has (kvs : List (D × D)) (k : DKey) : (lookD kvs k).isSome = hasD kvs k := by
  unfold lookD hasD
  induction kvs with
  | nil => rfl
  | cons p r ih =>
    rw [List.find?_cons, List.any_cons]
    by_cases h : dk p.1 = some k
    · simp [h]
    · simp [h]
      simpa using ih
theorem hasD_put (kvs : List (D × D)) (d : D) (k k' : DKey) (v : D) (hd : dk d = some k) : hasD (putD kvs d k v) k' = (hasD kvs k' || decide (k = k')) := by
  unfold putD
  split
  · rename_i hk
    have e : ∀ l : List (D × D), hasD (l.map fun p => if dk p.1 = some k then (p.1, v) else p) k' = hasD l k' := fun l => by
      unfold hasD
      rw [List.any_map]
      congr 1
      funext p
      simp only [Function.comp]
      split <;> rfl
    rw [e]
    by_cases hkk : k = k'
    · subst hkk
      have : hasD kvs k = true := hk
      simp [this]
    · simp [hkk]
  · unfold hasD
    rw [List.any_append]
    simp [hd]
theorem allK_put (kvs : List (D × D)) (d : D) (k : Key) (v : D) (hd : keyD d = some k) (h : allK kvs = true) : allK (putD kvs d (.inl k) v) = true := by
  unfold putD
  split
  · unfold allK at h ⊢
    rw [List.all_map]
    rw [List.all_eq_true] at h ⊢
    intro p hp
    simp only [Function.comp]
    split
    · exact h p hp
    · exact h p hp
  · unfold allK at h ⊢
    rw [List.all_append, h]
    simp [hd]
section
variable {e : Py.Loc} {st : Store} {still : Store → Prop}
theorem dcL_of {b : D → Store → R (Option (D × D))} (g : D → Option (D × D)) (hs : still st) : ∀ (ds : List D) (acc : List (D × D)), (∀ d ∈ ds, b d st = .ok (g d) st) → dcL still b ds acc st = .ok (ds.foldl (fun acc d => putO acc (g d)) acc) st
  | [], acc, _ => by unfold dcL; rw [if_pos hs]; rfl
  | d :: ds, acc, h => by
    unfold dcL
    rw [if_pos hs, h d List.mem_cons_self]
    simp only [R.bind_ok]
    rw [dcL_of g hs ds _ fun d' hd => h d' (List.mem_cons_of_mem _ hd)]
    rfl
theorem mDc_of {mi : Py.Loc → Store → R Iter} {tg : Tg} {mt : Py.Loc → Store → R Bool} {mk mv : Py.Loc → Store → R D} {vs : List Nat} {it : Iter} {st' : Store} (g : D → Option (D × D)) (hi : mi e st = .ok it st') (hs : it.still st') (hl : it.items.length ≤ sizeLine)
    (h : ∀ d ∈ it.items, dcB tg mt mk mv d (wipeE e vs) st' = .ok (g d) st') : mDc mi tg mt mk mv vs e st = .ok (.ref st'.length) (st' ++ [.dict (it.items.foldl (fun acc d => putO acc (g d)) [])]) := by
  unfold mDc
  rw [hi]
  simp only [R.bind_ok]
  rw [if_pos hl, dcL_of g hs _ _ h]
  rfl
theorem dcB_some {tg : Tg} {mt : Py.Loc → Store → R Bool} {mk mv : Py.Loc → Store → R D} {d k y : D} {q : Key} {e1 : Py.Loc} (hb : bindE tg d e = some e1) (ht : mt e1 st = .ok true st) (hk : mk e1 st = .ok k st) (hq : keyD k = some q) (he : mv e1 st = .ok y st) (f : lowD st.length y = true) : dcB tg mt mk mv d e st = .ok (some (k, y)) st := by
  unfold dcB
  rw [hb]
  simp only [ht, hk, hq, he, gc_same f]
end
/-- a dict made of keys -/
theorem fold_keys (v : D) : ∀ (ds : List D) (acc : List (D × D)), (∀ d ∈ ds, ∃ q, keyD d = some q) → allK acc = true → allK (ds.foldl (fun acc d => putO acc (some (d, v))) acc) = true ∧
    ∀ k : Key, hasD (ds.foldl (fun acc d => putO acc (some (d, v))) acc) (.inl k) = (hasD acc (.inl k) || ds.any fun d => decide (keyD d = some k))
  | [], acc, _, h => ⟨h, fun k => by simp⟩
  | d :: ds, acc, hk, h => by
    obtain ⟨q, hq⟩ := hk d List.mem_cons_self
    have e : putO acc (some (d, v)) = putD acc d (.inl q) v := by simp only [putO, hq]
    rw [List.foldl_cons, e]
    obtain ⟨h1, h2⟩ := fold_keys v ds (putD acc d (.inl q) v) (fun d' hd => hk d' (List.mem_cons_of_mem _ hd)) (allK_put _ _ _ _ hq h)
    refine ⟨h1, fun k => ?_⟩
    rw [h2, hasD_put _ _ _ _ _ (dk_inl hq), List.any_cons, hq]
    have : decide (Sum.inl q = (Sum.inl k : DKey)) = decide (some q = some k) := by simp
    rw [this, Bool.or_assoc]
theorem inA_dict {st : Store} {n : Nat} {kvs : List (D × D)} {d : D} {k : Key} (hn : st[n]? = some (.dict kvs)) (hk : keyD d = some k) (h : allK kvs = true) : inA d (.ref n) st = some (.bl (hasD kvs (.inl k)), st) := by
  have e : inDictD d (.ref n) st = some (.bl (hasD kvs (.inl k)), st) := by
    simp only [inDictD, hn, dk_inl hk, fitsK, h, if_true, lookD_has]
  unfold inA
  rw [e]
/-! ### numbers that are not there -/
def natsD (ns : List Nat) : List D := ns.map fun n => .int (n : Nat)
def isMex (v : Nat) (l : List Nat) : Prop := v ∉ l ∧ ∀ m, m < v → m ∈ l
theorem natsD_any (ns : List Nat) (k : Nat) : (natsD ns).any (fun d => decide (keyD d = some (.inl (k : Int)))) = decide (k ∈ ns) := by
  unfold natsD
  rw [List.any_map]
  induction ns with
  | nil => simp
  | cons n ns ih =>
    rw [List.any_cons, ih]
    by_cases h : n = k
    · subst h; simp [keyD]
    · have h2 : ¬ k = n := fun z => h z.symm
      have h3 : ¬ (n : Int) = (k : Int) := by omega
      simp [keyD, h2, h3]
end Py

set_option Elab.async false
set_option linter.all false
set_option maxRecDepth 100000
set_option maxHeartbeats 1000000
namespace Py
open L2 PySem PySem.Spec PyProof.Rows
theorem le_size {n : Nat} (h : n ≤ 1000000) : n ≤ sizeLine := by rw [sizeLine_eq]; omega
theorem rgD_0 (n : Nat) : rgD 0 (n : Int) = natsD (List.range n) := by
  unfold rgD natsD
  have : ((n : Int) - 0).toNat = n := by omega
  rw [this]
  congr 1
  funext i
  simp
theorem rgD_nat (a b : Nat) : rgD (a : Int) (b : Int) = natsD ((List.range (b - a)).map (a + ·)) := by
  unfold rgD natsD
  have : ((b : Int) - (a : Int)).toNat = b - a := by omega
  rw [this, List.map_map]
  congr 1
theorem rg1 (n : Nat) (h : n ≤ 1000000) : rgIt [.int (n : Int)] = some ⟨natsD (List.range n), fun _ => True⟩ := by
  simp only [rgIt]
  rw [if_pos (by simp [okB]; omega), rgD_0]
theorem rg2 (a b : Nat) (h : a ≤ 1000000) (h2 : b ≤ 1000000) : rgIt [.int (a : Int), .int (b : Int)] = some ⟨natsD ((List.range (b - a)).map (a + ·)), fun _ => True⟩ := by
  simp only [rgIt]
  rw [if_pos (by simp [okB]; omega), rgD_nat]
theorem rgO_nat (a b : Nat) (h : a ≤ 1000000) (h2 : b ≤ 1000000) : RgO (a : Int) (b : Int) := ⟨by omega, by omega, by omega, by omega, by omega⟩
theorem rgs_of {ml : Py.Loc → Store → R (List D)} {e : Py.Loc} {st st' : Store} {ds : List D} {it : Iter} (h1 : ml e st = .ok ds st') (h2 : rgIt ds = some it) : mRgs ml e st = .ok it st' := by
  unfold mRgs
  rw [h1]
  simp only [R.bind_ok, h2]
theorem natsD_len (l : List Nat) : (natsD l).length = l.length := by simp [natsD]
theorem flats_nats (l : List Nat) : flats (natsD l) = true := by
  induction l with
  | nil => rfl
  | cons a l ih => simp only [natsD, List.map_cons, flats, flat, Bool.true_and]; exact ih
open Classical in
theorem x_tupRg {e : Py.Loc} {st : Store} {m : Py.Loc → Store → R (Int × Int)} : mTupRg m e st = (m e st).bind fun r st => if RgO r.1 r.2 then .ok (.tup (rgD r.1 r.2)) st else .stuck := (rfl)
open Classical in
theorem x_lstRg {e : Py.Loc} {st : Store} {m : Py.Loc → Store → R (Int × Int)} : mLstRg m e st = (m e st).bind fun r st => if RgO r.1 r.2 then .ok (.ref st.length) (st ++ [.lst (rgD r.1 r.2)]) else .stuck := (rfl)
@[simp] theorem x_mR1 {e : Py.Loc} {st : Store} {ma : Py.Loc → Store → R D} : mR1 ma e st = (ma e st).bind fun d st => match d with | .int n => .ok ((0 : Int), n) st | _ => .stuck := (rfl)
@[simp] theorem x_mR2 {e : Py.Loc} {st : Store} {ma mb : Py.Loc → Store → R D} : mR2 ma mb e st = (ma e st).bind fun d st => (mb e st).bind fun d2 st => match d, d2 with | .int i, .int j => .ok (i, j) st | _, _ => .stuck := (rfl)
/-- a comprehension over numbers -/
theorem mLc_nats {e : Py.Loc} {st st' : Store} {mi : Py.Loc → Store → R Iter} {tg : Tg} {me : Py.Loc → Store → R D} {vs : List Nat} {ns : List Nat} {still : Store → Prop} (f : Nat → D) (hi : mi e st = .ok ⟨natsD ns, still⟩ st') (hs : still st') (hl : ns.length ≤ 1000000)
    (h : ∀ n ∈ ns, ∃ e1 g, bindE tg (.int (n : Nat)) (wipeE e vs) = some e1 ∧ me e1 st' = .ok (f n) (st' ++ g) ∧ lowD st'.length (f n) = true) : mLc mi tg mYes me vs e st = .ok (.ref st'.length) (st' ++ [.lst (ns.map f)]) := by
  have := mLc_map (st := st) (e := e) (tg := tg) (vs := vs) (me := me) (fun d => match d with | .int i => f i.toNat | _ => .non) hi hs (by rw [natsD_len]; exact le_size hl) fun d hd => by
    obtain ⟨n, hn, rfl⟩ := List.mem_map.mp hd
    obtain ⟨e1, g, h1, h2, h3⟩ := h n hn
    exact ⟨e1, g, h1, by simpa using h2, by simpa using h3⟩
  rw [this]
  simp only [natsD, List.map_map]
  rfl
theorem add_lists {st : Store} {n m : Nat} {a b : List D} (h1 : st[n]? = some (.lst a)) (h2 : st[m]? = some (.lst b)) (h : a.length + b.length ≤ 1000000) : addD (.ref n) (.ref m) st = some (.ref st.length, st ++ [.lst (a ++ b)]) := by
  simp only [addD, h1, h2]
  exact guard_pos (le_size h)
/-- two clauses over numbers -/
theorem lc2L_of {still : Store → Prop} {st : Store} {b : Nat → D → Store → R (List D)} (g : D → List D) (hs : still st) : ∀ (ds : List D) (n : Nat), (∀ d ∈ ds, ∀ n, n ≤ 1000 * 1000 → b n d st = .ok (g d) st) → n + (ds.flatMap g).length ≤ 1000 * 1000 → lc2L still b ds n st = .ok (ds.flatMap g) st
  | [], n, _, _ => by unfold lc2L; rw [if_pos hs]; rfl
  | d :: ds, n, h, hn => by
    simp only [List.flatMap_cons, List.length_append] at hn
    unfold lc2L
    rw [if_pos hs, h d List.mem_cons_self n (by omega)]
    simp only [R.bind_ok]
    rw [lc2L_of g hs ds _ (fun d' hd => h d' (List.mem_cons_of_mem _ hd)) (by omega)]
    rfl
theorem mLc2_nats {e : Py.Loc} {st st' : Store} {mi mi1 : Py.Loc → Store → R Iter} {tg tg1 : Tg} {me : Py.Loc → Store → R D} {vs vs1 : List Nat} {ns : List Nat} {still : Store → Prop} (ms : Nat → List Nat) (f : Nat → Nat → D) (hi : mi e st = .ok ⟨natsD ns, still⟩ st') (hs : still st') (hl : ∀ n ∈ ns, (ms n).length ≤ 1000)
    (hlen : (ns.flatMap ms).length ≤ 1000 * 1000)
    (h : ∀ n ∈ ns, ∃ e1, bindE tg (.int (n : Nat)) (wipeE e vs) = some e1 ∧ mi1 e1 st' = .ok ⟨natsD (ms n), fun _ => True⟩ st' ∧ ∀ m ∈ ms n, ∃ e2, bindE tg1 (.int (m : Nat)) (wipeE e1 vs1) = some e2 ∧ me e2 st' = .ok (f n m) st' ∧ lowD st'.length (f n m) = true) :
    mLc2 mi tg mYes mi1 tg1 mYes me vs vs1 e st = .ok (.ref st'.length) (st' ++ [.lst (ns.flatMap fun n => (ms n).map (f n))]) := by
  unfold mLc2
  rw [hi]
  simp only [R.bind_ok]
  have e1 : (natsD ns).flatMap (fun d => match d with | .int i => (ms i.toNat).map (f i.toNat) | _ => []) = ns.flatMap fun n => (ms n).map (f n) := by
    unfold natsD
    rw [List.flatMap_map]
    rfl
  rw [lc2L_of (fun d => match d with | .int i => (ms i.toNat).map (f i.toNat) | _ => []) hs (natsD ns) 0 ?hA ?hB]
  case hA =>
    intro d hd k hk
    obtain ⟨n, hn, rfl⟩ := List.mem_map.mp hd
    obtain ⟨e1', h1, h2, h3⟩ := h n hn
    unfold lc2B
    rw [h1]
    simp only [x_yes, h2]
    have hz := hl n hn
    rw [natsD_len, if_pos (by rw [sizeLine_eq]; omega)]
    have hmap := lcL_of (still := fun _ => True) (st := st') (b := fun d st => lcB tg1 mYes me d (wipeE e1' vs1) st) (fun d => match d with | .int i => some (f n i.toNat) | _ => none) trivial (natsD (ms n)) fun d hd => by
      obtain ⟨m, hm, rfl⟩ := List.mem_map.mp hd
      obtain ⟨e2, q1, q2, q3⟩ := h3 m hm
      exact lcB_some (g := []) q1 rfl (by simpa using q2) (by simpa using q3)
    rw [hmap]
    simp only [natsD, List.filterMap_map]
    have : (fun d => match d with | D.int i => some (f n i.toNat) | _ => none) ∘ (fun n : Nat => D.int (n : Int)) = fun m => some (f n m) := by funext m; simp
    rw [this, filterMap_some]
    simp
  case hB =>
    rw [e1]
    have : (ns.flatMap fun n => (ms n).map (f n)).length = (ns.flatMap ms).length := by simp [List.length_flatMap]
    rw [this]; omega
  simp only [R.bind_ok]; rw [e1]
end Py

set_option Elab.async false
set_option linter.all false
set_option maxRecDepth 100000
set_option maxHeartbeats 1000000
namespace Py
open L2 PySem PySem.Spec PyProof.Rows
/-! ### the rules as steps -/
section
variable {e e' e'' : Py.Loc} {st st1 st2 st3 : Store} {ma mb : Py.Loc → Store → R D} {ml : Py.Loc → Store → R (List D)} {ta : Py.Loc → Store → R Bool} {a b c : D} {ds : List D} {m1 m2 : Py.Loc → Store → Fl} {f : D → D → Store → Option (D × Store)} {r : Fl}
theorem op2_of (h1 : ma e st = .ok a st1) (h2 : mb e st1 = .ok b st2) (h3 : f a b st2 = some (c, st3)) : mOp2 f ma mb e st = .ok c st3 := by
  unfold mOp2; rw [h1]; simp only [R.bind_ok, h2, h3, ofO_some]
theorem opN_of {f : List D → Store → Option (D × Store)} (h1 : ml e st = .ok ds st1) (h3 : f ds st1 = some (c, st3)) : mOpN f ml e st = .ok c st3 := by
  unfold mOpN; rw [h1]; simp only [R.bind_ok, h3, ofO_some]
theorem op1_of {f : D → Store → Option (D × Store)} (h1 : ma e st = .ok a st1) (h3 : f a st1 = some (c, st3)) : mOp1 f ma e st = .ok c st3 := by
  unfold mOp1; rw [h1]; simp only [R.bind_ok, h3, ofO_some]
theorem call_of {m : Mean} (h1 : ml e st = .ok ds st1) (h2 : m ds st1 = .ok c st2) : mCall m ml e st = .ok c st2 := by
  unfold mCall; rw [h1]; simp only [R.bind_ok, h2]
theorem nil_of : mNil e st = .ok [] st := rfl
theorem cons_of (h1 : ma e st = .ok a st1) (h2 : ml e st1 = .ok ds st2) : mCons ma ml e st = .ok (a :: ds) st2 := by
  unfold mCons; rw [h1]; simp only [R.bind_ok, h2]
theorem one_of (h1 : ma e st = .ok a st1) : mCons ma mNil e st = .ok [a] st1 := cons_of h1 nil_of
theorem two_of (h1 : ma e st = .ok a st1) (h2 : mb e st1 = .ok b st2) : mCons ma (mCons mb mNil) e st = .ok [a, b] st2 := cons_of h1 (one_of h2)
theorem tup_of (h : ml e st = .ok ds st1) (hl : ds.length ≤ 1000000) : mTup ml e st = .ok (.tup ds) st1 := by
  rw [x_tup, h]; simp only [R.bind_ok]; rw [if_pos (le_size hl)]
theorem lst_of (h : ml e st = .ok ds st1) (hl : ds.length ≤ 1000000) : mLst ml e st = .ok (.ref st1.length) (st1 ++ [.lst ds]) := by
  rw [x_lst, h]; simp only [R.bind_ok]; rw [if_pos (le_size hl)]
theorem asB_ok {k : Bool} (h : ma e st = .ok (.bl k) st1) : asB ma e st = .ok k st1 := by unfold asB; rw [h]; rfl
theorem var_of {i : Nat} {d : D} (h : e[i]? = some (some d)) : mVar i e st = .ok d st := x_var h
theorem and_t {tb : Py.Loc → Store → R Bool} {k : Bool} (h : ta e st = .ok true st1) (h2 : tb e st1 = .ok k st2) : mAnd ta tb e st = .ok k st2 := by unfold mAnd; rw [h]; simp only [R.bind_ok, if_true, h2]
theorem and_f {tb : Py.Loc → Store → R Bool} (h : ta e st = .ok false st1) : mAnd ta tb e st = .ok false st1 := by unfold mAnd; rw [h]; rfl
theorem or_f {tb : Py.Loc → Store → R Bool} {k : Bool} (h : ta e st = .ok false st1) (h2 : tb e st1 = .ok k st2) : mOr ta tb e st = .ok k st2 := by unfold mOr; rw [h]; simp only [R.bind_ok, Bool.false_eq_true, if_false, h2]
theorem or_t {tb : Py.Loc → Store → R Bool} (h : ta e st = .ok true st1) : mOr ta tb e st = .ok true st1 := by unfold mOr; rw [h]; rfl
theorem not_of {k : Bool} (h : ta e st = .ok k st1) : mNot ta e st = .ok (!k) st1 := by unfold mNot; rw [h]; rfl
theorem ifx_t {k : Bool} (h : ta e st = .ok true st1) (h2 : ma e st1 = .ok a st2) : mIf ta ma mb e st = .ok a st2 := by unfold mIf; rw [h]; simp only [R.bind_ok, if_true, h2]
theorem ifx_f {k : Bool} (h : ta e st = .ok false st1) (h2 : mb e st1 = .ok a st2) : mIf ta ma mb e st = .ok a st2 := by unfold mIf; rw [h]; simp only [R.bind_ok, Bool.false_eq_true, if_false, h2]
theorem seq_nx (h : m1 e st = .nx e' st1) (h2 : m2 e' st1 = r) : sSeq m1 m2 e st = r := by unfold sSeq; rw [h]; simp only [Fl.seq_nx, h2]
theorem seq_rt {d : D} (h : m1 e st = .rt d st1) : sSeq m1 m2 e st = .rt d st1 := by unfold sSeq; rw [h]; rfl
theorem end_nx : (fun (e : Py.Loc) (st : Store) => Fl.nx e st) e st = .nx e st := rfl
theorem if_t (h : ta e st = .ok true st1) (h2 : m1 e st1 = r) : sIf ta m1 m2 e st = r := by unfold sIf; rw [h]; simp only [R.to_ok, if_true, h2]
theorem if_f (h : ta e st = .ok false st1) (h2 : m2 e st1 = r) : sIf ta m1 m2 e st = r := by unfold sIf; rw [h]; simp only [R.to_ok, Bool.false_eq_true, if_false, h2]
theorem ret_of (h : ma e st = .ok a st1) : sRet ma e st = .rt a st1 := by unfold sRet; rw [h]; rfl
theorem exp_of (h : ma e st = .ok a st1) : sExp ma e st = .nx e st1 := by unfold sExp; rw [h]; rfl
theorem set_of {i : Nat} (h : ma e st = .ok a st1) : sAsg ma (gN i) e st = .nx (e.set i (some a)) st1 := by unfold sAsg; rw [h]; rfl
theorem asg_of {g : D → Py.Loc → Store → Fl} (h : ma e st = .ok a st1) (h2 : g a e st1 = .nx e' st2) : sAsg ma g e st = .nx e' st2 := by unfold sAsg; rw [h]; simp only [R.to_ok, h2, Fl.seq_nx]
theorem for_of {mi : Py.Loc → Store → R Iter} {g : D → Py.Loc → Store → Fl} {it : Iter} (h : mi e st = .ok it st1) (h2 : forL it.still (fun d e st => (g d e st).seq m1) it.items e st1 = r) : sFor mi g m1 e st = r := by unfold sFor; rw [h]; simp only [R.to_ok, h2]
theorem it_of {it : Iter} (h : ma e st = .ok a st1) (h2 : itD a st1 = some it) : mIt ma e st = .ok it st1 := by unfold mIt; rw [h]; simp only [R.bind_ok, h2]
theorem en_of {it : Iter} (h : ma e st = .ok a st1) (h2 : enD a st1 = some it) : mEn ma e st = .ok it st1 := by unfold mEn; rw [h]; simp only [R.bind_ok, h2]
theorem mt_of {f : D → List D → Store → Option (D × Store)} (h : ma e st = .ok a st1) (hl : isLst a st1 = true) (h2 : ml e st1 = .ok ds st2) (h3 : f a ds st2 = some (c, st3)) : mMt f ma ml e st = .ok c st3 := by
  unfold mMt; rw [h]; simp only [R.bind_ok]; rw [if_pos hl, h2]; simp only [R.bind_ok, h3, ofO_some]
theorem tupRg_of {m : Py.Loc → Store → R (Int × Int)} {x y : Nat} (h : m e st = .ok ((x : Int), (y : Int)) st1) (hx : x ≤ 1000000) (hy : y ≤ 1000000) : mTupRg m e st = .ok (.tup (natsD ((List.range (y - x)).map (x + ·)))) st1 := by
  rw [x_tupRg, h]; simp only [R.bind_ok]; rw [if_pos (rgO_nat x y hx hy), rgD_nat]
theorem run_newS {N : List Str} {mb : Py.Loc → Store → Fl} {ds : List D} {st st' g : Store} {n : Nat} {o : O} (h : mb (startE N ds) st = .rt (.ref n) st') (hs : st' = st ++ g) (hn : st.length ≤ n) (ho : st'[n]? = some o) (l : lowO st.length o = true) : runD N mb ds st = .ok (.ref st.length) (st ++ [o]) := by
  subst hs
  exact run_new h hn ho l
theorem run_rtS {N : List Str} {mb : Py.Loc → Store → Fl} {ds : List D} {st st' g : Store} {d : D} (h : mb (startE N ds) st = .rt d st') (hs : st' = st ++ g) (f : flat d = true) : runD N mb ds st = .ok d st := by
  subst hs
  exact run_rt h f
end
end Py

set_option Elab.async false
set_option linter.all false
set_option maxRecDepth 100000
set_option maxHeartbeats 1000000
namespace Py
open L2 PySem PySem.Spec PyProof.Rows
section
variable {e e' e'' : Py.Loc} {st st1 st2 st3 : Store} {ma mb mc : Py.Loc → Store → R D} {ml : Py.Loc → Store → R (List D)} {ta : Py.Loc → Store → R Bool} {a b c : D} {ds : List D} {m1 m2 : Py.Loc → Store → Fl} {f : D → D → Store → Option (D × Store)} {r : R D}
theorem andV_t (h : ma e st = .ok (.bl true) st1) (h2 : mb e st1 = r) : mAndV ma mb e st = r := by unfold mAndV; rw [h]; simp only [R.bind_ok, h2]
theorem andV_f (h : ma e st = .ok (.bl false) st1) : mAndV ma mb e st = .ok (.bl false) st1 := by unfold mAndV; rw [h]; rfl
theorem orV_f (h : ma e st = .ok (.bl false) st1) (h2 : mb e st1 = r) : mOrV ma mb e st = r := by unfold mOrV; rw [h]; simp only [R.bind_ok, h2]
theorem orV_t (h : ma e st = .ok (.bl true) st1) : mOrV ma mb e st = .ok (.bl true) st1 := by unfold mOrV; rw [h]; rfl
theorem notV_of {k : Bool} (h : ma e st = .ok (.bl k) st1) : mNotV ma e st = .ok (.bl (!k)) st1 := by unfold mNotV; rw [h]; rfl
theorem isi_of {cs : List String} {t : String} {k : Bool} (h : ma e st = .ok a st1) (ht : tyName a st1 = some t) (hk : (cs.any fun c => isT t c) = k) : mIsi ma cs e st = .ok (.bl k) st1 := by unfold mIsi; rw [h]; simp only [R.bind_ok, ht, hk]
theorem chain_t {f g : D → D → Store → Option (D × Store)} {k : D} (h1 : ma e st = .ok a st1) (h2 : mb e st1 = .ok b st2) (h3 : f a b st2 = some (.bl true, st2)) (h4 : mc e st2 = .ok c st3) (h5 : g b c st3 = some (k, st3)) : mChain f g ma mb mc e st = .ok k st3 := by
  unfold mChain; rw [h1]; simp only [R.bind_ok, h2, h3, ofO_some, h4, h5]
theorem sl_of {m1 m2 : Py.Loc → Store → R (Option Int)} {lo hi : Option Int} (h : ma e st = .ok a st1) (h1 : m1 e st1 = .ok lo st2) (h2 : m2 e st2 = .ok hi st3) {st4 : Store} (h3 : cutD a lo hi st3 = some (c, st4)) : mSl ma m1 m2 e st = .ok c st4 := by
  unfold mSl; rw [h]; simp only [R.bind_ok, h1, h2, h3, ofO_some]
theorem p_of {i : Int} (h : ma e st = .ok (.int i) st1) : mP ma e st = .ok (some i) st1 := by unfold mP; rw [h]; rfl
theorem mtS_of {f : D → List D → Store → Option (D × Store)} {z : Str} (h : ma e st = .ok (.str z) st1) (h2 : mb e st1 = .ok b st2) (h3 : f (.str z) [b] st2 = some (c, st3)) : mMtS f ma mb e st = .ok c st3 := by
  unfold mMtS; rw [h]; simp only [R.bind_ok, h2, h3, ofO_some]
theorem sub_of {g : D → D → D → Store → Option Store} {d : D} (h : ma e st = .ok a st1) (h2 : mb e st1 = .ok b st2) (h3 : g a b d st2 = some st3) : gSb g ma mb d e st = .nx e st3 := by
  unfold gSb; rw [h]; simp only [R.to_ok, h2, h3]
/-! ### enumerate over flags -/
def enF (n : Nat) : List D → List D
  | [] => []
  | d :: ds => .tup [.int (n : Nat), d] :: enF (n + 1) ds
theorem enL_F (ds : List D) : enL ds = enF 0 ds := by
  have : ∀ (ds : List D) (n : Nat), (ds.mapIdx fun i d => D.tup [.int ((n + i : Nat) : Int), d]) = enF n ds := fun ds => by
    induction ds with
    | nil => intro n; rfl
    | cons d ds ih =>
      intro n
      rw [List.mapIdx_cons]
      simp only [enF, Nat.add_zero]
      congr 1
      rw [← ih (n + 1)]
      congr 1
      funext i d
      congr 3
      omega
  have h := this ds 0
  simp only [Nat.zero_add] at h
  exact h
end
end Py

set_option Elab.async false
set_option linter.all false
set_option maxRecDepth 100000
set_option maxHeartbeats 1000000
namespace Py
open L2 PySem PySem.Spec PyProof.Rows
section
variable {e e' : Py.Loc} {st st1 st2 st3 : Store} {c : Py.Loc → Store → R Bool} {b : Py.Loc → Store → Fl} {ma mb : Py.Loc → Store → R D} {x y : D}
theorem wh_t (h : c e st = .ok true st1) (h2 : b e st1 = .nx e' st2) : sWh c b e st = sWh c b e' st2 := by rw [sWh_unf, h]; simp only [h2]
theorem wh_f (h : c e st = .ok false st1) : sWh c b e st = .nx e st1 := by rw [sWh_unf, h]
theorem par2_of {i j : Nat} (h1 : ma e st = .ok x st1) (h2 : mb e st1 = .ok y st2) : sPar2 i j (mCons ma (mCons mb mNil)) e st = .nx ((e.set i (some x)).set j (some y)) st2 := by
  unfold sPar2; rw [two_of h1 h2]; rfl
theorem fmod_nat (m n : Nat) (h : 0 < n) : Int.fmod (m : Int) (n : Int) = ((m % n : Nat) : Int) := by rw [Int.fmod_eq_emod_of_nonneg _ (by omega)]; omega
theorem fdiv_nat (m n : Nat) (h : 0 < n) : Int.fdiv (m : Int) (n : Int) = ((m / n : Nat) : Int) := by rw [Int.fdiv_eq_ediv_of_nonneg _ (by omega)]; rfl
end
end Py

set_option Elab.async false
set_option linter.all false
set_option maxRecDepth 100000
set_option maxHeartbeats 1000000
namespace Py
open L2 PySem PySem.Spec PyProof.Rows
/-! ### the hand in the store -/
structure Hnd (st : Store) (h c : Nat) (cells : List Int) : Prop where
  now : ∃ i a b e, st[h]? = some (hd5 c i a b e) ∧ Good cells i a b e
  cl : st[c]? = some (.lst (intsD cells))
  ne : c ≠ h
/-- only the hand has changed -/
def Stp (st st' : Store) (h c : Nat) : Prop := ∃ i a b e, st' = st.set h (hd5 c i a b e)
section
variable {st st' st'' g : Store} {h c : Nat} {cells : List Int}
theorem Hnd.hl (H : Hnd st h c cells) : h < st.length := by obtain ⟨i, a, b, e, q, _⟩ := H.now; exact (List.getElem?_eq_some_iff.mp q).1
theorem Hnd.cll (H : Hnd st h c cells) : c < st.length := (List.getElem?_eq_some_iff.mp H.cl).1
theorem Hnd.app (H : Hnd st h c cells) (g : Store) : Hnd (st ++ g) h c cells := by
  obtain ⟨i, a, b, e, q, G⟩ := H.now
  exact ⟨⟨i, a, b, e, by rw [List.getElem?_append_left H.hl, q], G⟩, by rw [List.getElem?_append_left H.cll, H.cl], H.ne⟩
theorem Stp.refl (H : Hnd st h c cells) : Stp st st h c := by
  obtain ⟨i, a, b, e, q, G⟩ := H.now
  refine ⟨i, a, b, e, ?_⟩
  obtain ⟨hh, q'⟩ := List.getElem?_eq_some_iff.mp q
  rw [← q', List.set_getElem_self]
theorem Stp.trans (x : Stp st st' h c) (y : Stp st' st'' h c) : Stp st st'' h c := by
  obtain ⟨i, a, b, e, rfl⟩ := x
  obtain ⟨i', a', b', e', rfl⟩ := y
  exact ⟨i', a', b', e', by rw [List.set_set]⟩
theorem Stp.len (x : Stp st st' h c) : st'.length = st.length := by obtain ⟨i, a, b, e, rfl⟩ := x; simp
theorem Stp.at_ (x : Stp st st' h c) {j : Nat} (hj : j ≠ h) : st'[j]? = st[j]? := by obtain ⟨i, a, b, e, rfl⟩ := x; exact at_ne hj
theorem Stp.app (x : Stp (st ++ g) st' h c) (hh : h < st.length) : ∃ s1, st' = s1 ++ g ∧ Stp st s1 h c := by
  obtain ⟨i, a, b, e, rfl⟩ := x
  exact ⟨st.set h (hd5 c i a b e), List.set_append_left _ _ hh, i, a, b, e, rfl⟩
theorem Stp.gc (x : Stp st st' h c) (H : Hnd st h c cells) {d : D} (f : lowD st.length d = true) : Py.gc st d (st' ++ g) = (d, st') := by
  obtain ⟨i, a, b, e, rfl⟩ := x
  have hl : (st.set h (hd5 c i a b e)).length = st.length := by simp
  rw [gc_low (fun j hj => ?_) f]
  · rw [← hl, List.take_left]
  · rw [List.getElem?_append_left (by rw [hl]; exact hj)]
    by_cases hjh : j = h
    · subst hjh
      refine .inr ⟨_, at_set H.hl, ?_⟩
      simp [lowO, lowDs, lowD, H.cll]
    · left; rw [at_ne hjh]
theorem run_stp {N : List Str} {mb : Py.Loc → Store → Fl} {ds : List D} {d : D} {s' : Store} (H : Hnd st h c cells) (x : Stp st st' h c) (hb : mb (startE N ds) st = .rt d s') (hs : s' = st' ++ g) (f : flat d = true) : runD N mb ds st = .ok d st' := by
  subst hs
  unfold runD
  rw [hb]
  simp only [x.gc H (lowD_flat f)]
/-- an item of a comprehension that draws -/
theorem lcB_stp {tg : Tg} {mt : Py.Loc → Store → R Bool} {me : Py.Loc → Store → R D} {d y : D} {e e1 : Py.Loc} (H : Hnd st h c cells) (x : Stp st st' h c) (hb : bindE tg d e = some e1) (ht : mt e1 st = .ok true st) (he : me e1 st = .ok y (st' ++ g)) (f : lowD st.length y = true) : lcB tg mt me d e st = .ok (some y) st' := by
  unfold lcB
  rw [hb]
  simp only [ht, he, x.gc H f]
end
end Py

set_option Elab.async false
set_option linter.all false
set_option maxRecDepth 100000
set_option maxHeartbeats 4000000
namespace K98
open Py L2 PySem PySem.Spec PyProof.Rows
/-! the defs of the text: what each means, and that it means it (printed by gen.py) -/
def top (i : Nat) : Stmt := PySem.Challenge.pw_stuckloses_k98_whole_coins_and_twos.main.body.getD i (.Pass ⟨0, 0, 0, 0⟩)
abbrev BLs : List Str := ["abs", "all", "bool", "enumerate", "int", "isinstance", "len", "list", "max", "range", "sorted", "str", "tuple", "zip"]
abbrev GCs : List (Str × D) := [("MOST_SIZE_twos", .int 18446744073709551616), ("MOST_ROW", .int 64), ("MOST_BOARD", .int 16), ("ONE", .str "one"), ("TWO", .str "two"), ("THREE", .str "three"), ("TWINS", .str "twins"), ("RULER", .str "ruler"), ("DOUBLES", .str "doubles"), ("RULES", .kt [.str "one", .str "two", .str "three", .str "twins", .str "ruler", .str "doubles"]), ("MOST_HEAPS", .int 60), ("MOST_SIZE_heaps", .int 1152921504606846976)]
abbrev N_is_integer : List Str := ["thing"]
noncomputable def b_is_integer : Py.Loc → Store → Fl := (sSeq (sRet (mAndV (mIsi (mVar 0) ["int"]) (mNotV (mIsi (mVar 0) ["bool"])))) (fun e st => .nx e st))
noncomputable def m_is_integer : Mean := runD N_is_integer b_is_integer
abbrev N_is_within : List Str := ["thing", "low", "high"]
noncomputable def b_is_within : Py.Loc → Store → Fl := (sSeq (sRet (mAndV (mCall m_is_integer (mCons (mVar 0) mNil)) (mChain leD leD (mVar 1) (mVar 0) (mVar 2)))) (fun e st => .nx e st))
noncomputable def m_is_within : Mean := runD N_is_within b_is_within
abbrev N_are_integers : List Str := ["thing", "item"]
noncomputable def b_are_integers : Py.Loc → Store → Fl := (sSeq (sRet (mAndV (mIsi (mVar 0) ["tuple"]) (mOpN allD (mCons (mLc (mIt (mVar 0)) (.nm 1) mYes (mCall m_is_integer (mCons (mVar 1) mNil)) [1]) mNil)))) (fun e st => .nx e st))
noncomputable def m_are_integers : Mean := runD N_are_integers b_are_integers
abbrev N_are_counts : List Str := ["thing", "item"]
noncomputable def b_are_counts : Py.Loc → Store → Fl := (sSeq (sRet (mAndV (mCall m_are_integers (mCons (mVar 0) mNil)) (mOpN allD (mCons (mLc (mIt (mVar 0)) (.nm 1) mYes (mOp2 geD (mVar 1) (mC (.int 0))) [1]) mNil)))) (fun e st => .nx e st))
noncomputable def m_are_counts : Mean := runD N_are_counts b_are_counts
abbrev N_least_missing : List Str := ["some", "held", "found", "one"]
noncomputable def b_least_missing : Py.Loc → Store → Fl := (sSeq (sAsg (mDc (mIt (mVar 0)) (.nm 3) mYes (mVar 3) (mC (.bl true)) [3]) (gN 1)) (sSeq (sAsg (mC (.int 0)) (gN 2)) (sSeq (sWh (asB (mOp2 inA (mVar 2) (mVar 1))) (sSeq (sAsg (mOp2 addD (mVar 2) (mC (.int 1))) (gN 2)) (fun e st => .nx e st))) (sSeq (sRet (mVar 2)) (fun e st => .nx e st)))))
noncomputable def m_least_missing : Mean := runD N_least_missing b_least_missing
abbrev N_together : List Str := ["some", "found", "one"]
noncomputable def b_together : Py.Loc → Store → Fl := (sSeq (sAsg (mC (.int 0)) (gN 1)) (sSeq (sFor (mIt (mVar 0)) (gN 2) (sSeq (sAsg (mOp2 xorD (mVar 1) (mVar 2)) (gN 1)) (fun e st => .nx e st))) (sSeq (sRet (mVar 1)) (fun e st => .nx e st))))
noncomputable def m_together : Mean := runD N_together b_together
abbrev N_check_count : List Str := ["number"]
noncomputable def b_check_count : Py.Loc → Store → Fl := (sSeq (sIf (mOr (mNot (asB (mCall m_is_integer (mCons (mVar 0) mNil)))) (mNot (asB (mChain leD ltD (mC (.int 0)) (mVar 0) (mC (.int 18446744073709551616)))))) (sSeq (fun _ _ => .stuck) (fun e st => .nx e st)) (fun e st => .nx e st)) (fun e st => .nx e st))
noncomputable def m_check_count : Mean := runD N_check_count b_check_count
abbrev N_check_counts : List Str := ["numbers", "number"]
noncomputable def b_check_counts : Py.Loc → Store → Fl := (sSeq (sIf (mOr (mNot (asB (mIsi (mVar 0) ["tuple"]))) (asB (mOp2 gtD (mOpN lenD (mCons (mVar 0) mNil)) (mC (.int 1000))))) (sSeq (fun _ _ => .stuck) (fun e st => .nx e st)) (fun e st => .nx e st)) (sSeq (sFor (mIt (mVar 0)) (gN 1) (sSeq (sExp (mCall m_check_count (mCons (mVar 1) mNil))) (fun e st => .nx e st))) (fun e st => .nx e st)))
noncomputable def m_check_counts : Mean := runD N_check_counts b_check_counts
abbrev N_two_sum : List Str := ["numbers"]
noncomputable def b_two_sum : Py.Loc → Store → Fl := (sSeq (sExp (mCall m_check_counts (mCons (mVar 0) mNil))) (sSeq (sRet (mCall m_together (mCons (mVar 0) mNil))) (fun e st => .nx e st)))
noncomputable def m_two_sum : Mean := runD N_two_sum b_two_sum
abbrev N_half_bits : List Str := ["number", "size"]
noncomputable def b_half_bits : Py.Loc → Store → Fl := (sSeq (sAsg (mC (.int 1)) (gN 1)) (sSeq (sWh (asB (mOp2 gtD (mOp2 shrD (mVar 0) (mOp2 mulD (mC (.int 2)) (mVar 1))) (mC (.int 0)))) (sSeq (sAsg (mOp2 mulD (mVar 1) (mC (.int 2))) (gN 1)) (fun e st => .nx e st))) (sSeq (sRet (mVar 1)) (fun e st => .nx e st))))
noncomputable def m_half_bits : Mean := runD N_half_bits b_half_bits
abbrev N_product_of : List Str := ["one", "other", "size", "mask", "high", "low", "top", "rest", "both", "ends", "cross"]
noncomputable def b_product_of (m : Mean) : Py.Loc → Store → Fl := (sSeq (sIf (mOr (asB (mOp2 ltD (mVar 0) (mC (.int 2)))) (asB (mOp2 ltD (mVar 1) (mC (.int 2))))) (sSeq (sRet (mOp2 mulD (mVar 0) (mVar 1))) (fun e st => .nx e st)) (fun e st => .nx e st)) (sSeq (sAsg (mCall m_half_bits (mCons (mOpN maxD' (mCons (mVar 0) (mCons (mVar 1) mNil))) mNil)) (gN 2)) (sSeq (sAsg (mOp2 subD (mOp2 shlD (mC (.int 1)) (mVar 2)) (mC (.int 1))) (gN 3)) (sSeq (sPar2 4 5 (mCons (mOp2 shrD (mVar 0) (mVar 2)) (mCons (mOp2 andD (mVar 0) (mVar 3)) mNil))) (sSeq (sPar2 6 7 (mCons (mOp2 shrD (mVar 1) (mVar 2)) (mCons (mOp2 andD (mVar 1) (mVar 3)) mNil))) (sSeq (sAsg (mCall m (mCons (mVar 4) (mCons (mVar 6) mNil))) (gN 8)) (sSeq (sAsg (mCall m (mCons (mVar 5) (mCons (mVar 7) mNil))) (gN 9)) (sSeq (sAsg (mOp2 xorD (mCall m (mCons (mOp2 xorD (mVar 4) (mVar 5)) (mCons (mOp2 xorD (mVar 6) (mVar 7)) mNil))) (mVar 9)) (gN 10)) (sSeq (sRet (mOp2 xorD (mOp2 xorD (mOp2 shlD (mVar 10) (mVar 2)) (mVar 9)) (mCall m (mCons (mVar 8) (mCons (mOp2 shlD (mC (.int 1)) (mOp2 subD (mVar 2) (mC (.int 1)))) mNil))))) (fun e st => .nx e st))))))))))
noncomputable def m_product_ofF : Nat → Mean
  | 0 => runD N_product_of fun _ _ => .stuck
  | n + 1 => runD N_product_of (b_product_of (m_product_ofF n))
abbrev N_two_product : List Str := ["one", "other"]
noncomputable def b_two_product : Py.Loc → Store → Fl := (sSeq (sExp (mCall m_check_count (mCons (mVar 0) mNil))) (sSeq (sExp (mCall m_check_count (mCons (mVar 1) mNil))) (sSeq (sRet (mCall (m_product_ofF 8) (mCons (mVar 0) (mCons (mVar 1) mNil)))) (fun e st => .nx e st))))
noncomputable def m_two_product : Mean := runD N_two_product b_two_product
abbrev N_check_rule : List Str := ["rule"]
noncomputable def b_check_rule : Py.Loc → Store → Fl := (sSeq (sIf (mOr (mNot (asB (mIsi (mVar 0) ["str"]))) (asB (mOp2 ninA (mVar 0) (mC (.kt [.str "one", .str "two", .str "three", .str "twins", .str "ruler", .str "doubles"]))))) (sSeq (fun _ _ => .stuck) (fun e st => .nx e st)) (fun e st => .nx e st)) (fun e st => .nx e st))
noncomputable def m_check_rule : Mean := runD N_check_rule b_check_rule
abbrev N_turnings_of : List Str := ["rule", "place", "at", "other"]
noncomputable def b_turnings_of : Py.Loc → Store → Fl := (sSeq (sIf (asB (mOp2 eqD (mVar 0) (mC (.str "one")))) (sSeq (sRet (mLst (mCons (mTup mNil) mNil))) (fun e st => .nx e st)) (fun e st => .nx e st)) (sSeq (sIf (asB (mOp2 eqD (mVar 0) (mC (.str "two")))) (sSeq (sRet (mOp2 addD (mLst (mCons (mTup mNil) mNil)) (mLc (mRgs (mCons (mVar 1) mNil)) (.nm 2) mYes (mTup (mCons (mVar 2) mNil)) [2]))) (fun e st => .nx e st)) (fun e st => .nx e st)) (sSeq (sIf (asB (mOp2 eqD (mVar 0) (mC (.str "three")))) (sSeq (sRet (mOp2 addD (mOp2 addD (mLst (mCons (mTup mNil) mNil)) (mLc (mRgs (mCons (mVar 1) mNil)) (.nm 2) mYes (mTup (mCons (mVar 2) mNil)) [2])) (mLc2 (mRgs (mCons (mVar 1) mNil)) (.nm 3) mYes (mRgs (mCons (mVar 3) mNil)) (.nm 2) mYes (mTup (mCons (mVar 2) (mCons (mVar 3) mNil))) [3, 2] [2]))) (fun e st => .nx e st)) (fun e st => .nx e st)) (sSeq (sIf (asB (mOp2 eqD (mVar 0) (mC (.str "twins")))) (sSeq (sRet (mLc (mRgs (mCons (mVar 1) mNil)) (.nm 2) mYes (mTup (mCons (mVar 2) mNil)) [2])) (fun e st => .nx e st)) (fun e st => .nx e st)) (sSeq (sIf (asB (mOp2 eqD (mVar 0) (mC (.str "ruler")))) (sSeq (sRet (mLc (mRgs (mCons (mOp2 addD (mVar 1) (mC (.int 1))) mNil)) (.nm 2) mYes (mTupRg (mR2 (mVar 2) (mVar 1))) [2])) (fun e st => .nx e st)) (fun e st => .nx e st)) (sSeq (sRet (mOp2 addD (mLst (mCons (mTup mNil) mNil)) (mLc (mRgs (mCons (mOp2 fdivD (mOp2 addD (mVar 1) (mC (.int 1))) (mC (.int 2))) (mCons (mVar 1) mNil))) (.nm 2) mYes (mTup (mCons (mVar 2) mNil)) [2]))) (fun e st => .nx e st)))))))
noncomputable def m_turnings_of : Mean := runD N_turnings_of b_turnings_of
abbrev N_numbers_of : List Str := ["rule", "many", "found", "place", "lot", "at"]
noncomputable def b_numbers_of : Py.Loc → Store → Fl := (sSeq (sAsg (mLst mNil) (gN 2)) (sSeq (sFor (mRgs (mCons (mVar 1) mNil)) (gN 3) (sSeq (sExp (mMt appD (mVar 2) (mCons (mCall m_least_missing (mCons (mLc (mIt (mCall m_turnings_of (mCons (mVar 0) (mCons (mVar 3) mNil)))) (.nm 4) mYes (mCall m_together (mCons (mLc (mIt (mVar 4)) (.nm 5) mYes (mOp2 ixD (mVar 2) (mVar 5)) [5]) mNil)) [4]) mNil)) mNil))) (fun e st => .nx e st))) (sSeq (sRet (mVar 2)) (fun e st => .nx e st))))
noncomputable def m_numbers_of : Mean := runD N_numbers_of b_numbers_of
abbrev N_place_numbers : List Str := ["rule", "many"]
noncomputable def b_place_numbers : Py.Loc → Store → Fl := (sSeq (sExp (mCall m_check_rule (mCons (mVar 0) mNil))) (sSeq (sIf (mNot (asB (mCall m_is_within (mCons (mVar 1) (mCons (mC (.int 0)) (mCons (mC (.int 64)) mNil)))))) (sSeq (fun _ _ => .stuck) (fun e st => .nx e st)) (fun e st => .nx e st)) (sSeq (sRet (mOpN tupD (mCons (mCall m_numbers_of (mCons (mVar 0) (mCons (mVar 1) mNil))) mNil))) (fun e st => .nx e st))))
noncomputable def m_place_numbers : Mean := runD N_place_numbers b_place_numbers
abbrev N_is_row : List Str := ["thing", "sign"]
noncomputable def b_is_row : Py.Loc → Store → Fl := (sSeq (sRet (mAndV (mIsi (mVar 0) ["str"]) (mAndV (mOp2 leD (mOpN lenD (mCons (mVar 0) mNil)) (mC (.int 64))) (mOpN allD (mCons (mLc (mIt (mVar 0)) (.nm 1) mYes (mOp2 inA (mVar 1) (mC (.str "HT"))) [1]) mNil))))) (fun e st => .nx e st))
noncomputable def m_is_row : Mean := runD N_is_row b_is_row
abbrev N_check_row : List Str := ["row"]
noncomputable def b_check_row : Py.Loc → Store → Fl := (sSeq (sIf (mNot (asB (mCall m_is_row (mCons (mVar 0) mNil)))) (sSeq (fun _ _ => .stuck) (fun e st => .nx e st)) (fun e st => .nx e st)) (fun e st => .nx e st))
noncomputable def m_check_row : Mean := runD N_check_row b_check_row
abbrev N_coins_number : List Str := ["rule", "row", "told", "at", "sign"]
noncomputable def b_coins_number : Py.Loc → Store → Fl := (sSeq (sExp (mCall m_check_rule (mCons (mVar 0) mNil))) (sSeq (sExp (mCall m_check_row (mCons (mVar 1) mNil))) (sSeq (sAsg (mCall m_numbers_of (mCons (mVar 0) (mCons (mOpN lenD (mCons (mVar 1) mNil)) mNil))) (gN 2)) (sSeq (sRet (mCall m_together (mCons (mLc (mEn (mVar 1)) (.tp [3, 4]) (asB (mOp2 eqD (mVar 4) (mC (.str "H")))) (mOp2 ixD (mVar 2) (mVar 3)) [3, 4]) mNil))) (fun e st => .nx e st)))))
noncomputable def m_coins_number : Mean := runD N_coins_number b_coins_number
abbrev N_turned_row : List Str := ["row", "places", "found", "at"]
noncomputable def b_turned_row : Py.Loc → Store → Fl := (sSeq (sAsg (mOpN listD (mCons (mVar 0) mNil)) (gN 2)) (sSeq (sFor (mIt (mVar 1)) (gN 3) (sSeq (sAsg (mIf (asB (mOp2 eqD (mOp2 ixD (mVar 2) (mVar 3)) (mC (.str "H")))) (mC (.str "T")) (mC (.str "H"))) (gSb setD (mVar 2) (mVar 3))) (fun e st => .nx e st))) (sSeq (sRet (mMtS joinD (mC (.str "")) (mVar 2))) (fun e st => .nx e st))))
noncomputable def m_turned_row : Mean := runD N_turned_row b_turned_row
abbrev N_rows_below : List Str := ["rule", "row", "found", "place", "sign", "lot"]
noncomputable def b_rows_below : Py.Loc → Store → Fl := (sSeq (sExp (mCall m_check_rule (mCons (mVar 0) mNil))) (sSeq (sExp (mCall m_check_row (mCons (mVar 1) mNil))) (sSeq (sIf (asB (mOp2 gtD (mOpN lenD (mCons (mVar 1) mNil)) (mC (.int 20)))) (sSeq (fun _ _ => .stuck) (fun e st => .nx e st)) (fun e st => .nx e st)) (sSeq (sAsg mNewD (gN 2)) (sSeq (sFor (mEn (mVar 1)) (gTp 2 (gCn (gN 3) (gCn (gN 4) gNl))) (sSeq (sIf (asB (mOp2 eqD (mVar 4) (mC (.str "H")))) (sSeq (sFor (mIt (mCall m_turnings_of (mCons (mVar 0) (mCons (mVar 3) mNil)))) (gN 5) (sSeq (sAsg (mC (.bl true)) (gSb setD (mVar 2) (mCall m_turned_row (mCons (mVar 1) (mCons (mOp2 addD (mVar 5) (mTup (mCons (mVar 3) mNil))) mNil))))) (fun e st => .nx e st))) (fun e st => .nx e st)) (fun e st => .nx e st)) (fun e st => .nx e st))) (sSeq (sRet (mOpN tupD (mCons (mOpN sortD (mCons (mOpN listD (mCons (mVar 2) mNil)) mNil)) mNil))) (fun e st => .nx e st)))))))
noncomputable def m_rows_below : Mean := runD N_rows_below b_rows_below
abbrev N_winning_turn : List Str := ["rule", "row", "told", "whole", "place", "sign", "lot", "at"]
noncomputable def b_winning_turn : Py.Loc → Store → Fl := (sSeq (sExp (mCall m_check_rule (mCons (mVar 0) mNil))) (sSeq (sExp (mCall m_check_row (mCons (mVar 1) mNil))) (sSeq (sIf (asB (mOp2 gtD (mOpN lenD (mCons (mVar 1) mNil)) (mC (.int 40)))) (sSeq (fun _ _ => .stuck) (fun e st => .nx e st)) (fun e st => .nx e st)) (sSeq (sAsg (mCall m_numbers_of (mCons (mVar 0) (mCons (mOpN lenD (mCons (mVar 1) mNil)) mNil))) (gN 2)) (sSeq (sAsg (mCall m_together (mCons (mLc (mEn (mVar 1)) (.tp [7, 5]) (asB (mOp2 eqD (mVar 5) (mC (.str "H")))) (mOp2 ixD (mVar 2) (mVar 7)) [7, 5]) mNil)) (gN 3)) (sSeq (sFor (mEn (mVar 1)) (gTp 2 (gCn (gN 4) (gCn (gN 5) gNl))) (sSeq (sIf (asB (mOp2 eqD (mVar 5) (mC (.str "H")))) (sSeq (sFor (mIt (mOpN sortD (mCons (mCall m_turnings_of (mCons (mVar 0) (mCons (mVar 4) mNil))) mNil))) (gN 6) (sSeq (sIf (asB (mOp2 eqD (mOp2 xorD (mOp2 xorD (mVar 3) (mOp2 ixD (mVar 2) (mVar 4))) (mCall m_together (mCons (mLc (mIt (mVar 6)) (.nm 7) mYes (mOp2 ixD (mVar 2) (mVar 7)) [7]) mNil))) (mC (.int 0)))) (sSeq (sRet (mOp2 addD (mVar 6) (mTup (mCons (mVar 4) mNil)))) (fun e st => .nx e st)) (fun e st => .nx e st)) (fun e st => .nx e st))) (fun e st => .nx e st)) (fun e st => .nx e st)) (fun e st => .nx e st))) (sSeq (sRet (mC .non)) (fun e st => .nx e st))))))))
noncomputable def m_winning_turn : Mean := runD N_winning_turn b_winning_turn
abbrev N_is_winning_turn : List Str := ["rule", "row", "thing", "told", "whole", "at", "sign"]
noncomputable def b_is_winning_turn : Py.Loc → Store → Fl := (sSeq (sExp (mCall m_check_rule (mCons (mVar 0) mNil))) (sSeq (sExp (mCall m_check_row (mCons (mVar 1) mNil))) (sSeq (sIf (mOr (mNot (asB (mIsi (mVar 2) ["tuple"]))) (mOr (asB (mOp2 eqD (mOpN lenD (mCons (mVar 2) mNil)) (mC (.int 0)))) (mNot (asB (mOpN allD (mCons (mLc (mIt (mVar 2)) (.nm 5) mYes (mCall m_is_within (mCons (mVar 5) (mCons (mC (.int 0)) (mCons (mOp2 subD (mOpN lenD (mCons (mVar 1) mNil)) (mC (.int 1))) mNil)))) [5]) mNil)))))) (sSeq (sRet (mC (.bl false))) (fun e st => .nx e st)) (fun e st => .nx e st)) (sSeq (sIf (mOr (asB (mOp2 neD (mOp2 ixD (mVar 1) (mOp2 ixD (mVar 2) (mOp1 negD (mC (.int 1))))) (mC (.str "H")))) (asB (mOp2 ninA (mSl (mVar 2) mNoP (mP (mOp1 negD (mC (.int 1))))) (mCall m_turnings_of (mCons (mVar 0) (mCons (mOp2 ixD (mVar 2) (mOp1 negD (mC (.int 1)))) mNil)))))) (sSeq (sRet (mC (.bl false))) (fun e st => .nx e st)) (fun e st => .nx e st)) (sSeq (sAsg (mCall m_numbers_of (mCons (mVar 0) (mCons (mOpN lenD (mCons (mVar 1) mNil)) mNil))) (gN 3)) (sSeq (sAsg (mCall m_together (mCons (mLc (mEn (mVar 1)) (.tp [5, 6]) (asB (mOp2 eqD (mVar 6) (mC (.str "H")))) (mOp2 ixD (mVar 3) (mVar 5)) [5, 6]) mNil)) (gN 4)) (sSeq (sRet (mOp2 eqD (mOp2 xorD (mVar 4) (mCall m_together (mCons (mLc (mIt (mVar 2)) (.nm 5) mYes (mOp2 ixD (mVar 3) (mVar 5)) [5]) mNil))) (mC (.int 0)))) (fun e st => .nx e st))))))))
noncomputable def m_is_winning_turn : Mean := runD N_is_winning_turn b_is_winning_turn
abbrev N_check_place : List Str := ["place", "at"]
noncomputable def b_check_place : Py.Loc → Store → Fl := (sSeq (sIf (mOr (mNot (asB (mIsi (mVar 0) ["tuple"]))) (mOr (asB (mOp2 neD (mOpN lenD (mCons (mVar 0) mNil)) (mC (.int 2)))) (mNot (asB (mOpN allD (mCons (mLc (mIt (mVar 0)) (.nm 1) mYes (mCall m_is_within (mCons (mVar 1) (mCons (mC (.int 0)) (mCons (mOp2 subD (mC (.int 16)) (mC (.int 1))) mNil)))) [1]) mNil)))))) (sSeq (fun _ _ => .stuck) (fun e st => .nx e st)) (fun e st => .nx e st)) (fun e st => .nx e st))
noncomputable def m_check_place : Mean := runD N_check_place b_check_place
abbrev N_board_number : List Str := ["one", "other", "place"]
noncomputable def b_board_number : Py.Loc → Store → Fl := (sSeq (sExp (mCall m_check_rule (mCons (mVar 0) mNil))) (sSeq (sExp (mCall m_check_rule (mCons (mVar 1) mNil))) (sSeq (sExp (mCall m_check_place (mCons (mVar 2) mNil))) (sSeq (sRet (mCall (m_product_ofF 8) (mCons (mOp2 ixD (mCall m_numbers_of (mCons (mVar 0) (mCons (mOp2 addD (mOp2 ixD (mVar 2) (mC (.int 0))) (mC (.int 1))) mNil))) (mOp1 negD (mC (.int 1)))) (mCons (mOp2 ixD (mCall m_numbers_of (mCons (mVar 1) (mCons (mOp2 addD (mOp2 ixD (mVar 2) (mC (.int 1))) (mC (.int 1))) mNil))) (mOp1 negD (mC (.int 1)))) mNil)))) (fun e st => .nx e st)))))
noncomputable def m_board_number : Mean := runD N_board_number b_board_number
abbrev N_bits_number : List Str := ["place", "ones", "here"]
noncomputable def b_bits_number : Py.Loc → Store → Fl := (sSeq (sIf (mNot (asB (mCall m_is_within (mCons (mVar 0) (mCons (mC (.int 0)) (mCons (mOp2 powD (mC (.int 10)) (mC (.int 18))) mNil)))))) (sSeq (fun _ _ => .stuck) (fun e st => .nx e st)) (fun e st => .nx e st)) (sSeq (sPar2 1 2 (mCons (mC (.int 0)) (mCons (mVar 0) mNil))) (sSeq (sWh (asB (mOp2 gtD (mVar 2) (mC (.int 0)))) (sSeq (sPar2 1 2 (mCons (mOp2 addD (mVar 1) (mOp2 andD (mVar 2) (mC (.int 1)))) (mCons (mOp2 shrD (mVar 2) (mC (.int 1))) mNil))) (fun e st => .nx e st))) (sSeq (sRet (mOp2 addD (mOp2 mulD (mC (.int 2)) (mVar 0)) (mIf (asB (mOp2 eqD (mOp2 modD (mVar 1) (mC (.int 2))) (mC (.int 0)))) (mC (.int 1)) (mC (.int 0))))) (fun e st => .nx e st)))))
noncomputable def m_bits_number : Mean := runD N_bits_number b_bits_number
abbrev N_ruler_number : List Str := ["place"]
noncomputable def b_ruler_number : Py.Loc → Store → Fl := (sSeq (sIf (mNot (asB (mCall m_is_within (mCons (mVar 0) (mCons (mC (.int 0)) (mCons (mOp2 powD (mC (.int 10)) (mC (.int 18))) mNil)))))) (sSeq (fun _ _ => .stuck) (fun e st => .nx e st)) (fun e st => .nx e st)) (sSeq (sRet (mOp2 andD (mOp2 addD (mVar 0) (mC (.int 1))) (mOp1 invD (mVar 0)))) (fun e st => .nx e st)))
noncomputable def m_ruler_number : Mean := runD N_ruler_number b_ruler_number
abbrev N_are_heaps : List Str := ["thing", "heap"]
noncomputable def b_are_heaps : Py.Loc → Store → Fl := (sSeq (sRet (mAndV (mCall m_are_counts (mCons (mVar 0) mNil)) (mAndV (mOp2 leD (mOpN lenD (mCons (mVar 0) mNil)) (mC (.int 60))) (mOpN allD (mCons (mLc (mIt (mVar 0)) (.nm 1) mYes (mOp2 ltD (mVar 1) (mC (.int 1152921504606846976))) [1]) mNil))))) (fun e st => .nx e st))
noncomputable def m_are_heaps : Mean := runD N_are_heaps b_are_heaps
abbrev N_check_heaps : List Str := ["heaps"]
noncomputable def b_check_heaps : Py.Loc → Store → Fl := (sSeq (sIf (mNot (asB (mCall m_are_heaps (mCons (mVar 0) mNil)))) (sSeq (fun _ _ => .stuck) (fun e st => .nx e st)) (fun e st => .nx e st)) (fun e st => .nx e st))
noncomputable def m_check_heaps : Mean := runD N_check_heaps b_check_heaps
abbrev N_first_taking : List Str := ["heaps", "whole", "at", "heap"]
noncomputable def b_first_taking : Py.Loc → Store → Fl := (sSeq (sExp (mCall m_check_heaps (mCons (mVar 0) mNil))) (sSeq (sAsg (mCall m_together (mCons (mVar 0) mNil)) (gN 1)) (sSeq (sFor (mEn (mVar 0)) (gTp 2 (gCn (gN 2) (gCn (gN 3) gNl))) (sSeq (sIf (asB (mOp2 ltD (mOp2 xorD (mVar 3) (mVar 1)) (mVar 3))) (sSeq (sRet (mTup (mCons (mVar 2) (mCons (mOp2 xorD (mVar 3) (mVar 1)) mNil)))) (fun e st => .nx e st)) (fun e st => .nx e st)) (fun e st => .nx e st))) (sSeq (sRet (mC .non)) (fun e st => .nx e st)))))
noncomputable def m_first_taking : Mean := runD N_first_taking b_first_taking
abbrev N__law_hand : List Str := ["script", "cells", "cell"]
noncomputable def b__law_hand : Py.Loc → Store → Fl := (sSeq (sAsg (mLc (mIt (mSl (mVar 0) mNoP (mP (mC (.int 63))))) (.nm 2) mYes (mOp2 modD (mOpN intD (mCons (mOpN absD (mCons (mOpN intD (mCons (mVar 2) mNil)) mNil)) mNil)) (mOp2 powD (mC (.int 10)) (mC (.int 40)))) [2]) (gN 1)) (sSeq (sRet (mLst (mCons (mVar 1) (mCons (mC (.int 0)) (mCons (mC (.int 0)) (mCons (mOp2 addD (mC (.int 503)) (mOp2 mulD (mC (.int 7)) (mOpN lenD (mCons (mVar 1) mNil)))) (mCons (mC (.int 0)) mNil))))))) (fun e st => .nx e st)))
noncomputable def m__law_hand : Mean := runD N__law_hand b__law_hand
abbrev N__law_draw : List Str := ["hand", "many", "cell", "digit", "number"]
noncomputable def b__law_draw : Py.Loc → Store → Fl := (sSeq (sIf (mAnd (asB (mOp2 eqD (mOp2 ixD (mVar 0) (mC (.int 2))) (mC (.int 0)))) (asB (mOp2 ltD (mOp2 ixD (mVar 0) (mC (.int 1))) (mOpN lenD (mCons (mOp2 ixD (mVar 0) (mC (.int 0))) mNil))))) (sSeq (sAsg (mOp2 ixD (mOp2 ixD (mVar 0) (mC (.int 0))) (mOp2 ixD (mVar 0) (mC (.int 1)))) (gN 2)) (sSeq (sAsg (mOp2 addD (mOp2 ixD (mVar 0) (mC (.int 1))) (mC (.int 1))) (gSb setD (mVar 0) (mC (.int 1)))) (sSeq (sAsg (mOp2 modD (mOpN intD (mCons (mOp2 addD (mOp2 addD (mOp2 mulD (mOp2 ixD (mVar 0) (mC (.int 3))) (mC (.int 69621))) (mOp2 mulD (mVar 2) (mC (.int 48271)))) (mC (.int 41))) mNil)) (mC (.int 2147483629))) (gSb setD (mVar 0) (mC (.int 3)))) (sSeq (sIf (asB (mOp2 geD (mVar 2) (mOp2 powD (mC (.int 10)) (mC (.int 18))))) (sSeq (sAsg (mVar 2) (gSb setD (mVar 0) (mC (.int 2)))) (fun e st => .nx e st)) (fun e st => .nx e st)) (fun e st => .nx e st))))) (fun e st => .nx e st)) (sSeq (sIf (asB (mOp2 gtD (mOp2 ixD (mVar 0) (mC (.int 2))) (mC (.int 0)))) (sSeq (sAsg (mOp2 modD (mOpN intD (mCons (mOp2 ixD (mVar 0) (mC (.int 2))) mNil)) (mVar 1)) (gN 3)) (sSeq (sAsg (mOp2 fdivD (mOp2 ixD (mVar 0) (mC (.int 2))) (mVar 1)) (gSb setD (mVar 0) (mC (.int 2)))) (sSeq (sRet (mVar 3)) (fun e st => .nx e st)))) (fun e st => .nx e st)) (sSeq (sAsg (mOp2 addD (mOp2 ixD (mVar 0) (mC (.int 4))) (mC (.int 1))) (gSb setD (mVar 0) (mC (.int 4)))) (sSeq (sAsg (mOp2 modD (mOpN intD (mCons (mOp2 mulD (mOpN intD (mCons (mOp2 addD (mOp2 ixD (mVar 0) (mC (.int 3))) (mOp2 mulD (mC (.int 7919)) (mOp2 ixD (mVar 0) (mC (.int 4))))) mNil)) (mC (.int 40692))) mNil)) (mC (.int 2147483647))) (gN 4)) (sSeq (sAsg (mOp2 modD (mOpN intD (mCons (mOp2 mulD (mVar 4) (mOp2 addD (mOp2 fdivD (mVar 4) (mC (.int 1009))) (mC (.int 69621)))) mNil)) (mC (.int 2147483647))) (gN 4)) (sSeq (sAsg (mOp2 modD (mOpN intD (mCons (mOp2 mulD (mVar 4) (mOp2 addD (mOp2 fdivD (mVar 4) (mC (.int 2003))) (mC (.int 40014)))) mNil)) (mC (.int 2147483563))) (gN 4)) (sSeq (sRet (mOp2 modD (mOpN intD (mCons (mOp2 fdivD (mVar 4) (mC (.int 16))) mNil)) (mVar 1))) (fun e st => .nx e st))))))))
noncomputable def m__law_draw : Mean := runD N__law_draw b__law_draw
abbrev N__law_some : List Str := ["hand", "things"]
noncomputable def b__law_some : Py.Loc → Store → Fl := (sSeq (sRet (mOp2 ixD (mVar 1) (mCall m__law_draw (mCons (mVar 0) (mCons (mOpN lenD (mCons (mVar 1) mNil)) mNil))))) (fun e st => .nx e st))
noncomputable def m__law_some : Mean := runD N__law_some b__law_some
abbrev N__law_is : List Str := ["said", "due", "one", "other"]
noncomputable def b__law_is (m : Mean) : Py.Loc → Store → Fl := (sSeq (sIf (asB (mIsi (mVar 1) ["tuple", "list"])) (sSeq (sIf (mOr (asB (mOp2 neD (mIsi (mVar 0) ["tuple"]) (mIsi (mVar 1) ["tuple"]))) (asB (mOp2 neD (mIsi (mVar 0) ["list"]) (mIsi (mVar 1) ["list"])))) (sSeq (sRet (mC (.bl false))) (fun e st => .nx e st)) (fun e st => .nx e st)) (sSeq (sRet (mAndV (mOp2 eqD (mOpN lenD (mCons (mVar 0) mNil)) (mOpN lenD (mCons (mVar 1) mNil))) (mOpN allD (mCons (mLc (mZp (mCons (mVar 0) (mCons (mVar 1) mNil))) (.tp [2, 3]) mYes (mCall m (mCons (mVar 2) (mCons (mVar 3) mNil))) [2, 3]) mNil)))) (fun e st => .nx e st))) (fun e st => .nx e st)) (sSeq (sIf (mOr (asB (mOp2 isD2 (mVar 1) (mC .non))) (asB (mOp2 isD2 (mVar 0) (mC .non)))) (sSeq (sRet (mAndV (mOp2 isD2 (mVar 1) (mC .non)) (mOp2 isD2 (mVar 0) (mC .non)))) (fun e st => .nx e st)) (fun e st => .nx e st)) (sSeq (sIf (mOr (asB (mOp2 neD (mIsi (mVar 0) ["bool"]) (mIsi (mVar 1) ["bool"]))) (asB (mOp2 neD (mIsi (mVar 0) ["int"]) (mIsi (mVar 1) ["int"])))) (sSeq (sRet (mC (.bl false))) (fun e st => .nx e st)) (fun e st => .nx e st)) (sSeq (sRet (mAndV (mOp2 eqD (mIsi (mVar 0) ["str"]) (mIsi (mVar 1) ["str"])) (mOp2 eqD (mVar 0) (mVar 1)))) (fun e st => .nx e st)))))
noncomputable def m__law_isF : Nat → Mean
  | 0 => runD N__law_is fun _ _ => .stuck
  | n + 1 => runD N__law_is (b__law_is (m__law_isF n))
abbrev N__law_ones : List Str := ["number", "found", "left"]
noncomputable def b__law_ones : Py.Loc → Store → Fl := (sSeq (sPar2 1 2 (mCons (mC (.int 0)) (mCons (mVar 0) mNil))) (sSeq (sWh (asB (mOp2 gtD (mVar 2) (mC (.int 0)))) (sSeq (sPar2 1 2 (mCons (mOp2 addD (mVar 1) (mOp2 modD (mOpN intD (mCons (mVar 2) mNil)) (mC (.int 2)))) (mCons (mOp2 fdivD (mVar 2) (mC (.int 2))) mNil))) (fun e st => .nx e st))) (sSeq (sRet (mVar 1)) (fun e st => .nx e st))))
noncomputable def m__law_ones : Mean := runD N__law_ones b__law_ones
abbrev N__law_known : List Str := ["rule", "place", "found"]
noncomputable def b__law_known : Py.Loc → Store → Fl := (sSeq (sIf (asB (mOp2 inA (mVar 0) (mTup (mCons (mC (.str "one")) (mCons (mC (.str "two")) mNil))))) (sSeq (sRet (mIf (asB (mOp2 eqD (mVar 0) (mC (.str "one")))) (mC (.int 1)) (mOp2 addD (mVar 1) (mC (.int 1))))) (fun e st => .nx e st)) (fun e st => .nx e st)) (sSeq (sIf (asB (mOp2 eqD (mVar 0) (mC (.str "twins")))) (sSeq (sRet (mVar 1)) (fun e st => .nx e st)) (fun e st => .nx e st)) (sSeq (sIf (asB (mOp2 eqD (mVar 0) (mC (.str "three")))) (sSeq (sRet (mOp2 addD (mOp2 mulD (mC (.int 2)) (mVar 1)) (mOpN intD (mCons (mOp2 eqD (mOp2 modD (mOpN intD (mCons (mCall m__law_ones (mCons (mVar 1) mNil)) mNil)) (mC (.int 2))) (mC (.int 0))) mNil)))) (fun e st => .nx e st)) (fun e st => .nx e st)) (sSeq (sAsg (mC (.int 1)) (gN 2)) (sSeq (sWh (mAnd (asB (mOp2 eqD (mVar 0) (mC (.str "ruler")))) (asB (mOp2 eqD (mOp2 modD (mOpN intD (mCons (mOp2 addD (mVar 1) (mC (.int 1))) mNil)) (mOp2 mulD (mC (.int 2)) (mVar 2))) (mC (.int 0))))) (sSeq (sAsg (mOp2 mulD (mC (.int 2)) (mVar 2)) (gN 2)) (fun e st => .nx e st))) (sSeq (sRet (mIf (asB (mOp2 eqD (mVar 0) (mC (.str "ruler")))) (mVar 2) (mC .non))) (fun e st => .nx e st)))))))
noncomputable def m__law_known : Mean := runD N__law_known b__law_known
abbrev N__law_row : List Str := ["hand", "size", "signs", "at"]
noncomputable def b__law_row : Py.Loc → Store → Fl := (sSeq (sAsg (mCall m__law_some (mCons (mVar 0) (mCons (mLst (mCons (mC (.str "HT")) (mCons (mC (.str "HT")) (mCons (mC (.str "HTT")) (mCons (mC (.str "HHT")) (mCons (mC (.str "H")) mNil)))))) mNil))) (gN 2)) (sSeq (sRet (mMtS joinD (mC (.str "")) (mLc (mRgs (mCons (mVar 1) mNil)) (.nm 3) mYes (mCall m__law_some (mCons (mVar 0) (mCons (mVar 2) mNil))) [3]))) (fun e st => .nx e st)))
noncomputable def m__law_row : Mean := runD N__law_row b__law_row
abbrev N__law_turned : List Str := ["row", "places", "at", "sign"]
noncomputable def b__law_turned : Py.Loc → Store → Fl := (sSeq (sRet (mMtS joinD (mC (.str "")) (mLc (mEn (mVar 0)) (.tp [2, 3]) mYes (mIf (asB (mOp2 inA (mVar 2) (mVar 1))) (mIf (asB (mOp2 eqD (mVar 3) (mC (.str "H")))) (mC (.str "T")) (mC (.str "H"))) (mVar 3)) [2, 3]))) (fun e st => .nx e st))
noncomputable def m__law_turned : Mean := runD N__law_turned b__law_turned
abbrev N__law_rule_right : List Str := ["hand", "rule", "size", "row", "numbers", "due", "heads", "number", "told", "later", "small", "whole", "below", "place", "at", "sign"]
noncomputable def b__law_rule_right : Py.Loc → Store → Fl := (sSeq (sAsg (mCall m__law_draw (mCons (mVar 0) (mCons (mC (.int 21)) mNil))) (gN 2)) (sSeq (sAsg (mTup (mCons (mCall m__law_row (mCons (mVar 0) (mCons (mVar 2) mNil))) (mCons (mOpN listD (mCons (mCall m_place_numbers (mCons (mVar 1) (mCons (mC (.int 64)) mNil))) mNil)) mNil))) (gTp 2 (gCn (gN 3) (gCn (gN 4) gNl)))) (sSeq (sAsg (mLc (mRgs (mCons (mC (.int 64)) mNil)) (.nm 13) mYes (mCall m__law_known (mCons (mVar 1) (mCons (mVar 13) mNil))) [13]) (gN 5)) (sSeq (sIf (mAnd (asB (mOp2 neD (mVar 1) (mC (.str "doubles")))) (asB (mOp2 neD (mVar 4) (mVar 5)))) (sSeq (sRet (mC (.bl false))) (fun e st => .nx e st)) (fun e st => .nx e st)) (sSeq (sAsg (mOpN tupD (mCons (mLc (mEn (mVar 3)) (.tp [14, 15]) (asB (mOp2 eqD (mVar 15) (mC (.str "H")))) (mOp2 ixD (mVar 4) (mVar 14)) [14, 15]) mNil)) (gN 6)) (sSeq (sPar2 7 8 (mCons (mCall m_coins_number (mCons (mVar 1) (mCons (mVar 3) mNil))) (mCons (mCall m_winning_turn (mCons (mVar 1) (mCons (mVar 3) mNil))) mNil))) (sSeq (sIf (mOr (mNot (asB (mCall (m__law_isF 4) (mCons (mVar 7) (mCons (mCall m_two_sum (mCons (mVar 6) mNil)) mNil))))) (asB (mOp2 neD (mOp2 isD2 (mVar 8) (mC .non)) (mOp2 eqD (mVar 7) (mC (.int 0)))))) (sSeq (sRet (mC (.bl false))) (fun e st => .nx e st)) (fun e st => .nx e st)) (sSeq (sIf (asB (mOp2 isnD2 (mVar 8) (mC .non))) (sSeq (sAsg (mCall m__law_turned (mCons (mVar 3) (mCons (mVar 8) mNil))) (gN 9)) (sSeq (sIf (mOr (asB (mOp2 neD (mOp2 ixD (mVar 3) (mOpN maxD' (mCons (mVar 8) mNil))) (mC (.str "H")))) (mOr (asB (mOp2 neD (mCall m_coins_number (mCons (mVar 1) (mCons (mVar 9) mNil))) (mC (.int 0)))) (asB (mOp2 isnD2 (mCall m_is_winning_turn (mCons (mVar 1) (mCons (mVar 3) (mCons (mVar 8) mNil)))) (mC (.bl true)))))) (sSeq (sRet (mC (.bl false))) (fun e st => .nx e st)) (fun e st => .nx e st)) (fun e st => .nx e st))) (fun e st => .nx e st)) (sSeq (sAsg (mSl (mVar 3) mNoP (mP (mC (.int 8)))) (gN 10)) (sSeq (sAsg (mCall m_coins_number (mCons (mVar 1) (mCons (mVar 10) mNil))) (gN 11)) (sSeq (sAsg (mLc (mIt (mCall m_rows_below (mCons (mVar 1) (mCons (mVar 10) mNil)))) (.nm 9) mYes (mCall m_coins_number (mCons (mVar 1) (mCons (mVar 9) mNil))) [9]) (gN 12)) (sSeq (sRet (mAndV (mOp2 ninA (mVar 11) (mVar 12)) (mOpN allD (mCons (mLc (mRgs (mCons (mVar 11) mNil)) (.nm 7) mYes (mOp2 inA (mVar 7) (mVar 12)) [7]) mNil)))) (fun e st => .nx e st)))))))))))))
noncomputable def m__law_rule_right : Mean := runD N__law_rule_right b__law_rule_right
abbrev N__law_heaps_right : List Str := ["hand", "row", "heaps", "place", "due", "at", "sign"]
noncomputable def b__law_heaps_right : Py.Loc → Store → Fl := (sSeq (sAsg (mCall m__law_row (mCons (mVar 0) (mCons (mCall m__law_draw (mCons (mVar 0) (mCons (mC (.int 21)) mNil))) mNil))) (gN 1)) (sSeq (sAsg (mOpN tupD (mCons (mLc (mEn (mVar 1)) (.tp [5, 6]) (asB (mOp2 eqD (mVar 6) (mC (.str "H")))) (mOp2 addD (mVar 5) (mC (.int 1))) [5, 6]) mNil)) (gN 2)) (sSeq (sIf (asB (mOp2 neD (mOp2 isD2 (mCall m_first_taking (mCons (mVar 2) mNil)) (mC .non)) (mOp2 isD2 (mCall m_winning_turn (mCons (mC (.str "two")) (mCons (mVar 1) mNil))) (mC .non)))) (sSeq (sRet (mC (.bl false))) (fun e st => .nx e st)) (fun e st => .nx e st)) (sSeq (sAsg (mCall m__law_some (mCons (mVar 0) (mCons (mLst (mCons (mCall m__law_draw (mCons (mVar 0) (mCons (mC (.int 100)) mNil))) (mCons (mCall m__law_draw (mCons (mVar 0) (mCons (mOp2 powD (mC (.int 10)) (mC (.int 18))) mNil))) (mCons (mOp2 subD (mOp2 powD (mC (.int 2)) (mC (.int 59))) (mC (.int 1))) (mCons (mOp2 powD (mC (.int 2)) (mC (.int 58))) mNil))))) mNil))) (gN 3)) (sSeq (sAsg (mLst (mCons (mCall m__law_known (mCons (mC (.str "three")) (mCons (mVar 3) mNil))) (mCons (mCall m__law_known (mCons (mC (.str "ruler")) (mCons (mVar 3) mNil))) mNil))) (gN 4)) (sSeq (sRet (mCall (m__law_isF 4) (mCons (mLst (mCons (mCall m_bits_number (mCons (mVar 3) mNil)) (mCons (mCall m_ruler_number (mCons (mVar 3) mNil)) mNil))) (mCons (mVar 4) mNil)))) (fun e st => .nx e st)))))))
noncomputable def m__law_heaps_right : Mean := runD N__law_heaps_right b__law_heaps_right
abbrev N__law_boards_right : List Str := ["hand", "rules", "turn", "one", "other", "place", "numbers"]
noncomputable def b__law_boards_right : Py.Loc → Store → Fl := (sSeq (sAsg (mLst (mCons (mC (.str "one")) (mCons (mC (.str "two")) (mCons (mC (.str "three")) (mCons (mC (.str "twins")) (mCons (mC (.str "ruler")) (mCons (mC (.str "doubles")) mNil))))))) (gN 1)) (sSeq (sFor (mRgs (mCons (mC (.int 5)) mNil)) (gN 2) (sSeq (sPar2 3 4 (mCons (mCall m__law_some (mCons (mVar 0) (mCons (mVar 1) mNil))) (mCons (mCall m__law_some (mCons (mVar 0) (mCons (mVar 1) mNil))) mNil))) (sSeq (sAsg (mTup (mCons (mCall m__law_draw (mCons (mVar 0) (mCons (mC (.int 16)) mNil))) (mCons (mCall m__law_draw (mCons (mVar 0) (mCons (mC (.int 16)) mNil))) mNil))) (gN 5)) (sSeq (sAsg (mLst (mCons (mOp2 ixD (mCall m_place_numbers (mCons (mVar 3) (mCons (mC (.int 16)) mNil))) (mOp2 ixD (mVar 5) (mC (.int 0)))) (mCons (mOp2 ixD (mCall m_place_numbers (mCons (mVar 4) (mCons (mC (.int 16)) mNil))) (mOp2 ixD (mVar 5) (mC (.int 1)))) mNil))) (gN 6)) (sSeq (sIf (mNot (asB (mCall (m__law_isF 4) (mCons (mCall m_board_number (mCons (mVar 3) (mCons (mVar 4) (mCons (mVar 5) mNil)))) (mCons (mCall m_two_product (mCons (mOp2 ixD (mVar 6) (mC (.int 0))) (mCons (mOp2 ixD (mVar 6) (mC (.int 1))) mNil))) mNil))))) (sSeq (sRet (mC (.bl false))) (fun e st => .nx e st)) (fun e st => .nx e st)) (fun e st => .nx e st)))))) (sSeq (sRet (mC (.bl true))) (fun e st => .nx e st))))
noncomputable def m__law_boards_right : Mean := runD N__law_boards_right b__law_boards_right
abbrev N_law : List Str := ["script", "hand", "rule"]
noncomputable def b_law : Py.Loc → Store → Fl := (sSeq (sAsg (mCall m__law_hand (mCons (mVar 0) mNil)) (gN 1)) (sSeq (sFor (mIt (mTup (mCons (mC (.str "one")) (mCons (mC (.str "two")) (mCons (mC (.str "three")) (mCons (mC (.str "twins")) (mCons (mC (.str "ruler")) (mCons (mC (.str "doubles")) mNil)))))))) (gN 2) (sSeq (sIf (mNot (asB (mCall m__law_rule_right (mCons (mVar 1) (mCons (mVar 2) mNil))))) (sSeq (sRet (mC (.bl false))) (fun e st => .nx e st)) (fun e st => .nx e st)) (fun e st => .nx e st))) (sSeq (sRet (mAndV (mCall m__law_heaps_right (mCons (mVar 1) mNil)) (mCall m__law_boards_right (mCons (mVar 1) mNil)))) (fun e st => .nx e st))))
noncomputable def m_law : Mean := runD N_law b_law
/-- what the text's head tells -/
structure Gx (K : PySem.W.Frag) (mg : Str → Option Value) : Prop where
  d_is_integer : Def K mg "is_integer" (top 1) N_is_integer ["thing"]
  d_is_within : Def K mg "is_within" (top 2) N_is_within ["thing", "low", "high"]
  d_are_integers : Def K mg "are_integers" (top 3) N_are_integers ["thing"]
  d_are_counts : Def K mg "are_counts" (top 4) N_are_counts ["thing"]
  d_least_missing : Def K mg "least_missing" (top 5) N_least_missing ["some"]
  d_together : Def K mg "together" (top 6) N_together ["some"]
  d_check_count : Def K mg "check_count" (top 16) N_check_count ["number"]
  d_check_counts : Def K mg "check_counts" (top 17) N_check_counts ["numbers"]
  d_two_sum : Def K mg "two_sum" (top 18) N_two_sum ["numbers"]
  d_half_bits : Def K mg "half_bits" (top 19) N_half_bits ["number"]
  d_product_of : Def K mg "product_of" (top 20) N_product_of ["one", "other"]
  d_two_product : Def K mg "two_product" (top 21) N_two_product ["one", "other"]
  d_check_rule : Def K mg "check_rule" (top 32) N_check_rule ["rule"]
  d_turnings_of : Def K mg "turnings_of" (top 33) N_turnings_of ["rule", "place"]
  d_numbers_of : Def K mg "numbers_of" (top 34) N_numbers_of ["rule", "many"]
  d_place_numbers : Def K mg "place_numbers" (top 35) N_place_numbers ["rule", "many"]
  d_is_row : Def K mg "is_row" (top 36) N_is_row ["thing"]
  d_check_row : Def K mg "check_row" (top 37) N_check_row ["row"]
  d_coins_number : Def K mg "coins_number" (top 38) N_coins_number ["rule", "row"]
  d_turned_row : Def K mg "turned_row" (top 39) N_turned_row ["row", "places"]
  d_rows_below : Def K mg "rows_below" (top 40) N_rows_below ["rule", "row"]
  d_winning_turn : Def K mg "winning_turn" (top 41) N_winning_turn ["rule", "row"]
  d_is_winning_turn : Def K mg "is_winning_turn" (top 42) N_is_winning_turn ["rule", "row", "thing"]
  d_check_place : Def K mg "check_place" (top 44) N_check_place ["place"]
  d_board_number : Def K mg "board_number" (top 43) N_board_number ["one", "other", "place"]
  d_bits_number : Def K mg "bits_number" (top 45) N_bits_number ["place"]
  d_ruler_number : Def K mg "ruler_number" (top 46) N_ruler_number ["place"]
  d_are_heaps : Def K mg "are_heaps" (top 50) N_are_heaps ["thing"]
  d_check_heaps : Def K mg "check_heaps" (top 51) N_check_heaps ["heaps"]
  d_first_taking : Def K mg "first_taking" (top 52) N_first_taking ["heaps"]
  d__law_hand : Def K mg "_law_hand" (top 54) N__law_hand ["script"]
  d__law_draw : Def K mg "_law_draw" (top 55) N__law_draw ["hand", "many"]
  d__law_some : Def K mg "_law_some" (top 56) N__law_some ["hand", "things"]
  d__law_is : Def K mg "_law_is" (top 57) N__law_is ["said", "due"]
  d__law_ones : Def K mg "_law_ones" (top 58) N__law_ones ["number"]
  d__law_known : Def K mg "_law_known" (top 59) N__law_known ["rule", "place"]
  d__law_row : Def K mg "_law_row" (top 60) N__law_row ["hand", "size"]
  d__law_turned : Def K mg "_law_turned" (top 61) N__law_turned ["row", "places"]
  d__law_rule_right : Def K mg "_law_rule_right" (top 62) N__law_rule_right ["hand", "rule"]
  d__law_heaps_right : Def K mg "_law_heaps_right" (top 63) N__law_heaps_right ["hand"]
  d__law_boards_right : Def K mg "_law_boards_right" (top 64) N__law_boards_right ["hand"]
  d_law : Def K mg "law" (top 65) N_law ["script"]
  bl : ∀ x ∈ BLs, mg x = none
  gc : ∀ x d, (x, d) ∈ GCs → ∃ u v, mg x = some u ∧ RelV v u ∧ ∀ ρ H, RD K mg ρ H d v
section
variable {P : Program} {w : World} {K : PySem.W.Frag} {mg : Str → Option Value} {base : Heap}
theorem S_is_integer (G : Gx K mg) (X : Cx) (W : WX) (e1 : X.prog = P) (e2 : X.w = w) (e3 : X.K = K) (e4 : X.mg = mg) (e5 : X.base = base) (z : Cf BLs GCs X W N_is_integer (defScope (top 1)) 0) : SSs X W (defBody (top 1)) b_is_integer := by
  subst e1 e2 e3 e4 e5
  unfold b_is_integer
  exact (sss_cons (ss_ret (se_and (z.isi (z.v (by decide +kernel)) (z.ty (by decide +kernel)) (by decide +kernel)) (se_one (se_not (z.isi (z.v (by decide +kernel)) (z.ty (by decide +kernel)) (by decide +kernel)))))) sss_nil)
theorem F_is_integer (G : Gx K mg) : FnD P w K mg base 1 "is_integer" 1 m_is_integer := G.d_is_integer.fn BLs GCs (k := 0) G.bl G.gc (S_is_integer G)
theorem S_is_within (G : Gx K mg) (X : Cx) (W : WX) (e1 : X.prog = P) (e2 : X.w = w) (e3 : X.K = K) (e4 : X.mg = mg) (e5 : X.base = base) (z : Cf BLs GCs X W N_is_within (defScope (top 2)) 1) : SSs X W (defBody (top 2)) b_is_within := by
  subst e1 e2 e3 e4 e5
  unfold b_is_within
  exact (sss_cons (ss_ret (se_and (z.call (F_is_integer G) (by omega) (by decide +kernel) (al_cons (z.v (by decide +kernel)) al_nil)) (se_one (se_chain ok_le ok_le (z.v (by decide +kernel)) (z.v (by decide +kernel)) (z.v (by decide +kernel)) (by rfl))))) sss_nil)
theorem F_is_within (G : Gx K mg) : FnD P w K mg base 2 "is_within" 3 m_is_within := G.d_is_within.fn BLs GCs (k := 1) G.bl G.gc (S_is_within G)
theorem S_are_integers (G : Gx K mg) (X : Cx) (W : WX) (e1 : X.prog = P) (e2 : X.w = w) (e3 : X.K = K) (e4 : X.mg = mg) (e5 : X.base = base) (z : Cf BLs GCs X W N_are_integers (defScope (top 3)) 1) : SSs X W (defBody (top 3)) b_are_integers := by
  subst e1 e2 e3 e4 e5
  unfold b_are_integers
  exact (sss_cons (ss_ret (se_and (z.isi (z.v (by decide +kernel)) (z.ty (by decide +kernel)) (by decide +kernel)) (se_one (z.all (z.lc [(("item" : Str), 1)] (pi_any (z.v (by decide +kernel))) (by decide +kernel) (fun _ _ _ _ _ z => ts_nil) (fun _ _ _ _ _ z => (z.call (F_is_integer G) (by omega) (by decide +kernel) (al_cons (z.v (by decide +kernel)) al_nil)))) (by decide +kernel))))) sss_nil)
theorem F_are_integers (G : Gx K mg) : FnD P w K mg base 2 "are_integers" 1 m_are_integers := G.d_are_integers.fn BLs GCs (k := 1) G.bl G.gc (S_are_integers G)
theorem S_are_counts (G : Gx K mg) (X : Cx) (W : WX) (e1 : X.prog = P) (e2 : X.w = w) (e3 : X.K = K) (e4 : X.mg = mg) (e5 : X.base = base) (z : Cf BLs GCs X W N_are_counts (defScope (top 4)) 2) : SSs X W (defBody (top 4)) b_are_counts := by
  subst e1 e2 e3 e4 e5
  unfold b_are_counts
  exact (sss_cons (ss_ret (se_and (z.call (F_are_integers G) (by omega) (by decide +kernel) (al_cons (z.v (by decide +kernel)) al_nil)) (se_one (z.all (z.lc [(("item" : Str), 1)] (pi_any (z.v (by decide +kernel))) (by decide +kernel) (fun _ _ _ _ _ z => ts_nil) (fun _ _ _ _ _ z => (se_cmp ok_ge (z.v (by decide +kernel)) se_int (by rfl)))) (by decide +kernel))))) sss_nil)
theorem F_are_counts (G : Gx K mg) : FnD P w K mg base 3 "are_counts" 1 m_are_counts := G.d_are_counts.fn BLs GCs (k := 2) G.bl G.gc (S_are_counts G)
theorem S_least_missing (G : Gx K mg) (X : Cx) (W : WX) (e1 : X.prog = P) (e2 : X.w = w) (e3 : X.K = K) (e4 : X.mg = mg) (e5 : X.base = base) (z : Cf BLs GCs X W N_least_missing (defScope (top 5)) 0) : SSs X W (defBody (top 5)) b_least_missing := by
  subst e1 e2 e3 e4 e5
  unfold b_least_missing
  exact (sss_cons (z.setDc [(("one" : Str), 3)] (pi_any (z.v (by decide +kernel))) (by decide +kernel) (fun _ _ _ _ _ z => ts_nil) (fun _ _ _ _ _ z => (z.v (by decide +kernel))) (fun _ _ _ _ _ z => se_bl)) (sss_cons (z.set se_int (by decide +kernel)) (sss_cons (z.whl (st_cmp z.opIn (z.v (by decide +kernel)) (z.v (by decide +kernel)) (by rfl)) (sss_cons (z.set (se_op ok_add (z.v (by decide +kernel)) se_int) (by decide +kernel)) sss_nil)) (sss_cons (ss_ret (z.v (by decide +kernel))) sss_nil))))
theorem F_least_missing (G : Gx K mg) : FnD P w K mg base 1 "least_missing" 1 m_least_missing := G.d_least_missing.fn BLs GCs (k := 0) G.bl G.gc (S_least_missing G)
theorem S_together (G : Gx K mg) (X : Cx) (W : WX) (e1 : X.prog = P) (e2 : X.w = w) (e3 : X.K = K) (e4 : X.mg = mg) (e5 : X.base = base) (z : Cf BLs GCs X W N_together (defScope (top 6)) 0) : SSs X W (defBody (top 6)) b_together := by
  subst e1 e2 e3 e4 e5
  unfold b_together
  exact (sss_cons (z.set se_int (by decide +kernel)) (sss_cons (z.for_ (pi_any (z.v (by decide +kernel))) (z.tn (by decide +kernel)) (tgt_name _) (sss_cons (z.set (se_op ok_xor (z.v (by decide +kernel)) (z.v (by decide +kernel))) (by decide +kernel)) sss_nil)) (sss_cons (ss_ret (z.v (by decide +kernel))) sss_nil)))
theorem F_together (G : Gx K mg) : FnD P w K mg base 1 "together" 1 m_together := G.d_together.fn BLs GCs (k := 0) G.bl G.gc (S_together G)
theorem S_check_count (G : Gx K mg) (X : Cx) (W : WX) (e1 : X.prog = P) (e2 : X.w = w) (e3 : X.K = K) (e4 : X.mg = mg) (e5 : X.base = base) (z : Cf BLs GCs X W N_check_count (defScope (top 16)) 1) : SSs X W (defBody (top 16)) b_check_count := by
  subst e1 e2 e3 e4 e5
  unfold b_check_count
  exact (sss_cons (ss_if ((sw_or (st_not (st_val (z.call (F_is_integer G) (by omega) (by decide +kernel) (al_cons (z.v (by decide +kernel)) al_nil)) (by rfl))) (sw_or1 (st_not (st_chain ok_le ok_lt se_int (z.v (by decide +kernel)) (z.g 0 rfl (by decide +kernel)) (by rfl)))))).pt (sss_cons ss_never sss_nil) sss_nil) sss_nil)
theorem F_check_count (G : Gx K mg) : FnD P w K mg base 2 "check_count" 1 m_check_count := G.d_check_count.fn BLs GCs (k := 1) G.bl G.gc (S_check_count G)
theorem S_check_counts (G : Gx K mg) (X : Cx) (W : WX) (e1 : X.prog = P) (e2 : X.w = w) (e3 : X.K = K) (e4 : X.mg = mg) (e5 : X.base = base) (z : Cf BLs GCs X W N_check_counts (defScope (top 17)) 2) : SSs X W (defBody (top 17)) b_check_counts := by
  subst e1 e2 e3 e4 e5
  unfold b_check_counts
  exact (sss_cons (ss_if ((sw_or (st_not (st_val (z.isi (z.v (by decide +kernel)) (z.ty (by decide +kernel)) (by decide +kernel)) (by rfl))) (sw_or1 (st_cmp ok_gt (z.len (z.v (by decide +kernel)) (by decide +kernel)) se_int (by rfl))))).pt (sss_cons ss_never sss_nil) sss_nil) (sss_cons (z.for_ (pi_any (z.v (by decide +kernel))) (z.tn (by decide +kernel)) (tgt_name _) (sss_cons (ss_expr (z.call (F_check_count G) (by omega) (by decide +kernel) (al_cons (z.v (by decide +kernel)) al_nil)) (by rfl)) sss_nil)) sss_nil))
theorem F_check_counts (G : Gx K mg) : FnD P w K mg base 3 "check_counts" 1 m_check_counts := G.d_check_counts.fn BLs GCs (k := 2) G.bl G.gc (S_check_counts G)
theorem S_two_sum (G : Gx K mg) (X : Cx) (W : WX) (e1 : X.prog = P) (e2 : X.w = w) (e3 : X.K = K) (e4 : X.mg = mg) (e5 : X.base = base) (z : Cf BLs GCs X W N_two_sum (defScope (top 18)) 3) : SSs X W (defBody (top 18)) b_two_sum := by
  subst e1 e2 e3 e4 e5
  unfold b_two_sum
  exact (sss_cons (ss_expr (z.call (F_check_counts G) (by omega) (by decide +kernel) (al_cons (z.v (by decide +kernel)) al_nil)) (by rfl)) (sss_cons (ss_ret (z.call (F_together G) (by omega) (by decide +kernel) (al_cons (z.v (by decide +kernel)) al_nil))) sss_nil))
theorem F_two_sum (G : Gx K mg) : FnD P w K mg base 4 "two_sum" 1 m_two_sum := G.d_two_sum.fn BLs GCs (k := 3) G.bl G.gc (S_two_sum G)
theorem S_half_bits (G : Gx K mg) (X : Cx) (W : WX) (e1 : X.prog = P) (e2 : X.w = w) (e3 : X.K = K) (e4 : X.mg = mg) (e5 : X.base = base) (z : Cf BLs GCs X W N_half_bits (defScope (top 19)) 0) : SSs X W (defBody (top 19)) b_half_bits := by
  subst e1 e2 e3 e4 e5
  unfold b_half_bits
  exact (sss_cons (z.set se_int (by decide +kernel)) (sss_cons (z.whl (st_cmp ok_gt (se_op ok_shr (z.v (by decide +kernel)) (se_op ok_mul se_int (z.v (by decide +kernel)))) se_int (by rfl)) (sss_cons (z.set (se_op ok_mul (z.v (by decide +kernel)) se_int) (by decide +kernel)) sss_nil)) (sss_cons (ss_ret (z.v (by decide +kernel))) sss_nil)))
theorem F_half_bits (G : Gx K mg) : FnD P w K mg base 1 "half_bits" 1 m_half_bits := G.d_half_bits.fn BLs GCs (k := 0) G.bl G.gc (S_half_bits G)
theorem F_product_ofF (G : Gx K mg) (n : Nat) : FnD P w K mg base (1 + n + 1) "product_of" 2 (m_product_ofF n) := by
  induction n with
  | zero => exact G.d_product_of.stuck (k := 1)
  | succ n ih =>
    exact G.d_product_of.fn BLs GCs (k := 1 + n + 1) G.bl G.gc fun X W e1 e2 e3 e4 e5 z => by
      subst e1 e2 e3 e4 e5
      unfold b_product_of
      exact (sss_cons (ss_if ((sw_or (st_cmp ok_lt (z.v (by decide +kernel)) se_int (by rfl)) (sw_or1 (st_cmp ok_lt (z.v (by decide +kernel)) se_int (by rfl))))).pt (sss_cons (ss_ret (se_op ok_mul (z.v (by decide +kernel)) (z.v (by decide +kernel)))) sss_nil) sss_nil) (sss_cons (z.set (z.call (F_half_bits G) (by omega) (by decide +kernel) (al_cons (z.max (by decide +kernel) (al_cons (z.v (by decide +kernel)) (al_cons (z.v (by decide +kernel)) al_nil))) al_nil)) (by decide +kernel)) (sss_cons (z.set (se_op ok_sub (se_op ok_shl se_int (z.v (by decide +kernel))) se_int) (by decide +kernel)) (sss_cons (z.par2 (al_cons (se_op ok_shr (z.v (by decide +kernel)) (z.v (by decide +kernel))) (al_cons (se_op ok_and (z.v (by decide +kernel)) (z.v (by decide +kernel))) al_nil)) (by decide +kernel)) (sss_cons (z.par2 (al_cons (se_op ok_shr (z.v (by decide +kernel)) (z.v (by decide +kernel))) (al_cons (se_op ok_and (z.v (by decide +kernel)) (z.v (by decide +kernel))) al_nil)) (by decide +kernel)) (sss_cons (z.set (z.call ih (by omega) (by decide +kernel) (al_cons (z.v (by decide +kernel)) (al_cons (z.v (by decide +kernel)) al_nil))) (by decide +kernel)) (sss_cons (z.set (z.call ih (by omega) (by decide +kernel) (al_cons (z.v (by decide +kernel)) (al_cons (z.v (by decide +kernel)) al_nil))) (by decide +kernel)) (sss_cons (z.set (se_op ok_xor (z.call ih (by omega) (by decide +kernel) (al_cons (se_op ok_xor (z.v (by decide +kernel)) (z.v (by decide +kernel))) (al_cons (se_op ok_xor (z.v (by decide +kernel)) (z.v (by decide +kernel))) al_nil))) (z.v (by decide +kernel))) (by decide +kernel)) (sss_cons (ss_ret (se_op ok_xor (se_op ok_xor (se_op ok_shl (z.v (by decide +kernel)) (z.v (by decide +kernel))) (z.v (by decide +kernel))) (z.call ih (by omega) (by decide +kernel) (al_cons (z.v (by decide +kernel)) (al_cons (se_op ok_shl se_int (se_op ok_sub (z.v (by decide +kernel)) se_int)) al_nil))))) sss_nil)))))))))
theorem S_two_product (G : Gx K mg) (X : Cx) (W : WX) (e1 : X.prog = P) (e2 : X.w = w) (e3 : X.K = K) (e4 : X.mg = mg) (e5 : X.base = base) (z : Cf BLs GCs X W N_two_product (defScope (top 21)) 10) : SSs X W (defBody (top 21)) b_two_product := by
  subst e1 e2 e3 e4 e5
  unfold b_two_product
  exact (sss_cons (ss_expr (z.call (F_check_count G) (by omega) (by decide +kernel) (al_cons (z.v (by decide +kernel)) al_nil)) (by rfl)) (sss_cons (ss_expr (z.call (F_check_count G) (by omega) (by decide +kernel) (al_cons (z.v (by decide +kernel)) al_nil)) (by rfl)) (sss_cons (ss_ret (z.call (F_product_ofF G 8) (by omega) (by decide +kernel) (al_cons (z.v (by decide +kernel)) (al_cons (z.v (by decide +kernel)) al_nil)))) sss_nil)))
theorem F_two_product (G : Gx K mg) : FnD P w K mg base 11 "two_product" 2 m_two_product := G.d_two_product.fn BLs GCs (k := 10) G.bl G.gc (S_two_product G)
theorem S_check_rule (G : Gx K mg) (X : Cx) (W : WX) (e1 : X.prog = P) (e2 : X.w = w) (e3 : X.K = K) (e4 : X.mg = mg) (e5 : X.base = base) (z : Cf BLs GCs X W N_check_rule (defScope (top 32)) 0) : SSs X W (defBody (top 32)) b_check_rule := by
  subst e1 e2 e3 e4 e5
  unfold b_check_rule
  exact (sss_cons (ss_if ((sw_or (st_not (st_val (z.isi (z.v (by decide +kernel)) (z.ty (by decide +kernel)) (by decide +kernel)) (by rfl))) (sw_or1 (st_cmp z.opNin (z.v (by decide +kernel)) (z.g 9 rfl (by decide +kernel)) (by rfl))))).pt (sss_cons ss_never sss_nil) sss_nil) sss_nil)
theorem F_check_rule (G : Gx K mg) : FnD P w K mg base 1 "check_rule" 1 m_check_rule := G.d_check_rule.fn BLs GCs (k := 0) G.bl G.gc (S_check_rule G)
theorem S_turnings_of (G : Gx K mg) (X : Cx) (W : WX) (e1 : X.prog = P) (e2 : X.w = w) (e3 : X.K = K) (e4 : X.mg = mg) (e5 : X.base = base) (z : Cf BLs GCs X W N_turnings_of (defScope (top 33)) 0) : SSs X W (defBody (top 33)) b_turnings_of := by
  subst e1 e2 e3 e4 e5
  unfold b_turnings_of
  exact (sss_cons (ss_if (st_cmp (ok_eq z.un) (z.v (by decide +kernel)) (z.g 3 rfl (by decide +kernel)) (by rfl)) (sss_cons (ss_ret (se_lst (al_cons (se_tup al_nil.sa) al_nil).sa)) sss_nil) sss_nil) (sss_cons (ss_if (st_cmp (ok_eq z.un) (z.v (by decide +kernel)) (z.g 4 rfl (by decide +kernel)) (by rfl)) (sss_cons (ss_ret (se_op ok_add (se_lst (al_cons (se_tup al_nil.sa) al_nil).sa) (z.lc [(("at" : Str), 2)] (z.rg1 (z.v (by decide +kernel)) (by decide +kernel)) (by decide +kernel) (fun _ _ _ _ _ z => ts_nil) (fun _ _ _ _ _ z => (se_tup (al_cons (z.v (by decide +kernel)) al_nil).sa))))) sss_nil) sss_nil) (sss_cons (ss_if (st_cmp (ok_eq z.un) (z.v (by decide +kernel)) (z.g 5 rfl (by decide +kernel)) (by rfl)) (sss_cons (ss_ret (se_op ok_add (se_op ok_add (se_lst (al_cons (se_tup al_nil.sa) al_nil).sa) (z.lc [(("at" : Str), 2)] (z.rg1 (z.v (by decide +kernel)) (by decide +kernel)) (by decide +kernel) (fun _ _ _ _ _ z => ts_nil) (fun _ _ _ _ _ z => (se_tup (al_cons (z.v (by decide +kernel)) al_nil).sa)))) (z.lc2 [(("other" : Str), 3), (("at" : Str), 2)] [2] (z.rg1 (z.v (by decide +kernel)) (by decide +kernel)) (by decide +kernel) (fun _ _ _ _ _ z => ts_nil) (fun _ _ _ _ _ z => (z.rg1 (z.v (by decide +kernel)) (by decide +kernel))) (fun _ _ _ _ _ z => ts_nil) (fun _ _ _ _ _ z => (se_tup (al_cons (z.v (by decide +kernel)) (al_cons (z.v (by decide +kernel)) al_nil)).sa))))) sss_nil) sss_nil) (sss_cons (ss_if (st_cmp (ok_eq z.un) (z.v (by decide +kernel)) (z.g 6 rfl (by decide +kernel)) (by rfl)) (sss_cons (ss_ret (z.lc [(("at" : Str), 2)] (z.rg1 (z.v (by decide +kernel)) (by decide +kernel)) (by decide +kernel) (fun _ _ _ _ _ z => ts_nil) (fun _ _ _ _ _ z => (se_tup (al_cons (z.v (by decide +kernel)) al_nil).sa)))) sss_nil) sss_nil) (sss_cons (ss_if (st_cmp (ok_eq z.un) (z.v (by decide +kernel)) (z.g 7 rfl (by decide +kernel)) (by rfl)) (sss_cons (ss_ret (z.lc [(("at" : Str), 2)] (z.rg1 (se_op ok_add (z.v (by decide +kernel)) se_int) (by decide +kernel)) (by decide +kernel) (fun _ _ _ _ _ z => ts_nil) (fun _ _ _ _ _ z => (z.tupRg (z.sr2 (z.v (by decide +kernel)) (z.v (by decide +kernel)) (by decide +kernel)) (by decide +kernel))))) sss_nil) sss_nil) (sss_cons (ss_ret (se_op ok_add (se_lst (al_cons (se_tup al_nil.sa) al_nil).sa) (z.lc [(("at" : Str), 2)] (z.rg2 (se_op ok_fdiv (se_op ok_add (z.v (by decide +kernel)) se_int) se_int) (z.v (by decide +kernel)) (by decide +kernel)) (by decide +kernel) (fun _ _ _ _ _ z => ts_nil) (fun _ _ _ _ _ z => (se_tup (al_cons (z.v (by decide +kernel)) al_nil).sa))))) sss_nil))))))
theorem F_turnings_of (G : Gx K mg) : FnD P w K mg base 1 "turnings_of" 2 m_turnings_of := G.d_turnings_of.fn BLs GCs (k := 0) G.bl G.gc (S_turnings_of G)
theorem S_numbers_of (G : Gx K mg) (X : Cx) (W : WX) (e1 : X.prog = P) (e2 : X.w = w) (e3 : X.K = K) (e4 : X.mg = mg) (e5 : X.base = base) (z : Cf BLs GCs X W N_numbers_of (defScope (top 34)) 1) : SSs X W (defBody (top 34)) b_numbers_of := by
  subst e1 e2 e3 e4 e5
  unfold b_numbers_of
  exact (sss_cons (z.set (se_lst al_nil.sa) (by decide +kernel)) (sss_cons (z.for_ (z.rg1 (z.v (by decide +kernel)) (by decide +kernel)) (z.tn (by decide +kernel)) (tgt_name _) (sss_cons (ss_expr (z.app (z.v (by decide +kernel)) (z.call (F_least_missing G) (by omega) (by decide +kernel) (al_cons (z.lc [(("lot" : Str), 4)] (pi_any (z.call (F_turnings_of G) (by omega) (by decide +kernel) (al_cons (z.v (by decide +kernel)) (al_cons (z.v (by decide +kernel)) al_nil)))) (by decide +kernel) (fun _ _ _ _ _ z => ts_nil) (fun _ _ _ _ _ z => (z.call (F_together G) (by omega) (by decide +kernel) (al_cons (z.lc [(("at" : Str), 5)] (pi_any (z.v (by decide +kernel))) (by decide +kernel) (fun _ _ _ _ _ z => ts_nil) (fun _ _ _ _ _ z => (z.ix (z.v (by decide +kernel)) (z.v (by decide +kernel))))) al_nil)))) al_nil))) (by rfl)) sss_nil)) (sss_cons (ss_ret (z.v (by decide +kernel))) sss_nil)))
theorem F_numbers_of (G : Gx K mg) : FnD P w K mg base 2 "numbers_of" 2 m_numbers_of := G.d_numbers_of.fn BLs GCs (k := 1) G.bl G.gc (S_numbers_of G)
theorem S_place_numbers (G : Gx K mg) (X : Cx) (W : WX) (e1 : X.prog = P) (e2 : X.w = w) (e3 : X.K = K) (e4 : X.mg = mg) (e5 : X.base = base) (z : Cf BLs GCs X W N_place_numbers (defScope (top 35)) 2) : SSs X W (defBody (top 35)) b_place_numbers := by
  subst e1 e2 e3 e4 e5
  unfold b_place_numbers
  exact (sss_cons (ss_expr (z.call (F_check_rule G) (by omega) (by decide +kernel) (al_cons (z.v (by decide +kernel)) al_nil)) (by rfl)) (sss_cons (ss_if (st_not (st_val (z.call (F_is_within G) (by omega) (by decide +kernel) (al_cons (z.v (by decide +kernel)) (al_cons se_int (al_cons (z.g 1 rfl (by decide +kernel)) al_nil)))) (by rfl))) (sss_cons ss_never sss_nil) sss_nil) (sss_cons (ss_ret (z.tuple (z.call (F_numbers_of G) (by omega) (by decide +kernel) (al_cons (z.v (by decide +kernel)) (al_cons (z.v (by decide +kernel)) al_nil))) (by decide +kernel))) sss_nil)))
theorem F_place_numbers (G : Gx K mg) : FnD P w K mg base 3 "place_numbers" 2 m_place_numbers := G.d_place_numbers.fn BLs GCs (k := 2) G.bl G.gc (S_place_numbers G)
theorem S_is_row (G : Gx K mg) (X : Cx) (W : WX) (e1 : X.prog = P) (e2 : X.w = w) (e3 : X.K = K) (e4 : X.mg = mg) (e5 : X.base = base) (z : Cf BLs GCs X W N_is_row (defScope (top 36)) 0) : SSs X W (defBody (top 36)) b_is_row := by
  subst e1 e2 e3 e4 e5
  unfold b_is_row
  exact (sss_cons (ss_ret (se_and (z.isi (z.v (by decide +kernel)) (z.ty (by decide +kernel)) (by decide +kernel)) (se_and (se_cmp ok_le (z.len (z.v (by decide +kernel)) (by decide +kernel)) (z.g 1 rfl (by decide +kernel)) (by rfl)) (se_one (z.all (z.lc [(("sign" : Str), 1)] (pi_any (z.v (by decide +kernel))) (by decide +kernel) (fun _ _ _ _ _ z => ts_nil) (fun _ _ _ _ _ z => (se_cmp z.opIn (z.v (by decide +kernel)) se_str (by rfl)))) (by decide +kernel)))))) sss_nil)
theorem F_is_row (G : Gx K mg) : FnD P w K mg base 1 "is_row" 1 m_is_row := G.d_is_row.fn BLs GCs (k := 0) G.bl G.gc (S_is_row G)
theorem S_check_row (G : Gx K mg) (X : Cx) (W : WX) (e1 : X.prog = P) (e2 : X.w = w) (e3 : X.K = K) (e4 : X.mg = mg) (e5 : X.base = base) (z : Cf BLs GCs X W N_check_row (defScope (top 37)) 1) : SSs X W (defBody (top 37)) b_check_row := by
  subst e1 e2 e3 e4 e5
  unfold b_check_row
  exact (sss_cons (ss_if (st_not (st_val (z.call (F_is_row G) (by omega) (by decide +kernel) (al_cons (z.v (by decide +kernel)) al_nil)) (by rfl))) (sss_cons ss_never sss_nil) sss_nil) sss_nil)
theorem F_check_row (G : Gx K mg) : FnD P w K mg base 2 "check_row" 1 m_check_row := G.d_check_row.fn BLs GCs (k := 1) G.bl G.gc (S_check_row G)
theorem S_coins_number (G : Gx K mg) (X : Cx) (W : WX) (e1 : X.prog = P) (e2 : X.w = w) (e3 : X.K = K) (e4 : X.mg = mg) (e5 : X.base = base) (z : Cf BLs GCs X W N_coins_number (defScope (top 38)) 2) : SSs X W (defBody (top 38)) b_coins_number := by
  subst e1 e2 e3 e4 e5
  unfold b_coins_number
  exact (sss_cons (ss_expr (z.call (F_check_rule G) (by omega) (by decide +kernel) (al_cons (z.v (by decide +kernel)) al_nil)) (by rfl)) (sss_cons (ss_expr (z.call (F_check_row G) (by omega) (by decide +kernel) (al_cons (z.v (by decide +kernel)) al_nil)) (by rfl)) (sss_cons (z.set (z.call (F_numbers_of G) (by omega) (by decide +kernel) (al_cons (z.v (by decide +kernel)) (al_cons (z.len (z.v (by decide +kernel)) (by decide +kernel)) al_nil))) (by decide +kernel)) (sss_cons (ss_ret (z.call (F_together G) (by omega) (by decide +kernel) (al_cons (z.lc [(("at" : Str), 3), (("sign" : Str), 4)] (z.enm (z.v (by decide +kernel)) (by decide +kernel)) (by decide +kernel) (fun _ _ _ _ _ z => (ts_one (st_cmp (ok_eq z.un) (z.v (by decide +kernel)) se_str (by rfl)))) (fun _ _ _ _ _ z => (z.ix (z.v (by decide +kernel)) (z.v (by decide +kernel))))) al_nil))) sss_nil))))
theorem F_coins_number (G : Gx K mg) : FnD P w K mg base 3 "coins_number" 2 m_coins_number := G.d_coins_number.fn BLs GCs (k := 2) G.bl G.gc (S_coins_number G)
theorem S_turned_row (G : Gx K mg) (X : Cx) (W : WX) (e1 : X.prog = P) (e2 : X.w = w) (e3 : X.K = K) (e4 : X.mg = mg) (e5 : X.base = base) (z : Cf BLs GCs X W N_turned_row (defScope (top 39)) 0) : SSs X W (defBody (top 39)) b_turned_row := by
  subst e1 e2 e3 e4 e5
  unfold b_turned_row
  exact (sss_cons (z.set (z.list (z.v (by decide +kernel)) (by decide +kernel)) (by decide +kernel)) (sss_cons (z.for_ (pi_any (z.v (by decide +kernel))) (z.tn (by decide +kernel)) (tgt_name _) (sss_cons (z.asg (se_ifExp (st_cmp (ok_eq z.un) (z.ix (z.v (by decide +kernel)) (z.v (by decide +kernel))) se_str (by rfl)) se_str se_str) (z.ts (z.v (by decide +kernel)) (z.v (by decide +kernel))) tgt_sub (by rfl) (by decide +kernel)) sss_nil)) (sss_cons (ss_ret (z.join se_str (z.v (by decide +kernel)))) sss_nil)))
theorem F_turned_row (G : Gx K mg) : FnD P w K mg base 1 "turned_row" 2 m_turned_row := G.d_turned_row.fn BLs GCs (k := 0) G.bl G.gc (S_turned_row G)
theorem S_rows_below (G : Gx K mg) (X : Cx) (W : WX) (e1 : X.prog = P) (e2 : X.w = w) (e3 : X.K = K) (e4 : X.mg = mg) (e5 : X.base = base) (z : Cf BLs GCs X W N_rows_below (defScope (top 40)) 2) : SSs X W (defBody (top 40)) b_rows_below := by
  subst e1 e2 e3 e4 e5
  unfold b_rows_below
  exact (sss_cons (ss_expr (z.call (F_check_rule G) (by omega) (by decide +kernel) (al_cons (z.v (by decide +kernel)) al_nil)) (by rfl)) (sss_cons (ss_expr (z.call (F_check_row G) (by omega) (by decide +kernel) (al_cons (z.v (by decide +kernel)) al_nil)) (by rfl)) (sss_cons (ss_if (st_cmp ok_gt (z.len (z.v (by decide +kernel)) (by decide +kernel)) se_int (by rfl)) (sss_cons ss_never sss_nil) sss_nil) (sss_cons (z.set se_newD (by decide +kernel)) (sss_cons (z.for_ (z.enm (z.v (by decide +kernel)) (by decide +kernel)) (z.tt (sgs_cons (z.tn (by decide +kernel)) (sgs_cons (z.tn (by decide +kernel)) sgs_nil (by rfl)) (by rfl))) (tgt_tup (tgts_cons (tgt_name _) (tgts_cons (tgt_name _) tgts_nil))) (sss_cons (ss_if (st_cmp (ok_eq z.un) (z.v (by decide +kernel)) se_str (by rfl)) (sss_cons (z.for_ (pi_any (z.call (F_turnings_of G) (by omega) (by decide +kernel) (al_cons (z.v (by decide +kernel)) (al_cons (z.v (by decide +kernel)) al_nil)))) (z.tn (by decide +kernel)) (tgt_name _) (sss_cons (z.asg se_bl (z.ts (z.v (by decide +kernel)) (z.call (F_turned_row G) (by omega) (by decide +kernel) (al_cons (z.v (by decide +kernel)) (al_cons (se_op ok_add (z.v (by decide +kernel)) (se_tup (al_cons (z.v (by decide +kernel)) al_nil).sa)) al_nil)))) tgt_sub (by rfl) (by decide +kernel)) sss_nil)) sss_nil) sss_nil) sss_nil)) (sss_cons (ss_ret (z.tuple (z.sorted (z.list (z.v (by decide +kernel)) (by decide +kernel)) (by decide +kernel)) (by decide +kernel))) sss_nil))))))
theorem F_rows_below (G : Gx K mg) : FnD P w K mg base 3 "rows_below" 2 m_rows_below := G.d_rows_below.fn BLs GCs (k := 2) G.bl G.gc (S_rows_below G)
theorem S_winning_turn (G : Gx K mg) (X : Cx) (W : WX) (e1 : X.prog = P) (e2 : X.w = w) (e3 : X.K = K) (e4 : X.mg = mg) (e5 : X.base = base) (z : Cf BLs GCs X W N_winning_turn (defScope (top 41)) 2) : SSs X W (defBody (top 41)) b_winning_turn := by
  subst e1 e2 e3 e4 e5
  unfold b_winning_turn
  exact (sss_cons (ss_expr (z.call (F_check_rule G) (by omega) (by decide +kernel) (al_cons (z.v (by decide +kernel)) al_nil)) (by rfl)) (sss_cons (ss_expr (z.call (F_check_row G) (by omega) (by decide +kernel) (al_cons (z.v (by decide +kernel)) al_nil)) (by rfl)) (sss_cons (ss_if (st_cmp ok_gt (z.len (z.v (by decide +kernel)) (by decide +kernel)) se_int (by rfl)) (sss_cons ss_never sss_nil) sss_nil) (sss_cons (z.set (z.call (F_numbers_of G) (by omega) (by decide +kernel) (al_cons (z.v (by decide +kernel)) (al_cons (z.len (z.v (by decide +kernel)) (by decide +kernel)) al_nil))) (by decide +kernel)) (sss_cons (z.set (z.call (F_together G) (by omega) (by decide +kernel) (al_cons (z.lc [(("at" : Str), 7), (("sign" : Str), 5)] (z.enm (z.v (by decide +kernel)) (by decide +kernel)) (by decide +kernel) (fun _ _ _ _ _ z => (ts_one (st_cmp (ok_eq z.un) (z.v (by decide +kernel)) se_str (by rfl)))) (fun _ _ _ _ _ z => (z.ix (z.v (by decide +kernel)) (z.v (by decide +kernel))))) al_nil)) (by decide +kernel)) (sss_cons (z.for_ (z.enm (z.v (by decide +kernel)) (by decide +kernel)) (z.tt (sgs_cons (z.tn (by decide +kernel)) (sgs_cons (z.tn (by decide +kernel)) sgs_nil (by rfl)) (by rfl))) (tgt_tup (tgts_cons (tgt_name _) (tgts_cons (tgt_name _) tgts_nil))) (sss_cons (ss_if (st_cmp (ok_eq z.un) (z.v (by decide +kernel)) se_str (by rfl)) (sss_cons (z.for_ (pi_any (z.sorted (z.call (F_turnings_of G) (by omega) (by decide +kernel) (al_cons (z.v (by decide +kernel)) (al_cons (z.v (by decide +kernel)) al_nil))) (by decide +kernel))) (z.tn (by decide +kernel)) (tgt_name _) (sss_cons (ss_if (st_cmp (ok_eq z.un) (se_op ok_xor (se_op ok_xor (z.v (by decide +kernel)) (z.ix (z.v (by decide +kernel)) (z.v (by decide +kernel)))) (z.call (F_together G) (by omega) (by decide +kernel) (al_cons (z.lc [(("at" : Str), 7)] (pi_any (z.v (by decide +kernel))) (by decide +kernel) (fun _ _ _ _ _ z => ts_nil) (fun _ _ _ _ _ z => (z.ix (z.v (by decide +kernel)) (z.v (by decide +kernel))))) al_nil))) se_int (by rfl)) (sss_cons (ss_ret (se_op ok_add (z.v (by decide +kernel)) (se_tup (al_cons (z.v (by decide +kernel)) al_nil).sa))) sss_nil) sss_nil) sss_nil)) sss_nil) sss_nil) sss_nil)) (sss_cons (ss_ret se_non) sss_nil)))))))
theorem F_winning_turn (G : Gx K mg) : FnD P w K mg base 3 "winning_turn" 2 m_winning_turn := G.d_winning_turn.fn BLs GCs (k := 2) G.bl G.gc (S_winning_turn G)
theorem S_is_winning_turn (G : Gx K mg) (X : Cx) (W : WX) (e1 : X.prog = P) (e2 : X.w = w) (e3 : X.K = K) (e4 : X.mg = mg) (e5 : X.base = base) (z : Cf BLs GCs X W N_is_winning_turn (defScope (top 42)) 2) : SSs X W (defBody (top 42)) b_is_winning_turn := by
  subst e1 e2 e3 e4 e5
  unfold b_is_winning_turn
  exact (sss_cons (ss_expr (z.call (F_check_rule G) (by omega) (by decide +kernel) (al_cons (z.v (by decide +kernel)) al_nil)) (by rfl)) (sss_cons (ss_expr (z.call (F_check_row G) (by omega) (by decide +kernel) (al_cons (z.v (by decide +kernel)) al_nil)) (by rfl)) (sss_cons (ss_if ((sw_or (st_not (st_val (z.isi (z.v (by decide +kernel)) (z.ty (by decide +kernel)) (by decide +kernel)) (by rfl))) (sw_or (st_cmp (ok_eq z.un) (z.len (z.v (by decide +kernel)) (by decide +kernel)) se_int (by rfl)) (sw_or1 (st_not (st_val (z.all (z.lc [(("at" : Str), 5)] (pi_any (z.v (by decide +kernel))) (by decide +kernel) (fun _ _ _ _ _ z => ts_nil) (fun _ _ _ _ _ z => (z.call (F_is_within G) (by omega) (by decide +kernel) (al_cons (z.v (by decide +kernel)) (al_cons se_int (al_cons (se_op ok_sub (z.len (z.v (by decide +kernel)) (by decide +kernel)) se_int) al_nil)))))) (by decide +kernel)) (by rfl))))))).pt (sss_cons (ss_ret se_bl) sss_nil) sss_nil) (sss_cons (ss_if ((sw_or (st_cmp (ok_ne z.un) (z.ix (z.v (by decide +kernel)) (z.ix (z.v (by decide +kernel)) (se_un ok_neg se_int))) se_str (by rfl)) (sw_or1 (st_cmp z.opNin (se_sl (z.v (by decide +kernel)) so_none (so_some (se_un ok_neg se_int))) (z.call (F_turnings_of G) (by omega) (by decide +kernel) (al_cons (z.v (by decide +kernel)) (al_cons (z.ix (z.v (by decide +kernel)) (se_un ok_neg se_int)) al_nil))) (by rfl))))).pt (sss_cons (ss_ret se_bl) sss_nil) sss_nil) (sss_cons (z.set (z.call (F_numbers_of G) (by omega) (by decide +kernel) (al_cons (z.v (by decide +kernel)) (al_cons (z.len (z.v (by decide +kernel)) (by decide +kernel)) al_nil))) (by decide +kernel)) (sss_cons (z.set (z.call (F_together G) (by omega) (by decide +kernel) (al_cons (z.lc [(("at" : Str), 5), (("sign" : Str), 6)] (z.enm (z.v (by decide +kernel)) (by decide +kernel)) (by decide +kernel) (fun _ _ _ _ _ z => (ts_one (st_cmp (ok_eq z.un) (z.v (by decide +kernel)) se_str (by rfl)))) (fun _ _ _ _ _ z => (z.ix (z.v (by decide +kernel)) (z.v (by decide +kernel))))) al_nil)) (by decide +kernel)) (sss_cons (ss_ret (se_cmp (ok_eq z.un) (se_op ok_xor (z.v (by decide +kernel)) (z.call (F_together G) (by omega) (by decide +kernel) (al_cons (z.lc [(("at" : Str), 5)] (pi_any (z.v (by decide +kernel))) (by decide +kernel) (fun _ _ _ _ _ z => ts_nil) (fun _ _ _ _ _ z => (z.ix (z.v (by decide +kernel)) (z.v (by decide +kernel))))) al_nil))) se_int (by rfl))) sss_nil)))))))
theorem F_is_winning_turn (G : Gx K mg) : FnD P w K mg base 3 "is_winning_turn" 3 m_is_winning_turn := G.d_is_winning_turn.fn BLs GCs (k := 2) G.bl G.gc (S_is_winning_turn G)
theorem S_check_place (G : Gx K mg) (X : Cx) (W : WX) (e1 : X.prog = P) (e2 : X.w = w) (e3 : X.K = K) (e4 : X.mg = mg) (e5 : X.base = base) (z : Cf BLs GCs X W N_check_place (defScope (top 44)) 2) : SSs X W (defBody (top 44)) b_check_place := by
  subst e1 e2 e3 e4 e5
  unfold b_check_place
  exact (sss_cons (ss_if ((sw_or (st_not (st_val (z.isi (z.v (by decide +kernel)) (z.ty (by decide +kernel)) (by decide +kernel)) (by rfl))) (sw_or (st_cmp (ok_ne z.un) (z.len (z.v (by decide +kernel)) (by decide +kernel)) se_int (by rfl)) (sw_or1 (st_not (st_val (z.all (z.lc [(("at" : Str), 1)] (pi_any (z.v (by decide +kernel))) (by decide +kernel) (fun _ _ _ _ _ z => ts_nil) (fun _ _ _ _ _ z => (z.call (F_is_within G) (by omega) (by decide +kernel) (al_cons (z.v (by decide +kernel)) (al_cons se_int (al_cons (se_op ok_sub (z.g 2 rfl (by decide +kernel)) se_int) al_nil)))))) (by decide +kernel)) (by rfl))))))).pt (sss_cons ss_never sss_nil) sss_nil) sss_nil)
theorem F_check_place (G : Gx K mg) : FnD P w K mg base 3 "check_place" 1 m_check_place := G.d_check_place.fn BLs GCs (k := 2) G.bl G.gc (S_check_place G)
theorem S_board_number (G : Gx K mg) (X : Cx) (W : WX) (e1 : X.prog = P) (e2 : X.w = w) (e3 : X.K = K) (e4 : X.mg = mg) (e5 : X.base = base) (z : Cf BLs GCs X W N_board_number (defScope (top 43)) 10) : SSs X W (defBody (top 43)) b_board_number := by
  subst e1 e2 e3 e4 e5
  unfold b_board_number
  exact (sss_cons (ss_expr (z.call (F_check_rule G) (by omega) (by decide +kernel) (al_cons (z.v (by decide +kernel)) al_nil)) (by rfl)) (sss_cons (ss_expr (z.call (F_check_rule G) (by omega) (by decide +kernel) (al_cons (z.v (by decide +kernel)) al_nil)) (by rfl)) (sss_cons (ss_expr (z.call (F_check_place G) (by omega) (by decide +kernel) (al_cons (z.v (by decide +kernel)) al_nil)) (by rfl)) (sss_cons (ss_ret (z.call (F_product_ofF G 8) (by omega) (by decide +kernel) (al_cons (z.ix (z.call (F_numbers_of G) (by omega) (by decide +kernel) (al_cons (z.v (by decide +kernel)) (al_cons (se_op ok_add (z.ix (z.v (by decide +kernel)) se_int) se_int) al_nil))) (se_un ok_neg se_int)) (al_cons (z.ix (z.call (F_numbers_of G) (by omega) (by decide +kernel) (al_cons (z.v (by decide +kernel)) (al_cons (se_op ok_add (z.ix (z.v (by decide +kernel)) se_int) se_int) al_nil))) (se_un ok_neg se_int)) al_nil)))) sss_nil))))
theorem F_board_number (G : Gx K mg) : FnD P w K mg base 11 "board_number" 3 m_board_number := G.d_board_number.fn BLs GCs (k := 10) G.bl G.gc (S_board_number G)
theorem S_bits_number (G : Gx K mg) (X : Cx) (W : WX) (e1 : X.prog = P) (e2 : X.w = w) (e3 : X.K = K) (e4 : X.mg = mg) (e5 : X.base = base) (z : Cf BLs GCs X W N_bits_number (defScope (top 45)) 2) : SSs X W (defBody (top 45)) b_bits_number := by
  subst e1 e2 e3 e4 e5
  unfold b_bits_number
  exact (sss_cons (ss_if (st_not (st_val (z.call (F_is_within G) (by omega) (by decide +kernel) (al_cons (z.v (by decide +kernel)) (al_cons se_int (al_cons (se_op ok_pow se_int se_int) al_nil)))) (by rfl))) (sss_cons ss_never sss_nil) sss_nil) (sss_cons (z.par2 (al_cons se_int (al_cons (z.v (by decide +kernel)) al_nil)) (by decide +kernel)) (sss_cons (z.whl (st_cmp ok_gt (z.v (by decide +kernel)) se_int (by rfl)) (sss_cons (z.par2 (al_cons (se_op ok_add (z.v (by decide +kernel)) (se_op ok_and (z.v (by decide +kernel)) se_int)) (al_cons (se_op ok_shr (z.v (by decide +kernel)) se_int) al_nil)) (by decide +kernel)) sss_nil)) (sss_cons (ss_ret (se_op ok_add (se_op ok_mul se_int (z.v (by decide +kernel))) (se_ifExp (st_cmp (ok_eq z.un) (se_op ok_mod (z.v (by decide +kernel)) se_int) se_int (by rfl)) se_int se_int))) sss_nil))))
theorem F_bits_number (G : Gx K mg) : FnD P w K mg base 3 "bits_number" 1 m_bits_number := G.d_bits_number.fn BLs GCs (k := 2) G.bl G.gc (S_bits_number G)
theorem S_ruler_number (G : Gx K mg) (X : Cx) (W : WX) (e1 : X.prog = P) (e2 : X.w = w) (e3 : X.K = K) (e4 : X.mg = mg) (e5 : X.base = base) (z : Cf BLs GCs X W N_ruler_number (defScope (top 46)) 2) : SSs X W (defBody (top 46)) b_ruler_number := by
  subst e1 e2 e3 e4 e5
  unfold b_ruler_number
  exact (sss_cons (ss_if (st_not (st_val (z.call (F_is_within G) (by omega) (by decide +kernel) (al_cons (z.v (by decide +kernel)) (al_cons se_int (al_cons (se_op ok_pow se_int se_int) al_nil)))) (by rfl))) (sss_cons ss_never sss_nil) sss_nil) (sss_cons (ss_ret (se_op ok_and (se_op ok_add (z.v (by decide +kernel)) se_int) (se_un ok_inv (z.v (by decide +kernel))))) sss_nil))
theorem F_ruler_number (G : Gx K mg) : FnD P w K mg base 3 "ruler_number" 1 m_ruler_number := G.d_ruler_number.fn BLs GCs (k := 2) G.bl G.gc (S_ruler_number G)
theorem S_are_heaps (G : Gx K mg) (X : Cx) (W : WX) (e1 : X.prog = P) (e2 : X.w = w) (e3 : X.K = K) (e4 : X.mg = mg) (e5 : X.base = base) (z : Cf BLs GCs X W N_are_heaps (defScope (top 50)) 3) : SSs X W (defBody (top 50)) b_are_heaps := by
  subst e1 e2 e3 e4 e5
  unfold b_are_heaps
  exact (sss_cons (ss_ret (se_and (z.call (F_are_counts G) (by omega) (by decide +kernel) (al_cons (z.v (by decide +kernel)) al_nil)) (se_and (se_cmp ok_le (z.len (z.v (by decide +kernel)) (by decide +kernel)) (z.g 10 rfl (by decide +kernel)) (by rfl)) (se_one (z.all (z.lc [(("heap" : Str), 1)] (pi_any (z.v (by decide +kernel))) (by decide +kernel) (fun _ _ _ _ _ z => ts_nil) (fun _ _ _ _ _ z => (se_cmp ok_lt (z.v (by decide +kernel)) (z.g 11 rfl (by decide +kernel)) (by rfl)))) (by decide +kernel)))))) sss_nil)
theorem F_are_heaps (G : Gx K mg) : FnD P w K mg base 4 "are_heaps" 1 m_are_heaps := G.d_are_heaps.fn BLs GCs (k := 3) G.bl G.gc (S_are_heaps G)
theorem S_check_heaps (G : Gx K mg) (X : Cx) (W : WX) (e1 : X.prog = P) (e2 : X.w = w) (e3 : X.K = K) (e4 : X.mg = mg) (e5 : X.base = base) (z : Cf BLs GCs X W N_check_heaps (defScope (top 51)) 4) : SSs X W (defBody (top 51)) b_check_heaps := by
  subst e1 e2 e3 e4 e5
  unfold b_check_heaps
  exact (sss_cons (ss_if (st_not (st_val (z.call (F_are_heaps G) (by omega) (by decide +kernel) (al_cons (z.v (by decide +kernel)) al_nil)) (by rfl))) (sss_cons ss_never sss_nil) sss_nil) sss_nil)
theorem F_check_heaps (G : Gx K mg) : FnD P w K mg base 5 "check_heaps" 1 m_check_heaps := G.d_check_heaps.fn BLs GCs (k := 4) G.bl G.gc (S_check_heaps G)
theorem S_first_taking (G : Gx K mg) (X : Cx) (W : WX) (e1 : X.prog = P) (e2 : X.w = w) (e3 : X.K = K) (e4 : X.mg = mg) (e5 : X.base = base) (z : Cf BLs GCs X W N_first_taking (defScope (top 52)) 5) : SSs X W (defBody (top 52)) b_first_taking := by
  subst e1 e2 e3 e4 e5
  unfold b_first_taking
  exact (sss_cons (ss_expr (z.call (F_check_heaps G) (by omega) (by decide +kernel) (al_cons (z.v (by decide +kernel)) al_nil)) (by rfl)) (sss_cons (z.set (z.call (F_together G) (by omega) (by decide +kernel) (al_cons (z.v (by decide +kernel)) al_nil)) (by decide +kernel)) (sss_cons (z.for_ (z.enm (z.v (by decide +kernel)) (by decide +kernel)) (z.tt (sgs_cons (z.tn (by decide +kernel)) (sgs_cons (z.tn (by decide +kernel)) sgs_nil (by rfl)) (by rfl))) (tgt_tup (tgts_cons (tgt_name _) (tgts_cons (tgt_name _) tgts_nil))) (sss_cons (ss_if (st_cmp ok_lt (se_op ok_xor (z.v (by decide +kernel)) (z.v (by decide +kernel))) (z.v (by decide +kernel)) (by rfl)) (sss_cons (ss_ret (se_tup (al_cons (z.v (by decide +kernel)) (al_cons (se_op ok_xor (z.v (by decide +kernel)) (z.v (by decide +kernel))) al_nil)).sa)) sss_nil) sss_nil) sss_nil)) (sss_cons (ss_ret se_non) sss_nil))))
theorem F_first_taking (G : Gx K mg) : FnD P w K mg base 6 "first_taking" 1 m_first_taking := G.d_first_taking.fn BLs GCs (k := 5) G.bl G.gc (S_first_taking G)
theorem S__law_hand (G : Gx K mg) (X : Cx) (W : WX) (e1 : X.prog = P) (e2 : X.w = w) (e3 : X.K = K) (e4 : X.mg = mg) (e5 : X.base = base) (z : Cf BLs GCs X W N__law_hand (defScope (top 54)) 0) : SSs X W (defBody (top 54)) b__law_hand := by
  subst e1 e2 e3 e4 e5
  unfold b__law_hand
  exact (sss_cons (z.setLc [(("cell" : Str), 2)] (pi_any (se_sl (z.v (by decide +kernel)) so_none (so_some se_int))) (by decide +kernel) (fun _ _ _ _ _ z => ts_nil) (fun _ _ _ _ _ z => (se_op ok_mod (z.int (z.abs (z.int (z.v (by decide +kernel)) (by decide +kernel)) (by decide +kernel)) (by decide +kernel)) (se_op ok_pow se_int se_int)))) (sss_cons (ss_ret (se_lst (al_cons (z.v (by decide +kernel)) (al_cons se_int (al_cons se_int (al_cons (se_op ok_add se_int (se_op ok_mul se_int (z.len (z.v (by decide +kernel)) (by decide +kernel)))) (al_cons se_int al_nil))))).sa)) sss_nil))
theorem F__law_hand (G : Gx K mg) : FnD P w K mg base 1 "_law_hand" 1 m__law_hand := G.d__law_hand.fn BLs GCs (k := 0) G.bl G.gc (S__law_hand G)
theorem S__law_draw (G : Gx K mg) (X : Cx) (W : WX) (e1 : X.prog = P) (e2 : X.w = w) (e3 : X.K = K) (e4 : X.mg = mg) (e5 : X.base = base) (z : Cf BLs GCs X W N__law_draw (defScope (top 55)) 0) : SSs X W (defBody (top 55)) b__law_draw := by
  subst e1 e2 e3 e4 e5
  unfold b__law_draw
  exact (sss_cons (ss_if ((sw_and (st_cmp (ok_eq z.un) (z.ix (z.v (by decide +kernel)) se_int) se_int (by rfl)) (sw_and1 (st_cmp ok_lt (z.ix (z.v (by decide +kernel)) se_int) (z.len (z.ix (z.v (by decide +kernel)) se_int) (by decide +kernel)) (by rfl))))).pt (sss_cons (z.set (z.ix (z.ix (z.v (by decide +kernel)) se_int) (z.ix (z.v (by decide +kernel)) se_int)) (by decide +kernel)) (sss_cons (z.asg (se_op ok_add (z.ix (z.v (by decide +kernel)) se_int) se_int) (z.ts (z.v (by decide +kernel)) se_int) tgt_sub (by rfl) (by decide +kernel)) (sss_cons (z.asg (se_op ok_mod (z.int (se_op ok_add (se_op ok_add (se_op ok_mul (z.ix (z.v (by decide +kernel)) se_int) se_int) (se_op ok_mul (z.v (by decide +kernel)) se_int)) se_int) (by decide +kernel)) se_int) (z.ts (z.v (by decide +kernel)) se_int) tgt_sub (by rfl) (by decide +kernel)) (sss_cons (ss_if (st_cmp ok_ge (z.v (by decide +kernel)) (se_op ok_pow se_int se_int) (by rfl)) (sss_cons (z.asg (z.v (by decide +kernel)) (z.ts (z.v (by decide +kernel)) se_int) tgt_sub (by rfl) (by decide +kernel)) sss_nil) sss_nil) sss_nil)))) sss_nil) (sss_cons (ss_if (st_cmp ok_gt (z.ix (z.v (by decide +kernel)) se_int) se_int (by rfl)) (sss_cons (z.set (se_op ok_mod (z.int (z.ix (z.v (by decide +kernel)) se_int) (by decide +kernel)) (z.v (by decide +kernel))) (by decide +kernel)) (sss_cons (z.asg (se_op ok_fdiv (z.ix (z.v (by decide +kernel)) se_int) (z.v (by decide +kernel))) (z.ts (z.v (by decide +kernel)) se_int) tgt_sub (by rfl) (by decide +kernel)) (sss_cons (ss_ret (z.v (by decide +kernel))) sss_nil))) sss_nil) (sss_cons (z.asg (se_op ok_add (z.ix (z.v (by decide +kernel)) se_int) se_int) (z.ts (z.v (by decide +kernel)) se_int) tgt_sub (by rfl) (by decide +kernel)) (sss_cons (z.set (se_op ok_mod (z.int (se_op ok_mul (z.int (se_op ok_add (z.ix (z.v (by decide +kernel)) se_int) (se_op ok_mul se_int (z.ix (z.v (by decide +kernel)) se_int))) (by decide +kernel)) se_int) (by decide +kernel)) se_int) (by decide +kernel)) (sss_cons (z.set (se_op ok_mod (z.int (se_op ok_mul (z.v (by decide +kernel)) (se_op ok_add (se_op ok_fdiv (z.v (by decide +kernel)) se_int) se_int)) (by decide +kernel)) se_int) (by decide +kernel)) (sss_cons (z.set (se_op ok_mod (z.int (se_op ok_mul (z.v (by decide +kernel)) (se_op ok_add (se_op ok_fdiv (z.v (by decide +kernel)) se_int) se_int)) (by decide +kernel)) se_int) (by decide +kernel)) (sss_cons (ss_ret (se_op ok_mod (z.int (se_op ok_fdiv (z.v (by decide +kernel)) se_int) (by decide +kernel)) (z.v (by decide +kernel)))) sss_nil)))))))
theorem F__law_draw (G : Gx K mg) : FnD P w K mg base 1 "_law_draw" 2 m__law_draw := G.d__law_draw.fn BLs GCs (k := 0) G.bl G.gc (S__law_draw G)
theorem S__law_some (G : Gx K mg) (X : Cx) (W : WX) (e1 : X.prog = P) (e2 : X.w = w) (e3 : X.K = K) (e4 : X.mg = mg) (e5 : X.base = base) (z : Cf BLs GCs X W N__law_some (defScope (top 56)) 1) : SSs X W (defBody (top 56)) b__law_some := by
  subst e1 e2 e3 e4 e5
  unfold b__law_some
  exact (sss_cons (ss_ret (z.ix (z.v (by decide +kernel)) (z.call (F__law_draw G) (by omega) (by decide +kernel) (al_cons (z.v (by decide +kernel)) (al_cons (z.len (z.v (by decide +kernel)) (by decide +kernel)) al_nil))))) sss_nil)
theorem F__law_some (G : Gx K mg) : FnD P w K mg base 2 "_law_some" 2 m__law_some := G.d__law_some.fn BLs GCs (k := 1) G.bl G.gc (S__law_some G)
theorem F__law_isF (G : Gx K mg) (n : Nat) : FnD P w K mg base (0 + n + 1) "_law_is" 2 (m__law_isF n) := by
  induction n with
  | zero => exact G.d__law_is.stuck (k := 0)
  | succ n ih =>
    exact G.d__law_is.fn BLs GCs (k := 0 + n + 1) G.bl G.gc fun X W e1 e2 e3 e4 e5 z => by
      subst e1 e2 e3 e4 e5
      unfold b__law_is
      exact (sss_cons (ss_if (st_val (z.isiT (z.v (by decide +kernel)) ⟨z.ty (by decide +kernel), ⟨z.ty (by decide +kernel), trivial⟩⟩ (by decide) (by decide +kernel)) (by rfl)) (sss_cons (ss_if ((sw_or (st_cmp (ok_ne z.un) (z.isi (z.v (by decide +kernel)) (z.ty (by decide +kernel)) (by decide +kernel)) (z.isi (z.v (by decide +kernel)) (z.ty (by decide +kernel)) (by decide +kernel)) (by rfl)) (sw_or1 (st_cmp (ok_ne z.un) (z.isi (z.v (by decide +kernel)) (z.ty (by decide +kernel)) (by decide +kernel)) (z.isi (z.v (by decide +kernel)) (z.ty (by decide +kernel)) (by decide +kernel)) (by rfl))))).pt (sss_cons (ss_ret se_bl) sss_nil) sss_nil) (sss_cons (ss_ret (se_and (se_cmp (ok_eq z.un) (z.len (z.v (by decide +kernel)) (by decide +kernel)) (z.len (z.v (by decide +kernel)) (by decide +kernel)) (by rfl)) (se_one (z.all (z.lc [(("one" : Str), 2), (("other" : Str), 3)] (z.zip (z.v (by decide +kernel)) (z.v (by decide +kernel)) (by decide +kernel)) (by decide +kernel) (fun _ _ _ _ _ z => ts_nil) (fun _ _ _ _ _ z => (z.call ih (by omega) (by decide +kernel) (al_cons (z.v (by decide +kernel)) (al_cons (z.v (by decide +kernel)) al_nil))))) (by decide +kernel))))) sss_nil)) sss_nil) (sss_cons (ss_if ((sw_or (st_cmp ok_is (z.v (by decide +kernel)) se_non (by rfl)) (sw_or1 (st_cmp ok_is (z.v (by decide +kernel)) se_non (by rfl))))).pt (sss_cons (ss_ret (se_and (se_cmp ok_is (z.v (by decide +kernel)) se_non (by rfl)) (se_one (se_cmp ok_is (z.v (by decide +kernel)) se_non (by rfl))))) sss_nil) sss_nil) (sss_cons (ss_if ((sw_or (st_cmp (ok_ne z.un) (z.isi (z.v (by decide +kernel)) (z.ty (by decide +kernel)) (by decide +kernel)) (z.isi (z.v (by decide +kernel)) (z.ty (by decide +kernel)) (by decide +kernel)) (by rfl)) (sw_or1 (st_cmp (ok_ne z.un) (z.isi (z.v (by decide +kernel)) (z.ty (by decide +kernel)) (by decide +kernel)) (z.isi (z.v (by decide +kernel)) (z.ty (by decide +kernel)) (by decide +kernel)) (by rfl))))).pt (sss_cons (ss_ret se_bl) sss_nil) sss_nil) (sss_cons (ss_ret (se_and (se_cmp (ok_eq z.un) (z.isi (z.v (by decide +kernel)) (z.ty (by decide +kernel)) (by decide +kernel)) (z.isi (z.v (by decide +kernel)) (z.ty (by decide +kernel)) (by decide +kernel)) (by rfl)) (se_one (se_cmp (ok_eq z.un) (z.v (by decide +kernel)) (z.v (by decide +kernel)) (by rfl))))) sss_nil))))
theorem S__law_ones (G : Gx K mg) (X : Cx) (W : WX) (e1 : X.prog = P) (e2 : X.w = w) (e3 : X.K = K) (e4 : X.mg = mg) (e5 : X.base = base) (z : Cf BLs GCs X W N__law_ones (defScope (top 58)) 0) : SSs X W (defBody (top 58)) b__law_ones := by
  subst e1 e2 e3 e4 e5
  unfold b__law_ones
  exact (sss_cons (z.par2 (al_cons se_int (al_cons (z.v (by decide +kernel)) al_nil)) (by decide +kernel)) (sss_cons (z.whl (st_cmp ok_gt (z.v (by decide +kernel)) se_int (by rfl)) (sss_cons (z.par2 (al_cons (se_op ok_add (z.v (by decide +kernel)) (se_op ok_mod (z.int (z.v (by decide +kernel)) (by decide +kernel)) se_int)) (al_cons (se_op ok_fdiv (z.v (by decide +kernel)) se_int) al_nil)) (by decide +kernel)) sss_nil)) (sss_cons (ss_ret (z.v (by decide +kernel))) sss_nil)))
theorem F__law_ones (G : Gx K mg) : FnD P w K mg base 1 "_law_ones" 1 m__law_ones := G.d__law_ones.fn BLs GCs (k := 0) G.bl G.gc (S__law_ones G)
theorem S__law_known (G : Gx K mg) (X : Cx) (W : WX) (e1 : X.prog = P) (e2 : X.w = w) (e3 : X.K = K) (e4 : X.mg = mg) (e5 : X.base = base) (z : Cf BLs GCs X W N__law_known (defScope (top 59)) 1) : SSs X W (defBody (top 59)) b__law_known := by
  subst e1 e2 e3 e4 e5
  unfold b__law_known
  exact (sss_cons (ss_if (st_cmp z.opIn (z.v (by decide +kernel)) (se_tup (al_cons se_str (al_cons se_str al_nil)).sa) (by rfl)) (sss_cons (ss_ret (se_ifExp (st_cmp (ok_eq z.un) (z.v (by decide +kernel)) se_str (by rfl)) se_int (se_op ok_add (z.v (by decide +kernel)) se_int))) sss_nil) sss_nil) (sss_cons (ss_if (st_cmp (ok_eq z.un) (z.v (by decide +kernel)) se_str (by rfl)) (sss_cons (ss_ret (z.v (by decide +kernel))) sss_nil) sss_nil) (sss_cons (ss_if (st_cmp (ok_eq z.un) (z.v (by decide +kernel)) se_str (by rfl)) (sss_cons (ss_ret (se_op ok_add (se_op ok_mul se_int (z.v (by decide +kernel))) (z.int (se_cmp (ok_eq z.un) (se_op ok_mod (z.int (z.call (F__law_ones G) (by omega) (by decide +kernel) (al_cons (z.v (by decide +kernel)) al_nil)) (by decide +kernel)) se_int) se_int (by rfl)) (by decide +kernel)))) sss_nil) sss_nil) (sss_cons (z.set se_int (by decide +kernel)) (sss_cons (z.whl ((sw_and (st_cmp (ok_eq z.un) (z.v (by decide +kernel)) se_str (by rfl)) (sw_and1 (st_cmp (ok_eq z.un) (se_op ok_mod (z.int (se_op ok_add (z.v (by decide +kernel)) se_int) (by decide +kernel)) (se_op ok_mul se_int (z.v (by decide +kernel)))) se_int (by rfl))))).pt (sss_cons (z.set (se_op ok_mul se_int (z.v (by decide +kernel))) (by decide +kernel)) sss_nil)) (sss_cons (ss_ret (se_ifExp (st_cmp (ok_eq z.un) (z.v (by decide +kernel)) se_str (by rfl)) (z.v (by decide +kernel)) se_non)) sss_nil))))))
theorem F__law_known (G : Gx K mg) : FnD P w K mg base 2 "_law_known" 2 m__law_known := G.d__law_known.fn BLs GCs (k := 1) G.bl G.gc (S__law_known G)
theorem S__law_row (G : Gx K mg) (X : Cx) (W : WX) (e1 : X.prog = P) (e2 : X.w = w) (e3 : X.K = K) (e4 : X.mg = mg) (e5 : X.base = base) (z : Cf BLs GCs X W N__law_row (defScope (top 60)) 2) : SSs X W (defBody (top 60)) b__law_row := by
  subst e1 e2 e3 e4 e5
  unfold b__law_row
  exact (sss_cons (z.set (z.call (F__law_some G) (by omega) (by decide +kernel) (al_cons (z.v (by decide +kernel)) (al_cons (se_lst (al_cons se_str (al_cons se_str (al_cons se_str (al_cons se_str (al_cons se_str al_nil))))).sa) al_nil))) (by decide +kernel)) (sss_cons (ss_ret (z.join se_str (z.lc [(("at" : Str), 3)] (z.rg1 (z.v (by decide +kernel)) (by decide +kernel)) (by decide +kernel) (fun _ _ _ _ _ z => ts_nil) (fun _ _ _ _ _ z => (z.call (F__law_some G) (by omega) (by decide +kernel) (al_cons (z.v (by decide +kernel)) (al_cons (z.v (by decide +kernel)) al_nil))))))) sss_nil))
theorem F__law_row (G : Gx K mg) : FnD P w K mg base 3 "_law_row" 2 m__law_row := G.d__law_row.fn BLs GCs (k := 2) G.bl G.gc (S__law_row G)
theorem S__law_turned (G : Gx K mg) (X : Cx) (W : WX) (e1 : X.prog = P) (e2 : X.w = w) (e3 : X.K = K) (e4 : X.mg = mg) (e5 : X.base = base) (z : Cf BLs GCs X W N__law_turned (defScope (top 61)) 0) : SSs X W (defBody (top 61)) b__law_turned := by
  subst e1 e2 e3 e4 e5
  unfold b__law_turned
  exact (sss_cons (ss_ret (z.join se_str (z.lc [(("at" : Str), 2), (("sign" : Str), 3)] (z.enm (z.v (by decide +kernel)) (by decide +kernel)) (by decide +kernel) (fun _ _ _ _ _ z => ts_nil) (fun _ _ _ _ _ z => (se_ifExp (st_cmp z.opIn (z.v (by decide +kernel)) (z.v (by decide +kernel)) (by rfl)) (se_ifExp (st_cmp (ok_eq z.un) (z.v (by decide +kernel)) se_str (by rfl)) se_str se_str) (z.v (by decide +kernel))))))) sss_nil)
theorem F__law_turned (G : Gx K mg) : FnD P w K mg base 1 "_law_turned" 2 m__law_turned := G.d__law_turned.fn BLs GCs (k := 0) G.bl G.gc (S__law_turned G)
theorem S__law_rule_right (G : Gx K mg) (X : Cx) (W : WX) (e1 : X.prog = P) (e2 : X.w = w) (e3 : X.K = K) (e4 : X.mg = mg) (e5 : X.base = base) (z : Cf BLs GCs X W N__law_rule_right (defScope (top 62)) 5) : SSs X W (defBody (top 62)) b__law_rule_right := by
  subst e1 e2 e3 e4 e5
  unfold b__law_rule_right
  exact (sss_cons (z.set (z.call (F__law_draw G) (by omega) (by decide +kernel) (al_cons (z.v (by decide +kernel)) (al_cons se_int al_nil))) (by decide +kernel)) (sss_cons (z.asg (se_tup (al_cons (z.call (F__law_row G) (by omega) (by decide +kernel) (al_cons (z.v (by decide +kernel)) (al_cons (z.v (by decide +kernel)) al_nil))) (al_cons (z.list (z.call (F_place_numbers G) (by omega) (by decide +kernel) (al_cons (z.v (by decide +kernel)) (al_cons se_int al_nil))) (by decide +kernel)) al_nil)).sa) (z.tt (sgs_cons (z.tn (by decide +kernel)) (sgs_cons (z.tn (by decide +kernel)) sgs_nil (by rfl)) (by rfl))) (tgt_tup (tgts_cons (tgt_name _) (tgts_cons (tgt_name _) tgts_nil))) (by rfl) (by decide +kernel)) (sss_cons (z.setLc [(("place" : Str), 13)] (z.rg1 se_int (by decide +kernel)) (by decide +kernel) (fun _ _ _ _ _ z => ts_nil) (fun _ _ _ _ _ z => (z.call (F__law_known G) (by omega) (by decide +kernel) (al_cons (z.v (by decide +kernel)) (al_cons (z.v (by decide +kernel)) al_nil))))) (sss_cons (ss_if ((sw_and (st_cmp (ok_ne z.un) (z.v (by decide +kernel)) se_str (by rfl)) (sw_and1 (st_cmp (ok_ne z.un) (z.v (by decide +kernel)) (z.v (by decide +kernel)) (by rfl))))).pt (sss_cons (ss_ret se_bl) sss_nil) sss_nil) (sss_cons (z.set (z.tuple (z.lc [(("at" : Str), 14), (("sign" : Str), 15)] (z.enm (z.v (by decide +kernel)) (by decide +kernel)) (by decide +kernel) (fun _ _ _ _ _ z => (ts_one (st_cmp (ok_eq z.un) (z.v (by decide +kernel)) se_str (by rfl)))) (fun _ _ _ _ _ z => (z.ix (z.v (by decide +kernel)) (z.v (by decide +kernel))))) (by decide +kernel)) (by decide +kernel)) (sss_cons (z.par2 (al_cons (z.call (F_coins_number G) (by omega) (by decide +kernel) (al_cons (z.v (by decide +kernel)) (al_cons (z.v (by decide +kernel)) al_nil))) (al_cons (z.call (F_winning_turn G) (by omega) (by decide +kernel) (al_cons (z.v (by decide +kernel)) (al_cons (z.v (by decide +kernel)) al_nil))) al_nil)) (by decide +kernel)) (sss_cons (ss_if ((sw_or (st_not (st_val (z.call (F__law_isF G 4) (by omega) (by decide +kernel) (al_cons (z.v (by decide +kernel)) (al_cons (z.call (F_two_sum G) (by omega) (by decide +kernel) (al_cons (z.v (by decide +kernel)) al_nil)) al_nil))) (by rfl))) (sw_or1 (st_cmp (ok_ne z.un) (se_cmp ok_is (z.v (by decide +kernel)) se_non (by rfl)) (se_cmp (ok_eq z.un) (z.v (by decide +kernel)) se_int (by rfl)) (by rfl))))).pt (sss_cons (ss_ret se_bl) sss_nil) sss_nil) (sss_cons (ss_if (st_cmp ok_isn (z.v (by decide +kernel)) se_non (by rfl)) (sss_cons (z.set (z.call (F__law_turned G) (by omega) (by decide +kernel) (al_cons (z.v (by decide +kernel)) (al_cons (z.v (by decide +kernel)) al_nil))) (by decide +kernel)) (sss_cons (ss_if ((sw_or (st_cmp (ok_ne z.un) (z.ix (z.v (by decide +kernel)) (z.max (by decide +kernel) (al_cons (z.v (by decide +kernel)) al_nil))) se_str (by rfl)) (sw_or (st_cmp (ok_ne z.un) (z.call (F_coins_number G) (by omega) (by decide +kernel) (al_cons (z.v (by decide +kernel)) (al_cons (z.v (by decide +kernel)) al_nil))) se_int (by rfl)) (sw_or1 (st_cmp ok_isn (z.call (F_is_winning_turn G) (by omega) (by decide +kernel) (al_cons (z.v (by decide +kernel)) (al_cons (z.v (by decide +kernel)) (al_cons (z.v (by decide +kernel)) al_nil)))) se_bl (by rfl)))))).pt (sss_cons (ss_ret se_bl) sss_nil) sss_nil) sss_nil)) sss_nil) (sss_cons (z.set (se_sl (z.v (by decide +kernel)) so_none (so_some se_int)) (by decide +kernel)) (sss_cons (z.set (z.call (F_coins_number G) (by omega) (by decide +kernel) (al_cons (z.v (by decide +kernel)) (al_cons (z.v (by decide +kernel)) al_nil))) (by decide +kernel)) (sss_cons (z.set (z.lc [(("later" : Str), 9)] (pi_any (z.call (F_rows_below G) (by omega) (by decide +kernel) (al_cons (z.v (by decide +kernel)) (al_cons (z.v (by decide +kernel)) al_nil)))) (by decide +kernel) (fun _ _ _ _ _ z => ts_nil) (fun _ _ _ _ _ z => (z.call (F_coins_number G) (by omega) (by decide +kernel) (al_cons (z.v (by decide +kernel)) (al_cons (z.v (by decide +kernel)) al_nil))))) (by decide +kernel)) (sss_cons (ss_ret (se_and (se_cmp z.opNin (z.v (by decide +kernel)) (z.v (by decide +kernel)) (by rfl)) (se_one (z.all (z.lc [(("number" : Str), 7)] (z.rg1 (z.v (by decide +kernel)) (by decide +kernel)) (by decide +kernel) (fun _ _ _ _ _ z => ts_nil) (fun _ _ _ _ _ z => (se_cmp z.opIn (z.v (by decide +kernel)) (z.v (by decide +kernel)) (by rfl)))) (by decide +kernel))))) sss_nil))))))))))))
theorem F__law_rule_right (G : Gx K mg) : FnD P w K mg base 6 "_law_rule_right" 2 m__law_rule_right := G.d__law_rule_right.fn BLs GCs (k := 5) G.bl G.gc (S__law_rule_right G)
theorem S__law_heaps_right (G : Gx K mg) (X : Cx) (W : WX) (e1 : X.prog = P) (e2 : X.w = w) (e3 : X.K = K) (e4 : X.mg = mg) (e5 : X.base = base) (z : Cf BLs GCs X W N__law_heaps_right (defScope (top 63)) 6) : SSs X W (defBody (top 63)) b__law_heaps_right := by
  subst e1 e2 e3 e4 e5
  unfold b__law_heaps_right
  exact (sss_cons (z.set (z.call (F__law_row G) (by omega) (by decide +kernel) (al_cons (z.v (by decide +kernel)) (al_cons (z.call (F__law_draw G) (by omega) (by decide +kernel) (al_cons (z.v (by decide +kernel)) (al_cons se_int al_nil))) al_nil))) (by decide +kernel)) (sss_cons (z.set (z.tuple (z.lc [(("at" : Str), 5), (("sign" : Str), 6)] (z.enm (z.v (by decide +kernel)) (by decide +kernel)) (by decide +kernel) (fun _ _ _ _ _ z => (ts_one (st_cmp (ok_eq z.un) (z.v (by decide +kernel)) se_str (by rfl)))) (fun _ _ _ _ _ z => (se_op ok_add (z.v (by decide +kernel)) se_int))) (by decide +kernel)) (by decide +kernel)) (sss_cons (ss_if (st_cmp (ok_ne z.un) (se_cmp ok_is (z.call (F_first_taking G) (by omega) (by decide +kernel) (al_cons (z.v (by decide +kernel)) al_nil)) se_non (by rfl)) (se_cmp ok_is (z.call (F_winning_turn G) (by omega) (by decide +kernel) (al_cons se_str (al_cons (z.v (by decide +kernel)) al_nil))) se_non (by rfl)) (by rfl)) (sss_cons (ss_ret se_bl) sss_nil) sss_nil) (sss_cons (z.set (z.call (F__law_some G) (by omega) (by decide +kernel) (al_cons (z.v (by decide +kernel)) (al_cons (se_lst (al_cons (z.call (F__law_draw G) (by omega) (by decide +kernel) (al_cons (z.v (by decide +kernel)) (al_cons se_int al_nil))) (al_cons (z.call (F__law_draw G) (by omega) (by decide +kernel) (al_cons (z.v (by decide +kernel)) (al_cons (se_op ok_pow se_int se_int) al_nil))) (al_cons (se_op ok_sub (se_op ok_pow se_int se_int) se_int) (al_cons (se_op ok_pow se_int se_int) al_nil)))).sa) al_nil))) (by decide +kernel)) (sss_cons (z.set (se_lst (al_cons (z.call (F__law_known G) (by omega) (by decide +kernel) (al_cons se_str (al_cons (z.v (by decide +kernel)) al_nil))) (al_cons (z.call (F__law_known G) (by omega) (by decide +kernel) (al_cons se_str (al_cons (z.v (by decide +kernel)) al_nil))) al_nil)).sa) (by decide +kernel)) (sss_cons (ss_ret (z.call (F__law_isF G 4) (by omega) (by decide +kernel) (al_cons (se_lst (al_cons (z.call (F_bits_number G) (by omega) (by decide +kernel) (al_cons (z.v (by decide +kernel)) al_nil)) (al_cons (z.call (F_ruler_number G) (by omega) (by decide +kernel) (al_cons (z.v (by decide +kernel)) al_nil)) al_nil)).sa) (al_cons (z.v (by decide +kernel)) al_nil)))) sss_nil))))))
theorem F__law_heaps_right (G : Gx K mg) : FnD P w K mg base 7 "_law_heaps_right" 1 m__law_heaps_right := G.d__law_heaps_right.fn BLs GCs (k := 6) G.bl G.gc (S__law_heaps_right G)
theorem S__law_boards_right (G : Gx K mg) (X : Cx) (W : WX) (e1 : X.prog = P) (e2 : X.w = w) (e3 : X.K = K) (e4 : X.mg = mg) (e5 : X.base = base) (z : Cf BLs GCs X W N__law_boards_right (defScope (top 64)) 11) : SSs X W (defBody (top 64)) b__law_boards_right := by
  subst e1 e2 e3 e4 e5
  unfold b__law_boards_right
  exact (sss_cons (z.set (se_lst (al_cons se_str (al_cons se_str (al_cons se_str (al_cons se_str (al_cons se_str (al_cons se_str al_nil)))))).sa) (by decide +kernel)) (sss_cons (z.for_ (z.rg1 se_int (by decide +kernel)) (z.tn (by decide +kernel)) (tgt_name _) (sss_cons (z.par2 (al_cons (z.call (F__law_some G) (by omega) (by decide +kernel) (al_cons (z.v (by decide +kernel)) (al_cons (z.v (by decide +kernel)) al_nil))) (al_cons (z.call (F__law_some G) (by omega) (by decide +kernel) (al_cons (z.v (by decide +kernel)) (al_cons (z.v (by decide +kernel)) al_nil))) al_nil)) (by decide +kernel)) (sss_cons (z.set (se_tup (al_cons (z.call (F__law_draw G) (by omega) (by decide +kernel) (al_cons (z.v (by decide +kernel)) (al_cons se_int al_nil))) (al_cons (z.call (F__law_draw G) (by omega) (by decide +kernel) (al_cons (z.v (by decide +kernel)) (al_cons se_int al_nil))) al_nil)).sa) (by decide +kernel)) (sss_cons (z.set (se_lst (al_cons (z.ix (z.call (F_place_numbers G) (by omega) (by decide +kernel) (al_cons (z.v (by decide +kernel)) (al_cons se_int al_nil))) (z.ix (z.v (by decide +kernel)) se_int)) (al_cons (z.ix (z.call (F_place_numbers G) (by omega) (by decide +kernel) (al_cons (z.v (by decide +kernel)) (al_cons se_int al_nil))) (z.ix (z.v (by decide +kernel)) se_int)) al_nil)).sa) (by decide +kernel)) (sss_cons (ss_if (st_not (st_val (z.call (F__law_isF G 4) (by omega) (by decide +kernel) (al_cons (z.call (F_board_number G) (by omega) (by decide +kernel) (al_cons (z.v (by decide +kernel)) (al_cons (z.v (by decide +kernel)) (al_cons (z.v (by decide +kernel)) al_nil)))) (al_cons (z.call (F_two_product G) (by omega) (by decide +kernel) (al_cons (z.ix (z.v (by decide +kernel)) se_int) (al_cons (z.ix (z.v (by decide +kernel)) se_int) al_nil))) al_nil))) (by rfl))) (sss_cons (ss_ret se_bl) sss_nil) sss_nil) sss_nil))))) (sss_cons (ss_ret se_bl) sss_nil)))
theorem F__law_boards_right (G : Gx K mg) : FnD P w K mg base 12 "_law_boards_right" 1 m__law_boards_right := G.d__law_boards_right.fn BLs GCs (k := 11) G.bl G.gc (S__law_boards_right G)
theorem S_law (G : Gx K mg) (X : Cx) (W : WX) (e1 : X.prog = P) (e2 : X.w = w) (e3 : X.K = K) (e4 : X.mg = mg) (e5 : X.base = base) (z : Cf BLs GCs X W N_law (defScope (top 65)) 12) : SSs X W (defBody (top 65)) b_law := by
  subst e1 e2 e3 e4 e5
  unfold b_law
  exact (sss_cons (z.set (z.call (F__law_hand G) (by omega) (by decide +kernel) (al_cons (z.v (by decide +kernel)) al_nil)) (by decide +kernel)) (sss_cons (z.for_ (pi_any (se_tup (al_cons se_str (al_cons se_str (al_cons se_str (al_cons se_str (al_cons se_str (al_cons se_str al_nil)))))).sa)) (z.tn (by decide +kernel)) (tgt_name _) (sss_cons (ss_if (st_not (st_val (z.call (F__law_rule_right G) (by omega) (by decide +kernel) (al_cons (z.v (by decide +kernel)) (al_cons (z.v (by decide +kernel)) al_nil))) (by rfl))) (sss_cons (ss_ret se_bl) sss_nil) sss_nil) sss_nil)) (sss_cons (ss_ret (se_and (z.call (F__law_heaps_right G) (by omega) (by decide +kernel) (al_cons (z.v (by decide +kernel)) al_nil)) (se_one (z.call (F__law_boards_right G) (by omega) (by decide +kernel) (al_cons (z.v (by decide +kernel)) al_nil))))) sss_nil)))
theorem F_law (G : Gx K mg) : FnD P w K mg base 13 "law" 1 m_law := G.d_law.fn BLs GCs (k := 12) G.bl G.gc (S_law G)
end
section
variable {K : PySem.W.Frag} {mg : Str → Option Value}
theorem sc_is_integer : FnScope N_is_integer ["thing"] (defScope (top 1)) := ⟨rfl, rfl, rfl, by decide +kernel, rfl, by decide +kernel, by decide +kernel⟩
theorem sc_is_within : FnScope N_is_within ["thing", "low", "high"] (defScope (top 2)) := ⟨rfl, rfl, rfl, by decide +kernel, rfl, by decide +kernel, by decide +kernel⟩
theorem sc_are_integers : FnScope N_are_integers ["thing"] (defScope (top 3)) := ⟨rfl, rfl, rfl, by decide +kernel, rfl, by decide +kernel, by decide +kernel⟩
theorem sc_are_counts : FnScope N_are_counts ["thing"] (defScope (top 4)) := ⟨rfl, rfl, rfl, by decide +kernel, rfl, by decide +kernel, by decide +kernel⟩
theorem sc_least_missing : FnScope N_least_missing ["some"] (defScope (top 5)) := ⟨rfl, rfl, rfl, by decide +kernel, rfl, by decide +kernel, by decide +kernel⟩
theorem sc_together : FnScope N_together ["some"] (defScope (top 6)) := ⟨rfl, rfl, rfl, by decide +kernel, rfl, by decide +kernel, by decide +kernel⟩
theorem sc_check_count : FnScope N_check_count ["number"] (defScope (top 16)) := ⟨rfl, rfl, rfl, by decide +kernel, rfl, by decide +kernel, by decide +kernel⟩
theorem sc_check_counts : FnScope N_check_counts ["numbers"] (defScope (top 17)) := ⟨rfl, rfl, rfl, by decide +kernel, rfl, by decide +kernel, by decide +kernel⟩
theorem sc_two_sum : FnScope N_two_sum ["numbers"] (defScope (top 18)) := ⟨rfl, rfl, rfl, by decide +kernel, rfl, by decide +kernel, by decide +kernel⟩
theorem sc_half_bits : FnScope N_half_bits ["number"] (defScope (top 19)) := ⟨rfl, rfl, rfl, by decide +kernel, rfl, by decide +kernel, by decide +kernel⟩
theorem sc_product_of : FnScope N_product_of ["one", "other"] (defScope (top 20)) := ⟨rfl, rfl, rfl, by decide +kernel, rfl, by decide +kernel, by decide +kernel⟩
theorem sc_two_product : FnScope N_two_product ["one", "other"] (defScope (top 21)) := ⟨rfl, rfl, rfl, by decide +kernel, rfl, by decide +kernel, by decide +kernel⟩
theorem sc_check_rule : FnScope N_check_rule ["rule"] (defScope (top 32)) := ⟨rfl, rfl, rfl, by decide +kernel, rfl, by decide +kernel, by decide +kernel⟩
theorem sc_turnings_of : FnScope N_turnings_of ["rule", "place"] (defScope (top 33)) := ⟨rfl, rfl, rfl, by decide +kernel, rfl, by decide +kernel, by decide +kernel⟩
theorem sc_numbers_of : FnScope N_numbers_of ["rule", "many"] (defScope (top 34)) := ⟨rfl, rfl, rfl, by decide +kernel, rfl, by decide +kernel, by decide +kernel⟩
theorem sc_place_numbers : FnScope N_place_numbers ["rule", "many"] (defScope (top 35)) := ⟨rfl, rfl, rfl, by decide +kernel, rfl, by decide +kernel, by decide +kernel⟩
theorem sc_is_row : FnScope N_is_row ["thing"] (defScope (top 36)) := ⟨rfl, rfl, rfl, by decide +kernel, rfl, by decide +kernel, by decide +kernel⟩
theorem sc_check_row : FnScope N_check_row ["row"] (defScope (top 37)) := ⟨rfl, rfl, rfl, by decide +kernel, rfl, by decide +kernel, by decide +kernel⟩
theorem sc_coins_number : FnScope N_coins_number ["rule", "row"] (defScope (top 38)) := ⟨rfl, rfl, rfl, by decide +kernel, rfl, by decide +kernel, by decide +kernel⟩
theorem sc_turned_row : FnScope N_turned_row ["row", "places"] (defScope (top 39)) := ⟨rfl, rfl, rfl, by decide +kernel, rfl, by decide +kernel, by decide +kernel⟩
theorem sc_rows_below : FnScope N_rows_below ["rule", "row"] (defScope (top 40)) := ⟨rfl, rfl, rfl, by decide +kernel, rfl, by decide +kernel, by decide +kernel⟩
theorem sc_winning_turn : FnScope N_winning_turn ["rule", "row"] (defScope (top 41)) := ⟨rfl, rfl, rfl, by decide +kernel, rfl, by decide +kernel, by decide +kernel⟩
theorem sc_is_winning_turn : FnScope N_is_winning_turn ["rule", "row", "thing"] (defScope (top 42)) := ⟨rfl, rfl, rfl, by decide +kernel, rfl, by decide +kernel, by decide +kernel⟩
theorem sc_check_place : FnScope N_check_place ["place"] (defScope (top 44)) := ⟨rfl, rfl, rfl, by decide +kernel, rfl, by decide +kernel, by decide +kernel⟩
theorem sc_board_number : FnScope N_board_number ["one", "other", "place"] (defScope (top 43)) := ⟨rfl, rfl, rfl, by decide +kernel, rfl, by decide +kernel, by decide +kernel⟩
theorem sc_bits_number : FnScope N_bits_number ["place"] (defScope (top 45)) := ⟨rfl, rfl, rfl, by decide +kernel, rfl, by decide +kernel, by decide +kernel⟩
theorem sc_ruler_number : FnScope N_ruler_number ["place"] (defScope (top 46)) := ⟨rfl, rfl, rfl, by decide +kernel, rfl, by decide +kernel, by decide +kernel⟩
theorem sc_are_heaps : FnScope N_are_heaps ["thing"] (defScope (top 50)) := ⟨rfl, rfl, rfl, by decide +kernel, rfl, by decide +kernel, by decide +kernel⟩
theorem sc_check_heaps : FnScope N_check_heaps ["heaps"] (defScope (top 51)) := ⟨rfl, rfl, rfl, by decide +kernel, rfl, by decide +kernel, by decide +kernel⟩
theorem sc_first_taking : FnScope N_first_taking ["heaps"] (defScope (top 52)) := ⟨rfl, rfl, rfl, by decide +kernel, rfl, by decide +kernel, by decide +kernel⟩
theorem sc__law_hand : FnScope N__law_hand ["script"] (defScope (top 54)) := ⟨rfl, rfl, rfl, by decide +kernel, rfl, by decide +kernel, by decide +kernel⟩
theorem sc__law_draw : FnScope N__law_draw ["hand", "many"] (defScope (top 55)) := ⟨rfl, rfl, rfl, by decide +kernel, rfl, by decide +kernel, by decide +kernel⟩
theorem sc__law_some : FnScope N__law_some ["hand", "things"] (defScope (top 56)) := ⟨rfl, rfl, rfl, by decide +kernel, rfl, by decide +kernel, by decide +kernel⟩
theorem sc__law_is : FnScope N__law_is ["said", "due"] (defScope (top 57)) := ⟨rfl, rfl, rfl, by decide +kernel, rfl, by decide +kernel, by decide +kernel⟩
theorem sc__law_ones : FnScope N__law_ones ["number"] (defScope (top 58)) := ⟨rfl, rfl, rfl, by decide +kernel, rfl, by decide +kernel, by decide +kernel⟩
theorem sc__law_known : FnScope N__law_known ["rule", "place"] (defScope (top 59)) := ⟨rfl, rfl, rfl, by decide +kernel, rfl, by decide +kernel, by decide +kernel⟩
theorem sc__law_row : FnScope N__law_row ["hand", "size"] (defScope (top 60)) := ⟨rfl, rfl, rfl, by decide +kernel, rfl, by decide +kernel, by decide +kernel⟩
theorem sc__law_turned : FnScope N__law_turned ["row", "places"] (defScope (top 61)) := ⟨rfl, rfl, rfl, by decide +kernel, rfl, by decide +kernel, by decide +kernel⟩
theorem sc__law_rule_right : FnScope N__law_rule_right ["hand", "rule"] (defScope (top 62)) := ⟨rfl, rfl, rfl, by decide +kernel, rfl, by decide +kernel, by decide +kernel⟩
theorem sc__law_heaps_right : FnScope N__law_heaps_right ["hand"] (defScope (top 63)) := ⟨rfl, rfl, rfl, by decide +kernel, rfl, by decide +kernel, by decide +kernel⟩
theorem sc__law_boards_right : FnScope N__law_boards_right ["hand"] (defScope (top 64)) := ⟨rfl, rfl, rfl, by decide +kernel, rfl, by decide +kernel, by decide +kernel⟩
theorem sc_law : FnScope N_law ["script"] (defScope (top 65)) := ⟨rfl, rfl, rfl, by decide +kernel, rfl, by decide +kernel, by decide +kernel⟩
theorem head {h : Heap} {fa : Addr} (X : K.In h) (G : h.Ns mainGlobals mg) (hfa : mg "law" = some (.ref fa))
    {f0 : Addr} {od0 an0 : Option Addr} {sl0 : Array (Option Value)} {oc0 kV0 dc0 pm0 cd0 ct0 : Value}
    {f1 : Addr} {od1 an1 : Option Addr} {sl1 : Array (Option Value)} {oc1 kV1 dc1 pm1 cd1 ct1 : Value}
    {f2 : Addr} {od2 an2 : Option Addr} {sl2 : Array (Option Value)} {oc2 kV2 dc2 pm2 cd2 ct2 : Value}
    {f3 : Addr} {od3 an3 : Option Addr} {sl3 : Array (Option Value)} {oc3 kV3 dc3 pm3 cd3 ct3 : Value}
    {f4 : Addr} {od4 an4 : Option Addr} {sl4 : Array (Option Value)} {oc4 kV4 dc4 pm4 cd4 ct4 : Value}
    {f5 : Addr} {od5 an5 : Option Addr} {sl5 : Array (Option Value)} {oc5 kV5 dc5 pm5 cd5 ct5 : Value}
    {f6 : Addr} {od6 an6 : Option Addr} {sl6 : Array (Option Value)} {oc6 kV6 dc6 pm6 cd6 ct6 : Value}
    {f7 : Addr} {od7 an7 : Option Addr} {sl7 : Array (Option Value)} {oc7 kV7 dc7 pm7 cd7 ct7 : Value}
    {f8 : Addr} {od8 an8 : Option Addr} {sl8 : Array (Option Value)} {oc8 kV8 dc8 pm8 cd8 ct8 : Value}
    {f9 : Addr} {od9 an9 : Option Addr} {sl9 : Array (Option Value)} {oc9 kV9 dc9 pm9 cd9 ct9 : Value}
    {f10 : Addr} {od10 an10 : Option Addr} {sl10 : Array (Option Value)} {oc10 kV10 dc10 pm10 cd10 ct10 : Value}
    {f11 : Addr} {od11 an11 : Option Addr} {sl11 : Array (Option Value)} {oc11 kV11 dc11 pm11 cd11 ct11 : Value}
    {f12 : Addr} {od12 an12 : Option Addr} {sl12 : Array (Option Value)} {oc12 kV12 dc12 pm12 cd12 ct12 : Value}
    {f13 : Addr} {od13 an13 : Option Addr} {sl13 : Array (Option Value)} {oc13 kV13 dc13 pm13 cd13 ct13 : Value}
    {f14 : Addr} {od14 an14 : Option Addr} {sl14 : Array (Option Value)} {oc14 kV14 dc14 pm14 cd14 ct14 : Value}
    {f15 : Addr} {od15 an15 : Option Addr} {sl15 : Array (Option Value)} {oc15 kV15 dc15 pm15 cd15 ct15 : Value}
    {f16 : Addr} {od16 an16 : Option Addr} {sl16 : Array (Option Value)} {oc16 kV16 dc16 pm16 cd16 ct16 : Value}
    {f17 : Addr} {od17 an17 : Option Addr} {sl17 : Array (Option Value)} {oc17 kV17 dc17 pm17 cd17 ct17 : Value}
    {f18 : Addr} {od18 an18 : Option Addr} {sl18 : Array (Option Value)} {oc18 kV18 dc18 pm18 cd18 ct18 : Value}
    {f19 : Addr} {od19 an19 : Option Addr} {sl19 : Array (Option Value)} {oc19 kV19 dc19 pm19 cd19 ct19 : Value}
    {f20 : Addr} {od20 an20 : Option Addr} {sl20 : Array (Option Value)} {oc20 kV20 dc20 pm20 cd20 ct20 : Value}
    {f21 : Addr} {od21 an21 : Option Addr} {sl21 : Array (Option Value)} {oc21 kV21 dc21 pm21 cd21 ct21 : Value}
    {f22 : Addr} {od22 an22 : Option Addr} {sl22 : Array (Option Value)} {oc22 kV22 dc22 pm22 cd22 ct22 : Value}
    {f23 : Addr} {od23 an23 : Option Addr} {sl23 : Array (Option Value)} {oc23 kV23 dc23 pm23 cd23 ct23 : Value}
    {f24 : Addr} {od24 an24 : Option Addr} {sl24 : Array (Option Value)} {oc24 kV24 dc24 pm24 cd24 ct24 : Value}
    {f25 : Addr} {od25 an25 : Option Addr} {sl25 : Array (Option Value)} {oc25 kV25 dc25 pm25 cd25 ct25 : Value}
    {f26 : Addr} {od26 an26 : Option Addr} {sl26 : Array (Option Value)} {oc26 kV26 dc26 pm26 cd26 ct26 : Value}
    {f27 : Addr} {od27 an27 : Option Addr} {sl27 : Array (Option Value)} {oc27 kV27 dc27 pm27 cd27 ct27 : Value}
    {f28 : Addr} {od28 an28 : Option Addr} {sl28 : Array (Option Value)} {oc28 kV28 dc28 pm28 cd28 ct28 : Value}
    {f29 : Addr} {od29 an29 : Option Addr} {sl29 : Array (Option Value)} {oc29 kV29 dc29 pm29 cd29 ct29 : Value}
    {f30 : Addr} {od30 an30 : Option Addr} {sl30 : Array (Option Value)} {oc30 kV30 dc30 pm30 cd30 ct30 : Value}
    {f31 : Addr} {od31 an31 : Option Addr} {sl31 : Array (Option Value)} {oc31 kV31 dc31 pm31 cd31 ct31 : Value}
    {f32 : Addr} {od32 an32 : Option Addr} {sl32 : Array (Option Value)} {oc32 kV32 dc32 pm32 cd32 ct32 : Value}
    {f33 : Addr} {od33 an33 : Option Addr} {sl33 : Array (Option Value)} {oc33 kV33 dc33 pm33 cd33 ct33 : Value}
    {f34 : Addr} {od34 an34 : Option Addr} {sl34 : Array (Option Value)} {oc34 kV34 dc34 pm34 cd34 ct34 : Value}
    {f35 : Addr} {od35 an35 : Option Addr} {sl35 : Array (Option Value)} {oc35 kV35 dc35 pm35 cd35 ct35 : Value}
    {f36 : Addr} {od36 an36 : Option Addr} {sl36 : Array (Option Value)} {oc36 kV36 dc36 pm36 cd36 ct36 : Value}
    {f37 : Addr} {od37 an37 : Option Addr} {sl37 : Array (Option Value)} {oc37 kV37 dc37 pm37 cd37 ct37 : Value}
    {f38 : Addr} {od38 an38 : Option Addr} {sl38 : Array (Option Value)} {oc38 kV38 dc38 pm38 cd38 ct38 : Value}
    {f39 : Addr} {od39 an39 : Option Addr} {sl39 : Array (Option Value)} {oc39 kV39 dc39 pm39 cd39 ct39 : Value}
    {f40 : Addr} {od40 an40 : Option Addr} {sl40 : Array (Option Value)} {oc40 kV40 dc40 pm40 cd40 ct40 : Value}
    {f41 : Addr} {od41 an41 : Option Addr} {sl41 : Array (Option Value)} {oc41 kV41 dc41 pm41 cd41 ct41 : Value}
    {g11t1 : Tok}
    {g10t1 : Tok}
    {g9t1 : Tok}
    {g9t2 : Tok}
    {g9t3 : Tok}
    {g9t4 : Tok}
    {g9t5 : Tok}
    {g9t6 : Tok}
    {g9 : Addr} {go9 : Option Addr} {gs9 : Array (Option Value)} {gn9 : Nat}
    {g8t1 : Tok}
    {g7t1 : Tok}
    {g6t1 : Tok}
    {g5t1 : Tok}
    {g4t1 : Tok}
    {g3t1 : Tok}
    {g2t1 : Tok}
    {g1t1 : Tok}
    {g0t1 : Tok}
    (a0 : PySem.W.nsIn K mainGlobals "is_integer" = some (some (.ref f0))) (l0 : K.lookup f0 = some ⟨oc0, od0, .func (PySem.W.fnOf "is_integer" "is_integer" (defArgs (top 1)) (defBody (top 1)) (defScope (top 1)) .none kV0 dc0 pm0 an0 cd0 ct0), sl0⟩) (c0 : PySem.W.codeIn K cd0 "is_integer" = true) (k0 : PySem.W.keepIn K (.ref f0) = true)
    (a1 : PySem.W.nsIn K mainGlobals "is_within" = some (some (.ref f1))) (l1 : K.lookup f1 = some ⟨oc1, od1, .func (PySem.W.fnOf "is_within" "is_within" (defArgs (top 2)) (defBody (top 2)) (defScope (top 2)) .none kV1 dc1 pm1 an1 cd1 ct1), sl1⟩) (c1 : PySem.W.codeIn K cd1 "is_within" = true) (k1 : PySem.W.keepIn K (.ref f1) = true)
    (a2 : PySem.W.nsIn K mainGlobals "are_integers" = some (some (.ref f2))) (l2 : K.lookup f2 = some ⟨oc2, od2, .func (PySem.W.fnOf "are_integers" "are_integers" (defArgs (top 3)) (defBody (top 3)) (defScope (top 3)) .none kV2 dc2 pm2 an2 cd2 ct2), sl2⟩) (c2 : PySem.W.codeIn K cd2 "are_integers" = true) (k2 : PySem.W.keepIn K (.ref f2) = true)
    (a3 : PySem.W.nsIn K mainGlobals "are_counts" = some (some (.ref f3))) (l3 : K.lookup f3 = some ⟨oc3, od3, .func (PySem.W.fnOf "are_counts" "are_counts" (defArgs (top 4)) (defBody (top 4)) (defScope (top 4)) .none kV3 dc3 pm3 an3 cd3 ct3), sl3⟩) (c3 : PySem.W.codeIn K cd3 "are_counts" = true) (k3 : PySem.W.keepIn K (.ref f3) = true)
    (a4 : PySem.W.nsIn K mainGlobals "least_missing" = some (some (.ref f4))) (l4 : K.lookup f4 = some ⟨oc4, od4, .func (PySem.W.fnOf "least_missing" "least_missing" (defArgs (top 5)) (defBody (top 5)) (defScope (top 5)) .none kV4 dc4 pm4 an4 cd4 ct4), sl4⟩) (c4 : PySem.W.codeIn K cd4 "least_missing" = true) (k4 : PySem.W.keepIn K (.ref f4) = true)
    (a5 : PySem.W.nsIn K mainGlobals "together" = some (some (.ref f5))) (l5 : K.lookup f5 = some ⟨oc5, od5, .func (PySem.W.fnOf "together" "together" (defArgs (top 6)) (defBody (top 6)) (defScope (top 6)) .none kV5 dc5 pm5 an5 cd5 ct5), sl5⟩) (c5 : PySem.W.codeIn K cd5 "together" = true) (k5 : PySem.W.keepIn K (.ref f5) = true)
    (a6 : PySem.W.nsIn K mainGlobals "check_count" = some (some (.ref f6))) (l6 : K.lookup f6 = some ⟨oc6, od6, .func (PySem.W.fnOf "check_count" "check_count" (defArgs (top 16)) (defBody (top 16)) (defScope (top 16)) .none kV6 dc6 pm6 an6 cd6 ct6), sl6⟩) (c6 : PySem.W.codeIn K cd6 "check_count" = true) (k6 : PySem.W.keepIn K (.ref f6) = true)
    (a7 : PySem.W.nsIn K mainGlobals "check_counts" = some (some (.ref f7))) (l7 : K.lookup f7 = some ⟨oc7, od7, .func (PySem.W.fnOf "check_counts" "check_counts" (defArgs (top 17)) (defBody (top 17)) (defScope (top 17)) .none kV7 dc7 pm7 an7 cd7 ct7), sl7⟩) (c7 : PySem.W.codeIn K cd7 "check_counts" = true) (k7 : PySem.W.keepIn K (.ref f7) = true)
    (a8 : PySem.W.nsIn K mainGlobals "two_sum" = some (some (.ref f8))) (l8 : K.lookup f8 = some ⟨oc8, od8, .func (PySem.W.fnOf "two_sum" "two_sum" (defArgs (top 18)) (defBody (top 18)) (defScope (top 18)) .none kV8 dc8 pm8 an8 cd8 ct8), sl8⟩) (c8 : PySem.W.codeIn K cd8 "two_sum" = true) (k8 : PySem.W.keepIn K (.ref f8) = true)
    (a9 : PySem.W.nsIn K mainGlobals "half_bits" = some (some (.ref f9))) (l9 : K.lookup f9 = some ⟨oc9, od9, .func (PySem.W.fnOf "half_bits" "half_bits" (defArgs (top 19)) (defBody (top 19)) (defScope (top 19)) .none kV9 dc9 pm9 an9 cd9 ct9), sl9⟩) (c9 : PySem.W.codeIn K cd9 "half_bits" = true) (k9 : PySem.W.keepIn K (.ref f9) = true)
    (a10 : PySem.W.nsIn K mainGlobals "product_of" = some (some (.ref f10))) (l10 : K.lookup f10 = some ⟨oc10, od10, .func (PySem.W.fnOf "product_of" "product_of" (defArgs (top 20)) (defBody (top 20)) (defScope (top 20)) .none kV10 dc10 pm10 an10 cd10 ct10), sl10⟩) (c10 : PySem.W.codeIn K cd10 "product_of" = true) (k10 : PySem.W.keepIn K (.ref f10) = true)
    (a11 : PySem.W.nsIn K mainGlobals "two_product" = some (some (.ref f11))) (l11 : K.lookup f11 = some ⟨oc11, od11, .func (PySem.W.fnOf "two_product" "two_product" (defArgs (top 21)) (defBody (top 21)) (defScope (top 21)) .none kV11 dc11 pm11 an11 cd11 ct11), sl11⟩) (c11 : PySem.W.codeIn K cd11 "two_product" = true) (k11 : PySem.W.keepIn K (.ref f11) = true)
    (a12 : PySem.W.nsIn K mainGlobals "check_rule" = some (some (.ref f12))) (l12 : K.lookup f12 = some ⟨oc12, od12, .func (PySem.W.fnOf "check_rule" "check_rule" (defArgs (top 32)) (defBody (top 32)) (defScope (top 32)) .none kV12 dc12 pm12 an12 cd12 ct12), sl12⟩) (c12 : PySem.W.codeIn K cd12 "check_rule" = true) (k12 : PySem.W.keepIn K (.ref f12) = true)
    (a13 : PySem.W.nsIn K mainGlobals "turnings_of" = some (some (.ref f13))) (l13 : K.lookup f13 = some ⟨oc13, od13, .func (PySem.W.fnOf "turnings_of" "turnings_of" (defArgs (top 33)) (defBody (top 33)) (defScope (top 33)) .none kV13 dc13 pm13 an13 cd13 ct13), sl13⟩) (c13 : PySem.W.codeIn K cd13 "turnings_of" = true) (k13 : PySem.W.keepIn K (.ref f13) = true)
    (a14 : PySem.W.nsIn K mainGlobals "numbers_of" = some (some (.ref f14))) (l14 : K.lookup f14 = some ⟨oc14, od14, .func (PySem.W.fnOf "numbers_of" "numbers_of" (defArgs (top 34)) (defBody (top 34)) (defScope (top 34)) .none kV14 dc14 pm14 an14 cd14 ct14), sl14⟩) (c14 : PySem.W.codeIn K cd14 "numbers_of" = true) (k14 : PySem.W.keepIn K (.ref f14) = true)
    (a15 : PySem.W.nsIn K mainGlobals "place_numbers" = some (some (.ref f15))) (l15 : K.lookup f15 = some ⟨oc15, od15, .func (PySem.W.fnOf "place_numbers" "place_numbers" (defArgs (top 35)) (defBody (top 35)) (defScope (top 35)) .none kV15 dc15 pm15 an15 cd15 ct15), sl15⟩) (c15 : PySem.W.codeIn K cd15 "place_numbers" = true) (k15 : PySem.W.keepIn K (.ref f15) = true)
    (a16 : PySem.W.nsIn K mainGlobals "is_row" = some (some (.ref f16))) (l16 : K.lookup f16 = some ⟨oc16, od16, .func (PySem.W.fnOf "is_row" "is_row" (defArgs (top 36)) (defBody (top 36)) (defScope (top 36)) .none kV16 dc16 pm16 an16 cd16 ct16), sl16⟩) (c16 : PySem.W.codeIn K cd16 "is_row" = true) (k16 : PySem.W.keepIn K (.ref f16) = true)
    (a17 : PySem.W.nsIn K mainGlobals "check_row" = some (some (.ref f17))) (l17 : K.lookup f17 = some ⟨oc17, od17, .func (PySem.W.fnOf "check_row" "check_row" (defArgs (top 37)) (defBody (top 37)) (defScope (top 37)) .none kV17 dc17 pm17 an17 cd17 ct17), sl17⟩) (c17 : PySem.W.codeIn K cd17 "check_row" = true) (k17 : PySem.W.keepIn K (.ref f17) = true)
    (a18 : PySem.W.nsIn K mainGlobals "coins_number" = some (some (.ref f18))) (l18 : K.lookup f18 = some ⟨oc18, od18, .func (PySem.W.fnOf "coins_number" "coins_number" (defArgs (top 38)) (defBody (top 38)) (defScope (top 38)) .none kV18 dc18 pm18 an18 cd18 ct18), sl18⟩) (c18 : PySem.W.codeIn K cd18 "coins_number" = true) (k18 : PySem.W.keepIn K (.ref f18) = true)
    (a19 : PySem.W.nsIn K mainGlobals "turned_row" = some (some (.ref f19))) (l19 : K.lookup f19 = some ⟨oc19, od19, .func (PySem.W.fnOf "turned_row" "turned_row" (defArgs (top 39)) (defBody (top 39)) (defScope (top 39)) .none kV19 dc19 pm19 an19 cd19 ct19), sl19⟩) (c19 : PySem.W.codeIn K cd19 "turned_row" = true) (k19 : PySem.W.keepIn K (.ref f19) = true)
    (a20 : PySem.W.nsIn K mainGlobals "rows_below" = some (some (.ref f20))) (l20 : K.lookup f20 = some ⟨oc20, od20, .func (PySem.W.fnOf "rows_below" "rows_below" (defArgs (top 40)) (defBody (top 40)) (defScope (top 40)) .none kV20 dc20 pm20 an20 cd20 ct20), sl20⟩) (c20 : PySem.W.codeIn K cd20 "rows_below" = true) (k20 : PySem.W.keepIn K (.ref f20) = true)
    (a21 : PySem.W.nsIn K mainGlobals "winning_turn" = some (some (.ref f21))) (l21 : K.lookup f21 = some ⟨oc21, od21, .func (PySem.W.fnOf "winning_turn" "winning_turn" (defArgs (top 41)) (defBody (top 41)) (defScope (top 41)) .none kV21 dc21 pm21 an21 cd21 ct21), sl21⟩) (c21 : PySem.W.codeIn K cd21 "winning_turn" = true) (k21 : PySem.W.keepIn K (.ref f21) = true)
    (a22 : PySem.W.nsIn K mainGlobals "is_winning_turn" = some (some (.ref f22))) (l22 : K.lookup f22 = some ⟨oc22, od22, .func (PySem.W.fnOf "is_winning_turn" "is_winning_turn" (defArgs (top 42)) (defBody (top 42)) (defScope (top 42)) .none kV22 dc22 pm22 an22 cd22 ct22), sl22⟩) (c22 : PySem.W.codeIn K cd22 "is_winning_turn" = true) (k22 : PySem.W.keepIn K (.ref f22) = true)
    (a23 : PySem.W.nsIn K mainGlobals "check_place" = some (some (.ref f23))) (l23 : K.lookup f23 = some ⟨oc23, od23, .func (PySem.W.fnOf "check_place" "check_place" (defArgs (top 44)) (defBody (top 44)) (defScope (top 44)) .none kV23 dc23 pm23 an23 cd23 ct23), sl23⟩) (c23 : PySem.W.codeIn K cd23 "check_place" = true) (k23 : PySem.W.keepIn K (.ref f23) = true)
    (a24 : PySem.W.nsIn K mainGlobals "board_number" = some (some (.ref f24))) (l24 : K.lookup f24 = some ⟨oc24, od24, .func (PySem.W.fnOf "board_number" "board_number" (defArgs (top 43)) (defBody (top 43)) (defScope (top 43)) .none kV24 dc24 pm24 an24 cd24 ct24), sl24⟩) (c24 : PySem.W.codeIn K cd24 "board_number" = true) (k24 : PySem.W.keepIn K (.ref f24) = true)
    (a25 : PySem.W.nsIn K mainGlobals "bits_number" = some (some (.ref f25))) (l25 : K.lookup f25 = some ⟨oc25, od25, .func (PySem.W.fnOf "bits_number" "bits_number" (defArgs (top 45)) (defBody (top 45)) (defScope (top 45)) .none kV25 dc25 pm25 an25 cd25 ct25), sl25⟩) (c25 : PySem.W.codeIn K cd25 "bits_number" = true) (k25 : PySem.W.keepIn K (.ref f25) = true)
    (a26 : PySem.W.nsIn K mainGlobals "ruler_number" = some (some (.ref f26))) (l26 : K.lookup f26 = some ⟨oc26, od26, .func (PySem.W.fnOf "ruler_number" "ruler_number" (defArgs (top 46)) (defBody (top 46)) (defScope (top 46)) .none kV26 dc26 pm26 an26 cd26 ct26), sl26⟩) (c26 : PySem.W.codeIn K cd26 "ruler_number" = true) (k26 : PySem.W.keepIn K (.ref f26) = true)
    (a27 : PySem.W.nsIn K mainGlobals "are_heaps" = some (some (.ref f27))) (l27 : K.lookup f27 = some ⟨oc27, od27, .func (PySem.W.fnOf "are_heaps" "are_heaps" (defArgs (top 50)) (defBody (top 50)) (defScope (top 50)) .none kV27 dc27 pm27 an27 cd27 ct27), sl27⟩) (c27 : PySem.W.codeIn K cd27 "are_heaps" = true) (k27 : PySem.W.keepIn K (.ref f27) = true)
    (a28 : PySem.W.nsIn K mainGlobals "check_heaps" = some (some (.ref f28))) (l28 : K.lookup f28 = some ⟨oc28, od28, .func (PySem.W.fnOf "check_heaps" "check_heaps" (defArgs (top 51)) (defBody (top 51)) (defScope (top 51)) .none kV28 dc28 pm28 an28 cd28 ct28), sl28⟩) (c28 : PySem.W.codeIn K cd28 "check_heaps" = true) (k28 : PySem.W.keepIn K (.ref f28) = true)
    (a29 : PySem.W.nsIn K mainGlobals "first_taking" = some (some (.ref f29))) (l29 : K.lookup f29 = some ⟨oc29, od29, .func (PySem.W.fnOf "first_taking" "first_taking" (defArgs (top 52)) (defBody (top 52)) (defScope (top 52)) .none kV29 dc29 pm29 an29 cd29 ct29), sl29⟩) (c29 : PySem.W.codeIn K cd29 "first_taking" = true) (k29 : PySem.W.keepIn K (.ref f29) = true)
    (a30 : PySem.W.nsIn K mainGlobals "_law_hand" = some (some (.ref f30))) (l30 : K.lookup f30 = some ⟨oc30, od30, .func (PySem.W.fnOf "_law_hand" "_law_hand" (defArgs (top 54)) (defBody (top 54)) (defScope (top 54)) .none kV30 dc30 pm30 an30 cd30 ct30), sl30⟩) (c30 : PySem.W.codeIn K cd30 "_law_hand" = true) (k30 : PySem.W.keepIn K (.ref f30) = true)
    (a31 : PySem.W.nsIn K mainGlobals "_law_draw" = some (some (.ref f31))) (l31 : K.lookup f31 = some ⟨oc31, od31, .func (PySem.W.fnOf "_law_draw" "_law_draw" (defArgs (top 55)) (defBody (top 55)) (defScope (top 55)) .none kV31 dc31 pm31 an31 cd31 ct31), sl31⟩) (c31 : PySem.W.codeIn K cd31 "_law_draw" = true) (k31 : PySem.W.keepIn K (.ref f31) = true)
    (a32 : PySem.W.nsIn K mainGlobals "_law_some" = some (some (.ref f32))) (l32 : K.lookup f32 = some ⟨oc32, od32, .func (PySem.W.fnOf "_law_some" "_law_some" (defArgs (top 56)) (defBody (top 56)) (defScope (top 56)) .none kV32 dc32 pm32 an32 cd32 ct32), sl32⟩) (c32 : PySem.W.codeIn K cd32 "_law_some" = true) (k32 : PySem.W.keepIn K (.ref f32) = true)
    (a33 : PySem.W.nsIn K mainGlobals "_law_is" = some (some (.ref f33))) (l33 : K.lookup f33 = some ⟨oc33, od33, .func (PySem.W.fnOf "_law_is" "_law_is" (defArgs (top 57)) (defBody (top 57)) (defScope (top 57)) .none kV33 dc33 pm33 an33 cd33 ct33), sl33⟩) (c33 : PySem.W.codeIn K cd33 "_law_is" = true) (k33 : PySem.W.keepIn K (.ref f33) = true)
    (a34 : PySem.W.nsIn K mainGlobals "_law_ones" = some (some (.ref f34))) (l34 : K.lookup f34 = some ⟨oc34, od34, .func (PySem.W.fnOf "_law_ones" "_law_ones" (defArgs (top 58)) (defBody (top 58)) (defScope (top 58)) .none kV34 dc34 pm34 an34 cd34 ct34), sl34⟩) (c34 : PySem.W.codeIn K cd34 "_law_ones" = true) (k34 : PySem.W.keepIn K (.ref f34) = true)
    (a35 : PySem.W.nsIn K mainGlobals "_law_known" = some (some (.ref f35))) (l35 : K.lookup f35 = some ⟨oc35, od35, .func (PySem.W.fnOf "_law_known" "_law_known" (defArgs (top 59)) (defBody (top 59)) (defScope (top 59)) .none kV35 dc35 pm35 an35 cd35 ct35), sl35⟩) (c35 : PySem.W.codeIn K cd35 "_law_known" = true) (k35 : PySem.W.keepIn K (.ref f35) = true)
    (a36 : PySem.W.nsIn K mainGlobals "_law_row" = some (some (.ref f36))) (l36 : K.lookup f36 = some ⟨oc36, od36, .func (PySem.W.fnOf "_law_row" "_law_row" (defArgs (top 60)) (defBody (top 60)) (defScope (top 60)) .none kV36 dc36 pm36 an36 cd36 ct36), sl36⟩) (c36 : PySem.W.codeIn K cd36 "_law_row" = true) (k36 : PySem.W.keepIn K (.ref f36) = true)
    (a37 : PySem.W.nsIn K mainGlobals "_law_turned" = some (some (.ref f37))) (l37 : K.lookup f37 = some ⟨oc37, od37, .func (PySem.W.fnOf "_law_turned" "_law_turned" (defArgs (top 61)) (defBody (top 61)) (defScope (top 61)) .none kV37 dc37 pm37 an37 cd37 ct37), sl37⟩) (c37 : PySem.W.codeIn K cd37 "_law_turned" = true) (k37 : PySem.W.keepIn K (.ref f37) = true)
    (a38 : PySem.W.nsIn K mainGlobals "_law_rule_right" = some (some (.ref f38))) (l38 : K.lookup f38 = some ⟨oc38, od38, .func (PySem.W.fnOf "_law_rule_right" "_law_rule_right" (defArgs (top 62)) (defBody (top 62)) (defScope (top 62)) .none kV38 dc38 pm38 an38 cd38 ct38), sl38⟩) (c38 : PySem.W.codeIn K cd38 "_law_rule_right" = true) (k38 : PySem.W.keepIn K (.ref f38) = true)
    (a39 : PySem.W.nsIn K mainGlobals "_law_heaps_right" = some (some (.ref f39))) (l39 : K.lookup f39 = some ⟨oc39, od39, .func (PySem.W.fnOf "_law_heaps_right" "_law_heaps_right" (defArgs (top 63)) (defBody (top 63)) (defScope (top 63)) .none kV39 dc39 pm39 an39 cd39 ct39), sl39⟩) (c39 : PySem.W.codeIn K cd39 "_law_heaps_right" = true) (k39 : PySem.W.keepIn K (.ref f39) = true)
    (a40 : PySem.W.nsIn K mainGlobals "_law_boards_right" = some (some (.ref f40))) (l40 : K.lookup f40 = some ⟨oc40, od40, .func (PySem.W.fnOf "_law_boards_right" "_law_boards_right" (defArgs (top 64)) (defBody (top 64)) (defScope (top 64)) .none kV40 dc40 pm40 an40 cd40 ct40), sl40⟩) (c40 : PySem.W.codeIn K cd40 "_law_boards_right" = true) (k40 : PySem.W.keepIn K (.ref f40) = true)
    (a41 : PySem.W.nsIn K mainGlobals "law" = some (some (.ref f41))) (l41 : K.lookup f41 = some ⟨oc41, od41, .func (PySem.W.fnOf "law" "law" (defArgs (top 65)) (defBody (top 65)) (defScope (top 65)) .none kV41 dc41 pm41 an41 cd41 ct41), sl41⟩) (c41 : PySem.W.codeIn K cd41 "law" = true) (k41 : PySem.W.keepIn K (.ref f41) = true)
    (z0 : PySem.W.nsIn K mainGlobals "abs" = some none)
    (z1 : PySem.W.nsIn K mainGlobals "all" = some none)
    (z2 : PySem.W.nsIn K mainGlobals "bool" = some none)
    (z3 : PySem.W.nsIn K mainGlobals "enumerate" = some none)
    (z4 : PySem.W.nsIn K mainGlobals "int" = some none)
    (z5 : PySem.W.nsIn K mainGlobals "isinstance" = some none)
    (z6 : PySem.W.nsIn K mainGlobals "len" = some none)
    (z7 : PySem.W.nsIn K mainGlobals "list" = some none)
    (z8 : PySem.W.nsIn K mainGlobals "max" = some none)
    (z9 : PySem.W.nsIn K mainGlobals "range" = some none)
    (z10 : PySem.W.nsIn K mainGlobals "sorted" = some none)
    (z11 : PySem.W.nsIn K mainGlobals "str" = some none)
    (z12 : PySem.W.nsIn K mainGlobals "tuple" = some none)
    (z13 : PySem.W.nsIn K mainGlobals "zip" = some none)
    (g11a : PySem.W.nsIn K mainGlobals "MOST_SIZE_heaps" = some (some (.int 1152921504606846976 g11t1)))
    (g10a : PySem.W.nsIn K mainGlobals "MOST_HEAPS" = some (some (.int 60 g10t1)))
    (g9a : PySem.W.nsIn K mainGlobals "RULES" = some (some (.ref g9))) (g9l : K.lookup g9 = some ⟨.type "tuple", go9, .seq #[.str "one" g9t1, .str "two" g9t2, .str "three" g9t3, .str "twins" g9t4, .str "ruler" g9t5, .str "doubles" g9t6] gn9, gs9⟩)
    (g8a : PySem.W.nsIn K mainGlobals "DOUBLES" = some (some (.str "doubles" g8t1)))
    (g7a : PySem.W.nsIn K mainGlobals "RULER" = some (some (.str "ruler" g7t1)))
    (g6a : PySem.W.nsIn K mainGlobals "TWINS" = some (some (.str "twins" g6t1)))
    (g5a : PySem.W.nsIn K mainGlobals "THREE" = some (some (.str "three" g5t1)))
    (g4a : PySem.W.nsIn K mainGlobals "TWO" = some (some (.str "two" g4t1)))
    (g3a : PySem.W.nsIn K mainGlobals "ONE" = some (some (.str "one" g3t1)))
    (g2a : PySem.W.nsIn K mainGlobals "MOST_BOARD" = some (some (.int 16 g2t1)))
    (g1a : PySem.W.nsIn K mainGlobals "MOST_ROW" = some (some (.int 64 g1t1)))
    (g0a : PySem.W.nsIn K mainGlobals "MOST_SIZE_twos" = some (some (.int 18446744073709551616 g0t1)))
    : Gx K mg ∧ ∃ fd : FuncData, L2.Fun K "law" "law" (top 65) fa fd ∧ (∀ (s : Shared) (v : Value), BindsTo s fd ⟨[v], []⟩ [("script", v)]) := by
  have e := hfa.symm.trans (PySem.W.mg_of X G a41)
  cases e
  refine ⟨{
    d_is_integer := def_mk X G a0 l0 c0 k0 sc_is_integer fun _ _ _ _ _ _ us hl => match us, hl with | [_], _ => rfl
    d_is_within := def_mk X G a1 l1 c1 k1 sc_is_within fun _ _ _ _ _ _ us hl => match us, hl with | [_, _, _], _ => rfl
    d_are_integers := def_mk X G a2 l2 c2 k2 sc_are_integers fun _ _ _ _ _ _ us hl => match us, hl with | [_], _ => rfl
    d_are_counts := def_mk X G a3 l3 c3 k3 sc_are_counts fun _ _ _ _ _ _ us hl => match us, hl with | [_], _ => rfl
    d_least_missing := def_mk X G a4 l4 c4 k4 sc_least_missing fun _ _ _ _ _ _ us hl => match us, hl with | [_], _ => rfl
    d_together := def_mk X G a5 l5 c5 k5 sc_together fun _ _ _ _ _ _ us hl => match us, hl with | [_], _ => rfl
    d_check_count := def_mk X G a6 l6 c6 k6 sc_check_count fun _ _ _ _ _ _ us hl => match us, hl with | [_], _ => rfl
    d_check_counts := def_mk X G a7 l7 c7 k7 sc_check_counts fun _ _ _ _ _ _ us hl => match us, hl with | [_], _ => rfl
    d_two_sum := def_mk X G a8 l8 c8 k8 sc_two_sum fun _ _ _ _ _ _ us hl => match us, hl with | [_], _ => rfl
    d_half_bits := def_mk X G a9 l9 c9 k9 sc_half_bits fun _ _ _ _ _ _ us hl => match us, hl with | [_], _ => rfl
    d_product_of := def_mk X G a10 l10 c10 k10 sc_product_of fun _ _ _ _ _ _ us hl => match us, hl with | [_, _], _ => rfl
    d_two_product := def_mk X G a11 l11 c11 k11 sc_two_product fun _ _ _ _ _ _ us hl => match us, hl with | [_, _], _ => rfl
    d_check_rule := def_mk X G a12 l12 c12 k12 sc_check_rule fun _ _ _ _ _ _ us hl => match us, hl with | [_], _ => rfl
    d_turnings_of := def_mk X G a13 l13 c13 k13 sc_turnings_of fun _ _ _ _ _ _ us hl => match us, hl with | [_, _], _ => rfl
    d_numbers_of := def_mk X G a14 l14 c14 k14 sc_numbers_of fun _ _ _ _ _ _ us hl => match us, hl with | [_, _], _ => rfl
    d_place_numbers := def_mk X G a15 l15 c15 k15 sc_place_numbers fun _ _ _ _ _ _ us hl => match us, hl with | [_, _], _ => rfl
    d_is_row := def_mk X G a16 l16 c16 k16 sc_is_row fun _ _ _ _ _ _ us hl => match us, hl with | [_], _ => rfl
    d_check_row := def_mk X G a17 l17 c17 k17 sc_check_row fun _ _ _ _ _ _ us hl => match us, hl with | [_], _ => rfl
    d_coins_number := def_mk X G a18 l18 c18 k18 sc_coins_number fun _ _ _ _ _ _ us hl => match us, hl with | [_, _], _ => rfl
    d_turned_row := def_mk X G a19 l19 c19 k19 sc_turned_row fun _ _ _ _ _ _ us hl => match us, hl with | [_, _], _ => rfl
    d_rows_below := def_mk X G a20 l20 c20 k20 sc_rows_below fun _ _ _ _ _ _ us hl => match us, hl with | [_, _], _ => rfl
    d_winning_turn := def_mk X G a21 l21 c21 k21 sc_winning_turn fun _ _ _ _ _ _ us hl => match us, hl with | [_, _], _ => rfl
    d_is_winning_turn := def_mk X G a22 l22 c22 k22 sc_is_winning_turn fun _ _ _ _ _ _ us hl => match us, hl with | [_, _, _], _ => rfl
    d_check_place := def_mk X G a23 l23 c23 k23 sc_check_place fun _ _ _ _ _ _ us hl => match us, hl with | [_], _ => rfl
    d_board_number := def_mk X G a24 l24 c24 k24 sc_board_number fun _ _ _ _ _ _ us hl => match us, hl with | [_, _, _], _ => rfl
    d_bits_number := def_mk X G a25 l25 c25 k25 sc_bits_number fun _ _ _ _ _ _ us hl => match us, hl with | [_], _ => rfl
    d_ruler_number := def_mk X G a26 l26 c26 k26 sc_ruler_number fun _ _ _ _ _ _ us hl => match us, hl with | [_], _ => rfl
    d_are_heaps := def_mk X G a27 l27 c27 k27 sc_are_heaps fun _ _ _ _ _ _ us hl => match us, hl with | [_], _ => rfl
    d_check_heaps := def_mk X G a28 l28 c28 k28 sc_check_heaps fun _ _ _ _ _ _ us hl => match us, hl with | [_], _ => rfl
    d_first_taking := def_mk X G a29 l29 c29 k29 sc_first_taking fun _ _ _ _ _ _ us hl => match us, hl with | [_], _ => rfl
    d__law_hand := def_mk X G a30 l30 c30 k30 sc__law_hand fun _ _ _ _ _ _ us hl => match us, hl with | [_], _ => rfl
    d__law_draw := def_mk X G a31 l31 c31 k31 sc__law_draw fun _ _ _ _ _ _ us hl => match us, hl with | [_, _], _ => rfl
    d__law_some := def_mk X G a32 l32 c32 k32 sc__law_some fun _ _ _ _ _ _ us hl => match us, hl with | [_, _], _ => rfl
    d__law_is := def_mk X G a33 l33 c33 k33 sc__law_is fun _ _ _ _ _ _ us hl => match us, hl with | [_, _], _ => rfl
    d__law_ones := def_mk X G a34 l34 c34 k34 sc__law_ones fun _ _ _ _ _ _ us hl => match us, hl with | [_], _ => rfl
    d__law_known := def_mk X G a35 l35 c35 k35 sc__law_known fun _ _ _ _ _ _ us hl => match us, hl with | [_, _], _ => rfl
    d__law_row := def_mk X G a36 l36 c36 k36 sc__law_row fun _ _ _ _ _ _ us hl => match us, hl with | [_, _], _ => rfl
    d__law_turned := def_mk X G a37 l37 c37 k37 sc__law_turned fun _ _ _ _ _ _ us hl => match us, hl with | [_, _], _ => rfl
    d__law_rule_right := def_mk X G a38 l38 c38 k38 sc__law_rule_right fun _ _ _ _ _ _ us hl => match us, hl with | [_, _], _ => rfl
    d__law_heaps_right := def_mk X G a39 l39 c39 k39 sc__law_heaps_right fun _ _ _ _ _ _ us hl => match us, hl with | [_], _ => rfl
    d__law_boards_right := def_mk X G a40 l40 c40 k40 sc__law_boards_right fun _ _ _ _ _ _ us hl => match us, hl with | [_], _ => rfl
    d_law := def_mk X G a41 l41 c41 k41 sc_law fun _ _ _ _ _ _ us hl => match us, hl with | [_], _ => rfl
    bl := (bl_cons (PySem.W.mg_none_of X G z0) (bl_cons (PySem.W.mg_none_of X G z1) (bl_cons (PySem.W.mg_none_of X G z2) (bl_cons (PySem.W.mg_none_of X G z3) (bl_cons (PySem.W.mg_none_of X G z4) (bl_cons (PySem.W.mg_none_of X G z5) (bl_cons (PySem.W.mg_none_of X G z6) (bl_cons (PySem.W.mg_none_of X G z7) (bl_cons (PySem.W.mg_none_of X G z8) (bl_cons (PySem.W.mg_none_of X G z9) (bl_cons (PySem.W.mg_none_of X G z10) (bl_cons (PySem.W.mg_none_of X G z11) (bl_cons (PySem.W.mg_none_of X G z12) (bl_cons (PySem.W.mg_none_of X G z13) bl_nil))))))))))))))
    gc := (gc_cons (gc_int (PySem.W.mg_of X G g0a)) (gc_cons (gc_int (PySem.W.mg_of X G g1a)) (gc_cons (gc_int (PySem.W.mg_of X G g2a)) (gc_cons (gc_str (PySem.W.mg_of X G g3a)) (gc_cons (gc_str (PySem.W.mg_of X G g4a)) (gc_cons (gc_str (PySem.W.mg_of X G g5a)) (gc_cons (gc_str (PySem.W.mg_of X G g6a)) (gc_cons (gc_str (PySem.W.mg_of X G g7a)) (gc_cons (gc_str (PySem.W.mg_of X G g8a)) (gc_cons (gc_tup (vs := [.str "one", .str "two", .str "three", .str "twins", .str "ruler", .str "doubles"]) (PySem.W.mg_of X G g9a) g9l (by show 6 ≤ sizeLine; decide) (.cons ⟨_, rfl⟩ (.cons ⟨_, rfl⟩ (.cons ⟨_, rfl⟩ (.cons ⟨_, rfl⟩ (.cons ⟨_, rfl⟩ (.cons ⟨_, rfl⟩ .nil)))))) fun _ _ => (.cons (by simp only [RD]) (.cons (by simp only [RD]) (.cons (by simp only [RD]) (.cons (by simp only [RD]) (.cons (by simp only [RD]) (.cons (by simp only [RD]) .nil))))))) (gc_cons (gc_int (PySem.W.mg_of X G g10a)) (gc_cons (gc_int (PySem.W.mg_of X G g11a)) gc_nil)))))))))))) }, _, fun_mk (st := top 65) l41 c41 k41, fun s v => .of_eq rfl⟩
theorem fin {P : Program} {wd : World} {h : Heap} {fa : Addr} (H1 : ∀ ns : List Int, ns.length ≤ 63 → Holds1 m_law [.ref 0] [.frz (intsD ns)]) (H2 : ∀ ns : List Int, ns.length ≤ 63 → Holds1 m_law [.kl (intsD ns)] []) (X : K.In h) (G : h.Ns mainGlobals mg) (hfa : mg "law" = some (.ref fa))
    {f0 : Addr} {od0 an0 : Option Addr} {sl0 : Array (Option Value)} {oc0 kV0 dc0 pm0 cd0 ct0 : Value}
    {f1 : Addr} {od1 an1 : Option Addr} {sl1 : Array (Option Value)} {oc1 kV1 dc1 pm1 cd1 ct1 : Value}
    {f2 : Addr} {od2 an2 : Option Addr} {sl2 : Array (Option Value)} {oc2 kV2 dc2 pm2 cd2 ct2 : Value}
    {f3 : Addr} {od3 an3 : Option Addr} {sl3 : Array (Option Value)} {oc3 kV3 dc3 pm3 cd3 ct3 : Value}
    {f4 : Addr} {od4 an4 : Option Addr} {sl4 : Array (Option Value)} {oc4 kV4 dc4 pm4 cd4 ct4 : Value}
    {f5 : Addr} {od5 an5 : Option Addr} {sl5 : Array (Option Value)} {oc5 kV5 dc5 pm5 cd5 ct5 : Value}
    {f6 : Addr} {od6 an6 : Option Addr} {sl6 : Array (Option Value)} {oc6 kV6 dc6 pm6 cd6 ct6 : Value}
    {f7 : Addr} {od7 an7 : Option Addr} {sl7 : Array (Option Value)} {oc7 kV7 dc7 pm7 cd7 ct7 : Value}
    {f8 : Addr} {od8 an8 : Option Addr} {sl8 : Array (Option Value)} {oc8 kV8 dc8 pm8 cd8 ct8 : Value}
    {f9 : Addr} {od9 an9 : Option Addr} {sl9 : Array (Option Value)} {oc9 kV9 dc9 pm9 cd9 ct9 : Value}
    {f10 : Addr} {od10 an10 : Option Addr} {sl10 : Array (Option Value)} {oc10 kV10 dc10 pm10 cd10 ct10 : Value}
    {f11 : Addr} {od11 an11 : Option Addr} {sl11 : Array (Option Value)} {oc11 kV11 dc11 pm11 cd11 ct11 : Value}
    {f12 : Addr} {od12 an12 : Option Addr} {sl12 : Array (Option Value)} {oc12 kV12 dc12 pm12 cd12 ct12 : Value}
    {f13 : Addr} {od13 an13 : Option Addr} {sl13 : Array (Option Value)} {oc13 kV13 dc13 pm13 cd13 ct13 : Value}
    {f14 : Addr} {od14 an14 : Option Addr} {sl14 : Array (Option Value)} {oc14 kV14 dc14 pm14 cd14 ct14 : Value}
    {f15 : Addr} {od15 an15 : Option Addr} {sl15 : Array (Option Value)} {oc15 kV15 dc15 pm15 cd15 ct15 : Value}
    {f16 : Addr} {od16 an16 : Option Addr} {sl16 : Array (Option Value)} {oc16 kV16 dc16 pm16 cd16 ct16 : Value}
    {f17 : Addr} {od17 an17 : Option Addr} {sl17 : Array (Option Value)} {oc17 kV17 dc17 pm17 cd17 ct17 : Value}
    {f18 : Addr} {od18 an18 : Option Addr} {sl18 : Array (Option Value)} {oc18 kV18 dc18 pm18 cd18 ct18 : Value}
    {f19 : Addr} {od19 an19 : Option Addr} {sl19 : Array (Option Value)} {oc19 kV19 dc19 pm19 cd19 ct19 : Value}
    {f20 : Addr} {od20 an20 : Option Addr} {sl20 : Array (Option Value)} {oc20 kV20 dc20 pm20 cd20 ct20 : Value}
    {f21 : Addr} {od21 an21 : Option Addr} {sl21 : Array (Option Value)} {oc21 kV21 dc21 pm21 cd21 ct21 : Value}
    {f22 : Addr} {od22 an22 : Option Addr} {sl22 : Array (Option Value)} {oc22 kV22 dc22 pm22 cd22 ct22 : Value}
    {f23 : Addr} {od23 an23 : Option Addr} {sl23 : Array (Option Value)} {oc23 kV23 dc23 pm23 cd23 ct23 : Value}
    {f24 : Addr} {od24 an24 : Option Addr} {sl24 : Array (Option Value)} {oc24 kV24 dc24 pm24 cd24 ct24 : Value}
    {f25 : Addr} {od25 an25 : Option Addr} {sl25 : Array (Option Value)} {oc25 kV25 dc25 pm25 cd25 ct25 : Value}
    {f26 : Addr} {od26 an26 : Option Addr} {sl26 : Array (Option Value)} {oc26 kV26 dc26 pm26 cd26 ct26 : Value}
    {f27 : Addr} {od27 an27 : Option Addr} {sl27 : Array (Option Value)} {oc27 kV27 dc27 pm27 cd27 ct27 : Value}
    {f28 : Addr} {od28 an28 : Option Addr} {sl28 : Array (Option Value)} {oc28 kV28 dc28 pm28 cd28 ct28 : Value}
    {f29 : Addr} {od29 an29 : Option Addr} {sl29 : Array (Option Value)} {oc29 kV29 dc29 pm29 cd29 ct29 : Value}
    {f30 : Addr} {od30 an30 : Option Addr} {sl30 : Array (Option Value)} {oc30 kV30 dc30 pm30 cd30 ct30 : Value}
    {f31 : Addr} {od31 an31 : Option Addr} {sl31 : Array (Option Value)} {oc31 kV31 dc31 pm31 cd31 ct31 : Value}
    {f32 : Addr} {od32 an32 : Option Addr} {sl32 : Array (Option Value)} {oc32 kV32 dc32 pm32 cd32 ct32 : Value}
    {f33 : Addr} {od33 an33 : Option Addr} {sl33 : Array (Option Value)} {oc33 kV33 dc33 pm33 cd33 ct33 : Value}
    {f34 : Addr} {od34 an34 : Option Addr} {sl34 : Array (Option Value)} {oc34 kV34 dc34 pm34 cd34 ct34 : Value}
    {f35 : Addr} {od35 an35 : Option Addr} {sl35 : Array (Option Value)} {oc35 kV35 dc35 pm35 cd35 ct35 : Value}
    {f36 : Addr} {od36 an36 : Option Addr} {sl36 : Array (Option Value)} {oc36 kV36 dc36 pm36 cd36 ct36 : Value}
    {f37 : Addr} {od37 an37 : Option Addr} {sl37 : Array (Option Value)} {oc37 kV37 dc37 pm37 cd37 ct37 : Value}
    {f38 : Addr} {od38 an38 : Option Addr} {sl38 : Array (Option Value)} {oc38 kV38 dc38 pm38 cd38 ct38 : Value}
    {f39 : Addr} {od39 an39 : Option Addr} {sl39 : Array (Option Value)} {oc39 kV39 dc39 pm39 cd39 ct39 : Value}
    {f40 : Addr} {od40 an40 : Option Addr} {sl40 : Array (Option Value)} {oc40 kV40 dc40 pm40 cd40 ct40 : Value}
    {f41 : Addr} {od41 an41 : Option Addr} {sl41 : Array (Option Value)} {oc41 kV41 dc41 pm41 cd41 ct41 : Value}
    {g11t1 : Tok}
    {g10t1 : Tok}
    {g9t1 : Tok}
    {g9t2 : Tok}
    {g9t3 : Tok}
    {g9t4 : Tok}
    {g9t5 : Tok}
    {g9t6 : Tok}
    {g9 : Addr} {go9 : Option Addr} {gs9 : Array (Option Value)} {gn9 : Nat}
    {g8t1 : Tok}
    {g7t1 : Tok}
    {g6t1 : Tok}
    {g5t1 : Tok}
    {g4t1 : Tok}
    {g3t1 : Tok}
    {g2t1 : Tok}
    {g1t1 : Tok}
    {g0t1 : Tok}
    (a0 : PySem.W.nsIn K mainGlobals "is_integer" = some (some (.ref f0))) (l0 : K.lookup f0 = some ⟨oc0, od0, .func (PySem.W.fnOf "is_integer" "is_integer" (defArgs (top 1)) (defBody (top 1)) (defScope (top 1)) .none kV0 dc0 pm0 an0 cd0 ct0), sl0⟩) (c0 : PySem.W.codeIn K cd0 "is_integer" = true) (k0 : PySem.W.keepIn K (.ref f0) = true)
    (a1 : PySem.W.nsIn K mainGlobals "is_within" = some (some (.ref f1))) (l1 : K.lookup f1 = some ⟨oc1, od1, .func (PySem.W.fnOf "is_within" "is_within" (defArgs (top 2)) (defBody (top 2)) (defScope (top 2)) .none kV1 dc1 pm1 an1 cd1 ct1), sl1⟩) (c1 : PySem.W.codeIn K cd1 "is_within" = true) (k1 : PySem.W.keepIn K (.ref f1) = true)
    (a2 : PySem.W.nsIn K mainGlobals "are_integers" = some (some (.ref f2))) (l2 : K.lookup f2 = some ⟨oc2, od2, .func (PySem.W.fnOf "are_integers" "are_integers" (defArgs (top 3)) (defBody (top 3)) (defScope (top 3)) .none kV2 dc2 pm2 an2 cd2 ct2), sl2⟩) (c2 : PySem.W.codeIn K cd2 "are_integers" = true) (k2 : PySem.W.keepIn K (.ref f2) = true)
    (a3 : PySem.W.nsIn K mainGlobals "are_counts" = some (some (.ref f3))) (l3 : K.lookup f3 = some ⟨oc3, od3, .func (PySem.W.fnOf "are_counts" "are_counts" (defArgs (top 4)) (defBody (top 4)) (defScope (top 4)) .none kV3 dc3 pm3 an3 cd3 ct3), sl3⟩) (c3 : PySem.W.codeIn K cd3 "are_counts" = true) (k3 : PySem.W.keepIn K (.ref f3) = true)
    (a4 : PySem.W.nsIn K mainGlobals "least_missing" = some (some (.ref f4))) (l4 : K.lookup f4 = some ⟨oc4, od4, .func (PySem.W.fnOf "least_missing" "least_missing" (defArgs (top 5)) (defBody (top 5)) (defScope (top 5)) .none kV4 dc4 pm4 an4 cd4 ct4), sl4⟩) (c4 : PySem.W.codeIn K cd4 "least_missing" = true) (k4 : PySem.W.keepIn K (.ref f4) = true)
    (a5 : PySem.W.nsIn K mainGlobals "together" = some (some (.ref f5))) (l5 : K.lookup f5 = some ⟨oc5, od5, .func (PySem.W.fnOf "together" "together" (defArgs (top 6)) (defBody (top 6)) (defScope (top 6)) .none kV5 dc5 pm5 an5 cd5 ct5), sl5⟩) (c5 : PySem.W.codeIn K cd5 "together" = true) (k5 : PySem.W.keepIn K (.ref f5) = true)
    (a6 : PySem.W.nsIn K mainGlobals "check_count" = some (some (.ref f6))) (l6 : K.lookup f6 = some ⟨oc6, od6, .func (PySem.W.fnOf "check_count" "check_count" (defArgs (top 16)) (defBody (top 16)) (defScope (top 16)) .none kV6 dc6 pm6 an6 cd6 ct6), sl6⟩) (c6 : PySem.W.codeIn K cd6 "check_count" = true) (k6 : PySem.W.keepIn K (.ref f6) = true)
    (a7 : PySem.W.nsIn K mainGlobals "check_counts" = some (some (.ref f7))) (l7 : K.lookup f7 = some ⟨oc7, od7, .func (PySem.W.fnOf "check_counts" "check_counts" (defArgs (top 17)) (defBody (top 17)) (defScope (top 17)) .none kV7 dc7 pm7 an7 cd7 ct7), sl7⟩) (c7 : PySem.W.codeIn K cd7 "check_counts" = true) (k7 : PySem.W.keepIn K (.ref f7) = true)
    (a8 : PySem.W.nsIn K mainGlobals "two_sum" = some (some (.ref f8))) (l8 : K.lookup f8 = some ⟨oc8, od8, .func (PySem.W.fnOf "two_sum" "two_sum" (defArgs (top 18)) (defBody (top 18)) (defScope (top 18)) .none kV8 dc8 pm8 an8 cd8 ct8), sl8⟩) (c8 : PySem.W.codeIn K cd8 "two_sum" = true) (k8 : PySem.W.keepIn K (.ref f8) = true)
    (a9 : PySem.W.nsIn K mainGlobals "half_bits" = some (some (.ref f9))) (l9 : K.lookup f9 = some ⟨oc9, od9, .func (PySem.W.fnOf "half_bits" "half_bits" (defArgs (top 19)) (defBody (top 19)) (defScope (top 19)) .none kV9 dc9 pm9 an9 cd9 ct9), sl9⟩) (c9 : PySem.W.codeIn K cd9 "half_bits" = true) (k9 : PySem.W.keepIn K (.ref f9) = true)
    (a10 : PySem.W.nsIn K mainGlobals "product_of" = some (some (.ref f10))) (l10 : K.lookup f10 = some ⟨oc10, od10, .func (PySem.W.fnOf "product_of" "product_of" (defArgs (top 20)) (defBody (top 20)) (defScope (top 20)) .none kV10 dc10 pm10 an10 cd10 ct10), sl10⟩) (c10 : PySem.W.codeIn K cd10 "product_of" = true) (k10 : PySem.W.keepIn K (.ref f10) = true)
    (a11 : PySem.W.nsIn K mainGlobals "two_product" = some (some (.ref f11))) (l11 : K.lookup f11 = some ⟨oc11, od11, .func (PySem.W.fnOf "two_product" "two_product" (defArgs (top 21)) (defBody (top 21)) (defScope (top 21)) .none kV11 dc11 pm11 an11 cd11 ct11), sl11⟩) (c11 : PySem.W.codeIn K cd11 "two_product" = true) (k11 : PySem.W.keepIn K (.ref f11) = true)
    (a12 : PySem.W.nsIn K mainGlobals "check_rule" = some (some (.ref f12))) (l12 : K.lookup f12 = some ⟨oc12, od12, .func (PySem.W.fnOf "check_rule" "check_rule" (defArgs (top 32)) (defBody (top 32)) (defScope (top 32)) .none kV12 dc12 pm12 an12 cd12 ct12), sl12⟩) (c12 : PySem.W.codeIn K cd12 "check_rule" = true) (k12 : PySem.W.keepIn K (.ref f12) = true)
    (a13 : PySem.W.nsIn K mainGlobals "turnings_of" = some (some (.ref f13))) (l13 : K.lookup f13 = some ⟨oc13, od13, .func (PySem.W.fnOf "turnings_of" "turnings_of" (defArgs (top 33)) (defBody (top 33)) (defScope (top 33)) .none kV13 dc13 pm13 an13 cd13 ct13), sl13⟩) (c13 : PySem.W.codeIn K cd13 "turnings_of" = true) (k13 : PySem.W.keepIn K (.ref f13) = true)
    (a14 : PySem.W.nsIn K mainGlobals "numbers_of" = some (some (.ref f14))) (l14 : K.lookup f14 = some ⟨oc14, od14, .func (PySem.W.fnOf "numbers_of" "numbers_of" (defArgs (top 34)) (defBody (top 34)) (defScope (top 34)) .none kV14 dc14 pm14 an14 cd14 ct14), sl14⟩) (c14 : PySem.W.codeIn K cd14 "numbers_of" = true) (k14 : PySem.W.keepIn K (.ref f14) = true)
    (a15 : PySem.W.nsIn K mainGlobals "place_numbers" = some (some (.ref f15))) (l15 : K.lookup f15 = some ⟨oc15, od15, .func (PySem.W.fnOf "place_numbers" "place_numbers" (defArgs (top 35)) (defBody (top 35)) (defScope (top 35)) .none kV15 dc15 pm15 an15 cd15 ct15), sl15⟩) (c15 : PySem.W.codeIn K cd15 "place_numbers" = true) (k15 : PySem.W.keepIn K (.ref f15) = true)
    (a16 : PySem.W.nsIn K mainGlobals "is_row" = some (some (.ref f16))) (l16 : K.lookup f16 = some ⟨oc16, od16, .func (PySem.W.fnOf "is_row" "is_row" (defArgs (top 36)) (defBody (top 36)) (defScope (top 36)) .none kV16 dc16 pm16 an16 cd16 ct16), sl16⟩) (c16 : PySem.W.codeIn K cd16 "is_row" = true) (k16 : PySem.W.keepIn K (.ref f16) = true)
    (a17 : PySem.W.nsIn K mainGlobals "check_row" = some (some (.ref f17))) (l17 : K.lookup f17 = some ⟨oc17, od17, .func (PySem.W.fnOf "check_row" "check_row" (defArgs (top 37)) (defBody (top 37)) (defScope (top 37)) .none kV17 dc17 pm17 an17 cd17 ct17), sl17⟩) (c17 : PySem.W.codeIn K cd17 "check_row" = true) (k17 : PySem.W.keepIn K (.ref f17) = true)
    (a18 : PySem.W.nsIn K mainGlobals "coins_number" = some (some (.ref f18))) (l18 : K.lookup f18 = some ⟨oc18, od18, .func (PySem.W.fnOf "coins_number" "coins_number" (defArgs (top 38)) (defBody (top 38)) (defScope (top 38)) .none kV18 dc18 pm18 an18 cd18 ct18), sl18⟩) (c18 : PySem.W.codeIn K cd18 "coins_number" = true) (k18 : PySem.W.keepIn K (.ref f18) = true)
    (a19 : PySem.W.nsIn K mainGlobals "turned_row" = some (some (.ref f19))) (l19 : K.lookup f19 = some ⟨oc19, od19, .func (PySem.W.fnOf "turned_row" "turned_row" (defArgs (top 39)) (defBody (top 39)) (defScope (top 39)) .none kV19 dc19 pm19 an19 cd19 ct19), sl19⟩) (c19 : PySem.W.codeIn K cd19 "turned_row" = true) (k19 : PySem.W.keepIn K (.ref f19) = true)
    (a20 : PySem.W.nsIn K mainGlobals "rows_below" = some (some (.ref f20))) (l20 : K.lookup f20 = some ⟨oc20, od20, .func (PySem.W.fnOf "rows_below" "rows_below" (defArgs (top 40)) (defBody (top 40)) (defScope (top 40)) .none kV20 dc20 pm20 an20 cd20 ct20), sl20⟩) (c20 : PySem.W.codeIn K cd20 "rows_below" = true) (k20 : PySem.W.keepIn K (.ref f20) = true)
    (a21 : PySem.W.nsIn K mainGlobals "winning_turn" = some (some (.ref f21))) (l21 : K.lookup f21 = some ⟨oc21, od21, .func (PySem.W.fnOf "winning_turn" "winning_turn" (defArgs (top 41)) (defBody (top 41)) (defScope (top 41)) .none kV21 dc21 pm21 an21 cd21 ct21), sl21⟩) (c21 : PySem.W.codeIn K cd21 "winning_turn" = true) (k21 : PySem.W.keepIn K (.ref f21) = true)
    (a22 : PySem.W.nsIn K mainGlobals "is_winning_turn" = some (some (.ref f22))) (l22 : K.lookup f22 = some ⟨oc22, od22, .func (PySem.W.fnOf "is_winning_turn" "is_winning_turn" (defArgs (top 42)) (defBody (top 42)) (defScope (top 42)) .none kV22 dc22 pm22 an22 cd22 ct22), sl22⟩) (c22 : PySem.W.codeIn K cd22 "is_winning_turn" = true) (k22 : PySem.W.keepIn K (.ref f22) = true)
    (a23 : PySem.W.nsIn K mainGlobals "check_place" = some (some (.ref f23))) (l23 : K.lookup f23 = some ⟨oc23, od23, .func (PySem.W.fnOf "check_place" "check_place" (defArgs (top 44)) (defBody (top 44)) (defScope (top 44)) .none kV23 dc23 pm23 an23 cd23 ct23), sl23⟩) (c23 : PySem.W.codeIn K cd23 "check_place" = true) (k23 : PySem.W.keepIn K (.ref f23) = true)
    (a24 : PySem.W.nsIn K mainGlobals "board_number" = some (some (.ref f24))) (l24 : K.lookup f24 = some ⟨oc24, od24, .func (PySem.W.fnOf "board_number" "board_number" (defArgs (top 43)) (defBody (top 43)) (defScope (top 43)) .none kV24 dc24 pm24 an24 cd24 ct24), sl24⟩) (c24 : PySem.W.codeIn K cd24 "board_number" = true) (k24 : PySem.W.keepIn K (.ref f24) = true)
    (a25 : PySem.W.nsIn K mainGlobals "bits_number" = some (some (.ref f25))) (l25 : K.lookup f25 = some ⟨oc25, od25, .func (PySem.W.fnOf "bits_number" "bits_number" (defArgs (top 45)) (defBody (top 45)) (defScope (top 45)) .none kV25 dc25 pm25 an25 cd25 ct25), sl25⟩) (c25 : PySem.W.codeIn K cd25 "bits_number" = true) (k25 : PySem.W.keepIn K (.ref f25) = true)
    (a26 : PySem.W.nsIn K mainGlobals "ruler_number" = some (some (.ref f26))) (l26 : K.lookup f26 = some ⟨oc26, od26, .func (PySem.W.fnOf "ruler_number" "ruler_number" (defArgs (top 46)) (defBody (top 46)) (defScope (top 46)) .none kV26 dc26 pm26 an26 cd26 ct26), sl26⟩) (c26 : PySem.W.codeIn K cd26 "ruler_number" = true) (k26 : PySem.W.keepIn K (.ref f26) = true)
    (a27 : PySem.W.nsIn K mainGlobals "are_heaps" = some (some (.ref f27))) (l27 : K.lookup f27 = some ⟨oc27, od27, .func (PySem.W.fnOf "are_heaps" "are_heaps" (defArgs (top 50)) (defBody (top 50)) (defScope (top 50)) .none kV27 dc27 pm27 an27 cd27 ct27), sl27⟩) (c27 : PySem.W.codeIn K cd27 "are_heaps" = true) (k27 : PySem.W.keepIn K (.ref f27) = true)
    (a28 : PySem.W.nsIn K mainGlobals "check_heaps" = some (some (.ref f28))) (l28 : K.lookup f28 = some ⟨oc28, od28, .func (PySem.W.fnOf "check_heaps" "check_heaps" (defArgs (top 51)) (defBody (top 51)) (defScope (top 51)) .none kV28 dc28 pm28 an28 cd28 ct28), sl28⟩) (c28 : PySem.W.codeIn K cd28 "check_heaps" = true) (k28 : PySem.W.keepIn K (.ref f28) = true)
    (a29 : PySem.W.nsIn K mainGlobals "first_taking" = some (some (.ref f29))) (l29 : K.lookup f29 = some ⟨oc29, od29, .func (PySem.W.fnOf "first_taking" "first_taking" (defArgs (top 52)) (defBody (top 52)) (defScope (top 52)) .none kV29 dc29 pm29 an29 cd29 ct29), sl29⟩) (c29 : PySem.W.codeIn K cd29 "first_taking" = true) (k29 : PySem.W.keepIn K (.ref f29) = true)
    (a30 : PySem.W.nsIn K mainGlobals "_law_hand" = some (some (.ref f30))) (l30 : K.lookup f30 = some ⟨oc30, od30, .func (PySem.W.fnOf "_law_hand" "_law_hand" (defArgs (top 54)) (defBody (top 54)) (defScope (top 54)) .none kV30 dc30 pm30 an30 cd30 ct30), sl30⟩) (c30 : PySem.W.codeIn K cd30 "_law_hand" = true) (k30 : PySem.W.keepIn K (.ref f30) = true)
    (a31 : PySem.W.nsIn K mainGlobals "_law_draw" = some (some (.ref f31))) (l31 : K.lookup f31 = some ⟨oc31, od31, .func (PySem.W.fnOf "_law_draw" "_law_draw" (defArgs (top 55)) (defBody (top 55)) (defScope (top 55)) .none kV31 dc31 pm31 an31 cd31 ct31), sl31⟩) (c31 : PySem.W.codeIn K cd31 "_law_draw" = true) (k31 : PySem.W.keepIn K (.ref f31) = true)
    (a32 : PySem.W.nsIn K mainGlobals "_law_some" = some (some (.ref f32))) (l32 : K.lookup f32 = some ⟨oc32, od32, .func (PySem.W.fnOf "_law_some" "_law_some" (defArgs (top 56)) (defBody (top 56)) (defScope (top 56)) .none kV32 dc32 pm32 an32 cd32 ct32), sl32⟩) (c32 : PySem.W.codeIn K cd32 "_law_some" = true) (k32 : PySem.W.keepIn K (.ref f32) = true)
    (a33 : PySem.W.nsIn K mainGlobals "_law_is" = some (some (.ref f33))) (l33 : K.lookup f33 = some ⟨oc33, od33, .func (PySem.W.fnOf "_law_is" "_law_is" (defArgs (top 57)) (defBody (top 57)) (defScope (top 57)) .none kV33 dc33 pm33 an33 cd33 ct33), sl33⟩) (c33 : PySem.W.codeIn K cd33 "_law_is" = true) (k33 : PySem.W.keepIn K (.ref f33) = true)
    (a34 : PySem.W.nsIn K mainGlobals "_law_ones" = some (some (.ref f34))) (l34 : K.lookup f34 = some ⟨oc34, od34, .func (PySem.W.fnOf "_law_ones" "_law_ones" (defArgs (top 58)) (defBody (top 58)) (defScope (top 58)) .none kV34 dc34 pm34 an34 cd34 ct34), sl34⟩) (c34 : PySem.W.codeIn K cd34 "_law_ones" = true) (k34 : PySem.W.keepIn K (.ref f34) = true)
    (a35 : PySem.W.nsIn K mainGlobals "_law_known" = some (some (.ref f35))) (l35 : K.lookup f35 = some ⟨oc35, od35, .func (PySem.W.fnOf "_law_known" "_law_known" (defArgs (top 59)) (defBody (top 59)) (defScope (top 59)) .none kV35 dc35 pm35 an35 cd35 ct35), sl35⟩) (c35 : PySem.W.codeIn K cd35 "_law_known" = true) (k35 : PySem.W.keepIn K (.ref f35) = true)
    (a36 : PySem.W.nsIn K mainGlobals "_law_row" = some (some (.ref f36))) (l36 : K.lookup f36 = some ⟨oc36, od36, .func (PySem.W.fnOf "_law_row" "_law_row" (defArgs (top 60)) (defBody (top 60)) (defScope (top 60)) .none kV36 dc36 pm36 an36 cd36 ct36), sl36⟩) (c36 : PySem.W.codeIn K cd36 "_law_row" = true) (k36 : PySem.W.keepIn K (.ref f36) = true)
    (a37 : PySem.W.nsIn K mainGlobals "_law_turned" = some (some (.ref f37))) (l37 : K.lookup f37 = some ⟨oc37, od37, .func (PySem.W.fnOf "_law_turned" "_law_turned" (defArgs (top 61)) (defBody (top 61)) (defScope (top 61)) .none kV37 dc37 pm37 an37 cd37 ct37), sl37⟩) (c37 : PySem.W.codeIn K cd37 "_law_turned" = true) (k37 : PySem.W.keepIn K (.ref f37) = true)
    (a38 : PySem.W.nsIn K mainGlobals "_law_rule_right" = some (some (.ref f38))) (l38 : K.lookup f38 = some ⟨oc38, od38, .func (PySem.W.fnOf "_law_rule_right" "_law_rule_right" (defArgs (top 62)) (defBody (top 62)) (defScope (top 62)) .none kV38 dc38 pm38 an38 cd38 ct38), sl38⟩) (c38 : PySem.W.codeIn K cd38 "_law_rule_right" = true) (k38 : PySem.W.keepIn K (.ref f38) = true)
    (a39 : PySem.W.nsIn K mainGlobals "_law_heaps_right" = some (some (.ref f39))) (l39 : K.lookup f39 = some ⟨oc39, od39, .func (PySem.W.fnOf "_law_heaps_right" "_law_heaps_right" (defArgs (top 63)) (defBody (top 63)) (defScope (top 63)) .none kV39 dc39 pm39 an39 cd39 ct39), sl39⟩) (c39 : PySem.W.codeIn K cd39 "_law_heaps_right" = true) (k39 : PySem.W.keepIn K (.ref f39) = true)
    (a40 : PySem.W.nsIn K mainGlobals "_law_boards_right" = some (some (.ref f40))) (l40 : K.lookup f40 = some ⟨oc40, od40, .func (PySem.W.fnOf "_law_boards_right" "_law_boards_right" (defArgs (top 64)) (defBody (top 64)) (defScope (top 64)) .none kV40 dc40 pm40 an40 cd40 ct40), sl40⟩) (c40 : PySem.W.codeIn K cd40 "_law_boards_right" = true) (k40 : PySem.W.keepIn K (.ref f40) = true)
    (a41 : PySem.W.nsIn K mainGlobals "law" = some (some (.ref f41))) (l41 : K.lookup f41 = some ⟨oc41, od41, .func (PySem.W.fnOf "law" "law" (defArgs (top 65)) (defBody (top 65)) (defScope (top 65)) .none kV41 dc41 pm41 an41 cd41 ct41), sl41⟩) (c41 : PySem.W.codeIn K cd41 "law" = true) (k41 : PySem.W.keepIn K (.ref f41) = true)
    (z0 : PySem.W.nsIn K mainGlobals "abs" = some none)
    (z1 : PySem.W.nsIn K mainGlobals "all" = some none)
    (z2 : PySem.W.nsIn K mainGlobals "bool" = some none)
    (z3 : PySem.W.nsIn K mainGlobals "enumerate" = some none)
    (z4 : PySem.W.nsIn K mainGlobals "int" = some none)
    (z5 : PySem.W.nsIn K mainGlobals "isinstance" = some none)
    (z6 : PySem.W.nsIn K mainGlobals "len" = some none)
    (z7 : PySem.W.nsIn K mainGlobals "list" = some none)
    (z8 : PySem.W.nsIn K mainGlobals "max" = some none)
    (z9 : PySem.W.nsIn K mainGlobals "range" = some none)
    (z10 : PySem.W.nsIn K mainGlobals "sorted" = some none)
    (z11 : PySem.W.nsIn K mainGlobals "str" = some none)
    (z12 : PySem.W.nsIn K mainGlobals "tuple" = some none)
    (z13 : PySem.W.nsIn K mainGlobals "zip" = some none)
    (g11a : PySem.W.nsIn K mainGlobals "MOST_SIZE_heaps" = some (some (.int 1152921504606846976 g11t1)))
    (g10a : PySem.W.nsIn K mainGlobals "MOST_HEAPS" = some (some (.int 60 g10t1)))
    (g9a : PySem.W.nsIn K mainGlobals "RULES" = some (some (.ref g9))) (g9l : K.lookup g9 = some ⟨.type "tuple", go9, .seq #[.str "one" g9t1, .str "two" g9t2, .str "three" g9t3, .str "twins" g9t4, .str "ruler" g9t5, .str "doubles" g9t6] gn9, gs9⟩)
    (g8a : PySem.W.nsIn K mainGlobals "DOUBLES" = some (some (.str "doubles" g8t1)))
    (g7a : PySem.W.nsIn K mainGlobals "RULER" = some (some (.str "ruler" g7t1)))
    (g6a : PySem.W.nsIn K mainGlobals "TWINS" = some (some (.str "twins" g6t1)))
    (g5a : PySem.W.nsIn K mainGlobals "THREE" = some (some (.str "three" g5t1)))
    (g4a : PySem.W.nsIn K mainGlobals "TWO" = some (some (.str "two" g4t1)))
    (g3a : PySem.W.nsIn K mainGlobals "ONE" = some (some (.str "one" g3t1)))
    (g2a : PySem.W.nsIn K mainGlobals "MOST_BOARD" = some (some (.int 16 g2t1)))
    (g1a : PySem.W.nsIn K mainGlobals "MOST_ROW" = some (some (.int 64 g1t1)))
    (g0a : PySem.W.nsIn K mainGlobals "MOST_SIZE_twos" = some (some (.int 18446744073709551616 g0t1)))
    : ∃ fd : FuncData, (∀ (s : Shared) (v : Value), BindsTo s fd ⟨[v], []⟩ [("script", v)]) ∧ ∀ base : Heap, K.In base → base.Ns mainGlobals mg → FnOk P wd K mg base (L2.CX P wd) 13 fa fd ["script"] (spLaw K) := by
  obtain ⟨g, fd, F, hb⟩ := head X G hfa a0 l0 c0 k0 a1 l1 c1 k1 a2 l2 c2 k2 a3 l3 c3 k3 a4 l4 c4 k4 a5 l5 c5 k5 a6 l6 c6 k6 a7 l7 c7 k7 a8 l8 c8 k8 a9 l9 c9 k9 a10 l10 c10 k10 a11 l11 c11 k11 a12 l12 c12 k12 a13 l13 c13 k13 a14 l14 c14 k14 a15 l15 c15 k15 a16 l16 c16 k16 a17 l17 c17 k17 a18 l18 c18 k18 a19 l19 c19 k19 a20 l20 c20 k20 a21 l21 c21 k21 a22 l22 c22 k22 a23 l23 c23 k23 a24 l24 c24 k24 a25 l25 c25 k25 a26 l26 c26 k26 a27 l27 c27 k27 a28 l28 c28 k28 a29 l29 c29 k29 a30 l30 c30 k30 a31 l31 c31 k31 a32 l32 c32 k32 a33 l33 c33 k33 a34 l34 c34 k34 a35 l35 c35 k35 a36 l36 c36 k36 a37 l37 c37 k37 a38 l38 c38 k38 a39 l39 c39 k39 a40 l40 c40 k40 a41 l41 c41 k41 z0 z1 z2 z3 z4 z5 z6 z7 z8 z9 z10 z11 z12 z13 g11a g10a g9a g9l g8a g7a g6a g5a g4a g3a g2a g1a g0a
  exact ⟨fd, hb, fun base _ _ => fnOk_law BLs GCs F sc_law g.bl g.gc (S_law g) H1 H2⟩
end
end K98

set_option Elab.async false
set_option linter.all false
set_option maxRecDepth 100000
set_option maxHeartbeats 4000000
namespace K98
open Py L2 PySem PySem.Spec PyProof.Rows
theorem e_is_integer (i : Int) (st : Store) : m_is_integer [.int i] st = .ok (.bl true) st := run_rt0 (by simp [b_is_integer, startE]) rfl
theorem e_is_within (i a b : Int) (st : Store) : m_is_within [.int i, .int a, .int b] st = .ok (.bl (decide (a ≤ i) && decide (i ≤ b))) st := run_rt0 (by
  simp [b_is_within, startE, e_is_integer]
  by_cases h : a ≤ i <;> simp [h]) rfl
theorem e_draw {st : Store} {h c : Nat} {cells : List Int} {i a b e m : Int} (hh : h < st.length) (hc : c ≠ h) (hcs : st[c]? = some (.lst (intsD cells))) (G : Good cells i a b e) (hm : 0 < m) (hm2 : m < 2 ^ 63) :
    ∃ d i' a' b' e', m__law_draw [.ref h, .int m] (st.set h (hd5 c i a b e)) = .ok (.int d) (st.set h (hd5 c i' a' b' e')) ∧ 0 ≤ d ∧ d < m ∧ Good cells i' a' b' e' := by
  have hcl : c < st.length := (List.getElem?_eq_some_iff.mp hcs).1
  have hcs' : ∀ o, (st.set h o)[c]? = some (.lst (intsD cells)) := fun o => by rw [at_ne hc, hcs]
  have hlen : ∀ o, lenD [.ref c] (st.set h o) = some (.int cells.length, st.set h o) := fun o => by simp [lenD, hcs', getL, intsD]
  have key : ∃ x2 i' a' b', Good cells i' a' b' e ∧ ∀ k, ((sIf (mAnd (asB (mOp2 eqD (mOp2 ixD (mVar 0) (mC (.int 2))) (mC (.int 0)))) (asB (mOp2 ltD (mOp2 ixD (mVar 0) (mC (.int 1))) (mOpN lenD (mCons (mOp2 ixD (mVar 0) (mC (.int 0))) mNil))))) (sSeq (sAsg (mOp2 ixD (mOp2 ixD (mVar 0) (mC (.int 0))) (mOp2 ixD (mVar 0) (mC (.int 1)))) (gN 2)) (sSeq (sAsg (mOp2 addD (mOp2 ixD (mVar 0) (mC (.int 1))) (mC (.int 1))) (gSb setD (mVar 0) (mC (.int 1)))) (sSeq (sAsg (mOp2 modD (mOpN intD (mCons (mOp2 addD (mOp2 addD (mOp2 mulD (mOp2 ixD (mVar 0) (mC (.int 3))) (mC (.int 69621))) (mOp2 mulD (mVar 2) (mC (.int 48271)))) (mC (.int 41))) mNil)) (mC (.int 2147483629))) (gSb setD (mVar 0) (mC (.int 3)))) (sSeq (sIf (asB (mOp2 geD (mVar 2) (mOp2 powD (mC (.int 10)) (mC (.int 18))))) (sSeq (sAsg (mVar 2) (gSb setD (mVar 0) (mC (.int 2)))) (fun e st => .nx e st)) (fun e st => .nx e st)) (fun e st => .nx e st))))) (fun e st => .nx e st)) (startE N__law_draw [.ref h, .int m]) (st.set h (hd5 c i a b e))).seq k = k [some (.ref h), some (.int m), x2, none, none] (st.set h (hd5 c i' a' b' e)) := by
    by_cases h1c : a = 0 ∧ i < cells.length
    · obtain ⟨ha, hi⟩ := h1c
      subst ha
      obtain ⟨x, hx⟩ : ∃ x, cells[i.toNat]? = some x := ⟨cells[i.toNat]'(by have := G.i0; omega), List.getElem?_eq_getElem _⟩
      have hxm : x ∈ cells := List.mem_of_getElem? hx
      obtain ⟨x0, x1⟩ := G.z x hxm
      have hat : ∀ o, ixD (.ref c) (.int i) (st.set h o) = some (.int x, st.set h o) := fun o => by
        refine ix_at (hcs' o) ?_
        have hi0 := G.i0
        simp only [atI, ixN, intsD, List.length_map]
        rw [if_pos hi0, if_pos hi]
        simp [hx]
      have hp : powD (.int 10) (.int 18) = fun s => some (.int (10 ^ 18), s) := by funext s; rw [powI ⟨by omega, by omega, by decide⟩]; rfl
      by_cases hbig : (1000000000000000000 : Int) ≤ x
      · refine ⟨some (.int x), i + 1, x, (b * 69621 + x * 48271 + 41).fmod 2147483629, ⟨G.n, G.z, by have := G.i0; omega, x0, x1, (fmod_bd (by omega)).1, (fmod_bd (by omega)).2, G.e0⟩, fun k => ?_⟩
        simp [startE, h0 hh, h1 hh, h2 hh, h3 hh, hlen, hi, hat, s1 hh, s2 hh, s3 hh, mulI (mul_small (x := b) (y := 69621) (by omega) (by omega)), mulI (mul_small (x := x) (y := 48271) (by omega) (by omega)), modI, hp, hbig]
      · refine ⟨some (.int x), i + 1, 0, (b * 69621 + x * 48271 + 41).fmod 2147483629, ⟨G.n, G.z, by have := G.i0; omega, by omega, by decide, (fmod_bd (by omega)).1, (fmod_bd (by omega)).2, G.e0⟩, fun k => ?_⟩
        simp [startE, h0 hh, h1 hh, h2 hh, h3 hh, hlen, hi, hat, s1 hh, s2 hh, s3 hh, mulI (mul_small (x := b) (y := 69621) (by omega) (by omega)), mulI (mul_small (x := x) (y := 48271) (by omega) (by omega)), modI, hp, hbig]
    · refine ⟨none, i, a, b, G, fun k => ?_⟩
      by_cases ha : a = 0
      · subst ha
        have hi : ¬ i < cells.length := fun z => h1c ⟨rfl, z⟩
        simp [startE, h0 hh, h1 hh, h2 hh, hlen, hi]
      · simp [startE, h0 hh, h1 hh, h2 hh, hlen, ha]
  obtain ⟨x2, i', a', b', G', hk⟩ := key
  by_cases ha : 0 < a'
  · refine ⟨a'.fmod m, i', a'.fdiv m, b', e, run_hand hh hcl (g := []) ?_ rfl, (fmod_bd hm).1, (fmod_bd hm).2, ⟨G'.n, G'.z, G'.i0, ?_, ?_, G'.b0, G'.b1, G'.e0⟩⟩
    · unfold b__law_draw
      rw [y_seq, hk]
      simp [h2 hh, ha, modI (show m ≠ 0 by omega), fdivI (div_ok hm hm2), s2 hh]
    · exact Int.fdiv_nonneg G'.a0 (by omega)
    · have h1 := Int.fdiv_le_self (a := a') m G'.a0
      exact Int.lt_of_le_of_lt h1 G'.a1
  · have hn : ∀ x : Int, 0 ≤ x.fmod 2147483647 ∧ x.fmod 2147483647 < 2147483647 := fun x => fmod_bd (by omega)
    refine ⟨((((((((b' + 7919 * (e + 1)) * 40692).fmod 2147483647) * ((((b' + 7919 * (e + 1)) * 40692).fmod 2147483647).fdiv 1009 + 69621)).fmod 2147483647) * ((((((b' + 7919 * (e + 1)) * 40692).fmod 2147483647) * ((((b' + 7919 * (e + 1)) * 40692).fmod 2147483647).fdiv 1009 + 69621)).fmod 2147483647).fdiv 2003 + 40014)).fmod 2147483563).fdiv 16).fmod m, i', a', b', e + 1, run_hand hh hcl (g := []) ?_ rfl, (fmod_bd hm).1, (fmod_bd hm).2, ⟨G'.n, G'.z, G'.i0, G'.a0, G'.a1, G'.b0, G'.b1, by have := G'.e0; omega⟩⟩
    unfold b__law_draw
    rw [y_seq, hk]
    have q1 : Py.MulOk 7919 (e + 1) := mul_smallL (by omega) (by omega)
    have q2 : Py.MulOk (b' + 7919 * (e + 1)) 40692 := mul_small (by omega) (by omega)
    have q3 : DivOk (((b' + 7919 * (e + 1)) * 40692).fmod 2147483647) 1009 := div_ok (by omega) (by omega)
    have q4 : Py.MulOk (((b' + 7919 * (e + 1)) * 40692).fmod 2147483647) ((((b' + 7919 * (e + 1)) * 40692).fmod 2147483647).fdiv 1009 + 69621) := mul_smallL (hn _).1 (Int.lt_trans (hn _).2 (by omega))
    have q5 : DivOk (((((b' + 7919 * (e + 1)) * 40692).fmod 2147483647) * ((((b' + 7919 * (e + 1)) * 40692).fmod 2147483647).fdiv 1009 + 69621)).fmod 2147483647) 2003 := div_ok (by omega) (by omega)
    have q6 : Py.MulOk (((((b' + 7919 * (e + 1)) * 40692).fmod 2147483647) * ((((b' + 7919 * (e + 1)) * 40692).fmod 2147483647).fdiv 1009 + 69621)).fmod 2147483647) ((((((b' + 7919 * (e + 1)) * 40692).fmod 2147483647) * ((((b' + 7919 * (e + 1)) * 40692).fmod 2147483647).fdiv 1009 + 69621)).fmod 2147483647).fdiv 2003 + 40014) := mul_smallL (hn _).1 (Int.lt_trans (hn _).2 (by omega))
    have q7 : DivOk (((((((b' + 7919 * (e + 1)) * 40692).fmod 2147483647) * ((((b' + 7919 * (e + 1)) * 40692).fmod 2147483647).fdiv 1009 + 69621)).fmod 2147483647) * ((((((b' + 7919 * (e + 1)) * 40692).fmod 2147483647) * ((((b' + 7919 * (e + 1)) * 40692).fmod 2147483647).fdiv 1009 + 69621)).fmod 2147483647).fdiv 2003 + 40014)).fmod 2147483563) 16 := div_ok (by omega) (by omega)
    simp [h2 hh, h3 hh, h4 hh, ha, s4 hh, modI, mulI q1, mulI q2, fdivI q3, mulI q4, fdivI q5, mulI q6, fdivI q7, show m ≠ 0 by omega]
/-! ### xor, the least number that is not there -/
def xorL (l : List Nat) : Nat := l.foldl (fun a b => a ^^^ b) 0
theorem e_together {d : D} {ns : List Nat} {st : Store} (h : seqOf d st = some (natsD ns)) : m_together [d] st = .ok (.int (xorL ns)) st := by
  refine run_rt0 ?_ rfl
  have loop : ∀ (l : List Nat) (a : Nat) (x : Option D), ∃ x', forL (stillD d (natsD ns)) (fun dd e st => (gN 2 dd e st).seq (sSeq (sAsg (mOp2 xorD (mVar 1) (mVar 2)) (gN 1)) (fun e st => .nx e st))) (natsD l) [some d, some (.int (a : Nat)), x] st = .nx [some d, some (.int (l.foldl (fun a b => a ^^^ b) a : Nat)), x'] st := by
    intro l
    induction l with
    | nil => exact fun a x => ⟨x, forL_nil (stillD_of h)⟩
    | cons n l ih =>
      intro a x
      obtain ⟨x', hx⟩ := ih (a ^^^ n) (some (.int (n : Nat)))
      refine ⟨x', ?_⟩
      rw [show natsD (n :: l) = .int (n : Nat) :: natsD l from rfl, forL_nx (stillD_of h) (e' := [some d, some (.int ((a ^^^ n : Nat) : Int)), some (.int (n : Nat))]) (st' := st) (by simp [xorN])]
      exact hx
  obtain ⟨x', hx⟩ := loop ns 0 none
  simp only [b_together, y_seq, y_asg, x_c, R.to_ok, y_gN, Fl.seq_nx, y_for, x_it, startE]
  simp [itD_seq h]
  have hx' := hx
  simp at hx'
  rw [hx']
  simp [xorL]
theorem e_least {d : D} {ns : List Nat} {st : Store} {v : Nat} (h : seqOf d st = some (natsD ns)) (hl : ns.length ≤ 100000) (hv : isMex v ns) : m_least_missing [d] st = .ok (.int v) st := by
  have hz : (natsD ns).length ≤ sizeLine := by rw [sizeLine_eq]; simp [natsD]; omega
  obtain ⟨kvs, hkv⟩ : ∃ kvs, kvs = (natsD ns).foldl (fun acc d => putO acc (some (d, .bl true))) [] := ⟨_, rfl⟩
  have hfold := fold_keys (.bl true) (natsD ns) [] (fun x hx => by
    obtain ⟨n, _, rfl⟩ := List.mem_map.mp hx
    exact ⟨.inl n, rfl⟩) rfl
  rw [← hkv] at hfold
  have hdc : mDc (mIt (mVar 0)) (.nm 3) mYes (mVar 3) (mC (.bl true)) [3] [some d, none, none, none] st = .ok (.ref st.length) (st ++ [.dict kvs]) := by
    rw [hkv]
    refine mDc_of (it := ⟨natsD ns, stillD d (natsD ns)⟩) (fun x => some (x, .bl true)) (by simp [itD_seq h]) (stillD_of h) hz fun x hx => ?_
    obtain ⟨n, _, rfl⟩ := List.mem_map.mp hx
    exact dcB_some (e1 := [some d, none, none, some (.int (n : Nat))]) rfl rfl (by simp) (q := .inl n) rfl rfl rfl
  have hin : ∀ k : Nat, inA (.int (k : Nat)) (.ref st.length) (st ++ [.dict kvs]) = some (.bl (decide (k ∈ ns)), st ++ [.dict kvs]) := fun k => by
    rw [inA_dict (k := .inl (k : Int)) (kvs := kvs) (by simp) rfl hfold.1, hfold.2, natsD_any]
    rfl
  have loop : ∀ (k j : Nat), j + k = v → sWh (asB (mOp2 inA (mVar 2) (mVar 1))) (sSeq (sAsg (mOp2 addD (mVar 2) (mC (.int 1))) (gN 2)) (fun e st => .nx e st)) [some d, some (.ref st.length), some (.int (j : Nat)), none] (st ++ [.dict kvs]) =
      .nx [some d, some (.ref st.length), some (.int (v : Nat)), none] (st ++ [.dict kvs]) := by
    intro k
    induction k with
    | zero =>
      intro j hj
      have : j = v := by omega
      subst this
      rw [sWh_unf]
      simp [hin, hv.1]
    | succ k ih =>
      intro j hj
      have hm := hv.2 j (by omega)
      rw [sWh_unf]
      simp [hin, hm]
      have := ih (j + 1) (by omega)
      simpa using this
  refine run_rt (g := [.dict kvs]) ?_ rfl
  have hl0 := loop v 0 (by omega)
  simp [b_least_missing, startE, hdc]
  simp at hl0
  rw [hl0]
  simp
end K98

set_option Elab.async false
set_option linter.all false
set_option maxRecDepth 100000
set_option maxHeartbeats 4000000
namespace K98
open Py L2 PySem PySem.Spec PyProof.Rows
inductive Rl | one | two | three | twins | ruler | doubles
def nm : Rl → Str
  | .one => "one" | .two => "two" | .three => "three" | .twins => "twins" | .ruler => "ruler" | .doubles => "doubles"
def lots : Rl → Nat → List (List Nat)
  | .one, _ => [[]]
  | .two, p => [] :: (List.range p).map fun a => [a]
  | .three, p => ([] :: (List.range p).map fun a => [a]) ++ (List.range p).flatMap fun o => (List.range o).map fun a => [a, o]
  | .twins, p => (List.range p).map fun a => [a]
  | .ruler, p => (List.range (p + 1)).map fun a => (List.range (p - a)).map (a + ·)
  | .doubles, p => [] :: ((List.range (p - (p + 1) / 2)).map ((p + 1) / 2 + ·)).map fun a => [a]
def lotD (l : List Nat) : D := .tup (natsD l)
theorem okS_of : okS "one" = true ∧ okS "two" = true ∧ okS "three" = true ∧ okS "twins" = true ∧ okS "ruler" = true ∧ okS "doubles" = true := by decide +kernel
theorem nm_ok (r : Rl) : okS (nm r) = true := by cases r <;> simp [nm, okS_of]
theorem q1 (st : Store) (r : Rl) : eqD (.str (nm r)) (.str "one") st = some (.bl (match r with | .one => true | _ => false), st) := by
  rw [eqSt (nm_ok r) okS_of.1]; cases r <;> simp [nm] <;> decide +kernel
theorem q2 (st : Store) (r : Rl) : eqD (.str (nm r)) (.str "two") st = some (.bl (match r with | .two => true | _ => false), st) := by
  rw [eqSt (nm_ok r) okS_of.2.1]; cases r <;> simp [nm] <;> decide +kernel
theorem q3 (st : Store) (r : Rl) : eqD (.str (nm r)) (.str "three") st = some (.bl (match r with | .three => true | _ => false), st) := by
  rw [eqSt (nm_ok r) okS_of.2.2.1]; cases r <;> simp [nm] <;> decide +kernel
theorem q4 (st : Store) (r : Rl) : eqD (.str (nm r)) (.str "twins") st = some (.bl (match r with | .twins => true | _ => false), st) := by
  rw [eqSt (nm_ok r) okS_of.2.2.2.1]; cases r <;> simp [nm] <;> decide +kernel
theorem q5 (st : Store) (r : Rl) : eqD (.str (nm r)) (.str "ruler") st = some (.bl (match r with | .ruler => true | _ => false), st) := by
  rw [eqSt (nm_ok r) okS_of.2.2.2.2.1]; cases r <;> simp [nm] <;> decide +kernel
theorem q6 (st : Store) (r : Rl) : eqD (.str (nm r)) (.str "doubles") st = some (.bl (match r with | .doubles => true | _ => false), st) := by
  rw [eqSt (nm_ok r) okS_of.2.2.2.2.2]; cases r <;> simp [nm] <;> decide +kernel
theorem flats_lots (ls : List (List Nat)) : flats (ls.map lotD) = true := by
  induction ls with
  | nil => rfl
  | cons l ls ih => simp only [List.map_cons, flats, lotD, flat, flats_nats, Bool.true_and]; exact ih
theorem nil_tup (e : Py.Loc) (st : Store) : mTup mNil e st = .ok (.tup []) st := by rw [x_tup]; simp
theorem one_tup (e : Py.Loc) (st : Store) (i : Nat) (d : D) (h : e[i]? = some (some d)) : mTup (mCons (mVar i) mNil) e st = .ok (.tup [d]) st := by rw [x_tup]; simp [h, le_size (show 1 ≤ 1000000 by omega)]
theorem two_tup (e : Py.Loc) (st : Store) (i j : Nat) (d d' : D) (h : e[i]? = some (some d)) (h' : e[j]? = some (some d')) : mTup (mCons (mVar i) (mCons (mVar j) mNil)) e st = .ok (.tup [d, d']) st := by rw [x_tup]; simp [h, h', le_size (show 2 ≤ 1000000 by omega)]
theorem first_lst (e : Py.Loc) (st : Store) : mLst (mCons (mTup mNil) mNil) e st = .ok (.ref st.length) (st ++ [.lst [.tup []]]) := by rw [x_lst]; simp [nil_tup, le_size (show 1 ≤ 1000000 by omega)]
theorem singles {r x2 x3 : Option D} (p : Nat) (hp : p ≤ 1000) (st : Store) : mLc (mRgs (mCons (mVar 1) mNil)) (.nm 2) mYes (mTup (mCons (mVar 2) mNil)) [2] [r, some (.int (p : Nat)), x2, x3] st = .ok (.ref st.length) (st ++ [.lst ((List.range p).map fun a => .tup [.int (a : Nat)])]) := by
  refine mLc_nats (ns := List.range p) (still := fun _ => True) (fun a => .tup [.int (a : Nat)]) (rgs_of (one_of (var_of rfl)) (rg1 p (by omega))) trivial (by simp; omega) fun n hn => ⟨[r, some (.int (p : Nat)), some (.int (n : Nat)), x3], [], rfl, ?_, rfl⟩
  rw [List.append_nil]
  exact one_tup _ _ _ _ rfl
theorem pairs {r x2 x3 : Option D} (p : Nat) (hp : p ≤ 64) (st : Store) : mLc2 (mRgs (mCons (mVar 1) mNil)) (.nm 3) mYes (mRgs (mCons (mVar 3) mNil)) (.nm 2) mYes (mTup (mCons (mVar 2) (mCons (mVar 3) mNil))) [3, 2] [2] [r, some (.int (p : Nat)), x2, x3] st =
    .ok (.ref st.length) (st ++ [.lst ((List.range p).flatMap fun o => (List.range o).map fun a => .tup [.int (a : Nat), .int (o : Nat)])]) := by
  refine mLc2_nats (ns := List.range p) (still := fun _ => True) (fun o => List.range o) (fun o a => .tup [.int (a : Nat), .int (o : Nat)]) (rgs_of (one_of (var_of rfl)) (rg1 p (by omega))) trivial (fun n hn => by simp at hn ⊢; omega) ?_ fun n hn => ⟨[r, some (.int (p : Nat)), none, some (.int (n : Nat))], rfl, rgs_of (one_of (var_of rfl)) (rg1 n (by simp at hn; omega)), fun m hm => ⟨[r, some (.int (p : Nat)), some (.int (m : Nat)), some (.int (n : Nat))], rfl, two_tup _ _ _ _ _ _ rfl rfl, rfl⟩⟩
  have : ∀ l : List Nat, (∀ n ∈ l, n ≤ 64) → (l.flatMap fun o => List.range o).length ≤ 64 * l.length := fun l => by
    induction l with
    | nil => simp
    | cons a l ih =>
      intro h
      have h1 := h a List.mem_cons_self
      have h2 := ih fun n hn => h n (List.mem_cons_of_mem _ hn)
      simp only [List.flatMap_cons, List.length_append, List.length_range, List.length_cons]
      omega
  have h := this (List.range p) fun n hn => by simp at hn; omega
  rw [List.length_range] at h
  omega
theorem rl_t {x : Str} {r : Rl} {m1 m2 k : Py.Loc → Store → Fl} {d x2 x3 : Option D} {st st' : Store} {a : D} (h : ∀ st, eqD (.str (nm r)) (.str x) st = some (.bl true, st)) (h1 : m1 [some (.str (nm r)), d, x2, x3] st = .rt a st') :
    sSeq (sIf (asB (mOp2 eqD (mVar 0) (mC (.str x)))) m1 m2) k [some (.str (nm r)), d, x2, x3] st = .rt a st' := seq_rt (if_t (asB_ok (op2_of (var_of rfl) rfl (h st))) h1)
theorem rl_f {x : Str} {r : Rl} {m1 k : Py.Loc → Store → Fl} {d x2 x3 : Option D} {st : Store} {y : Fl} (h : ∀ st, eqD (.str (nm r)) (.str x) st = some (.bl false, st)) (h1 : k [some (.str (nm r)), d, x2, x3] st = y) :
    sSeq (sIf (asB (mOp2 eqD (mVar 0) (mC (.str x)))) m1 (fun e st => .nx e st)) k [some (.str (nm r)), d, x2, x3] st = y := seq_nx (if_f (asB_ok (op2_of (var_of rfl) rfl (h st))) rfl) h1
theorem sum_new {st g : Store} {a b : List D} {n m : Nat} (h1 : (st ++ g)[n]? = some (.lst a)) (h2 : (st ++ g)[m]? = some (.lst b)) (h : a.length + b.length ≤ 1000000) : addD (.ref n) (.ref m) (st ++ g) = some (.ref (st ++ g).length, st ++ (g ++ [.lst (a ++ b)])) := by
  rw [add_lists h1 h2 h, List.append_assoc]
theorem st3_len {st : Store} {a b : O} : ((st ++ [a]) ++ [b]).length = st.length + 2 := by simp
theorem ruler_lc {r x2 x3 : Option D} (p : Nat) (hp : p ≤ 64) (st : Store) : mLc (mRgs (mCons (mOp2 addD (mVar 1) (mC (.int 1))) mNil)) (.nm 2) mYes (mTupRg (mR2 (mVar 2) (mVar 1))) [2] [r, some (.int (p : Nat)), x2, x3] st =
    .ok (.ref st.length) (st ++ [.lst ((List.range (p + 1)).map fun a => lotD ((List.range (p - a)).map (a + ·)))]) := by
  refine mLc_nats (ns := List.range (p + 1)) (still := fun _ => True) (fun a => lotD ((List.range (p - a)).map (a + ·))) (rgs_of (one_of (op2_of (c := .int ((p + 1 : Nat) : Int)) (var_of rfl) rfl (by simp))) (rg1 (p + 1) (by omega))) trivial (by simp; omega) fun n hn => ⟨[r, some (.int (p : Nat)), some (.int (n : Nat)), x3], [], rfl, ?_, lowD_flat (by simp [lotD, flat, flats_nats])⟩
  rw [List.append_nil]
  have hn' : n < p + 1 := by simpa using hn
  refine tupRg_of (x := n) (y := p) ?_ (by omega) (by omega)
  simp
theorem dbl_lc {r x2 x3 : Option D} (p : Nat) (hp : p ≤ 64) (st : Store) : mLc (mRgs (mCons (mOp2 fdivD (mOp2 addD (mVar 1) (mC (.int 1))) (mC (.int 2))) (mCons (mVar 1) mNil))) (.nm 2) mYes (mTup (mCons (mVar 2) mNil)) [2] [r, some (.int (p : Nat)), x2, x3] st =
    .ok (.ref st.length) (st ++ [.lst (((List.range (p - (p + 1) / 2)).map ((p + 1) / 2 + ·)).map fun a => .tup [.int (a : Nat)])]) := by
  have h1 : fdivD (.int ((p : Int) + 1)) (.int 2) = fun s => some (.int (((p + 1) / 2 : Nat) : Int), s) := by
    funext s
    rw [fdivI (div_ok (by omega) (by omega)), Int.fdiv_eq_ediv_of_nonneg _ (by omega)]
    congr 3
  refine mLc_nats (ns := (List.range (p - (p + 1) / 2)).map ((p + 1) / 2 + ·)) (still := fun _ => True) (fun a => .tup [.int (a : Nat)]) (rgs_of (two_of (op2_of (c := .int (((p + 1) / 2 : Nat) : Int)) (op2_of (c := .int ((p : Int) + 1)) (var_of rfl) rfl (by simp)) rfl (congrFun h1 _)) (var_of rfl)) (rg2 _ _ (by omega) (by omega))) trivial (by simp; omega) fun n hn => ⟨[r, some (.int (p : Nat)), some (.int (n : Nat)), x3], [], rfl, ?_, rfl⟩
  rw [List.append_nil]
  exact one_tup _ _ _ _ rfl
theorem two_sum_of {e : Py.Loc} {mb : Py.Loc → Store → R D} {st : Store} {b : List D} (h : mb e (st ++ [O.lst [.tup []]]) = .ok (.ref (st ++ [O.lst [.tup []]]).length) ((st ++ [O.lst [.tup []]]) ++ [O.lst b])) (hb : b.length ≤ 10000) :
    mOp2 addD (mLst (mCons (mTup mNil) mNil)) mb e st = .ok (.ref (st.length + 2)) (((st ++ [O.lst [.tup []]]) ++ [O.lst b]) ++ [O.lst (.tup [] :: b)]) := by
  refine op2_of (first_lst _ _) h ?_
  rw [add_lists (a := [.tup []]) (b := b) (by simp) (by simp) (by simp; omega), st3_len]
  rfl
theorem len_pairs (p : Nat) (hp : p ≤ 64) : ((List.range p).flatMap fun o => (List.range o).map fun a => D.tup [.int (a : Nat), .int (o : Nat)]).length ≤ 4096 := by
  have : ∀ l : List Nat, (∀ n ∈ l, n ≤ 64) → (l.flatMap fun o => (List.range o).map fun a => D.tup [.int (a : Nat), .int (o : Nat)]).length ≤ 64 * l.length := fun l => by
    induction l with
    | nil => simp
    | cons a l ih =>
      intro h
      have h1 := h a List.mem_cons_self
      have h2 := ih fun n hn => h n (List.mem_cons_of_mem _ hn)
      simp only [List.flatMap_cons, List.length_append, List.length_map, List.length_range, List.length_cons]
      omega
  have h := this (List.range p) fun n hn => by simp at hn; omega
  rw [List.length_range] at h
  omega
theorem lotD_map1 (l : List Nat) : (l.map fun a => [a]).map lotD = l.map fun a => D.tup [.int (a : Nat)] := by
  rw [List.map_map]; rfl
theorem e_turnings (r : Rl) (p : Nat) (hp : p ≤ 64) (st : Store) : m_turnings_of [.str (nm r), .int (p : Nat)] st = .ok (.ref st.length) (st ++ [.lst ((lots r p).map lotD)]) := by
  have fl := lowO_flat (L := st.length) (flats_lots (lots r p))
  cases r with
  | one => exact run_newS (n := st.length) (g := [.lst [.tup []]]) (rl_t (fun st => q1 st .one) (seq_rt (ret_of (first_lst _ _)))) rfl (Nat.le_refl _) (by simp [lots, lotD, natsD]) fl
  | two =>
    refine run_newS (g := [.lst [.tup []], .lst ((List.range p).map fun a => .tup [.int (a : Nat)]), .lst (.tup [] :: (List.range p).map fun a => .tup [.int (a : Nat)])]) (rl_f (fun st => q1 st .two) (rl_t (fun st => q2 st .two) (seq_rt (ret_of (two_sum_of (singles p (by omega) _) (by simp; omega)))))) (by simp) (by omega) ?_ fl
    have e : (lots .two p).map lotD = .tup [] :: (List.range p).map fun a => .tup [.int (a : Nat)] := by
      simp only [lots, List.map_cons, lotD_map1]; rfl
    rw [e]; simp
  | three =>
    have e : (lots .three p).map lotD = (.tup [] :: (List.range p).map fun a => .tup [.int (a : Nat)]) ++ (List.range p).flatMap fun o => (List.range o).map fun a => .tup [.int (a : Nat), .int (o : Nat)] := by
      simp only [lots, List.map_append, List.map_cons, lotD_map1, List.map_flatMap, List.map_map]; rfl
    refine run_newS (n := st.length + 4) (g := [.lst [.tup []], .lst ((List.range p).map fun a => .tup [.int (a : Nat)]), .lst (.tup [] :: (List.range p).map fun a => .tup [.int (a : Nat)]), .lst ((List.range p).flatMap fun o => (List.range o).map fun a => .tup [.int (a : Nat), .int (o : Nat)]), .lst ((lots .three p).map lotD)])
      (rl_f (fun st => q1 st .three) (rl_f (fun st => q2 st .three) (rl_t (fun st => q3 st .three) (seq_rt (ret_of (op2_of (two_sum_of (singles p (by omega) _) (by simp; omega)) (pairs p hp _) (c := .ref (st.length + 4)) (st3 := ((((st ++ [.lst [.tup []]]) ++ [.lst ((List.range p).map fun a => .tup [.int (a : Nat)])]) ++ [.lst (.tup [] :: (List.range p).map fun a => .tup [.int (a : Nat)])]) ++ [.lst ((List.range p).flatMap fun o => (List.range o).map fun a => .tup [.int (a : Nat), .int (o : Nat)])]) ++ [.lst ((lots .three p).map lotD)]) ?_)))))) (by simp) (by omega) (by simp) fl
    have hl := len_pairs p hp
    rw [add_lists (a := .tup [] :: (List.range p).map fun a => .tup [.int (a : Nat)]) (b := (List.range p).flatMap fun o => (List.range o).map fun a => .tup [.int (a : Nat), .int (o : Nat)]) (by simp) (by simp) (by simp at hl ⊢; omega), e]
    simp
  | twins =>
    refine run_newS (n := st.length) (g := [.lst ((List.range p).map fun a => .tup [.int (a : Nat)])]) (rl_f (fun st => q1 st .twins) (rl_f (fun st => q2 st .twins) (rl_f (fun st => q3 st .twins) (rl_t (fun st => q4 st .twins) (seq_rt (ret_of (singles p (by omega) _))))))) rfl (Nat.le_refl _) ?_ fl
    have e : (lots .twins p).map lotD = (List.range p).map fun a => .tup [.int (a : Nat)] := by simp only [lots, lotD_map1]
    rw [e]; simp
  | ruler =>
    refine run_newS (n := st.length) (g := [.lst ((List.range (p + 1)).map fun a => lotD ((List.range (p - a)).map (a + ·)))]) (rl_f (fun st => q1 st .ruler) (rl_f (fun st => q2 st .ruler) (rl_f (fun st => q3 st .ruler) (rl_f (fun st => q4 st .ruler) (rl_t (fun st => q5 st .ruler) (seq_rt (ret_of (ruler_lc p hp _)))))))) rfl (Nat.le_refl _) ?_ fl
    have e : (lots .ruler p).map lotD = (List.range (p + 1)).map fun a => lotD ((List.range (p - a)).map (a + ·)) := by simp only [lots, List.map_map]; rfl
    rw [e]; simp
  | doubles =>
    refine run_newS (n := st.length + 2) (g := [.lst [.tup []], .lst (((List.range (p - (p + 1) / 2)).map ((p + 1) / 2 + ·)).map fun a => .tup [.int (a : Nat)]), .lst (.tup [] :: ((List.range (p - (p + 1) / 2)).map ((p + 1) / 2 + ·)).map fun a => .tup [.int (a : Nat)])])
      (rl_f (fun st => q1 st .doubles) (rl_f (fun st => q2 st .doubles) (rl_f (fun st => q3 st .doubles) (rl_f (fun st => q4 st .doubles) (rl_f (fun st => q5 st .doubles) (seq_rt (ret_of (two_sum_of (dbl_lc p hp _) (by simp; omega))))))))) (by simp) (by omega) ?_ fl
    have e : (lots .doubles p).map lotD = .tup [] :: ((List.range (p - (p + 1) / 2)).map ((p + 1) / 2 + ·)).map fun a => .tup [.int (a : Nat)] := by
      simp only [lots, List.map_cons, lotD_map1]; rfl
    rw [e]; simp
end K98

set_option Elab.async false
set_option linter.all false
set_option maxRecDepth 100000
set_option maxHeartbeats 4000000
namespace K98
open Py L2 PySem PySem.Spec PyProof.Rows
def T : Rl → List Nat
  | .one => [1, 1, 1, 1, 1, 1, 1, 1, 1, 1, 1, 1, 1, 1, 1, 1, 1, 1, 1, 1, 1, 1, 1, 1, 1, 1, 1, 1, 1, 1, 1, 1, 1, 1, 1, 1, 1, 1, 1, 1, 1, 1, 1, 1, 1, 1, 1, 1, 1, 1, 1, 1, 1, 1, 1, 1, 1, 1, 1, 1, 1, 1, 1, 1]
  | .two => [1, 2, 3, 4, 5, 6, 7, 8, 9, 10, 11, 12, 13, 14, 15, 16, 17, 18, 19, 20, 21, 22, 23, 24, 25, 26, 27, 28, 29, 30, 31, 32, 33, 34, 35, 36, 37, 38, 39, 40, 41, 42, 43, 44, 45, 46, 47, 48, 49, 50, 51, 52, 53, 54, 55, 56, 57, 58, 59, 60, 61, 62, 63, 64]
  | .three => [1, 2, 4, 7, 8, 11, 13, 14, 16, 19, 21, 22, 25, 26, 28, 31, 32, 35, 37, 38, 41, 42, 44, 47, 49, 50, 52, 55, 56, 59, 61, 62, 64, 67, 69, 70, 73, 74, 76, 79, 81, 82, 84, 87, 88, 91, 93, 94, 97, 98, 100, 103, 104, 107, 109, 110, 112, 115, 117, 118, 121, 122, 124, 127]
  | .twins => [0, 1, 2, 3, 4, 5, 6, 7, 8, 9, 10, 11, 12, 13, 14, 15, 16, 17, 18, 19, 20, 21, 22, 23, 24, 25, 26, 27, 28, 29, 30, 31, 32, 33, 34, 35, 36, 37, 38, 39, 40, 41, 42, 43, 44, 45, 46, 47, 48, 49, 50, 51, 52, 53, 54, 55, 56, 57, 58, 59, 60, 61, 62, 63]
  | .ruler => [1, 2, 1, 4, 1, 2, 1, 8, 1, 2, 1, 4, 1, 2, 1, 16, 1, 2, 1, 4, 1, 2, 1, 8, 1, 2, 1, 4, 1, 2, 1, 32, 1, 2, 1, 4, 1, 2, 1, 8, 1, 2, 1, 4, 1, 2, 1, 16, 1, 2, 1, 4, 1, 2, 1, 8, 1, 2, 1, 4, 1, 2, 1, 64]
  | .doubles => [1, 1, 2, 1, 3, 2, 4, 1, 5, 3, 6, 2, 7, 4, 8, 1, 9, 5, 10, 3, 11, 6, 12, 2, 13, 7, 14, 4, 15, 8, 16, 1, 17, 9, 18, 5, 19, 10, 20, 3, 21, 11, 22, 6, 23, 12, 24, 2, 25, 13, 26, 7, 27, 14, 28, 4, 29, 15, 30, 8, 31, 16, 32, 1]
def val (t : List Nat) (l : List Nat) : Nat := xorL (l.map fun a => t.getD a 0)
def maskL (l : List Nat) : Nat := l.foldl (fun m x => m ||| 2 ^ x) 0
theorem maskL_bit (l : List Nat) (x : Nat) : (maskL l).testBit x = decide (x ∈ l) := by
  have : ∀ (l : List Nat) (m : Nat), (l.foldl (fun m x => m ||| 2 ^ x) m).testBit x = (m.testBit x || decide (x ∈ l)) := fun l => by
    induction l with
    | nil => simp
    | cons a l ih =>
      intro m
      rw [List.foldl_cons, ih, Nat.testBit_or, Nat.testBit_two_pow]
      by_cases h : a = x
      · subst h; simp
      · have h2 : ¬ x = a := fun z => h z.symm
        simp [h, h2]
  unfold maskL
  rw [this]
  simp
def okMex (l : List Nat) (v : Nat) : Bool := (maskL l) % 2 ^ (v + 1) == 2 ^ v - 1
theorem okMex_of {l : List Nat} {v : Nat} (h : okMex l v = true) : isMex v l := by
  have h' : (maskL l) % 2 ^ (v + 1) = 2 ^ v - 1 := by simpa [okMex] using h
  have hb : ∀ m, m < v + 1 → decide (m ∈ l) = decide (m < v) := fun m hm => by
    rw [← maskL_bit]
    have e1 := Nat.testBit_mod_two_pow (maskL l) (v + 1) m
    rw [h', Nat.testBit_two_pow_sub_one] at e1
    simpa [hm] using e1.symm
  refine ⟨fun hm => ?_, fun m hm => ?_⟩
  · have := hb v (by omega)
    simp [hm] at this
  · have := hb m (by omega)
    simp [hm] at this
    exact this
def okTab (r : Rl) (p : Nat) : Bool := okMex ((lots r p).map (val (T r))) ((T r).getD p 0)
theorem tab1 : (List.range 64).all (okTab .one) = true := by decide +kernel
theorem tab2 : (List.range 64).all (okTab .two) = true := by decide +kernel
theorem tab3 : (List.range 64).all (okTab .three) = true := by decide +kernel
theorem tab4 : (List.range 64).all (okTab .twins) = true := by decide +kernel
theorem tab5 : (List.range 64).all (okTab .ruler) = true := by decide +kernel
theorem tab6 : (List.range 64).all (okTab .doubles) = true := by decide +kernel
theorem tab_ok (r : Rl) (p : Nat) (hp : p < 64) : isMex ((T r).getD p 0) ((lots r p).map (val (T r))) := by
  have h : (List.range 64).all (okTab r) = true := by cases r <;> first | exact tab1 | exact tab2 | exact tab3 | exact tab4 | exact tab5 | exact tab6
  rw [List.all_eq_true] at h
  exact okMex_of (h p (List.mem_range.mpr hp))
theorem T_len (r : Rl) : (T r).length = 64 := by cases r <;> rfl
theorem lots_lt (r : Rl) (p : Nat) : ∀ l ∈ lots r p, ∀ a ∈ l, a < p := by
  cases r with
  | one => simp [lots]
  | two => simp [lots]
  | three =>
    simp only [lots, List.cons_append, List.mem_cons, List.mem_append, List.mem_map, List.mem_range, List.mem_flatMap]
    rintro l (rfl | ⟨a, h, rfl⟩ | ⟨o, h, a, h2, rfl⟩) x hx
    · cases hx
    · simp at hx; omega
    · simp at hx; omega
  | twins => simp [lots]
  | ruler =>
    simp only [lots, List.mem_map, List.mem_range]
    rintro l ⟨a, h, rfl⟩ x hx
    simp at hx
    omega
  | doubles =>
    simp only [lots, List.mem_cons, List.mem_map, List.mem_range]
    rintro l (rfl | ⟨x, ⟨j, h, rfl⟩, rfl⟩) y hy
    · cases hy
    · simp at hy; omega
theorem lots_len (r : Rl) (p : Nat) (hp : p ≤ 64) : (lots r p).length ≤ 10000 := by
  cases r with
  | three =>
    have h := len_pairs p hp
    simp [lots] at h ⊢
    omega
  | _ => simp [lots]; try omega
end K98

set_option Elab.async false
set_option linter.all false
set_option maxRecDepth 100000
set_option maxHeartbeats 4000000
namespace K98
open Py L2 PySem PySem.Spec PyProof.Rows
theorem atI_nats {l : List Nat} {a : Nat} (h : a < l.length) : atI (natsD l) (a : Int) = some (.int (l.getD a 0 : Nat)) := by
  simp only [atI, ixN, natsD, List.length_map]
  rw [if_pos (by omega), if_pos (by omega)]
  simp [h]
theorem getD_take {t : List Nat} {n a : Nat} (h : a < n) : (t.take n).getD a 0 = t.getD a 0 := by
  simp only [List.getD_eq_getElem?_getD, List.getElem?_take, h, if_true]
/-- [found[at] for at in lot] -/
theorem pick_of {i j k : Nat} {e : Py.Loc} {st : Store} {t : List Nat} {l : List Nat} {F : Nat} {d : D} (he : e[i]? = some (some (.ref F))) (hd : e[j]? = some (some d)) (hs : seqOf d st = some (natsD l)) (hk : k < e.length) (hik : k ≠ i) (hF : getL st F = some (natsD t)) (hF2 : st[F]? = some (.lst (natsD t))) (hl : l.length ≤ 1000) (ha : ∀ a ∈ l, a < t.length) :
    mLc (mIt (mVar j)) (.nm k) mYes (mOp2 ixD (mVar i) (mVar k)) [k] e st = .ok (.ref st.length) (st ++ [.lst (natsD (l.map fun a => t.getD a 0))]) := by
  have := mLc_nats (st := st) (st' := st) (e := e) (tg := .nm k) (me := mOp2 ixD (mVar i) (mVar k)) (vs := [k]) (ns := l) (mi := mIt (mVar j)) (still := stillD d (natsD l)) (fun a => .int (t.getD a 0 : Nat)) (it_of (var_of hd) (itD_seq hs)) (stillD_of hs) (by omega) fun n hn => ⟨(wipeE e [k]).set k (some (.int (n : Nat))), [], rfl, by
    rw [List.append_nil]
    refine op2_of (var_of (d := .ref F) ?_) (var_of (d := .int (n : Nat)) ?_) (ix_at hF2 (atI_nats (ha n hn)))
    · simp only [wipeE]
      rw [List.getElem?_set_ne hik, List.getElem?_set_ne hik, he]
    · simp only [wipeE]
      rw [List.getElem?_set_self (by simpa using hk)], rfl⟩
  rw [this]
  simp [natsD]
theorem numbers_step (r : Rl) (p many : Nat) (hp : p < 64) (s : Store) (F : Nat) (hF : s[F]? = some (.lst (natsD ((T r).take p)))) (x4 x5 : Option D) :
    mCall m_least_missing (mCons (mLc (mIt (mCall m_turnings_of (mCons (mVar 0) (mCons (mVar 3) mNil)))) (.nm 4) mYes (mCall m_together (mCons (mLc (mIt (mVar 4)) (.nm 5) mYes (mOp2 ixD (mVar 2) (mVar 5)) [5]) mNil)) [4]) mNil)
      [some (.str (nm r)), some (.int (many : Nat)), some (.ref F), some (.int (p : Nat)), x4, x5] s = .ok (.int ((T r).getD p 0 : Nat)) ((s ++ [.lst ((lots r p).map lotD)]) ++ [.lst (natsD ((lots r p).map (val (T r))))]) := by
  have hFl : F < s.length := (List.getElem?_eq_some_iff.mp hF).1
  have hF' : (s ++ [O.lst ((lots r p).map lotD)])[F]? = some (.lst (natsD ((T r).take p))) := by rw [List.getElem?_append_left hFl, hF]
  have hmap : mLc (mIt (mCall m_turnings_of (mCons (mVar 0) (mCons (mVar 3) mNil)))) (.nm 4) mYes (mCall m_together (mCons (mLc (mIt (mVar 4)) (.nm 5) mYes (mOp2 ixD (mVar 2) (mVar 5)) [5]) mNil)) [4]
      [some (.str (nm r)), some (.int (many : Nat)), some (.ref F), some (.int (p : Nat)), x4, x5] s = .ok (.ref (s ++ [O.lst ((lots r p).map lotD)]).length) ((s ++ [O.lst ((lots r p).map lotD)]) ++ [O.lst (((lots r p).map lotD).map fun d => match d with | .tup ds => .int (xorL (ds.map fun x => match x with | .int i => (T r).getD i.toNat 0 | _ => 0) : Nat) | _ => .non)]) := by
    refine mLc_map (it := ⟨(lots r p).map lotD, stillD (.ref s.length) ((lots r p).map lotD)⟩) _ (it_of (call_of (two_of (var_of rfl) (var_of rfl)) (e_turnings r p (by omega) s)) (itD_seq seqOf_new)) (stillD_of seqOf_new) (by rw [List.length_map]; exact le_size (by have := lots_len r p (by omega); omega)) fun d hd => ?_
    obtain ⟨l, hl, rfl⟩ := List.mem_map.mp hd
    have hlt := lots_lt r p l hl
    refine ⟨[some (.str (nm r)), some (.int (many : Nat)), some (.ref F), some (.int (p : Nat)), some (lotD l), x5], [.lst (natsD (l.map fun a => ((T r).take p).getD a 0))], rfl, ?_, rfl⟩
    have hlen : l.length ≤ 1000 := by
      cases r with
      | one => simp [lots] at hl; simp [hl]
      | two => simp [lots] at hl; rcases hl with rfl | ⟨a, _, rfl⟩ <;> simp
      | three => simp [lots] at hl; rcases hl with rfl | ⟨a, _, rfl⟩ | ⟨o, _, a, _, rfl⟩ <;> simp
      | twins => simp [lots] at hl; obtain ⟨a, _, rfl⟩ := hl; simp
      | ruler => simp [lots] at hl; obtain ⟨a, _, rfl⟩ := hl; simp; omega
      | doubles => simp [lots] at hl; rcases hl with rfl | ⟨a, _, rfl⟩ <;> simp
    refine call_of (one_of (pick_of (t := (T r).take p) (l := l) (F := F) (d := lotD l) rfl rfl rfl (by simp) (by omega) ?_ hF' hlen (fun a ha => ?_))) ?_
    · unfold getL; rw [hF']
    · rw [List.length_take, T_len]; have := hlt a ha; omega
    · rw [e_together (ns := l.map fun a => ((T r).take p).getD a 0) seqOf_new]
      simp only [lotD, natsD, List.map_map]
      congr 4
      refine List.map_congr_left fun a ha => ?_
      rw [getD_take (hlt a ha)]
      simp
  have e1 : (((lots r p).map lotD).map fun d => match d with | .tup ds => D.int (xorL (ds.map fun x => match x with | .int i => (T r).getD i.toNat 0 | _ => 0) : Nat) | _ => .non) = natsD ((lots r p).map (val (T r))) := by
    unfold natsD
    rw [List.map_map, List.map_map]
    refine List.map_congr_left fun l hl => ?_
    simp only [Function.comp, lotD, natsD, val, List.map_map]
    rfl
  rw [e1] at hmap
  exact call_of (one_of hmap) (e_least seqOf_new (by rw [List.length_map]; have := lots_len r p (by omega); omega) (tab_ok r p hp))
theorem set_mid {st g : Store} {a b : O} : ((st ++ [a]) ++ g).set st.length b = (st ++ [b]) ++ g := by
  rw [List.set_append_left _ _ (by simp), List.set_append_right _ _ (by simp)]
  simp
theorem take_succ {t : List Nat} {p : Nat} (h : p < t.length) : natsD (t.take (p + 1)) = natsD (t.take p) ++ [.int (t.getD p 0 : Nat)] := by
  unfold natsD
  rw [List.take_add_one, List.map_append]
  simp [h]
theorem e_numbers (r : Rl) (many : Nat) (hm : many ≤ 64) (st : Store) : m_numbers_of [.str (nm r), .int (many : Nat)] st = .ok (.ref st.length) (st ++ [.lst (natsD ((T r).take many))]) := by
  have loop : ∀ (k p : Nat) (g : Store) (x3 : Option D), p + k = many → ∃ g' x3', forL (fun _ => True) (fun d e st => (gN 3 d e st).seq (sSeq (sExp (mMt appD (mVar 2) (mCons (mCall m_least_missing (mCons (mLc (mIt (mCall m_turnings_of (mCons (mVar 0) (mCons (mVar 3) mNil)))) (.nm 4) mYes (mCall m_together (mCons (mLc (mIt (mVar 4)) (.nm 5) mYes (mOp2 ixD (mVar 2) (mVar 5)) [5]) mNil)) [4]) mNil)) mNil))) (fun e st => .nx e st)))
      (natsD ((List.range k).map (p + ·))) [some (.str (nm r)), some (.int (many : Nat)), some (.ref st.length), x3, none, none] ((st ++ [.lst (natsD ((T r).take p))]) ++ g) = .nx [some (.str (nm r)), some (.int (many : Nat)), some (.ref st.length), x3', none, none] ((st ++ [.lst (natsD ((T r).take many))]) ++ g') := by
    intro k
    induction k with
    | zero =>
      intro p g x3 h
      have : p = many := by omega
      subst this
      exact ⟨g, x3, forL_nil trivial⟩
    | succ k ih =>
      intro p g x3 h
      have hp : p < 64 := by omega
      obtain ⟨g', x3', hg⟩ := ih (p + 1) (g ++ [.lst ((lots r p).map lotD)] ++ [.lst (natsD ((lots r p).map (val (T r))))]) (some (.int (p : Nat))) (by omega)
      refine ⟨g', x3', ?_⟩
      have e1 : natsD ((List.range (k + 1)).map (p + ·)) = .int (p : Nat) :: natsD ((List.range k).map ((p + 1) + ·)) := by
        rw [List.range_succ_eq_map, List.map_cons, List.map_map]
        simp only [natsD, List.map_cons, Nat.add_zero, List.map_map]
        congr 2
        funext x
        simp only [Function.comp]
        congr 1
        omega
      rw [e1]
      have hF : ((st ++ [O.lst (natsD ((T r).take p))]) ++ g)[st.length]? = some (.lst (natsD ((T r).take p))) := by
        rw [List.getElem?_append_left (by simp)]; simp
      rw [forL_nx trivial (e' := [some (.str (nm r)), some (.int (many : Nat)), some (.ref st.length), some (.int (p : Nat)), none, none]) (st' := (st ++ [.lst (natsD ((T r).take (p + 1)))]) ++ (g ++ [.lst ((lots r p).map lotD)] ++ [.lst (natsD ((lots r p).map (val (T r))))]))]
      · exact hg
      · show (Fl.nx _ _).seq _ = _
        rw [Fl.seq_nx]
        refine seq_nx (exp_of (a := .non) (mt_of (var_of rfl) ?_ (one_of (numbers_step r p many hp _ st.length hF none none)) ?_)) rfl
        · simp only [isLst, hF]
        · simp only [appD]
          have hF2 : ((((st ++ [O.lst (natsD ((T r).take p))]) ++ g) ++ [O.lst ((lots r p).map lotD)]) ++ [O.lst (natsD ((lots r p).map (val (T r))))])[st.length]? = some (.lst (natsD ((T r).take p))) := by
            rw [List.append_assoc, List.append_assoc, List.append_assoc, List.getElem?_append_right (by simp)]; simp
          rw [hF2]
          simp only
          rw [if_pos (by rw [natsD_len, List.length_take, sizeLine_eq]; omega), take_succ (by rw [T_len]; exact hp)]
          congr 2
          rw [List.append_assoc, List.append_assoc, set_mid, List.append_assoc, ← List.append_assoc, ← List.append_assoc]
          simp
  obtain ⟨g', x3', hl⟩ := loop many 0 [] none (by omega)
  rw [List.append_nil] at hl
  have e0 : natsD (List.range many) = natsD ((List.range many).map (0 + ·)) := by congr 1; simp
  refine run_newS (n := st.length) (st' := (st ++ [.lst (natsD ((T r).take many))]) ++ g') (g := [.lst (natsD ((T r).take many))] ++ g') ?_ (by rw [List.append_assoc]) (Nat.le_refl _) (by rw [List.append_assoc, List.getElem?_append_right (by simp)]; simp) (lowO_flat (flats_nats _))
  refine seq_nx (set_of (lst_of nil_of (by simp))) (seq_nx (e' := [some (.str (nm r)), some (.int (many : Nat)), some (.ref st.length), x3', none, none]) (for_of (rgs_of (one_of (var_of rfl)) (rg1 many (by omega))) ?_) (seq_rt (ret_of (var_of rfl))))
  rw [e0]
  exact hl
end K98

set_option Elab.async false
set_option linter.all false
set_option maxRecDepth 100000
set_option maxHeartbeats 4000000
namespace K98
open Py L2 PySem PySem.Spec PyProof.Rows
/-! ### rows of coins -/
def chN (b : Bool) : Nat := if b then 72 else 84
def chS (b : Bool) : Str := ⟨#[chN b]⟩
def rowS (bs : List Bool) : Str := ⟨(bs.map chN).toArray⟩
theorem rowS_len (bs : List Bool) : (rowS bs).length = bs.length := by simp [rowS, Str.length]
theorem H_eq : ("H" : Str) = chS true := by decide +kernel
theorem T_eq : ("T" : Str) = chS false := by decide +kernel
theorem okS_ch (b : Bool) : okS (chS b) = true := by cases b <;> decide +kernel
def charsD (bs : List Bool) : List D := bs.map fun b => .str (chS b)
theorem row_chars (bs : List Bool) : ((rowS bs).cps.toList.map fun c => D.str ⟨#[c]⟩) = charsD bs := by
  simp [rowS, charsD, chS, Function.comp]
theorem eqH (b : Bool) (st : Store) : eqD (.str (chS b)) (.str "H") st = some (.bl b, st) := by
  rw [H_eq, eqSt (okS_ch b) (okS_ch true)]
  cases b <;> rfl
theorem neH (b : Bool) (st : Store) : neD (.str (chS b)) (.str "H") st = some (.bl (!b), st) := by
  rw [H_eq, neSt (okS_ch b) (okS_ch true)]
  cases b <;> rfl
theorem inHT (b : Bool) (st : Store) : inA (.str (chS b)) (.str "HT") st = some (.bl true, st) := by
  have e : inDictD (.str (chS b)) (.str "HT") st = none := rfl
  unfold inA
  rw [e]
  have h : inB (.str (chS b)) (.str "HT") st = some true := by
    have : decide (chN b ∈ ("HT" : Str).cps.toList) = true := by cases b <;> decide +kernel
    show some (decide (chN b ∈ ("HT" : Str).cps.toList)) = some true
    rw [this]
  simp only [inD, h]
theorem bsOf_map (bs : List Bool) : bsOf (bs.map .bl) = some bs := by
  induction bs with
  | nil => rfl
  | cons b bs ih => simp only [List.map_cons, bsOf, ih]
theorem allD_of {st : Store} {n : Nat} {bs : List Bool} (h : getL st n = some (bs.map .bl)) : allD [.ref n] st = some (.bl (bs.all id), st) := by
  simp only [allD, h, bsOf_map]
theorem e_check_rule (r : Rl) (st : Store) : m_check_rule [.str (nm r)] st = .ok .non st := by
  have h : ∀ st, ninA (.str (nm r)) (.kt [.str "one", .str "two", .str "three", .str "twins", .str "ruler", .str "doubles"]) st = some (.bl false, st) := fun st => by
    have e : ninDictD (.str (nm r)) (.kt [.str "one", .str "two", .str "three", .str "twins", .str "ruler", .str "doubles"]) st = none := rfl
    unfold ninA
    rw [e]
    have hb : inB (.str (nm r)) (.kt [.str "one", .str "two", .str "three", .str "twins", .str "ruler", .str "doubles"]) st = some true := by
      have e2 : (([.str "one", .str "two", .str "three", .str "twins", .str "ruler", .str "doubles"] : List D).any fun y => eqF y (.str (nm r))) = true := by cases r <;> decide +kernel
      simp only [inB]
      rw [if_pos ⟨rfl, rfl⟩, e2]
    simp only [ninD, hb]
    rfl
  refine run_nx0 (e := [some (.str (nm r))]) (seq_nx (if_f (or_f (not_of (k := true) (asB_ok ?_)) (asB_ok (op2_of (var_of rfl) rfl (h st)))) rfl) rfl)
  simp [startE]
theorem e_is_row (bs : List Bool) (hl : bs.length ≤ 64) (st : Store) : m_is_row [.str (rowS bs)] st = .ok (.bl true) st := by
  have hc : mLc (mIt (mVar 0)) (.nm 1) mYes (mOp2 inA (mVar 1) (mC (.str "HT"))) [1] [some (.str (rowS bs)), none] st = .ok (.ref st.length) (st ++ [.lst ((charsD bs).map fun _ => .bl true)]) := by
    refine mLc_map (it := ⟨charsD bs, fun _ => True⟩) (fun _ => .bl true) (it_of (var_of rfl) ?_) trivial (by simp only [charsD, List.length_map]; exact le_size (by omega)) fun d hd => ?_
    · simp only [itD, row_chars]
    · obtain ⟨b, _, rfl⟩ := List.mem_map.mp hd
      exact ⟨[some (.str (rowS bs)), some (.str (chS b))], [], rfl, by rw [List.append_nil]; exact op2_of (var_of rfl) rfl (inHT b st), rfl⟩
  have hm : (charsD bs).map (fun _ => D.bl true) = (bs.map fun _ => true).map .bl := by simp [charsD, Function.comp]
  rw [hm] at hc
  have hlen : lenD [.str (rowS bs)] st = some (.int (bs.length : Nat), st) := by
    simp only [lenD]
    rw [if_pos (by rw [rowS_len]; exact le_size (by omega)), rowS_len]
  have hall := opN_of (one_of hc) (allD_of (st := st ++ [O.lst ((bs.map fun _ => true).map .bl)]) (n := st.length) (bs := bs.map fun _ => true) getL_new)
  refine run_rt (g := [.lst ((bs.map fun _ => true).map .bl)]) (d := .bl true) ?_ rfl
  refine seq_rt (ret_of ?_)
  have hle := op2_of (f := leD) (opN_of (one_of (var_of (i := 0) (e := [some (.str (rowS bs)), none]) rfl)) hlen) (x_c (.int 64)) leI
  have e64 : decide ((bs.length : Int) ≤ 64) = true := by simp; omega
  rw [e64] at hle
  have hT : (bs.map fun _ => true).all id = true := by simp
  rw [hT] at hall
  exact andV_t (isi_of (var_of rfl) rfl rfl) (andV_t hle hall)
theorem e_check_row (bs : List Bool) (hl : bs.length ≤ 64) (st : Store) : m_check_row [.str (rowS bs)] st = .ok .non st :=
  run_nx0 (e := [some (.str (rowS bs))]) (seq_nx (if_f (not_of (k := true) (asB_ok (call_of (one_of (var_of rfl)) (e_is_row bs hl st)))) rfl) rfl)
theorem e_place_numbers (r : Rl) (many : Nat) (hm : many ≤ 64) (st : Store) : m_place_numbers [.str (nm r), .int (many : Nat)] st = .ok (.tup (natsD ((T r).take many))) st := by
  have hw : m_is_within [.int (many : Nat), .int 0, .int 64] st = .ok (.bl true) st := by
    rw [e_is_within]
    simp
    omega
  refine run_rt (g := [.lst (natsD ((T r).take many))]) ?_ (by simp [flat, flats_nats])
  refine seq_nx (exp_of (call_of (one_of (var_of rfl)) (e_check_rule r st))) (seq_nx (if_f (not_of (k := true) (asB_ok (call_of (cons_of (var_of rfl) (two_of rfl rfl)) hw))) rfl) (seq_rt (ret_of (opN_of (one_of (call_of (two_of (var_of rfl) (var_of rfl)) (e_numbers r many hm st))) ?_))))
  simp [tupD]
end K98

set_option Elab.async false
set_option linter.all false
set_option maxRecDepth 100000
set_option maxHeartbeats 4000000
namespace K98
open Py L2 PySem PySem.Spec PyProof.Rows
def hdF : Nat → List Bool → List Nat
  | _, [] => []
  | n, b :: bs => if b then n :: hdF (n + 1) bs else hdF (n + 1) bs
def hds (bs : List Bool) : List Nat := hdF 0 bs
theorem hdF_mem {n : Nat} {bs : List Bool} {p : Nat} : p ∈ hdF n bs ↔ n ≤ p ∧ bs[p - n]? = some true := by
  induction bs generalizing n with
  | nil => simp [hdF]
  | cons b bs ih =>
    unfold hdF
    by_cases hp : p = n
    · subst hp
      cases b with
      | true => simp
      | false => simp [ih]; omega
    · have e1 : p - n = (p - (n + 1)) + 1 ∨ p < n := by omega
      cases b with
      | true =>
        simp only [if_true, List.mem_cons, ih]
        rcases e1 with e1 | e1
        · rw [e1]; simp; constructor
          · rintro (h | h)
            · exact absurd h hp
            · exact ⟨by omega, h.2⟩
          · exact fun h => .inr ⟨by omega, h.2⟩
        · constructor
          · rintro (h | h)
            · exact absurd h hp
            · omega
          · intro h; omega
      | false =>
        simp only [Bool.false_eq_true, if_false, ih]
        rcases e1 with e1 | e1
        · rw [e1]; simp; intro _; omega
        · constructor
          · intro h; omega
          · intro h; omega
theorem hds_mem {bs : List Bool} {p : Nat} : p ∈ hds bs ↔ bs[p]? = some true := by
  unfold hds; rw [hdF_mem]; simp
theorem hds_lt {bs : List Bool} {p : Nat} (h : p ∈ hds bs) : p < bs.length := (List.getElem?_eq_some_iff.mp (hds_mem.mp h)).1
theorem hdF_len (n : Nat) (bs : List Bool) : (hdF n bs).length ≤ bs.length := by
  induction bs generalizing n with
  | nil => simp [hdF]
  | cons b bs ih =>
    unfold hdF
    have := ih (n + 1)
    cases b <;> simp <;> omega
theorem hds_len (bs : List Bool) : (hds bs).length ≤ bs.length := hdF_len 0 bs
theorem enF_mem {n : Nat} {bs : List Bool} {d : D} (h : d ∈ enF n (charsD bs)) : ∃ p b, d = .tup [.int (p : Nat), .str (chS b)] ∧ n ≤ p ∧ p < n + bs.length ∧ bs[p - n]? = some b := by
  induction bs generalizing n with
  | nil => cases h
  | cons b bs ih =>
    rcases List.mem_cons.mp h with rfl | h
    · exact ⟨n, b, rfl, Nat.le_refl _, by simp, by simp⟩
    · obtain ⟨p, b', e, h1, h2, h3⟩ := ih h
      exact ⟨p, b', e, by omega, by simp at h2 ⊢; omega, by
        have : p - n = (p - (n + 1)) + 1 := by omega
        rw [this]; simpa using h3⟩
def pickH (f : Nat → D) : D → Option D
  | .tup [.int p, .str s] => if s = chS true then some (f p.toNat) else none
  | _ => none
theorem pickH_all (f : Nat → D) (n : Nat) (bs : List Bool) : (enF n (charsD bs)).filterMap (pickH f) = (hdF n bs).map f := by
  induction bs generalizing n with
  | nil => rfl
  | cons b bs ih =>
    have e : charsD (b :: bs) = .str (chS b) :: charsD bs := rfl
    rw [e]
    unfold enF hdF
    rw [List.filterMap_cons, ih]
    cases b with
    | true => simp [pickH]
    | false =>
      have : ¬ chS false = chS true := by decide
      simp [pickH, this]
theorem en_row (bs : List Bool) (st : Store) : enD (.str (rowS bs)) st = some ⟨enF 0 (charsD bs), fun _ => True⟩ := by
  simp only [enD, itD, row_chars, Option.map_some, enL_F]
theorem enF_len (n : Nat) (ds : List D) : (enF n ds).length = ds.length := by
  induction ds generalizing n with
  | nil => rfl
  | cons d ds ih => simp [enF, ih]
theorem heads_lc {bs : List Bool} {e : Py.Loc} {st : Store} {i ka ks : Nat} {me : Py.Loc → Store → R D} (f : Nat → D) (hl : bs.length ≤ 1000) (hi : e[i]? = some (some (.str (rowS bs)))) (hne : ka ≠ ks) (hs : ks < e.length)
    (h : ∀ p b, p < bs.length → ∃ g, me (((wipeE e [ka, ks]).set ka (some (.int (p : Nat)))).set ks (some (.str (chS b)))) st = .ok (f p) (st ++ g) ∧ lowD st.length (f p) = true) :
    mLc (mEn (mVar i)) (.tp [ka, ks]) (asB (mOp2 eqD (mVar ks) (mC (.str "H")))) me [ka, ks] e st = .ok (.ref st.length) (st ++ [.lst ((hds bs).map f)]) := by
  have := mLc_of (e := e) (st := st) (st' := st) (mi := mEn (mVar i)) (tg := .tp [ka, ks]) (mt := asB (mOp2 eqD (mVar ks) (mC (.str "H")))) (me := me) (vs := [ka, ks]) (it := ⟨enF 0 (charsD bs), fun _ => True⟩) (pickH f) (en_of (var_of hi) (en_row bs st)) trivial (by rw [enF_len]; simp only [charsD, List.length_map]; exact le_size (by omega)) fun d hd => by
    obtain ⟨p, b, rfl, _, hp, _⟩ := enF_mem hd
    have hbd : bindE (.tp [ka, ks]) (.tup [.int (p : Nat), .str (chS b)]) (wipeE e [ka, ks]) = some (((wipeE e [ka, ks]).set ka (some (.int (p : Nat)))).set ks (some (.str (chS b)))) := rfl
    have hv : (((wipeE e [ka, ks]).set ka (some (.int (p : Nat)))).set ks (some (.str (chS b))))[ks]? = some (some (.str (chS b))) := by
      rw [List.getElem?_set_self (by simp [wipeE]; exact hs)]
    have ht := asB_ok (op2_of (f := eqD) (mb := mC (.str "H")) (var_of (st := st) hv) rfl (eqH b st))
    cases b with
    | true =>
      obtain ⟨g, h1, h2⟩ := h p true (by omega)
      rw [lcB_some hbd ht h1 h2]
      simp [pickH]
    | false =>
      have hnt : ¬ chS false = chS true := by decide
      rw [lcB_none (g := []) hbd (by rw [List.append_nil]; exact ht)]
      simp [pickH, hnt]
  rw [this, pickH_all]
  rfl
/-- the xor of the heads' numbers -/
def whole (r : Rl) (bs : List Bool) : Nat := val (T r) (hds bs)
theorem heads_num {r : Rl} {bs : List Bool} {e : Py.Loc} {st : Store} {i ka ks iF F : Nat} {many : Nat} (hm : many ≤ 64) (hb : bs.length ≤ many) (hi : e[i]? = some (some (.str (rowS bs)))) (hne : ka ≠ ks) (hs : ks < e.length) (hka : ka < e.length) (h1 : iF ≠ ka) (h2 : iF ≠ ks) (hF : e[iF]? = some (some (.ref F))) (hst : st[F]? = some (.lst (natsD ((T r).take many)))) :
    mLc (mEn (mVar i)) (.tp [ka, ks]) (asB (mOp2 eqD (mVar ks) (mC (.str "H")))) (mOp2 ixD (mVar iF) (mVar ka)) [ka, ks] e st = .ok (.ref st.length) (st ++ [.lst (natsD ((hds bs).map fun a => (T r).getD a 0))]) := by
  rw [heads_lc (bs := bs) (fun a => .int ((T r).getD a 0 : Nat)) (by omega) hi hne hs fun p b hp => ⟨[], by
    rw [List.append_nil]
    refine op2_of (var_of (d := .ref F) ?_) (var_of (d := .int (p : Nat)) ?_) (ix_at hst ?_)
    · rw [List.getElem?_set_ne (Ne.symm h2), List.getElem?_set_ne (Ne.symm h1)]
      simp only [wipeE]
      rw [List.getElem?_set_ne (Ne.symm h1), List.getElem?_set_ne (Ne.symm h2), hF]
    · rw [List.getElem?_set_ne (Ne.symm hne), List.getElem?_set_self (by simp [wipeE]; exact hka)]
    · rw [atI_nats (by rw [List.length_take, T_len]; omega), getD_take (by omega)], rfl⟩]
  simp [natsD]
theorem e_coins (r : Rl) (bs : List Bool) (hl : bs.length ≤ 64) (st : Store) : m_coins_number [.str (nm r), .str (rowS bs)] st = .ok (.int (whole r bs : Nat)) st := by
  have hlen : ∀ st, lenD [.str (rowS bs)] st = some (.int (bs.length : Nat), st) := fun st => by
    simp only [lenD]
    rw [if_pos (by rw [rowS_len]; exact le_size (by omega)), rowS_len]
  refine run_rtS (st' := (st ++ [.lst (natsD ((T r).take bs.length))]) ++ [.lst (natsD ((hds bs).map fun a => (T r).getD a 0))]) (g := [.lst (natsD ((T r).take bs.length))] ++ [.lst (natsD ((hds bs).map fun a => (T r).getD a 0))]) ?_ (by rw [List.append_assoc]) rfl
  refine seq_nx (exp_of (call_of (one_of (var_of rfl)) (e_check_rule r st))) (seq_nx (exp_of (call_of (one_of (var_of rfl)) (e_check_row bs hl st))) (seq_nx (set_of (call_of (two_of (var_of rfl) (opN_of (one_of (var_of rfl)) (hlen _))) (e_numbers r bs.length hl st))) (seq_rt (ret_of (call_of (one_of (heads_num (r := r) (bs := bs) (many := bs.length) (F := st.length) hl (Nat.le_refl _) rfl (by omega) (by simp [startE]) (by simp [startE]) (by omega) (by omega) rfl (by simp))) (e_together seqOf_new))))))
end K98

set_option Elab.async false
set_option linter.all false
set_option maxRecDepth 100000
set_option maxHeartbeats 4000000
namespace K98
open Py L2 PySem PySem.Spec PyProof.Rows
theorem str_ext {a b : Str} (h : a.cps.toList = b.cps.toList) : a = b := by
  cases a; cases b
  simp at h
  rw [h]
theorem join_row (bs : List Bool) : Str.join "" (bs.map chS) = rowS bs := by
  have ha : ∀ a b : Str, (a ++ b).cps.toList = a.cps.toList ++ b.cps.toList := fun a b => by
    show (a.cps ++ b.cps).toList = _
    simp
  have he : ("" : Str).cps.toList = [] := by decide +kernel
  induction bs with
  | nil => exact str_ext (by decide +kernel)
  | cons b bs ih =>
    cases bs with
    | nil => exact str_ext (by simp [Str.join, rowS, chS])
    | cons c bs =>
      have e : Str.join "" ((b :: c :: bs).map chS) = chS b ++ "" ++ Str.join "" ((c :: bs).map chS) := rfl
      rw [e, ih]
      refine str_ext ?_
      rw [ha, ha, he]
      simp [rowS, chS]
theorem strsOf_chars (bs : List Bool) : strsOf (charsD bs) = some (bs.map chS) := by
  induction bs with
  | nil => rfl
  | cons b bs ih =>
    have e : charsD (b :: bs) = .str (chS b) :: charsD bs := rfl
    rw [e]
    simp only [strsOf, ih, List.map_cons]
theorem join_chars {bs : List Bool} {st : Store} {n : Nat} (h : st[n]? = some (.lst (charsD bs))) (hl : bs.length ≤ 1000) : joinD (.str "") [.ref n] st = some (.str (rowS bs), st) := by
  have hs : seqOf (.ref n) st = some (charsD bs) := by simp only [seqOf, getL, h]
  simp only [joinD, hs, strsOf_chars]
  have h1 : ((bs.map chS).map (·.length)).sum = bs.length := by
    clear h hs hl
    induction bs with
    | nil => rfl
    | cons b bs ih =>
      simp only [List.map_cons, List.sum_cons, List.length_cons] at ih ⊢
      rw [ih]
      have : (chS b).length = 1 := rfl
      omega
  have h2 : ("" : Str).length = 0 := by decide +kernel
  rw [if_pos (by rw [h1, h2]; omega), TL.join_eq, join_row]
def flip (bs : List Bool) (p : Nat) : List Bool := bs.set p (!(bs.getD p false))
def turnB (bs : List Bool) (l : List Nat) : List Bool := l.foldl flip bs
theorem flip_len (bs : List Bool) (p : Nat) : (flip bs p).length = bs.length := by simp [flip]
theorem turnB_len (l : List Nat) (bs : List Bool) : (turnB bs l).length = bs.length := by
  induction l generalizing bs with
  | nil => rfl
  | cons a l ih => unfold turnB; rw [List.foldl_cons]; exact (ih (flip bs a)).trans (flip_len bs a)
theorem atI_chars {bs : List Bool} {p : Nat} (h : p < bs.length) : atI (charsD bs) (p : Int) = some (.str (chS (bs.getD p false))) := by
  simp only [atI, ixN, charsD, List.length_map]
  rw [if_pos (by omega), if_pos (by omega)]
  simp [h]
theorem e_turned_row (bs : List Bool) (l : List Nat) (hb : bs.length ≤ 64) (hl : ∀ a ∈ l, a < bs.length) (st : Store) : m_turned_row [.str (rowS bs), .tup (natsD l)] st = .ok (.str (rowS (turnB bs l))) st := by
  have loop : ∀ (l0 l : List Nat) (c : List Bool) (x : Option D), (∀ a ∈ l, a < c.length) → c.length = bs.length → ∃ x', forL (fun _ => True) (fun d e st => (gN 3 d e st).seq (sSeq (sAsg (mIf (asB (mOp2 eqD (mOp2 ixD (mVar 2) (mVar 3)) (mC (.str "H")))) (mC (.str "T")) (mC (.str "H"))) (gSb setD (mVar 2) (mVar 3))) (fun e st => .nx e st)))
      (natsD l) [some (.str (rowS bs)), some (.tup (natsD l0)), some (.ref st.length), x] (st ++ [.lst (charsD c)]) = .nx [some (.str (rowS bs)), some (.tup (natsD l0)), some (.ref st.length), x'] (st ++ [.lst (charsD (turnB c l))]) := by
    intro l0 l
    induction l with
    | nil => exact fun c x _ _ => ⟨x, forL_nil trivial⟩
    | cons a l ih =>
      intro c x h hc
      have ha := h a List.mem_cons_self
      obtain ⟨x', hx⟩ := ih (flip c a) (some (.int (a : Nat))) (fun b hb => by rw [flip_len]; exact h b (List.mem_cons_of_mem _ hb)) ((flip_len c a).trans hc)
      refine ⟨x', ?_⟩
      rw [show natsD (a :: l) = .int (a : Nat) :: natsD l from rfl, forL_nx trivial (e' := [some (.str (rowS bs)), some (.tup (natsD l0)), some (.ref st.length), some (.int (a : Nat))]) (st' := st ++ [.lst (charsD (flip c a))])]
      · exact hx
      · show (Fl.nx _ _).seq _ = _
        rw [Fl.seq_nx]
        have hn : (st ++ [O.lst (charsD c)])[st.length]? = some (.lst (charsD c)) := by simp
        have hix := op2_of (f := ixD) (ma := mVar 2) (mb := mVar 3) (e := [some (.str (rowS bs)), some (.tup (natsD l0)), some (.ref st.length), some (.int (a : Nat))]) (st := st ++ [O.lst (charsD c)]) (var_of rfl) (var_of rfl) (ix_at hn (atI_chars ha))
        have hq := asB_ok (op2_of (f := eqD) (mb := mC (.str "H")) hix rfl (eqH (c.getD a false) _))
        have hset : setD (.ref st.length) (.int (a : Nat)) (.str (chS (!(c.getD a false)))) (st ++ [O.lst (charsD c)]) = some (st ++ [O.lst (charsD (flip c a))]) := by
          simp only [setD, hn]
          have hi : ixN (charsD c).length (a : Int) = some a := by
            simp only [ixN, charsD, List.length_map]
            rw [if_pos (by omega), if_pos (by omega)]
            simp
          rw [hi]
          simp only
          rw [List.set_append_right _ _ (Nat.le_refl _)]
          simp [charsD, flip]
        refine seq_nx (asg_of (a := .str (chS (!(c.getD a false)))) ?_ (sub_of (var_of rfl) (var_of rfl) hset)) rfl
        cases hcb : c.getD a false with
        | true =>
          rw [hcb] at hq
          have q := ifx_t (k := true) (mb := mC (.str "H")) hq (x_c (.str "T"))
          conv at q => rhs; rw [T_eq]
          exact q
        | false =>
          rw [hcb] at hq
          have q := ifx_f (k := true) (ma := mC (.str "T")) hq (x_c (.str "H"))
          conv at q => rhs; rw [H_eq]
          exact q
  obtain ⟨x', hx⟩ := loop l l bs none hl rfl
  have hlst : listD [.str (rowS bs)] st = some (.ref st.length, st ++ [.lst (charsD bs)]) := by
    simp only [listD]
    rw [if_pos (by rw [rowS_len]; exact le_size (by omega)), row_chars]
  refine run_rt (g := [.lst (charsD (turnB bs l))]) ?_ rfl
  exact seq_nx (set_of (opN_of (one_of (var_of rfl)) hlst)) (seq_nx (for_of (it_of (var_of rfl) rfl) hx) (seq_rt (ret_of (mtS_of rfl (var_of rfl) (join_chars (by simp) (by rw [turnB_len]; omega))))))
end K98

set_option Elab.async false
set_option linter.all false
set_option maxRecDepth 100000
set_option maxHeartbeats 4000000
namespace K98
open Py L2 PySem PySem.Spec PyProof.Rows
/-! ### sorted lots -/
def intsP (l : List Nat) : List PyData := (l.map fun n : Nat => (n : Int)).map .int
theorem py_nats (st : Store) (l : List Nat) (f : Nat → Option PyData) : pyGs f (natsD l) = some (intsP l) := by
  induction l with
  | nil => rfl
  | cons a l ih =>
    simp only [natsD, List.map_cons, pyGs, pyG] at ih ⊢
    rw [ih]
    rfl
theorem py_lot (st : Store) (l : List Nat) : toPy st (lotD l) = some (.tuple (intsP l)) := by
  unfold toPy lotD
  simp only [pyG, py_nats st]
theorem pys_lots (st : Store) (ls : List (List Nat)) : pysOf st (ls.map lotD) = some (ls.map fun l => (lotD l, PyData.tuple (intsP l))) := by
  induction ls with
  | nil => rfl
  | cons l ls ih => simp only [List.map_cons, pysOf, py_lot, ih]
theorem sort_lots (st : Store) (n : Nat) (ls : List (List Nat)) (hl : ls.length ≤ 10000) (h : getL st n = some (ls.map lotD)) : ∃ ls' : List (List Nat), (∀ l, l ∈ ls' ↔ l ∈ ls) ∧ sortD [.ref n] st = some (.ref st.length, st ++ [.lst (ls'.map lotD)]) := by
  refine ⟨ls.mergeSort (fun a b => PySem.W.dataLe false (fun (p : D × PyData) => p.2) (lotD a, PyData.tuple (intsP a)) (lotD b, PyData.tuple (intsP b))), fun l => List.mem_mergeSort, ?_⟩
  have hm := List.map_mergeSort (r := fun a b => PySem.W.dataLe false (fun (p : D × PyData) => p.2) (lotD a, PyData.tuple (intsP a)) (lotD b, PyData.tuple (intsP b))) (s := PySem.W.dataLe false fun (p : D × PyData) => p.2) (f := fun l => (lotD l, PyData.tuple (intsP l))) (l := ls) (fun a _ b _ => rfl)
  have hS : Sorts (ls.map fun l => (lotD l, PyData.tuple (intsP l))) := by
    refine ⟨?_, .inl fun p hp => ?_, fun p hp => ?_, ?_⟩
    · rw [List.map_map]
      refine PySem.W.AllAlike.of fun l l' => ?_
      show PySem.W.alike (.tuple (intsP l)) (.tuple (intsP l')) = true
      simp only [PySem.W.alike]
      exact PySem.W.alike_ints _ _
    · obtain ⟨l, _, rfl⟩ := List.mem_map.mp hp; exact ⟨_, rfl⟩
    · obtain ⟨l, _, rfl⟩ := List.mem_map.mp hp
      have : PyData.depthAll (intsP l) = 0 := PySem.W.depth_ints _
      simp only [PyData.depth, this]
      omega
    · rw [List.length_map]; exact le_size (by omega)
  unfold sortD
  simp only [h, pys_lots]
  rw [if_pos hS]
  congr 4
  unfold sortP
  rw [← hm, List.map_map]
  rfl
/-! ### the winning turn -/
def cond (r : Rl) (w p : Nat) (l : List Nat) : Prop := w ^^^ (T r).getD p 0 ^^^ val (T r) l = 0
instance (r : Rl) (w p : Nat) (l : List Nat) : Decidable (cond r w p l) := by unfold cond; infer_instance
theorem lot_len (r : Rl) (p : Nat) (hp : p < 64) : ∀ l ∈ lots r p, l.length ≤ 1000 := by
  intro l hl
  cases r with
  | one => simp [lots] at hl; simp [hl]
  | two => simp [lots] at hl; rcases hl with rfl | ⟨a, _, rfl⟩ <;> simp
  | three => simp [lots] at hl; rcases hl with rfl | ⟨a, _, rfl⟩ | ⟨o, _, a, _, rfl⟩ <;> simp
  | twins => simp [lots] at hl; obtain ⟨a, _, rfl⟩ := hl; simp
  | ruler => simp [lots] at hl; obtain ⟨a, _, rfl⟩ := hl; simp; omega
  | doubles => simp [lots] at hl; rcases hl with rfl | ⟨a, _, rfl⟩ <;> simp
theorem add_tup {st : Store} {a b : List D} (h : a.length + b.length ≤ 1000000) : addD (.tup a) (.tup b) st = some (.tup (a ++ b), st) := by
  simp only [addD]
  exact guard_pos (le_size h)
noncomputable abbrev wbody : Py.Loc → Store → Fl := (sSeq (sIf (asB (mOp2 eqD (mOp2 xorD (mOp2 xorD (mVar 3) (mOp2 ixD (mVar 2) (mVar 4))) (mCall m_together (mCons (mLc (mIt (mVar 6)) (.nm 7) mYes (mOp2 ixD (mVar 2) (mVar 7)) [7]) mNil))) (mC (.int 0)))) (sSeq (sRet (mOp2 addD (mVar 6) (mTup (mCons (mVar 4) mNil)))) (fun e st => .nx e st)) (fun e st => .nx e st)) (fun e st => .nx e st))
theorem wstep (r : Rl) (bs : List Bool) (p w F many : Nat) (l : List Nat) (hm : many ≤ 64) (hp : p < many) (hl : l ∈ lots r p) (d5 : Option D) (s : Store) (hF : s[F]? = some (.lst (natsD ((T r).take many)))) :
    (cond r w p l ∧ ∃ g, wbody [some (.str (nm r)), some (.str (rowS bs)), some (.ref F), some (.int (w : Nat)), some (.int (p : Nat)), d5, some (lotD l), none] s = .rt (.tup (natsD (l ++ [p]))) (s ++ g)) ∨
    (¬ cond r w p l ∧ ∃ g, wbody [some (.str (nm r)), some (.str (rowS bs)), some (.ref F), some (.int (w : Nat)), some (.int (p : Nat)), d5, some (lotD l), none] s = .nx [some (.str (nm r)), some (.str (rowS bs)), some (.ref F), some (.int (w : Nat)), some (.int (p : Nat)), d5, some (lotD l), none] (s ++ g)) := by
  have hlt := lots_lt r p l hl
  have hll := lot_len r p (by omega) l hl
  have htl : ((T r).take many).length = many := by rw [List.length_take, T_len]; omega
  have hpk := pick_of (i := 2) (j := 6) (k := 7) (e := [some (.str (nm r)), some (.str (rowS bs)), some (.ref F), some (.int (w : Nat)), some (.int (p : Nat)), d5, some (lotD l), none]) (st := s) (t := (T r).take many) (l := l) (F := F) (d := lotD l) rfl rfl rfl (by simp) (by omega) (by unfold getL; rw [hF]) hF hll fun a ha => by rw [htl]; have := hlt a ha; omega
  have hmap : l.map (fun a => ((T r).take many).getD a 0) = l.map fun a => (T r).getD a 0 := List.map_congr_left fun a ha => getD_take (by have := hlt a ha; omega)
  rw [hmap] at hpk
  have hx1 := op2_of (f := xorD) (var_of (i := 3) (st := s) (e := [some (.str (nm r)), some (.str (rowS bs)), some (.ref F), some (.int (w : Nat)), some (.int (p : Nat)), d5, some (lotD l), none]) rfl) (op2_of (f := ixD) (var_of (i := 2) rfl) (var_of (i := 4) rfl) (ix_at hF (atI_nats (by rw [htl]; exact hp)))) xorI
  rw [xorN, getD_take hp] at hx1
  have hx2 := op2_of (f := xorD) hx1 (call_of (one_of hpk) (e_together (ns := l.map fun a => (T r).getD a 0) seqOf_new)) xorI
  rw [xorN] at hx2
  have hx3 := asB_ok (op2_of (f := eqD) hx2 (x_c (.int 0)) eqI)
  have hz : decide (((w ^^^ (T r).getD p 0 ^^^ xorL (l.map fun a => (T r).getD a 0) : Nat) : Int) = 0) = decide (cond r w p l) := decide_eq_decide.mpr (by unfold cond val; constructor <;> intro h <;> omega)
  rw [hz] at hx3
  by_cases hc : cond r w p l
  · rw [decide_eq_true hc] at hx3
    refine .inl ⟨hc, [.lst (natsD (l.map fun a => (T r).getD a 0))], seq_rt (if_t hx3 (seq_rt (ret_of (op2_of (var_of rfl) (one_tup _ _ 4 _ rfl) ?_))))⟩
    rw [show lotD l = .tup (natsD l) from rfl, add_tup (by rw [natsD_len]; simp; omega)]
    simp [natsD]
  · rw [decide_eq_false hc] at hx3
    exact .inr ⟨hc, [.lst (natsD (l.map fun a => (T r).getD a 0))], seq_nx (if_f hx3 rfl) rfl⟩
theorem winner (r : Rl) (bs : List Bool) (p w F many n : Nat) (ls0 : List (List Nat)) (hm : many ≤ 64) (hp : p < many) (d5 : Option D) : ∀ (ls : List (List Nat)) (s : Store) (d6 : Option D), (∀ l ∈ ls, l ∈ lots r p) → s[F]? = some (.lst (natsD ((T r).take many))) → getL s n = some (ls0.map lotD) →
    (∃ l ∈ ls, cond r w p l ∧ ∃ g, forL (stillD (.ref n) (ls0.map lotD)) (fun d e st => (gN 6 d e st).seq wbody) (ls.map lotD) [some (.str (nm r)), some (.str (rowS bs)), some (.ref F), some (.int (w : Nat)), some (.int (p : Nat)), d5, d6, none] s = .rt (.tup (natsD (l ++ [p]))) (s ++ g)) ∨
    ((∀ l ∈ ls, ¬ cond r w p l) ∧ ∃ g d6', forL (stillD (.ref n) (ls0.map lotD)) (fun d e st => (gN 6 d e st).seq wbody) (ls.map lotD) [some (.str (nm r)), some (.str (rowS bs)), some (.ref F), some (.int (w : Nat)), some (.int (p : Nat)), d5, d6, none] s = .nx [some (.str (nm r)), some (.str (rowS bs)), some (.ref F), some (.int (w : Nat)), some (.int (p : Nat)), d5, d6', none] (s ++ g)) := by
  intro ls
  induction ls with
  | nil =>
    intro s d6 _ _ hn
    exact .inr ⟨fun l hl => (nomatch hl), [], d6, by rw [List.append_nil]; exact forL_nil (stillD_of (d := .ref n) hn)⟩
  | cons l ls ih =>
    intro s d6 hsub hF hn
    have hst : stillD (.ref n) (ls0.map lotD) s := stillD_of (d := .ref n) hn
    rcases wstep r bs p w F many l hm hp (hsub l List.mem_cons_self) d5 s hF with ⟨hc, g, hg⟩ | ⟨hc, g, hg⟩
    · exact .inl ⟨l, List.mem_cons_self, hc, g, forL_rt hst hg⟩
    · have hFl : F < s.length := (List.getElem?_eq_some_iff.mp hF).1
      have hF' : (s ++ g)[F]? = some (.lst (natsD ((T r).take many))) := by rw [List.getElem?_append_left hFl, hF]
      rcases ih (s ++ g) (some (lotD l)) (fun l' hl' => hsub l' (List.mem_cons_of_mem _ hl')) hF' (getL_app hn) with ⟨l', hl', hc', g', hg'⟩ | ⟨hc', g', d6', hg'⟩
      · exact .inl ⟨l', List.mem_cons_of_mem _ hl', hc', g ++ g', by rw [List.map_cons, forL_nx hst hg, ← List.append_assoc]; exact hg'⟩
      · refine .inr ⟨fun l' hl' => ?_, g ++ g', d6', by rw [List.map_cons, forL_nx hst hg, ← List.append_assoc]; exact hg'⟩
        rcases List.mem_cons.mp hl' with rfl | h
        · exact hc
        · exact hc' l' h
noncomputable abbrev obody : Py.Loc → Store → Fl := (sSeq (sIf (asB (mOp2 eqD (mVar 5) (mC (.str "H")))) (sSeq (sFor (mIt (mOpN sortD (mCons (mCall m_turnings_of (mCons (mVar 0) (mCons (mVar 4) mNil))) mNil))) (gN 6) wbody) (fun e st => .nx e st)) (fun e st => .nx e st)) (fun e st => .nx e st))
theorem wouter (r : Rl) (bs : List Bool) (w F many : Nat) (hm : many ≤ 64) : ∀ (cs : List Bool) (k : Nat) (s : Store) (d4 d5 d6 : Option D), k + cs.length ≤ many → s[F]? = some (.lst (natsD ((T r).take many))) →
    (∃ p l, p ∈ hdF k cs ∧ l ∈ lots r p ∧ cond r w p l ∧ ∃ g, forL (fun _ => True) (fun d e st => ((gTp 2 (gCn (gN 4) (gCn (gN 5) gNl))) d e st).seq obody) (enF k (charsD cs)) [some (.str (nm r)), some (.str (rowS bs)), some (.ref F), some (.int (w : Nat)), d4, d5, d6, none] s = .rt (.tup (natsD (l ++ [p]))) (s ++ g)) ∨
    ((∀ p ∈ hdF k cs, ∀ l ∈ lots r p, ¬ cond r w p l) ∧ ∃ g d4' d5' d6', forL (fun _ => True) (fun d e st => ((gTp 2 (gCn (gN 4) (gCn (gN 5) gNl))) d e st).seq obody) (enF k (charsD cs)) [some (.str (nm r)), some (.str (rowS bs)), some (.ref F), some (.int (w : Nat)), d4, d5, d6, none] s = .nx [some (.str (nm r)), some (.str (rowS bs)), some (.ref F), some (.int (w : Nat)), d4', d5', d6', none] (s ++ g)) := by
  intro cs
  induction cs with
  | nil =>
    intro k s d4 d5 d6 _ _
    exact .inr ⟨fun p hp => (nomatch hp), [], d4, d5, d6, by rw [List.append_nil]; exact forL_nil trivial⟩
  | cons b cs ih =>
    intro k s d4 d5 d6 hk hF
    have hFl : F < s.length := (List.getElem?_eq_some_iff.mp hF).1
    have hF2 : ∀ g, (s ++ g)[F]? = some (.lst (natsD ((T r).take many))) := fun g => by rw [List.getElem?_append_left hFl, hF]
    simp only [List.length_cons] at hk
    have e0 : enF k (charsD (b :: cs)) = .tup [.int (k : Nat), .str (chS b)] :: enF (k + 1) (charsD cs) := rfl
    rw [e0]
    have hbind : (gTp 2 (gCn (gN 4) (gCn (gN 5) gNl))) (.tup [.int (k : Nat), .str (chS b)]) [some (.str (nm r)), some (.str (rowS bs)), some (.ref F), some (.int (w : Nat)), d4, d5, d6, none] s = .nx [some (.str (nm r)), some (.str (rowS bs)), some (.ref F), some (.int (w : Nat)), some (.int (k : Nat)), some (.str (chS b)), d6, none] s := rfl
    have hq := asB_ok (op2_of (f := eqD) (mb := mC (.str "H")) (var_of (i := 5) (e := [some (.str (nm r)), some (.str (rowS bs)), some (.ref F), some (.int (w : Nat)), some (.int (k : Nat)), some (.str (chS b)), d6, none]) (st := s) rfl) rfl (eqH b s))
    cases b with
    | false =>
      have hstep : ((gTp 2 (gCn (gN 4) (gCn (gN 5) gNl))) (.tup [.int (k : Nat), .str (chS false)]) [some (.str (nm r)), some (.str (rowS bs)), some (.ref F), some (.int (w : Nat)), d4, d5, d6, none] s).seq obody = .nx [some (.str (nm r)), some (.str (rowS bs)), some (.ref F), some (.int (w : Nat)), some (.int (k : Nat)), some (.str (chS false)), d6, none] s := by
        rw [hbind, Fl.seq_nx]
        exact seq_nx (if_f hq rfl) rfl
      rw [forL_nx trivial hstep]
      exact ih (k + 1) s _ _ _ (by omega) hF
    | true =>
      obtain ⟨ls', hmem, hsort⟩ := sort_lots (s ++ [O.lst ((lots r k).map lotD)]) s.length (lots r k) (lots_len r k (by omega)) getL_new
      have hit := it_of (ma := mOpN sortD (mCons (mCall m_turnings_of (mCons (mVar 0) (mCons (mVar 4) mNil))) mNil)) (opN_of (one_of (call_of (two_of (var_of (i := 0) (e := [some (.str (nm r)), some (.str (rowS bs)), some (.ref F), some (.int (w : Nat)), some (.int (k : Nat)), some (.str (chS true)), d6, none]) rfl) (var_of (i := 4) rfl)) (e_turnings r k (by omega) s))) hsort) (itD_seq seqOf_new)
      rcases winner r bs k w F many (s ++ [O.lst ((lots r k).map lotD)]).length ls' hm (by omega) (some (.str (chS true))) ls' ((s ++ [O.lst ((lots r k).map lotD)]) ++ [O.lst (ls'.map lotD)]) d6 (fun l hl => (hmem l).mp hl) (by rw [List.append_assoc]; exact hF2 _) getL_new with ⟨l, hl, hc, g, hg⟩ | ⟨hc, g, d6', hg⟩
      · refine .inl ⟨k, l, by simp [hdF], (hmem l).mp hl, hc, [O.lst ((lots r k).map lotD)] ++ [O.lst (ls'.map lotD)] ++ g, forL_rt trivial ?_⟩
        rw [hbind, Fl.seq_nx]
        refine seq_rt (if_t hq (seq_rt (for_of hit ?_)))
        rw [hg]
        simp
      · have hstep : ((gTp 2 (gCn (gN 4) (gCn (gN 5) gNl))) (.tup [.int (k : Nat), .str (chS true)]) [some (.str (nm r)), some (.str (rowS bs)), some (.ref F), some (.int (w : Nat)), d4, d5, d6, none] s).seq obody = .nx [some (.str (nm r)), some (.str (rowS bs)), some (.ref F), some (.int (w : Nat)), some (.int (k : Nat)), some (.str (chS true)), d6', none] (s ++ ([O.lst ((lots r k).map lotD)] ++ [O.lst (ls'.map lotD)] ++ g)) := by
          rw [hbind, Fl.seq_nx]
          refine seq_nx (if_t hq (seq_nx (for_of hit hg) rfl)) ?_
          simp
        rw [forL_nx trivial hstep]
        rcases ih (k + 1) (s ++ ([O.lst ((lots r k).map lotD)] ++ [O.lst (ls'.map lotD)] ++ g)) _ _ _ (by omega) (hF2 _) with ⟨p, l, hp, hl, hc', g', hg'⟩ | ⟨hc', g', a, b, c, hg'⟩
        · exact .inl ⟨p, l, by simp [hdF, hp], hl, hc', _, by rw [hg', List.append_assoc]⟩
        · refine .inr ⟨fun p hp l hl => ?_, _, a, b, c, by rw [hg', List.append_assoc]⟩
          simp only [hdF, if_true, List.mem_cons] at hp
          rcases hp with rfl | hp
          · exact hc l ((hmem l).mpr hl)
          · exact hc' p hp l hl
theorem e_winning (r : Rl) (bs : List Bool) (hb : bs.length ≤ 40) (st : Store) :
    (∃ p l, p ∈ hds bs ∧ l ∈ lots r p ∧ cond r (whole r bs) p l ∧ m_winning_turn [.str (nm r), .str (rowS bs)] st = .ok (.tup (natsD (l ++ [p]))) st) ∨
    ((∀ p ∈ hds bs, ∀ l ∈ lots r p, ¬ cond r (whole r bs) p l) ∧ m_winning_turn [.str (nm r), .str (rowS bs)] st = .ok .non st) := by
  have hlen : ∀ st, lenD [.str (rowS bs)] st = some (.int (bs.length : Nat), st) := fun st => by
    simp only [lenD]
    rw [if_pos (by rw [rowS_len]; exact le_size (by omega)), rowS_len]
  have h40 := asB_ok (op2_of (f := gtD) (opN_of (f := lenD) (one_of (var_of (i := 1) (e := [some (.str (nm r)), some (.str (rowS bs)), none, none, none, none, none, none]) rfl)) (hlen st)) (x_c (.int 40)) gtI)
  have e40 : decide ((40 : Int) < (bs.length : Nat)) = false := by simp; omega
  rw [e40] at h40
  have hpre : ∀ r', sSeq (sFor (mEn (mVar 1)) (gTp 2 (gCn (gN 4) (gCn (gN 5) gNl))) obody) (sSeq (sRet (mC .non)) (fun e st => .nx e st)) [some (.str (nm r)), some (.str (rowS bs)), some (.ref st.length), some (.int (whole r bs : Nat)), none, none, none, none] ((st ++ [O.lst (natsD ((T r).take bs.length))]) ++ [O.lst (natsD ((hds bs).map fun a => (T r).getD a 0))]) = r' →
      b_winning_turn (startE N_winning_turn [.str (nm r), .str (rowS bs)]) st = r' := fun r' h => by
    refine seq_nx (exp_of (call_of (one_of (var_of rfl)) (e_check_rule r st))) (seq_nx (exp_of (call_of (one_of (var_of rfl)) (e_check_row bs (by omega) st))) (seq_nx (if_f h40 rfl) (seq_nx (set_of (call_of (two_of (var_of rfl) (opN_of (one_of (var_of rfl)) (hlen _))) (e_numbers r bs.length (by omega) st))) (seq_nx (set_of (call_of (one_of (heads_num (r := r) (bs := bs) (many := bs.length) (F := st.length) (by omega) (Nat.le_refl _) rfl (by omega) (by simp [startE]) (by simp [startE]) (by omega) (by omega) rfl (by simp))) (e_together seqOf_new))) h))))
  rcases wouter r bs (whole r bs) st.length bs.length (by omega) bs 0 ((st ++ [O.lst (natsD ((T r).take bs.length))]) ++ [O.lst (natsD ((hds bs).map fun a => (T r).getD a 0))]) none none none (by omega) (by simp) with ⟨p, l, hp, hl, hc, g, hg⟩ | ⟨hc, g, a, b, c, hg⟩
  · refine .inl ⟨p, l, hp, hl, hc, run_rtS (hpre _ (seq_rt (for_of (en_of (var_of rfl) (en_row bs _)) hg))) (by rw [List.append_assoc, List.append_assoc]) (by simp [flat, flats_nats])⟩
  · exact .inr ⟨hc, run_rtS (hpre _ (seq_nx (for_of (en_of (var_of rfl) (en_row bs _)) hg) (seq_rt (ret_of rfl)))) (by rw [List.append_assoc, List.append_assoc]) rfl⟩
end K98

set_option Elab.async false
set_option linter.all false
set_option maxRecDepth 100000
set_option maxHeartbeats 4000000
namespace K98
open Py L2 PySem PySem.Spec PyProof.Rows
theorem xorL_cons (a : Nat) (l : List Nat) : xorL (a :: l) = a ^^^ xorL l := by
  have : ∀ (l : List Nat) (x : Nat), l.foldl (fun a b => a ^^^ b) x = x ^^^ l.foldl (fun a b => a ^^^ b) 0 := fun l => by
    induction l with
    | nil => intro x; simp
    | cons b l ih => intro x; rw [List.foldl_cons, List.foldl_cons, ih, ih (0 ^^^ b), Nat.zero_xor, Nat.xor_assoc]
  unfold xorL
  rw [List.foldl_cons, this]
  simp
theorem xorL_app (a b : List Nat) : xorL (a ++ b) = xorL a ^^^ xorL b := by
  induction a with
  | nil => simp [xorL]
  | cons x a ih => rw [List.cons_append, xorL_cons, xorL_cons, ih, Nat.xor_assoc]
theorem val_app (t a b : List Nat) : val t (a ++ b) = val t a ^^^ val t b := by unfold val; rw [List.map_append, xorL_app]
theorem val_cons (t b : List Nat) (p : Nat) : val t (p :: b) = t.getD p 0 ^^^ val t b := by unfold val; rw [List.map_cons, xorL_cons]
theorem val_one (t : List Nat) (p : Nat) : val t [p] = t.getD p 0 := by rw [val_cons]; simp [val, xorL]
theorem xor_zero_eq {a b : Nat} (h : a ^^^ b = 0) : a = b := by
  have : a ^^^ b ^^^ b = 0 ^^^ b := by rw [h]
  simpa [Nat.xor_assoc] using this
theorem xorL_bit (l : List Nat) (k : Nat) (h : (xorL l).testBit k = true) : ∃ a ∈ l, a.testBit k = true := by
  induction l with
  | nil => simp [xorL] at h
  | cons a l ih =>
    rw [xorL_cons, Nat.testBit_xor] at h
    cases ha : a.testBit k with
    | true => exact ⟨a, List.mem_cons_self, ha⟩
    | false =>
      rw [ha] at h
      obtain ⟨b, hb, h2⟩ := ih (by simpa using h)
      exact ⟨b, List.mem_cons_of_mem _ hb, h2⟩
theorem xor_lt {w t : Nat} (hw : w ≠ 0) (ht : t.testBit w.log2 = true) : w ^^^ t < t := by
  have hk : w.testBit w.log2 = true := Nat.testBit_log2 hw
  have hb : w < 2 ^ (w.log2 + 1) := Nat.lt_log2_self
  have e1 : (w ^^^ t) / 2 ^ (w.log2 + 1) = t / 2 ^ (w.log2 + 1) := by
    rw [Nat.xor_div_two_pow, Nat.div_eq_of_lt hb, Nat.zero_xor]
  have m1 : (w ^^^ t) % 2 ^ (w.log2 + 1) < 2 ^ w.log2 := by
    refine Nat.lt_pow_two_of_testBit _ fun i hi => ?_
    rw [Nat.testBit_mod_two_pow]
    by_cases h : i = w.log2
    · subst h; rw [Nat.testBit_xor, hk, ht]; simp
    · have : ¬ i < w.log2 + 1 := by omega
      simp [this]
  have m2 : 2 ^ w.log2 ≤ t % 2 ^ (w.log2 + 1) := by
    refine Nat.ge_two_pow_of_testBit ?_
    rw [Nat.testBit_mod_two_pow, ht]
    simp
  have d1 := Nat.div_add_mod (w ^^^ t) (2 ^ (w.log2 + 1))
  have d2 := Nat.div_add_mod t (2 ^ (w.log2 + 1))
  rw [e1] at d1
  omega
theorem no_turn {r : Rl} {p : Nat} {l : List Nat} (hp : p < 64) (hl : l ∈ lots r p) : ¬ cond r 0 p l := fun h => by
  unfold cond at h
  rw [Nat.zero_xor] at h
  have := xor_zero_eq h
  exact (tab_ok r p hp).1 (by rw [this]; exact List.mem_map.mpr ⟨l, hl, rfl⟩)
theorem some_turn {r : Rl} {bs : List Bool} (hb : bs.length ≤ 64) (hw : whole r bs ≠ 0) : ∃ p ∈ hds bs, ∃ l ∈ lots r p, cond r (whole r bs) p l := by
  obtain ⟨a, ha, hbit⟩ := xorL_bit _ _ (Nat.testBit_log2 hw)
  obtain ⟨p, hp, rfl⟩ := List.mem_map.mp ha
  have hpl := hds_lt hp
  have hlt := xor_lt hw hbit
  obtain ⟨l, hl, hv⟩ := List.mem_map.mp ((tab_ok r p (by omega)).2 _ hlt)
  refine ⟨p, hp, l, hl, ?_⟩
  unfold cond
  rw [hv]
  exact Nat.xor_self _
theorem whole_flip (r : Rl) (bs : List Bool) (p : Nat) (hp : p < bs.length) : whole r (flip bs p) = whole r bs ^^^ (T r).getD p 0 := by
  have : ∀ (bs : List Bool) (n p : Nat), p < bs.length → val (T r) (hdF n (bs.set p (!(bs.getD p false)))) = val (T r) (hdF n bs) ^^^ (T r).getD (n + p) 0 := fun bs => by
    induction bs with
    | nil => intro n p h; cases h
    | cons b bs ih =>
      intro n p h
      cases p with
      | zero =>
        cases b with
        | true =>
          simp only [List.getD_cons_zero, List.set_cons_zero, Bool.not_true, hdF, Bool.false_eq_true, if_false, if_true, Nat.add_zero]
          rw [val_cons, Nat.xor_comm, ← Nat.xor_assoc, Nat.xor_self, Nat.zero_xor]
        | false =>
          simp only [List.getD_cons_zero, List.set_cons_zero, Bool.not_false, hdF, Bool.false_eq_true, if_false, if_true, Nat.add_zero]
          rw [val_cons, Nat.xor_comm]
      | succ p =>
        have h' : p < bs.length := by simpa using h
        have e := ih (n + 1) p h'
        have en : n + 1 + p = n + (p + 1) := by omega
        rw [en] at e
        simp only [List.getD_cons_succ, List.set_cons_succ]
        cases b with
        | true => simp only [hdF, if_true]; rw [val_cons, val_cons, e, Nat.xor_assoc]
        | false => simp only [hdF, Bool.false_eq_true, if_false]; exact e
  have h := this bs 0 p hp
  rw [Nat.zero_add] at h
  exact h
theorem whole_turn (r : Rl) (l : List Nat) : ∀ (bs : List Bool), (∀ a ∈ l, a < bs.length) → whole r (turnB bs l) = whole r bs ^^^ val (T r) l := by
  induction l with
  | nil => intro bs _; simp [turnB, val, xorL]
  | cons a l ih =>
    intro bs h
    have e : turnB bs (a :: l) = turnB (flip bs a) l := rfl
    rw [e, ih (flip bs a) (fun b hb => by rw [flip_len]; exact h b (List.mem_cons_of_mem _ hb)), whole_flip r bs a (h a List.mem_cons_self), val_cons, Nat.xor_assoc]
theorem whole_won {r : Rl} {bs : List Bool} {p : Nat} {l : List Nat} (hp : p < bs.length) (hl : l ∈ lots r p) (hc : cond r (whole r bs) p l) : whole r (turnB bs (l ++ [p])) = 0 := by
  have hlt := lots_lt r p l hl
  rw [whole_turn r (l ++ [p]) bs fun a ha => by
    rcases List.mem_append.mp ha with ha | ha
    · have := hlt a ha; omega
    · simp at ha; omega]
  rw [val_app, val_one, Nat.xor_comm (val (T r) l), ← Nat.xor_assoc]
  exact hc
theorem lots_nodup (r : Rl) (p : Nat) : ∀ l ∈ lots r p, l.Nodup := by
  intro l hl
  cases r with
  | one => simp [lots] at hl; simp [hl]
  | two => simp [lots] at hl; rcases hl with rfl | ⟨a, _, rfl⟩ <;> simp
  | three =>
    simp [lots] at hl
    rcases hl with rfl | ⟨a, _, rfl⟩ | ⟨o, _, a, h, rfl⟩
    · simp
    · simp
    · simp; omega
  | twins => simp [lots] at hl; obtain ⟨a, _, rfl⟩ := hl; simp
  | ruler =>
    simp [lots] at hl
    obtain ⟨a, _, rfl⟩ := hl
    exact List.Pairwise.map (R := fun x y => x ≠ y) _ (fun x y h => by omega) List.nodup_range
  | doubles => simp [lots] at hl; rcases hl with rfl | ⟨a, _, rfl⟩ <;> simp
end K98

set_option Elab.async false
set_option linter.all false
set_option maxRecDepth 100000
set_option maxHeartbeats 4000000
namespace K98
open Py L2 PySem PySem.Spec PyProof.Rows
theorem can_ints (l : List Nat) : PyData.canLayAll0 (intsP l) = true := by
  induction l with
  | nil => rfl
  | cons a l ih => exact ih
theorem shaped_lot (l : List Nat) : SeqAt.shaped (.tuple (intsP l)) = true := by
  have h1 : PyData.canLay0 (.tuple (intsP l)) = true := by simp only [PyData.canLay0]; exact can_ints l
  have h2 : PyData.depthAll (intsP l) = 0 := PySem.W.depth_ints _
  unfold SeqAt.shaped
  rw [h1]
  simp [PyData.depth, h2]
theorem shaped_lots (ls : List (List Nat)) : SeqAt.shaped (.list (ls.map fun l => PyData.tuple (intsP l))) = true := by
  have h1 : PyData.canLayAll0 (ls.map fun l => PyData.tuple (intsP l)) = true := by
    induction ls with
    | nil => rfl
    | cons l ls ih =>
      simp only [List.map_cons, PyData.canLayAll0, Bool.and_eq_true]
      exact ⟨by simp only [PyData.canLay0]; exact can_ints l, ih⟩
  have h2 : PyData.depthAll (ls.map fun l => PyData.tuple (intsP l)) ≤ 1 := by
    clear h1
    induction ls with
    | nil => simp [PyData.depthAll]
    | cons l ls ih =>
      have h2 : PyData.depthAll (intsP l) = 0 := PySem.W.depth_ints _
      simp only [List.map_cons, PyData.depthAll, PyData.depth, h2]
      omega
  unfold SeqAt.shaped
  have h3 : PyData.canLay0 (.list (ls.map fun l => PyData.tuple (intsP l))) = true := by simp only [PyData.canLay0]; exact h1
  rw [h3]
  simp [PyData.depth]
  omega
theorem py_lots (st : Store) (n : Nat) (ls : List (List Nat)) (h : getL st n = some (ls.map lotD)) : toPy st (.ref n) = some (.list (ls.map fun l => PyData.tuple (intsP l))) := by
  have e : ∀ (f : Nat → Option PyData) (ls : List (List Nat)), pyGs f (ls.map lotD) = some (ls.map fun l => PyData.tuple (intsP l)) := fun f ls => by
    induction ls with
    | nil => rfl
    | cons l ls ih =>
      simp only [List.map_cons, pyGs, ih, lotD, pyG, py_nats st]
  show pyR st 8 n = _
  simp only [pyR, h]
  rw [e]
theorem in_lots {st : Store} {n : Nat} {ls : List (List Nat)} {l : List Nat} (h : st[n]? = some (.lst (ls.map lotD))) (hl : l ∈ ls) : ninA (lotD l) (.ref n) st = some (.bl false, st) := by
  have e : ninDictD (lotD l) (.ref n) st = none := by simp only [ninDictD, h]
  have hg : getL st n = some (ls.map lotD) := by unfold getL; rw [h]
  have hb : inB (lotD l) (.ref n) st = some true := by
    have u : inB (lotD l) (.ref n) st = (match toPy st (lotD l), toPy st (.ref n) with | some p, some (.list ps) => if SeqAt.shaped p = true ∧ SeqAt.shaped (.list ps) = true then some (ps.any fun z => PyData.eqv z p) else none | _, _ => none) := by
      unfold lotD inB
      simp only [h]
      all_goals rfl
    rw [u]
    simp only [py_lot, py_lots st n ls hg]
    rw [if_pos ⟨shaped_lot l, shaped_lots ls⟩]
    congr 1
    rw [List.any_eq_true]
    exact ⟨_, List.mem_map.mpr ⟨l, hl, rfl⟩, PySem.W.eqv_refl_alike _ (by simp only [PySem.W.alike]; exact PySem.W.alike_ints _ _)⟩
  unfold ninA
  rw [e]
  simp only [ninD, hb]
  rfl
theorem lot_len' (r : Rl) (p : Nat) (hp : p < 64) : ∀ l ∈ lots r p, l.length ≤ 64 := by
  intro l hl
  cases r with
  | one => simp [lots] at hl; simp [hl]
  | two => simp [lots] at hl; rcases hl with rfl | ⟨a, _, rfl⟩ <;> simp
  | three => simp [lots] at hl; rcases hl with rfl | ⟨a, _, rfl⟩ | ⟨o, _, a, _, rfl⟩ <;> simp
  | twins => simp [lots] at hl; obtain ⟨a, _, rfl⟩ := hl; simp
  | ruler => simp [lots] at hl; obtain ⟨a, _, rfl⟩ := hl; simp; omega
  | doubles => simp [lots] at hl; rcases hl with rfl | ⟨a, _, rfl⟩ <;> simp
theorem neg_one (e : Py.Loc) (st : Store) : mOp1 negD (mC (.int 1)) e st = .ok (.int (-1)) st := op1_of rfl negI
theorem last_of (l : List Nat) (p : Nat) (st : Store) : ixD (.tup (natsD (l ++ [p]))) (.int (-1)) st = some (.int (p : Nat), st) := by
  have h : atI (natsD (l ++ [p])) (-1) = some (.int (p : Nat)) := by
    simp only [atI, ixN, natsD, List.map_append, List.length_append, List.length_map, List.map_cons, List.map_nil, List.length_cons, List.length_nil]
    rw [if_neg (by omega), if_pos (by omega)]
    have e : (-1 + ((l.length + (0 + 1) : Nat) : Int)).toNat = l.length := by omega
    simp only [Option.bind_some, e]
    rw [List.getElem?_append_right (by simp)]
    simp
  simp only [ixD, h]
theorem init_of (l : List Nat) (p : Nat) (st : Store) : Py.cutD (.tup (natsD (l ++ [p]))) none (some (-1)) st = some (lotD l, st) := by
  have h : cutL (natsD (l ++ [p])) none (some (-1)) = natsD l := by
    unfold cutL
    simp only [HT.sIx]
    rw [if_pos (by omega)]
    have e : (-1 + (((natsD (l ++ [p])).length : Nat) : Int)).toNat = l.length := by rw [natsD_len]; simp; omega
    rw [e]
    simp [natsD]
  simp only [Py.cutD, h]
  rfl
theorem row_at {bs : List Bool} {p : Nat} (hb : bs.length ≤ 64) (hp : p < bs.length) (st : Store) : ixD (.str (rowS bs)) (.int (p : Nat)) st = some (.str (chS (bs.getD p false)), st) := by
  have h : atI (rowS bs).cps.toList (p : Int) = some (chN (bs.getD p false)) := by
    simp only [atI, ixN, rowS, List.length_map]
    rw [if_pos (by omega), if_pos (by omega)]
    simp [hp]
  simp only [ixD]
  rw [if_pos (by rw [rowS_len]; exact le_size (by omega)), h]
  rfl
theorem e_is_winning (r : Rl) (bs : List Bool) (p : Nat) (l : List Nat) (hb : bs.length ≤ 64) (hp : p ∈ hds bs) (hl : l ∈ lots r p) (hc : cond r (whole r bs) p l) (st : Store) :
    m_is_winning_turn [.str (nm r), .str (rowS bs), .tup (natsD (l ++ [p]))] st = .ok (.bl true) st := by
  have hpb := hds_lt hp
  have hlt := lots_lt r p l hl
  have hll := lot_len r p (by omega) l hl
  have hlen : ∀ st, lenD [.str (rowS bs)] st = some (.int (bs.length : Nat), st) := fun st => by
    simp only [lenD]
    rw [if_pos (by rw [rowS_len]; exact le_size (by omega)), rowS_len]
  have hin : ∀ a ∈ l ++ [p], a < bs.length := fun a ha => by
    rcases List.mem_append.mp ha with ha | ha
    · have := hlt a ha; omega
    · simp at ha; omega
  obtain ⟨e0, he0⟩ : ∃ e0, e0 = startE N_is_winning_turn [.str (nm r), .str (rowS bs), .tup (natsD (l ++ [p]))] := ⟨_, rfl⟩
  have he0' : e0 = [some (.str (nm r)), some (.str (rowS bs)), some (.tup (natsD (l ++ [p]))), none, none, none, none] := he0
  subst he0'
  -- every place within
  have hw : mLc (mIt (mVar 2)) (.nm 5) mYes (mCall m_is_within (mCons (mVar 5) (mCons (mC (.int 0)) (mCons (mOp2 subD (mOpN lenD (mCons (mVar 1) mNil)) (mC (.int 1))) mNil)))) [5] [some (.str (nm r)), some (.str (rowS bs)), some (.tup (natsD (l ++ [p]))), none, none, none, none] st = .ok (.ref st.length) (st ++ [.lst (((l ++ [p]).map fun _ => true).map .bl)]) := by
    rw [List.map_map]
    refine mLc_nats (ns := l ++ [p]) (still := stillD (.tup (natsD (l ++ [p]))) (natsD (l ++ [p]))) (fun _ => .bl true) (it_of (var_of rfl) rfl) trivial (by simp; omega) fun a ha => ⟨[some (.str (nm r)), some (.str (rowS bs)), some (.tup (natsD (l ++ [p]))), none, none, some (.int (a : Nat)), none], [], rfl, ?_, rfl⟩
    rw [List.append_nil]
    refine call_of (cons_of (var_of rfl) (two_of rfl (op2_of (opN_of (one_of (var_of rfl)) (hlen st)) rfl subI))) ?_
    rw [e_is_within]
    have := hin a ha
    simp
    omega
  have hall := opN_of (one_of hw) (allD_of (st := st ++ [O.lst (((l ++ [p]).map fun _ => true).map .bl)]) (n := st.length) (bs := (l ++ [p]).map fun _ => true) getL_new)
  have hT : ((l ++ [p]).map fun _ => true).all id = true := by simp
  rw [hT] at hall
  have hlt2 := asB_ok (op2_of (f := eqD) (opN_of (f := lenD) (one_of (var_of (i := 2) (e := [some (.str (nm r)), some (.str (rowS bs)), some (.tup (natsD (l ++ [p]))), none, none, none, none]) (st := st) rfl)) lenT) (x_c (.int 0)) eqI)
  have e0f : decide (((natsD (l ++ [p])).length : Int) = 0) = false := by rw [natsD_len]; simp; omega
  rw [e0f] at hlt2
  have hif1 := or_f (not_of (k := true) (asB_ok (isi_of (cs := ["tuple"]) (k := true) (var_of (i := 2) (e := [some (.str (nm r)), some (.str (rowS bs)), some (.tup (natsD (l ++ [p]))), none, none, none, none]) (st := st) rfl) ty_tup rfl))) (or_f hlt2 (not_of (k := true) (asB_ok hall)))
  -- the last is a head, the others a lot
  have hH : bs.getD p false = true := by
    have := hds_mem.mp hp
    simp [List.getD_eq_getElem?_getD, this]
  obtain ⟨s1, hs1⟩ : ∃ s1, s1 = st ++ [O.lst (((l ++ [p]).map fun _ => true).map .bl)] := ⟨_, rfl⟩
  rw [← hs1] at hif1
  have hlast := op2_of (f := ixD) (var_of (i := 2) (e := [some (.str (nm r)), some (.str (rowS bs)), some (.tup (natsD (l ++ [p]))), none, none, none, none]) (st := s1) rfl) (neg_one _ _) (last_of l p s1)
  have hrow := asB_ok (op2_of (f := neD) (op2_of (f := ixD) (var_of (i := 1) rfl) hlast (row_at hb hpb s1)) (x_c (.str "H")) (neH _ _))
  rw [hH] at hrow
  have hsl := sl_of (m1 := mNoP) (m2 := mP (mOp1 negD (mC (.int 1)))) (var_of (i := 2) (e := [some (.str (nm r)), some (.str (rowS bs)), some (.tup (natsD (l ++ [p]))), none, none, none, none]) (st := s1) rfl) rfl (p_of (neg_one _ _)) (init_of l p s1)
  have hturn := call_of (two_of (var_of (i := 0) (e := [some (.str (nm r)), some (.str (rowS bs)), some (.tup (natsD (l ++ [p]))), none, none, none, none]) (st := s1) rfl) hlast) (e_turnings r p (by omega) s1)
  have hnin := asB_ok (op2_of (f := ninA) hsl hturn (in_lots (st := s1 ++ [O.lst ((lots r p).map lotD)]) (n := s1.length) (by simp) hl))
  obtain ⟨s2, hs2⟩ : ∃ s2, s2 = s1 ++ [O.lst ((lots r p).map lotD)] := ⟨_, rfl⟩
  rw [← hs2] at hnin
  have hif2 := or_f hrow hnin
  -- the numbers
  have hnum := e_numbers r bs.length hb s2
  obtain ⟨s3, hs3⟩ : ∃ s3, s3 = s2 ++ [O.lst (natsD ((T r).take bs.length))] := ⟨_, rfl⟩
  rw [← hs3] at hnum
  have hF3 : s3[s2.length]? = some (.lst (natsD ((T r).take bs.length))) := by rw [hs3]; simp
  have htl : ((T r).take bs.length).length = bs.length := by rw [List.length_take, T_len]; omega
  have hheads := heads_num (r := r) (bs := bs) (many := bs.length) (F := s2.length) (e := [some (.str (nm r)), some (.str (rowS bs)), some (.tup (natsD (l ++ [p]))), some (.ref s2.length), none, none, none]) (st := s3) (i := 1) (ka := 5) (ks := 6) (iF := 3) hb (Nat.le_refl _) rfl (by omega) (by simp) (by simp) (by omega) (by omega) rfl hF3
  obtain ⟨s4, hs4⟩ : ∃ s4, s4 = s3 ++ [O.lst (natsD ((hds bs).map fun a => (T r).getD a 0))] := ⟨_, rfl⟩
  have htog := e_together (d := .ref s3.length) (ns := (hds bs).map fun a => (T r).getD a 0) (st := s4) (by rw [hs4]; exact seqOf_new)
  rw [← hs4] at hheads
  have hF4 : s4[s2.length]? = some (.lst (natsD ((T r).take bs.length))) := by rw [hs4, List.getElem?_append_left (by rw [hs3]; simp), hF3]
  have hpick := pick_of (i := 3) (j := 2) (k := 5) (e := [some (.str (nm r)), some (.str (rowS bs)), some (.tup (natsD (l ++ [p]))), some (.ref s2.length), some (.int (whole r bs : Nat)), none, none]) (st := s4) (t := (T r).take bs.length) (l := l ++ [p]) (F := s2.length) (d := .tup (natsD (l ++ [p]))) rfl rfl rfl (by simp) (by omega) (by unfold getL; rw [hF4]) hF4 (by have := lot_len' r p (by omega) l hl; simp; omega) fun a ha => by rw [htl]; exact hin a ha
  have hmap : (l ++ [p]).map (fun a => ((T r).take bs.length).getD a 0) = (l ++ [p]).map fun a => (T r).getD a 0 := List.map_congr_left fun a ha => getD_take (hin a ha)
  rw [hmap] at hpick
  have hfin := op2_of (f := eqD) (op2_of (f := xorD) (var_of (i := 4) (e := [some (.str (nm r)), some (.str (rowS bs)), some (.tup (natsD (l ++ [p]))), some (.ref s2.length), some (.int (whole r bs : Nat)), none, none]) (st := s4) rfl) (call_of (one_of hpick) (e_together (ns := (l ++ [p]).map fun a => (T r).getD a 0) seqOf_new)) xorI) (x_c (.int 0)) eqI
  rw [xorN] at hfin
  have hzero : whole r bs ^^^ xorL ((l ++ [p]).map fun a => (T r).getD a 0) = 0 := by
    have h1 : xorL ((l ++ [p]).map fun a => (T r).getD a 0) = val (T r) (l ++ [p]) := rfl
    rw [h1, val_app, val_one, Nat.xor_comm (val (T r) l), ← Nat.xor_assoc]
    exact hc
  rw [hzero] at hfin
  refine run_rtS (g := [O.lst (((l ++ [p]).map fun _ => true).map .bl)] ++ [O.lst ((lots r p).map lotD)] ++ [O.lst (natsD ((T r).take bs.length))] ++ [O.lst (natsD ((hds bs).map fun a => (T r).getD a 0))] ++ [O.lst (natsD ((l ++ [p]).map fun a => (T r).getD a 0))])
    (seq_nx (exp_of (call_of (one_of (var_of rfl)) (e_check_rule r st))) (seq_nx (exp_of (call_of (one_of (var_of rfl)) (e_check_row bs hb st))) (seq_nx (if_f hif1 rfl) (seq_nx (if_f hif2 rfl) (seq_nx (set_of (call_of (two_of (var_of rfl) (opN_of (one_of (var_of rfl)) (hlen _))) hnum)) (seq_nx (set_of (call_of (one_of hheads) htog)) (seq_rt (ret_of hfin)))))))) ?_ rfl
  rw [hs4, hs3, hs2, hs1]
  simp
end K98

set_option Elab.async false
set_option linter.all false
set_option maxRecDepth 100000
set_option maxHeartbeats 4000000
namespace K98
open Py L2 PySem PySem.Spec PyProof.Rows
theorem rowS_inj {a b : List Bool} (h : rowS a = rowS b) : a = b := by
  have h1 : (rowS a).cps.toList = (rowS b).cps.toList := by rw [h]
  simp only [rowS] at h1
  have hinj : ∀ a b : List Bool, a.map chN = b.map chN → a = b := fun a => by
    induction a with
    | nil => intro b h; cases b with | nil => rfl | cons _ _ => simp at h
    | cons x a ih =>
      intro b h
      cases b with
      | nil => simp at h
      | cons y b =>
        simp only [List.map_cons, List.cons.injEq] at h
        have : x = y := by cases x <;> cases y <;> first | rfl | (exact absurd h.1 (by decide))
        rw [this, ih b h.2]
  exact hinj a b h1
def rep (cs : List (List Bool)) : List (D × D) := cs.map fun c => (.str (rowS c), .bl true)
def ins (cs : List (List Bool)) (c : List Bool) : List (List Bool) := if c ∈ cs then cs else cs ++ [c]
theorem rep_put (cs : List (List Bool)) (c : List Bool) : putD (rep cs) (.str (rowS c)) (.inl (.inr (rowS c))) (.bl true) = rep (ins cs c) := by
  have hany : ((rep cs).any fun p => decide (dk p.1 = some (.inl (.inr (rowS c))))) = decide (c ∈ cs) := by
    unfold rep
    rw [List.any_map]
    induction cs with
    | nil => simp
    | cons x cs ih =>
      rw [List.any_cons, ih]
      by_cases h : x = c
      · subst h; simp [dk, keyD]
      · have h2 : ¬ c = x := fun z => h z.symm
        have h3 : ¬ rowS x = rowS c := fun z => h (rowS_inj z)
        simp [dk, keyD, h2, h3]
  unfold putD ins
  rw [hany]
  by_cases h : c ∈ cs
  · rw [if_pos (by simpa using h), if_pos h]
    unfold rep
    rw [List.map_map]
    refine List.map_congr_left fun x hx => ?_
    simp only [Function.comp]
    split <;> rfl
  · rw [if_neg (by simpa using h), if_neg h]
    simp [rep]
theorem rep_allK (cs : List (List Bool)) : allK (rep cs) = true := by
  unfold allK rep
  rw [List.all_map]
  simp [keyD]
theorem ins_mem {cs : List (List Bool)} {c x : List Bool} : x ∈ ins cs c ↔ x ∈ cs ∨ x = c := by
  unfold ins
  split
  · rename_i h
    constructor
    · exact .inl
    · rintro (h2 | rfl)
      · exact h2
      · exact h
  · simp
theorem ins_len (cs : List (List Bool)) (c : List Bool) : (ins cs c).length ≤ cs.length + 1 := by
  unfold ins
  split <;> simp
theorem set_dict {st g : Store} {cs : List (List Bool)} {c : List Bool} (hl : cs.length ≤ 100000) : setD (.ref st.length) (.str (rowS c)) (.bl true) ((st ++ [O.dict (rep cs)]) ++ g) = some ((st ++ [O.dict (rep (ins cs c))]) ++ g) := by
  have hn : ((st ++ [O.dict (rep cs)]) ++ g)[st.length]? = some (.dict (rep cs)) := by
    rw [List.getElem?_append_left (by simp)]; simp
  simp only [setD, hn]
  have hk : dk (.str (rowS c)) = some (.inl (.inr (rowS c))) := rfl
  rw [hk]
  simp only
  rw [if_pos ⟨rep_allK cs, by unfold rep; rw [List.length_map, sizeLine_eq]; omega⟩, rep_put, set_mid]
noncomputable abbrev rbody : Py.Loc → Store → Fl := (sSeq (sAsg (mC (.bl true)) (gSb setD (mVar 2) (mCall m_turned_row (mCons (mVar 1) (mCons (mOp2 addD (mVar 5) (mTup (mCons (mVar 3) mNil))) mNil))))) (fun e st => .nx e st))
theorem rinner (r : Rl) (bs : List Bool) (hb : bs.length ≤ 64) (p n : Nat) (hp : p < bs.length) (ls0 : List (List Nat)) (st : Store) (d4 : Option D) : ∀ (ls : List (List Nat)) (cs : List (List Bool)) (g : Store) (d5 : Option D), (∀ l ∈ ls, l ∈ lots r p) → cs.length + ls.length ≤ 100000 → (∀ cs, getL ((st ++ [O.dict (rep cs)]) ++ g) n = some (ls0.map lotD)) →
    ∃ d5', forL (stillD (.ref n) (ls0.map lotD)) (fun d e st => (gN 5 d e st).seq rbody) (ls.map lotD) [some (.str (nm r)), some (.str (rowS bs)), some (.ref st.length), some (.int (p : Nat)), d4, d5] ((st ++ [O.dict (rep cs)]) ++ g) = .nx [some (.str (nm r)), some (.str (rowS bs)), some (.ref st.length), some (.int (p : Nat)), d4, d5'] ((st ++ [O.dict (rep (ls.foldl (fun cs l => ins cs (turnB bs (l ++ [p]))) cs))]) ++ g) := by
  intro ls
  induction ls with
  | nil => exact fun cs g d5 _ _ hn => ⟨d5, forL_nil (stillD_of (d := .ref n) (hn cs))⟩
  | cons l ls ih =>
    intro cs g d5 hsub hlen hn
    have hl := hsub l List.mem_cons_self
    have hlt := lots_lt r p l hl
    have hll := lot_len' r p (by omega) l hl
    simp only [List.length_cons] at hlen
    obtain ⟨d5', hg⟩ := ih (ins cs (turnB bs (l ++ [p]))) g (some (lotD l)) (fun l' hl' => hsub l' (List.mem_cons_of_mem _ hl')) (by have := ins_len cs (turnB bs (l ++ [p])); omega) hn
    refine ⟨d5', ?_⟩
    have hadd : addD (lotD l) (.tup [.int (p : Nat)]) ((st ++ [O.dict (rep cs)]) ++ g) = some (.tup (natsD (l ++ [p])), (st ++ [O.dict (rep cs)]) ++ g) := by
      rw [show lotD l = .tup (natsD l) from rfl, add_tup (by rw [natsD_len]; simp; omega)]
      simp [natsD]
    have hturn := e_turned_row bs (l ++ [p]) hb (fun a ha => by
      rcases List.mem_append.mp ha with ha | ha
      · have := hlt a ha; omega
      · simp at ha; omega) ((st ++ [O.dict (rep cs)]) ++ g)
    rw [List.map_cons, forL_nx (stillD_of (d := .ref n) (hn cs)) (e' := [some (.str (nm r)), some (.str (rowS bs)), some (.ref st.length), some (.int (p : Nat)), d4, some (lotD l)]) (st' := (st ++ [O.dict (rep (ins cs (turnB bs (l ++ [p]))))]) ++ g)]
    · exact hg
    · show (Fl.nx _ _).seq _ = _
      rw [Fl.seq_nx]
      exact seq_nx (asg_of rfl (sub_of (var_of rfl) (call_of (two_of (var_of rfl) (op2_of (var_of rfl) (one_tup _ _ 3 _ rfl) hadd)) hturn) (set_dict (by omega)))) rfl
noncomputable abbrev r2body : Py.Loc → Store → Fl := (sSeq (sIf (asB (mOp2 eqD (mVar 4) (mC (.str "H")))) (sSeq (sFor (mIt (mCall m_turnings_of (mCons (mVar 0) (mCons (mVar 3) mNil)))) (gN 5) rbody) (fun e st => .nx e st)) (fun e st => .nx e st)) (fun e st => .nx e st))
theorem fold_ins_mem (f : List Nat → List Bool) (ls : List (List Nat)) : ∀ (cs : List (List Bool)) (x : List Bool), x ∈ ls.foldl (fun cs l => ins cs (f l)) cs ↔ x ∈ cs ∨ ∃ l ∈ ls, x = f l := by
  induction ls with
  | nil => intro cs x; simp
  | cons l ls ih =>
    intro cs x
    rw [List.foldl_cons, ih, ins_mem]
    constructor
    · rintro ((h | rfl) | ⟨l', h, rfl⟩)
      · exact .inl h
      · exact .inr ⟨l, List.mem_cons_self, rfl⟩
      · exact .inr ⟨l', List.mem_cons_of_mem _ h, rfl⟩
    · rintro (h | ⟨l', h, rfl⟩)
      · exact .inl (.inl h)
      · rcases List.mem_cons.mp h with rfl | h
        · exact .inl (.inr rfl)
        · exact .inr ⟨l', h, rfl⟩
theorem fold_ins_len (f : List Nat → List Bool) (ls : List (List Nat)) : ∀ (cs : List (List Bool)), (ls.foldl (fun cs l => ins cs (f l)) cs).length ≤ cs.length + ls.length := by
  induction ls with
  | nil => intro cs; simp
  | cons l ls ih =>
    intro cs
    rw [List.foldl_cons]
    have h1 := ih (ins cs (f l))
    have h2 := ins_len cs (f l)
    simp only [List.length_cons]
    omega
theorem router (r : Rl) (bs : List Bool) (hb : bs.length ≤ 8) (st : Store) : ∀ (fs : List Bool) (k : Nat) (cs : List (List Bool)) (g : Store) (d3 d4 d5 : Option D), k + fs.length ≤ bs.length → cs.length + 10000 * fs.length ≤ 100000 →
    ∃ cs' g' d3' d4' d5', cs'.length ≤ 100000 ∧ (∀ x, x ∈ cs' ↔ x ∈ cs ∨ ∃ p ∈ hdF k fs, ∃ l ∈ lots r p, x = turnB bs (l ++ [p])) ∧ forL (fun _ => True) (fun d e st => ((gTp 2 (gCn (gN 3) (gCn (gN 4) gNl))) d e st).seq r2body) (enF k (charsD fs)) [some (.str (nm r)), some (.str (rowS bs)), some (.ref st.length), d3, d4, d5] ((st ++ [O.dict (rep cs)]) ++ g) =
      .nx [some (.str (nm r)), some (.str (rowS bs)), some (.ref st.length), d3', d4', d5'] ((st ++ [O.dict (rep cs')]) ++ g') := by
  intro fs
  induction fs with
  | nil => exact fun k cs g d3 d4 d5 _ hl => ⟨cs, g, d3, d4, d5, by simpa using hl, fun x => by simp [hdF], forL_nil trivial⟩
  | cons b fs ih =>
    intro k cs g d3 d4 d5 hk hl
    simp only [List.length_cons] at hk hl
    have e0 : enF k (charsD (b :: fs)) = .tup [.int (k : Nat), .str (chS b)] :: enF (k + 1) (charsD fs) := rfl
    rw [e0]
    have hq := fun s => asB_ok (op2_of (f := eqD) (mb := mC (.str "H")) (var_of (i := 4) (e := [some (.str (nm r)), some (.str (rowS bs)), some (.ref st.length), some (.int (k : Nat)), some (.str (chS b)), d5]) (st := s) rfl) rfl (eqH b s))
    cases b with
    | false =>
      obtain ⟨cs', g', a1, a2, a3, h1, h2, h3⟩ := ih (k + 1) cs g (some (.int (k : Nat))) (some (.str (chS false))) d5 (by omega) (by omega)
      refine ⟨cs', g', a1, a2, a3, h1, fun x => by rw [h2]; simp [hdF], ?_⟩
      rw [forL_nx trivial (e' := [some (.str (nm r)), some (.str (rowS bs)), some (.ref st.length), some (.int (k : Nat)), some (.str (chS false)), d5]) (st' := (st ++ [O.dict (rep cs)]) ++ g)]
      · exact h3
      · show (Fl.nx _ _).seq _ = _
        rw [Fl.seq_nx]
        exact seq_nx (if_f (hq _) rfl) rfl
    | true =>
      have hit := it_of (call_of (two_of (var_of (i := 0) (e := [some (.str (nm r)), some (.str (rowS bs)), some (.ref st.length), some (.int (k : Nat)), some (.str (chS true)), d5]) rfl) (var_of (i := 3) rfl)) (e_turnings r k (by omega) ((st ++ [O.dict (rep cs)]) ++ g))) (itD_seq seqOf_new)
      have hll := lots_len r k (by omega)
      obtain ⟨d5', hin⟩ := rinner r bs (by omega) k ((st ++ [O.dict (rep cs)]) ++ g).length (by omega) (lots r k) st (some (.str (chS true))) (lots r k) cs (g ++ [O.lst ((lots r k).map lotD)]) d5 (fun l hl => hl) (by omega) (fun cs' => by
        unfold getL
        rw [← List.append_assoc]
        have : ((st ++ [O.dict (rep cs)]) ++ g).length = ((st ++ [O.dict (rep cs')]) ++ g).length := by simp
        rw [this]
        simp)
      have hfl := fold_ins_len (fun l => turnB bs (l ++ [k])) (lots r k) cs
      obtain ⟨cs', g', a1, a2, a3, h1, h2, h3⟩ := ih (k + 1) ((lots r k).foldl (fun cs l => ins cs (turnB bs (l ++ [k]))) cs) (g ++ [O.lst ((lots r k).map lotD)]) (some (.int (k : Nat))) (some (.str (chS true))) d5' (by omega) (by omega)
      refine ⟨cs', g', a1, a2, a3, h1, fun x => ?_, ?_⟩
      · rw [h2, fold_ins_mem (fun l => turnB bs (l ++ [k]))]
        simp only [hdF, if_true, List.mem_cons]
        constructor
        · rintro ((h | ⟨l, hl, rfl⟩) | ⟨p, hp, l, hl, rfl⟩)
          · exact .inl h
          · exact .inr ⟨k, .inl rfl, l, hl, rfl⟩
          · exact .inr ⟨p, .inr hp, l, hl, rfl⟩
        · rintro (h | ⟨p, rfl | hp, l, hl, rfl⟩)
          · exact .inl (.inl h)
          · exact .inl (.inr ⟨l, hl, rfl⟩)
          · exact .inr ⟨p, hp, l, hl, rfl⟩
      · rw [forL_nx trivial (e' := [some (.str (nm r)), some (.str (rowS bs)), some (.ref st.length), some (.int (k : Nat)), some (.str (chS true)), d5']) (st' := (st ++ [O.dict (rep ((lots r k).foldl (fun cs l => ins cs (turnB bs (l ++ [k]))) cs))]) ++ (g ++ [O.lst ((lots r k).map lotD)]))]
        · exact h3
        · show (Fl.nx _ _).seq _ = _
          rw [Fl.seq_nx]
          refine seq_nx (if_t (hq _) (seq_nx (for_of hit ?_) rfl)) rfl
          rw [List.append_assoc (st ++ [O.dict (rep cs)]) g]
          exact hin
/-! sorted rows -/
theorem pys_strs (st : Store) (cs : List (List Bool)) : pysOf st (cs.map fun c => D.str (rowS c)) = some (cs.map fun c => (D.str (rowS c), PyData.str (rowS c))) := by
  induction cs with
  | nil => rfl
  | cons c cs ih => simp only [List.map_cons, pysOf, ih]; rfl
theorem sort_rows (st : Store) (n : Nat) (cs : List (List Bool)) (hl : cs.length ≤ 100000) (h : getL st n = some (cs.map fun c => D.str (rowS c))) : ∃ cs' : List (List Bool), (∀ c, c ∈ cs' ↔ c ∈ cs) ∧ cs'.length = cs.length ∧ sortD [.ref n] st = some (.ref st.length, st ++ [.lst (cs'.map fun c => D.str (rowS c))]) := by
  refine ⟨cs.mergeSort (fun a b => PySem.W.dataLe false (fun (p : D × PyData) => p.2) (D.str (rowS a), PyData.str (rowS a)) (D.str (rowS b), PyData.str (rowS b))), fun l => List.mem_mergeSort, List.length_mergeSort _, ?_⟩
  have hm := List.map_mergeSort (r := fun a b => PySem.W.dataLe false (fun (p : D × PyData) => p.2) (D.str (rowS a), PyData.str (rowS a)) (D.str (rowS b), PyData.str (rowS b))) (s := PySem.W.dataLe false fun (p : D × PyData) => p.2) (f := fun c => (D.str (rowS c), PyData.str (rowS c))) (l := cs) (fun a _ b _ => rfl)
  have hS : Sorts (cs.map fun c => (D.str (rowS c), PyData.str (rowS c))) := by
    refine ⟨?_, .inr fun p hp => ?_, fun p hp => ?_, ?_⟩
    · rw [List.map_map]
      refine PySem.W.AllAlike.of fun l l' => ?_
      show PySem.W.alike (.str (rowS l)) (.str (rowS l')) = true
      simp only [PySem.W.alike]
    · obtain ⟨l, _, rfl⟩ := List.mem_map.mp hp; exact ⟨by simp, fun xs => by simp⟩
    · obtain ⟨l, _, rfl⟩ := List.mem_map.mp hp; simp [PyData.depth]
    · rw [List.length_map]; exact le_size (by omega)
  unfold sortD
  simp only [h, pys_strs]
  rw [if_pos hS]
  congr 4
  unfold sortP
  rw [← hm, List.map_map]
  rfl
theorem e_rows_below (r : Rl) (bs : List Bool) (hb : bs.length ≤ 8) (st : Store) : ∃ cs : List (List Bool), (∀ x, x ∈ cs ↔ ∃ p ∈ hds bs, ∃ l ∈ lots r p, x = turnB bs (l ++ [p])) ∧ cs.length ≤ 100000 ∧
    m_rows_below [.str (nm r), .str (rowS bs)] st = .ok (.tup (cs.map fun c => D.str (rowS c))) st := by
  have hlen : ∀ st, lenD [.str (rowS bs)] st = some (.int (bs.length : Nat), st) := fun st => by
    simp only [lenD]
    rw [if_pos (by rw [rowS_len]; exact le_size (by omega)), rowS_len]
  have h20 := asB_ok (op2_of (f := gtD) (opN_of (f := lenD) (one_of (var_of (i := 1) (e := [some (.str (nm r)), some (.str (rowS bs)), none, none, none, none]) rfl)) (hlen st)) (x_c (.int 20)) gtI)
  have e20 : decide ((20 : Int) < (bs.length : Nat)) = false := by simp; omega
  rw [e20] at h20
  obtain ⟨cs, g, a1, a2, a3, h1, h2, h3⟩ := router r bs hb st bs 0 [] [] none none none (by omega) (by simp; omega)
  rw [List.append_nil] at h3
  have hdict : ((st ++ [O.dict (rep cs)]) ++ g)[st.length]? = some (.dict (rep cs)) := by rw [List.getElem?_append_left (by simp)]; simp
  have hlist : listD [.ref st.length] ((st ++ [O.dict (rep cs)]) ++ g) = some (.ref ((st ++ [O.dict (rep cs)]) ++ g).length, ((st ++ [O.dict (rep cs)]) ++ g) ++ [.lst (cs.map fun c => D.str (rowS c))]) := by
    simp only [listD, hdict]
    rw [if_pos (rep_allK cs)]
    have : (rep cs).map (·.1) = cs.map fun c => D.str (rowS c) := by unfold rep; rw [List.map_map]; rfl
    rw [this]
  obtain ⟨cs', hmem, hp, hsort⟩ := sort_rows (((st ++ [O.dict (rep cs)]) ++ g) ++ [.lst (cs.map fun c => D.str (rowS c))]) ((st ++ [O.dict (rep cs)]) ++ g).length cs h1 getL_new
  refine ⟨cs', fun x => ?_, ?_, ?_⟩
  · rw [hmem, h2]
    simp [hds]
  · omega
  · have htup : tupD [.ref (((st ++ [O.dict (rep cs)]) ++ g) ++ [O.lst (cs.map fun c => D.str (rowS c))]).length] ((((st ++ [O.dict (rep cs)]) ++ g) ++ [O.lst (cs.map fun c => D.str (rowS c))]) ++ [O.lst (cs'.map fun c => D.str (rowS c))]) = some (.tup (cs'.map fun c => D.str (rowS c)), (((st ++ [O.dict (rep cs)]) ++ g) ++ [O.lst (cs.map fun c => D.str (rowS c))]) ++ [O.lst (cs'.map fun c => D.str (rowS c))]) := by
      simp only [tupD, getL_new]
    refine run_rtS (st' := (((st ++ [O.dict (rep cs)]) ++ g) ++ [O.lst (cs.map fun c => D.str (rowS c))]) ++ [O.lst (cs'.map fun c => D.str (rowS c))]) (g := [O.dict (rep cs)] ++ g ++ [.lst (cs.map fun c => D.str (rowS c))] ++ [.lst (cs'.map fun c => D.str (rowS c))]) (seq_nx (exp_of (call_of (one_of (var_of rfl)) (e_check_rule r st))) (seq_nx (exp_of (call_of (one_of (var_of rfl)) (e_check_row bs (by omega) st))) (seq_nx (if_f h20 rfl) (seq_nx (set_of rfl) (seq_nx (for_of (en_of (var_of rfl) (en_row bs _)) h3) (seq_rt (ret_of (opN_of (f := tupD) (one_of (opN_of (one_of (opN_of (one_of (var_of rfl)) hlist)) hsort)) htup)))))))) ?_ ?_
    rotate_left 1
    · have : ∀ cs : List (List Bool), flats (cs.map fun c => D.str (rowS c)) = true := fun cs => by
        induction cs with
        | nil => rfl
        | cons c cs ih => simp only [List.map_cons, flats, flat, Bool.true_and]; exact ih
      simp only [flat]
      exact this cs'
    · simp
end K98

set_option Elab.async false
set_option linter.all false
set_option maxRecDepth 100000
set_option maxHeartbeats 4000000
namespace K98
open Py L2 PySem PySem.Spec PyProof.Rows
/-! ### two_sum -/
theorem e_check_count (n : Nat) (h : n < 2 ^ 64) (st : Store) : m_check_count [.int (n : Nat)] st = .ok .non st := by
  refine run_nx0 (e := [some (.int (n : Nat))]) (seq_nx (if_f (or_f (not_of (k := true) (asB_ok (call_of (one_of (var_of rfl)) (e_is_integer n st)))) (not_of (k := true) (asB_ok (chain_t (f := leD) (g := ltD) rfl (var_of rfl) ?_ rfl ?_)))) rfl) rfl)
  · rw [leI]; simp
  · rw [ltI]; simp; omega
theorem e_check_counts (ns : List Nat) (hl : ns.length ≤ 1000) (h : ∀ n ∈ ns, n < 2 ^ 64) (st : Store) : m_check_counts [.tup (natsD ns)] st = .ok .non st := by
  have loop : ∀ (l : List Nat) (x : Option D), (∀ n ∈ l, n < 2 ^ 64) → ∃ x', forL (fun _ => True) (fun d e st => (gN 1 d e st).seq (sSeq (sExp (mCall m_check_count (mCons (mVar 1) mNil))) (fun e st => .nx e st))) (natsD l) [some (.tup (natsD ns)), x] st = .nx [some (.tup (natsD ns)), x'] st := by
    intro l
    induction l with
    | nil => exact fun x _ => ⟨x, forL_nil trivial⟩
    | cons a l ih =>
      intro x h
      obtain ⟨x', hx⟩ := ih (some (.int (a : Nat))) fun n hn => h n (List.mem_cons_of_mem _ hn)
      refine ⟨x', ?_⟩
      rw [show natsD (a :: l) = .int (a : Nat) :: natsD l from rfl, forL_nx trivial (e' := [some (.tup (natsD ns)), some (.int (a : Nat))]) (st' := st)]
      · exact hx
      · show (Fl.nx _ _).seq _ = _
        rw [Fl.seq_nx]
        exact seq_nx (exp_of (call_of (one_of (var_of rfl)) (e_check_count a (h a List.mem_cons_self) st))) rfl
  obtain ⟨x', hx⟩ := loop ns none h
  have hgt := asB_ok (op2_of (f := gtD) (opN_of (f := lenD) (one_of (var_of (i := 0) (e := [some (.tup (natsD ns)), none]) (st := st) rfl)) lenT) (x_c (.int 1000)) gtI)
  have e1 : decide ((1000 : Int) < ((natsD ns).length : Nat)) = false := by rw [natsD_len]; simp; omega
  rw [e1] at hgt
  exact run_nx0 (seq_nx (if_f (or_f (not_of (k := true) (asB_ok (isi_of (cs := ["tuple"]) (k := true) (var_of rfl) ty_tup rfl))) hgt) rfl) (seq_nx (for_of (it_of (var_of rfl) rfl) hx) rfl))
theorem e_two_sum (ns : List Nat) (hl : ns.length ≤ 1000) (h : ∀ n ∈ ns, n < 2 ^ 64) (st : Store) : m_two_sum [.tup (natsD ns)] st = .ok (.int (xorL ns : Nat)) st :=
  run_rt0 (seq_nx (exp_of (call_of (one_of (var_of rfl)) (e_check_counts ns hl h st))) (seq_rt (ret_of (call_of (one_of (var_of rfl)) (e_together rfl))))) rfl
/-! ### ones, the greatest power of two -/
def ones (n : Nat) : Nat := if h : n = 0 then 0 else n % 2 + ones (n / 2)
theorem ones_0 : ones 0 = 0 := by rw [ones]; simp
theorem ones_s {n : Nat} (h : n ≠ 0) : ones n = n % 2 + ones (n / 2) := by conv => lhs; rw [ones]
                                                                           simp [h]
def low (n : Nat) : Nat := if h : n = 0 then 0 else if n % 2 = 1 then 1 else 2 * low (n / 2)
theorem low_odd {n : Nat} (h : n % 2 = 1) : low n = 1 := by rw [low]; have : n ≠ 0 := by omega
                                                            simp [this, h]
theorem low_even {n : Nat} (h0 : n ≠ 0) (h : n % 2 = 0) : low n = 2 * low (n / 2) := by
  conv => lhs; rw [low]
  have : ¬ n % 2 = 1 := by omega
  simp [h0, this]
theorem low_and (p : Nat) : (p + 1) - ((p + 1) &&& p) = low (p + 1) := by
  induction p using Nat.strongRecOn with
  | _ p ih =>
    have hd := nat_xor_and (p + 1) p
    have e1 : ((p + 1) &&& p) / 2 = ((p + 1) / 2) &&& (p / 2) := Nat.and_div_two
    have hm : ((p + 1) &&& p) % 2 = 0 := by
      have : ¬ ((p + 1) &&& p) % 2 = 1 := fun z => by
        have := Nat.and_mod_two_eq_one.mp z
        omega
      omega
    by_cases hp : p % 2 = 0
    · rw [low_odd (by omega)]
      have e2 : (p + 1) / 2 = p / 2 := by omega
      rw [e2, Nat.and_self] at e1
      omega
    · have h := ih (p / 2) (by omega)
      have e2 : (p + 1) / 2 = p / 2 + 1 := by omega
      rw [low_even (by omega) (by omega), e2, ← h]
      rw [e2] at e1
      have hle : (p / 2 + 1) &&& (p / 2) ≤ p / 2 := Nat.and_le_right
      omega
theorem e_ones (n : Nat) (st : Store) : m__law_ones [.int (n : Nat)] st = .ok (.int (ones n : Nat)) st := by
  have loop : ∀ (m a : Nat), sWh (asB (mOp2 gtD (mVar 2) (mC (.int 0)))) (sSeq (sPar2 1 2 (mCons (mOp2 addD (mVar 1) (mOp2 modD (mOpN intD (mCons (mVar 2) mNil)) (mC (.int 2)))) (mCons (mOp2 fdivD (mVar 2) (mC (.int 2))) mNil))) (fun e st => .nx e st)) [some (.int (n : Nat)), some (.int (a : Nat)), some (.int (m : Nat))] st =
      .nx [some (.int (n : Nat)), some (.int ((a + ones m : Nat) : Int)), some (.int 0)] st := by
    intro m
    induction m using Nat.strongRecOn with
    | _ m ih =>
      intro a
      by_cases hm : m = 0
      · subst hm
        rw [ones_0]
        exact wh_f (asB_ok (op2_of (var_of rfl) rfl gtI))
      · have hgt := asB_ok (op2_of (f := gtD) (var_of (i := 2) (e := [some (.int (n : Nat)), some (.int (a : Nat)), some (.int (m : Nat))]) (st := st) rfl) (x_c (.int 0)) gtI)
        have hpos : decide ((0 : Int) < (m : Int)) = true := by simp; omega
        rw [hpos] at hgt
        have h := ih (m / 2) (by omega) (a + m % 2)
        rw [Nat.add_assoc, ← ones_s hm] at h
        rw [wh_t hgt (seq_nx (par2_of (op2_of (var_of rfl) (op2_of (opN_of (one_of (var_of rfl)) intI) rfl (modI (by omega))) addI) (op2_of (var_of rfl) rfl (fdivI (div_ok (by omega) (by omega))))) rfl)]
        have h1 := fmod_nat m 2 (by omega)
        have h2 := fdiv_nat m 2 (by omega)
        have e1 : (a : Int) + Int.fmod (m : Int) 2 = ((a + m % 2 : Nat) : Int) := by rw [show (2 : Int) = ((2 : Nat) : Int) from rfl, h1]; rfl
        have e2 : Int.fdiv (m : Int) 2 = ((m / 2 : Nat) : Int) := h2
        show sWh _ _ [some (.int (n : Nat)), some (.int ((a : Int) + Int.fmod (m : Int) 2)), some (.int (Int.fdiv (m : Int) 2))] st = _
        rw [e1, e2]
        exact h
  have hl := loop n 0
  rw [Nat.zero_add] at hl
  refine run_rt0 (seq_nx (e' := [some (.int (n : Nat)), some (.int 0), some (.int (n : Nat))]) ?_ (seq_nx hl (seq_rt (ret_of (var_of rfl))))) rfl
  simp [startE]
end K98

set_option Elab.async false
set_option linter.all false
set_option maxRecDepth 100000
set_option maxHeartbeats 4000000
namespace K98
open Py L2 PySem PySem.Spec PyProof.Rows
def bit3 (p : Nat) : Nat := 2 * p + (if ones p % 2 = 0 then 1 else 0)
def known : Rl → Nat → D
  | .one, _ => .int 1
  | .two, p => .int ((p + 1 : Nat) : Int)
  | .three, p => .int (bit3 p : Nat)
  | .twins, p => .int (p : Nat)
  | .ruler, p => .int (low (p + 1) : Nat)
  | .doubles, _ => .non
def isOT : Rl → Bool | .one => true | .two => true | _ => false
theorem in_two (r : Rl) (e : Py.Loc) (st : Store) (h : e[0]? = some (some (.str (nm r)))) : asB (mOp2 inA (mVar 0) (mTup (mCons (mC (.str "one")) (mCons (mC (.str "two")) mNil)))) e st = .ok (isOT r) st := by
  have hin : inA (.str (nm r)) (.tup [.str "one", .str "two"]) st = some (.bl (isOT r), st) := by
    have e : inDictD (.str (nm r)) (.tup [.str "one", .str "two"]) st = none := rfl
    have hb : inB (.str (nm r)) (.tup [.str "one", .str "two"]) st = some (isOT r) := by
      have e2 : (([.str "one", .str "two"] : List D).any fun y => eqF y (.str (nm r))) = (isOT r) := by cases r <;> decide +kernel
      simp only [inB]
      rw [if_pos ⟨rfl, rfl⟩, e2]
    unfold inA
    rw [e]
    simp only [inD, hb]
  exact asB_ok (op2_of (var_of h) (tup_of (two_of rfl rfl) (by simp)) hin)
theorem wr_f {r : Rl} (hr : ∀ st, eqD (.str (nm r)) (.str "ruler") st = some (.bl false, st)) (d : Option D) (f : Nat) (st : Store) (b : Py.Loc → Store → Fl) (c2 : Py.Loc → Store → R Bool) : sWh (mAnd (asB (mOp2 eqD (mVar 0) (mC (.str "ruler")))) c2) b [some (.str (nm r)), d, some (.int (f : Nat))] st = .nx [some (.str (nm r)), d, some (.int (f : Nat))] st :=
  wh_f (and_f (asB_ok (op2_of (var_of rfl) rfl (hr st))))
theorem wr_t (d : Nat) (st : Store) : ∀ (m f : Nat), 0 < m → 0 < f → d + 1 = f * m → sWh (mAnd (asB (mOp2 eqD (mVar 0) (mC (.str "ruler")))) (asB (mOp2 eqD (mOp2 modD (mOpN intD (mCons (mOp2 addD (mVar 1) (mC (.int 1))) mNil)) (mOp2 mulD (mC (.int 2)) (mVar 2))) (mC (.int 0))))) (sSeq (sAsg (mOp2 mulD (mC (.int 2)) (mVar 2)) (gN 2)) (fun e st => .nx e st)) [some (.str (nm .ruler)), some (.int (d : Nat)), some (.int (f : Nat))] st = .nx [some (.str (nm .ruler)), some (.int (d : Nat)), some (.int ((f * low m : Nat) : Int))] st := by
  intro m
  induction m using Nat.strongRecOn with
  | _ m ih =>
    intro f hm hf hd
    have h1 := asB_ok (op2_of (f := eqD) (var_of (i := 0) (e := [some (.str (nm .ruler)), some (.int (d : Nat)), some (.int (f : Nat))]) (st := st) rfl) (x_c (.str "ruler")) (q5 st .ruler))
    have hmul : mOp2 mulD (mC (.int 2)) (mVar 2) [some (.str (nm .ruler)), some (.int (d : Nat)), some (.int (f : Nat))] st = .ok (.int ((2 * f : Nat) : Int)) st := op2_of rfl (var_of rfl) (by rw [mulI (mul_smallL (by omega) (by omega))]; simp)
    have h2 := asB_ok (op2_of (f := eqD) (op2_of (f := modD) (opN_of (one_of (op2_of (f := addD) (var_of (i := 1) (e := [some (.str (nm .ruler)), some (.int (d : Nat)), some (.int (f : Nat))]) (st := st) rfl) (x_c (.int 1)) addI)) intI) hmul (modI (by omega))) (x_c (.int 0)) eqI)
    have e1 : Int.fmod ((d : Int) + 1) ((2 * f : Nat) : Int) = ((f * m) % (2 * f) : Nat) := by
      have := fmod_nat (d + 1) (2 * f) (by omega)
      rw [← hd]
      exact this
    have e2 : (f * m) % (2 * f) = f * (m % 2) := by rw [Nat.mul_comm 2 f, Nat.mul_mod_mul_left]
    rw [e1, e2] at h2
    by_cases ho : m % 2 = 1
    · have e3 : decide (((f * (m % 2) : Nat) : Int) = 0) = false := by rw [ho]; simp; omega
      rw [e3] at h2
      rw [low_odd ho, Nat.mul_one]
      exact wh_f (and_t h1 h2)
    · have ho' : m % 2 = 0 := by omega
      have e3 : decide (((f * (m % 2) : Nat) : Int) = 0) = true := by rw [ho']; simp
      rw [e3] at h2
      have h := ih (m / 2) (by omega) (2 * f) (by omega) (by omega) (by
        have : m = 2 * (m / 2) := by omega
        rw [hd, Nat.mul_comm 2 f, Nat.mul_assoc, ← this])
      rw [wh_t (and_t h1 h2) (seq_nx (set_of hmul) rfl)]
      rw [low_even (by omega) ho']
      rw [Nat.mul_comm 2 f, Nat.mul_assoc] at h
      rw [Nat.mul_comm 2 f]
      exact h
theorem e_known (r : Rl) (p : Nat) (st : Store) : m__law_known [.str (nm r), .int (p : Nat)] st = .ok (known r p) st := by
  have h0 := in_two r (startE N__law_known [.str (nm r), .int (p : Nat)]) st rfl
  cases r with
  | one => exact run_rt0 (seq_rt (if_t h0 (seq_rt (ret_of (ifx_t (k := true) (asB_ok (op2_of (var_of rfl) rfl (q1 st .one))) rfl))))) rfl
  | two => exact run_rt0 (seq_rt (if_t h0 (seq_rt (ret_of (ifx_f (k := true) (asB_ok (op2_of (var_of rfl) rfl (q1 st .two))) (op2_of (var_of rfl) rfl addI)))))) rfl
  | twins => exact run_rt0 (seq_nx (if_f h0 rfl) (seq_rt (if_t (asB_ok (op2_of (var_of rfl) rfl (q4 st .twins))) (seq_rt (ret_of (var_of rfl)))))) rfl
  | three =>
    refine run_rt0 (d := known .three p) (seq_nx (if_f h0 rfl) (seq_nx (if_f (asB_ok (op2_of (var_of rfl) rfl (q4 st .three))) rfl) (seq_rt (if_t (asB_ok (op2_of (var_of rfl) rfl (q3 st .three))) (seq_rt (ret_of ?_)))))) rfl
    have hm := modI (i := ((ones p : Nat) : Int)) (j := 2) (st := st) (by omega)
    rw [show (2 : Int) = ((2 : Nat) : Int) from rfl, fmod_nat (ones p) 2 (by omega)] at hm
    refine op2_of (op2_of (f := mulD) rfl (var_of rfl) (mulI (mul_smallL (by omega) (by omega)))) (opN_of (one_of (op2_of (f := eqD) (op2_of (f := modD) (opN_of (one_of (call_of (one_of (var_of rfl)) (e_ones p st))) intI) rfl hm) rfl eqI)) intBl) ?_
    rw [addI]
    congr 3
    unfold bit3
    by_cases h : ones p % 2 = 0
    · simp [h]
    · have h3 : ¬ ((ones p : Int) % 2 = 0) := by omega
      simp [h3, h]
  | ruler =>
    have hw := wr_t p st (p + 1) 1 (by omega) (by omega) (by omega)
    rw [Nat.one_mul] at hw
    exact run_rt0 (seq_nx (if_f h0 rfl) (seq_nx (if_f (asB_ok (op2_of (var_of rfl) rfl (q4 st .ruler))) rfl) (seq_nx (if_f (asB_ok (op2_of (var_of rfl) rfl (q3 st .ruler))) rfl) (seq_nx (set_of rfl) (seq_nx hw (seq_rt (ret_of (ifx_t (k := true) (asB_ok (op2_of (var_of rfl) rfl (q5 st .ruler))) (var_of rfl))))))))) rfl
  | doubles =>
    exact run_rt0 (seq_nx (if_f h0 rfl) (seq_nx (if_f (asB_ok (op2_of (var_of rfl) rfl (q4 st .doubles))) rfl) (seq_nx (if_f (asB_ok (op2_of (var_of rfl) rfl (q3 st .doubles))) rfl) (seq_nx (set_of rfl) (seq_nx (wr_f (fun st => q5 st .doubles) _ 1 st _ _) (seq_rt (ret_of (ifx_f (k := true) (asB_ok (op2_of (var_of rfl) rfl (q5 st .doubles))) rfl)))))))) rfl
end K98

set_option Elab.async false
set_option linter.all false
set_option maxRecDepth 100000
set_option maxHeartbeats 4000000
namespace K98
open Py L2 PySem PySem.Spec PyProof.Rows
theorem pow18 (st : Store) : powD (.int 10) (.int 18) st = some (.int 1000000000000000000, st) := by
  rw [powI ⟨by omega, by omega, by decide⟩]
  rfl
theorem within18 (p : Nat) (h : p ≤ 10 ^ 18) (e : Py.Loc) (st : Store) (he : e[0]? = some (some (.int (p : Nat)))) : mNot (asB (mCall m_is_within (mCons (mVar 0) (mCons (mC (.int 0)) (mCons (mOp2 powD (mC (.int 10)) (mC (.int 18))) mNil))))) e st = .ok false st := by
  refine not_of (k := true) (asB_ok (call_of (cons_of (var_of he) (two_of rfl (op2_of rfl rfl (pow18 st)))) ?_))
  rw [e_is_within]
  simp
  omega
theorem e_bits (p : Nat) (h : p ≤ 10 ^ 18) (st : Store) : m_bits_number [.int (p : Nat)] st = .ok (.int (bit3 p : Nat)) st := by
  have loop : ∀ (m a : Nat), sWh (asB (mOp2 gtD (mVar 2) (mC (.int 0)))) (sSeq (sPar2 1 2 (mCons (mOp2 addD (mVar 1) (mOp2 andD (mVar 2) (mC (.int 1)))) (mCons (mOp2 shrD (mVar 2) (mC (.int 1))) mNil))) (fun e st => .nx e st)) [some (.int (p : Nat)), some (.int (a : Nat)), some (.int (m : Nat))] st =
      .nx [some (.int (p : Nat)), some (.int ((a + ones m : Nat) : Int)), some (.int (0 : Nat))] st := by
    intro m
    induction m using Nat.strongRecOn with
    | _ m ih =>
      intro a
      by_cases hm : m = 0
      · subst hm
        rw [ones_0]
        exact wh_f (asB_ok (op2_of (var_of rfl) rfl gtI))
      · have hgt := asB_ok (op2_of (f := gtD) (var_of (i := 2) (e := [some (.int (p : Nat)), some (.int (a : Nat)), some (.int (m : Nat))]) (st := st) rfl) (x_c (.int 0)) gtI)
        have hpos : decide ((0 : Int) < (m : Int)) = true := by simp; omega
        rw [hpos] at hgt
        have h := ih (m / 2) (by omega) (a + m % 2)
        rw [Nat.add_assoc, ← ones_s hm] at h
        rw [wh_t hgt (seq_nx (par2_of (op2_of (var_of rfl) (op2_of (var_of rfl) rfl andI) addI) (op2_of (var_of rfl) rfl (shrI (by omega)))) rfl)]
        have e1 : (a : Int) + Builtin.bitAnd (m : Int) 1 = ((a + m % 2 : Nat) : Int) := by
          rw [show (1 : Int) = ((1 : Nat) : Int) from rfl, andN, Nat.and_one_is_mod]; omega
        have e2 : (m : Int) / 2 ^ (1 : Int).toNat = ((m / 2 : Nat) : Int) := by
          show (m : Int) / 2 ^ 1 = _
          omega
        show sWh _ _ [some (.int (p : Nat)), some (.int ((a : Int) + Builtin.bitAnd (m : Int) 1)), some (.int ((m : Int) / 2 ^ (1 : Int).toNat))] st = _
        rw [e1, e2]
        exact h
  have hl := loop p 0
  rw [Nat.zero_add] at hl
  have hm := modI (i := ((ones p : Nat) : Int)) (j := 2) (st := st) (by omega)
  rw [show (2 : Int) = ((2 : Nat) : Int) from rfl, fmod_nat (ones p) 2 (by omega)] at hm
  have hq := asB_ok (op2_of (f := eqD) (op2_of (f := modD) (var_of (i := 1) (e := [some (.int (p : Nat)), some (.int (ones p : Nat)), some (.int (0 : Nat))]) (st := st) rfl) (x_c (.int 2)) hm) (x_c (.int 0)) eqI)
  have hif : mIf (asB (mOp2 eqD (mOp2 modD (mVar 1) (mC (.int 2))) (mC (.int 0)))) (mC (.int 1)) (mC (.int 0)) [some (.int (p : Nat)), some (.int (ones p : Nat)), some (.int (0 : Nat))] st = .ok (.int ((if ones p % 2 = 0 then 1 else 0 : Nat) : Int)) st := by
    by_cases h : ones p % 2 = 0
    · have h3 : decide (((ones p % 2 : Nat) : Int) = 0) = true := by simp; omega
      rw [h3] at hq
      rw [if_pos h]
      exact ifx_t (k := true) hq rfl
    · have h3 : decide (((ones p % 2 : Nat) : Int) = 0) = false := by simp; omega
      rw [h3] at hq
      rw [if_neg h]
      exact ifx_f (k := true) hq rfl
  refine run_rt0 (seq_nx (if_f (within18 p h _ st rfl) rfl) (seq_nx (par2_of rfl (var_of rfl)) (seq_nx hl (seq_rt (ret_of (op2_of (op2_of rfl (var_of rfl) (mulI (mul_smallL (by omega) (by omega)))) hif ?_)))))) rfl
  rw [addI]
  rfl
theorem e_rulern (p : Nat) (h : p ≤ 10 ^ 18) (st : Store) : m_ruler_number [.int (p : Nat)] st = .ok (.int (low (p + 1) : Nat)) st := by
  refine run_rt0 (seq_nx (if_f (within18 p h _ st rfl) rfl) (seq_rt (ret_of (op2_of (op2_of (var_of rfl) rfl addI) (op1_of (var_of rfl) invI) ?_)))) rfl
  rw [andI]
  congr 3
  have e : Builtin.bitAnd ((p : Int) + 1) (Builtin.bitNot (p : Int)) = ((p : Int) + 1) - (((p + 1) &&& p : Nat) : Int) := by
    unfold Builtin.bitAnd Builtin.bitNot
    have h1 : decide (0 ≤ (p : Int) + 1) = true := by simp; omega
    have h2 : decide (0 ≤ -(p : Int) - 1) = false := by simp; omega
    rw [h1, h2]
    have e1 : ((p : Int) + 1).toNat = p + 1 := by omega
    have e2 : (-(-(p : Int) - 1) - 1).toNat = p := by omega
    simp only [e1, e2]
  rw [e, ← low_and]
  have : (p + 1) &&& p ≤ p + 1 := Nat.and_le_left
  omega
end K98

set_option Elab.async false
set_option linter.all false
set_option maxRecDepth 100000
set_option maxHeartbeats 4000000
namespace K98
open Py L2 PySem PySem.Spec PyProof.Rows
/-! ### heaps -/
theorem all_true {e : Py.Loc} {st : Store} {j k : Nat} {me : Py.Loc → Store → R D} {ns : List Nat} {d : D} (hd : e[j]? = some (some d)) (hs : seqOf d st = some (natsD ns)) (hl : ns.length ≤ 1000) (h : ∀ n ∈ ns, ∃ g, me ((wipeE e [k]).set k (some (.int (n : Nat)))) st = .ok (.bl true) (st ++ g)) :
    mOpN allD (mCons (mLc (mIt (mVar j)) (.nm k) mYes me [k]) mNil) e st = .ok (.bl true) (st ++ [.lst ((ns.map fun _ => true).map .bl)]) := by
  have hc : mLc (mIt (mVar j)) (.nm k) mYes me [k] e st = .ok (.ref st.length) (st ++ [.lst ((ns.map fun _ => true).map .bl)]) := by
    rw [List.map_map]
    exact mLc_nats (ns := ns) (still := stillD d (natsD ns)) (fun _ => .bl true) (it_of (var_of hd) (itD_seq hs)) (stillD_of hs) (by omega) fun n hn => by
      obtain ⟨g, hg⟩ := h n hn
      exact ⟨_, g, rfl, hg, rfl⟩
  have hall := opN_of (one_of hc) (allD_of (st := st ++ [O.lst ((ns.map fun _ => true).map .bl)]) (n := st.length) (bs := ns.map fun _ => true) getL_new)
  have hT : (ns.map fun _ => true).all id = true := by simp
  rw [hT] at hall
  exact hall
theorem e_are_integers (ns : List Nat) (hl : ns.length ≤ 1000) (st : Store) : m_are_integers [.tup (natsD ns)] st = .ok (.bl true) st :=
  run_rt (seq_rt (ret_of (andV_t (isi_of (cs := ["tuple"]) (k := true) (var_of rfl) ty_tup rfl) (all_true (ns := ns) (d := .tup (natsD ns)) rfl rfl hl fun n hn => ⟨[], by rw [List.append_nil]; exact call_of (one_of (var_of rfl)) (e_is_integer n st)⟩)))) rfl
theorem e_are_counts (ns : List Nat) (hl : ns.length ≤ 1000) (st : Store) : m_are_counts [.tup (natsD ns)] st = .ok (.bl true) st :=
  run_rt (seq_rt (ret_of (andV_t (call_of (one_of (var_of rfl)) (e_are_integers ns hl st)) (all_true (ns := ns) (d := .tup (natsD ns)) rfl rfl hl fun n hn => ⟨[], by
    rw [List.append_nil]
    refine op2_of (var_of rfl) rfl ?_
    rw [geI]
    have : decide ((0 : Int) ≤ (n : Int)) = true := by simp
    rw [this]⟩)))) rfl
theorem e_are_heaps (ns : List Nat) (hl : ns.length ≤ 60) (h : ∀ n ∈ ns, n < 2 ^ 60) (st : Store) : m_are_heaps [.tup (natsD ns)] st = .ok (.bl true) st := by
  have hle := op2_of (f := leD) (opN_of (f := lenD) (one_of (var_of (i := 0) (e := [some (.tup (natsD ns)), none]) (st := st) rfl)) lenT) (x_c (.int 60)) leI
  have e1 : decide (((natsD ns).length : Int) ≤ 60) = true := by rw [natsD_len]; simp; omega
  rw [e1] at hle
  exact run_rt (seq_rt (ret_of (andV_t (call_of (one_of (var_of rfl)) (e_are_counts ns (by omega) st)) (andV_t hle (all_true (ns := ns) (d := .tup (natsD ns)) rfl rfl (by omega) fun n hn => ⟨[], by
    rw [List.append_nil]
    refine op2_of (var_of rfl) rfl ?_
    rw [ltI]
    have := h n hn
    have : decide ((n : Int) < 1152921504606846976) = true := by simp; omega
    rw [this]⟩))))) rfl
theorem e_check_heaps (ns : List Nat) (hl : ns.length ≤ 60) (h : ∀ n ∈ ns, n < 2 ^ 60) (st : Store) : m_check_heaps [.tup (natsD ns)] st = .ok .non st :=
  run_nx0 (seq_nx (if_f (not_of (k := true) (asB_ok (call_of (one_of (var_of rfl)) (e_are_heaps ns hl h st)))) rfl) rfl)
end K98

set_option Elab.async false
set_option linter.all false
set_option maxRecDepth 100000
set_option maxHeartbeats 4000000
namespace K98
open Py L2 PySem PySem.Spec PyProof.Rows
/-- the first heap that can be made smaller -/
theorem take_loop (ns0 : List Nat) (w : Nat) (st : Store) : ∀ (ns : List Nat) (k : Nat) (d2 d3 : Option D),
    (∃ d, flat d = true ∧ d ≠ .non ∧ (∃ n ∈ ns, n ^^^ w < n) ∧ (∃ a b : Int, d = .tup [.int a, .int b]) ∧ forL (fun _ => True) (fun d e st => ((gTp 2 (gCn (gN 2) (gCn (gN 3) gNl))) d e st).seq (sSeq (sIf (asB (mOp2 ltD (mOp2 xorD (mVar 3) (mVar 1)) (mVar 3))) (sSeq (sRet (mTup (mCons (mVar 2) (mCons (mOp2 xorD (mVar 3) (mVar 1)) mNil)))) (fun e st => .nx e st)) (fun e st => .nx e st)) (fun e st => .nx e st))) (enF k (natsD ns)) [some (.tup (natsD ns0)), some (.int (w : Nat)), d2, d3] st = .rt d st) ∨
    ((∀ n ∈ ns, ¬ n ^^^ w < n) ∧ ∃ d2' d3', forL (fun _ => True) (fun d e st => ((gTp 2 (gCn (gN 2) (gCn (gN 3) gNl))) d e st).seq (sSeq (sIf (asB (mOp2 ltD (mOp2 xorD (mVar 3) (mVar 1)) (mVar 3))) (sSeq (sRet (mTup (mCons (mVar 2) (mCons (mOp2 xorD (mVar 3) (mVar 1)) mNil)))) (fun e st => .nx e st)) (fun e st => .nx e st)) (fun e st => .nx e st))) (enF k (natsD ns)) [some (.tup (natsD ns0)), some (.int (w : Nat)), d2, d3] st = .nx [some (.tup (natsD ns0)), some (.int (w : Nat)), d2', d3'] st) := by
  intro ns
  induction ns with
  | nil => exact fun k d2 d3 => .inr ⟨fun n hn => (nomatch hn), d2, d3, forL_nil trivial⟩
  | cons a ns ih =>
    intro k d2 d3
    have e0 : enF k (natsD (a :: ns)) = .tup [.int (k : Nat), .int (a : Nat)] :: enF (k + 1) (natsD ns) := rfl
    rw [e0]
    have hb : (gTp 2 (gCn (gN 2) (gCn (gN 3) gNl))) (.tup [.int (k : Nat), .int (a : Nat)]) [some (.tup (natsD ns0)), some (.int (w : Nat)), d2, d3] st = .nx [some (.tup (natsD ns0)), some (.int (w : Nat)), some (.int (k : Nat)), some (.int (a : Nat))] st := rfl
    have hx := op2_of (f := xorD) (var_of (i := 3) (e := [some (.tup (natsD ns0)), some (.int (w : Nat)), some (.int (k : Nat)), some (.int (a : Nat))]) (st := st) rfl) (var_of (i := 1) rfl) xorI
    rw [xorN] at hx
    have hq := asB_ok (op2_of (f := ltD) hx (var_of (i := 3) rfl) ltI)
    by_cases hlt : a ^^^ w < a
    · have e1 : decide (((a ^^^ w : Nat) : Int) < (a : Int)) = true := by simp only [decide_eq_true_eq]; omega
      rw [e1] at hq
      refine .inl ⟨.tup [.int (k : Nat), .int ((a ^^^ w : Nat) : Int)], rfl, by simp, ⟨a, List.mem_cons_self, hlt⟩, ⟨_, _, rfl⟩, forL_rt trivial ?_⟩
      rw [hb, Fl.seq_nx]
      exact seq_rt (if_t hq (seq_rt (ret_of (tup_of (two_of (var_of rfl) hx) (by simp)))))
    · have e1 : decide (((a ^^^ w : Nat) : Int) < (a : Int)) = false := by simp only [decide_eq_false_iff_not]; omega
      rw [e1] at hq
      rw [forL_nx trivial (e' := [some (.tup (natsD ns0)), some (.int (w : Nat)), some (.int (k : Nat)), some (.int (a : Nat))]) (st' := st) (by rw [hb, Fl.seq_nx]; exact seq_nx (if_f hq rfl) rfl)]
      rcases ih (k + 1) (some (.int (k : Nat))) (some (.int (a : Nat))) with ⟨d, h1, h2, ⟨n, hn, h3⟩, h5, h4⟩ | ⟨h1, d2', d3', h2⟩
      · exact .inl ⟨d, h1, h2, ⟨n, List.mem_cons_of_mem _ hn, h3⟩, h5, h4⟩
      · refine .inr ⟨fun n hn => ?_, d2', d3', h2⟩
        rcases List.mem_cons.mp hn with rfl | hn
        · exact hlt
        · exact h1 n hn
theorem e_first_taking (ns : List Nat) (hl : ns.length ≤ 60) (h : ∀ n ∈ ns, n < 2 ^ 60) (st : Store) :
    (xorL ns = 0 ∧ m_first_taking [.tup (natsD ns)] st = .ok .non st) ∨ (xorL ns ≠ 0 ∧ ∃ a b : Int, m_first_taking [.tup (natsD ns)] st = .ok (.tup [.int a, .int b]) st) := by
  have hen : enD (.tup (natsD ns)) st = some ⟨enF 0 (natsD ns), fun _ => True⟩ := by
    simp only [enD, itD, seqOf_tup, Option.map_some, enL_F]
    rfl
  rcases take_loop ns (xorL ns) st ns 0 none none with ⟨d, h1, h2, ⟨n, hn, h3⟩, ⟨a, b, rfl⟩, h4⟩ | ⟨h1, d2', d3', h2⟩
  · refine .inr ⟨fun z => ?_, a, b, run_rt0 (seq_nx (exp_of (call_of (one_of (var_of rfl)) (e_check_heaps ns hl h st))) (seq_nx (set_of (call_of (one_of (var_of rfl)) (e_together rfl))) (seq_rt (for_of (en_of (var_of rfl) hen) h4)))) rfl⟩
    rw [z] at h3
    simp at h3
  · refine .inl ⟨?_, run_rt0 (seq_nx (exp_of (call_of (one_of (var_of rfl)) (e_check_heaps ns hl h st))) (seq_nx (set_of (call_of (one_of (var_of rfl)) (e_together rfl))) (seq_nx (for_of (en_of (var_of rfl) hen) h2) (seq_rt (ret_of rfl))))) rfl⟩
    refine Classical.byContradiction fun hne => ?_
    obtain ⟨a, ha, hbit⟩ := xorL_bit _ _ (Nat.testBit_log2 hne)
    have := xor_lt hne hbit
    rw [Nat.xor_comm] at this
    exact h1 a ha this
end K98

set_option Elab.async false
set_option linter.all false
set_option maxRecDepth 100000
set_option maxHeartbeats 4000000
namespace K98
open Py L2 PySem PySem.Spec PyProof.Rows
theorem law_is_int (m : Mean) (a b : Int) (st : Store) : runD N__law_is (b__law_is m) [.int a, .int b] st = .ok (.bl (decide (a = b))) st := by
  have hi : ∀ (i : Nat) (x : Int) (cs : List String) (k : Bool) (e : Py.Loc), e[i]? = some (some (.int x)) → (cs.any fun c => isT "int" c) = k → mIsi (mVar i) cs e st = .ok (.bl k) st := fun i x cs k e he hk => isi_of (var_of he) ty_int hk
  refine run_rt0 (seq_nx (if_f (asB_ok (hi 1 b _ false _ rfl rfl)) rfl) (seq_nx (if_f (or_f (asB_ok (op2_of (var_of rfl) rfl isNon_int)) (asB_ok (op2_of (var_of rfl) rfl isNon_int))) rfl) (seq_nx (if_f (or_f (asB_ok (op2_of (hi 0 a _ false _ rfl rfl) (hi 1 b _ false _ rfl rfl) neBl)) (asB_ok (op2_of (hi 0 a _ true _ rfl rfl) (hi 1 b _ true _ rfl rfl) neBl))) rfl) (seq_rt (ret_of (andV_t (op2_of (hi 0 a _ false _ rfl rfl) (hi 1 b _ false _ rfl rfl) eqBl) (op2_of (var_of rfl) (var_of rfl) eqI))))))) rfl
end K98

set_option Elab.async false
set_option linter.all false
set_option maxRecDepth 100000
set_option maxHeartbeats 4000000
namespace K98
open Py L2 PySem PySem.Spec PyProof.Rows
theorem enF_mem' {n : Nat} {bs : List Bool} {d : D} (h : d ∈ enF n (charsD bs)) : ∃ p b, d = .tup [.int (p : Nat), .str (chS b)] ∧ n ≤ p ∧ bs[p - n]? = some b := by
  obtain ⟨p, b, h1, h2, _, h3⟩ := enF_mem h
  exact ⟨p, b, h1, h2, h3⟩
def turnAt (bs : List Bool) (l : List Nat) : List Bool := bs.mapIdx fun i b => if i ∈ l then !b else b
theorem turnB_get (l : List Nat) : ∀ (bs : List Bool) (i : Nat), l.Nodup → (∀ a ∈ l, a < bs.length) → (turnB bs l)[i]? = (bs[i]?).map fun b => if i ∈ l then !b else b := by
  induction l with
  | nil => intro bs i _ _; simp [turnB]
  | cons a l ih =>
    intro bs i hn ha
    have e : turnB bs (a :: l) = turnB (flip bs a) l := rfl
    have hn' := List.nodup_cons.mp hn
    rw [e, ih (flip bs a) i hn'.2 fun b hb => by rw [flip_len]; exact ha b (List.mem_cons_of_mem _ hb)]
    have hal := ha a List.mem_cons_self
    by_cases h : a = i
    · subst h
      have : ¬ a ∈ l := hn'.1
      simp [flip, this, hal]
    · have h2 : ¬ i = a := fun z => h z.symm
      simp [flip, h, h2]
theorem turnAt_eq {l : List Nat} {bs : List Bool} (hn : l.Nodup) (ha : ∀ a ∈ l, a < bs.length) : turnAt bs l = turnB bs l := by
  refine List.ext_getElem? fun i => ?_
  rw [turnB_get l bs i hn ha]
  unfold turnAt
  rw [List.getElem?_mapIdx]
end K98

set_option Elab.async false
set_option linter.all false
set_option maxRecDepth 100000
set_option maxHeartbeats 4000000
namespace K98
open Py L2 PySem PySem.Spec PyProof.Rows
theorem in_nats (p : Nat) (l : List Nat) (st : Store) : inA (.int (p : Nat)) (.tup (natsD l)) st = some (.bl (decide (p ∈ l)), st) := by
  have e : inDictD (.int (p : Nat)) (.tup (natsD l)) st = none := rfl
  have hb : inB (.int (p : Nat)) (.tup (natsD l)) st = some (decide (p ∈ l)) := by
    have h1 : (natsD l).all flatD = true := by
      unfold natsD
      rw [List.all_map]
      simp [flatD]
    have h2 : ((natsD l).any fun y => eqF y (.int (p : Nat))) = decide (p ∈ l) := by
      unfold natsD
      rw [List.any_map]
      clear h1 e
      induction l with
      | nil => simp
      | cons a l ih =>
        rw [List.any_cons, ih]
        by_cases h : p = a
        · subst h; simp [eqF, eqV, VofD]
        · have h3 : ¬ (a : Int) = (p : Int) := by omega
          simp [eqF, eqV, VofD, h, h3]
    simp only [inB]
    rw [if_pos ⟨rfl, h1⟩, h2]
  unfold inA
  rw [e]
  simp only [inD, hb]
end K98

set_option Elab.async false
set_option linter.all false
set_option maxRecDepth 100000
set_option maxHeartbeats 4000000
namespace K98
open Py L2 PySem PySem.Spec PyProof.Rows
def turnF (l : List Nat) : D → D
  | .tup [.int p, .str s] => if p.toNat ∈ l then (if s = chS true then .str (chS false) else .str (chS true)) else .str s
  | d => d
theorem turnF_all (l : List Nat) (n : Nat) (bs : List Bool) : (enF n (charsD bs)).map (turnF l) = charsD (bs.mapIdx fun i b => if n + i ∈ l then !b else b) := by
  induction bs generalizing n with
  | nil => rfl
  | cons b bs ih =>
    have e : charsD (b :: bs) = .str (chS b) :: charsD bs := rfl
    rw [e]
    unfold enF
    rw [List.map_cons, ih, List.mapIdx_cons]
    have e2 : ∀ (c : Bool) (cs : List Bool), charsD (c :: cs) = .str (chS c) :: charsD cs := fun _ _ => rfl
    rw [e2]
    have hnt : ¬ chS false = chS true := by decide
    congr 1
    · simp only [turnF, Int.toNat_natCast, Nat.add_zero]
      by_cases h : n ∈ l
      · cases b <;> simp [h, hnt]
      · simp [h]
    · congr 2
      funext i c
      have : n + 1 + i = n + (i + 1) := by omega
      rw [this]
theorem e_law_turned (bs : List Bool) (l : List Nat) (hb : bs.length ≤ 64) (st : Store) : m__law_turned [.str (rowS bs), .tup (natsD l)] st = .ok (.str (rowS (turnAt bs l))) st := by
  have hc : mLc (mEn (mVar 0)) (.tp [2, 3]) mYes (mIf (asB (mOp2 inA (mVar 2) (mVar 1))) (mIf (asB (mOp2 eqD (mVar 3) (mC (.str "H")))) (mC (.str "T")) (mC (.str "H"))) (mVar 3)) [2, 3] [some (.str (rowS bs)), some (.tup (natsD l)), none, none] st = .ok (.ref st.length) (st ++ [.lst ((enF 0 (charsD bs)).map (turnF l))]) := by
    refine mLc_map (it := ⟨enF 0 (charsD bs), fun _ => True⟩) (turnF l) (en_of (var_of rfl) (en_row bs st)) trivial (by rw [enF_len]; simp only [charsD, List.length_map]; exact le_size (by omega)) fun d hd => ?_
    obtain ⟨p, b, rfl, _, _⟩ := enF_mem' hd
    refine ⟨[some (.str (rowS bs)), some (.tup (natsD l)), some (.int (p : Nat)), some (.str (chS b))], [], rfl, ?_, ?_⟩
    · rw [List.append_nil]
      have hi := asB_ok (op2_of (f := inA) (var_of (i := 2) (e := [some (.str (rowS bs)), some (.tup (natsD l)), some (.int (p : Nat)), some (.str (chS b))]) (st := st) rfl) (var_of (i := 1) rfl) (in_nats p l st))
      have hq := asB_ok (op2_of (f := eqD) (var_of (i := 3) (e := [some (.str (rowS bs)), some (.tup (natsD l)), some (.int (p : Nat)), some (.str (chS b))]) (st := st) rfl) (x_c (.str "H")) (eqH b st))
      simp only [turnF, Int.toNat_natCast]
      have hnt : ¬ chS false = chS true := by decide
      by_cases h : p ∈ l
      · rw [decide_eq_true h] at hi
        rw [if_pos h]
        cases b with
        | true =>
          have q := ifx_t (k := true) (mb := mVar 3) hi (ifx_t (k := true) (mb := mC (.str "H")) hq (x_c (.str "T")))
          conv at q => rhs; rw [T_eq]
          rw [if_pos rfl]; exact q
        | false =>
          have q := ifx_t (k := true) (mb := mVar 3) hi (ifx_f (k := true) (ma := mC (.str "T")) hq (x_c (.str "H")))
          conv at q => rhs; rw [H_eq]
          rw [if_neg hnt]; exact q
      · rw [decide_eq_false h] at hi
        rw [if_neg h]
        exact ifx_f (k := true) hi (var_of rfl)
    · simp only [turnF]
      split
      · split <;> rfl
      · rfl
  rw [turnF_all] at hc
  have e : (bs.mapIdx fun i b => if 0 + i ∈ l then !b else b) = turnAt bs l := by simp [turnAt]
  rw [e] at hc
  exact run_rt (seq_rt (ret_of (mtS_of rfl hc (join_chars (by simp) (by simp [turnAt]; omega))))) rfl
end K98

set_option Elab.async false
set_option linter.all false
set_option maxRecDepth 100000
set_option maxHeartbeats 4000000
namespace K98
open Py L2 PySem PySem.Spec PyProof.Rows
theorem draw' {st : Store} {h c : Nat} {cells : List Int} (H : Hnd st h c cells) (m : Nat) (hm : 0 < m) (hm2 : m < 2 ^ 63) : ∃ d st', d < m ∧ m__law_draw [.ref h, .int (m : Nat)] st = .ok (.int (d : Nat)) st' ∧ Stp st st' h c ∧ Hnd st' h c cells := by
  obtain ⟨i, a, b, e, q, G⟩ := H.now
  obtain ⟨d, i', a', b', e', h1, h2, h3, h4⟩ := e_draw (st := st) (m := (m : Int)) H.hl H.ne H.cl G (by omega) (by omega)
  have hst : st.set h (hd5 c i a b e) = st := by
    obtain ⟨hh, q'⟩ := List.getElem?_eq_some_iff.mp q
    rw [← q', List.set_getElem_self]
  rw [hst] at h1
  obtain ⟨n, rfl⟩ := Int.eq_ofNat_of_zero_le h2
  exact ⟨n, _, by omega, h1, ⟨i', a', b', e', rfl⟩, ⟨⟨i', a', b', e', at_set H.hl, h4⟩, by rw [at_ne H.ne]; exact H.cl, H.ne⟩⟩
theorem atI_of {α : Type} {xs : List α} {n : Nat} (h : n < xs.length) : atI xs (n : Int) = some xs[n] := by
  simp only [atI, ixN]
  rw [if_pos (by omega), if_pos (by omega)]
  simp
/-- one of the things of a list -/
theorem some_list {st : Store} {h c : Nat} {cells : List Int} (H : Hnd st h c cells) {n : Nat} {ds : List D} (hn : st[n]? = some (.lst ds)) (hne : n ≠ h) (h0 : 0 < ds.length) (hl : ds.length ≤ 1000) (hf : ∀ d ∈ ds, flat d = true) :
    ∃ d st', d ∈ ds ∧ m__law_some [.ref h, .ref n] st = .ok d st' ∧ Stp st st' h c ∧ Hnd st' h c cells := by
  have hlen : lenD [.ref n] st = some (.int (ds.length : Nat), st) := by simp [lenD, hn, getL]
  obtain ⟨k, st', hk, h1, h2, h3⟩ := draw' H ds.length h0 (by omega)
  have hn' : st'[n]? = some (.lst ds) := by rw [h2.at_ hne, hn]
  have hm : ds[k] ∈ ds := List.getElem_mem hk
  refine ⟨ds[k], st', hm, run_stp (g := []) H h2 (seq_rt (ret_of (op2_of (var_of rfl) (call_of (two_of (var_of rfl) (opN_of (one_of (var_of rfl)) hlen)) h1) (ix_at hn' (atI_of hk))))) (by rw [List.append_nil]) (hf _ hm), h2, h3⟩
/-- one sign of a text -/
theorem some_str {st : Store} {h c : Nat} {cells : List Int} (H : Hnd st h c cells) (z : Str) (h0 : 0 < z.length) (hl : z.length ≤ 1000) :
    ∃ x st', x ∈ z.cps.toList ∧ m__law_some [.ref h, .str z] st = .ok (.str ⟨#[x]⟩) st' ∧ Stp st st' h c ∧ Hnd st' h c cells := by
  have hlen : lenD [.str z] st = some (.int (z.length : Nat), st) := by
    simp only [lenD]
    rw [if_pos (le_size (by omega))]
  obtain ⟨k, st', hk, h1, h2, h3⟩ := draw' H z.length h0 (by omega)
  have hk' : k < z.cps.toList.length := by simpa [Str.length] using hk
  refine ⟨z.cps.toList[k], st', List.getElem_mem hk', run_stp (g := []) H h2 (seq_rt (ret_of (op2_of (var_of rfl) (call_of (two_of (var_of rfl) (opN_of (one_of (var_of rfl)) hlen)) h1) ?_))) (by rw [List.append_nil]) rfl, h2, h3⟩
  simp only [ixD]
  rw [if_pos (le_size (by omega)), atI_of hk']
end K98

set_option Elab.async false
set_option linter.all false
set_option maxRecDepth 100000
set_option maxHeartbeats 4000000
namespace K98
open Py L2 PySem PySem.Spec PyProof.Rows
def signsD : List D := [.str "HT", .str "HT", .str "HTT", .str "HHT", .str "H"]
theorem signs_ok : ∀ d ∈ signsD, ∃ z : Str, d = .str z ∧ 0 < z.length ∧ z.length ≤ 1000 ∧ ∀ x ∈ z.cps.toList, ∃ b, x = chN b := by
  intro d hd
  have key : ∀ z : Str, (decide (0 < z.length) && decide (z.length ≤ 1000) && z.cps.toList.all fun x => x == 72 || x == 84) = true → 0 < z.length ∧ z.length ≤ 1000 ∧ ∀ x ∈ z.cps.toList, ∃ b, x = chN b := fun z hz => by
    simp only [Bool.and_eq_true, decide_eq_true_eq, List.all_eq_true, Bool.or_eq_true, beq_iff_eq] at hz
    refine ⟨hz.1.1, hz.1.2, fun x hx => ?_⟩
    rcases hz.2 x hx with rfl | rfl
    · exact ⟨true, rfl⟩
    · exact ⟨false, rfl⟩
  simp only [signsD, List.mem_cons, List.not_mem_nil, or_false] at hd
  rcases hd with rfl | rfl | rfl | rfl | rfl
  · exact ⟨_, rfl, key _ (by decide +kernel)⟩
  · exact ⟨_, rfl, key _ (by decide +kernel)⟩
  · exact ⟨_, rfl, key _ (by decide +kernel)⟩
  · exact ⟨_, rfl, key _ (by decide +kernel)⟩
  · exact ⟨_, rfl, key _ (by decide +kernel)⟩
theorem row_loop {h c : Nat} {cells : List Int} {z : Str} (h0 : 0 < z.length) (hl : z.length ≤ 1000) (hz : ∀ x ∈ z.cps.toList, ∃ b, x = chN b) (e : Py.Loc) (he0 : e[0]? = some (some (.ref h))) (he2 : e[2]? = some (some (.str z))) (h3 : 3 < e.length) : ∀ (l : List Nat) (st : Store), Hnd st h c cells →
    ∃ bs st', bs.length = l.length ∧ lcL (fun _ => True) (fun d st => lcB (.nm 3) mYes (mCall m__law_some (mCons (mVar 0) (mCons (mVar 2) mNil))) d e st) (natsD l) st = .ok (charsD bs) st' ∧ Stp st st' h c ∧ Hnd st' h c cells := by
  intro l
  induction l with
  | nil => exact fun st H => ⟨[], st, rfl, by unfold lcL natsD; rw [List.map_nil]; simp; rfl, Stp.refl H, H⟩
  | cons a l ih =>
    intro st H
    obtain ⟨x, st1, hx, h1, h2, h3'⟩ := some_str H z h0 hl
    obtain ⟨b, rfl⟩ := hz x hx
    obtain ⟨bs, st', hb, h4, h5, h6⟩ := ih st1 h3'
    refine ⟨b :: bs, st', by simp [hb], ?_, h2.trans h5, h6⟩
    have hB : lcB (.nm 3) mYes (mCall m__law_some (mCons (mVar 0) (mCons (mVar 2) mNil))) (.int (a : Nat)) e st = .ok (some (.str (chS b))) st1 :=
      lcB_stp (g := []) H h2 rfl rfl (by
        rw [List.append_nil]
        refine call_of (two_of (var_of (d := .ref h) ?_) (var_of (d := .str z) ?_)) h1
        · rw [List.getElem?_set_ne (by omega)]; exact he0
        · rw [List.getElem?_set_ne (by omega)]; exact he2) rfl
    have e1 : natsD (a :: l) = .int (a : Nat) :: natsD l := rfl
    rw [e1]
    unfold lcL
    rw [if_pos trivial, hB]
    simp only [R.bind_ok, h4]
    rfl
theorem mLc_run {e : Py.Loc} {st st1 st2 : Store} {mi : Py.Loc → Store → R Iter} {tg : Tg} {mt : Py.Loc → Store → R Bool} {me : Py.Loc → Store → R D} {vs : List Nat} {it : Iter} {ds : List D} (hi : mi e st = .ok it st1) (hl : it.items.length ≤ sizeLine) (h : lcL it.still (fun d st => lcB tg mt me d (wipeE e vs) st) it.items st1 = .ok ds st2) : mLc mi tg mt me vs e st = .ok (.ref st2.length) (st2 ++ [.lst ds]) := by
  unfold mLc
  rw [hi]
  simp only [R.bind_ok]
  rw [if_pos hl, h]
  rfl
theorem e_law_row {st : Store} {h c : Nat} {cells : List Int} (H : Hnd st h c cells) (size : Nat) (hs : size ≤ 64) : ∃ bs st', bs.length = size ∧ m__law_row [.ref h, .int (size : Nat)] st = .ok (.str (rowS bs)) st' ∧ Stp st st' h c ∧ Hnd st' h c cells := by
  have hlst : mLst (mCons (mC (.str "HT")) (mCons (mC (.str "HT")) (mCons (mC (.str "HTT")) (mCons (mC (.str "HHT")) (mCons (mC (.str "H")) mNil))))) [some (.ref h), some (.int (size : Nat)), none, none] st = .ok (.ref st.length) (st ++ [.lst signsD]) := lst_of (ds := signsD) (cons_of rfl (cons_of rfl (cons_of rfl (cons_of rfl (one_of rfl))))) (by simp [signsD])
  have hne : st.length ≠ h := by have := H.hl; omega
  obtain ⟨d, s1, hd, h1, h2, h3⟩ := some_list (H.app [.lst signsD]) (n := st.length) (ds := signsD) (by simp) hne (by simp [signsD]) (by simp [signsD]) fun d hd => by
    obtain ⟨z, rfl, _⟩ := signs_ok d hd; rfl
  obtain ⟨z, rfl, z0, z1, z2⟩ := signs_ok d hd
  obtain ⟨t1, rfl, k1⟩ := h2.app H.hl
  obtain ⟨bs, s2, hb, h4, h5, h6⟩ := row_loop z0 z1 z2 [some (.ref h), some (.int (size : Nat)), some (.str z), none] rfl rfl (by simp) (List.range size) _ h3
  have hlen1 : t1.length = st.length := k1.len
  obtain ⟨t2, rfl, k2⟩ := h5.app (by rw [hlen1]; exact H.hl)
  rw [List.length_range] at hb
  refine ⟨bs, t2, hb, run_stp (g := [.lst signsD] ++ [.lst (charsD bs)]) H (k1.trans k2) (seq_nx (set_of (call_of (two_of (var_of rfl) hlst) h1)) (seq_rt (ret_of (mtS_of (b := .ref (t2 ++ [O.lst signsD]).length) (st2 := (t2 ++ [O.lst signsD]) ++ [O.lst (charsD bs)]) rfl ?_ (join_chars (by simp) (by omega)))))) (by rw [List.append_assoc]) rfl, k1.trans k2, ?_⟩
  · exact mLc_run (it := ⟨natsD (List.range size), fun _ => True⟩) (rgs_of (one_of (var_of rfl)) (rg1 size (by omega))) (by rw [natsD_len, List.length_range]; exact le_size (by omega)) h4
  · obtain ⟨i, a, b, e, q, G⟩ := h6.now
    have hl2 : t2.length = st.length := (k1.trans k2).len
    exact ⟨⟨i, a, b, e, by rw [List.getElem?_append_left (by rw [hl2]; exact H.hl)] at q; exact q, G⟩, by rw [(k1.trans k2).at_ H.ne]; exact H.cl, H.ne⟩
end K98

set_option Elab.async false
set_option linter.all false
set_option maxRecDepth 100000
set_option maxHeartbeats 4000000
namespace K98
open Py L2 PySem PySem.Spec PyProof.Rows
/-! ### products -/
theorem shr_nat (n s : Nat) (st : Store) : shrD (.int (n : Nat)) (.int (s : Nat)) st = some (.int ((n / 2 ^ s : Nat) : Int), st) := by
  rw [shrI (by omega)]
  congr 3
theorem shl_nat (n s : Nat) (st : Store) (h : n < 2 ^ 200) (hs : s ≤ 200) : shlD (.int (n : Nat)) (.int (s : Nat)) st = some (.int ((n * 2 ^ s : Nat) : Int), st) := by
  rw [shlI (shl_ok (n := 200) (by simpa using h) (by omega))]
  congr 3
theorem half_loop (n k : Nat) (h : n < 2 ^ (2 * 2 ^ k)) (hk : k ≤ 6) : ∀ (d j : Nat), j + d = k → ∃ j', j' ≤ k ∧ n < 2 ^ (2 * 2 ^ j') ∧ ∀ st : Store, sWh (asB (mOp2 gtD (mOp2 shrD (mVar 0) (mOp2 mulD (mC (.int 2)) (mVar 1))) (mC (.int 0)))) (sSeq (sAsg (mOp2 mulD (mVar 1) (mC (.int 2))) (gN 1)) (fun e st => .nx e st)) [some (.int (n : Nat)), some (.int ((2 ^ j : Nat) : Int))] st = .nx [some (.int (n : Nat)), some (.int ((2 ^ j' : Nat) : Int))] st := by
  have hc : ∀ (a : Nat) (st : Store), asB (mOp2 gtD (mOp2 shrD (mVar 0) (mOp2 mulD (mC (.int 2)) (mVar 1))) (mC (.int 0))) [some (.int (n : Nat)), some (.int (a : Nat))] st = .ok (decide (2 ^ (2 * a) ≤ n)) st := fun a st => by
    have e1 : decide ((0 : Int) < ((n / 2 ^ (2 * a) : Nat) : Int)) = decide (2 ^ (2 * a) ≤ n) := decide_eq_decide.mpr (by
      have h1 : 0 < n / 2 ^ (2 * a) ↔ 2 ^ (2 * a) ≤ n := by rw [Nat.div_pos_iff]; have := Nat.two_pow_pos (2 * a); constructor <;> intro z
                                                            · exact z.2
                                                            · exact ⟨this, z⟩
      rw [← h1]; omega)
    have h2 : mulD (.int 2) (.int (a : Nat)) st = some (.int ((2 * a : Nat) : Int), st) := by rw [mulI (mul_smallL (by omega) (by omega))]; simp
    have h3 := asB_ok (op2_of (f := gtD) (op2_of (f := shrD) (var_of (i := 0) (e := [some (.int (n : Nat)), some (.int (a : Nat))]) (st := st) rfl) (op2_of (f := mulD) (x_c (.int 2)) (var_of (i := 1) rfl) h2) (shr_nat n (2 * a) st)) (x_c (.int 0)) gtI)
    rw [e1] at h3
    exact h3
  intro d
  induction d with
  | zero =>
    intro j hj
    have : j = k := by omega
    subst this
    refine ⟨j, Nat.le_refl _, h, fun st => wh_f ?_⟩
    rw [hc, decide_eq_false (by omega)]
  | succ d ih =>
    intro j hj
    by_cases hn : n < 2 ^ (2 * 2 ^ j)
    · refine ⟨j, by omega, hn, fun st => wh_f ?_⟩
      rw [hc, decide_eq_false (by omega)]
    · obtain ⟨j', h1, h2, h3⟩ := ih (j + 1) (by omega)
      refine ⟨j', h1, h2, fun st => ?_⟩
      have hm : mulD (.int ((2 ^ j : Nat) : Int)) (.int 2) st = some (.int ((2 ^ (j + 1) : Nat) : Int), st) := by
        rw [mulI (mul_small (by omega) (by omega)), Nat.pow_succ]; simp
      rw [wh_t (by rw [hc, decide_eq_true (by omega)]) (seq_nx (set_of (op2_of (var_of rfl) rfl hm)) rfl)]
      exact h3 st
theorem e_half (n k : Nat) (h : n < 2 ^ (2 * 2 ^ k)) (hk : k ≤ 6) : ∃ j, j ≤ k ∧ n < 2 ^ (2 * 2 ^ j) ∧ ∀ st : Store, m_half_bits [.int (n : Nat)] st = .ok (.int ((2 ^ j : Nat) : Int)) st := by
  obtain ⟨j, h1, h2, h3⟩ := half_loop n k h hk k 0 (by omega)
  exact ⟨j, h1, h2, fun st => run_rt0 (seq_nx (set_of rfl) (seq_nx (h3 st) (seq_rt (ret_of (var_of rfl))))) rfl⟩
theorem e_prod : ∀ (k : Nat), k ≤ 6 → ∀ (a b : Nat), a < 2 ^ 2 ^ k → b < 2 ^ 2 ^ k → ∃ c, c < 2 ^ 2 ^ k ∧ ∀ (n : Nat), k < n → ∀ st : Store, m_product_ofF n [.int (a : Nat), .int (b : Nat)] st = .ok (.int (c : Nat)) st := by
  intro k
  induction k using Nat.strongRecOn with
  | _ k ih =>
    intro hk a b ha hb
    have hA : ∀ st, asB (mOp2 ltD (mVar 0) (mC (.int 2))) (startE N_product_of [.int (a : Nat), .int (b : Nat)]) st = .ok (decide ((a : Int) < 2)) st := fun st => asB_ok (op2_of (var_of rfl) rfl ltI)
    have hB : ∀ st, asB (mOp2 ltD (mVar 1) (mC (.int 2))) (startE N_product_of [.int (a : Nat), .int (b : Nat)]) st = .ok (decide ((b : Int) < 2)) st := fun st => asB_ok (op2_of (var_of rfl) rfl ltI)
    by_cases h2 : a < 2 ∨ b < 2
    · refine ⟨a * b, ?_, fun n hn st => ?_⟩
      · rcases h2 with h | h
        · have : a = 0 ∨ a = 1 := by omega
          rcases this with rfl | rfl
          · rw [Nat.zero_mul]; omega
          · rw [Nat.one_mul]; omega
        · have : b = 0 ∨ b = 1 := by omega
          rcases this with rfl | rfl
          · rw [Nat.mul_zero]; omega
          · rw [Nat.mul_one]; omega
      · obtain ⟨n, rfl⟩ : ∃ m, n = m + 1 := ⟨n - 1, by omega⟩
        have hmul : mulD (.int (a : Nat)) (.int (b : Nat)) st = some (.int ((a * b : Nat) : Int), st) := by
          rcases h2 with h | h
          · rw [mulI (mul_smallL (by omega) (by omega))]; simp
          · rw [mulI (mul_small (by omega) (by omega))]; simp
        have hor : mOr (asB (mOp2 ltD (mVar 0) (mC (.int 2)))) (asB (mOp2 ltD (mVar 1) (mC (.int 2)))) (startE N_product_of [.int (a : Nat), .int (b : Nat)]) st = .ok true st := by
          by_cases h : a < 2
          · have h1 := hA st
            rw [decide_eq_true (by omega)] at h1
            exact or_t h1
          · have h1 := hA st
            rw [decide_eq_false (by omega)] at h1
            have h3 := hB st
            rw [decide_eq_true (by omega)] at h3
            exact or_f h1 h3
        exact run_rt0 (seq_rt (if_t hor (seq_rt (ret_of (op2_of (var_of rfl) (var_of rfl) hmul))))) rfl
    · have hk0 : k ≠ 0 := by
        rintro rfl
        simp at ha
        omega
      obtain ⟨k', rfl⟩ : ∃ m, k = m + 1 := ⟨k - 1, by omega⟩
      have hp2 : 2 ^ 2 ^ (k' + 1) = 2 ^ (2 * 2 ^ k') := by rw [Nat.pow_succ, Nat.mul_comm]
      rw [hp2] at ha hb
      obtain ⟨j, hj, hm, hh⟩ := e_half (max a b) k' (by omega) (by omega)
      obtain ⟨s, hs⟩ : ∃ s, s = 2 ^ j := ⟨_, rfl⟩
      have hs64 : s ≤ 64 := by
        rw [hs]; exact Nat.le_trans (Nat.pow_le_pow_right (by omega) (show j ≤ 6 by omega)) (by decide)
      have hs0 : 0 < s := by rw [hs]; exact Nat.two_pow_pos j
      obtain ⟨M, hM⟩ : ∃ M, M = 2 ^ s := ⟨_, rfl⟩
      have hMM : 2 ^ (2 * 2 ^ j) = M * M := by rw [hM, ← hs, Nat.two_mul, Nat.pow_add]
      have hM0 : 0 < M := by rw [hM]; exact Nat.two_pow_pos s
      rw [hMM] at hm
      have i1 : a / M < M := Nat.div_lt_of_lt_mul (by omega)
      have i2 : a % M < M := Nat.mod_lt _ hM0
      have i3 : b / M < M := Nat.div_lt_of_lt_mul (by omega)
      have i4 : b % M < M := Nat.mod_lt _ hM0
      have hb2 : 2 ^ 2 ^ j = M := by rw [hM, hs]
      have IH := ih j (by omega) (by omega)
      rw [hb2] at IH
      obtain ⟨p1, q1, r1⟩ := IH (a / M) (b / M) i1 i3
      obtain ⟨p2, q2, r2⟩ := IH (a % M) (b % M) i2 i4
      have xl : ∀ {x y : Nat}, x < M → y < M → x ^^^ y < M := fun h1 h2 => by rw [hM] at *; exact Nat.xor_lt_two_pow h1 h2
      obtain ⟨p3, q3, r3⟩ := IH (a / M ^^^ a % M) (b / M ^^^ b % M) (xl i1 i2) (xl i3 i4)
      have hhalf : 2 ^ (s - 1) < M := by rw [hM]; exact Nat.pow_lt_pow_right (by omega) (by omega)
      obtain ⟨p4, q4, r4⟩ := IH p1 (2 ^ (s - 1)) q1 hhalf
      have hle : M * M ≤ 2 ^ 2 ^ (k' + 1) := by
        rw [← hMM, hp2]; exact Nat.pow_le_pow_right (by omega) (Nat.mul_le_mul_left _ (Nat.pow_le_pow_right (by omega) hj))
      have hMle : M ≤ M * M := Nat.le_mul_of_pos_left _ hM0
      have hx : p3 ^^^ p2 < M := xl q3 q2
      have hsh : (p3 ^^^ p2) * M < M * M := Nat.mul_lt_mul_of_pos_right hx hM0
      refine ⟨((p3 ^^^ p2) * M ^^^ p2) ^^^ p4, ?_, fun n hn st => ?_⟩
      · refine Nat.lt_of_lt_of_le ?_ hle
        have e : M * M = 2 ^ (s + s) := by rw [hM, Nat.pow_add]
        rw [e]
        exact Nat.xor_lt_two_pow (Nat.xor_lt_two_pow (by rw [← e]; exact hsh) (by rw [← e]; omega)) (by rw [← e]; omega)
      · obtain ⟨n, rfl⟩ : ∃ m, n = m + 1 := ⟨n - 1, by omega⟩
        have hor : mOr (asB (mOp2 ltD (mVar 0) (mC (.int 2)))) (asB (mOp2 ltD (mVar 1) (mC (.int 2)))) (startE N_product_of [.int (a : Nat), .int (b : Nat)]) st = .ok false st := by
          have h1 := hA st
          rw [decide_eq_false (by omega)] at h1
          have h3 := hB st
          rw [decide_eq_false (by omega)] at h3
          exact or_f h1 h3
        have hmax : maxD' [.int (a : Nat), .int (b : Nat)] st = some (.int ((max a b : Nat) : Int), st) := by
          show some (D.int (max (a : Int) (b : Int)), st) = _
          congr 3
          omega
        have hsize := hh st
        rw [← hs] at hsize
        have hone : ∀ t : Nat, t ≤ 200 → shlD (.int 1) (.int (t : Nat)) st = some (.int ((2 ^ t : Nat) : Int), st) := fun t ht => by
          have := shl_nat 1 t st (by decide) ht
          rw [Nat.one_mul] at this
          exact this
        have hmask : subD (.int ((2 ^ s : Nat) : Int)) (.int 1) st = some (.int ((M - 1 : Nat) : Int), st) := by
          rw [subI, ← hM]
          congr 3
          omega
        have hsub : subD (.int ((s : Nat) : Int)) (.int 1) st = some (.int ((s - 1 : Nat) : Int), st) := by
          rw [subI]
          congr 3
          omega
        have hand : ∀ x : Nat, andD (.int (x : Nat)) (.int ((M - 1 : Nat) : Int)) st = some (.int ((x % M : Nat) : Int), st) := fun x => by
          rw [andI, andN, hM, Nat.and_two_pow_sub_one_eq_mod]
        have hshr : ∀ x : Nat, shrD (.int (x : Nat)) (.int (s : Nat)) st = some (.int ((x / M : Nat) : Int), st) := fun x => by
          rw [shr_nat, hM]
        have hxor : ∀ x y : Nat, xorD (.int (x : Nat)) (.int (y : Nat)) st = some (.int ((x ^^^ y : Nat) : Int), st) := fun x y => by rw [xorI, xorN]
        have hM64 : M < 2 ^ 200 := by rw [hM]; exact Nat.pow_lt_pow_right (by omega) (by omega)
        have hshl : shlD (.int ((p3 ^^^ p2 : Nat) : Int)) (.int (s : Nat)) st = some (.int (((p3 ^^^ p2) * M : Nat) : Int), st) := by
          rw [shl_nat _ _ _ (by omega) (by omega), hM]
        refine run_rt0 (seq_nx (if_f hor rfl) (seq_nx (set_of (call_of (one_of (opN_of (two_of (var_of rfl) (var_of rfl)) hmax)) hsize)) (seq_nx (set_of (op2_of (op2_of rfl (var_of rfl) (hone s (by omega))) rfl hmask))
          (seq_nx (par2_of (op2_of (var_of rfl) (var_of rfl) (hshr a)) (op2_of (var_of rfl) (var_of rfl) (hand a))) (seq_nx (par2_of (op2_of (var_of rfl) (var_of rfl) (hshr b)) (op2_of (var_of rfl) (var_of rfl) (hand b)))
          (seq_nx (set_of (call_of (two_of (var_of rfl) (var_of rfl)) (r1 n (by omega) st))) (seq_nx (set_of (call_of (two_of (var_of rfl) (var_of rfl)) (r2 n (by omega) st)))
          (seq_nx (set_of (op2_of (call_of (two_of (op2_of (var_of rfl) (var_of rfl) (hxor _ _)) (op2_of (var_of rfl) (var_of rfl) (hxor _ _))) (r3 n (by omega) st)) (var_of rfl) (hxor _ _)))
          (seq_rt (ret_of (op2_of (op2_of (op2_of (var_of rfl) (var_of rfl) hshl) (var_of rfl) (hxor _ _)) (call_of (two_of (var_of rfl) (op2_of rfl (op2_of (var_of rfl) rfl hsub) (hone (s - 1) (by omega)))) (r4 n (by omega) st)) (hxor _ _)))))))))))) rfl
theorem e_two_product (a b : Nat) (ha : a < 2 ^ 64) (hb : b < 2 ^ 64) : ∃ c : Nat, ∀ st : Store, m_product_ofF 8 [.int (a : Nat), .int (b : Nat)] st = .ok (.int (c : Nat)) st ∧ m_two_product [.int (a : Nat), .int (b : Nat)] st = .ok (.int (c : Nat)) st := by
  obtain ⟨c, _, h⟩ := e_prod 6 (by omega) a b ha hb
  refine ⟨c, fun st => ⟨h 8 (by omega) st, ?_⟩⟩
  exact run_rt0 (seq_nx (exp_of (call_of (one_of (var_of rfl)) (e_check_count a ha st))) (seq_nx (exp_of (call_of (one_of (var_of rfl)) (e_check_count b hb st))) (seq_rt (ret_of (call_of (two_of (var_of rfl) (var_of rfl)) (h 8 (by omega) st)))))) rfl
theorem T_lt (r : Rl) : ∀ x ∈ T r, x < 2 ^ 64 := by
  have key : ∀ l : List Nat, (l.all fun x => decide (x < 2 ^ 64)) = true → ∀ x ∈ l, x < 2 ^ 64 := fun l h x hx => by
    rw [List.all_eq_true] at h
    simpa using h x hx
  cases r <;> exact key _ (by decide +kernel)
theorem Td_lt (r : Rl) (p : Nat) : (T r).getD p 0 < 2 ^ 64 := by
  by_cases h : p < (T r).length
  · have := T_lt r _ (List.getElem_mem h)
    simpa [List.getD_eq_getElem?_getD, h] using this
  · have : (T r).getD p 0 = 0 := by rw [List.getD_eq_getElem?_getD, List.getElem?_eq_none (by omega)]; rfl
    omega
theorem e_check_place (x y : Nat) (hx : x < 16) (hy : y < 16) (st : Store) : m_check_place [.tup [.int (x : Nat), .int (y : Nat)]] st = .ok .non st := by
  have hall := all_true (e := startE N_check_place [.tup [.int (x : Nat), .int (y : Nat)]]) (st := st) (j := 0) (k := 1) (me := mCall m_is_within (mCons (mVar 1) (mCons (mC (.int 0)) (mCons (mOp2 subD (mC (.int 16)) (mC (.int 1))) mNil)))) (ns := [x, y]) (d := .tup [.int (x : Nat), .int (y : Nat)]) rfl rfl (by simp) fun n hn => ⟨[], by
    rw [List.append_nil]
    refine call_of (cons_of (var_of (d := .int (n : Nat)) rfl) (two_of rfl (op2_of rfl rfl subI))) ?_
    rw [e_is_within]
    have : n < 16 := by simp at hn; omega
    simp
    omega⟩
  have hne := asB_ok (op2_of (f := neD) (opN_of (f := lenD) (one_of (var_of (i := 0) (e := startE N_check_place [.tup [.int (x : Nat), .int (y : Nat)]]) (st := st) rfl)) lenT) (x_c (.int 2)) neI)
  exact run_nx (seq_nx (if_f (or_f (not_of (k := true) (asB_ok (isi_of (cs := ["tuple"]) (k := true) (var_of rfl) ty_tup rfl))) (or_f hne (not_of (k := true) (asB_ok hall)))) rfl) rfl)
theorem last_T (r : Rl) (p : Nat) (hp : p < 64) (n : Nat) (st : Store) (h : st[n]? = some (.lst (natsD ((T r).take (p + 1))))) : ixD (.ref n) (.int (-1)) st = some (.int ((T r).getD p 0 : Nat), st) := by
  refine ix_at h ?_
  rw [take_succ (by rw [T_len]; exact hp)]
  have hl : (natsD ((T r).take p)).length = p := by rw [natsD_len, List.length_take, T_len]; omega
  simp only [atI, ixN, List.length_append, List.length_cons, List.length_nil, hl]
  rw [if_neg (by omega), if_pos (by omega)]
  have e : (-1 + ((p + (0 + 1) : Nat) : Int)).toNat = p := by omega
  simp only [Option.bind_some, e]
  rw [List.getElem?_append_right (by omega), hl]
  simp
theorem e_board (r q : Rl) (x y : Nat) (hx : x < 16) (hy : y < 16) : ∃ c : Nat, ∀ st : Store, m_board_number [.str (nm r), .str (nm q), .tup [.int (x : Nat), .int (y : Nat)]] st = .ok (.int (c : Nat)) st ∧ m_two_product [.int ((T r).getD x 0 : Nat), .int ((T q).getD y 0 : Nat)] st = .ok (.int (c : Nat)) st := by
  obtain ⟨c, h⟩ := e_two_product ((T r).getD x 0) ((T q).getD y 0) (Td_lt _ _) (Td_lt _ _)
  refine ⟨c, fun st => ⟨?_, (h st).2⟩⟩
  have n1 := e_numbers r (x + 1) (by omega) st
  obtain ⟨s1, hs1⟩ : ∃ s1, s1 = st ++ [O.lst (natsD ((T r).take (x + 1)))] := ⟨_, rfl⟩
  have l1 := last_T r x (by omega) st.length s1 (by rw [hs1]; simp)
  rw [← hs1] at n1
  have n2 := e_numbers q (y + 1) (by omega) s1
  obtain ⟨s2, hs2⟩ : ∃ s2, s2 = s1 ++ [O.lst (natsD ((T q).take (y + 1)))] := ⟨_, rfl⟩
  have l2 := last_T q y (by omega) s1.length s2 (by rw [hs2]; simp)
  rw [← hs2] at n2
  have a1 : addD (.int (x : Nat)) (.int 1) st = some (.int ((x + 1 : Nat) : Int), st) := addI
  have a2 : addD (.int (y : Nat)) (.int 1) s1 = some (.int ((y + 1 : Nat) : Int), s1) := addI
  have i0 : ∀ s, ixD (.tup [.int (x : Nat), .int (y : Nat)]) (.int 0) s = some (.int (x : Nat), s) := fun s => rfl
  have i1 : ∀ s, ixD (.tup [.int (x : Nat), .int (y : Nat)]) (.int 1) s = some (.int (y : Nat), s) := fun s => rfl
  refine run_rtS (st' := s2) (g := [O.lst (natsD ((T r).take (x + 1)))] ++ [O.lst (natsD ((T q).take (y + 1)))]) (seq_nx (exp_of (call_of (one_of (var_of rfl)) (e_check_rule r st))) (seq_nx (exp_of (call_of (one_of (var_of rfl)) (e_check_rule q st))) (seq_nx (exp_of (call_of (one_of (var_of rfl)) (e_check_place x y hx hy st)))
    (seq_rt (ret_of (call_of (two_of (op2_of (call_of (two_of (var_of rfl) (op2_of (op2_of (var_of rfl) rfl (i0 _)) rfl a1)) n1) (neg_one _ _) l1) (op2_of (call_of (two_of (var_of rfl) (op2_of (op2_of (var_of rfl) rfl (i1 _)) rfl a2)) n2) (neg_one _ _) l2)) (h s2).1)))))) (by rw [hs2, hs1, List.append_assoc]) rfl
end K98

set_option Elab.async false
set_option linter.all false
set_option maxRecDepth 100000
set_option maxHeartbeats 4000000
namespace K98
open Py L2 PySem PySem.Spec PyProof.Rows
/-! ### lists of numbers: equal, in -/
theorem py_list (st : Store) (n : Nat) (l : List Nat) (h : getL st n = some (natsD l)) : toPy st (.ref n) = some (.list (intsP l)) := by
  show pyR st 8 n = _
  simp only [pyR, h]
  rw [py_nats st]
theorem shaped_ints (l : List Nat) : SeqAt.shaped (.list (intsP l)) = true := by
  have h1 : PyData.canLay0 (.list (intsP l)) = true := by simp only [PyData.canLay0]; exact can_ints l
  have h2 : PyData.depthAll (intsP l) = 0 := PySem.W.depth_ints _
  unfold SeqAt.shaped
  rw [h1]
  simp [PyData.depth, h2]
theorem ne_nats {st : Store} {n m : Nat} {l : List Nat} (h1 : getL st n = some (natsD l)) (h2 : getL st m = some (natsD l)) : neD (.ref n) (.ref m) st = some (.bl false, st) := by
  unfold neD
  rw [py_list st n l h1, py_list st m l h2]
  simp only
  rw [guard_pos ⟨shaped_ints l, shaped_ints l⟩, PySem.W.eqv_refl_alike _ (by simp only [PySem.W.alike]; exact PySem.W.alike_ints _ _)]
  rfl
theorem any_eqv (l : List Nat) (p : Nat) : ((intsP l).any fun z => PyData.eqv z (.int (p : Nat))) = decide (p ∈ l) := by
  unfold intsP
  rw [List.map_map, List.any_map]
  induction l with
  | nil => simp
  | cons a l ih =>
    rw [List.any_cons, ih]
    by_cases h : p = a
    · subst h; simp [eqv_int]
    · have h3 : ¬ (a : Int) = (p : Int) := by omega
      simp [eqv_int, h, h3]
theorem inB_list {st : Store} {n : Nat} {l : List Nat} (p : Nat) (h : st[n]? = some (.lst (natsD l))) : inB (.int (p : Nat)) (.ref n) st = some (decide (p ∈ l)) := by
  have hg : getL st n = some (natsD l) := by unfold getL; rw [h]
  have u : inB (.int (p : Nat)) (.ref n) st = (match toPy st (.int (p : Nat)), toPy st (.ref n) with | some p, some (.list ps) => if SeqAt.shaped p = true ∧ SeqAt.shaped (.list ps) = true then some (ps.any fun z => PyData.eqv z p) else none | _, _ => none) := by
    unfold inB
    simp only [h]
    all_goals rfl
  have e : toPy st (.int (p : Nat)) = some (.int (p : Nat)) := rfl
  rw [u, e, py_list st n l hg]
  simp only
  rw [if_pos ⟨shaped_int, shaped_ints l⟩, any_eqv]
theorem in_list {st : Store} {n : Nat} {l : List Nat} (p : Nat) (h : st[n]? = some (.lst (natsD l))) : inA (.int (p : Nat)) (.ref n) st = some (.bl (decide (p ∈ l)), st) := by
  have e : inDictD (.int (p : Nat)) (.ref n) st = none := by simp only [inDictD, h]
  unfold inA
  rw [e]
  simp only [inD, inB_list p h]
theorem nin_list {st : Store} {n : Nat} {l : List Nat} (p : Nat) (h : st[n]? = some (.lst (natsD l))) : ninA (.int (p : Nat)) (.ref n) st = some (.bl (!decide (p ∈ l)), st) := by
  have e : ninDictD (.int (p : Nat)) (.ref n) st = none := by simp only [ninDictD, h]
  unfold ninA
  rw [e]
  simp only [ninD, inB_list p h]
/-! ### the known numbers are the numbers -/
def onesF : Nat → Nat → Nat
  | 0, _ => 0
  | f + 1, n => if n = 0 then 0 else n % 2 + onesF f (n / 2)
theorem onesF_eq : ∀ (f n : Nat), n < 2 ^ f → onesF f n = ones n
  | 0, n, h => by
    have : n = 0 := by omega
    subst this
    rw [ones_0]; rfl
  | f + 1, n, h => by
    unfold onesF
    by_cases h0 : n = 0
    · subst h0; rw [ones_0]; rfl
    · rw [if_neg h0, ones_s h0, onesF_eq f (n / 2) (by rw [Nat.pow_succ] at h; omega)]
def lowF : Nat → Nat → Nat
  | 0, _ => 0
  | f + 1, n => if n = 0 then 0 else if n % 2 = 1 then 1 else 2 * lowF f (n / 2)
theorem lowF_eq : ∀ (f n : Nat), n < 2 ^ f → lowF f n = low n
  | 0, n, h => by
    have : n = 0 := by omega
    subst this
    rw [low]; rfl
  | f + 1, n, h => by
    unfold lowF
    by_cases h0 : n = 0
    · subst h0; rw [low]; rfl
    · by_cases h1 : n % 2 = 1
      · rw [if_neg h0, if_pos h1, low_odd h1]
      · rw [if_neg h0, if_neg h1, low_even h0 (by omega), lowF_eq f (n / 2) (by rw [Nat.pow_succ] at h; omega)]
def knF : Rl → Nat → Nat
  | .one, _ => 1
  | .two, p => p + 1
  | .three, p => 2 * p + (if onesF 7 p % 2 = 0 then 1 else 0)
  | .twins, p => p
  | .ruler, p => lowF 7 (p + 1)
  | .doubles, p => (T .doubles).getD p 0
theorem kn_T (r : Rl) : (List.range 64).map (knF r) = T r := by cases r <;> decide +kernel
theorem known_T (r : Rl) (hr : r ≠ .doubles) : (List.range 64).map (known r) = natsD (T r) := by
  rw [← kn_T r]
  unfold natsD
  rw [List.map_map]
  refine List.map_congr_left fun p hp => ?_
  have hp' : p < 64 := List.mem_range.mp hp
  cases r with
  | one => rfl
  | two => rfl
  | twins => rfl
  | three =>
    simp only [known, knF, Function.comp, bit3]
    rw [onesF_eq 7 p (by omega)]
  | ruler =>
    simp only [known, knF, Function.comp]
    rw [lowF_eq 7 (p + 1) (by omega)]
  | doubles => exact absurd rfl hr
theorem take64 (r : Rl) : (T r).take 64 = T r := List.take_of_length_le (by rw [T_len]; omega)
/-! ### all lesser numbers are left by some turn -/
theorem val_ne {r : Rl} {p : Nat} {l : List Nat} (hp : p < 64) (hl : l ∈ lots r p) : val (T r) (l ++ [p]) ≠ 0 := fun h => by
  refine no_turn hp hl ?_
  unfold cond
  rw [val_app, val_one, Nat.xor_comm] at h
  rw [Nat.zero_xor]
  exact h
theorem some_turn_to {r : Rl} {bs : List Bool} (hb : bs.length ≤ 64) {m : Nat} (hm : m < whole r bs) : ∃ p ∈ hds bs, ∃ l ∈ lots r p, whole r bs ^^^ val (T r) (l ++ [p]) = m := by
  obtain ⟨W, hW⟩ : ∃ W, W = whole r bs := ⟨_, rfl⟩
  rw [← hW] at hm ⊢
  have hw : W ^^^ m ≠ 0 := fun h => by have := xor_zero_eq h; omega
  have hk := Nat.testBit_log2 hw
  have hWk : W.testBit (W ^^^ m).log2 = true := by
    cases h : W.testBit (W ^^^ m).log2 with
    | true => rfl
    | false =>
      have hmk : m.testBit (W ^^^ m).log2 = true := by
        have h2 := hk
        rw [Nat.testBit_xor, h] at h2
        simpa using h2
      have := xor_lt hw hmk
      rw [Nat.xor_assoc, Nat.xor_self, Nat.xor_zero] at this
      omega
  rw [hW] at hWk
  obtain ⟨a, ha, hbit⟩ := xorL_bit _ _ hWk
  rw [← hW] at hbit
  obtain ⟨p, hp, rfl⟩ := List.mem_map.mp ha
  have hpl := hds_lt hp
  have hlt := xor_lt hw hbit
  obtain ⟨l, hl, hv⟩ := List.mem_map.mp ((tab_ok r p (by omega)).2 _ hlt)
  refine ⟨p, hp, l, hl, ?_⟩
  rw [val_app, val_one, hv]
  generalize (T r).getD p 0 = t
  have e1 : W ^^^ m ^^^ t ^^^ t = W ^^^ m := by rw [Nat.xor_assoc, Nat.xor_self, Nat.xor_zero]
  rw [e1, ← Nat.xor_assoc, Nat.xor_self, Nat.zero_xor]
/-! ### the greatest of a lot -/
theorem intsOf_nats (l : List Nat) : intsOf (natsD l) = some (l.map fun n : Nat => (n : Int)) := by
  induction l with
  | nil => rfl
  | cons a l ih =>
    show intsOf (.int (a : Nat) :: natsD l) = _
    simp only [intsOf, ih, List.map_cons]
theorem max_lot {l : List Nat} {p : Nat} (h : ∀ a ∈ l, a < p) (st : Store) : maxD' [.tup (natsD (l ++ [p]))] st = some (.int (p : Nat), st) := by
  obtain ⟨x, xs, hx⟩ : ∃ x xs, ((l ++ [p]).map fun n : Nat => (n : Int)) = x :: xs := by
    cases l with
    | nil => exact ⟨_, _, rfl⟩
    | cons a l => exact ⟨_, _, rfl⟩
  have e : maxD' [.tup (natsD (l ++ [p]))] st = some (.int (maxI x xs), st) := by
    simp only [maxD', seqOf_tup, intsOf_nats, hx]
  rw [e]
  obtain ⟨h1, h2⟩ := maxI_mem xs x
  rw [← hx] at h1 h2
  obtain ⟨n, hn, hn2⟩ := List.mem_map.mp h1
  have h3 := h2 (p : Int) (List.mem_map.mpr ⟨p, by simp, rfl⟩)
  have h4 : n ≤ p := by
    rcases List.mem_append.mp hn with z | z
    · have := h n z; omega
    · simp at z; omega
  congr 3
  omega
end K98

set_option Elab.async false
set_option linter.all false
set_option maxRecDepth 100000
set_option maxHeartbeats 4000000
namespace K98
open Py L2 PySem PySem.Spec PyProof.Rows
/-! ### the hand as it begins -/
theorem pow40 (st : Store) : powD (.int 10) (.int 40) st = some (.int (10 ^ 40), st) := by
  rw [powI ⟨by omega, by omega, by decide⟩]
  rfl
def cellI (i : Int) : Int := (if i < 0 then -i else i).fmod (10 ^ 40)
theorem e_hand {ns : List Int} (hl : ns.length ≤ 63) {d0 : D} {st0 : Store} (hcut : Py.cutD d0 none (some 63) st0 = some (.ref st0.length, st0 ++ [.lst (intsD ns)])) :
    ∃ (S : Store) (h c : Nat) (cells : List Int), Hnd S h c cells ∧ m__law_hand [d0] st0 = .ok (.ref h) S := by
  have hc : mLc (mIt (mSl (mVar 0) mNoP (mP (mC (.int 63))))) (.nm 2) mYes (mOp2 modD (mOpN intD (mCons (mOpN absD (mCons (mOpN intD (mCons (mVar 2) mNil)) mNil)) mNil)) (mOp2 powD (mC (.int 10)) (mC (.int 40)))) [2] (startE N__law_hand [d0]) st0 = .ok (.ref (st0 ++ [O.lst (intsD ns)]).length) ((st0 ++ [O.lst (intsD ns)]) ++ [.lst (intsD (ns.map cellI))]) := by
    have e : intsD (ns.map cellI) = (intsD ns).map fun d => match d with | .int i => .int (cellI i) | _ => .non := by simp [intsD, Function.comp]
    rw [e]
    refine mLc_map (it := ⟨intsD ns, stillD (.ref st0.length) (intsD ns)⟩) _ (it_of (sl_of (var_of rfl) rfl (p_of rfl) hcut) (itD_seq seqOf_new)) (stillD_of seqOf_new) (by simp only [intsD, List.length_map]; exact le_size (by omega)) fun d hd => ?_
    obtain ⟨i, _, rfl⟩ := List.mem_map.mp hd
    refine ⟨[some d0, none, some (.int i)], [], rfl, ?_, rfl⟩
    rw [List.append_nil]
    exact op2_of (opN_of (one_of (opN_of (one_of (opN_of (one_of (var_of rfl)) intI)) absI)) intI) (op2_of rfl rfl (pow40 _)) (modI (by decide))
  obtain ⟨s1, hs1⟩ : ∃ s1, s1 = st0 ++ [O.lst (intsD ns)] := ⟨_, rfl⟩
  rw [← hs1] at hc
  obtain ⟨s2, hs2⟩ : ∃ s2, s2 = s1 ++ [O.lst (intsD (ns.map cellI))] := ⟨_, rfl⟩
  rw [← hs2] at hc
  have hc2 : s2[s1.length]? = some (.lst (intsD (ns.map cellI))) := by rw [hs2]; simp
  have hlen : lenD [.ref s1.length] s2 = some (.int (ns.length : Nat), s2) := by simp [lenD, hc2, getL, intsD]
  have hmul : mulD (.int 7) (.int (ns.length : Nat)) s2 = some (.int ((7 * ns.length : Nat) : Int), s2) := by rw [mulI (mul_smallL (by omega) (by omega))]; simp
  have hadd : addD (.int 503) (.int ((7 * ns.length : Nat) : Int)) s2 = some (.int ((503 + 7 * ns.length : Nat) : Int), s2) := by rw [addI]; congr 3
  have hb : b__law_hand (startE N__law_hand [d0]) st0 = .rt (.ref s2.length) (s2 ++ [hd5 s1.length 0 0 ((503 + 7 * ns.length : Nat) : Int) 0]) :=
    seq_nx (set_of hc) (seq_rt (ret_of (lst_of (cons_of (var_of rfl) (cons_of rfl (cons_of rfl (two_of (op2_of rfl (op2_of rfl (opN_of (one_of (var_of rfl)) hlen) hmul) hadd) rfl)))) (by simp))))
  obtain ⟨S, hS⟩ : ∃ S, S = s2 ++ [hd5 s1.length 0 0 ((503 + 7 * ns.length : Nat) : Int) 0] := ⟨_, rfl⟩
  rw [← hS] at hb
  have l1 : s1.length = st0.length + 1 := by rw [hs1]; simp
  have l2 : s2.length = st0.length + 2 := by rw [hs2]; simp [l1]
  refine ⟨S, s2.length, s1.length, ns.map cellI, ⟨⟨0, 0, ((503 + 7 * ns.length : Nat) : Int), 0, by rw [hS]; simp, ⟨by simpa using hl, fun x hx => ?_, by omega, by omega, by decide, by omega, by omega, by omega⟩⟩, by rw [hS, List.getElem?_append_left (by omega), hc2], by omega⟩, ?_⟩
  · obtain ⟨i, _, rfl⟩ := List.mem_map.mp hx
    exact fmod_bd (by decide)
  · unfold m__law_hand runD
    rw [hb]
    have hat : S[s2.length]? = some (hd5 s1.length 0 0 ((503 + 7 * ns.length : Nat) : Int) 0) := by rw [hS]; simp
    have hg : gc st0 (.ref s2.length) S = (.ref s2.length, S) := by
      unfold gc
      split
      · rw [if_neg (by simp only [lowD, decide_eq_true_eq]; omega)]
        simp only [hat]
        rw [if_neg]
        intro z
        have := z.2
        simp only [lowO, lowDs, lowD, Bool.and_eq_true, decide_eq_true_eq] at this
        omega
      · rfl
    simp only [hg]
theorem cut_frz (ns : List Int) (hl : ns.length ≤ 63) : Py.cutD (.ref 0) none (some 63) [.frz (intsD ns)] = some (.ref [O.frz (intsD ns)].length, [O.frz (intsD ns)] ++ [.lst (intsD ns)]) := by
  have e : cutL (intsD ns) none (some 63) = intsD ns := by
    unfold cutL
    simp only [HT.sIx, List.drop_zero, Nat.sub_zero]
    exact List.take_of_length_le (by simp only [intsD, List.length_map]; rw [if_neg (by omega)]; omega)
  have g : getL [O.frz (intsD ns)] 0 = some (intsD ns) := rfl
  simp only [Py.cutD, g, e]
theorem cut_kl (ns : List Int) (hl : ns.length ≤ 63) : Py.cutD (.kl (intsD ns)) none (some 63) [] = some (.ref ([] : Store).length, [] ++ [.lst (intsD ns)]) := by
  have e : cutL (intsD ns) none (some 63) = intsD ns := by
    unfold cutL
    simp only [HT.sIx, List.drop_zero, Nat.sub_zero]
    exact List.take_of_length_le (by simp only [intsD, List.length_map]; rw [if_neg (by omega)]; omega)
  simp only [Py.cutD, e]
end K98

set_option Elab.async false
set_option linter.all false
set_option maxRecDepth 100000
set_option maxHeartbeats 4000000
namespace K98
open Py L2 PySem PySem.Spec PyProof.Rows
theorem cut_row (bs : List Bool) (hb : bs.length ≤ 64) (st : Store) : Py.cutD (.str (rowS bs)) none (some 8) st = some (.str (rowS (bs.take 8)), st) := by
  simp only [Py.cutD]
  rw [if_pos (by rw [rowS_len]; exact le_size (by omega))]
  congr 3
  refine str_ext ?_
  have e : cutL (bs.map chN) none (some 8) = (bs.take 8).map chN := by
    unfold cutL
    simp only [HT.sIx, List.drop_zero, Nat.sub_zero]
    rw [List.map_take]
    by_cases h : 8 ≤ bs.length
    · congr 1
      simp
      omega
    · rw [List.take_of_length_le, List.take_of_length_le]
      · simp; omega
      · simp; omega
  show (cutS (rowS bs) none (some 8)).cps.toList = _
  have e2 : (cutS (rowS bs) none (some 8)).cps.toList = cutL (rowS bs).cps.toList none (some 8) := by
    simp only [cutS, cutL, Str.length, Array.length_toList]
  rw [e2]
  simpa [rowS] using e
/-- what stands behind the turn -/
theorem rr_tail (r : Rl) (bs : List Bool) (hb : bs.length ≤ 64) (a0 a2 a4 a5 a6 a7 a8 a9 a10 a11 a12 a13 a14 a15 : Option D) (st : Store) : ∃ g, (sSeq (sAsg (mSl (mVar 3) mNoP (mP (mC (.int 8)))) (gN 10)) (sSeq (sAsg (mCall m_coins_number (mCons (mVar 1) (mCons (mVar 10) mNil))) (gN 11)) (sSeq (sAsg (mLc (mIt (mCall m_rows_below (mCons (mVar 1) (mCons (mVar 10) mNil)))) (.nm 9) mYes (mCall m_coins_number (mCons (mVar 1) (mCons (mVar 9) mNil))) [9]) (gN 12)) (sSeq (sRet (mAndV (mOp2 ninA (mVar 11) (mVar 12)) (mOpN allD (mCons (mLc (mRgs (mCons (mVar 11) mNil)) (.nm 7) mYes (mOp2 inA (mVar 7) (mVar 12)) [7]) mNil)))) (fun e st => .nx e st))))) [a0, some (.str (nm r)), a2, some (.str (rowS bs)), a4, a5, a6, a7, a8, a9, a10, a11, a12, a13, a14, a15] st = .rt (.bl true) (st ++ g) := by
  obtain ⟨sm, hsm⟩ : ∃ sm, sm = bs.take 8 := ⟨_, rfl⟩
  have hs8 : sm.length ≤ 8 := by rw [hsm, List.length_take]; omega
  have hcut := cut_row bs hb st
  rw [← hsm] at hcut
  obtain ⟨cs, hcs, hcl, hrb⟩ := e_rows_below r sm hs8 st
  have hclen : ∀ x ∈ cs, x.length ≤ 64 := fun x hx => by
    obtain ⟨p, _, l, _, rfl⟩ := (hcs x).mp hx
    rw [turnB_len]; omega
  have hlist : mLc (mIt (mCall m_rows_below (mCons (mVar 1) (mCons (mVar 10) mNil)))) (.nm 9) mYes (mCall m_coins_number (mCons (mVar 1) (mCons (mVar 9) mNil))) [9] [a0, some (.str (nm r)), a2, some (.str (rowS bs)), a4, a5, a6, a7, a8, a9, some (.str (rowS sm)), some (.int (whole r sm : Nat)), a12, a13, a14, a15] st = .ok (.ref st.length) (st ++ [.lst (natsD (cs.map (whole r)))]) := by
    have key : ∀ (ds : List D) (f : D → Option D), (∀ d ∈ ds, ∃ x, d = .str (rowS x) ∧ x ∈ cs) → (∀ d ∈ ds, lcB (.nm 9) mYes (mCall m_coins_number (mCons (mVar 1) (mCons (mVar 9) mNil))) d (wipeE [a0, some (.str (nm r)), a2, some (.str (rowS bs)), a4, a5, a6, a7, a8, a9, some (.str (rowS sm)), some (.int (whole r sm : Nat)), a12, a13, a14, a15] [9]) st = .ok (f d) st) → True := fun _ _ _ _ => trivial
    have hl : ∀ l : List (List Bool), (∀ x ∈ l, x.length ≤ 64) → lcL (fun _ => True) (fun d st => lcB (.nm 9) mYes (mCall m_coins_number (mCons (mVar 1) (mCons (mVar 9) mNil))) d (wipeE [a0, some (.str (nm r)), a2, some (.str (rowS bs)), a4, a5, a6, a7, a8, a9, some (.str (rowS sm)), some (.int (whole r sm : Nat)), a12, a13, a14, a15] [9]) st) (l.map fun c => D.str (rowS c)) st = .ok (natsD (l.map (whole r))) st := by
      intro l
      induction l with
      | nil => intro _; unfold lcL; simp; rfl
      | cons x l ih =>
        intro hx
        have h1 : lcB (.nm 9) mYes (mCall m_coins_number (mCons (mVar 1) (mCons (mVar 9) mNil))) (.str (rowS x)) (wipeE [a0, some (.str (nm r)), a2, some (.str (rowS bs)), a4, a5, a6, a7, a8, a9, some (.str (rowS sm)), some (.int (whole r sm : Nat)), a12, a13, a14, a15] [9]) st = .ok (some (.int (whole r x : Nat))) st :=
          lcB_some (g := []) (e1 := [a0, some (.str (nm r)), a2, some (.str (rowS bs)), a4, a5, a6, a7, a8, some (.str (rowS x)), some (.str (rowS sm)), some (.int (whole r sm : Nat)), a12, a13, a14, a15]) rfl rfl (by rw [List.append_nil]; exact call_of (two_of (var_of rfl) (var_of rfl)) (e_coins r x (hx x List.mem_cons_self) st)) rfl
        rw [List.map_cons]
        unfold lcL
        rw [if_pos trivial, h1]
        simp only [R.bind_ok]
        rw [ih fun y hy => hx y (List.mem_cons_of_mem _ hy)]
        rfl
    exact mLc_run (it := ⟨cs.map fun c => D.str (rowS c), fun _ => True⟩) (it_of (call_of (two_of (var_of rfl) (var_of rfl)) hrb) rfl) (by rw [List.length_map]; exact le_size (by omega)) (hl cs hclen)
  obtain ⟨s1, hs1⟩ : ∃ s1, s1 = st ++ [O.lst (natsD (cs.map (whole r)))] := ⟨_, rfl⟩
  rw [← hs1] at hlist
  have hat : s1[st.length]? = some (.lst (natsD (cs.map (whole r)))) := by rw [hs1]; simp
  have hnum : ∀ x ∈ cs, ∃ p ∈ hds sm, ∃ l ∈ lots r p, whole r x = whole r sm ^^^ val (T r) (l ++ [p]) := fun x hx => by
    obtain ⟨p, hp, l, hl, rfl⟩ := (hcs x).mp hx
    have hpl := hds_lt hp
    have hlt := lots_lt r p l hl
    refine ⟨p, hp, l, hl, whole_turn r (l ++ [p]) sm fun a ha => ?_⟩
    rcases List.mem_append.mp ha with ha | ha
    · have := hlt a ha; omega
    · simp at ha; omega
  have hnot : whole r sm ∉ cs.map (whole r) := fun z => by
    obtain ⟨x, hx, hx2⟩ := List.mem_map.mp z
    obtain ⟨p, hp, l, hl, e⟩ := hnum x hx
    rw [hx2] at e
    have hpl := hds_lt hp
    refine val_ne (r := r) (by omega) hl ?_
    have : whole r sm ^^^ whole r sm = whole r sm ^^^ (whole r sm ^^^ val (T r) (l ++ [p])) := by rw [← e]
    rw [Nat.xor_self, ← Nat.xor_assoc, Nat.xor_self, Nat.zero_xor] at this
    exact this.symm
  have hall : ∀ m, m < whole r sm → m ∈ cs.map (whole r) := fun m hm => by
    obtain ⟨p, hp, l, hl, e⟩ := some_turn_to (r := r) (bs := sm) (by omega) hm
    have hpl := hds_lt hp
    have hlt := lots_lt r p l hl
    refine List.mem_map.mpr ⟨turnB sm (l ++ [p]), (hcs _).mpr ⟨p, hp, l, hl, rfl⟩, ?_⟩
    rw [whole_turn r (l ++ [p]) sm fun a ha => by
      rcases List.mem_append.mp ha with ha | ha
      · have := hlt a ha; omega
      · simp at ha; omega]
    exact e
  have hwl : whole r sm ≤ 100000 := by
    have hw : whole r sm < 2 ^ 7 := by
      have h7 : ∀ x ∈ T r, x < 2 ^ 7 := by
        have key : ∀ l : List Nat, (l.all fun x => decide (x < 2 ^ 7)) = true → ∀ x ∈ l, x < 2 ^ 7 := fun l h x hx => by
          rw [List.all_eq_true] at h
          simpa using h x hx
        cases r <;> exact key _ (by decide +kernel)
      have hx : ∀ l : List Nat, (∀ x ∈ l, x < 2 ^ 7) → xorL l < 2 ^ 7 := fun l => by
        induction l with
        | nil => intro _; decide
        | cons a l ih =>
          intro h
          rw [xorL_cons]
          exact Nat.xor_lt_two_pow (h a List.mem_cons_self) (ih fun x hx => h x (List.mem_cons_of_mem _ hx))
      refine hx _ fun x hx => ?_
      obtain ⟨a, ha, rfl⟩ := List.mem_map.mp hx
      have := hds_lt ha
      refine h7 _ ?_
      have hT := T_len r
      simp only [List.getD_eq_getElem?_getD]
      rw [List.getElem?_eq_getElem (by omega)]
      exact List.getElem_mem _
    omega
  have hnin := nin_list (whole r sm) hat
  rw [decide_eq_false hnot] at hnin
  have hc : mLc (mRgs (mCons (mVar 11) mNil)) (.nm 7) mYes (mOp2 inA (mVar 7) (mVar 12)) [7] [a0, some (.str (nm r)), a2, some (.str (rowS bs)), a4, a5, a6, a7, a8, a9, some (.str (rowS sm)), some (.int (whole r sm : Nat)), some (.ref st.length), a13, a14, a15] s1 = .ok (.ref s1.length) (s1 ++ [.lst (((List.range (whole r sm)).map fun _ => true).map .bl)]) := by
    rw [List.map_map]
    refine mLc_nats (ns := List.range (whole r sm)) (still := fun _ => True) (fun _ => .bl true) (rgs_of (one_of (var_of rfl)) (rg1 _ (by omega))) trivial (by rw [List.length_range]; omega) fun m hm => ⟨[a0, some (.str (nm r)), a2, some (.str (rowS bs)), a4, a5, a6, some (.int (m : Nat)), a8, a9, some (.str (rowS sm)), some (.int (whole r sm : Nat)), some (.ref st.length), a13, a14, a15], [], rfl, ?_, rfl⟩
    rw [List.append_nil]
    have := in_list m hat
    rw [decide_eq_true (hall m (List.mem_range.mp hm))] at this
    exact op2_of (var_of rfl) (var_of rfl) this
  have hall2 := opN_of (one_of hc) (allD_of (st := s1 ++ [O.lst (((List.range (whole r sm)).map fun _ => true).map .bl)]) (n := s1.length) (bs := (List.range (whole r sm)).map fun _ => true) getL_new)
  have hT : ((List.range (whole r sm)).map fun _ => true).all id = true := by simp
  rw [hT] at hall2
  refine ⟨[O.lst (natsD (cs.map (whole r)))] ++ [.lst (((List.range (whole r sm)).map fun _ => true).map .bl)], ?_⟩
  rw [← List.append_assoc, ← hs1]
  exact seq_nx (set_of (sl_of (var_of rfl) rfl (p_of rfl) hcut)) (seq_nx (set_of (call_of (two_of (var_of rfl) (var_of rfl)) (e_coins r sm (by omega) st))) (seq_nx (set_of hlist) (seq_rt (ret_of (andV_t (op2_of (var_of rfl) (var_of rfl) hnin) hall2)))))
end K98

set_option Elab.async false
set_option linter.all false
set_option maxRecDepth 100000
set_option maxHeartbeats 4000000
namespace K98
open Py L2 PySem PySem.Spec PyProof.Rows
theorem doubles_if (r : Rl) (e : Py.Loc) (st : Store) (n m : Nat) (h1 : e[1]? = some (some (.str (nm r)))) (h4 : e[4]? = some (some (.ref n))) (h5 : e[5]? = some (some (.ref m))) (hn : getL st n = some (natsD (T r))) (hm : getL st m = some ((List.range 64).map (known r))) :
    mAnd (asB (mOp2 neD (mVar 1) (mC (.str "doubles")))) (asB (mOp2 neD (mVar 4) (mVar 5))) e st = .ok false st := by
  have hq := asB_ok (op2_of (f := neD) (var_of (st := st) h1) (x_c (.str "doubles")) (neSt (nm_ok r) okS_of.2.2.2.2.2))
  by_cases hr : r = .doubles
  · subst hr
    have e1 : (!decide (nm .doubles = "doubles")) = false := by decide +kernel
    rw [e1] at hq
    exact and_f hq
  · have e1 : (!decide (nm r = "doubles")) = true := by cases r <;> first | exact absurd rfl hr | decide +kernel
    rw [e1] at hq
    rw [known_T r hr] at hm
    exact and_t hq (asB_ok (op2_of (var_of h4) (var_of h5) (ne_nats hn hm)))
theorem e_rule_right {st : Store} {h c : Nat} {cells : List Int} (H : Hnd st h c cells) (r : Rl) : ∃ st', m__law_rule_right [.ref h, .str (nm r)] st = .ok (.bl true) st' ∧ Stp st st' h c ∧ Hnd st' h c cells := by
  obtain ⟨sz, s1, hsz, d1, x1, H1⟩ := draw' H 21 (by omega) (by omega)
  obtain ⟨bs, s2, hbs, d2, x2, H2⟩ := e_law_row H1 sz (by omega)
  have hb : bs.length ≤ 20 := by omega
  have X := x1.trans x2
  have pn := e_place_numbers r 64 (by omega) s2
  rw [take64] at pn
  obtain ⟨s3, hs3⟩ : ∃ s3, s3 = s2 ++ [O.lst (natsD (T r))] := ⟨_, rfl⟩
  have hlst : listD [.tup (natsD (T r))] s2 = some (.ref s2.length, s3) := by rw [hs3]; rfl
  have hT3 : s3[s2.length]? = some (.lst (natsD (T r))) := by rw [hs3]; simp
  -- due
  have hdue : mLc (mRgs (mCons (mC (.int 64)) mNil)) (.nm 13) mYes (mCall m__law_known (mCons (mVar 1) (mCons (mVar 13) mNil))) [13] [some (.ref h), some (.str (nm r)), some (.int (sz : Nat)), some (.str (rowS bs)), some (.ref s2.length), none, none, none, none, none, none, none, none, none, none, none] s3 = .ok (.ref s3.length) (s3 ++ [.lst ((List.range 64).map (known r))]) := by
    refine mLc_nats (ns := List.range 64) (still := fun _ => True) (known r) (rgs_of (one_of rfl) (rg1 64 (by omega))) trivial (by simp) fun p hp => ⟨[some (.ref h), some (.str (nm r)), some (.int (sz : Nat)), some (.str (rowS bs)), some (.ref s2.length), none, none, none, none, none, none, none, none, some (.int (p : Nat)), none, none], [], rfl, ?_, by cases r <;> rfl⟩
    rw [List.append_nil]
    exact call_of (two_of (var_of rfl) (var_of rfl)) (e_known r p s3)
  obtain ⟨s4, hs4⟩ : ∃ s4, s4 = s3 ++ [O.lst ((List.range 64).map (known r))] := ⟨_, rfl⟩
  rw [← hs4] at hdue
  have hT4 : s4[s2.length]? = some (.lst (natsD (T r))) := by rw [hs4, List.getElem?_append_left (by rw [hs3]; simp), hT3]
  have hK4 : s4[s3.length]? = some (.lst ((List.range 64).map (known r))) := by rw [hs4]; simp
  have hif := doubles_if r [some (.ref h), some (.str (nm r)), some (.int (sz : Nat)), some (.str (rowS bs)), some (.ref s2.length), some (.ref s3.length), none, none, none, none, none, none, none, none, none, none] s4 s2.length s3.length rfl rfl rfl (by unfold getL; rw [hT4]) (by unfold getL; rw [hK4])
  -- heads
  have hheads := heads_num (r := r) (bs := bs) (many := 64) (F := s2.length) (e := [some (.ref h), some (.str (nm r)), some (.int (sz : Nat)), some (.str (rowS bs)), some (.ref s2.length), some (.ref s3.length), none, none, none, none, none, none, none, none, none, none]) (st := s4) (i := 3) (ka := 14) (ks := 15) (iF := 4) (by omega) (by omega) rfl (by omega) (by simp) (by simp) (by omega) (by omega) rfl (by rw [take64]; exact hT4)
  obtain ⟨hn, hhn⟩ : ∃ hn, hn = (hds bs).map fun a => (T r).getD a 0 := ⟨_, rfl⟩
  rw [← hhn] at hheads
  obtain ⟨s5, hs5⟩ : ∃ s5, s5 = s4 ++ [O.lst (natsD hn)] := ⟨_, rfl⟩
  rw [← hs5] at hheads
  have htup : tupD [.ref s4.length] s5 = some (.tup (natsD hn), s5) := by
    rw [hs5]; simp only [tupD, getL_new]
  have hwh : xorL hn = whole r bs := by rw [hhn]; rfl
  have hhl : hn.length ≤ 1000 := by rw [hhn, List.length_map]; have := hds_len bs; omega
  have hh64 : ∀ n ∈ hn, n < 2 ^ 64 := fun n hn' => by
    rw [hhn] at hn'
    obtain ⟨a, _, rfl⟩ := List.mem_map.mp hn'
    exact Td_lt r a
  have hsum := e_two_sum hn hhl hh64 s5
  rw [hwh] at hsum
  have hcoin := e_coins r bs (by omega) s5
  have his : ∀ (e : Py.Loc), e[6]? = some (some (.tup (natsD hn))) → e[7]? = some (some (.int (whole r bs : Nat))) → mNot (asB (mCall (m__law_isF 4) (mCons (mVar 7) (mCons (mCall m_two_sum (mCons (mVar 6) mNil)) mNil)))) e s5 = .ok false s5 := fun e h6 h7 => by
    have hq := law_is_int (m__law_isF 3) (whole r bs : Nat) (whole r bs : Nat) s5
    rw [decide_eq_true rfl] at hq
    exact not_of (k := true) (asB_ok (call_of (two_of (var_of h7) (call_of (one_of (var_of h6)) hsum)) hq))
  have hpre : ∀ (told : D) (r' : Fl), m_winning_turn [.str (nm r), .str (rowS bs)] s5 = .ok told s5 → (∀ rest : Py.Loc → Store → Fl, True) → True := fun _ _ _ _ => trivial
  have fin : ∀ {g : Store} {s6 : Store}, s6 = s5 ++ g → b__law_rule_right (startE N__law_rule_right [.ref h, .str (nm r)]) st = .rt (.bl true) s6 → ∃ st', m__law_rule_right [.ref h, .str (nm r)] st = .ok (.bl true) st' ∧ Stp st st' h c ∧ Hnd st' h c cells := fun {g s6} hg hr =>
    ⟨s2, run_stp (g := [O.lst (natsD (T r))] ++ [O.lst ((List.range 64).map (known r))] ++ [O.lst (natsD hn)] ++ g) H X hr (by rw [hg, hs5, hs4, hs3]; simp) rfl, X, H2⟩
  rcases e_winning r bs (by omega) s5 with ⟨p, l, hp, hl, hc, hw⟩ | ⟨hc, hw⟩
  · -- there is a turn
    have hpl := hds_lt hp
    have hlt := lots_lt r p l hl
    have hw0 : whole r bs ≠ 0 := fun z => by rw [z] at hc; exact no_turn (by omega) hl hc
    have hin : ∀ a ∈ l ++ [p], a < bs.length := fun a ha => by
      rcases List.mem_append.mp ha with ha | ha
      · have := hlt a ha; omega
      · simp at ha; omega
    have hnd : (l ++ [p]).Nodup := List.nodup_append.mpr ⟨lots_nodup r p l hl, by simp, fun a ha b hb => by
      simp at hb
      have := hlt a ha
      omega⟩
    have htt := e_law_turned bs (l ++ [p]) (by omega) s5
    rw [turnAt_eq hnd hin] at htt
    have hz := e_coins r (turnB bs (l ++ [p])) (by rw [turnB_len]; omega) s5
    rw [whole_won hpl hl hc] at hz
    have hiw := e_is_winning r bs p l (by omega) hp hl hc s5
    have hH : bs.getD p false = true := by
      have := hds_mem.mp hp
      simp [List.getD_eq_getElem?_getD, this]
    have e2 := asB_ok (op2_of (f := neD) (op2_of (f := isD2) (var_of (i := 8) (e := [some (.ref h), some (.str (nm r)), some (.int (sz : Nat)), some (.str (rowS bs)), some (.ref s2.length), some (.ref s3.length), some (.tup (natsD hn)), some (.int (whole r bs : Nat)), some (.tup (natsD (l ++ [p]))), none, none, none, none, none, none, none]) (st := s5) rfl) (x_c .non) isNon_tup) (op2_of (f := eqD) (var_of (i := 7) rfl) (x_c (.int 0)) eqI) neBl)
    have e3 : (!decide (false = decide (((whole r bs : Nat) : Int) = 0))) = false := by
      have : decide (((whole r bs : Nat) : Int) = 0) = false := by simp; omega
      rw [this]; rfl
    rw [e3] at e2
    have f1 := asB_ok (op2_of (f := neD) (op2_of (f := ixD) (var_of (i := 3) (e := [some (.ref h), some (.str (nm r)), some (.int (sz : Nat)), some (.str (rowS bs)), some (.ref s2.length), some (.ref s3.length), some (.tup (natsD hn)), some (.int (whole r bs : Nat)), some (.tup (natsD (l ++ [p]))), some (.str (rowS (turnB bs (l ++ [p])))), none, none, none, none, none, none]) (st := s5) rfl) (opN_of (one_of (var_of (i := 8) rfl)) (max_lot hlt s5)) (row_at (by omega) hpl s5)) (x_c (.str "H")) (neH _ _))
    rw [hH] at f1
    have f2 := asB_ok (op2_of (f := neD) (call_of (two_of (var_of (i := 1) (e := [some (.ref h), some (.str (nm r)), some (.int (sz : Nat)), some (.str (rowS bs)), some (.ref s2.length), some (.ref s3.length), some (.tup (natsD hn)), some (.int (whole r bs : Nat)), some (.tup (natsD (l ++ [p]))), some (.str (rowS (turnB bs (l ++ [p])))), none, none, none, none, none, none]) rfl) (var_of (i := 9) rfl)) hz) (x_c (.int 0)) neI)
    have f3 := asB_ok (op2_of (f := isnD2) (call_of (cons_of (var_of (i := 1) (e := [some (.ref h), some (.str (nm r)), some (.int (sz : Nat)), some (.str (rowS bs)), some (.ref s2.length), some (.ref s3.length), some (.tup (natsD hn)), some (.int (whole r bs : Nat)), some (.tup (natsD (l ++ [p]))), some (.str (rowS (turnB bs (l ++ [p])))), none, none, none, none, none, none]) rfl) (two_of (var_of (i := 3) rfl) (var_of (i := 8) rfl))) hiw) (x_c (.bl true)) isnBl_bl)
    obtain ⟨g, hg⟩ := rr_tail r bs (by omega) (some (.ref h)) (some (.int (sz : Nat))) (some (.ref s2.length)) (some (.ref s3.length)) (some (.tup (natsD hn))) (some (.int (whole r bs : Nat))) (some (.tup (natsD (l ++ [p])))) (some (.str (rowS (turnB bs (l ++ [p]))))) none none none none none none s5
    refine fin (s6 := s5 ++ g) rfl ?_
    exact seq_nx (set_of (call_of (two_of (var_of rfl) rfl) d1)) (seq_nx (asg_of (tup_of (two_of (call_of (two_of (var_of rfl) (var_of rfl)) d2) (opN_of (one_of (call_of (two_of (var_of rfl) rfl) pn)) hlst)) (by simp)) rfl) (seq_nx (set_of hdue) (seq_nx (if_f hif rfl) (seq_nx (set_of (opN_of (one_of hheads) htup)) (seq_nx (par2_of (call_of (two_of (var_of rfl) (var_of rfl)) hcoin) (call_of (two_of (var_of rfl) (var_of rfl)) hw)) (seq_nx (if_f (or_f (his _ rfl rfl) e2) rfl)
      (seq_nx (if_t (asB_ok (op2_of (var_of rfl) rfl isnNon_tup)) (seq_nx (set_of (call_of (two_of (var_of rfl) (var_of rfl)) htt)) (seq_nx (if_f (or_f f1 (or_f f2 f3)) rfl) rfl))) hg)))))))
  · have hw0 : whole r bs = 0 := Classical.byContradiction fun z => by
      obtain ⟨p, hp, l, hl, hcc⟩ := some_turn (r := r) (bs := bs) (by omega) z
      exact hc p hp l hl hcc
    have e2 := asB_ok (op2_of (f := neD) (op2_of (f := isD2) (var_of (i := 8) (e := [some (.ref h), some (.str (nm r)), some (.int (sz : Nat)), some (.str (rowS bs)), some (.ref s2.length), some (.ref s3.length), some (.tup (natsD hn)), some (.int (whole r bs : Nat)), some .non, none, none, none, none, none, none, none]) (st := s5) rfl) (x_c .non) isNon_non) (op2_of (f := eqD) (var_of (i := 7) rfl) (x_c (.int 0)) eqI) neBl)
    have e3 : (!decide (true = decide (((whole r bs : Nat) : Int) = 0))) = false := by
      have : decide (((whole r bs : Nat) : Int) = 0) = true := by simp; omega
      rw [this]; rfl
    rw [e3] at e2
    obtain ⟨g, hg⟩ := rr_tail r bs (by omega) (some (.ref h)) (some (.int (sz : Nat))) (some (.ref s2.length)) (some (.ref s3.length)) (some (.tup (natsD hn))) (some (.int (whole r bs : Nat))) (some .non) none none none none none none none s5
    refine fin (s6 := s5 ++ g) rfl ?_
    exact seq_nx (set_of (call_of (two_of (var_of rfl) rfl) d1)) (seq_nx (asg_of (tup_of (two_of (call_of (two_of (var_of rfl) (var_of rfl)) d2) (opN_of (one_of (call_of (two_of (var_of rfl) rfl) pn)) hlst)) (by simp)) rfl) (seq_nx (set_of hdue) (seq_nx (if_f hif rfl) (seq_nx (set_of (opN_of (one_of hheads) htup)) (seq_nx (par2_of (call_of (two_of (var_of rfl) (var_of rfl)) hcoin) (call_of (two_of (var_of rfl) (var_of rfl)) hw)) (seq_nx (if_f (or_f (his _ rfl rfl) e2) rfl)
      (seq_nx (if_f (asB_ok (op2_of (var_of rfl) rfl isnNon_non)) rfl) hg)))))))
end K98

set_option Elab.async false
set_option linter.all false
set_option maxRecDepth 100000
set_option maxHeartbeats 4000000
namespace K98
open Py L2 PySem PySem.Spec PyProof.Rows
/-- two lists of the same ints -/
theorem law_is_list {st : Store} {n m : Nat} {xs : List Int} (h1 : st[n]? = some (.lst (intsD xs))) (h2 : st[m]? = some (.lst (intsD xs))) (hl : xs.length ≤ 1000) (k : Nat) : runD N__law_is (b__law_is (m__law_isF (k + 1))) [.ref n, .ref m] st = .ok (.bl true) st := by
  have t1 : tyName (.ref n) st = some "list" := by simp only [tyName, h1]
  have t2 : tyName (.ref m) st = some "list" := by simp only [tyName, h2]
  have l1 : lenD [.ref n] st = some (.int (xs.length : Nat), st) := by simp [lenD, h1, getL, intsD]
  have l2 : lenD [.ref m] st = some (.int (xs.length : Nat), st) := by simp [lenD, h2, getL, intsD]
  have g1 : getL st n = some (intsD xs) := by unfold getL; rw [h1]
  have g2 : getL st m = some (intsD xs) := by unfold getL; rw [h2]
  have hi : ∀ (i : Nat) (x : Nat) (cs : List String) (k : Bool) (e : Py.Loc), e[i]? = some (some (.ref x)) → tyName (.ref x) st = some "list" → (cs.any fun c => isT "list" c) = k → mIsi (mVar i) cs e st = .ok (.bl k) st := fun i x cs k e he ht hk => isi_of (var_of he) ht hk
  have hz : zpD [.ref n, .ref m] st = some ⟨zpL (intsD xs) (intsD xs), fun st' => stillD (.ref n) (intsD xs) st' ∧ stillD (.ref m) (intsD xs) st'⟩ := by
    simp only [zpD, seqOf_ref, g1, g2]
    rfl
  have e1 : zpL (intsD xs) (intsD xs) = xs.map fun x => D.tup [.int x, .int x] := by
    unfold zpL intsD
    induction xs with
    | nil => rfl
    | cons x xs ih => simp
  have hm : mLc (mZp (mCons (mVar 0) (mCons (mVar 1) mNil))) (.tp [2, 3]) mYes (mCall (m__law_isF (k + 1)) (mCons (mVar 2) (mCons (mVar 3) mNil))) [2, 3] [some (.ref n), some (.ref m), none, none] st = .ok (.ref st.length) (st ++ [.lst ((xs.map fun _ => true).map .bl)]) := by
    have q := mLc_map (e := [some (.ref n), some (.ref m), none, none]) (st := st) (st' := st) (mi := mZp (mCons (mVar 0) (mCons (mVar 1) mNil))) (tg := .tp [2, 3]) (me := mCall (m__law_isF (k + 1)) (mCons (mVar 2) (mCons (mVar 3) mNil))) (vs := [2, 3]) (it := ⟨zpL (intsD xs) (intsD xs), fun st' => stillD (.ref n) (intsD xs) st' ∧ stillD (.ref m) (intsD xs) st'⟩) (fun _ => .bl true) (by rw [x_zp, two_of (var_of rfl) (var_of rfl)]; simp only [R.bind_ok, hz]) ⟨stillD_of g1, stillD_of g2⟩ (by rw [e1, List.length_map]; exact le_size (by omega)) fun d hd => by
      rw [e1] at hd
      obtain ⟨x, hx, rfl⟩ := List.mem_map.mp hd
      refine ⟨[some (.ref n), some (.ref m), some (.int x), some (.int x)], [], rfl, ?_, rfl⟩
      have q := law_is_int (m__law_isF k) x x st
      rw [decide_eq_true rfl] at q
      rw [List.append_nil]
      exact call_of (two_of (var_of rfl) (var_of rfl)) q
    rw [q, e1]
    simp [Function.comp]
  have hall := opN_of (one_of hm) (allD_of (st := st ++ [O.lst ((xs.map fun _ => true).map .bl)]) (n := st.length) (bs := xs.map fun _ => true) getL_new)
  have hT : (xs.map fun _ => true).all id = true := by simp
  rw [hT] at hall
  have hle := op2_of (f := eqD) (opN_of (one_of (var_of (i := 0) (e := [some (.ref n), some (.ref m), none, none]) (st := st) rfl)) l1) (opN_of (one_of (var_of (i := 1) rfl)) l2) eqI
  rw [decide_eq_true rfl] at hle
  exact run_rt (seq_rt (if_t (asB_ok (hi 1 m _ true _ rfl t2 (by decide))) (seq_nx (if_f (or_f (asB_ok (op2_of (hi 0 n _ false _ rfl t1 (by decide)) (hi 1 m _ false _ rfl t2 (by decide)) neBl)) (asB_ok (op2_of (hi 0 n _ true _ rfl t1 (by decide)) (hi 1 m _ true _ rfl t2 (by decide)) neBl))) rfl) (seq_rt (ret_of (andV_t hle hall)))))) rfl
theorem pow2_59 (st : Store) : powD (.int 2) (.int 59) st = some (.int (2 ^ 59), st) := by
  rw [powI ⟨by omega, by omega, by decide⟩]
  rfl
theorem pow2_58 (st : Store) : powD (.int 2) (.int 58) st = some (.int ((2 ^ 58 : Nat) : Int), st) := by
  rw [powI ⟨by omega, by omega, by decide⟩]
  rfl
theorem e_heaps_right {st : Store} {h c : Nat} {cells : List Int} (H : Hnd st h c cells) : ∃ st', m__law_heaps_right [.ref h] st = .ok (.bl true) st' ∧ Stp st st' h c ∧ Hnd st' h c cells := by
  obtain ⟨sz, s1, hsz, d1, x1, H1⟩ := draw' H 21 (by omega) (by omega)
  obtain ⟨bs, s2, hbs, d2, x2, H2⟩ := e_law_row H1 sz (by omega)
  have X := x1.trans x2
  obtain ⟨hp, hhp⟩ : ∃ hp, hp = (hds bs).map fun a => a + 1 := ⟨_, rfl⟩
  have hlc : mLc (mEn (mVar 1)) (.tp [5, 6]) (asB (mOp2 eqD (mVar 6) (mC (.str "H")))) (mOp2 addD (mVar 5) (mC (.int 1))) [5, 6] [some (.ref h), some (.str (rowS bs)), none, none, none, none, none] s2 = .ok (.ref s2.length) (s2 ++ [.lst (natsD hp)]) := by
    rw [heads_lc (bs := bs) (fun a => .int ((a + 1 : Nat) : Int)) (by omega) rfl (by omega) (by simp) fun p b hp => ⟨[], by rw [List.append_nil]; exact op2_of (var_of (d := .int (p : Nat)) rfl) rfl addI, rfl⟩, hhp]
    simp [natsD]
  obtain ⟨s3, hs3⟩ : ∃ s3, s3 = s2 ++ [O.lst (natsD hp)] := ⟨_, rfl⟩
  rw [← hs3] at hlc
  have htup : tupD [.ref s2.length] s3 = some (.tup (natsD hp), s3) := by rw [hs3]; simp only [tupD, getL_new]
  have hwh : xorL hp = whole .two bs := by
    unfold whole val
    rw [hhp]
    congr 1
    refine List.map_congr_left fun a ha => ?_
    have ha' := hds_lt ha
    have key : ∀ a, a < 64 → (T .two).getD a 0 = a + 1 := by decide +kernel
    exact (key a (by omega)).symm
  have hft := e_first_taking hp (by rw [hhp, List.length_map]; have := hds_len bs; omega) (fun n hn => by
    rw [hhp] at hn
    obtain ⟨a, ha, rfl⟩ := List.mem_map.mp hn
    have := hds_lt ha
    omega) s3
  have hwt := e_winning .two bs (by omega) s3
  have hif : asB (mOp2 neD (mOp2 isD2 (mCall m_first_taking (mCons (mVar 2) mNil)) (mC .non)) (mOp2 isD2 (mCall m_winning_turn (mCons (mC (.str "two")) (mCons (mVar 1) mNil))) (mC .non))) [some (.ref h), some (.str (rowS bs)), some (.tup (natsD hp)), none, none, none, none] s3 = .ok false s3 := by
    rw [hwh] at hft
    rcases hft with ⟨z, q1⟩ | ⟨z, a, b, q1⟩
    · rcases hwt with ⟨p, l, hp', hl, hc, q2⟩ | ⟨hc, q2⟩
      · rw [z] at hc
        have := hds_lt hp'
        exact absurd hc (no_turn (by omega) hl)
      · exact asB_ok (op2_of (f := neD) (op2_of (f := isD2) (call_of (one_of (var_of rfl)) q1) rfl isNon_non) (op2_of (f := isD2) (call_of (two_of rfl (var_of rfl)) q2) rfl isNon_non) neBl)
    · rcases hwt with ⟨p, l, hp', hl, hc, q2⟩ | ⟨hc, q2⟩
      · exact asB_ok (op2_of (f := neD) (op2_of (f := isD2) (call_of (one_of (var_of rfl)) q1) rfl isNon_tup) (op2_of (f := isD2) (call_of (two_of rfl (var_of rfl)) q2) rfl isNon_tup) neBl)
      · obtain ⟨p, hp', l, hl, hcc⟩ := some_turn (r := .two) (bs := bs) (by omega) z
        exact absurd hcc (hc p hp' l hl)
  have H3 : Hnd s3 h c cells := by rw [hs3]; exact H2.app _
  obtain ⟨a1, s4, ha1, d3, x3, H4⟩ := draw' H3 100 (by omega) (by omega)
  obtain ⟨a2, s5, ha2, d4, x4, H5⟩ := draw' H4 (10 ^ 18) (by omega) (by omega)
  obtain ⟨ds, hds'⟩ : ∃ ds : List D, ds = [.int (a1 : Nat), .int (a2 : Nat), .int ((2 ^ 59 - 1 : Nat) : Int), .int ((2 ^ 58 : Nat) : Int)] := ⟨_, rfl⟩
  have hsub : subD (.int (2 ^ 59)) (.int 1) s5 = some (.int ((2 ^ 59 - 1 : Nat) : Int), s5) := by rw [subI]; congr 3
  have hlst : mLst (mCons (mCall m__law_draw (mCons (mVar 0) (mCons (mC (.int 100)) mNil))) (mCons (mCall m__law_draw (mCons (mVar 0) (mCons (mOp2 powD (mC (.int 10)) (mC (.int 18))) mNil))) (mCons (mOp2 subD (mOp2 powD (mC (.int 2)) (mC (.int 59))) (mC (.int 1))) (mCons (mOp2 powD (mC (.int 2)) (mC (.int 58))) mNil)))) [some (.ref h), some (.str (rowS bs)), some (.tup (natsD hp)), none, none, none, none] s3 = .ok (.ref s5.length) (s5 ++ [.lst ds]) := by
    rw [hds']
    exact lst_of (cons_of (call_of (two_of (var_of rfl) rfl) d3) (cons_of (call_of (two_of (var_of rfl) (op2_of rfl rfl (pow18 _))) d4) (two_of (op2_of (op2_of rfl rfl (pow2_59 _)) rfl hsub) (op2_of rfl rfl (pow2_58 _))))) (by simp)
  have hpl : ∀ d ∈ ds, ∃ p : Nat, d = .int (p : Nat) ∧ p ≤ 10 ^ 18 := fun d hd => by
    rw [hds'] at hd
    simp only [List.mem_cons, List.not_mem_nil, or_false] at hd
    rcases hd with rfl | rfl | rfl | rfl
    · exact ⟨_, rfl, by omega⟩
    · exact ⟨_, rfl, by omega⟩
    · exact ⟨_, rfl, by decide⟩
    · exact ⟨_, rfl, by decide⟩
  have hl5 : s5.length ≠ h := by have := H5.hl; omega
  obtain ⟨d, s6, hd, d5, x5, H6⟩ := some_list (H5.app [.lst ds]) (n := s5.length) (ds := ds) (by simp) hl5 (by rw [hds']; simp) (by rw [hds']; simp) fun d hd => by
    obtain ⟨p, rfl, _⟩ := hpl d hd; rfl
  obtain ⟨p, rfl, hp18⟩ := hpl d hd
  obtain ⟨t5, ht5, y5⟩ := x5.app H5.hl
  -- from s3 to t5
  have x35 : Stp s3 t5 h c := (x3.trans x4).trans y5
  rw [hs3] at x35
  obtain ⟨t, ht, y⟩ := x35.app H2.hl
  have XX := X.trans y
  -- the end
  have k1 := e_known .three p s6
  have k2 := e_known .ruler p s6
  have b1 := e_bits p hp18
  have b2 := e_rulern p hp18
  obtain ⟨s7, hs7⟩ : ∃ s7, s7 = s6 ++ [O.lst (intsD [(bit3 p : Nat), (low (p + 1) : Nat)])] := ⟨_, rfl⟩
  obtain ⟨s8, hs8⟩ : ∃ s8, s8 = s7 ++ [O.lst (intsD [(bit3 p : Nat), (low (p + 1) : Nat)])] := ⟨_, rfl⟩
  have hdue : mLst (mCons (mCall m__law_known (mCons (mC (.str "three")) (mCons (mVar 3) mNil))) (mCons (mCall m__law_known (mCons (mC (.str "ruler")) (mCons (mVar 3) mNil))) mNil)) [some (.ref h), some (.str (rowS bs)), some (.tup (natsD hp)), some (.int (p : Nat)), none, none, none] s6 = .ok (.ref s6.length) s7 := by
    rw [hs7]
    exact lst_of (two_of (call_of (two_of rfl (var_of rfl)) k1) (call_of (two_of rfl (var_of rfl)) k2)) (by simp [intsD])
  have hsaid : mLst (mCons (mCall m_bits_number (mCons (mVar 3) mNil)) (mCons (mCall m_ruler_number (mCons (mVar 3) mNil)) mNil)) [some (.ref h), some (.str (rowS bs)), some (.tup (natsD hp)), some (.int (p : Nat)), some (.ref s6.length), none, none] s7 = .ok (.ref s7.length) s8 := by
    rw [hs8]
    exact lst_of (two_of (call_of (one_of (var_of rfl)) (b1 _)) (call_of (one_of (var_of rfl)) (b2 _))) (by simp [intsD])
  have his := law_is_list (st := s8) (n := s7.length) (m := s6.length) (xs := [(bit3 p : Nat), (low (p + 1) : Nat)]) (by rw [hs8]; simp) (by rw [hs8, hs7]; simp) (by simp) 2
  refine ⟨t, run_stp (g := [O.lst (natsD hp)] ++ [.lst ds] ++ [O.lst (intsD [(bit3 p : Nat), (low (p + 1) : Nat)])] ++ [O.lst (intsD [(bit3 p : Nat), (low (p + 1) : Nat)])]) H XX (s' := s8) ?_ (by rw [hs8, hs7, ht5, ht]; simp) rfl, XX, ?_⟩
  · exact seq_nx (set_of (call_of (two_of (var_of rfl) (call_of (two_of (var_of rfl) rfl) d1)) d2)) (seq_nx (set_of (opN_of (one_of hlc) htup)) (seq_nx (if_f hif rfl) (seq_nx (set_of (call_of (two_of (var_of rfl) hlst) d5)) (seq_nx (set_of hdue) (seq_rt (ret_of (call_of (two_of hsaid (var_of rfl)) his)))))))
  · obtain ⟨i, a, b, e, q, G⟩ := H6.now
    have hl2 : h < t.length := by rw [XX.len]; exact H.hl
    rw [ht5, ht, List.append_assoc, List.getElem?_append_left hl2] at q
    exact ⟨⟨i, a, b, e, q, G⟩, by rw [XX.at_ H.ne]; exact H.cl, H.ne⟩
end K98

set_option Elab.async false
set_option linter.all false
set_option maxRecDepth 100000
set_option maxHeartbeats 4000000
namespace K98
open Py L2 PySem PySem.Spec PyProof.Rows
theorem hnd_un {t g : Store} {h c : Nat} {cells : List Int} (H : Hnd (t ++ g) h c cells) (hh : h < t.length) (hc : c < t.length) : Hnd t h c cells := by
  obtain ⟨i, a, b, e, q, G⟩ := H.now
  have hcl := H.cl
  rw [List.getElem?_append_left hh] at q
  rw [List.getElem?_append_left hc] at hcl
  exact ⟨⟨i, a, b, e, q, G⟩, hcl, H.ne⟩
def rls : List Rl := [.one, .two, .three, .twins, .ruler, .doubles]
def rulesD : List D := rls.map fun r => .str (nm r)
theorem ix_tup {l : List Nat} {a : Nat} (h : a < l.length) (st : Store) : ixD (.tup (natsD l)) (.int (a : Nat)) st = some (.int (l.getD a 0 : Nat), st) := by simp only [ixD, atI_nats h]
noncomputable abbrev bbody : Py.Loc → Store → Fl := (sSeq (sPar2 3 4 (mCons (mCall m__law_some (mCons (mVar 0) (mCons (mVar 1) mNil))) (mCons (mCall m__law_some (mCons (mVar 0) (mCons (mVar 1) mNil))) mNil))) (sSeq (sAsg (mTup (mCons (mCall m__law_draw (mCons (mVar 0) (mCons (mC (.int 16)) mNil))) (mCons (mCall m__law_draw (mCons (mVar 0) (mCons (mC (.int 16)) mNil))) mNil))) (gN 5)) (sSeq (sAsg (mLst (mCons (mOp2 ixD (mCall m_place_numbers (mCons (mVar 3) (mCons (mC (.int 16)) mNil))) (mOp2 ixD (mVar 5) (mC (.int 0)))) (mCons (mOp2 ixD (mCall m_place_numbers (mCons (mVar 4) (mCons (mC (.int 16)) mNil))) (mOp2 ixD (mVar 5) (mC (.int 1)))) mNil))) (gN 6)) (sSeq (sIf (mNot (asB (mCall (m__law_isF 4) (mCons (mCall m_board_number (mCons (mVar 3) (mCons (mVar 4) (mCons (mVar 5) mNil)))) (mCons (mCall m_two_product (mCons (mOp2 ixD (mVar 6) (mC (.int 0))) (mCons (mOp2 ixD (mVar 6) (mC (.int 1))) mNil))) mNil))))) (sSeq (sRet (mC (.bl false))) (fun e st => .nx e st)) (fun e st => .nx e st)) (fun e st => .nx e st)))))
theorem b_turn {t g : Store} {h c n : Nat} {cells : List Int} (H : Hnd t h c cells) (hn : n = t.length) (d2 d3 d4 d5 d6 : Option D) :
    ∃ t' g' d3' d4' d5' d6', bbody [some (.ref h), some (.ref n), d2, d3, d4, d5, d6] (t ++ ([O.lst rulesD] ++ g)) = .nx [some (.ref h), some (.ref n), d2, d3', d4', d5', d6'] (t' ++ ([O.lst rulesD] ++ g')) ∧ Stp t t' h c ∧ Hnd t' h c cells := by
  subst hn
  have hh := H.hl
  have hc := H.cll
  have hne : t.length ≠ h := by omega
  have hmem : ∀ d ∈ rulesD, ∃ r : Rl, d = .str (nm r) := fun d hd => by
    obtain ⟨r, _, rfl⟩ := List.mem_map.mp hd; exact ⟨r, rfl⟩
  have hR : (t ++ ([O.lst rulesD] ++ g))[t.length]? = some (.lst rulesD) := by rw [List.getElem?_append_right (Nat.le_refl _)]; simp
  obtain ⟨d, S1, hd, q1, x1, H1⟩ := some_list (H.app ([O.lst rulesD] ++ g)) hR hne (by simp [rulesD, rls]) (by simp [rulesD, rls]) fun d hd => by
    obtain ⟨r, rfl⟩ := hmem d hd; rfl
  obtain ⟨r, rfl⟩ := hmem d hd
  have hR1 : S1[t.length]? = some (.lst rulesD) := by rw [x1.at_ hne, hR]
  obtain ⟨d, S2, hd, q2, x2, H2⟩ := some_list H1 hR1 hne (by simp [rulesD, rls]) (by simp [rulesD, rls]) fun d hd => by
    obtain ⟨r, rfl⟩ := hmem d hd; rfl
  obtain ⟨q, rfl⟩ := hmem d hd
  obtain ⟨a, S3, ha, q3, x3, H3⟩ := draw' H2 16 (by omega) (by omega)
  obtain ⟨b, S4, hb, q4, x4, H4⟩ := draw' H3 16 (by omega) (by omega)
  obtain ⟨t', ht', X⟩ := (((x1.trans x2).trans x3).trans x4).app hh
  have p1 := e_place_numbers r 16 (by omega) S4
  have p2 := e_place_numbers q 16 (by omega) S4
  have i1 := ix_tup (l := (T r).take 16) (a := a) (by rw [List.length_take, T_len]; omega) S4
  have i2 := ix_tup (l := (T q).take 16) (a := b) (by rw [List.length_take, T_len]; omega) S4
  rw [getD_take ha] at i1
  rw [getD_take hb] at i2
  have j0 : ∀ s, ixD (.tup [.int (a : Nat), .int (b : Nat)]) (.int 0) s = some (.int (a : Nat), s) := fun s => rfl
  have j1 : ∀ s, ixD (.tup [.int (a : Nat), .int (b : Nat)]) (.int 1) s = some (.int (b : Nat), s) := fun s => rfl
  obtain ⟨S5, hS5⟩ : ∃ S5, S5 = S4 ++ [O.lst [.int ((T r).getD a 0 : Nat), .int ((T q).getD b 0 : Nat)]] := ⟨_, rfl⟩
  have hat : S5[S4.length]? = some (.lst [.int ((T r).getD a 0 : Nat), .int ((T q).getD b 0 : Nat)]) := by rw [hS5]; simp
  have hnum : mLst (mCons (mOp2 ixD (mCall m_place_numbers (mCons (mVar 3) (mCons (mC (.int 16)) mNil))) (mOp2 ixD (mVar 5) (mC (.int 0)))) (mCons (mOp2 ixD (mCall m_place_numbers (mCons (mVar 4) (mCons (mC (.int 16)) mNil))) (mOp2 ixD (mVar 5) (mC (.int 1)))) mNil)) [some (.ref h), some (.ref t.length), d2, some (.str (nm r)), some (.str (nm q)), some (.tup [.int (a : Nat), .int (b : Nat)]), d6] S4 = .ok (.ref S4.length) S5 := by
    rw [hS5]
    exact lst_of (two_of (op2_of (call_of (two_of (var_of rfl) rfl) p1) (op2_of (var_of rfl) rfl (j0 _)) i1) (op2_of (call_of (two_of (var_of rfl) rfl) p2) (op2_of (var_of rfl) rfl (j1 _)) i2)) (by simp)
  obtain ⟨v, hv⟩ := e_board r q a b ha hb
  obtain ⟨v1, v2⟩ := hv S5
  have his := law_is_int (m__law_isF 3) (v : Nat) (v : Nat) S5
  rw [decide_eq_true rfl] at his
  have hif : mNot (asB (mCall (m__law_isF 4) (mCons (mCall m_board_number (mCons (mVar 3) (mCons (mVar 4) (mCons (mVar 5) mNil)))) (mCons (mCall m_two_product (mCons (mOp2 ixD (mVar 6) (mC (.int 0))) (mCons (mOp2 ixD (mVar 6) (mC (.int 1))) mNil))) mNil)))) [some (.ref h), some (.ref t.length), d2, some (.str (nm r)), some (.str (nm q)), some (.tup [.int (a : Nat), .int (b : Nat)]), some (.ref S4.length)] S5 = .ok false S5 :=
    not_of (k := true) (asB_ok (call_of (two_of (call_of (cons_of (var_of rfl) (two_of (var_of rfl) (var_of rfl))) v1) (call_of (two_of (op2_of (var_of rfl) rfl (ix_at hat rfl)) (op2_of (var_of rfl) rfl (ix_at hat rfl))) v2)) his))
  refine ⟨t', g ++ [O.lst [.int ((T r).getD a 0 : Nat), .int ((T q).getD b 0 : Nat)]], some (.str (nm r)), some (.str (nm q)), some (.tup [.int (a : Nat), .int (b : Nat)]), some (.ref S4.length), ?_, X, hnd_un (g := [O.lst rulesD] ++ g) (by rw [← ht']; exact H4) (by rw [X.len]; exact hh) (by rw [X.len]; exact hc)⟩
  have e : S5 = t' ++ ([O.lst rulesD] ++ (g ++ [O.lst [.int ((T r).getD a 0 : Nat), .int ((T q).getD b 0 : Nat)]])) := by rw [hS5, ht']; simp
  rw [← e]
  exact seq_nx (par2_of (call_of (two_of (var_of rfl) (var_of rfl)) q1) (call_of (two_of (var_of rfl) (var_of rfl)) q2)) (seq_nx (set_of (tup_of (two_of (call_of (two_of (var_of rfl) rfl) q3) (call_of (two_of (var_of rfl) rfl) q4)) (by simp))) (seq_nx (set_of hnum) (seq_nx (if_f hif rfl) rfl)))
theorem b_loop {h c n : Nat} {cells : List Int} : ∀ (ks : List Nat) (t g : Store) (d2 d3 d4 d5 d6 : Option D), Hnd t h c cells → n = t.length →
    ∃ t' g' d2' d3' d4' d5' d6', forL (fun _ => True) (fun d e st => (gN 2 d e st).seq bbody) (natsD ks) [some (.ref h), some (.ref n), d2, d3, d4, d5, d6] (t ++ ([O.lst rulesD] ++ g)) = .nx [some (.ref h), some (.ref n), d2', d3', d4', d5', d6'] (t' ++ ([O.lst rulesD] ++ g')) ∧ Stp t t' h c ∧ Hnd t' h c cells := by
  intro ks
  induction ks with
  | nil => exact fun t g d2 d3 d4 d5 d6 H hn => ⟨t, g, d2, d3, d4, d5, d6, forL_nil trivial, Stp.refl H, H⟩
  | cons k ks ih =>
    intro t g d2 d3 d4 d5 d6 H hn
    obtain ⟨t1, g1, e3, e4, e5, e6, hb, x1, H1⟩ := b_turn (g := g) H hn (some (.int (k : Nat))) d3 d4 d5 d6
    obtain ⟨t2, g2, f2, f3, f4, f5, f6, hl, x2, H2⟩ := ih t1 g1 (some (.int (k : Nat))) e3 e4 e5 e6 H1 (by rw [x1.len]; exact hn)
    refine ⟨t2, g2, f2, f3, f4, f5, f6, ?_, x1.trans x2, H2⟩
    have e0 : natsD (k :: ks) = .int (k : Nat) :: natsD ks := rfl
    rw [e0, forL_nx trivial (e' := [some (.ref h), some (.ref n), some (.int (k : Nat)), e3, e4, e5, e6]) (st' := t1 ++ ([O.lst rulesD] ++ g1))]
    · exact hl
    · show (Fl.nx _ _).seq _ = _
      rw [Fl.seq_nx]
      exact hb
theorem e_boards_right {st : Store} {h c : Nat} {cells : List Int} (H : Hnd st h c cells) : ∃ st', m__law_boards_right [.ref h] st = .ok (.bl true) st' ∧ Stp st st' h c ∧ Hnd st' h c cells := by
  obtain ⟨t, g, f2, f3, f4, f5, f6, hl, x, H1⟩ := b_loop (n := st.length) (List.range 5) st [] none none none none none H rfl
  have hr : mLst (mCons (mC (.str "one")) (mCons (mC (.str "two")) (mCons (mC (.str "three")) (mCons (mC (.str "twins")) (mCons (mC (.str "ruler")) (mCons (mC (.str "doubles")) mNil)))))) (startE N__law_boards_right [.ref h]) st = .ok (.ref st.length) (st ++ ([O.lst rulesD] ++ [])) := by
    rw [List.append_nil]
    exact lst_of (ds := rulesD) (cons_of rfl (cons_of rfl (cons_of rfl (cons_of rfl (two_of rfl rfl))))) (by simp [rulesD, rls])
  exact ⟨t, run_stp (g := [O.lst rulesD] ++ g) H x (seq_nx (set_of hr) (seq_nx (for_of (rgs_of (one_of rfl) (rg1 5 (by omega))) hl) (seq_rt (ret_of rfl)))) rfl rfl, x, H1⟩
/-! ### the law -/
theorem r_loop {h c : Nat} {cells : List Int} {d0 : Option D} : ∀ (rs : List Rl) (st : Store) (d2 : Option D), Hnd st h c cells →
    ∃ st' d2', forL (fun _ => True) (fun d e st => (gN 2 d e st).seq (sSeq (sIf (mNot (asB (mCall m__law_rule_right (mCons (mVar 1) (mCons (mVar 2) mNil))))) (sSeq (sRet (mC (.bl false))) (fun e st => .nx e st)) (fun e st => .nx e st)) (fun e st => .nx e st))) (rs.map fun r => .str (nm r)) [d0, some (.ref h), d2] st = .nx [d0, some (.ref h), d2'] st' ∧ Hnd st' h c cells := by
  intro rs
  induction rs with
  | nil => exact fun st d2 H => ⟨st, d2, forL_nil trivial, H⟩
  | cons r rs ih =>
    intro st d2 H
    obtain ⟨s1, q, _, H1⟩ := e_rule_right H r
    obtain ⟨s2, d2', hl, H2⟩ := ih s1 (some (.str (nm r))) H1
    refine ⟨s2, d2', ?_, H2⟩
    rw [List.map_cons, forL_nx trivial (e' := [d0, some (.ref h), some (.str (nm r))]) (st' := s1)]
    · exact hl
    · show (Fl.nx _ _).seq _ = _
      rw [Fl.seq_nx]
      exact seq_nx (if_f (not_of (k := true) (asB_ok (call_of (two_of (var_of rfl) (var_of rfl)) q))) rfl) rfl
theorem gc_true (st st' : Store) : (gc st (.bl true) st').1 = .bl true := by
  unfold gc
  split
  · simp [lowD]
  · rfl
theorem law_holds {ns : List Int} (hl : ns.length ≤ 63) {d0 : D} {st0 : Store} (hcut : Py.cutD d0 none (some 63) st0 = some (.ref st0.length, st0 ++ [.lst (intsD ns)])) : Holds1 m_law [d0] st0 := by
  obtain ⟨S, h, c, cells, H, hh⟩ := e_hand hl hcut
  obtain ⟨s1, d2, q1, H1⟩ := r_loop (d0 := some d0) rls S none H
  obtain ⟨s2, q2, _, H2⟩ := e_heaps_right H1
  obtain ⟨s3, q3, _, H3⟩ := e_boards_right H2
  have hb : b_law (startE N_law [d0]) st0 = .rt (.bl true) s3 :=
    seq_nx (set_of (call_of (one_of (var_of rfl)) hh)) (seq_nx (for_of (it_of (tup_of (ds := rulesD) (cons_of rfl (cons_of rfl (cons_of rfl (cons_of rfl (two_of rfl rfl))))) (by simp [rulesD, rls])) rfl) q1) (seq_rt (ret_of (andV_t (call_of (one_of (var_of rfl)) q2) (call_of (one_of (var_of rfl)) q3)))))
  refine ⟨(gc st0 (.bl true) s3).2, ?_⟩
  unfold m_law runD
  rw [hb]
  simp only [gc_true]
theorem H1 : ∀ ns : List Int, ns.length ≤ 63 → Holds1 m_law [.ref 0] [.frz (intsD ns)] := fun ns hl => law_holds hl (cut_frz ns hl)
theorem H2 : ∀ ns : List Int, ns.length ≤ 63 → Holds1 m_law [.kl (intsD ns)] [] := fun ns hl => law_holds hl (cut_kl ns hl)
end K98

open PySem PySem.W PyProof.Rows
set_option maxHeartbeats 0 in
theorem PySem.Challenge.cw_stuckloses_k98_whole_coins_and_twos_holds : PySem.Challenge.rw_stuckloses_k98_whole_coins_and_twos.Holds := by
  w_on; o_law; k_head; (case hw => w_witness2)
  k_fill
  refine L2.walk_of (l := PySem.Challenge.rw_stuckloses_k98_whole_coins_and_twos) (n := 63) (k := 13) (x := "script") (CX := fun w => L2.CX PySem.Challenge.rw_stuckloses_k98_whole_coins_and_twos.prog w) (sp := fun w => Py.spLaw _) rfl (by decide) rfl ⟨rfl, by decide, by decide⟩ (fun w h Y => PySem.W.kIn_of Y) ?F (fun _ _ a ns hl ho hS => ⟨a, ns, rfl, hS, ho, hl, fun _ => rfl⟩) (fun _ H s e s' h => Py.no_cx H s e s' h)
  case F =>
    intro w mg fa h KX G hmg
    refine' K98.fin K98.H1 K98.H2 KX G hmg ?a0 ?l0 ?c0 ?k0 ?a1 ?l1 ?c1 ?k1 ?a2 ?l2 ?c2 ?k2 ?a3 ?l3 ?c3 ?k3 ?a4 ?l4 ?c4 ?k4 ?a5 ?l5 ?c5 ?k5 ?a6 ?l6 ?c6 ?k6 ?a7 ?l7 ?c7 ?k7 ?a8 ?l8 ?c8 ?k8 ?a9 ?l9 ?c9 ?k9 ?a10 ?l10 ?c10 ?k10 ?a11 ?l11 ?c11 ?k11 ?a12 ?l12 ?c12 ?k12 ?a13 ?l13 ?c13 ?k13 ?a14 ?l14 ?c14 ?k14 ?a15 ?l15 ?c15 ?k15 ?a16 ?l16 ?c16 ?k16 ?a17 ?l17 ?c17 ?k17 ?a18 ?l18 ?c18 ?k18 ?a19 ?l19 ?c19 ?k19 ?a20 ?l20 ?c20 ?k20 ?a21 ?l21 ?c21 ?k21 ?a22 ?l22 ?c22 ?k22 ?a23 ?l23 ?c23 ?k23 ?a24 ?l24 ?c24 ?k24 ?a25 ?l25 ?c25 ?k25 ?a26 ?l26 ?c26 ?k26 ?a27 ?l27 ?c27 ?k27 ?a28 ?l28 ?c28 ?k28 ?a29 ?l29 ?c29 ?k29 ?a30 ?l30 ?c30 ?k30 ?a31 ?l31 ?c31 ?k31 ?a32 ?l32 ?c32 ?k32 ?a33 ?l33 ?c33 ?k33 ?a34 ?l34 ?c34 ?k34 ?a35 ?l35 ?c35 ?k35 ?a36 ?l36 ?c36 ?k36 ?a37 ?l37 ?c37 ?k37 ?a38 ?l38 ?c38 ?k38 ?a39 ?l39 ?c39 ?k39 ?a40 ?l40 ?c40 ?k40 ?a41 ?l41 ?c41 ?k41 ?z0 ?z1 ?z2 ?z3 ?z4 ?z5 ?z6 ?z7 ?z8 ?z9 ?z10 ?z11 ?z12 ?z13 ?g11a ?g10a ?g9a ?g9l ?g8a ?g7a ?g6a ?g5a ?g4a ?g3a ?g2a ?g1a ?g0a
    (case a0 => k_is)
    (case l0 => k_is)
    (case c0 => k_is)
    (case k0 => k_is)
    (case a1 => k_is)
    (case l1 => k_is)
    (case c1 => k_is)
    (case k1 => k_is)
    (case a2 => k_is)
    (case l2 => k_is)
    (case c2 => k_is)
    (case k2 => k_is)
    (case a3 => k_is)
    (case l3 => k_is)
    (case c3 => k_is)
    (case k3 => k_is)
    (case a4 => k_is)
    (case l4 => k_is)
    (case c4 => k_is)
    (case k4 => k_is)
    (case a5 => k_is)
    (case l5 => k_is)
    (case c5 => k_is)
    (case k5 => k_is)
    (case a6 => k_is)
    (case l6 => k_is)
    (case c6 => k_is)
    (case k6 => k_is)
    (case a7 => k_is)
    (case l7 => k_is)
    (case c7 => k_is)
    (case k7 => k_is)
    (case a8 => k_is)
    (case l8 => k_is)
    (case c8 => k_is)
    (case k8 => k_is)
    (case a9 => k_is)
    (case l9 => k_is)
    (case c9 => k_is)
    (case k9 => k_is)
    (case a10 => k_is)
    (case l10 => k_is)
    (case c10 => k_is)
    (case k10 => k_is)
    (case a11 => k_is)
    (case l11 => k_is)
    (case c11 => k_is)
    (case k11 => k_is)
    (case a12 => k_is)
    (case l12 => k_is)
    (case c12 => k_is)
    (case k12 => k_is)
    (case a13 => k_is)
    (case l13 => k_is)
    (case c13 => k_is)
    (case k13 => k_is)
    (case a14 => k_is)
    (case l14 => k_is)
    (case c14 => k_is)
    (case k14 => k_is)
    (case a15 => k_is)
    (case l15 => k_is)
    (case c15 => k_is)
    (case k15 => k_is)
    (case a16 => k_is)
    (case l16 => k_is)
    (case c16 => k_is)
    (case k16 => k_is)
    (case a17 => k_is)
    (case l17 => k_is)
    (case c17 => k_is)
    (case k17 => k_is)
    (case a18 => k_is)
    (case l18 => k_is)
    (case c18 => k_is)
    (case k18 => k_is)
    (case a19 => k_is)
    (case l19 => k_is)
    (case c19 => k_is)
    (case k19 => k_is)
    (case a20 => k_is)
    (case l20 => k_is)
    (case c20 => k_is)
    (case k20 => k_is)
    (case a21 => k_is)
    (case l21 => k_is)
    (case c21 => k_is)
    (case k21 => k_is)
    (case a22 => k_is)
    (case l22 => k_is)
    (case c22 => k_is)
    (case k22 => k_is)
    (case a23 => k_is)
    (case l23 => k_is)
    (case c23 => k_is)
    (case k23 => k_is)
    (case a24 => k_is)
    (case l24 => k_is)
    (case c24 => k_is)
    (case k24 => k_is)
    (case a25 => k_is)
    (case l25 => k_is)
    (case c25 => k_is)
    (case k25 => k_is)
    (case a26 => k_is)
    (case l26 => k_is)
    (case c26 => k_is)
    (case k26 => k_is)
    (case a27 => k_is)
    (case l27 => k_is)
    (case c27 => k_is)
    (case k27 => k_is)
    (case a28 => k_is)
    (case l28 => k_is)
    (case c28 => k_is)
    (case k28 => k_is)
    (case a29 => k_is)
    (case l29 => k_is)
    (case c29 => k_is)
    (case k29 => k_is)
    (case a30 => k_is)
    (case l30 => k_is)
    (case c30 => k_is)
    (case k30 => k_is)
    (case a31 => k_is)
    (case l31 => k_is)
    (case c31 => k_is)
    (case k31 => k_is)
    (case a32 => k_is)
    (case l32 => k_is)
    (case c32 => k_is)
    (case k32 => k_is)
    (case a33 => k_is)
    (case l33 => k_is)
    (case c33 => k_is)
    (case k33 => k_is)
    (case a34 => k_is)
    (case l34 => k_is)
    (case c34 => k_is)
    (case k34 => k_is)
    (case a35 => k_is)
    (case l35 => k_is)
    (case c35 => k_is)
    (case k35 => k_is)
    (case a36 => k_is)
    (case l36 => k_is)
    (case c36 => k_is)
    (case k36 => k_is)
    (case a37 => k_is)
    (case l37 => k_is)
    (case c37 => k_is)
    (case k37 => k_is)
    (case a38 => k_is)
    (case l38 => k_is)
    (case c38 => k_is)
    (case k38 => k_is)
    (case a39 => k_is)
    (case l39 => k_is)
    (case c39 => k_is)
    (case k39 => k_is)
    (case a40 => k_is)
    (case l40 => k_is)
    (case c40 => k_is)
    (case k40 => k_is)
    (case a41 => k_is)
    (case l41 => k_is)
    (case c41 => k_is)
    (case k41 => k_is)
    (case z0 => k_is)
    (case z1 => k_is)
    (case z2 => k_is)
    (case z3 => k_is)
    (case z4 => k_is)
    (case z5 => k_is)
    (case z6 => k_is)
    (case z7 => k_is)
    (case z8 => k_is)
    (case z9 => k_is)
    (case z10 => k_is)
    (case z11 => k_is)
    (case z12 => k_is)
    (case z13 => k_is)
    (case g11a => k_is)
    (case g10a => k_is)
    (case g9a => k_is)
    (case g9l => k_is)
    (case g8a => k_is)
    (case g7a => k_is)
    (case g6a => k_is)
    (case g5a => k_is)
    (case g4a => k_is)
    (case g3a => k_is)
    (case g2a => k_is)
    (case g1a => k_is)
    (case g0a => k_is)
