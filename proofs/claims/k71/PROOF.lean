import PyProof.Rows.All
import Wide.All
import OpenK.AllK
import Wide.FinOn
import HandS.ForSpec
import HandS.Wide
import HandS.EndBits
import HandS.Comp
import HandS.Iter
import HandS.Text
import HandS.StrMore
import HandS.IsInst
import HandS.Flow
import HandS.Style
import HandS.Dict
import HandS.CallSlots
import HandS.SetKeys
import HandS.TupAny
import HandS.TupLe
import HandS.Replace
import HandS.Conv
import PyProof.ListStr
import PyProof.Rows.StrRev
import PyProof.StrBlock2
import HandS.ExcInit
import HandS.ExcField
import KE.KExcSuper
import KE.KSuper
import HandS.ExcIs
import KE.KExcIs
import HandS.Defaults
import HandS.RaiseMore
import KE.KIsAll
import PySem.Challenge.RW_staleornot_k71_cut_texts_read_apart
section
set_option Elab.async false
set_option linter.all false
set_option maxRecDepth 100000
set_option autoImplicit false
set_option maxHeartbeats 400000
namespace DL
open PySem L2 TL

/-! ### data, values, cells -/
inductive D where
  | non | bl (b : Bool) | int (i : Int) | str (s : List Nat) | tup (ds : List D)
inductive Vl where
  | d (x : D) | l (n : Nat)
inductive Cell where
  | lst (xs : List D) | frz (xs : List D) | dct (kvs : List (D × D))
abbrev Env := List (Option Vl)
abbrev Store := List Cell
structure Er where
  c : Str
  fs : List (Str × D)
inductive Res (α : Type) where
  | ok (a : α) (S : Store) | er (e : Er) (S : Store) | bad
inductive Out where
  | nx (ρ : Env) (S : Store) | rt (v : Vl) (S : Store) | bk (ρ : Env) (S : Store) | ct (ρ : Env) (S : Store) | er (e : Er) (ρ : Env) (S : Store) | bad
abbrev DE := Env → Store → Res Vl
abbrev DT := Env → Store → Res Bool
abbrev DA := Env → Store → Res (List Vl)
abbrev DS := Env → Store → Out
abbrev DG := Vl → Env → Option Env
abbrev DF := List Vl → Store → Res Vl

def Res.bind {α β : Type} : Res α → (α → Store → Res β) → Res β
  | .ok a S, f => f a S
  | .er e S, _ => .er e S
  | .bad, _ => .bad
@[simp] theorem Res.bind_ok {α β : Type} {a : α} {S : Store} {f : α → Store → Res β} : (Res.ok a S).bind f = f a S := rfl
@[simp] theorem Res.bind_er {α β : Type} {e : Er} {S : Store} {f : α → Store → Res β} : (Res.er e S : Res α).bind f = .er e S := rfl
@[simp] theorem Res.bind_bad {α β : Type} {f : α → Store → Res β} : (Res.bad : Res α).bind f = .bad := rfl

def sOf (s : List Nat) : Str := ⟨s.toArray⟩
theorem sOf_tl (s : List Nat) : tl (sOf s) = s := rfl
theorem sOf_inj {s t : List Nat} (h : sOf s = sOf t) : s = t := by
  have := congrArg tl h
  simpa [sOf_tl] using this
theorem sOf_append (s t : List Nat) : sOf s ++ sOf t = sOf (s ++ t) := ext_tl (by rw [tl_append, sOf_tl, sOf_tl, sOf_tl])
theorem sOf_length (s : List Nat) : (sOf s).length = s.length := by rw [len_tl, sOf_tl]
theorem sOf_of (x : Str) : sOf (tl x) = x := mk_tl x

/-! ### how data lies in the heap -/
section
variable (K : PySem.W.Frag)
mutual
def RD (H : Hp) : D → V → Prop
  | .non, v => v = .non
  | .bl b, v => v = .bl b
  | .int i, v => v = .int i
  | .str s, v => v = .str (sOf s)
  | .tup ds, v => ∃ a vs, v = .ref a ∧ SqT K H a vs ∧ RDs H ds vs
def RDs (H : Hp) : List D → List V → Prop
  | [], vs => vs = []
  | d :: ds, vs => ∃ v r, vs = v :: r ∧ RD H d v ∧ RDs H ds r
end
def Ext (H H' : Hp) : Prop := ∀ a vs, SqT K H a vs → SqT K H' a vs
end
section
variable {K : PySem.W.Frag} {H H' H1 : Hp}
theorem Ext.refl : Ext K H H := fun _ _ h => h
theorem Ext.trans (a : Ext K H H1) (b : Ext K H1 H') : Ext K H H' := fun x vs h => b x vs (a x vs h)
mutual
theorem RD.up (e : Ext K H H') : ∀ (d : D) (v : V), RD K H d v → RD K H' d v
  | .non, _, h => h
  | .bl _, _, h => h
  | .int _, _, h => h
  | .str _, _, h => h
  | .tup ds, _, ⟨a, vs, h1, h2, h3⟩ => ⟨a, vs, h1, e a vs h2, RDs.up e ds vs h3⟩
theorem RDs.up (e : Ext K H H') : ∀ (ds : List D) (vs : List V), RDs K H ds vs → RDs K H' ds vs
  | [], _, h => h
  | d :: ds, _, ⟨v, r, h1, h2, h3⟩ => ⟨v, r, h1, RD.up e d v h2, RDs.up e ds r h3⟩
end
theorem RDs.length : ∀ {ds : List D} {vs : List V}, RDs K H ds vs → vs.length = ds.length
  | [], _, h => by rw [show _ = [] from h]; rfl
  | _ :: _, _, ⟨v, r, h1, _, h3⟩ => by subst h1; simp [RDs.length h3]
theorem RDs.get : ∀ {ds : List D} {vs : List V} {i : Nat} {d : D}, RDs K H ds vs → ds[i]? = some d → ∃ v, vs[i]? = some v ∧ RD K H d v
  | [], _, _, _, _, e => by simp at e
  | _ :: _, _, 0, d, ⟨v, r, h1, h2, _⟩, e => by subst h1; simp at e; subst e; exact ⟨v, rfl, h2⟩
  | _ :: _, _, i + 1, d, ⟨v, r, h1, _, h3⟩, e => by
    subst h1
    obtain ⟨v', e1, e2⟩ := RDs.get (i := i) h3 (by simpa using e)
    exact ⟨v', by simpa using e1, e2⟩
theorem RDs.getV : ∀ {ds : List D} {vs : List V} {i : Nat} {v : V}, RDs K H ds vs → vs[i]? = some v → ∃ d, ds[i]? = some d ∧ RD K H d v
  | [], _, _, _, h, e => by rw [show _ = [] from h] at e; simp at e
  | d :: _, _, 0, _, ⟨v, r, h1, h2, _⟩, e => by subst h1; simp at e; subst e; exact ⟨d, rfl, h2⟩
  | _ :: _, _, i + 1, _, ⟨v, r, h1, _, h3⟩, e => by
    subst h1
    obtain ⟨v', e1, e2⟩ := RDs.getV (i := i) h3 (by simpa using e)
    exact ⟨v', by simpa using e1, e2⟩
theorem RDs.append : ∀ {ds es : List D} {vs us : List V}, RDs K H ds vs → RDs K H es us → RDs K H (ds ++ es) (vs ++ us)
  | [], _, _, _, h, h' => by rw [show _ = [] from h]; exact h'
  | _ :: _, _, _, _, ⟨v, r, h1, h2, h3⟩, h' => by subst h1; exact ⟨v, _, rfl, h2, RDs.append h3 h'⟩
theorem RDs.one {d : D} {v : V} (h : RD K H d v) : RDs K H [d] [v] := ⟨v, [], rfl, h, rfl⟩
theorem RDs.drop : ∀ {ds : List D} {vs : List V} (n : Nat), RDs K H ds vs → RDs K H (ds.drop n) (vs.drop n)
  | _, _, 0, h => h
  | [], _, n + 1, h => by rw [show _ = [] from h]; rfl
  | _ :: _, _, n + 1, ⟨_, _, h1, _, h3⟩ => by subst h1; exact RDs.drop n h3
theorem RDs.take : ∀ {ds : List D} {vs : List V} (n : Nat), RDs K H ds vs → RDs K H (ds.take n) (vs.take n)
  | _, _, 0, h => by simp [RDs]
  | [], _, n + 1, h => by rw [show _ = [] from h]; rfl
  | _ :: _, _, n + 1, ⟨v, r, h1, h2, h3⟩ => by subst h1; exact ⟨v, _, rfl, h2, RDs.take n h3⟩
theorem RDs.set : ∀ {ds : List D} {vs : List V} (n : Nat) {d : D} {v : V}, RD K H d v → RDs K H ds vs → RDs K H (ds.set n d) (vs.set n v)
  | [], _, n, _, _, _, h => by rw [show _ = [] from h]; simp [RDs]
  | _ :: _, _, 0, _, _, hd, ⟨v, r, h1, h2, h3⟩ => by subst h1; exact ⟨_, _, rfl, hd, h3⟩
  | _ :: _, _, n + 1, _, _, hd, ⟨v, r, h1, h2, h3⟩ => by subst h1; exact ⟨_, _, rfl, h2, RDs.set n hd h3⟩
theorem RDs.eraseIdx : ∀ {ds : List D} {vs : List V} (n : Nat), RDs K H ds vs → RDs K H (ds.eraseIdx n) (vs.eraseIdx n)
  | [], _, n, h => by rw [show _ = [] from h]; simp [RDs]
  | _ :: _, _, 0, ⟨v, r, h1, h2, h3⟩ => by subst h1; exact h3
  | _ :: _, _, n + 1, ⟨v, r, h1, h2, h3⟩ => by subst h1; exact ⟨_, _, rfl, h2, RDs.eraseIdx n h3⟩
theorem RDs.dropLast {ds : List D} {vs : List V} (h : RDs K H ds vs) : RDs K H ds.dropLast vs.dropLast := by
  rw [List.dropLast_eq_take, List.dropLast_eq_take, h.length]
  exact h.take _
theorem RDs.reverse : ∀ {ds : List D} {vs : List V}, RDs K H ds vs → RDs K H ds.reverse vs.reverse
  | [], _, h => by rw [show _ = [] from h]; rfl
  | _ :: _, _, ⟨v, r, h1, h2, h3⟩ => by
    subst h1
    rw [List.reverse_cons, List.reverse_cons]
    exact RDs.append (RDs.reverse h3) (RDs.one h2)
theorem RDs.ints : ∀ ns : List Int, RDs K H (ns.map D.int) (ns.map V.int)
  | [] => rfl
  | n :: r => ⟨.int n, _, rfl, rfl, RDs.ints r⟩
/-- an abstract heap that only grew -/
def Up (H H' : Hp) : Prop := ∀ a o, H a = some o → H' a = some o
theorem Up.refl (H : Hp) : Up H H := fun _ _ h => h
theorem Up.new {H : Hp} {p : Addr} {o : HO} (h : H p = none) : Up H (upd H p o) := fun a u e => by rw [upd_ne (ne_of_none e h)]; exact e
theorem Rd.mono {a : Addr} {u : HO} (e : Up H H') (h : Rd H a u) : Rd H' a u := by
  rcases h with h | ⟨o, h⟩
  · exact .inl (e _ _ h)
  · exact .inr ⟨o, e _ _ h⟩
theorem Up.ext (e : Up H H') : Ext K H H' := fun a vs h => by
  rcases h with h | h
  · exact .inl (Rd.mono e h)
  · exact .inr h
/-- a mutable thing is written -/
theorem ext_mut {p : Addr} {o o' : HO} (h : H p = some o) (hn : ∀ xs, o ≠ .tup xs) (hf : ∀ b u, o ≠ .frz b u) : Ext K H (upd H p o') := fun a vs q => by
  rcases q with (q | ⟨b, q⟩) | q
  · have : a ≠ p := fun e => by subst e; rw [h] at q; exact hn _ (Option.some.inj q)
    exact .inl (.inl (by rw [upd_ne this]; exact q))
  · have : a ≠ p := fun e => by subst e; rw [h] at q; exact hf _ _ (Option.some.inj q)
    exact .inl (.inr ⟨b, by rw [upd_ne this]; exact q⟩)
  · exact .inr q
end

/-! ### the store and the slots -/
section
variable (K : PySem.W.Frag)
def keyD : D → Option Key
  | .int i => some (.inl i)
  | .str s => some (.inr (sOf s))
  | _ => none
def RKv (H : Hp) : List (D × D) → List (Key × V) → Prop
  | [], l => l = []
  | (k, d) :: r, l => ∃ k' v r', l = (k', v) :: r' ∧ keyD k = some k' ∧ RD K H d v ∧ RKv H r r'
def SqF (H : Hp) (a : Addr) (vs : List V) : Prop :=
  (∃ o, H a = some (.frz o (.lst vs))) ∨ ∃ (o : Obj) (its : Array Value) (n : Nat), K.lookup a = some o ∧ o.cls = .type "list" ∧ o.dict = none ∧ o.data = .seq its n ∧ its.size ≤ sizeLine ∧ Vals vs its.toList
def RC (H : Hp) (a : Addr) : Cell → Prop
  | .lst ds => ∃ vs, H a = some (.lst vs) ∧ RDs K H ds vs
  | .frz ds => ∃ vs, SqF K H a vs ∧ RDs K H ds vs
  | .dct kvs => ∃ l, H a = some (.dK l) ∧ RKv K H kvs l
def Cell.mut : Cell → Bool
  | .frz _ => false
  | _ => true
structure RS (H : Hp) (A : List Addr) (S : Store) : Prop where
  len : A.length = S.length
  cell : ∀ (n : Nat) (a : Addr) (c : Cell), A[n]? = some a → S[n]? = some c → RC K H a c
  inj : ∀ (n m : Nat) (a : Addr) (c c' : Cell), A[n]? = some a → A[m]? = some a → S[n]? = some c → S[m]? = some c' → c.mut = true → c'.mut = true → n = m
def RV (H : Hp) (A : List Addr) : Vl → V → Prop
  | .d x, v => RD K H x v
  | .l n, v => ∃ a, A[n]? = some a ∧ v = .ref a
def RVs (H : Hp) (A : List Addr) : List Vl → List V → Prop
  | [], vs => vs = []
  | d :: ds, vs => ∃ v r, vs = v :: r ∧ RV K H A d v ∧ RVs H A ds r
structure RE (H : Hp) (A : List Addr) (ρ : Env) (σ : L2.St) : Prop where
  len : ρ.length = σ.length
  get : ∀ (i : Nat) (v : Vl), ρ[i]? = some (some v) → ∃ x, σ[i]? = some (some x) ∧ RV K H A v x
end
section
variable {K : PySem.W.Frag} {H H' H1 : Hp} {A A' : List Addr} {S S' : Store} {ρ : Env} {σ : L2.St}
theorem pre_get {A A' : List Addr} (p : A <+: A') {n : Nat} {a : Addr} (h : A[n]? = some a) : A'[n]? = some a := by
  obtain ⟨B, rfl⟩ := p
  have := (List.getElem?_eq_some_iff.mp h).1
  rw [List.getElem?_append_left this]; exact h
theorem RV.up (e : Ext K H H') (p : A <+: A') : ∀ {v : Vl} {x : V}, RV K H A v x → RV K H' A' v x
  | .d d, _, h => RD.up e d _ h
  | .l n, _, ⟨a, h1, h2⟩ => ⟨a, pre_get p h1, h2⟩
theorem RVs.up (e : Ext K H H') (p : A <+: A') : ∀ {vs : List Vl} {xs : List V}, RVs K H A vs xs → RVs K H' A' vs xs
  | [], _, h => h
  | _ :: _, _, ⟨v, r, h1, h2, h3⟩ => ⟨v, r, h1, RV.up e p h2, RVs.up e p h3⟩
theorem RVs.length : ∀ {vs : List Vl} {xs : List V}, RVs K H A vs xs → xs.length = vs.length
  | [], _, h => by rw [show _ = [] from h]; rfl
  | _ :: _, _, ⟨v, r, h1, _, h3⟩ => by subst h1; simp [RVs.length h3]
theorem RVs.append : ∀ {ds es : List Vl} {vs us : List V}, RVs K H A ds vs → RVs K H A es us → RVs K H A (ds ++ es) (vs ++ us)
  | [], _, _, _, h, h' => by rw [show _ = [] from h]; exact h'
  | _ :: _, _, _, _, ⟨v, r, h1, h2, h3⟩, h' => by subst h1; exact ⟨v, _, rfl, h2, RVs.append h3 h'⟩
theorem RVs.get : ∀ {ds : List Vl} {vs : List V} {i : Nat} {d : Vl}, RVs K H A ds vs → ds[i]? = some d → ∃ v, vs[i]? = some v ∧ RV K H A d v
  | [], _, _, _, _, e => by simp at e
  | _ :: _, _, 0, d, ⟨v, r, h1, h2, _⟩, e => by subst h1; simp at e; subst e; exact ⟨v, rfl, h2⟩
  | _ :: _, _, i + 1, d, ⟨v, r, h1, _, h3⟩, e => by
    subst h1
    obtain ⟨v', e1, e2⟩ := RVs.get (i := i) h3 (by simpa using e)
    exact ⟨v', by simpa using e1, e2⟩
theorem RE.up (e : Ext K H H') (p : A <+: A') (r : RE K H A ρ σ) : RE K H' A' ρ σ :=
  ⟨r.len, fun i v h => let ⟨x, h1, h2⟩ := r.get i v h; ⟨x, h1, RV.up e p h2⟩⟩
theorem RE.set (r : RE K H A ρ σ) (i : Nat) {v : Vl} {x : V} (h : RV K H A v x) : RE K H A (ρ.set i (some v)) (σ.set i (some x)) := by
  refine ⟨by simp [r.len], fun j u hj => ?_⟩
  by_cases e : i = j
  · subst e
    by_cases hl : i < ρ.length
    · rw [List.getElem?_set_self hl] at hj
      cases hj
      exact ⟨x, List.getElem?_set_self (by rw [← r.len]; exact hl), h⟩
    · rw [List.set_eq_of_length_le (by omega)] at hj
      have := (List.getElem?_eq_some_iff.mp hj).1
      omega
  · rw [List.getElem?_set_ne e] at hj
    obtain ⟨y, h1, h2⟩ := r.get j u hj
    exact ⟨y, by rw [List.getElem?_set_ne e]; exact h1, h2⟩
theorem RE.unset (r : RE K H A ρ σ) (i : Nat) : RE K H A (ρ.set i none) (σ.set i none) := by
  refine ⟨by simp [r.len], fun j u hj => ?_⟩
  by_cases e : i = j
  · subst e
    by_cases hl : i < ρ.length
    · rw [List.getElem?_set_self hl] at hj
      cases hj
    · rw [List.set_eq_of_length_le (by omega)] at hj
      have := (List.getElem?_eq_some_iff.mp hj).1
      omega
  · rw [List.getElem?_set_ne e] at hj
    obtain ⟨y, h1, h2⟩ := r.get j u hj
    exact ⟨y, by rw [List.getElem?_set_ne e]; exact h1, h2⟩
theorem RKv.up (e : Ext K H H') : ∀ {l : List (D × D)} {m : List (Key × V)}, RKv K H l m → RKv K H' l m
  | [], _, h => h
  | (_, d) :: _, _, ⟨k', v, r', h1, h2, h3, h4⟩ => ⟨k', v, r', h1, h2, RD.up e d _ h3, RKv.up e h4⟩
theorem SqF.up (e : Up H H') {a : Addr} {vs : List V} (h : SqF K H a vs) : SqF K H' a vs := by
  rcases h with ⟨o, h⟩ | h
  · exact .inl ⟨o, e _ _ h⟩
  · exact .inr h
theorem SqF.sq {a : Addr} {vs : List V} (h : SqF K H a vs) : SqL K H a vs := by
  rcases h with ⟨o, h⟩ | h
  · exact .inl (.inr ⟨o, h⟩)
  · exact .inr h
theorem RC.up (e : Up H H') {a : Addr} : ∀ {c : Cell}, RC K H a c → RC K H' a c
  | .lst _, ⟨vs, h1, h2⟩ => ⟨vs, e _ _ h1, RDs.up e.ext _ _ h2⟩
  | .frz _, ⟨vs, h1, h2⟩ => ⟨vs, h1.up e, RDs.up e.ext _ _ h2⟩
  | .dct _, ⟨l, h1, h2⟩ => ⟨l, e _ _ h1, RKv.up e.ext h2⟩
theorem RS.up (e : Up H H') (r : RS K H A S) : RS K H' A S := ⟨r.len, fun n a c h1 h2 => (r.cell n a c h1 h2).up e, r.inj⟩
theorem ho_lst {vs : List V} : (∀ xs, HO.lst vs ≠ .tup xs) ∧ ∀ b u, HO.lst vs ≠ .frz b u := ⟨fun _ z => HO.noConfusion z, fun _ _ z => HO.noConfusion z⟩
theorem ho_dK {l : List (Key × V)} : (∀ xs, HO.dK l ≠ .tup xs) ∧ ∀ b u, HO.dK l ≠ .frz b u := ⟨fun _ z => HO.noConfusion z, fun _ _ z => HO.noConfusion z⟩
theorem RC.there {a : Addr} {c : Cell} (h : RC K H a c) (hm : c.mut = true) : ∃ o, H a = some o ∧ (∀ xs, o ≠ .tup xs) ∧ ∀ b u, o ≠ .frz b u := by
  cases c with
  | lst _ => obtain ⟨vs, h1, _⟩ := h; exact ⟨_, h1, ho_lst⟩
  | dct _ => obtain ⟨l, h1, _⟩ := h; exact ⟨_, h1, ho_dK⟩
  | frz _ => cases hm
theorem RS.get (r : RS K H A S) {n : Nat} {c : Cell} (h : S[n]? = some c) : ∃ a, A[n]? = some a ∧ RC K H a c := by
  have hn := (List.getElem?_eq_some_iff.mp h).1
  have hn' : n < A.length := by rw [r.len]; exact hn
  exact ⟨A[n], List.getElem?_eq_getElem hn', r.cell n _ c (List.getElem?_eq_getElem hn') h⟩
theorem RS.of (r : RS K H A S) {n : Nat} {a : Addr} (h : A[n]? = some a) : ∃ c, S[n]? = some c ∧ RC K H a c := by
  have hn := (List.getElem?_eq_some_iff.mp h).1
  have hn' : n < S.length := by rw [← r.len]; exact hn
  exact ⟨S[n], List.getElem?_eq_getElem hn', r.cell n a _ h (List.getElem?_eq_getElem hn')⟩
/-- a new cell -/
theorem RS.new (r : RS K H A S) {p : Addr} {o : HO} {c : Cell} (hp : H p = none) (hc : RC K (upd H p o) p c) : RS K (upd H p o) (A ++ [p]) (S ++ [c]) := by
  have u : Up H (upd H p o) := Up.new hp
  have key : ∀ (n : Nat) (a : Addr) (c' : Cell), A[n]? = some a → S[n]? = some c' → c'.mut = true → a ≠ p := fun n a c' h1 h2 hm e => by
    subst e
    obtain ⟨o', ho, _⟩ := RC.there (r.cell n a c' h1 h2) hm
    rw [hp] at ho; cases ho
  have sp : ∀ (n : Nat) (a : Addr) (c' : Cell), (A ++ [p])[n]? = some a → (S ++ [c])[n]? = some c' → (A[n]? = some a ∧ S[n]? = some c') ∨ (n = A.length ∧ a = p ∧ c' = c) := fun n a c' h1 h2 => by
    by_cases hn : n < A.length
    · rw [List.getElem?_append_left hn] at h1
      rw [List.getElem?_append_left (by rw [← r.len]; exact hn)] at h2
      exact .inl ⟨h1, h2⟩
    · have h3 := (List.getElem?_eq_some_iff.mp h1).1
      simp at h3
      have : n = A.length := by omega
      subst this
      simp at h1
      rw [r.len] at h2
      simp at h2
      exact .inr ⟨rfl, h1.symm, h2.symm⟩
  refine ⟨by simp [r.len], fun n a c' h1 h2 => ?_, fun n m a c1 c2 h1 h2 h3 h4 m1 m2 => ?_⟩
  · rcases sp n a c' h1 h2 with ⟨x, y⟩ | ⟨_, rfl, rfl⟩
    · exact (r.cell n a c' x y).up u
    · exact hc
  · rcases sp n a c1 h1 h3 with ⟨x, y⟩ | ⟨rfl, rfl, rfl⟩
    · rcases sp m a c2 h2 h4 with ⟨x', y'⟩ | ⟨rfl, rfl, rfl⟩
      · exact r.inj n m a c1 c2 x x' y y' m1 m2
      · exact absurd rfl (key n _ c1 x y m1)
    · rcases sp m _ c2 h2 h4 with ⟨x', y'⟩ | ⟨rfl, _, _⟩
      · exact absurd rfl (key m _ c2 x' y' m2)
      · rfl
/-- a cell is written -/
theorem RS.write (r : RS K H A S) {n : Nat} {a : Addr} {c c' : Cell} {o' : HO} (ha : A[n]? = some a) (hs : S[n]? = some c) (hm : c.mut = true) (hc : RC K (upd H a o') a c') (hm' : c'.mut = true) : Ext K H (upd H a o') ∧ RS K (upd H a o') A (S.set n c') := by
  obtain ⟨o, ho, nt, nf⟩ := RC.there (r.cell n a c ha hs) hm
  have e : Ext K H (upd H a o') := ext_mut ho nt nf
  have hn := (List.getElem?_eq_some_iff.mp hs).1
  have sp : ∀ (m : Nat) (u : Cell), (S.set n c')[m]? = some u → (m = n ∧ u = c') ∨ (m ≠ n ∧ S[m]? = some u) := fun m u h => by
    by_cases hmn : n = m
    · subst hmn
      rw [List.getElem?_set_self hn] at h
      exact .inl ⟨rfl, (Option.some.inj h).symm⟩
    · rw [List.getElem?_set_ne hmn] at h
      exact .inr ⟨fun z => hmn z.symm, h⟩
  refine ⟨e, by simp [r.len], fun m b u h1 h2 => ?_, fun i j b u1 u2 h1 h2 h3 h4 m1 m2 => ?_⟩
  · rcases sp m u h2 with ⟨rfl, rfl⟩ | ⟨hne, h2⟩
    · rw [ha] at h1; cases h1
      exact hc
    · have old := r.cell m b u h1 h2
      cases u with
      | lst ds =>
        obtain ⟨vs, q1, q2⟩ := old
        have : b ≠ a := fun z => by subst z; exact hne (r.inj m n b _ _ h1 ha h2 hs rfl hm)
        exact ⟨vs, by rw [upd_ne this]; exact q1, RDs.up e _ _ q2⟩
      | dct l =>
        obtain ⟨vs, q1, q2⟩ := old
        have : b ≠ a := fun z => by subst z; exact hne (r.inj m n b _ _ h1 ha h2 hs rfl hm)
        exact ⟨vs, by rw [upd_ne this]; exact q1, RKv.up e q2⟩
      | frz ds =>
        obtain ⟨vs, q1, q2⟩ := old
        refine ⟨vs, ?_, RDs.up e _ _ q2⟩
        rcases q1 with ⟨ob, q1⟩ | q1
        · have : b ≠ a := fun z => by subst z; rw [ho] at q1; exact nf _ _ (Option.some.inj q1)
          exact .inl ⟨ob, by rw [upd_ne this]; exact q1⟩
        · exact .inr q1
  · have im : ∀ (k : Nat) (u : Cell), (S.set n c')[k]? = some u → u.mut = true → ∃ u', S[k]? = some u' ∧ u'.mut = true := fun k u hk hmk => by
      rcases sp k u hk with ⟨rfl, rfl⟩ | ⟨_, hk⟩
      · exact ⟨c, hs, hm⟩
      · exact ⟨u, hk, hmk⟩
    obtain ⟨u1', g1, g1'⟩ := im i u1 h3 m1
    obtain ⟨u2', g2, g2'⟩ := im j u2 h4 m2
    exact r.inj i j b u1' u2' h1 h2 g1 g2 g1' g2'
/-- the store cut back -/
theorem RS.cut (r : RS K H A S) (n : Nat) : RS K H (A.take n) (S.take n) := by
  have g : ∀ {α : Type} (l : List α) (m : Nat) (x : α), (l.take n)[m]? = some x → l[m]? = some x := fun l m x h => by
    rw [List.getElem?_take] at h
    split at h
    · exact h
    · cases h
  exact ⟨by simp [r.len], fun m a c h1 h2 => r.cell m a c (g _ _ _ h1) (g _ _ _ h2), fun i j a c c' h1 h2 h3 h4 => r.inj i j a c c' (g _ _ _ h1) (g _ _ _ h2) (g _ _ _ h3) (g _ _ _ h4)⟩
/-- the store cut back, one later cell kept -/
theorem RS.cut1 (r : RS K H A S) {n k : Nat} {a : Addr} {c : Cell} (hk : n ≤ k) (ha : A[k]? = some a) (hc : S[k]? = some c) : RS K H (A.take n ++ [a]) (S.take n ++ [c]) := by
  have kl := (List.getElem?_eq_some_iff.mp ha).1
  have l1 : (A.take n).length = n := by rw [List.length_take]; omega
  have l2 : (S.take n).length = n := by rw [List.length_take, ← r.len]; omega
  have g : ∀ (m : Nat) (b : Addr) (u : Cell), (A.take n ++ [a])[m]? = some b → (S.take n ++ [c])[m]? = some u → ∃ m', A[m']? = some b ∧ S[m']? = some u ∧ ((m < n ∧ m' = m) ∨ (m = n ∧ m' = k)) := fun m b u h1 h2 => by
    by_cases hm : m < n
    · rw [List.getElem?_append_left (by omega), List.getElem?_take, if_pos hm] at h1
      rw [List.getElem?_append_left (by omega), List.getElem?_take, if_pos hm] at h2
      exact ⟨m, h1, h2, .inl ⟨hm, rfl⟩⟩
    · have h3 := (List.getElem?_eq_some_iff.mp h1).1
      rw [List.length_append, l1] at h3
      have : m = n := by simp at h3; omega
      subst this
      rw [List.getElem?_append_right (by omega), l1] at h1
      rw [List.getElem?_append_right (by omega), l2] at h2
      simp at h1 h2
      subst h1; subst h2
      exact ⟨k, ha, hc, .inr ⟨rfl, rfl⟩⟩
  refine ⟨by simp [l1, l2, r.len], fun m b u h1 h2 => ?_, fun i j b u1 u2 h1 h2 h3 h4 m1 m2 => ?_⟩
  · obtain ⟨m', x, y, _⟩ := g m b u h1 h2
    exact r.cell m' b u x y
  · obtain ⟨i', x, y, z⟩ := g i b u1 h1 h3
    obtain ⟨j', x', y', z'⟩ := g j b u2 h2 h4
    have e := r.inj i' j' b u1 u2 x x' y y' m1 m2
    omega
end
end DL
end

section
set_option Elab.async false
set_option linter.all false
set_option maxRecDepth 100000
set_option autoImplicit false
set_option maxHeartbeats 400000
namespace DL
open PySem L2 TL

/-! ### canonical readings -/
section
variable (K : PySem.W.Frag) (mg : Str → Option Value)
def REr (H : Hp) (e : Er) (cls : Value) (d : Option Addr) : Prop :=
  mg e.c = some cls ∧ ∀ f x, e.fs.lookup f = some x → ∃ dd fs v, d = some dd ∧ H dd = some (.xd fs) ∧ fs.lookup f = some v ∧ RD K H x v
def Fin {α β : Type} (R : Hp → List Addr → α → β → Prop) (W : WX) (σ : L2.St) (A : List Addr) (H : Hp) (r : Res α) (Q : β → Hp → Prop) : Prop :=
  match r with
  | .ok a S' => ∀ A' H' b, A <+: A' → Ext K H H' → RS K H' A' S' → R H' A' a b → Q b H'
  | .er e S' => ∀ A' H' cls d, A <+: A' → Ext K H H' → RS K H' A' S' → REr K mg H' e cls d → W cls d σ H'
  | .bad => False
def tM {α β : Type} (R : Hp → List Addr → α → β → Prop) (W : WX) (m : Env → Store → Res α) : L2.St → Hp → (β → Hp → Prop) → Prop :=
  fun σ H Q => ∃ A ρ S, RE K H A ρ σ ∧ RS K H A S ∧ Fin K mg R W σ A H (m ρ S) Q
def RB : Hp → List Addr → Bool → Bool → Prop := fun _ _ a b => a = b
abbrev tE (W : WX) (m : DE) : TE := tM K mg (RV K) W m
abbrev tT (W : WX) (m : DT) : TT := tM K mg RB W m
abbrev tAr (W : WX) (m : DA) : TA := tM K mg (RVs K) W m
def FinS (W : WX) (A : List Addr) (H : Hp) (o : Out) (D : Ends) : Prop :=
  match o with
  | .nx ρ' S' => ∀ A' H' σ', A <+: A' → Ext K H H' → RS K H' A' S' → RE K H' A' ρ' σ' → D.nx σ' H'
  | .rt v S' => ∀ A' H' x, A <+: A' → Ext K H H' → RS K H' A' S' → RV K H' A' v x → D.rt x H'
  | .bk ρ' S' => ∀ A' H' σ', A <+: A' → Ext K H H' → RS K H' A' S' → RE K H' A' ρ' σ' → D.bk σ' H'
  | .ct ρ' S' => ∀ A' H' σ', A <+: A' → Ext K H H' → RS K H' A' S' → RE K H' A' ρ' σ' → D.ct σ' H'
  | .er e ρ' S' => ∀ A' H' σ' cls d, A <+: A' → Ext K H H' → RS K H' A' S' → RE K H' A' ρ' σ' → REr K mg H' e cls d → W cls d σ' H'
  | .bad => False
def tS (W : WX) (m : DS) : TS := fun D σ H => ∃ A ρ S, RE K H A ρ σ ∧ RS K H A S ∧ FinS K mg W A H (m ρ S) D
def tG (g : DG) : TG := fun x σ H Q => ∃ A ρ v, RE K H A ρ σ ∧ RV K H A v x ∧ ∃ ρ', g v ρ = some ρ' ∧ ∀ σ', RE K H A ρ' σ' → Q σ' H
end
section
variable {K : PySem.W.Frag} {mg : Str → Option Value} {α β γ δ : Type} {R : Hp → List Addr → α → β → Prop} {R' : Hp → List Addr → γ → δ → Prop} {W : WX} {σ : L2.St} {A A1 : List Addr} {H H1 : Hp} {S S1 : Store} {ρ : Env}
theorem Fin.up {r : Res α} {Q : β → Hp → Prop} (p : A <+: A1) (e : Ext K H H1) (h : Fin K mg R W σ A H r Q) : Fin K mg R W σ A1 H1 r Q := by
  cases r with
  | ok a S' => exact fun A' H' b p' e' => h A' H' b (p.trans p') (e.trans e')
  | er x S' => exact fun A' H' c d p' e' => h A' H' c d (p.trans p') (e.trans e')
  | bad => exact h
theorem FinS.up {o : Out} {D : Ends} (p : A <+: A1) (e : Ext K H H1) (h : FinS K mg W A H o D) : FinS K mg W A1 H1 o D := by
  cases o with
  | nx _ _ => exact fun A' H' b p' e' => h A' H' b (p.trans p') (e.trans e')
  | bk _ _ => exact fun A' H' b p' e' => h A' H' b (p.trans p') (e.trans e')
  | ct _ _ => exact fun A' H' b p' e' => h A' H' b (p.trans p') (e.trans e')
  | rt _ _ => exact fun A' H' b p' e' => h A' H' b (p.trans p') (e.trans e')
  | er _ _ _ => exact fun A' H' σ' c d p' e' => h A' H' σ' c d (p.trans p') (e.trans e')
  | bad => exact h
theorem Fin.now {a : α} {b : β} {Q : β → Hp → Prop} (h : Fin K mg R W σ A H (.ok a S) Q) (r : RS K H A S) (q : R H A a b) : Q b H := h A H b (List.prefix_refl A) Ext.refl r q
theorem tM_bind {m : Env → Store → Res α} {f : α → Store → Res γ} {Q : δ → Hp → Prop} (re : RE K H A ρ σ) (rs : RS K H A S) (h : Fin K mg R' W σ A H ((m ρ S).bind f) Q) :
    tM K mg R W m σ H (fun b H1 => ∃ A1 S1 a, A <+: A1 ∧ Ext K H H1 ∧ RE K H1 A1 ρ σ ∧ RS K H1 A1 S1 ∧ R H1 A1 a b ∧ Fin K mg R' W σ A1 H1 (f a S1) Q) := by
  refine ⟨A, ρ, S, re, rs, ?_⟩
  cases e : m ρ S with
  | ok a S' =>
    rw [e] at h
    exact fun A' H' b p x r q => ⟨A', S', a, p, x, re.up x p, r, q, Fin.up p x h⟩
  | er x S' => rw [e] at h; exact h
  | bad => rw [e] at h; exact h
/-- the same into a statement's end -/
def bindS (r : Res α) (ρ : Env) (f : α → Store → Out) : Out :=
  match r with
  | .ok a S => f a S
  | .er e S => .er e ρ S
  | .bad => .bad
theorem tM_bindS {m : Env → Store → Res α} {f : α → Store → Out} {D : Ends} (re : RE K H A ρ σ) (rs : RS K H A S) (h : FinS K mg W A H (bindS (m ρ S) ρ f) D) :
    tM K mg R W m σ H (fun b H1 => ∃ A1 S1 a, A <+: A1 ∧ Ext K H H1 ∧ RE K H1 A1 ρ σ ∧ RS K H1 A1 S1 ∧ R H1 A1 a b ∧ FinS K mg W A1 H1 (f a S1) D) := by
  refine ⟨A, ρ, S, re, rs, ?_⟩
  cases e : m ρ S with
  | ok a S' =>
    rw [e] at h
    exact fun A' H' b p x r q => ⟨A', S', a, p, x, re.up x p, r, q, FinS.up p x h⟩
  | er x S' => rw [e] at h; exact fun A' H' c d p x' r q => h A' H' σ c d p x' r (re.up x' p) q
  | bad => rw [e] at h; exact h
theorem tM.mono {m : Env → Store → Res α} {Q Q' : β → Hp → Prop} (h : tM K mg R W m σ H Q) (i : ∀ b H, Q b H → Q' b H) : tM K mg R W m σ H Q' := by
  obtain ⟨A, ρ, S, re, rs, h⟩ := h
  refine ⟨A, ρ, S, re, rs, ?_⟩
  cases e : m ρ S with
  | ok a S' => rw [e] at h; exact fun A' H' b p x r q => i _ _ (h A' H' b p x r q)
  | er x S' => rw [e] at h; exact h
  | bad => rw [e] at h; exact h
end

/-! ### weaker readings -/
theorem PE.weak {X : Cx} {e : Expr} {t t' : TE} (h : PE X e t) (i : ∀ σ H Q, t' σ H Q → t σ H Q) : PE X e t' := ⟨fun pins s σ H Q I q => h.run pins s σ H Q I (i _ _ _ q)⟩
theorem PT.weak {X : Cx} {e : Expr} {t t' : TT} (h : PT X e t) (i : ∀ σ H Q, t' σ H Q → t σ H Q) : PT X e t' := ⟨fun pins s σ H Q I q => h.run pins s σ H Q I (i _ _ _ q)⟩
theorem PW.weak {X : Cx} {e : Expr} {t t' : TT} (h : PW X e t) (i : ∀ σ H Q, t' σ H Q → t σ H Q) : PW X e t' := ⟨fun w pins s σ H Q I q => h.run w pins s σ H Q I (i _ _ _ q)⟩
theorem PA.weak {X : Cx} {e : List Expr} {t t' : TA} (h : PA X e t) (i : ∀ σ H Q, t' σ H Q → t σ H Q) : PA X e t' := ⟨fun p pins s σ H Q I q => h.run p pins s σ H Q I (i _ _ _ q)⟩
theorem PS.weak {X : Cx} {e : Stmt} {t t' : TS} (h : PS X e t) (i : ∀ D σ H, t' D σ H → t D σ H) : PS X e t' := ⟨fun pins s σ H D I q => h.run pins s σ H D I (i _ _ _ q)⟩
theorem PSs.weak {X : Cx} {e : List Stmt} {t t' : TS} (h : PSs X e t) (i : ∀ D σ H, t' D σ H → t D σ H) : PSs X e t' := ⟨fun pins s σ H D I q => h.run pins s σ H D I (i _ _ _ q)⟩
theorem PG.weak {X : Cx} {e : Expr} {t t' : TG} (h : PG X e t) (i : ∀ v σ H Q, t' v σ H Q → t v σ H Q) : PG X e t' := ⟨fun pins s σ H v u Q I r q => h.run pins s σ H v u Q I r (i _ _ _ _ q)⟩
theorem PTs.weak {X : Cx} {e : List Expr} {t t' : TT} (h : PTs X e t) (i : ∀ σ H Q, t' σ H Q → t σ H Q) : PTs X e t' := ⟨fun pins s σ H Q I q => h.run pins s σ H Q I (i _ _ _ q)⟩

abbrev SE (X : Cx) (W : WX) (e : Expr) (m : DE) : Prop := PE X e (tE X.K X.mg W m)
abbrev ST (X : Cx) (W : WX) (e : Expr) (m : DT) : Prop := PT X e (tT X.K X.mg W m)
abbrev SA (X : Cx) (W : WX) (es : List Expr) (m : DA) : Prop := PA X es (tAr X.K X.mg W m)
abbrev SS (X : Cx) (W : WX) (st : Stmt) (m : DS) : Prop := PS X st (tS X.K X.mg W m)
abbrev SSs (X : Cx) (W : WX) (st : List Stmt) (m : DS) : Prop := PSs X st (tS X.K X.mg W m)
abbrev SG (X : Cx) (tg : Expr) (g : DG) : Prop := PG X tg (tG X.K g)

/-! ### atoms -/
def dVar (i : Nat) : DE := fun ρ S => match ρ[i]? with
  | some (some v) => .ok v S
  | _ => .bad
def dC (x : D) : DE := fun _ S => .ok (.d x) S
section
variable {X : Cx} {W : WX} {pos : Pos}
theorem s_var (i : Nat) {x : Str} (h : PE X (.Name x pos) (tVar i)) : SE X W (.Name x pos) (dVar i) := by
  refine PE.weak h fun σ H Q ⟨A, ρ, S, re, rs, h⟩ => ?_
  unfold dVar at h
  split at h
  · rename_i v e
    obtain ⟨x, e1, r⟩ := re.get i v e
    exact ⟨x, e1, h.now rs r⟩
  · exact h.elim
theorem s_c {e : Expr} {v : V} (x : D) (h : PE X e (tC v)) (r : ∀ H, RD X.K H x v) : SE X W e (dC x) :=
  PE.weak h fun σ H Q ⟨A, ρ, S, re, rs, h⟩ => h.now (b := v) rs (r H)
theorem s_int {i : Int} {j : Nat} : SE X W (.Constant (.int i) j pos) (dC (.int i)) := s_c _ pe_int fun _ => rfl
theorem s_bl {b : Bool} {j : Nat} : SE X W (.Constant (.bool b) j pos) (dC (.bl b)) := s_c _ pe_bl fun _ => rfl
theorem s_non {j : Nat} : SE X W (.Constant .none j pos) (dC .non) := s_c _ pe_non fun _ => rfl
theorem s_str {x : Str} {j : Nat} (s : List Nat) (h : tl x = s) : SE X W (.Constant (.str x) j pos) (dC (.str s)) := s_c _ pe_str fun _ => by
  show V.str x = V.str (sOf s)
  rw [← h, sOf_of]
end

/-! ### two operands -/
def dBin (g : Vl → Vl → Store → Res Vl) (ma mb : DE) : DE := fun ρ S => (ma ρ S).bind fun v S1 => (mb ρ S1).bind fun u S2 => g v u S2
def dUn (g : Vl → Store → Res Vl) (ma : DE) : DE := fun ρ S => (ma ρ S).bind fun v S1 => g v S1
/-- g tells the operator r -/
def OpD (K : PySem.W.Frag) (r : R2) (g : Vl → Vl → Store → Res Vl) : Prop :=
  ∀ (mg : Str → Option Value) (W : WX) (σ : L2.St) (A : List Addr) (H : Hp) (S : Store) (v u : Vl) (x y : V) (Q : VK), RS K H A S → RV K H A v x → RV K H A u y → Fin K mg (RV K) W σ A H (g v u S) Q → r x y H Q
def UnD (K : PySem.W.Frag) (r : V → Hp → VK → Prop) (g : Vl → Store → Res Vl) : Prop :=
  ∀ (mg : Str → Option Value) (W : WX) (σ : L2.St) (A : List Addr) (H : Hp) (S : Store) (v : Vl) (x : V) (Q : VK), RS K H A S → RV K H A v x → Fin K mg (RV K) W σ A H (g v S) Q → r x H Q
section
variable {X : Cx} {W : WX} {pos : Pos} {a b : Expr} {ma mb : DE}
theorem w_op {r : R2} {g : Vl → Vl → Store → Res Vl} (hr : OpD X.K r g) {σ : L2.St} {H : Hp} {Q : VK} (h : tE X.K X.mg W (dBin g ma mb) σ H Q) : tOp r (tE X.K X.mg W ma) (tE X.K X.mg W mb) σ H Q := by
  obtain ⟨A, ρ, S, re, rs, h⟩ := h
  refine tM.mono (tM_bind re rs h) fun x H1 ⟨A1, S1, v, p1, e1, re1, rs1, rv1, h1⟩ => ?_
  refine tM.mono (tM_bind re1 rs1 h1) fun y H2 ⟨A2, S2, u, p2, e2, re2, rs2, rv2, h2⟩ => ?_
  exact hr X.mg W σ A2 H2 S2 v u x y Q rs2 (rv1.up e2 p2) rv2 h2
theorem w_un {r : V → Hp → VK → Prop} {g : Vl → Store → Res Vl} (hr : UnD X.K r g) {σ : L2.St} {H : Hp} {Q : VK} (h : tE X.K X.mg W (dUn g ma) σ H Q) : tUn r (tE X.K X.mg W ma) σ H Q := by
  obtain ⟨A, ρ, S, re, rs, h⟩ := h
  refine tM.mono (tM_bind re rs h) fun x H1 ⟨A1, S1, v, p1, e1, re1, rs1, rv1, h1⟩ => ?_
  exact hr X.mg W σ A1 H1 S1 v x Q rs1 rv1 h1
theorem s_bin {op : Operator} {r : R2} {g : Vl → Vl → Store → Res Vl} (ho : OpR X (binaryOp op) r) (hr : OpD X.K r g) (ha : SE X W a ma) (hb : SE X W b mb) : SE X W (.BinOp a op b pos) (dBin g ma mb) := PE.weak (pe_op ho ha hb) fun _ _ _ => w_op hr
theorem s_uno {op : UnaryOp} {r : V → Hp → VK → Prop} {g : Vl → Store → Res Vl} (ho : UnR X (unaryOp op) r) (hr : UnD X.K r g) (ha : SE X W a ma) : SE X W (.UnaryOp op a pos) (dUn g ma) := PE.weak (pe_un ho ha) fun _ _ _ => w_un hr
theorem s_cmp {op : CmpOp} {r : R2} {g : Vl → Vl → Store → Res Vl} (ho : OpR X (compareOp op) r) (hr : OpD X.K r g) (hm : behindInMarks op b = false) (ha : SE X W a ma) (hb : SE X W b mb) : SE X W (.Compare a [op] [b] pos) (dBin g ma mb) := PE.weak (pe_cmpR ho ha hb hm) fun _ _ _ => w_op hr
theorem s_ix {r : R2} {g : Vl → Vl → Store → Res Vl} (ho : IxR X r) (hr : OpD X.K r g) (hs : PlainIx b) (ha : SE X W a ma) (hb : SE X W b mb) : SE X W (.Subscript a b pos) (dBin g ma mb) := PE.weak (pe_ix ho ha hb hs) fun _ _ _ => w_op hr
end

/-! ### tests -/
def boolOf : Vl → Store → Res Bool
  | .d (.bl b), S => .ok b S
  | _, _ => .bad
def dBT (m : DE) : DT := fun ρ S => (m ρ S).bind boolOf
def truthyV : Vl → Store → Res Bool
  | .d .non, S => .ok false S
  | .d (.bl b), S => .ok b S
  | .d (.int i), S => .ok (i != 0) S
  | .d (.str s), S => if s.length ≤ sizeLine then .ok (!s.isEmpty) S else .bad
  | .d (.tup ds), S => .ok (!ds.isEmpty) S
  | .l n, S => match S[n]? with
    | some (.lst ds) => .ok (!ds.isEmpty) S
    | some (.frz ds) => .ok (!ds.isEmpty) S
    | some (.dct l) => .ok (!l.isEmpty) S
    | none => .bad
def dTr (m : DE) : DT := fun ρ S => (m ρ S).bind truthyV
def dNot (m : DT) : DT := fun ρ S => (m ρ S).bind fun b S => .ok (!b) S
def dAnd (m k : DT) : DT := fun ρ S => (m ρ S).bind fun b S1 => if b = true then k ρ S1 else .ok false S1
def dOr (m k : DT) : DT := fun ρ S => (m ρ S).bind fun b S1 => if b = true then .ok true S1 else k ρ S1
def dTV (m : DT) : DE := fun ρ S => (m ρ S).bind fun b S => .ok (.d (.bl b)) S
theorem empty_len {α β : Type} {l : List α} {m : List β} (h : l.length = m.length) : l.isEmpty = m.isEmpty := by
  cases l <;> cases m <;> simp_all
theorem RKv.length {K : PySem.W.Frag} {H : Hp} : ∀ {l : List (D × D)} {m : List (Key × V)}, RKv K H l m → m.length = l.length
  | [], _, h => by rw [show _ = [] from h]; rfl
  | _ :: _, _, ⟨_, _, r', h1, _, _, h4⟩ => by subst h1; simp [RKv.length h4]
section
variable {X : Cx} {W : WX} {pos : Pos} {a b c : Expr} {ma mb : DE} {mt mu : DT} {rest : List Expr}
theorem w_bt {σ : L2.St} {H : Hp} {Q : Bool → Hp → Prop} (h : tT X.K X.mg W (dBT ma) σ H Q) : tE X.K X.mg W ma σ H fun x H1 => ∃ k, x = .bl k ∧ Q k H1 := by
  obtain ⟨A, ρ, S, re, rs, h⟩ := h
  refine tM.mono (tM_bind re rs h) fun x H1 ⟨A1, S1, v, p1, e1, re1, rs1, rv1, h1⟩ => ?_
  unfold boolOf at h1
  split at h1
  · rename_i k
    exact ⟨k, rv1, h1.now (b := k) rs1 rfl⟩
  · exact h1.elim
theorem st_cmp {op : CmpOp} {r : R2} {g : Vl → Vl → Store → Res Vl} (ho : OpR X (compareOp op) r) (hr : OpD X.K r g) (hm : behindInMarks op b = false) (ha : SE X W a ma) (hb : SE X W b mb) : ST X W (.Compare a [op] [b] pos) (dBT (dBin g ma mb)) :=
  PT.weak (pt_cmpR ho ha hb hm) fun _ _ _ h => w_op hr (w_bt h)
theorem st_val (he : ∀ whole, isTrue a X.env whole = (do let v ← whole; standAt a.pos; holding [v] (PySem.truthy v))) (ha : SE X W a ma) : ST X W a (dBT ma) := PT.weak (pt_val ha he) fun _ _ _ h => w_bt h
theorem st_truth (he : ∀ whole, isTrue a X.env whole = (do let v ← whole; standAt a.pos; holding [v] (PySem.truthy v))) (ha : SE X W a ma) : ST X W a (dTr ma) := by
  refine PT.weak (pt_truth ha he) fun σ H Q ⟨A, ρ, S, re, rs, h⟩ => ?_
  refine tM.mono (tM_bind re rs h) fun x H1 ⟨A1, S1, v, p1, e1, re1, rs1, rv1, h1⟩ => ?_
  unfold truthyV at h1
  split at h1
  · obtain rfl : x = .non := rv1
    exact ⟨false, rfl, h1.now (b := false) rs1 rfl⟩
  · obtain rfl : x = .bl _ := rv1
    exact ⟨_, rfl, h1.now rs1 rfl⟩
  · obtain rfl : x = .int _ := rv1
    exact ⟨_, rfl, h1.now rs1 rfl⟩
  · rename_i s
    obtain rfl : x = .str (sOf s) := rv1
    split at h1
    · rename_i hz
      refine ⟨_, ⟨by rw [sOf_length]; exact hz, rfl⟩, ?_⟩
      have q := h1.now (b := !s.isEmpty) rs1 rfl
      rw [sOf_length]
      cases s with
      | nil => exact q
      | cons c r =>
        have : (((c :: r).length : Int) != 0) = true := by simp; omega
        rw [this]; exact q
    · exact h1.elim
  · rename_i ds
    obtain ⟨a, vs, rfl, h2, h3⟩ := rv1
    refine ⟨!vs.isEmpty, .inr (.inl ⟨vs, h2, rfl⟩), ?_⟩
    rw [empty_len h3.length]
    exact h1.now rs1 rfl
  · rename_i n
    obtain ⟨a, ha, rfl⟩ := rv1
    split at h1
    · rename_i ds e
      obtain ⟨vs, q1, q2⟩ := rs1.cell _ _ _ ha e
      refine ⟨!vs.isEmpty, .inl ⟨vs, SqL.of q1, rfl⟩, ?_⟩
      rw [empty_len q2.length]
      exact h1.now rs1 rfl
    · rename_i ds e
      obtain ⟨vs, q1, q2⟩ := rs1.cell _ _ _ ha e
      refine ⟨!vs.isEmpty, .inl ⟨vs, q1.sq, rfl⟩, ?_⟩
      rw [empty_len q2.length]
      exact h1.now rs1 rfl
    · rename_i l e
      obtain ⟨m, q1, q2⟩ := rs1.cell _ _ _ ha e
      refine ⟨!m.isEmpty, .inr (.inr ⟨m, q1, rfl⟩), ?_⟩
      rw [empty_len q2.length]
      exact h1.now rs1 rfl
    · exact h1.elim
theorem st_not (h : ST X W a mt) : ST X W (.UnaryOp .Not a pos) (dNot mt) := by
  refine PT.weak (pt_not h) fun σ H Q ⟨A, ρ, S, re, rs, h⟩ => ?_
  refine tM.mono (tM_bind re rs h) fun x H1 ⟨A1, S1, v, p1, e1, re1, rs1, rv1, h1⟩ => ?_
  obtain rfl : v = x := rv1
  exact h1.now rs1 rfl
theorem w_and {σ : L2.St} {H : Hp} {Q : Bool → Hp → Prop} (h : tT X.K X.mg W (dAnd mt mu) σ H Q) : tAnd (tT X.K X.mg W mt) (tT X.K X.mg W mu) σ H Q := by
  obtain ⟨A, ρ, S, re, rs, h⟩ := h
  refine tM.mono (tM_bind re rs h) fun x H1 ⟨A1, S1, v, p1, e1, re1, rs1, rv1, h1⟩ => ?_
  obtain rfl : v = x := rv1
  cases v with
  | true => exact ⟨A1, ρ, S1, re1, rs1, h1⟩
  | false => exact h1.now (b := false) rs1 rfl
theorem w_or {σ : L2.St} {H : Hp} {Q : Bool → Hp → Prop} (h : tT X.K X.mg W (dOr mt mu) σ H Q) : tOr (tT X.K X.mg W mt) (tT X.K X.mg W mu) σ H Q := by
  obtain ⟨A, ρ, S, re, rs, h⟩ := h
  refine tM.mono (tM_bind re rs h) fun x H1 ⟨A1, S1, v, p1, e1, re1, rs1, rv1, h1⟩ => ?_
  obtain rfl : v = x := rv1
  cases v with
  | true => exact h1.now (b := true) rs1 rfl
  | false => exact ⟨A1, ρ, S1, re1, rs1, h1⟩
theorem sw_and1 (h : ST X W a mt) : PW X (.BoolOp .And [a] pos) (tT X.K X.mg W mt) := pw_and1 h
theorem sw_or1 (h : ST X W a mt) : PW X (.BoolOp .Or [a] pos) (tT X.K X.mg W mt) := pw_or1 h
theorem sw_and (ha : ST X W a mt) (hb : PW X (.BoolOp .And (b :: rest) pos) (tT X.K X.mg W mu)) : PW X (.BoolOp .And (a :: b :: rest) pos) (tT X.K X.mg W (dAnd mt mu)) := PW.weak (pw_and ha hb) fun _ _ _ => w_and
theorem sw_or (ha : ST X W a mt) (hb : PW X (.BoolOp .Or (b :: rest) pos) (tT X.K X.mg W mu)) : PW X (.BoolOp .Or (a :: b :: rest) pos) (tT X.K X.mg W (dOr mt mu)) := PW.weak (pw_or ha hb) fun _ _ _ => w_or
theorem st_w {e : Expr} (h : PW X e (tT X.K X.mg W mt)) : ST X W e mt := h.pt
/-! and, or, not of bools as values -/
def dAndV (m k : DE) : DE := fun ρ S => (dBT m ρ S).bind fun b S1 => if b = true then k ρ S1 else .ok (.d (.bl false)) S1
def dOrV (m k : DE) : DE := fun ρ S => (dBT m ρ S).bind fun b S1 => if b = true then .ok (.d (.bl true)) S1 else k ρ S1
def dNotV (m : DE) : DE := fun ρ S => (dBT m ρ S).bind fun b S1 => .ok (.d (.bl (!b))) S1
theorem w_btv {γ δ : Type} {R' : Hp → List Addr → γ → δ → Prop} {σ : L2.St} {H : Hp} {A : List Addr} {ρ : Env} {S : Store} {f : Bool → Store → Res γ} {Q : δ → Hp → Prop} (re : RE X.K H A ρ σ) (rs : RS X.K H A S) (h : Fin X.K X.mg R' W σ A H ((dBT ma ρ S).bind f) Q) :
    tE X.K X.mg W ma σ H fun x H1 => ∃ c, x = .bl c ∧ ∃ A1 S1, A <+: A1 ∧ Ext X.K H H1 ∧ RE X.K H1 A1 ρ σ ∧ RS X.K H1 A1 S1 ∧ Fin X.K X.mg R' W σ A1 H1 (f c S1) Q := by
  have h' : Fin X.K X.mg R' W σ A H ((ma ρ S).bind fun v S1 => (boolOf v S1).bind f) Q := by
    unfold dBT at h
    cases e : ma ρ S with
    | ok v S' => rw [e] at h; exact h
    | er x S' => rw [e] at h; exact h
    | bad => rw [e] at h; exact h
  refine tM.mono (tM_bind re rs h') fun x H1 ⟨A1, S1, v, p1, e1, re1, rs1, rv1, h1⟩ => ?_
  unfold boolOf at h1
  split at h1
  · rename_i k
    exact ⟨k, rv1, A1, S1, p1, e1, re1, rs1, h1⟩
  · exact h1.elim
theorem s_one (op : BoolOp) (h : SE X W a ma) : SE X W (.BoolOp op [a] pos) ma := pe_one h
theorem s_and (ha : SE X W a ma) (hb : SE X W (.BoolOp .And (b :: rest) pos) mb) : SE X W (.BoolOp .And (a :: b :: rest) pos) (dAndV ma mb) := by
  refine PE.weak (pe_and ha hb) fun σ H Q ⟨A, ρ, S, re, rs, h⟩ => ?_
  refine tM.mono (w_btv re rs h) fun x H1 ⟨c, e, A1, S1, p1, e1, re1, rs1, h1⟩ => ⟨c, e, ?_⟩
  cases c with
  | true => exact ⟨A1, ρ, S1, re1, rs1, h1⟩
  | false => exact h1.now (b := V.bl false) rs1 rfl
theorem s_or (ha : SE X W a ma) (hb : SE X W (.BoolOp .Or (b :: rest) pos) mb) : SE X W (.BoolOp .Or (a :: b :: rest) pos) (dOrV ma mb) := by
  refine PE.weak (pe_or ha hb) fun σ H Q ⟨A, ρ, S, re, rs, h⟩ => ?_
  refine tM.mono (w_btv re rs h) fun x H1 ⟨c, e, A1, S1, p1, e1, re1, rs1, h1⟩ => ⟨c, e, ?_⟩
  cases c with
  | true => exact h1.now (b := V.bl true) rs1 rfl
  | false => exact ⟨A1, ρ, S1, re1, rs1, h1⟩
theorem s_not (ha : SE X W a ma) : SE X W (.UnaryOp .Not a pos) (dNotV ma) := by
  refine PE.weak (pe_not ha) fun σ H Q ⟨A, ρ, S, re, rs, h⟩ => ?_
  refine tM.mono (w_btv re rs h) fun x H1 ⟨c, e, A1, S1, p1, e1, re1, rs1, h1⟩ => ⟨c, e, ?_⟩
  exact h1.now (b := V.bl (!c)) rs1 rfl
/-! a if t else b -/
def dIfE (t : DT) (m k : DE) : DE := fun ρ S => (t ρ S).bind fun b S1 => if b = true then m ρ S1 else k ρ S1
theorem s_ifE (hc : ST X W c mt) (ha : SE X W a ma) (hb : SE X W b mb) : SE X W (.IfExp c a b pos) (dIfE mt ma mb) := by
  refine PE.weak (pe_ifExp hc ha hb) fun σ H Q ⟨A, ρ, S, re, rs, h⟩ => ?_
  refine tM.mono (tM_bind re rs h) fun x H1 ⟨A1, S1, v, p1, e1, re1, rs1, rv1, h1⟩ => ?_
  obtain rfl : v = x := rv1
  cases v with
  | true => exact ⟨A1, ρ, S1, re1, rs1, h1⟩
  | false => exact ⟨A1, ρ, S1, re1, rs1, h1⟩
/-! a < b < c -/
def dChain (g g' : Vl → Vl → Store → Res Vl) (ma mb mc : DE) : DE := fun ρ S => (ma ρ S).bind fun v S1 => (mb ρ S1).bind fun u S2 => ((g v u S2).bind boolOf).bind fun k S3 => if k = true then (mc ρ S3).bind fun z S4 => g' u z S4 else .ok (.d (.bl false)) S3
end

/-! ### argument lists -/
def dNil : DA := fun _ S => .ok [] S
def dCons (m : DE) (k : DA) : DA := fun ρ S => (m ρ S).bind fun v S1 => (k ρ S1).bind fun vs S2 => .ok (v :: vs) S2
section
variable {X : Cx} {W : WX} {e : Expr} {es : List Expr} {m : DE} {k : DA}
theorem sa_nil : SA X W [] dNil := PA.weak pa_nil fun σ H Q ⟨A, ρ, S, re, rs, h⟩ => h.now (b := []) rs rfl
theorem sa_cons (he : SE X W e m) (hs : SA X W es k) (h1 : starEach (e :: es) X.env = (false, eval e X.env) :: starEach es X.env := by rfl) : SA X W (e :: es) (dCons m k) := by
  refine PA.weak (pa_cons he hs h1) fun σ H Q ⟨A, ρ, S, re, rs, h⟩ => ?_
  refine tM.mono (tM_bind re rs h) fun x H1 ⟨A1, S1, v, p1, e1, re1, rs1, rv1, h1⟩ => ?_
  refine tM.mono (tM_bind re1 rs1 h1) fun y H2 ⟨A2, S2, u, p2, e2, re2, rs2, rv2, h2⟩ => ?_
  exact h2.now (b := x :: y) rs2 ⟨x, y, rfl, rv1.up e2 p2, rv2⟩
end

/-! ### the store given back -/
def gcR (n : Nat) : Res Vl → Res Vl
  | .ok (.d x) S => .ok (.d x) (S.take n)
  | .ok (.l k) S => if k < n then .ok (.l k) (S.take n) else match S[k]? with
    | some c => .ok (.l n) (S.take n ++ [c])
    | none => .bad
  | .er e S => .er e (S.take n)
  | .bad => .bad
def dGc (m : DE) : DE := fun ρ S => gcR S.length (m ρ S)
section
variable {K : PySem.W.Frag} {mg : Str → Option Value} {W : WX} {σ : L2.St} {A : List Addr} {H : Hp} {S : Store}
theorem pre_take {A A' : List Addr} (p : A <+: A') : A'.take A.length = A := by
  obtain ⟨B, rfl⟩ := p
  simp
theorem fin_gc {r : Res Vl} {Q : VK} (h : Fin K mg (RV K) W σ A H (gcR A.length r) Q) : Fin K mg (RV K) W σ A H r Q := by
  cases r with
  | bad => exact h
  | er e S' =>
    refine fun A' H' c d p x r q => h A H' c d (List.prefix_refl _) x ?_ q
    have := r.cut A.length
    rwa [pre_take p] at this
  | ok v S' =>
    refine fun A' H' b p x r q => ?_
    have cut := r.cut A.length
    rw [pre_take p] at cut
    cases v with
    | d y => exact h A H' b (List.prefix_refl _) x cut q
    | l k =>
      obtain ⟨a, ha, rfl⟩ := q
      simp only [gcR] at h
      split at h
      · rename_i hk
        refine h A H' _ (List.prefix_refl _) x cut ⟨a, ?_, rfl⟩
        rw [← pre_take p, List.getElem?_take, if_pos hk]; exact ha
      · rename_i hk
        obtain ⟨c, hc, _⟩ := r.of ha
        rw [hc] at h
        have c1 := r.cut1 (n := A.length) (by omega) ha hc
        rw [pre_take p] at c1
        exact h (A ++ [a]) H' _ (List.prefix_append _ _) x c1 ⟨a, by simp, rfl⟩
theorem s_gc {X : Cx} {W : WX} {e : Expr} {m : DE} (h : SE X W e m) : SE X W e (dGc m) := by
  refine PE.weak h fun σ H Q ⟨A, ρ, S, re, rs, h⟩ => ⟨A, ρ, S, re, rs, ?_⟩
  unfold dGc at h
  rw [← rs.len] at h
  exact fin_gc h
end
end DL
end

section
set_option Elab.async false
set_option linter.all false
set_option maxRecDepth 100000
set_option autoImplicit false
set_option maxHeartbeats 400000
namespace DL
open PySem L2 TL

/-! ### results -/
section
variable {K : PySem.W.Frag} {mg : Str → Option Value} {W : WX} {σ : L2.St} {A : List Addr} {H : Hp} {S : Store} {Q : VK}
theorem fin_v {x : D} {v : V} (h : Fin K mg (RV K) W σ A H (.ok (.d x) S) Q) (rs : RS K H A S) (r : RD K H x v) : Q v H := h.now rs r
theorem fin_tup {ds : List D} {vs : List V} {p : Addr} (h : Fin K mg (RV K) W σ A H (.ok (.d (.tup ds)) S) Q) (rs : RS K H A S) (r : RDs K H ds vs) (hp : H p = none) : Q (.ref p) (upd H p (.tup vs)) :=
  have u : Up H (upd H p (.tup vs)) := Up.new hp
  h A _ _ (List.prefix_refl _) u.ext (rs.up u) ⟨p, vs, rfl, SqT.of upd_same, RDs.up u.ext _ _ r⟩
theorem fin_lst {ds : List D} {vs : List V} {p : Addr} (h : Fin K mg (RV K) W σ A H (.ok (.l S.length) (S ++ [.lst ds])) Q) (rs : RS K H A S) (r : RDs K H ds vs) (hp : H p = none) : Q (.ref p) (upd H p (.lst vs)) :=
  have u : Up H (upd H p (.lst vs)) := Up.new hp
  h (A ++ [p]) _ _ (List.prefix_append _ _) u.ext (rs.new hp ⟨vs, upd_same, RDs.up u.ext _ _ r⟩) ⟨p, by rw [← rs.len]; simp, rfl⟩
theorem fin_set {n : Nat} {ds ds' : List D} {vs' : List V} {a : Addr} {v : Vl} {x : V} (h : Fin K mg (RV K) W σ A H (.ok v (S.set n (.lst ds'))) Q) (rs : RS K H A S) (ha : A[n]? = some a) (hs : S[n]? = some (.lst ds)) (r : RDs K H ds' vs') (q : RV K H A v x) : Q x (upd H a (.lst vs')) := by
  obtain ⟨vs, e, _⟩ := rs.cell _ _ _ ha hs
  have ex : Ext K H (upd H a (.lst vs')) := ext_mut e ho_lst.1 ho_lst.2
  obtain ⟨_, rs'⟩ := rs.write (o' := .lst vs') (c' := .lst ds') ha hs rfl ⟨vs', upd_same, RDs.up ex _ _ r⟩ rfl
  exact h A _ _ (List.prefix_refl _) ex rs' (q.up ex (List.prefix_refl _))
end
/-- what stands at n, to be read as a list -/
def lstAt (S : Store) (n : Nat) : Option (List D) := match S[n]? with
  | some (.lst ds) => some ds
  | some (.frz ds) => some ds
  | _ => none
theorem lstAt_sq {K : PySem.W.Frag} {H : Hp} {A : List Addr} {S : Store} {n : Nat} {a : Addr} {ds : List D} (rs : RS K H A S) (ha : A[n]? = some a) (h : lstAt S n = some ds) : ∃ vs, SqL K H a vs ∧ RDs K H ds vs := by
  unfold lstAt at h
  split at h
  · rename_i e; cases h; obtain ⟨vs, h1, h2⟩ := rs.cell _ _ _ ha e; exact ⟨vs, SqL.of h1, h2⟩
  · rename_i e; cases h; obtain ⟨vs, h1, h2⟩ := rs.cell _ _ _ ha e; exact ⟨vs, h1.sq, h2⟩
  · cases h

/-! ### arithmetic -/
def gII (C : Int → Int → Bool) (f : Int → Int → D) : Vl → Vl → Store → Res Vl
  | .d (.int i), .d (.int j), S => if C i j = true then .ok (.d (f i j)) S else .bad
  | _, _, _ => .bad
theorem od_II {K : PySem.W.Frag} {C : Int → Int → Bool} {P : Int → Int → Prop} {f : Int → Int → D} {g : Int → Int → V} (hP : ∀ i j, C i j = true → P i j) (hf : ∀ H i j, RD K H (f i j) (g i j)) : OpD K (rI P g) (gII C f) := by
  intro mg W σ A H S v u x y Q rs rv ru h
  unfold gII at h
  split at h
  · rename_i i j
    obtain rfl : x = .int i := rv
    obtain rfl : y = .int j := ru
    split at h
    · rename_i c
      exact ⟨i, j, rfl, rfl, hP i j c, fin_v h rs (hf H i j)⟩
    · exact h.elim
  · exact h.elim
theorem od_I0 {K : PySem.W.Frag} {f : Int → Int → D} {g : Int → Int → V} (hf : ∀ H i j, RD K H (f i j) (g i j)) : OpD K (rI0 g) (gII (fun _ _ => true) f) := by
  intro mg W σ A H S v u x y Q rs rv ru h
  unfold gII at h
  split at h
  · rename_i i j
    obtain rfl : x = .int i := rv
    obtain rfl : y = .int j := ru
    exact ⟨i, j, rfl, rfl, fin_v h rs (hf H i j)⟩
  · exact h.elim
def gSub := gII (fun _ _ => true) fun i j => .int (i - j)
def mulC (i j : Int) : Bool := decide (i.natAbs.log2 + j.natAbs.log2 < 100000000)
def MulW (i j : Int) : Prop := i.natAbs.log2 + j.natAbs.log2 < 100000000
theorem MulW.ok {i j : Int} (h : MulW i j) : IntMulOk i j := by
  have b : ∀ x : Int, Builtin.Int.intBits x ≤ x.natAbs.log2 + 1 := fun x => by
    unfold Builtin.Int.intBits
    split <;> omega
  have h1 := b i
  have h2 := b j
  have h3 : i.natAbs.log2 + j.natAbs.log2 < 100000000 := h
  have e : bitsLine = 134217728 := by decide
  unfold IntMulOk
  intro z
  rw [Bool.and_eq_true] at z
  have z2 := z.2
  unfold Builtin.Int.intTooBig at z2
  have z3 := of_decide_eq_true z2
  rw [e] at z3
  omega
theorem op_mulD {X : Cx} : OpR X (binaryOp .Mult) (rI MulW fun i j => .int (i * j)) := opI fun _ _ _ _ _ _ _ hc q => PyProof.Rows.mul_int q hc.ok
def divC (i j : Int) : Bool := decide (0 < j) && decide (j.natAbs.log2 < 9000)
def gFdiv := gII divC fun i j => .int (i / j)
def gMod := gII (fun _ j => decide (0 < j)) fun i j => .int (i % j)
def powC (i j : Int) : Bool := decide (0 ≤ j) && decide (j ≤ 1000000) && decide (i.natAbs < 2 ^ 64)
def gPow := gII powC fun i j => .int (i ^ j.toNat)
section
variable {X : Cx} {W : WX} {pos : Pos} {a b : Expr} {ma mb : DE}
theorem s_sub (ha : SE X W a ma) (hb : SE X W b mb) : SE X W (.BinOp a .Sub b pos) (dBin gSub ma mb) := s_bin op_sub (od_I0 fun _ _ _ => rfl) ha hb
theorem s_fdiv (ha : SE X W a ma) (hb : SE X W b mb) : SE X W (.BinOp a .FloorDiv b pos) (dBin gFdiv ma mb) := s_bin op_fdivW (od_II (fun i j c => by unfold divC at c; simp at c; exact c) fun _ _ _ => rfl) ha hb
theorem s_mod (ha : SE X W a ma) (hb : SE X W b mb) : SE X W (.BinOp a .Mod b pos) (dBin gMod ma mb) := s_bin op_mod (od_II (fun i j c => of_decide_eq_true c) fun _ _ _ => rfl) ha hb
theorem s_pow (ha : SE X W a ma) (hb : SE X W b mb) : SE X W (.BinOp a .Pow b pos) (dBin gPow ma mb) := s_bin op_pow (od_II (fun i j c => by unfold powC at c; simp at c; exact ⟨c.1.1, c.1.2, c.2⟩) fun _ _ _ => rfl) ha hb
end
def gNeg : Vl → Store → Res Vl
  | .d (.int i), S => .ok (.d (.int (-i))) S
  | _, _ => .bad
theorem s_neg {X : Cx} {W : WX} {pos : Pos} {a : Expr} {ma : DE} (ha : SE X W a ma) : SE X W (.UnaryOp .USub a pos) (dUn gNeg ma) := s_uno un_neg (by
  intro mg W σ A H S v x Q rs rv h
  unfold gNeg at h
  split at h
  · rename_i i
    obtain rfl : x = .int i := rv
    exact ⟨i, rfl, fin_v h rs rfl⟩
  · exact h.elim) ha

/-! ### + -/
def gAdd : Vl → Vl → Store → Res Vl
  | .d (.int i), .d (.int j), S => .ok (.d (.int (i + j))) S
  | .d (.str s), .d (.str t), S => if s.length + t.length ≤ sizeLine then .ok (.d (.str (s ++ t))) S else .bad
  | .d (.tup s), .d (.tup t), S => if s.length + t.length ≤ sizeLine then .ok (.d (.tup (s ++ t))) S else .bad
  | .l n, .l m, S => match S[n]?, S[m]? with
    | some (.lst s), some (.lst t) => if s.length + t.length ≤ sizeLine then .ok (.l S.length) (S ++ [.lst (s ++ t)]) else .bad
    | _, _ => .bad
  | _, _, _ => .bad
theorem RDs.nil_iff {K : PySem.W.Frag} {H : Hp} {ds : List D} {vs : List V} (h : RDs K H ds vs) : vs = [] ↔ ds = [] := by
  have := h.length
  constructor
  · intro e; subst e; exact List.length_eq_zero_iff.mp this.symm
  · intro e; subst e; exact List.length_eq_zero_iff.mp this
abbrev rAddAll (K : PySem.W.Frag) : R2 := fun x y H Q => rI0 (fun i j => .int (i + j)) x y H Q ∨ ((∃ i j, x = .str i ∧ y = .str j ∧ i.length + j.length ≤ sizeLine ∧ Q (.str (i ++ j)) H) ∨ (rCatA K x y H Q ∨ rCat x y H Q))
theorem od_add {K : PySem.W.Frag} : OpD K (rAddAll K) gAdd := by
  intro mg W σ A H S v u x y Q rs rv ru h
  unfold gAdd at h
  split at h
  · rename_i i j
    obtain rfl : x = .int i := rv
    obtain rfl : y = .int j := ru
    exact .inl ⟨i, j, rfl, rfl, fin_v h rs rfl⟩
  · rename_i s t
    obtain rfl : x = .str (sOf s) := rv
    obtain rfl : y = .str (sOf t) := ru
    split at h
    · rename_i c
      exact .inr (.inl ⟨_, _, rfl, rfl, by rw [sOf_length, sOf_length]; exact c, by rw [sOf_append]; exact fin_v h rs rfl⟩)
    · exact h.elim
  · rename_i s t
    obtain ⟨a, vs, rfl, h1, h2⟩ := rv
    obtain ⟨b, us, rfl, h3, h4⟩ := ru
    split at h
    · rename_i c
      refine .inr (.inr (.inl ⟨a, b, vs, us, rfl, rfl, h1, h3, by rw [h2.length, h4.length]; exact c, fun e => ?_, fun e1 e2 => ?_, fun e1 e2 p hp => fin_tup h rs (h2.append h4) hp⟩))
      · have : s = [] := h2.nil_iff.mp e
        subst this
        exact fin_v h rs ⟨b, us, rfl, h3, h4⟩
      · have : t = [] := h4.nil_iff.mp e2
        subst this
        rw [List.append_nil] at h
        exact fin_v h rs ⟨a, vs, rfl, h1, h2⟩
    · exact h.elim
  · rename_i n m
    obtain ⟨a, ha, rfl⟩ := rv
    obtain ⟨b, hb, rfl⟩ := ru
    split at h
    · rename_i s t e1 e2
      obtain ⟨vs, g1, g2⟩ := rs.cell _ _ _ ha e1
      obtain ⟨us, g3, g4⟩ := rs.cell _ _ _ hb e2
      split at h
      · rename_i c
        exact .inr (.inr (.inr ⟨a, b, vs, us, rfl, rfl, g1, g3, by rw [g2.length, g4.length]; exact c, fun p hp => fin_lst h rs (g2.append g4) hp⟩))
      · exact h.elim
    · exact h.elim
  · exact h.elim
theorem op_addAll {X : Cx} : OpR X (binaryOp .Add) (rAddAll X.K) := OpR.or op_add (OpR.or op_add_str (OpR.or op_catA op_cat))
theorem s_add {X : Cx} {W : WX} {pos : Pos} {a b : Expr} {ma mb : DE} (ha : SE X W a ma) (hb : SE X W b mb) : SE X W (.BinOp a .Add b pos) (dBin gAdd ma mb) := s_bin op_addAll od_add ha hb

/-! ### * -/
def rep (s : List Nat) (n : Nat) : List Nat := (List.replicate n s).flatten
def gMul : Vl → Vl → Store → Res Vl
  | .d (.int i), .d (.int j), S => if mulC i j = true then .ok (.d (.int (i * j))) S else .bad
  | .d (.str s), .d (.int j), S => if (decide (s.length * j.toNat ≤ sizeLine) && decide (-(2 ^ 62) ≤ j) && decide (j < 2 ^ 62)) = true then .ok (.d (.str (rep s j.toNat))) S else .bad
  | _, _, _ => .bad
theorem foldl_cat (s : List Nat) : ∀ (n : Nat) (acc : Array Nat), ((List.replicate n s.toArray).foldl (· ++ ·) acc).toList = acc.toList ++ (List.replicate n s).flatten
  | 0, acc => by simp
  | n + 1, acc => by
    rw [List.replicate_succ, List.foldl_cons, foldl_cat s n, List.replicate_succ, List.flatten_cons]
    simp
theorem txt_mul (s : List Nat) (n : Int) : Txt.mul (sOf s) n = sOf (rep s n.toNat) := by
  unfold Txt.mul
  by_cases h1 : n < 1
  · rw [if_pos h1]
    have : n.toNat = 0 := by omega
    rw [this]
    rfl
  · rw [if_neg h1]
    by_cases h2 : (n == 1 || (sOf s).length == 0) = true
    · rw [if_pos h2]
      rw [Bool.or_eq_true] at h2
      rcases h2 with h2 | h2
      · have : n = 1 := by simpa using h2
        subst this
        show sOf s = sOf (rep s 1)
        simp [rep]
      · have h2 : (sOf s).length = 0 := by simpa using h2
        rw [sOf_length] at h2
        have : s = [] := List.length_eq_zero_iff.mp h2
        subst this
        simp [rep, sOf]
    · rw [if_neg h2]
      refine ext_tl ?_
      show (List.foldl (fun x1 x2 => x1 ++ x2) #[] (List.replicate n.toNat s.toArray)).toList = rep s n.toNat
      rw [foldl_cat]
      rfl
theorem mulOk {s : List Nat} {n : Int} (h1 : s.length * n.toNat ≤ sizeLine) (h2 : -(2 ^ 62) ≤ n) (h3 : n < 2 ^ 62) : MulOk (sOf s) n := by
  have e : sizeLine = 16777216 := sizeLine_eq
  refine ⟨?_, fun k1 _ => ?_, fun k1 _ => ?_⟩
  · rw [Bool.or_eq_false_iff]
    exact ⟨decide_eq_false (by omega), decide_eq_false (by omega)⟩
  · rw [sOf_length]
    intro z
    have n1 : (1 : Int) ≤ n := by omega
    have : (n.toNat : Int) = n := by omega
    have h4 : ((s.length * n.toNat : Nat) : Int) ≤ ((16777216 : Nat) : Int) := Int.ofNat_le.mpr (by rw [e] at h1; exact h1)
    have h5 : (s.length : Int) * n ≤ 16777216 := by rw [← this]; rw [Int.natCast_mul] at h4; exact h4
    have h6 : (2 ^ 63 - 1 : Int) < (s.length : Int) * n := by
      have := Int.ediv_lt_iff_lt_mul (a := 2 ^ 63 - 1) (b := (s.length : Int)) (c := n) (by omega)
      exact this.mp z
    omega
  · rw [sOf_length]
    unfold Builtin.Str.tooLong
    have : sizeLine = 16777216 := e
    first
      | exact decide_eq_false (by omega)
      | (simp; omega)
abbrev rMulAll : R2 := fun x y H Q => rI MulW (fun i j => .int (i * j)) x y H Q ∨ (∃ (z : Str) (i : Int), x = .str z ∧ y = .int i ∧ MulOk z i ∧ Q (.str (Txt.mul z i)) H)
theorem op_mulS {X : Cx} : OpR X (binaryOp .Mult) (fun x y H Q => ∃ (z : Str) (i : Int), x = .str z ∧ y = .int i ∧ MulOk z i ∧ Q (.str (Txt.mul z i)) H) := by
  intro pins s σ H x y v u Q I rx ry h
  obtain ⟨z, i, rfl, rfl, c, q⟩ := h
  obtain ⟨t, rfl⟩ := rx
  obtain ⟨t', rfl⟩ := ry
  exact SB.mul c fun t' k => ⟨.str _, H, I.tok _, ⟨_, rfl⟩, q⟩
theorem od_mul {K : PySem.W.Frag} : OpD K rMulAll gMul := by
  intro mg W σ A H S v u x y Q rs rv ru h
  unfold gMul at h
  split at h
  · rename_i i j
    obtain rfl : x = .int i := rv
    obtain rfl : y = .int j := ru
    split at h
    · rename_i c
      exact .inl ⟨i, j, rfl, rfl, (by unfold mulC at c; unfold MulW; exact of_decide_eq_true c), fin_v h rs rfl⟩
    · exact h.elim
  · rename_i s j
    obtain rfl : x = .str (sOf s) := rv
    obtain rfl : y = .int j := ru
    split at h
    · rename_i c
      simp at c
      exact .inr ⟨_, _, rfl, rfl, mulOk c.1.1 (by omega) (by omega), by rw [txt_mul]; exact fin_v h rs rfl⟩
    · exact h.elim
  · exact h.elim
theorem s_mul {X : Cx} {W : WX} {pos : Pos} {a b : Expr} {ma mb : DE} (ha : SE X W a ma) (hb : SE X W b mb) : SE X W (.BinOp a .Mult b pos) (dBin gMul ma mb) := s_bin (OpR.or op_mulD op_mulS) od_mul ha hb
end DL
end

section
set_option Elab.async false
set_option linter.all false
set_option maxRecDepth 100000
set_option autoImplicit false
set_option maxHeartbeats 400000
namespace DL
open PySem L2 TL

/-! ### == -/
mutual
def eqD : D → D → Bool
  | .non, .non => true
  | .bl a, .bl b => a == b
  | .bl a, .int j => (if a then 1 else 0) == j
  | .int i, .bl b => i == (if b then 1 else 0)
  | .int i, .int j => i == j
  | .str s, .str t => s == t
  | .tup xs, .tup ys => eqDs xs ys
  | .non, .bl _ | .non, .int _ | .non, .str _ | .non, .tup _ => false
  | .bl _, .non | .bl _, .str _ | .bl _, .tup _ => false
  | .int _, .non | .int _, .str _ | .int _, .tup _ => false
  | .str _, .non | .str _, .bl _ | .str _, .int _ | .str _, .tup _ => false
  | .tup _, .non | .tup _, .bl _ | .tup _, .int _ | .tup _, .str _ => false
def eqDs : List D → List D → Bool
  | [], [] => true
  | x :: xs, y :: ys => eqD x y && eqDs xs ys
  | [], _ :: _ => false
  | _ :: _, [] => false
end
mutual
def toPy : D → PyData
  | .non => .none
  | .bl b => .bool b
  | .int i => .int i
  | .str s => .str (sOf s)
  | .tup ds => .tuple (toPys ds)
def toPys : List D → List PyData
  | [] => []
  | d :: ds => toPy d :: toPys ds
end
mutual
def okD : Nat → D → Bool
  | _, .str s => s.all fun c => decide (c < 0x110000)
  | 0, .tup _ => false
  | n + 1, .tup ds => okDs n ds
  | _, .non => true
  | _, .bl _ => true
  | _, .int _ => true
def okDs : Nat → List D → Bool
  | _, [] => true
  | n, d :: ds => okD n d && okDs n ds
end
theorem beq_sOf (s t : List Nat) : (sOf s == sOf t) = (s == t) := by
  rw [Bool.eq_iff_iff, beq_iff_eq, beq_iff_eq]
  exact ⟨sOf_inj, fun h => by rw [h]⟩
mutual
theorem eqv_toPy : ∀ d e : D, PyData.eqv (toPy d) (toPy e) = eqD d e
  | .non, e => by cases e <;> simp [toPy, PyData.eqv, eqD]
  | .bl a, e => by cases e <;> simp [toPy, PyData.eqv, eqD]
  | .int a, e => by cases e <;> simp [toPy, PyData.eqv, eqD]
  | .str s, e => by
    cases e with
    | str t => simp only [toPy, PyData.eqv, eqD]; exact beq_sOf s t
    | _ => simp [toPy, PyData.eqv, eqD]
  | .tup xs, e => by
    cases e with
    | tup ys => simp only [toPy, PyData.eqv, eqD]; exact eqvs_toPy xs ys
    | _ => simp [toPy, PyData.eqv, eqD]
theorem eqvs_toPy : ∀ ds es : List D, PyData.eqvAll (toPys ds) (toPys es) = eqDs ds es
  | [], [] => by simp [toPys, PyData.eqvAll, eqDs]
  | [], _ :: _ => by simp [toPys, PyData.eqvAll, eqDs]
  | _ :: _, [] => by simp [toPys, PyData.eqvAll, eqDs]
  | d :: ds, e :: es => by simp only [toPys, PyData.eqvAll, eqDs]; rw [eqv_toPy d e, eqvs_toPy ds es]
end
mutual
theorem can_of : ∀ (n : Nat) (d : D), okD n d = true → (toPy d).canLay0 = true ∧ (toPy d).depth ≤ n
  | n, .non, _ => by simp [toPy, PyData.canLay0, PyData.depth]
  | n, .bl _, _ => by simp [toPy, PyData.canLay0, PyData.depth]
  | n, .int _, _ => by simp [toPy, PyData.canLay0, PyData.depth]
  | n, .str s, h => by
    refine ⟨?_, by simp [toPy, PyData.depth]⟩
    simp only [toPy, PyData.canLay0]
    have h' : (s.all fun c => decide (c < 0x110000)) = true := by
      cases n <;> simpa [okD] using h
    show (s.toArray.all fun c => decide (c < 0x110000)) = true
    rw [List.all_toArray]
    exact h'
  | 0, .tup ds, h => by simp [okD] at h
  | n + 1, .tup ds, h => by
    obtain ⟨h1, h2⟩ := cans_of n ds (by simpa [okD] using h)
    refine ⟨by simpa [toPy, PyData.canLay0] using h1, ?_⟩
    simp only [toPy, PyData.depth]
    omega
theorem cans_of : ∀ (n : Nat) (ds : List D), okDs n ds = true → PyData.canLayAll0 (toPys ds) = true ∧ PyData.depthAll (toPys ds) ≤ n
  | n, [], _ => by simp [toPys, PyData.canLayAll0, PyData.depthAll]
  | n, d :: ds, h => by
    have h' : okD n d = true ∧ okDs n ds = true := by
      cases n <;> simpa [okDs] using h
    obtain ⟨a1, a2⟩ := can_of n d h'.1
    obtain ⟨b1, b2⟩ := cans_of n ds h'.2
    refine ⟨by simp [toPys, PyData.canLayAll0, a1, b1], ?_⟩
    simp only [toPys, PyData.depthAll]
    omega
end
theorem shaped_of {d : D} (h : okD 60 d = true) : SeqAt.shaped (toPy d) = true := by
  obtain ⟨h1, h2⟩ := can_of 60 d h
  unfold SeqAt.shaped
  rw [h1, Bool.true_and]
  exact decide_eq_true (by omega)
section
variable {K : PySem.W.Frag} {H : Hp}
mutual
theorem RD.dp : ∀ (d : D) (v : V), RD K H d v → Dp K H v (toPy d)
  | .non, _, h => by rw [show _ = V.non from h]; exact .non
  | .bl b, _, h => by rw [show _ = V.bl b from h]; exact .bl b
  | .int i, _, h => by rw [show _ = V.int i from h]; exact .int i
  | .str s, _, h => by rw [show _ = V.str (sOf s) from h]; exact .str _
  | .tup ds, _, ⟨a, vs, h1, h2, h3⟩ => by subst h1; exact .tup h2 (RDs.dps ds vs h3)
theorem RDs.dps : ∀ (ds : List D) (vs : List V), RDs K H ds vs → DpAll K H vs (toPys ds)
  | [], _, h => by rw [show _ = [] from h]; exact .nil
  | d :: ds, _, ⟨v, r, h1, h2, h3⟩ => by subst h1; exact .cons (RD.dp d v h2) (RDs.dps ds r h3)
end
end
def scalD : D → D → Bool
  | .int _, .int _ => true
  | .str _, .str _ => true
  | .bl _, .bl _ => true
  | .non, .tup _ => false
  | .non, _ => true
  | .tup _, .non => false
  | _, .non => true
  | .int _, .str _ => true
  | .str _, .int _ => true
  | .bl _, .str _ => true
  | .str _, .bl _ => true
  | _, _ => false
theorem scal_dec {K : PySem.W.Frag} {H : Hp} {d e : D} {x y : V} (h : scalD d e = true) (r : RD K H d x) (q : RD K H e y) : scal x y = true ∧ decide (x = y) = eqD d e := by
  cases d <;> cases e <;> first
    | (simp [scalD] at h; done)
    | (rw [show x = _ from r, show y = _ from q]; refine ⟨rfl, ?_⟩; simp [eqD]; done)
    | (rename_i s t; rw [show x = V.str (sOf s) from r, show y = V.str (sOf t) from q]; refine ⟨rfl, ?_⟩; simp only [eqD, V.str.injEq]; rw [Bool.eq_iff_iff, decide_eq_true_eq, beq_iff_eq]; exact ⟨sOf_inj, fun z => by rw [z]⟩)
    | (rename_i s t; rw [show x = _ from r, show y = _ from q]; refine ⟨rfl, ?_⟩; simp only [eqD]; rw [Bool.eq_iff_iff, decide_eq_true_eq, beq_iff_eq]; exact ⟨fun z => by cases z; rfl, fun z => by rw [z]⟩)
def gEqB : Vl → Vl → Store → Res Bool
  | .d a, .d b, S => if (scalD a b || (okD 60 a && okD 60 b)) = true then .ok (eqD a b) S else .bad
  | .l n, .l m, S => match lstAt S n, lstAt S m with
    | some s, some t => if (okDs 59 s && okDs 59 t) = true then .ok (eqDs s t) S else .bad
    | _, _ => .bad
  | .l n, .d b, S => match lstAt S n with
    | some s => if (okDs 59 s && okD 60 b) = true then .ok false S else .bad
    | _ => .bad
  | .d a, .l n, S => match lstAt S n with
    | some s => if (okDs 59 s && okD 60 a) = true then .ok false S else .bad
    | _ => .bad
def mapR {α β : Type} (f : α → β) : Res α → Res β
  | .ok a S => .ok (f a) S
  | .er e S => .er e S
  | .bad => .bad
def gEq : Vl → Vl → Store → Res Vl := fun v u S => mapR (fun b => .d (.bl b)) (gEqB v u S)
def gNe : Vl → Vl → Store → Res Vl := fun v u S => mapR (fun b => .d (.bl (!b))) (gEqB v u S)
abbrev rEqAll (K : PySem.W.Frag) : R2 := fun x y H Q => rEq x y H Q ∨ rEqD K x y H Q
abbrev rNeAll (K : PySem.W.Frag) : R2 := fun x y H Q => rNe x y H Q ∨ rNeD K x y H Q
theorem shaped_list {ds : List D} (h : okDs 59 ds = true) : SeqAt.shaped (.list (toPys ds)) = true := by
  obtain ⟨h1, h2⟩ := cans_of 59 ds h
  unfold SeqAt.shaped
  have e : PyData.canLay0 (.list (toPys ds)) = true := by simpa [PyData.canLay0] using h1
  rw [e, Bool.true_and]
  refine decide_eq_true ?_
  simp only [PyData.depth]
  omega
theorem eqv_list_d (s : List D) (b : D) : PyData.eqv (.list (toPys s)) (toPy b) = false := by cases b <;> simp [toPy, PyData.eqv]
theorem eqv_d_list (s : List D) (b : D) : PyData.eqv (toPy b) (.list (toPys s)) = false := by cases b <;> simp [toPy, PyData.eqv]
/-- what gEqB says is so, in one of two ways -/
theorem gEqB_ok {K : PySem.W.Frag} {H : Hp} {A : List Addr} {S : Store} {v u : Vl} {x y : V} (rs : RS K H A S) (rv : RV K H A v x) (ru : RV K H A u y) {k : Bool} {S' : Store} (h : gEqB v u S = .ok k S') :
    S' = S ∧ ((scal x y = true ∧ decide (x = y) = k) ∨ ∃ d e, Dp K H x d ∧ Dp K H y e ∧ SeqAt.shaped d = true ∧ SeqAt.shaped e = true ∧ PyData.eqv d e = k) := by
  unfold gEqB at h
  split at h
  · rename_i a b
    split at h
    · rename_i c
      injection h with h1 h2
      refine ⟨h2.symm, ?_⟩
      rw [Bool.or_eq_true, Bool.and_eq_true] at c
      rcases c with c | c
      · obtain ⟨q1, q2⟩ := scal_dec c rv ru
        exact .inl ⟨q1, q2.trans h1⟩
      · exact .inr ⟨_, _, RD.dp a x rv, RD.dp b y ru, shaped_of c.1, shaped_of c.2, (eqv_toPy a b).trans h1⟩
    · cases h
  · rename_i n m
    obtain ⟨a, ha, rfl⟩ := rv
    obtain ⟨b, hb, rfl⟩ := ru
    split at h
    · rename_i s t e1 e2
      obtain ⟨vs, g1, g2⟩ := lstAt_sq rs ha e1
      obtain ⟨us, g3, g4⟩ := lstAt_sq rs hb e2
      split at h
      · rename_i c
        rw [Bool.and_eq_true] at c
        injection h with h1 h2
        refine ⟨h2.symm, .inr ⟨_, _, .lst g1 (RDs.dps s vs g2), .lst g3 (RDs.dps t us g4), shaped_list c.1, shaped_list c.2, ?_⟩⟩
        simp only [PyData.eqv]
        rw [eqvs_toPy]; exact h1
      · cases h
    · cases h
  · rename_i n b
    obtain ⟨a, ha, rfl⟩ := rv
    split at h
    · rename_i s e1
      obtain ⟨vs, g1, g2⟩ := lstAt_sq rs ha e1
      split at h
      · rename_i c
        rw [Bool.and_eq_true] at c
        injection h with h1 h2
        exact ⟨h2.symm, .inr ⟨_, _, .lst g1 (RDs.dps s vs g2), RD.dp b y ru, shaped_list c.1, shaped_of c.2, (eqv_list_d s b).trans h1⟩⟩
      · cases h
    · cases h
  · rename_i b n
    obtain ⟨a, ha, rfl⟩ := ru
    split at h
    · rename_i s e1
      obtain ⟨vs, g1, g2⟩ := lstAt_sq rs ha e1
      split at h
      · rename_i c
        rw [Bool.and_eq_true] at c
        injection h with h1 h2
        exact ⟨h2.symm, .inr ⟨_, _, RD.dp b x rv, .lst g1 (RDs.dps s vs g2), shaped_of c.2, shaped_list c.1, (eqv_d_list s b).trans h1⟩⟩
      · cases h
    · cases h
theorem gEqB_no {S : Store} {v u : Vl} {e : Er} {S' : Store} (h : gEqB v u S = .er e S') : False := by
  unfold gEqB at h
  split at h
  · split at h <;> cases h
  · split at h
    · split at h <;> cases h
    · cases h
  · split at h
    · split at h <;> cases h
    · cases h
  · split at h
    · split at h <;> cases h
    · cases h
theorem od_eq {K : PySem.W.Frag} : OpD K (rEqAll K) gEq := by
  intro mg W σ A H S v u x y Q rs rv ru h
  unfold gEq at h
  cases e : gEqB v u S with
  | ok k S' =>
    rw [e] at h
    obtain ⟨rfl, z⟩ := gEqB_ok rs rv ru e
    rcases z with ⟨q1, rfl⟩ | ⟨d, e', p1, p2, p3, p4, rfl⟩
    · exact .inl ⟨q1, fin_v h rs rfl⟩
    · exact .inr ⟨d, e', p1, p2, p3, p4, fin_v h rs rfl⟩
  | er x S' => exact (gEqB_no e).elim
  | bad => rw [e] at h; exact h.elim
theorem od_ne {K : PySem.W.Frag} : OpD K (rNeAll K) gNe := by
  intro mg W σ A H S v u x y Q rs rv ru h
  unfold gNe at h
  cases e : gEqB v u S with
  | ok k S' =>
    rw [e] at h
    obtain ⟨rfl, z⟩ := gEqB_ok rs rv ru e
    rcases z with ⟨q1, rfl⟩ | ⟨d, e', p1, p2, p3, p4, rfl⟩
    · exact .inl ⟨q1, fin_v h rs rfl⟩
    · exact .inr ⟨d, e', p1, p2, p3, p4, fin_v h rs rfl⟩
  | er x S' => exact (gEqB_no e).elim
  | bad => rw [e] at h; exact h.elim
theorem op_eqAll {X : Cx} (hu : X.A.units + 64 < cLine) : OpR X (compareOp .Eq) (rEqAll X.K) := OpR.or op_eq (op_eqD hu)
theorem op_neAll {X : Cx} (hu : X.A.units + 64 < cLine) : OpR X (compareOp .NotEq) (rNeAll X.K) := OpR.or op_ne (op_neD hu)

/-! ### order of ints -/
def gLt := gII (fun _ _ => true) fun i j => .bl (decide (i < j))
def gLe := gII (fun _ _ => true) fun i j => .bl (decide (i ≤ j))
def gGt := gII (fun _ _ => true) fun i j => .bl (decide (j < i))
def gGe := gII (fun _ _ => true) fun i j => .bl (decide (j ≤ i))
theorem od_lt {K : PySem.W.Frag} : OpD K (rI0 fun i j => .bl (decide (i < j))) gLt := od_I0 fun _ _ _ => rfl
theorem od_le {K : PySem.W.Frag} : OpD K (rI0 fun i j => .bl (decide (i ≤ j))) gLe := od_I0 fun _ _ _ => rfl
theorem od_gt {K : PySem.W.Frag} : OpD K (rI0 fun i j => .bl (decide (j < i))) gGt := od_I0 fun _ _ _ => rfl
theorem od_ge {K : PySem.W.Frag} : OpD K (rI0 fun i j => .bl (decide (j ≤ i))) gGe := od_I0 fun _ _ _ => rfl

/-! ### is -/
def isV : Vl → Vl → Option Bool
  | .d .non, .d .non => some true
  | .d _, .d .non => some false
  | .l _, .d .non => some false
  | .d (.bl a), .d (.bl b) => some (a == b)
  | _, _ => none
def gIs : Vl → Vl → Store → Res Vl := fun v u S => match isV v u with
  | some b => .ok (.d (.bl b)) S
  | none => .bad
def gIsNot : Vl → Vl → Store → Res Vl := fun v u S => match isV v u with
  | some b => .ok (.d (.bl (!b))) S
  | none => .bad
abbrev rIsAll : R2 := fun x y H Q => (y = .non ∧ Q (.bl (decide (x = .non))) H) ∨ (∃ a b, x = .bl a ∧ y = .bl b ∧ Q (.bl (decide (a = b))) H)
abbrev rNotAll : R2 := fun x y H Q => (y = .non ∧ Q (.bl (!decide (x = .non))) H) ∨ (∃ a b, x = .bl a ∧ y = .bl b ∧ Q (.bl (!decide (a = b))) H)
theorem isV_ok {K : PySem.W.Frag} {H : Hp} {A : List Addr} {v u : Vl} {x y : V} {b : Bool} (h : isV v u = some b) (rv : RV K H A v x) (ru : RV K H A u y) : (y = .non ∧ decide (x = V.non) = b) ∨ ∃ a c, x = .bl a ∧ y = .bl c ∧ decide (a = c) = b := by
  unfold isV at h
  split at h
  · cases h
    rw [show x = V.non from rv]
    exact .inl ⟨ru, by simp⟩
  · rename_i d hd
    cases h
    refine .inl ⟨ru, decide_eq_false fun e => ?_⟩
    subst e
    cases d with
    | non => exact absurd rfl (hd · )
    | bl _ => cases (show V.non = _ from rv)
    | int _ => cases (show V.non = _ from rv)
    | str _ => cases (show V.non = _ from rv)
    | tup _ => obtain ⟨_, _, z, _⟩ := rv; cases z
  · cases h
    obtain ⟨a, _, rfl⟩ := rv
    exact .inl ⟨ru, decide_eq_false fun e => by cases e⟩
  · rename_i a c
    cases h
    exact .inr ⟨a, c, rv, ru, by cases a <;> cases c <;> rfl⟩
  · cases h
theorem od_is {K : PySem.W.Frag} : OpD K rIsAll gIs := by
  intro mg W σ A H S v u x y Q rs rv ru h
  unfold gIs at h
  split at h
  · rename_i b e
    rcases isV_ok e rv ru with ⟨e1, e2⟩ | ⟨a, c, e1, e2, e3⟩
    · exact .inl ⟨e1, by rw [e2]; exact fin_v h rs rfl⟩
    · exact .inr ⟨a, c, e1, e2, by rw [e3]; exact fin_v h rs rfl⟩
  · exact h.elim
theorem od_isNot {K : PySem.W.Frag} : OpD K rNotAll gIsNot := by
  intro mg W σ A H S v u x y Q rs rv ru h
  unfold gIsNot at h
  split at h
  · rename_i b e
    rcases isV_ok e rv ru with ⟨e1, e2⟩ | ⟨a, c, e1, e2, e3⟩
    · exact .inl ⟨e1, by rw [e2]; exact fin_v h rs rfl⟩
    · exact .inr ⟨a, c, e1, e2, by rw [e3]; exact fin_v h rs rfl⟩
  · exact h.elim
theorem op_isAll {X : Cx} : OpR X (compareOp .Is) rIsAll := OpR.or op_isN op_is_bl
theorem op_notAll {X : Cx} : OpR X (compareOp .IsNot) rNotAll := OpR.or op_notN op_isnot_bl

/-! ### in -/
def flatD : D → Bool
  | .tup _ => false
  | _ => true
theorem flat_of {K : PySem.W.Frag} {H : Hp} {d : D} {x : V} (h : flatD d = true) (r : RD K H d x) : flatV x = true := by
  cases d with
  | tup _ => cases h
  | non => rw [show x = _ from r]; rfl
  | bl _ => rw [show x = _ from r]; rfl
  | int _ => rw [show x = _ from r]; rfl
  | str _ => rw [show x = _ from r]; rfl
theorem eqV_of {K : PySem.W.Frag} {H : Hp} {d e : D} {x y : V} (h : flatD d = true) (h' : flatD e = true) (r : RD K H d x) (q : RD K H e y) : eqV x y = eqD d e := by
  cases d <;> cases e <;> first
    | (cases h; done)
    | (cases h'; done)
    | (rw [show x = _ from r, show y = _ from q]; simp [eqV, eqD]; done)
    | (rename_i s t; rw [show x = V.str (sOf s) from r, show y = V.str (sOf t) from q]; simp only [eqV, eqD]; exact beq_sOf s t)
theorem flats_of {K : PySem.W.Frag} {H : Hp} : ∀ {ds : List D} {vs : List V}, ds.all flatD = true → RDs K H ds vs → vs.all flatV = true
  | [], _, _, h => by rw [show _ = [] from h]; rfl
  | d :: ds, _, hf, ⟨v, r, h1, h2, h3⟩ => by
    subst h1
    rw [List.all_cons, Bool.and_eq_true] at hf
    rw [List.all_cons, flat_of hf.1 h2, flats_of hf.2 h3]
    rfl
theorem inV_of {K : PySem.W.Frag} {H : Hp} {d : D} {x : V} (h : flatD d = true) (r : RD K H d x) : ∀ {ds : List D} {vs : List V}, ds.all flatD = true → RDs K H ds vs → inV x vs = ds.any fun e => eqD e d
  | [], _, _, q => by rw [show _ = [] from q]; rfl
  | e :: ds, _, hf, ⟨v, r', h1, h2, h3⟩ => by
    subst h1
    rw [List.all_cons, Bool.and_eq_true] at hf
    have := inV_of h r hf.2 h3
    unfold inV at this ⊢
    rw [List.any_cons, List.any_cons, this, eqV_of hf.1 h h2 r]
def inB : Vl → Vl → Store → Option Bool
  | .d (.str [c]), .d (.str t), _ => some (decide (c ∈ t))
  | .d x, .d (.tup ds), _ => if (flatD x && ds.all flatD) = true then some (ds.any fun e => eqD e x) else none
  | .d x, .l n, S => match lstAt S n with
    | some ds => if (flatD x && ds.all flatD) = true then some (ds.any fun e => eqD e x) else none
    | none => none
  | _, _, _ => none
def gIn : Vl → Vl → Store → Res Vl := fun v u S => match inB v u S with
  | some b => .ok (.d (.bl b)) S
  | none => .bad
def gNotIn : Vl → Vl → Store → Res Vl := fun v u S => match inB v u S with
  | some b => .ok (.d (.bl (!b))) S
  | none => .bad
abbrev rInAll (K : PySem.W.Frag) : R2 := fun x y H Q => (∃ (c : Nat) (z : Str), x = .str ⟨#[c]⟩ ∧ y = .str z ∧ Q (.bl (decide (c ∈ z.cps.toList))) H) ∨ rIn K false x y H Q
abbrev rNotInAll (K : PySem.W.Frag) : R2 := fun x y H Q => (∃ (c : Nat) (z : Str), x = .str ⟨#[c]⟩ ∧ y = .str z ∧ Q (.bl (!decide (c ∈ z.cps.toList))) H) ∨ rIn K true x y H Q
theorem inB_ok {K : PySem.W.Frag} {H : Hp} {A : List Addr} {S : Store} {v u : Vl} {x y : V} {b : Bool} (rs : RS K H A S) (h : inB v u S = some b) (rv : RV K H A v x) (ru : RV K H A u y) :
    (∃ (c : Nat) (z : Str), x = .str ⟨#[c]⟩ ∧ y = .str z ∧ decide (c ∈ z.cps.toList) = b) ∨ ∃ p xs, y = .ref p ∧ (SqL K H p xs ∨ SqT K H p xs) ∧ flatV x = true ∧ xs.all flatV = true ∧ inV x xs = b := by
  unfold inB at h
  split at h
  · rename_i c t
    cases h
    exact .inl ⟨c, sOf t, rv, ru, rfl⟩
  · rename_i d ds
    obtain ⟨p, vs, rfl, h1, h2⟩ := ru
    split at h
    · rename_i c
      rw [Bool.and_eq_true] at c
      cases h
      exact .inr ⟨p, vs, rfl, .inr h1, flat_of c.1 rv, flats_of c.2 h2, inV_of c.1 rv c.2 h2⟩
    · cases h
  · rename_i d n
    obtain ⟨p, hp, rfl⟩ := ru
    split at h
    · rename_i ds e
      obtain ⟨vs, h1, h2⟩ := lstAt_sq rs hp e
      split at h
      · rename_i c
        rw [Bool.and_eq_true] at c
        cases h
        exact .inr ⟨p, vs, rfl, .inl h1, flat_of c.1 rv, flats_of c.2 h2, inV_of c.1 rv c.2 h2⟩
      · cases h
    · cases h
  · cases h
theorem od_in {K : PySem.W.Frag} : OpD K (rInAll K) gIn := by
  intro mg W σ A H S v u x y Q rs rv ru h
  unfold gIn at h
  split at h
  · rename_i b e
    rcases inB_ok rs e rv ru with ⟨c, z, e1, e2, e3⟩ | ⟨p, xs, e1, e2, e3, e4, e5⟩
    · exact .inl ⟨c, z, e1, e2, by rw [e3]; exact fin_v h rs rfl⟩
    · exact .inr ⟨p, xs, e1, e2, e3, e4, by rw [e5]; exact fin_v h rs rfl⟩
  · exact h.elim
theorem od_notIn {K : PySem.W.Frag} : OpD K (rNotInAll K) gNotIn := by
  intro mg W σ A H S v u x y Q rs rv ru h
  unfold gNotIn at h
  split at h
  · rename_i b e
    rcases inB_ok rs e rv ru with ⟨c, z, e1, e2, e3⟩ | ⟨p, xs, e1, e2, e3, e4, e5⟩
    · exact .inl ⟨c, z, e1, e2, by rw [e3]; exact fin_v h rs rfl⟩
    · exact .inr ⟨p, xs, e1, e2, e3, e4, by rw [e5]; exact fin_v h rs rfl⟩
  · exact h.elim
theorem op_inAll {X : Cx} : OpR X (compareOp .In) (rInAll X.K) := OpR.or op_in_sign op_in_seq
theorem op_notInAll {X : Cx} : OpR X (compareOp .NotIn) (rNotInAll X.K) := OpR.or op_notIn_sign op_notIn_seq

/-! ### subscripts, slices -/
def gIx : Vl → Vl → Store → Res Vl
  | .d (.tup ds), .d (.int i), S => match atI ds i with
    | some d => .ok (.d d) S
    | none => .bad
  | .d (.str s), .d (.int i), S => if s.length ≤ sizeLine then match atI s i with
    | some c => .ok (.d (.str [c])) S
    | none => .bad
    else .bad
  | .l n, .d (.int i), S => match lstAt S n with
    | some ds => match atI ds i with
      | some d => .ok (.d d) S
      | none => .bad
    | none => .bad
  | _, _, _ => .bad
theorem RDs.atI {K : PySem.W.Frag} {H : Hp} {ds : List D} {vs : List V} {i : Int} {d : D} (h : RDs K H ds vs) (e : L2.atI ds i = some d) : ∃ v, L2.atI vs i = some v ∧ RD K H d v := by
  unfold L2.atI at e ⊢
  rw [h.length]
  cases q : ixN ds.length i with
  | none => rw [q] at e; cases e
  | some j =>
    rw [q] at e
    exact h.get (i := j) e
theorem od_ix {K : PySem.W.Frag} : OpD K (rIx K) gIx := by
  intro mg W σ A H S v u x y Q rs rv ru h
  unfold gIx at h
  split at h
  · rename_i ds i
    obtain ⟨p, vs, rfl, h1, h2⟩ := rv
    obtain rfl : y = .int i := ru
    split at h
    · rename_i d e
      obtain ⟨w, e1, e2⟩ := h2.atI e
      exact .inr (.inl ⟨p, vs, i, w, rfl, rfl, h1, e1, fin_v h rs e2⟩)
    · exact h.elim
  · rename_i s i
    obtain rfl : x = .str (sOf s) := rv
    obtain rfl : y = .int i := ru
    split at h
    · rename_i c
      split at h
      · rename_i k e
        exact .inr (.inr ⟨sOf s, i, k, rfl, rfl, by rw [sOf_length]; exact c, e, fin_v h rs rfl⟩)
      · exact h.elim
    · exact h.elim
  · rename_i n i
    obtain ⟨p, hp, rfl⟩ := rv
    obtain rfl : y = .int i := ru
    split at h
    · rename_i ds e
      obtain ⟨vs, h1, h2⟩ := lstAt_sq rs hp e
      split at h
      · rename_i d e'
        obtain ⟨w, e1, e2⟩ := h2.atI e'
        exact .inl ⟨p, vs, i, w, rfl, rfl, h1, e1, fin_v h rs e2⟩
      · exact h.elim
    · exact h.elim
  · exact h.elim
theorem s_sub_ix {X : Cx} {W : WX} {pos : Pos} {a b : Expr} {ma mb : DE} (hs : PlainIx b) (ha : SE X W a ma) (hb : SE X W b mb) : SE X W (.Subscript a b pos) (dBin gIx ma mb) := s_ix ix_seq od_ix hs ha hb
abbrev DO := Env → Store → Res (Option Int)
def RO : Hp → List Addr → Option Int → Option Int → Prop := fun _ _ a b => a = b
abbrev SO (X : Cx) (W : WX) (e : Option Expr) (m : DO) : Prop := PO X e (tM X.K X.mg RO W m)
def dONone : DO := fun _ S => .ok none S
def dOSome (m : DE) : DO := fun ρ S => (m ρ S).bind fun v S1 => match v with
  | .d (.int i) => .ok (some i) S1
  | _ => .bad
theorem PO.weak {X : Cx} {e : Option Expr} {t t' : TO} (h : PO X e t) (i : ∀ σ H Q, t' σ H Q → t σ H Q) : PO X e t' := ⟨fun pins s σ H Q I q => h.run pins s σ H Q I (i _ _ _ q)⟩
theorem so_none {X : Cx} {W : WX} : SO X W none dONone := PO.weak po_none fun σ H Q ⟨A, ρ, S, re, rs, h⟩ => h.now (b := none) rs rfl
theorem so_some {X : Cx} {W : WX} {e : Expr} {m : DE} (h : SE X W e m) : SO X W (some e) (dOSome m) := by
  refine PO.weak (po_some h) fun σ H Q ⟨A, ρ, S, re, rs, h⟩ => ?_
  refine tM.mono (tM_bind re rs h) fun x H1 ⟨A1, S1, v, p1, e1, re1, rs1, rv1, h1⟩ => ?_
  split at h1
  · rename_i i
    exact ⟨i, rv1, h1.now (b := some i) rs1 rfl⟩
  · exact h1.elim
def cutL {α : Type} (xs : List α) (lo hi : Option Int) : List α := (xs.drop (HT.sIx xs.length 0 lo)).take (HT.sIx xs.length xs.length hi - HT.sIx xs.length 0 lo)
def gSl : Vl → Option Int → Option Int → Store → Res Vl
  | .d (.tup ds), lo, hi, S => .ok (.d (.tup (cutL ds lo hi))) S
  | .d (.str s), lo, hi, S => if s.length ≤ sizeLine then .ok (.d (.str (cutL s lo hi))) S else .bad
  | .l n, lo, hi, S => match lstAt S n with
    | some ds => .ok (.l S.length) (S ++ [.lst (cutL ds lo hi)])
    | none => .bad
  | _, _, _, _ => .bad
def dSl (m : DE) (ml mh : DO) : DE := fun ρ S => (m ρ S).bind fun v S1 => (ml ρ S1).bind fun l S2 => (mh ρ S2).bind fun h S3 => gSl v l h S3
theorem RDs.cut {K : PySem.W.Frag} {H : Hp} {ds : List D} {vs : List V} (h : RDs K H ds vs) (lo hi : Option Int) : RDs K H (cutL ds lo hi) (cutV vs lo hi) := by
  unfold cutL cutV
  rw [h.length]
  exact (h.drop _).take _
theorem cut_whole {α : Type} {xs : List α} {lo hi : Option Int} (h : HT.sIx xs.length 0 lo = 0 ∧ HT.sIx xs.length xs.length hi = xs.length) : cutL xs lo hi = xs := by
  unfold cutL
  rw [h.1, h.2]
  simp
theorem cutS_of (s : List Nat) (lo hi : Option Int) : cutS (sOf s) lo hi = sOf (cutL s lo hi) := by
  unfold cutS cutL
  rw [sOf_length]
  rfl
abbrev rSlAll (K : PySem.W.Frag) : V → Option Int → Option Int → Hp → VK → Prop := fun x lo hi H Q => rSlA K x lo hi H Q ∨ (rSlS x lo hi H Q ∨ rSlL K x lo hi H Q)
theorem s_slice {X : Cx} {W : WX} {pos p2 : Pos} {e : Expr} {lo hi : Option Expr} {m : DE} {ml mh : DO} (he : SE X W e m) (hl : SO X W lo ml) (hh : SO X W hi mh) : SE X W (.Subscript e (.Slice lo hi none p2) pos) (dSl m ml mh) := by
  refine PE.weak (pe_slice (r := rSlAll X.K) (SlR.or sl_tupA (SlR.or sl_str sl_list)) he hl hh) fun σ H Q ⟨A, ρ, S, re, rs, h⟩ => ?_
  refine tM.mono (tM_bind re rs h) fun x H1 ⟨A1, S1, v, p1, e1, re1, rs1, rv1, h1⟩ => ?_
  refine tM.mono (tM_bind re1 rs1 h1) fun l H2 ⟨A2, S2, l', p2, e2, re2, rs2, rv2, h2⟩ => ?_
  refine tM.mono (tM_bind re2 rs2 h2) fun u H3 ⟨A3, S3, u', p3, e3, re3, rs3, rv3, h3⟩ => ?_
  obtain rfl : l' = l := rv2
  obtain rfl : u' = u := rv3
  have rv := (rv1.up e2 p2).up e3 p3
  unfold gSl at h3
  split at h3
  · rename_i ds lo hi
    obtain ⟨p, vs, rfl, g1, g2⟩ := rv
    refine .inl ⟨p, vs, rfl, g1, fun z => ?_, fun z q hq => fin_tup h3 rs3 (g2.cut _ _) hq⟩
    rw [g2.length] at z
    rw [cut_whole z] at h3
    exact fin_v h3 rs3 ⟨p, vs, rfl, g1, g2⟩
  · rename_i s lo hi
    obtain rfl : x = .str (sOf s) := rv
    split at h3
    · rename_i c
      exact .inr (.inl ⟨sOf s, rfl, by rw [sOf_length]; exact c, by rw [cutS_of]; exact fin_v h3 rs3 rfl⟩)
    · exact h3.elim
  · rename_i n lo hi
    obtain ⟨p, hp, rfl⟩ := rv
    split at h3
    · rename_i ds e'
      obtain ⟨vs, g1, g2⟩ := lstAt_sq rs3 hp e'
      exact .inr (.inr ⟨p, vs, rfl, g1, fun q hq => fin_lst h3 rs3 (g2.cut _ _) hq⟩)
    · exact h3.elim
  · exact h3.elim

/-! ### displays -/
def allD : List Vl → Option (List D)
  | [] => some []
  | .d x :: r => (allD r).map (x :: ·)
  | .l _ :: _ => none
theorem allD_ok {K : PySem.W.Frag} {H : Hp} {A : List Addr} : ∀ {vs : List Vl} {xs : List V} {ds : List D}, allD vs = some ds → RVs K H A vs xs → RDs K H ds xs
  | [], _, _, h, r => by cases h; exact r
  | .d x :: vs, _, _, h, ⟨v, r, h1, h2, h3⟩ => by
    unfold allD at h
    rw [Option.map_eq_some_iff] at h
    obtain ⟨ds, e, rfl⟩ := h
    exact ⟨v, r, h1, h2, allD_ok e h3⟩
  | .l _ :: _, _, _, h, _ => by cases h
def dTup (m : DA) : DE := fun ρ S => (m ρ S).bind fun vs S1 => match allD vs with
  | some ds => if ds.length ≤ sizeLine then .ok (.d (.tup ds)) S1 else .bad
  | none => .bad
def dLst (m : DA) : DE := fun ρ S => (m ρ S).bind fun vs S1 => match allD vs with
  | some ds => if ds.length ≤ sizeLine then .ok (.l S1.length) (S1 ++ [.lst ds]) else .bad
  | none => .bad
theorem s_tup {X : Cx} {W : WX} {pos : Pos} {es : List Expr} {m : DA} {k : Nat} (h : SA X W es m) : SE X W (.Tuple es k pos) (dTup m) := by
  refine PE.weak (pe_tup h) fun σ H Q ⟨A, ρ, S, re, rs, h⟩ => ?_
  refine tM.mono (tM_bind re rs h) fun x H1 ⟨A1, S1, v, p1, e1, re1, rs1, rv1, h1⟩ => ?_
  split at h1
  · rename_i ds e
    have r := allD_ok e rv1
    split at h1
    · rename_i c
      exact ⟨by rw [r.length]; exact c, fun p hp => fin_tup h1 rs1 r hp⟩
    · exact h1.elim
  · exact h1.elim
theorem s_lst {X : Cx} {W : WX} {pos : Pos} {es : List Expr} {m : DA} (h : SA X W es m) : SE X W (.List es pos) (dLst m) := by
  refine PE.weak (pe_lst h) fun σ H Q ⟨A, ρ, S, re, rs, h⟩ => ?_
  refine tM.mono (tM_bind re rs h) fun x H1 ⟨A1, S1, v, p1, e1, re1, rs1, rv1, h1⟩ => ?_
  split at h1
  · rename_i ds e
    have r := allD_ok e rv1
    split at h1
    · rename_i c
      exact ⟨by rw [r.length]; exact c, fun p hp => fin_lst h1 rs1 r hp⟩
    · exact h1.elim
  · exact h1.elim

/-! ### a < b < c -/
def RBV : Hp → List Addr → Bool → V → Prop := fun _ _ a x => x = .bl a
theorem w_chain {X : Cx} {W : WX} {ma mb mc : DE} {r r' : R2} {g g' : Vl → Vl → Store → Res Vl} (hr : OpD X.K r g) (hr' : OpD X.K r' g') {σ : L2.St} {H : Hp} {Q : VK} (h : tE X.K X.mg W (dChain g g' ma mb mc) σ H Q) :
    tChain r r' (tE X.K X.mg W ma) (tE X.K X.mg W mb) (tE X.K X.mg W mc) σ H Q := by
  obtain ⟨A, ρ, S, re, rs, h⟩ := h
  refine tM.mono (tM_bind re rs h) fun x H1 ⟨A1, S1, v, p1, e1, re1, rs1, rv1, h1⟩ => ?_
  refine tM.mono (tM_bind re1 rs1 h1) fun y H2 ⟨A2, S2, u, p2, e2, re2, rs2, rv2, h2⟩ => ?_
  refine hr X.mg W σ A2 H2 S2 v u x y _ rs2 (rv1.up e2 p2) rv2 ?_
  cases e : g v u S2 with
  | ok k S3 =>
    rw [e] at h2
    refine fun A3 H3 z p3 e3 rs3 rz => ?_
    cases k with
    | l n => exact h2.elim
    | d k =>
      cases k with
      | bl k =>
        refine ⟨k, rz, ?_⟩
        have h3 := Fin.up p3 e3 h2
        cases k with
        | true =>
          refine tM.mono (tM_bind (re2.up e3 p3) rs3 h3) fun w' H4 ⟨A4, S4, z', p4, e4, re4, rs4, rv4, h4⟩ => ?_
          exact hr' X.mg W σ A4 H4 S4 u z' y w' Q rs4 ((rv2.up e3 p3).up e4 p4) rv4 h4
        | false => exact h3.now (b := V.bl false) rs3 rfl
      | _ => exact h2.elim
  | er x' S3 => rw [e] at h2; exact h2
  | bad => rw [e] at h2; exact h2
theorem s_chain {X : Cx} {W : WX} {pos : Pos} {a b c : Expr} {ma mb mc : DE} {op op' : CmpOp} {r r' : R2} {g g' : Vl → Vl → Store → Res Vl} (ho : OpR X (compareOp op) r) (ho' : OpR X (compareOp op') r') (hr : OpD X.K r g) (hr' : OpD X.K r' g')
    (ha : SE X W a ma) (hb : SE X W b mb) (hc : SE X W c mc) (hm : lastMarks [op, op'] [b, c] = false := by with_unfolding_all rfl) : SE X W (.Compare a [op, op'] [b, c] pos) (dChain g g' ma mb mc) :=
  PE.weak (pe_chain ho ho' ha hb hc hm) fun _ _ _ => w_chain hr hr'
theorem st_chain {X : Cx} {W : WX} {pos : Pos} {a b c : Expr} {ma mb mc : DE} {op op' : CmpOp} {r r' : R2} {g g' : Vl → Vl → Store → Res Vl} (ho : OpR X (compareOp op) r) (ho' : OpR X (compareOp op') r') (hr : OpD X.K r g) (hr' : OpD X.K r' g')
    (ha : SE X W a ma) (hb : SE X W b mb) (hc : SE X W c mc) (hm : lastMarks [op, op'] [b, c] = false := by with_unfolding_all rfl) : ST X W (.Compare a [op, op'] [b, c] pos) (dBT (dChain g g' ma mb mc)) :=
  PT.weak (pt_chain ho ho' ha hb hc hm) fun _ _ _ h => w_chain hr hr' (w_bt h)
end DL
end

section
set_option Elab.async false
set_option linter.all false
set_option maxRecDepth 100000
set_option autoImplicit false
set_option maxHeartbeats 400000
namespace DL
open PySem L2 TL

/-! ### calls of built-ins -/
abbrev GA := List Vl → Store → Res Vl
def dCB (g : GA) (m : DA) : DE := fun ρ S => (m ρ S).bind g
def CaD (K : PySem.W.Frag) (r : List V → Hp → VK → Prop) (g : GA) : Prop :=
  ∀ (mg : Str → Option Value) (W : WX) (σ : L2.St) (A : List Addr) (H : Hp) (S : Store) (vs : List Vl) (xs : List V) (Q : VK), RS K H A S → RVs K H A vs xs → Fin K mg (RV K) W σ A H (g vs S) Q → r xs H Q
theorem w_cb {X : Cx} {W : WX} {m : DA} {r : List V → Hp → VK → Prop} {g : GA} (hr : CaD X.K r g) {σ : L2.St} {H : Hp} {Q : VK} (h : tE X.K X.mg W (dCB g m) σ H Q) : tCB r (tAr X.K X.mg W m) σ H Q := by
  obtain ⟨A, ρ, S, re, rs, h⟩ := h
  refine tM.mono (tM_bind re rs h) fun x H1 ⟨A1, S1, v, p1, e1, re1, rs1, rv1, h1⟩ => ?_
  exact hr X.mg W σ A1 H1 S1 v x Q rs1 rv1 h1
section
variable {X : Cx} {W : WX} {x : Str} {p pos : Pos} {e : Expr} {es : List Expr} {m : DA} {id T : String} {r : List V → Hp → VK → Prop} {g : GA}
theorem s_cb (hd : CaD X.K r g) (hc : CallR X (.builtin id) r) (hg : Gl X x) (hm : X.mg x = none) (hv : bootBuiltins x = some (.builtin id)) (ha : SA X W (e :: es) m) (hn : x ≠ "__name__" := by decide) (hdb : (x == ("__debug__" : Str)) = false := by decide)
    (he : starEach (e :: es) X.env = (false, eval e X.env) :: starEach es X.env := by rfl) (hpl : (backTo pos (starEach es X.env)).any (·.1) = false := by rfl) : SE X W (.Call (.Name x p) (e :: es) [] pos) (dCB g m) :=
  PE.weak (pe_callB hc hg hm hv ha hn hdb he hpl) fun _ _ _ => w_cb hd
theorem s_ct (hd : CaD X.K r g) (hc : CallR X (.type T) r) (hg : Gl X x) (hm : X.mg x = none) (hv : bootBuiltins x = some (.type T)) (ha : SA X W (e :: es) m) (hn : x ≠ "__name__" := by decide) (hdb : (x == ("__debug__" : Str)) = false := by decide)
    (he : starEach (e :: es) X.env = (false, eval e X.env) :: starEach es X.env := by rfl) (hpl : (backTo pos (starEach es X.env)).any (·.1) = false := by rfl) : SE X W (.Call (.Name x p) (e :: es) [] pos) (dCB g m) :=
  PE.weak (pe_callTy hc hg hm hv ha hn hdb he hpl) fun _ _ _ => w_cb hd
end
theorem RVs.one {K : PySem.W.Frag} {H : Hp} {A : List Addr} {v : Vl} {xs : List V} (h : RVs K H A [v] xs) : ∃ x, xs = [x] ∧ RV K H A v x := by
  obtain ⟨x, r, rfl, h2, h3⟩ := h
  obtain rfl : r = [] := h3
  exact ⟨x, rfl, h2⟩
theorem RVs.two {K : PySem.W.Frag} {H : Hp} {A : List Addr} {v u : Vl} {xs : List V} (h : RVs K H A [v, u] xs) : ∃ x y, xs = [x, y] ∧ RV K H A v x ∧ RV K H A u y := by
  obtain ⟨x, r, rfl, h2, h3⟩ := h
  obtain ⟨y, rfl, h4⟩ := RVs.one h3
  exact ⟨x, y, rfl, h2, h4⟩
/-! len -/
def gLen : GA
  | [.d (.str s)], S => if s.length ≤ sizeLine then .ok (.d (.int s.length)) S else .bad
  | [.d (.tup ds)], S => .ok (.d (.int ds.length)) S
  | [.l n], S => match lstAt S n with
    | some ds => .ok (.d (.int ds.length)) S
    | none => .bad
  | _, _ => .bad
theorem cd_len {K : PySem.W.Frag} : CaD K (fun xs H Q => ∃ x n, xs = [x] ∧ LenV K x H n ∧ Q (.int n) H) gLen := by
  intro mg W σ A H S vs xs Q rs rv h
  unfold gLen at h
  split at h
  · rename_i s
    obtain ⟨x, rfl, rx⟩ := rv.one
    obtain rfl : x = .str (sOf s) := rx
    split at h
    · rename_i c
      exact ⟨_, s.length, rfl, ⟨by rw [sOf_length]; exact c, (sOf_length s).symm⟩, fin_v h rs rfl⟩
    · exact h.elim
  · rename_i ds
    obtain ⟨x, rfl, a, us, rfl, h1, h2⟩ := rv.one
    exact ⟨_, ds.length, rfl, .inr ⟨us, h1, h2.length.symm⟩, fin_v h rs rfl⟩
  · rename_i n
    obtain ⟨x, rfl, a, ha, rfl⟩ := rv.one
    split at h
    · rename_i ds e
      obtain ⟨us, h1, h2⟩ := lstAt_sq rs ha e
      exact ⟨_, ds.length, rfl, .inl ⟨us, h1, h2.length.symm⟩, fin_v h rs rfl⟩
    · exact h.elim
  · exact h.elim
/-! int, abs, min, max of ints -/
def gInt1 : GA
  | [.d (.int i)], S => .ok (.d (.int i)) S
  | [.d (.bl b)], S => .ok (.d (.int (if b then 1 else 0))) S
  | _, _ => .bad
theorem cd_int {K : PySem.W.Frag} : CaD K (fun xs H Q => (∃ i, xs = [.int i] ∧ Q (.int i) H) ∨ ∃ k, xs = [.bl k] ∧ Q (.int (if k then 1 else 0)) H) gInt1 := by
  intro mg W σ A H S vs xs Q rs rv h
  unfold gInt1 at h
  split at h
  · obtain ⟨x, rfl, rx⟩ := rv.one
    obtain rfl : x = .int _ := rx
    exact .inl ⟨_, rfl, fin_v h rs rfl⟩
  · obtain ⟨x, rfl, rx⟩ := rv.one
    obtain rfl : x = .bl _ := rx
    exact .inr ⟨_, rfl, fin_v h rs rfl⟩
  · exact h.elim
def gAbs : GA
  | [.d (.int i)], S => .ok (.d (.int (if i < 0 then -i else i))) S
  | _, _ => .bad
theorem cd_abs {K : PySem.W.Frag} : CaD K (fun xs H Q => ∃ i, xs = [.int i] ∧ Q (.int (if i < 0 then -i else i)) H) gAbs := by
  intro mg W σ A H S vs xs Q rs rv h
  unfold gAbs at h
  split at h
  · obtain ⟨x, rfl, rx⟩ := rv.one
    obtain rfl : x = .int _ := rx
    exact ⟨_, rfl, fin_v h rs rfl⟩
  · exact h.elim
def gI2 (f : Int → Int → Int) : GA
  | [.d (.int i), .d (.int j)], S => .ok (.d (.int (f i j))) S
  | _, _ => .bad
def gMax := gI2 fun i j => if j > i then j else i
def gMin := gI2 fun i j => if j < i then j else i
theorem cd_I2 {K : PySem.W.Frag} {f : Int → Int → Int} : CaD K (fun xs H Q => ∃ i j, xs = [.int i, .int j] ∧ Q (.int (f i j)) H) (gI2 f) := by
  intro mg W σ A H S vs xs Q rs rv h
  unfold gI2 at h
  split at h
  · obtain ⟨x, y, rfl, rx, ry⟩ := rv.two
    obtain rfl : x = .int _ := rx
    obtain rfl : y = .int _ := ry
    exact ⟨_, _, rfl, fin_v h rs rfl⟩
  · exact h.elim
/-! tuple, list -/
def gTuple : GA
  | [.d (.tup ds)], S => .ok (.d (.tup ds)) S
  | [.l n], S => match lstAt S n with
    | some ds => .ok (.d (.tup ds)) S
    | none => .bad
  | _, _ => .bad
theorem cd_tuple {K : PySem.W.Frag} : CaD K (fun xs H Q => ∃ p ys, xs = [.ref p] ∧ ((SqL K H p ys ∧ ∀ l, H l = none → Q (.ref l) (upd H l (.tup ys))) ∨ (SqT K H p ys ∧ Q (.ref p) H))) gTuple := by
  intro mg W σ A H S vs xs Q rs rv h
  unfold gTuple at h
  split at h
  · rename_i ds
    obtain ⟨x, rfl, a, us, rfl, h1, h2⟩ := rv.one
    exact ⟨a, us, rfl, .inr ⟨h1, fin_v h rs ⟨a, us, rfl, h1, h2⟩⟩⟩
  · rename_i n
    obtain ⟨x, rfl, a, ha, rfl⟩ := rv.one
    split at h
    · rename_i ds e
      obtain ⟨us, h1, h2⟩ := lstAt_sq rs ha e
      exact ⟨a, us, rfl, .inl ⟨h1, fun l hl => fin_tup h rs h2 hl⟩⟩
    · exact h.elim
  · exact h.elim
def chars (s : List Nat) : List D := s.map fun c => .str [c]
def gList : GA
  | [.d (.tup ds)], S => .ok (.l S.length) (S ++ [.lst ds])
  | [.d (.str s)], S => if s.length ≤ sizeLine then .ok (.l S.length) (S ++ [.lst (chars s)]) else .bad
  | [.l n], S => match lstAt S n with
    | some ds => .ok (.l S.length) (S ++ [.lst ds])
    | none => .bad
  | _, _ => .bad
theorem RDs.chars {K : PySem.W.Frag} {H : Hp} : ∀ s : List Nat, RDs K H (DL.chars s) (s.map fun c => V.str ⟨#[c]⟩)
  | [] => rfl
  | c :: r => ⟨_, _, rfl, rfl, RDs.chars r⟩
theorem call_list_strD {X : Cx} (hc : X.calm = true) : CallR X (.type "list") (fun xs H Q => ∃ z : Str, xs = [.str z] ∧ z.length ≤ sizeLine ∧ ∀ l, H l = none → Q (.ref l) (upd H l (.lst (z.cps.toList.map fun c => V.str ⟨#[c]⟩)))) := by
  intro pins s σ H xs us Q I r h
  obtain ⟨z, rfl, hz, q⟩ := h
  obtain ⟨u, rfl, ru⟩ := vals1 r
  obtain ⟨t, rfl⟩ := ru
  refine call_list_str (I.ok.hd hc) z t (fun h' tk acc c' hk e hi => ?_) hz
  obtain ⟨hi1, hi2⟩ := hi
  have hv : Vals (z.cps.toList.map fun c => V.str ⟨#[c]⟩) acc.toList := by
    have hl : acc.toList.length = z.cps.toList.length := by rw [Array.length_toList, hi1, Array.length_toList]
    have key : ∀ (cs : List Nat) (us : List Value), us.length = cs.length → (∀ (j : Nat) (u : Value), us[j]? = some u → ∃ c, cs[j]? = some c ∧ ∃ t, u = Value.str ⟨#[c]⟩ t) → Vals (cs.map fun c => V.str ⟨#[c]⟩) us := by
      intro cs
      induction cs with
      | nil => intro us h1 _; cases us with
        | nil => exact .nil
        | cons _ _ => simp at h1
      | cons c r ih =>
        intro us h1 h2
        cases us with
        | nil => simp at h1
        | cons u ur =>
          obtain ⟨c', e1, e2⟩ := h2 0 u rfl
          simp at e1
          subst e1
          exact .cons e2 (ih ur (by simpa using h1) fun j w hj => by simpa using h2 (j + 1) w (by simpa using hj))
    refine key _ _ hl fun j u hj => ?_
    have := hi2 j u (by rw [← hj, Array.getElem?_toList])
    obtain ⟨c, t', e1, e2⟩ := this
    exact ⟨c, by rw [Array.getElem?_toList]; exact e1, t', e2⟩
  refine ⟨.ref s.heap.objs.size, upd H s.heap.objs.size (.lst _), I.laid hk (Nat.le_refl _) ⟨?_, acc.toList, c', hv, ?_⟩, rfl, q _ (I.hok.fresh (Nat.le_refl _))⟩
  · rw [List.length_map]; simpa [Str.length] using hz
  · rw [Array.toArray_toList]; exact e
abbrev rListAll (K : PySem.W.Frag) : List V → Hp → VK → Prop := fun xs H Q => (∃ p ys, xs = [.ref p] ∧ (SqL K H p ys ∨ SqT K H p ys) ∧ ∀ l, H l = none → Q (.ref l) (upd H l (.lst ys))) ∨ (∃ z : Str, xs = [.str z] ∧ z.length ≤ sizeLine ∧ ∀ l, H l = none → Q (.ref l) (upd H l (.lst (z.cps.toList.map fun c => V.str ⟨#[c]⟩))))
theorem call_listAll {X : Cx} (hc : X.calm = true) : CallR X (.type "list") (rListAll X.K) := CallR.or call_list_of (call_list_strD hc)
theorem cd_list {K : PySem.W.Frag} : CaD K (rListAll K) gList := by
  intro mg W σ A H S vs xs Q rs rv h
  unfold gList at h
  split at h
  · rename_i ds
    obtain ⟨x, rfl, a, us, rfl, h1, h2⟩ := rv.one
    exact .inl ⟨a, us, rfl, .inr h1, fun l hl => fin_lst h rs h2 hl⟩
  · rename_i s
    obtain ⟨x, rfl, rx⟩ := rv.one
    obtain rfl : x = .str (sOf s) := rx
    split at h
    · rename_i c
      exact .inr ⟨_, rfl, by rw [sOf_length]; exact c, fun l hl => fin_lst h rs (RDs.chars s) hl⟩
    · exact h.elim
  · rename_i n
    obtain ⟨x, rfl, a, ha, rfl⟩ := rv.one
    split at h
    · rename_i ds e
      obtain ⟨us, h1, h2⟩ := lstAt_sq rs ha e
      exact .inl ⟨a, us, rfl, .inl h1, fun l hl => fin_lst h rs h2 hl⟩
    · exact h.elim
  · exact h.elim
/-! list(range(..)) -/
def rngD (a b : Int) : List D := (List.range (b - a).toNat).map fun i => D.int (a + (i : Nat))
def rgOk (a b : Int) : Bool := decide (-(2 ^ 62) ≤ a) && decide (a < 2 ^ 62) && decide (-(2 ^ 62) ≤ b) && decide (b < 2 ^ 62) && decide ((b - a).toNat ≤ 2 ^ 24)
theorem rgOk_ok {a b : Int} (h : rgOk a b = true) : RgOk a b := by
  unfold rgOk at h
  simp only [Bool.and_eq_true, decide_eq_true_eq] at h
  exact ⟨h.1.1.1.1, h.1.1.1.2, h.1.1.2, h.1.2, h.2⟩
theorem RDs.rng {K : PySem.W.Frag} {H : Hp} (a b : Int) : RDs K H (rngD a b) (rgV a b) := by
  unfold rngD rgV
  generalize List.range (b - a).toNat = l
  induction l with
  | nil => rfl
  | cons i r ih => exact ⟨_, _, rfl, rfl, ih⟩
def dListRg1 (m : DE) : DE := fun ρ S => (m ρ S).bind fun v S1 => match v with
  | .d (.int j) => if rgOk 0 j = true then .ok (.l S1.length) (S1 ++ [.lst (rngD 0 j)]) else .bad
  | _ => .bad
def dListRg2 (m k : DE) : DE := fun ρ S => (m ρ S).bind fun v S1 => (k ρ S1).bind fun u S2 => match v, u with
  | .d (.int i), .d (.int j) => if rgOk i j = true then .ok (.l S2.length) (S2 ++ [.lst (rngD i j)]) else .bad
  | _, _ => .bad
theorem s_listRg1 {X : Cx} {W : WX} {p pos p2 pos2 : Pos} {a : Expr} {m : DE} (hc : X.calm = true) (hg : Gl X "list") (hm : X.mg "list" = none) (hg2 : Gl X "range") (hm2 : X.mg "range" = none) (ha : SE X W a m)
    (na : starEach [.Call (.Name "range" p2) [a] [] pos2] X.env = (false, eval (.Call (.Name "range" p2) [a] [] pos2) X.env) :: starEach [] X.env := by rfl) (na2 : starEach [a] X.env = (false, eval a X.env) :: starEach [] X.env := by rfl) :
    SE X W (.Call (.Name "list" p) [.Call (.Name "range" p2) [a] [] pos2] [] pos) (dListRg1 m) := by
  refine PE.weak (pe_listRg hc hg hm (prg_1 hg2 hm2 ha na2) na) fun σ H Q ⟨A, ρ, S, re, rs, h⟩ => ?_
  refine tM.mono (tM_bind re rs h) fun x H1 ⟨A1, S1, v, p1, e1, re1, rs1, rv1, h1⟩ => ?_
  split at h1
  · rename_i j
    split at h1
    · rename_i c
      exact ⟨j, rv1, rgOk_ok c, fun q hq => fin_lst h1 rs1 (RDs.rng 0 j) hq⟩
    · exact h1.elim
  · exact h1.elim
theorem s_listRg2 {X : Cx} {W : WX} {p pos p2 pos2 : Pos} {a b : Expr} {m k : DE} (hc : X.calm = true) (hg : Gl X "list") (hm : X.mg "list" = none) (hg2 : Gl X "range") (hm2 : X.mg "range" = none) (ha : SE X W a m) (hb : SE X W b k)
    (na : starEach [.Call (.Name "range" p2) [a, b] [] pos2] X.env = (false, eval (.Call (.Name "range" p2) [a, b] [] pos2) X.env) :: starEach [] X.env := by rfl)
    (na2 : starEach [a, b] X.env = (false, eval a X.env) :: starEach [b] X.env := by rfl) (na3 : starEach [b] X.env = (false, eval b X.env) :: starEach [] X.env := by rfl) (hp : (backTo pos2 (starEach [b] X.env)).any (·.1) = false := by rfl) :
    SE X W (.Call (.Name "list" p) [.Call (.Name "range" p2) [a, b] [] pos2] [] pos) (dListRg2 m k) := by
  refine PE.weak (pe_listRg hc hg hm (prg_2 hg2 hm2 ha hb na2 na3 hp) na) fun σ H Q ⟨A, ρ, S, re, rs, h⟩ => ?_
  refine tM.mono (tM_bind re rs h) fun x H1 ⟨A1, S1, v, p1, e1, re1, rs1, rv1, h1⟩ => ?_
  refine tM.mono (tM_bind re1 rs1 h1) fun y H2 ⟨A2, S2, u, p2, e2, re2, rs2, rv2, h2⟩ => ?_
  match v, u, rv1, rv2, h2 with
  | .d (.int i), .d (.int j), rv1, rv2, h2 =>
    by_cases c : rgOk i j = true
    · simp only [c, if_true] at h2
      exact ⟨i, j, rv1, rv2, rgOk_ok c, fun q hq => fin_lst h2 rs2 (RDs.rng i j) hq⟩
    · simp only [c] at h2
      exact h2.elim
  | .l _, _, _, _, h2 => exact h2.elim
  | .d .non, _, _, _, h2 => exact h2.elim
  | .d (.bl _), _, _, _, h2 => exact h2.elim
  | .d (.str _), _, _, _, h2 => exact h2.elim
  | .d (.tup _), _, _, _, h2 => exact h2.elim
  | .d (.int _), .l _, _, _, h2 => exact h2.elim
  | .d (.int _), .d .non, _, _, h2 => exact h2.elim
  | .d (.int _), .d (.bl _), _, _, h2 => exact h2.elim
  | .d (.int _), .d (.str _), _, _, h2 => exact h2.elim
  | .d (.int _), .d (.tup _), _, _, h2 => exact h2.elim
/-! all, any of bools -/
def bools : List D → Option (List Bool)
  | [] => some []
  | .bl b :: r => (bools r).map (b :: ·)
  | _ :: _ => none
theorem bools_ok {K : PySem.W.Frag} {H : Hp} : ∀ {ds : List D} {bs : List Bool} {vs : List V}, bools ds = some bs → RDs K H ds vs → vs = bs.map V.bl
  | [], _, _, h, r => by cases h; exact r
  | .bl b :: ds, _, _, h, ⟨v, r, h1, h2, h3⟩ => by
    subst h1
    unfold bools at h
    rw [Option.map_eq_some_iff] at h
    obtain ⟨bs, e, rfl⟩ := h
    rw [List.map_cons, ← bools_ok e h3, show v = V.bl b from h2]
  | .non :: _, _, _, h, _ => by cases h
  | .int _ :: _, _, _, h, _ => by cases h
  | .str _ :: _, _, _, h, _ => by cases h
  | .tup _ :: _, _, _, h, _ => by cases h
def gBools (f : List Bool → Bool) : GA
  | [.l n], S => match lstAt S n with
    | some ds => match bools ds with
      | some bs => .ok (.d (.bl (f bs))) S
      | none => .bad
    | none => .bad
  | _, _ => .bad
def gAll := gBools fun bs => bs.all id
def gAny := gBools fun bs => bs.any id
theorem cd_bools {K : PySem.W.Frag} {f : List Bool → Bool} : CaD K (fun vs H Q => ∃ (a : Addr) (bs : List Bool), vs = [V.ref a] ∧ SqL K H a (bs.map V.bl) ∧ Q (.bl (f bs)) H) (gBools f) := by
  intro mg W σ A H S vs xs Q rs rv h
  unfold gBools at h
  split at h
  · rename_i n
    obtain ⟨x, rfl, a, ha, rfl⟩ := rv.one
    split at h
    · rename_i ds e
      obtain ⟨us, h1, h2⟩ := lstAt_sq rs ha e
      split at h
      · rename_i bs eb
        have := bools_ok eb h2
        subst this
        exact ⟨a, bs, rfl, h1, fin_v h rs rfl⟩
      · exact h.elim
    · exact h.elim
  · exact h.elim
/-! str(n) -/
def strI (i : Int) : List Nat := tl (toString i : String)
def gStr : GA
  | [.d (.int i)], S => if i.natAbs.log2 < 1920 then .ok (.d (.str (strI i))) S else .bad
  | _, _ => .bad
theorem cd_str {K : PySem.W.Frag} : CaD K (fun xs H Q => ∃ i : Int, xs = [.int i] ∧ i.natAbs.log2 < 1920 ∧ Q (.str (toString i)) H) gStr := by
  intro mg W σ A H S vs xs Q rs rv h
  unfold gStr at h
  split at h
  · rename_i i
    obtain ⟨x, rfl, rx⟩ := rv.one
    obtain rfl : x = .int i := rx
    split at h
    · rename_i c
      exact ⟨i, rfl, c, fin_v h rs (by show V.str _ = V.str (sOf (strI i)); unfold strI; rw [sOf_of])⟩
    · exact h.elim
  · exact h.elim
end DL
end

section
set_option Elab.async false
set_option linter.all false
set_option maxRecDepth 100000
set_option autoImplicit false
set_option maxHeartbeats 400000
namespace DL
open PySem L2 TL

/-! ### methods of lists and texts -/
abbrev GM := Vl → List Vl → Store → Res Vl
def isLst (v : Vl) (S : Store) : Bool := match v with
  | .l n => (lstAt S n).isSome
  | _ => false
def isStr (v : Vl) (_ : Store) : Bool := match v with
  | .d (.str _) => true
  | _ => false
def dBM (ty : Vl → Store → Bool) (g : GM) (mo : DE) (ma : DA) : DE := fun ρ S => (mo ρ S).bind fun v S1 => if ty v S1 = true then (ma ρ S1).bind fun us S2 => g v us S2 else .bad
def MtD (K : PySem.W.Frag) (r : V → List V → Hp → VK → Prop) (g : GM) : Prop :=
  ∀ (mg : Str → Option Value) (W : WX) (σ : L2.St) (A : List Addr) (H : Hp) (S : Store) (v : Vl) (x : V) (vs : List Vl) (xs : List V) (Q : VK), RS K H A S → RV K H A v x → RVs K H A vs xs → Fin K mg (RV K) W σ A H (g v vs S) Q → r x xs H Q
def TyD (K : PySem.W.Frag) (T : String) (ty : Vl → Store → Bool) : Prop := ∀ (A : List Addr) (H : Hp) (S : Store) (v : Vl) (x : V), RS K H A S → RV K H A v x → ty v S = true → tyV K T x H
theorem td_lst {K : PySem.W.Frag} : TyD K "list" isLst := by
  intro A H S v x rs rv h
  unfold isLst at h
  split at h
  · rename_i n
    obtain ⟨a, ha, rfl⟩ := rv
    obtain ⟨ds, e⟩ := Option.isSome_iff_exists.mp h
    obtain ⟨vs, h1, _⟩ := lstAt_sq rs ha e
    exact .inl ⟨rfl, vs, h1⟩
  · cases h
theorem td_str {K : PySem.W.Frag} : TyD K "str" isStr := by
  intro A H S v x rs rv h
  unfold isStr at h
  split at h
  · rename_i s
    rw [show x = V.str (sOf s) from rv]
    rfl
  · cases h
section
variable {X : Cx} {W : WX} {o e : Expr} {es : List Expr} {name : Str} {apos cpos : Pos} {T id : String} {r : V → List V → Hp → VK → Prop} {mo : DE} {ma : DA} {g : GM} {ty : Vl → Store → Bool}
theorem s_bm0 (hd : MtD X.K r g) (ht : TyD X.K T ty) (pa : PlainAttrs T) (slot : Slot T name id) (hty : typeOf (.builtin id) = pure (.type "method_descriptor")) (hm : MtR X id r) (ho : SE X W o mo)
    (hbase : attributeBase o name X.env (eval o X.env) = eval o X.env := by rfl) (hline : (apos.endLine == cpos.line) = true := by rfl) : SE X W (.Call (.Attribute o name apos) [] [] cpos) (dBM ty g mo dNil) := by
  refine PE.weak (pe_bm0 pa slot hty hm ho hbase hline) fun σ H Q ⟨A, ρ, S, re, rs, h⟩ => ?_
  refine tM.mono (tM_bind re rs h) fun x H1 ⟨A1, S1, v, p1, e1, re1, rs1, rv1, h1⟩ => ?_
  split at h1
  · rename_i c
    exact ⟨ht A1 H1 S1 v x rs1 rv1 c, hd X.mg W σ A1 H1 S1 v x [] [] Q rs1 rv1 rfl h1⟩
  · exact h1.elim
theorem s_bm (hd : MtD X.K r g) (ht : TyD X.K T ty) (pa : PlainAttrs T) (slot : Slot T name id) (hty : typeOf (.builtin id) = pure (.type "method_descriptor")) (hm : MtR X id r) (ho : SE X W o mo) (ha : SA X W (e :: es) ma)
    (hbase : attributeBase o name X.env (eval o X.env) = eval o X.env := by rfl)
    (hfew : ((backTo cpos (starEach (e :: es) X.env)).all (fun x => !x.1) && (backToKw cpos (keywordEach [] X.env)).all (fun x => x.1.isSome)
      && decide ((e :: es).length + ([] : List Keyword).length + (if ([] : List Keyword).isEmpty then 0 else 1) < 30)) = true := by rfl)
    (hline : (apos.endLine == cpos.line) = true := by rfl) (hs : starEach (e :: es) X.env = (false, eval e X.env) :: starEach es X.env := by rfl) (hplain : (backTo cpos (starEach es X.env)).any (·.1) = false := by rfl) :
    SE X W (.Call (.Attribute o name apos) (e :: es) [] cpos) (dBM ty g mo ma) := by
  refine PE.weak (pe_bm pa slot hty hm ho ha hbase hfew hline hs hplain) fun σ H Q ⟨A, ρ, S, re, rs, h⟩ => ?_
  refine tM.mono (tM_bind re rs h) fun x H1 ⟨A1, S1, v, p1, e1, re1, rs1, rv1, h1⟩ => ?_
  split at h1
  · rename_i c
    refine ⟨ht A1 H1 S1 v x rs1 rv1 c, tM.mono (tM_bind re1 rs1 h1) fun y H2 ⟨A2, S2, u, p2, e2, re2, rs2, rv2, h2⟩ => ?_⟩
    exact hd X.mg W σ A2 H2 S2 v x u y Q rs2 (rv1.up e2 p2) rv2 h2
  · exact h1.elim
end
def gAppend : GM
  | .l n, [.d x], S => match S[n]? with
    | some (.lst ds) => if ds.length < sizeLine then .ok (.d .non) (S.set n (.lst (ds ++ [x]))) else .bad
    | _ => .bad
  | _, _, _ => .bad
theorem md_append {K : PySem.W.Frag} : MtD K rAppend gAppend := by
  intro mg W σ A H S v x vs xs Q rs rv rvs h
  unfold gAppend at h
  split at h
  · rename_i n d
    obtain ⟨a, ha, rfl⟩ := rv
    obtain ⟨y, rfl, ry⟩ := rvs.one
    split at h
    · rename_i ds e
      obtain ⟨us, h1, h2⟩ := rs.cell _ _ _ ha e
      split at h
      · rename_i c
        exact ⟨a, us, y, rfl, rfl, h1, by rw [h2.length]; exact c, fin_set h rs ha e (h2.append (RDs.one ry)) rfl⟩
      · exact h.elim
    · exact h.elim
  · exact h.elim
def gPop : GM
  | .l n, [], S => match S[n]? with
    | some (.lst ds) => match ds[ds.length - 1]? with
      | some x => .ok (.d x) (S.set n (.lst ds.dropLast))
      | none => .bad
    | _ => .bad
  | _, _, _ => .bad
theorem fin_set' {K : PySem.W.Frag} {mg : Str → Option Value} {W : WX} {σ : L2.St} {A : List Addr} {H : Hp} {S : Store} {Q : VK} {n : Nat} {ds ds' : List D} {vs' : List V} {a : Addr} {d : D} {x : V} (h : Fin K mg (RV K) W σ A H (.ok (.d d) (S.set n (.lst ds'))) Q) (rs : RS K H A S) (ha : A[n]? = some a) (hs : S[n]? = some (.lst ds)) (r : RDs K H ds' vs') (q : RD K H d x) : Q x (upd H a (.lst vs')) :=
  fin_set h rs ha hs r q
theorem md_pop {K : PySem.W.Frag} : MtD K rPop gPop := by
  intro mg W σ A H S v x vs xs Q rs rv rvs h
  unfold gPop at h
  split at h
  · rename_i n
    obtain ⟨a, ha, rfl⟩ := rv
    obtain rfl : xs = [] := rvs
    split at h
    · rename_i ds e
      obtain ⟨us, h1, h2⟩ := rs.cell _ _ _ ha e
      split at h
      · rename_i d e'
        obtain ⟨y, e2, ry⟩ := h2.get e'
        exact ⟨a, us, y, rfl, rfl, h1, by rw [h2.length]; exact e2, fin_set' h rs ha e h2.dropLast ry⟩
      · exact h.elim
    · exact h.elim
  · exact h.elim
def gPopAt : GM
  | .l n, [.d (.int i)], S => match S[n]? with
    | some (.lst ds) => match ixN ds.length i with
      | some k => match ds[k]? with
        | some x => if (decide (-(2 ^ 62) ≤ i) && decide (i < 2 ^ 62)) = true then .ok (.d x) (S.set n (.lst (ds.eraseIdx k))) else .bad
        | none => .bad
      | none => .bad
    | _ => .bad
  | _, _, _ => .bad
theorem md_popAt {K : PySem.W.Frag} : MtD K rPopAt gPopAt := by
  intro mg W σ A H S v x vs xs Q rs rv rvs h
  unfold gPopAt at h
  split at h
  · rename_i n i
    obtain ⟨a, ha, rfl⟩ := rv
    obtain ⟨y, rfl, ry⟩ := rvs.one
    obtain rfl : y = .int i := ry
    split at h
    · rename_i ds e
      obtain ⟨us, h1, h2⟩ := rs.cell _ _ _ ha e
      split at h
      · rename_i k ek
        split at h
        · rename_i d e'
          split at h
          · rename_i c
            simp at c
            obtain ⟨y, e2, ry⟩ := h2.get e'
            exact ⟨a, us, i, k, y, rfl, rfl, h1, by omega, by omega, by rw [h2.length]; exact (ixN_seq ek).1, e2, fin_set' h rs ha e (h2.eraseIdx k) ry⟩
          · exact h.elim
        · exact h.elim
      · exact h.elim
    · exact h.elim
  · exact h.elim
abbrev rPopAll : V → List V → Hp → VK → Prop := rPop
/-! join -/
def strsD : List D → Option (List (List Nat))
  | [] => some []
  | .str s :: r => (strsD r).map (s :: ·)
  | _ :: _ => none
theorem strsD_ok {K : PySem.W.Frag} {H : Hp} : ∀ {ds : List D} {ss : List (List Nat)} {vs : List V}, strsD ds = some ss → RDs K H ds vs → vs = (ss.map sOf).map V.str
  | [], _, _, h, r => by cases h; exact r
  | .str s :: ds, _, _, h, ⟨v, r, h1, h2, h3⟩ => by
    subst h1
    unfold strsD at h
    rw [Option.map_eq_some_iff] at h
    obtain ⟨bs, e, rfl⟩ := h
    rw [List.map_cons, List.map_cons, ← strsD_ok e h3, show v = V.str (sOf s) from h2]
  | .non :: _, _, _, h, _ => by cases h
  | .int _ :: _, _, _, h, _ => by cases h
  | .bl _ :: _, _, _, h, _ => by cases h
  | .tup _ :: _, _, _, h, _ => by cases h
def gJoin : GM
  | .d (.str s), [.l n], S => match lstAt S n with
    | some ds => match strsD ds with
      | some ss => if (ss.map (·.length)).sum + ss.length * s.length ≤ 16777216 then .ok (.d (.str (joinL s ss))) S else .bad
      | none => .bad
    | none => .bad
  | .d (.str s), [.d (.tup ds)], S => match strsD ds with
      | some ss => if (ss.map (·.length)).sum + ss.length * s.length ≤ 16777216 then .ok (.d (.str (joinL s ss))) S else .bad
      | none => .bad
  | _, _, _ => .bad
abbrev rJoin (K : PySem.W.Frag) : V → List V → Hp → VK → Prop := fun x xs H Q => ∃ a p, ∃ ys : List Str, x = .str a ∧ xs = [.ref p] ∧ (SqL K H p (ys.map V.str) ∨ SqT K H p (ys.map V.str)) ∧
    (ys.map (·.length)).sum + ys.length * a.length ≤ 16777216 ∧ Q (.str (Txt.join a ys)) H
theorem join_sOf (s : List Nat) (ss : List (List Nat)) : Txt.join (sOf s) (ss.map sOf) = sOf (joinL s ss) := by
  rw [join_eq]
  refine ext_tl ?_
  rw [tl_join, List.map_map, sOf_tl, sOf_tl]
  exact congrArg (joinL s) ((List.map_congr_left (g := id) fun s _ => sOf_tl s).trans (List.map_id _))
theorem lens_sOf (ss : List (List Nat)) : ((ss.map sOf).map (·.length)).sum = (ss.map (·.length)).sum := by
  rw [List.map_map]
  exact congrArg List.sum (List.map_congr_left fun s _ => sOf_length s)
theorem md_join {K : PySem.W.Frag} : MtD K (rJoin K) gJoin := by
  intro mg W σ A H S v x vs xs Q rs rv rvs h
  unfold gJoin at h
  split at h
  · rename_i s n
    obtain rfl : x = .str (sOf s) := rv
    obtain ⟨y, rfl, a, ha, rfl⟩ := rvs.one
    split at h
    · rename_i ds e
      obtain ⟨us, h1, h2⟩ := lstAt_sq rs ha e
      split at h
      · rename_i ss es
        split at h
        · rename_i c
          rw [strsD_ok es h2] at h1
          exact ⟨sOf s, a, ss.map sOf, rfl, rfl, .inl h1, by rw [lens_sOf, List.length_map, sOf_length]; exact c, by rw [join_sOf]; exact fin_v h rs rfl⟩
        · exact h.elim
      · exact h.elim
    · exact h.elim
  · rename_i s ds
    obtain rfl : x = .str (sOf s) := rv
    obtain ⟨y, rfl, a, us, rfl, h1, h2⟩ := rvs.one
    split at h
    · rename_i ss es
      split at h
      · rename_i c
        rw [strsD_ok es h2] at h1
        exact ⟨sOf s, a, ss.map sOf, rfl, rfl, .inr h1, by rw [lens_sOf, List.length_map, sOf_length]; exact c, by rw [join_sOf]; exact fin_v h rs rfl⟩
      · exact h.elim
    · exact h.elim
  · exact h.elim
/-! text.index(sign), text.find(sign, from) -/
theorem occ_after (s sub : Str) (hi : Nat) : ∀ (l : List Nat) (st : Array Nat × Nat), 1 ≤ st.1.size → (forIn l st (StrLaws.occBody s sub hi 1)).run.1 = st.1
  | [], st, _ => rfl
  | a :: l, st, h => by
    rw [List.forIn_cons]
    unfold StrLaws.occBody
    rw [if_neg (fun z => absurd z.1.1.1 (by omega))]
    exact occ_after s sub hi l st h
theorem occ_go (s : List Nat) (c : Nat) : ∀ (k a free : Nat), free ≤ a → a + k = s.length + 1 →
    (forIn (List.range' a k) ((#[] : Array Nat), free) (StrLaws.occBody (sOf s) (sOf [c]) s.length 1)).run.1.toList = match (s.drop a).idxOf? c with
      | some j => [a + j]
      | none => []
  | 0, a, free, _, h => by
    have : s.drop a = [] := List.drop_eq_nil_of_le (by omega)
    rw [this]; rfl
  | k + 1, a, free, hf, h => by
    rw [List.range'_succ, List.forIn_cons]
    unfold StrLaws.occBody
    have hc := StrLaws.subAt_one (sOf s) c a
    rw [sOf_length] at hc
    by_cases hm : (sOf s).cps.toList[a]? = some c
    · obtain ⟨q1, q2⟩ := hc.mpr hm
      rw [if_pos ⟨⟨⟨by simp, hf⟩, q1⟩, q2⟩]
      have := occ_after (sOf s) (sOf [c]) s.length (List.range' (a + 1) k) ((#[] : Array Nat).push a, a + (sOf [c]).length) (by simp)
      have hm' : s[a]? = some c := hm
      have hl := (List.getElem?_eq_some_iff.mp hm').1
      have hd : s.drop a = c :: s.drop (a + 1) := by
        rw [List.drop_eq_getElem_cons hl]
        congr 1
        exact (List.getElem?_eq_some_iff.mp hm').2
      rw [hd]
      rw [show (c :: s.drop (a + 1)).idxOf? c = some 0 from by simp [List.idxOf?, List.findIdx?_cons]]
      show ((forIn (List.range' (a + 1) k) ((#[] : Array Nat).push a, a + (sOf [c]).length) (StrLaws.occBody (sOf s) (sOf [c]) s.length 1)).run.1).toList = [a + 0]
      rw [this]
      rfl
    · rw [if_neg (fun z => hm (hc.mp ⟨z.1.2, z.2⟩))]
      have ih := occ_go s c k (a + 1) free (by omega) (by omega)
      show ((forIn (List.range' (a + 1) k) ((#[] : Array Nat), free) (StrLaws.occBody (sOf s) (sOf [c]) s.length 1)).run.1).toList = _
      rw [ih]
      have hm' : s[a]? ≠ some c := hm
      by_cases hl : a < s.length
      · have hne : s[a] ≠ c := fun z => hm' (by rw [List.getElem?_eq_getElem hl, z])
        rw [List.drop_eq_getElem_cons hl]
        have e : (s[a] :: s.drop (a + 1)).idxOf? c = ((s.drop (a + 1)).idxOf? c).map (· + 1) := by
          simp only [List.idxOf?, List.findIdx?_cons]
          rw [show (s[a] == c) = false from beq_eq_false_iff_ne.mpr hne]
          rfl
        rw [e]
        cases (s.drop (a + 1)).idxOf? c with
        | none => rfl
        | some j => show [a + 1 + j] = [a + (j + 1)]; congr 1; omega
      · rw [List.drop_eq_nil_of_le (by omega), List.drop_eq_nil_of_le (by omega)]
        rfl
theorem occ_one (s : List Nat) (c lo : Nat) (h : lo ≤ s.length) : Builtin.Str.occurrences (sOf s) (sOf [c]) lo s.length 1 = match (s.drop lo).idxOf? c with
      | some j => [lo + j]
      | none => [] := by
  rw [StrLaws.occ_eq]
  exact occ_go s c _ lo lo (Nat.le_refl _) (by omega)
def gIndex : GM
  | .d (.str s), [.d (.str [c])], S => match s.idxOf? c with
    | some j => .ok (.d (.int j)) S
    | none => .bad
  | _, _, _ => .bad
abbrev rSIndex : V → List V → Hp → VK → Prop := fun x xs H Q => ∃ a b i rest, x = .str a ∧ xs = [.str b] ∧ Builtin.Str.occurrences a b 0 a.length 1 = i :: rest ∧ Q (.int (i : Nat)) H
theorem md_index {K : PySem.W.Frag} : MtD K rSIndex gIndex := by
  intro mg W σ A H S v x vs xs Q rs rv rvs h
  unfold gIndex at h
  split at h
  · rename_i s c
    obtain rfl : x = .str (sOf s) := rv
    obtain ⟨y, rfl, ry⟩ := rvs.one
    obtain rfl : y = .str (sOf [c]) := ry
    split at h
    · rename_i j e
      refine ⟨sOf s, sOf [c], j, [], rfl, rfl, ?_, fin_v h rs rfl⟩
      rw [sOf_length, occ_one s c 0 (Nat.zero_le _), List.drop_zero, e]
      show [0 + j] = [j]
      rw [Nat.zero_add]
    · exact h.elim
  · exact h.elim
def findFrom (s : List Nat) (c lo : Nat) : Int := match (s.drop lo).idxOf? c with
  | some j => ((lo + j : Nat) : Int)
  | none => -1
def gFind2 : GM
  | .d (.str s), [.d (.str [c]), .d (.int i)], S => if (decide (0 ≤ i) && decide (i ≤ s.length)) = true then .ok (.d (.int (findFrom s c i.toNat))) S else .bad
  | _, _, _ => .bad

/-! ### calls of the text's own defs -/
def spD (K : PySem.W.Frag) (mg : Str → Option Value) (mf : DF) : Sp := fun vs H Q E => ∃ A S us, RS K H A S ∧ RVs K H A us vs ∧ Fin K mg (RV K) (fun c d _ H => E c d H) [] A H (mf us S) Q
def dCall (mf : DF) (dvs : List Vl) (ma : DA) : DE := fun ρ S => (ma ρ S).bind fun us S1 => mf (us ++ dvs) S1
theorem fin_wish {K : PySem.W.Frag} {mg : Str → Option Value} {α β : Type} {R : Hp → List Addr → α → β → Prop} {W : WX} {σ : L2.St} {A : List Addr} {H : Hp} {r : Res α} {Q : β → Hp → Prop} (h : Fin K mg R W σ A H r Q) : Fin K mg R (fun c d _ H => W c d σ H) [] A H r Q := by
  cases r <;> exact h
section
variable {X : Cx} {W : WX} {k : Nat} {f : Addr} {fd : FuncData} {ps : List Str} {mf : DF} {x : Str} {p pos : Pos} {e : Expr} {es : List Expr} {ma : DA} {dvs : List Vl} {dxs : List V} {ds : List Value}
theorem s_callD (F : FnOk X.prog X.w X.K X.mg X.base (L2.CX X.prog X.w) k f fd ps (spD X.K X.mg mf)) (hr : Room k X.A) (tk : Takes X W) (hg : Gl X x) (hm : X.mg x = some (.ref f)) (hk : PySem.W.keepIn X.K (.ref f) = true) (hb : Binds X.K fd ps ds) (hd : Vals dxs ds)
    (hn : ∀ H A, RVs X.K H A dvs dxs) (ha : SA X W (e :: es) ma) (hdb : (x == ("__debug__" : Str)) = false := by decide) (he : starEach (e :: es) X.env = (false, eval e X.env) :: starEach es X.env := by rfl) (hpl : (backTo pos (starEach es X.env)).any (·.1) = false := by rfl) :
    SE X W (.Call (.Name x p) (e :: es) [] pos) (dCall mf dvs ma) := by
  refine PE.weak (pe_callSD (E := WE W) F hr hg hm hk hb hd (fun σ => passAt tk σ) ha hdb he hpl) fun σ H Q ⟨A, ρ, S, re, rs, h⟩ => ?_
  refine tM.mono (tM_bind re rs h) fun x H1 ⟨A1, S1, v, p1, e1, re1, rs1, rv1, h1⟩ => ?_
  exact ⟨A1, S1, v ++ dvs, rs1, rv1.append (hn H1 A1), fin_wish h1⟩
theorem s_call (F : FnOk X.prog X.w X.K X.mg X.base (L2.CX X.prog X.w) k f fd ps (spD X.K X.mg mf)) (hr : Room k X.A) (tk : Takes X W) (hg : Gl X x) (hm : X.mg x = some (.ref f)) (hk : PySem.W.keepIn X.K (.ref f) = true) (hb : Binds X.K fd ps [])
    (ha : SA X W (e :: es) ma) (hdb : (x == ("__debug__" : Str)) = false := by decide) (he : starEach (e :: es) X.env = (false, eval e X.env) :: starEach es X.env := by rfl) (hpl : (backTo pos (starEach es X.env)).any (·.1) = false := by rfl) :
    SE X W (.Call (.Name x p) (e :: es) [] pos) (dCall mf [] ma) := s_callD F hr tk hg hm hk hb .nil (fun _ _ => rfl) ha hdb he hpl
end

/-! ### a def -/
def runFn (np N : Nat) (ms : DS) : DF := fun us S => if us.length = np then gcR S.length (match ms (us.map some ++ List.replicate (N - us.length) none) S with
  | .nx _ S' => .ok (.d .non) S'
  | .rt v S' => .ok v S'
  | .er e _ S' => .er e S'
  | _ => .bad) else .bad
section
variable {K : PySem.W.Frag} {mg : Str → Option Value}
theorem re_start {H : Hp} {A : List Addr} {us : List Vl} {vs : List V} {N : List Str} (r : RVs K H A us vs) (hl : us.length ≤ N.length) : RE K H A (us.map some ++ List.replicate (N.length - us.length) none) (L2.start N vs) := by
  have e := r.length
  unfold L2.start
  refine ⟨by simp [e], fun i v h => ?_⟩
  by_cases hi : i < us.length
  · rw [List.getElem?_append_left (by simpa using hi)] at h
    rw [List.getElem?_map] at h
    rw [List.getElem?_append_left (by rw [List.length_map, e]; exact hi), List.getElem?_map]
    cases q : us[i]? with
    | none => rw [q] at h; cases h
    | some u =>
      rw [q] at h
      simp at h
      subst h
      obtain ⟨x, e1, e2⟩ := r.get q
      exact ⟨x, by rw [e1]; rfl, e2⟩
  · rw [List.getElem?_append_right (by simp; omega)] at h
    rw [List.getElem?_replicate] at h
    split at h <;> cases h
theorem ok_fn {P : Program} {w : World} {base : Heap} {x qual : Str} {st : Stmt} {f : Addr} {fd : FuncData} {N ps : List Str} {k : Nat} {ms : DS} (F : Fun K x qual st f fd) (S : FnScope N ps (defScope st)) (hN : ps.length ≤ N.length)
    (hbody : ∀ (cdv : Value) (A : Around) (outer : List PySem.Env) (s : Shared) (H : Hp) (E : XK), Room k (A.deeper (PyProof.Rows.envOfC qual (defScope st) s.heap.objs.size f cdv)) →
      SSs (cxOf (L2.CX P w) P w K mg base N qual (defScope st) f cdv A outer s H E) (fun c d _ H => E c d H) (defBody st) ms) :
    FnOk P w K mg base (L2.CX P w) (k + 1) f fd ps (spD K mg (runFn ps.length N.length ms)) := by
  refine F.okX S (fun vs H Q E h => ?_) (fun cdv A outer s H vs Q E hr h => ⟨_, hbody cdv A outer s H E hr, ?_⟩)
  · obtain ⟨A, S', us, rs, rv, h⟩ := h
    unfold runFn at h
    split at h
    · rename_i c; rw [rv.length]; exact c
    · exact h.elim
  · obtain ⟨A1, S1, us, rs, rv, h⟩ := h
    unfold runFn at h
    split at h
    · rename_i c
      rw [← rs.len] at h
      have h' := fin_gc h
      refine ⟨A1, _, S1, re_start rv (by omega), rs, ?_⟩
      revert h'
      generalize ms (us.map some ++ List.replicate (N.length - us.length) none) S1 = o
      intro h'
      cases o with
      | nx ρ' S' => exact fun A' H' σ' p e r _ => h' A' H' .non p e r rfl
      | rt v S' => exact fun A' H' x p e r q => h' A' H' x p e r q
      | er x ρ' S' => exact fun A' H' σ' c d p e r _ q => h' A' H' c d p e r q
      | bk ρ' S' => exact h'.elim
      | ct ρ' S' => exact h'.elim
      | bad => exact h'.elim
    · exact h.elim
end
end DL
end

section
set_option Elab.async false
set_option linter.all false
set_option maxRecDepth 100000
set_option autoImplicit false
set_option maxHeartbeats 400000
namespace DL
open PySem L2 TL

/-! ### the same data, decided -/
mutual
def sameD : D → D → Bool
  | .non, .non => true
  | .bl a, .bl b => a == b
  | .int a, .int b => a == b
  | .str a, .str b => a == b
  | .tup a, .tup b => sameDs a b
  | _, _ => false
def sameDs : List D → List D → Bool
  | [], [] => true
  | a :: r, b :: s => sameD a b && sameDs r s
  | _, _ => false
end
mutual
theorem sameD_eq : ∀ a b : D, sameD a b = true → a = b
  | .non, b, h => by cases b <;> first | rfl | (simp [sameD] at h)
  | .bl a, b, h => by cases b <;> first | (simp [sameD] at h; rw [h]) | (simp [sameD] at h)
  | .int a, b, h => by cases b <;> first | (simp [sameD] at h; rw [h]) | (simp [sameD] at h)
  | .str a, b, h => by cases b <;> first | (simp [sameD] at h; rw [h]) | (simp [sameD] at h)
  | .tup a, b, h => by
    cases b with
    | tup b => rw [sameDs_eq a b (by simpa [sameD] using h)]
    | _ => simp [sameD] at h
theorem sameDs_eq : ∀ a b : List D, sameDs a b = true → a = b
  | [], b, h => by cases b <;> first | rfl | (simp [sameDs] at h)
  | a :: r, b, h => by
    cases b with
    | nil => simp [sameDs] at h
    | cons b s =>
      simp only [sameDs, Bool.and_eq_true] at h
      rw [sameD_eq a b h.1, sameDs_eq r s h.2]
end
mutual
theorem sameD_refl : ∀ a : D, sameD a a = true
  | .non => rfl
  | .bl a => by simp [sameD]
  | .int a => by simp [sameD]
  | .str a => by simp [sameD]
  | .tup a => by simp only [sameD]; exact sameDs_refl a
theorem sameDs_refl : ∀ a : List D, sameDs a a = true
  | [] => rfl
  | a :: r => by simp only [sameDs, Bool.and_eq_true]; exact ⟨sameD_refl a, sameDs_refl r⟩
end
def stands (S : Store) (n : Nat) (ds : List D) : Bool := match lstAt S n with
  | some es => sameDs es ds
  | none => false
theorem stands_iff {S : Store} {n : Nat} {ds : List D} : stands S n ds = true ↔ lstAt S n = some ds := by
  unfold stands
  constructor
  · intro h
    split at h
    · rename_i es e; rw [sameDs_eq _ _ h] at e; exact e
    · cases h
  · intro h
    rw [h]
    exact sameDs_refl ds

/-! ### targets -/
inductive Tg where
  | nm (i : Nat) | tp (is : List Nat)
def setsR : List Nat → List D → Env → Option Env
  | [], [], ρ => some ρ
  | i :: is, d :: ds, ρ => setsR is ds (ρ.set i (some (.d d)))
  | _, _, _ => none
def Tg.run : Tg → Vl → Env → Option Env
  | .nm i, v, ρ => some (ρ.set i (some v))
  | .tp is, .d (.tup ds), ρ => setsR is ds ρ
  | .tp _, _, _ => none
def Tg.own : Tg → List Nat
  | .nm i => [i]
  | .tp is => is
def gNames : List Nat → TGs
  | [] => gNil
  | i :: is => gCons (gName i) (gNames is)
def Tg.rd (K : PySem.W.Frag) : Tg → TG
  | .nm i => gName i
  | .tp is => gTup K is.length (gNames is)
def setsV : List Nat → List V → L2.St → L2.St
  | i :: is, x :: xs, σ => setsV is xs (σ.set i (some x))
  | _, _, σ => σ
theorem wipe_comm {σ : L2.St} {i : Nat} (o : Option V) : ∀ {vs : List Nat}, i ∈ vs → wipe (σ.set i o) vs = wipe σ vs := by
  intro vs
  induction vs with
  | nil => intro h; cases h
  | cons v vs ih =>
    intro h
    unfold wipe
    by_cases e : i ∈ vs
    · rw [ih e]
    · have : i = v := by
        rcases List.mem_cons.mp h with h | h
        · exact h
        · exact absurd h e
      subst this
      have key : ∀ (ws : List Nat), i ∉ ws → wipe (σ.set i o) ws = (wipe σ ws).set i o := by
        intro ws
        induction ws with
        | nil => intro _; rfl
        | cons w ws ihw =>
          intro hw
          unfold wipe
          rw [ihw fun z => hw (List.mem_cons_of_mem _ z)]
          exact List.set_comm _ _ fun z => hw (by rw [z]; exact List.mem_cons_self)
      rw [key vs e, List.set_set]
theorem wipe_sets {vs : List Nat} : ∀ {is : List Nat} {xs : List V} {σ : L2.St}, (∀ i ∈ is, i ∈ vs) → wipe (setsV is xs σ) vs = wipe σ vs
  | [], xs, σ, _ => by unfold setsV; rfl
  | i :: is, [], σ, _ => by unfold setsV; rfl
  | i :: is, x :: xs, σ, h => by
    unfold setsV
    rw [wipe_sets fun j hj => h j (List.mem_cons_of_mem _ hj), wipe_comm _ (h i List.mem_cons_self)]
section
variable {K : PySem.W.Frag} {H : Hp} {A : List Addr}
theorem re_sets : ∀ {is : List Nat} {ds : List D} {xs : List V} {ρ ρ' : Env} {σ : L2.St}, RDs K H ds xs → setsR is ds ρ = some ρ' → RE K H A ρ σ → RE K H A ρ' (setsV is xs σ)
  | [], [], xs, ρ, ρ', σ, _, h, r => by cases h; unfold setsV; exact r
  | i :: is, d :: ds, _, ρ, ρ', σ, ⟨v, xs, h1, h2, h3⟩, h, r => by
    subst h1
    unfold setsV
    exact re_sets h3 h (r.set i (v := .d d) h2)
  | [], _ :: _, _, _, _, _, _, h, _ => by cases h
  | _ :: _, [], _, _, _, _, _, h, _ => by cases h
theorem gNames_ok : ∀ {is : List Nat} {ds : List D} {xs : List V} {ρ ρ' : Env} {σ : L2.St} {Q : L2.St → Hp → Prop}, RDs K H ds xs → setsR is ds ρ = some ρ' → Q (setsV is xs σ) H → gNames is xs σ H Q
  | [], [], xs, ρ, ρ', σ, Q, r, _, q => ⟨r, q⟩
  | i :: is, d :: ds, _, ρ, ρ', σ, Q, ⟨v, xs, h1, h2, h3⟩, h, q => by
    subst h1
    exact ⟨v, xs, rfl, gNames_ok h3 h q⟩
  | [], _ :: _, _, _, _, _, _, _, h, _ => by cases h
  | _ :: _, [], _, _, _, _, _, _, h, _ => by cases h
theorem sets_len {is : List Nat} : ∀ {ds : List D} {ρ ρ' : Env}, setsR is ds ρ = some ρ' → ds.length = is.length := by
  induction is with
  | nil => intro ds ρ ρ' h; cases ds with
    | nil => rfl
    | cons _ _ => cases h
  | cons i is ih => intro ds ρ ρ' h; cases ds with
    | nil => cases h
    | cons d ds =>
      have := ih (ds := ds) (ρ := ρ.set i (some (.d d))) (ρ' := ρ') h
      simp [this]
/-- a target takes its value -/
theorem tg_ok {T : Tg} {v : Vl} {x : V} {ρ ρ' : Env} {σ : L2.St} {Q : L2.St → Hp → Prop} (re : RE K H A ρ σ) (rv : RV K H A v x) (h : T.run v ρ = some ρ') (q : ∀ σ', RE K H A ρ' σ' → (∀ vs : List Nat, (∀ i ∈ T.own, i ∈ vs) → wipe σ' vs = wipe σ vs) → Q σ' H) : T.rd K x σ H Q := by
  cases T with
  | nm i =>
    have e : ρ.set i (some v) = ρ' := Option.some.inj h
    subst e
    exact q _ (re.set i rv) fun vs hv => wipe_comm _ (hv i (by simp [Tg.own]))
  | tp is =>
    cases v with
    | l n => cases h
    | d d =>
      cases d with
      | tup ds =>
        obtain ⟨a, xs, rfl, h1, h2⟩ := rv
        have h' : setsR is ds ρ = some ρ' := h
        exact ⟨a, xs, rfl, h1, by rw [h2.length]; exact sets_len h', gNames_ok h2 h' (q _ (re_sets h2 h' re) fun vs hv => wipe_sets hv)⟩
      | _ => cases h
end
abbrev SG' (X : Cx) (tg : Expr) (T : Tg) : Prop := PG X tg (T.rd X.K)
section
variable {X : Cx} {pos : Pos}
theorem sg_nm (i : Nat) {x : Str} (hN : X.N.Nodup) (hi : X.N[i]? = some x) (hx : Loc X.env.scope x) (hf : X.fn x = true ∨ X.env.scope.names.lookup x = some .local := by first | exact .inl rfl | exact .inr rfl | assumption) : SG' X (.Name x pos) (.nm i) := pg_name hN hi hx hf
theorem sg_tp {es : List Expr} {is : List Nat} {k : Nat} (hc : X.calm = true) (h : PGs X es (gNames is)) (hn : (assignEach es X.env).length = is.length := by rfl) (hst : (assignEach es X.env).findIdx? (·.1) = none := by rfl) : SG' X (.Tuple es k pos) (.tp is) := pg_tup hc h hn hst
end

/-! ### what is walked -/
inductive IV where
  | seq (xs : List Vl) | lst (n : Nat)
abbrev DI := Env → Store → Res IV
structure ItOk (K : PySem.W.Frag) (A : List Addr) (J : It) (xs : List Vl) (H0 : Hp) : Prop where
  go : ∀ i H, Ext K H0 H → i < xs.length → J.go i H
  yl : ∀ i H x H2 v, Ext K H0 H → J.yld i H x H2 → xs[i]? = some v → Up H H2 ∧ RV K H2 A v x
  st : ∀ i H, Ext K H0 H → xs.length ≤ i → J.stop i H
def RI (K : PySem.W.Frag) (H : Hp) (A : List Addr) : IV → It → Prop
  | .seq xs, J => ItOk K A J xs H
  | .lst n, J => ∃ a, A[n]? = some a ∧ J = Itl K a
abbrev SI (X : Cx) (W : WX) (tg iter : Expr) (m : DI) : Prop := PI X tg iter (tM X.K X.mg (RI X.K) W m)
theorem PI.weak {X : Cx} {tg e : Expr} {t t' : TI} (h : PI X tg e t) (i : ∀ σ H Q, t' σ H Q → t σ H Q) : PI X tg e t' := ⟨fun pins s σ H R I q => h.run pins s σ H R I (i _ _ _ q)⟩
def dIL (m : DE) : DI := fun ρ S => (m ρ S).bind fun v S1 => match v with
  | .l n => if (lstAt S1 n).isSome = true then .ok (.lst n) S1 else .bad
  | _ => .bad
def dIT (m : DE) : DI := fun ρ S => (m ρ S).bind fun v S1 => match v with
  | .d (.tup ds) => .ok (.seq (ds.map .d)) S1
  | _ => .bad
def dIS (m : DE) : DI := fun ρ S => (m ρ S).bind fun v S1 => match v with
  | .d (.str s) => .ok (.seq (s.map fun c => .d (.str [c]))) S1
  | _ => .bad
def rngV (lo : Int) (n : Nat) : List Vl := (List.range n).map fun (i : Nat) => Vl.d (.int (lo + (i : Int)))
def okB (i : Int) : Bool := decide (-(2 ^ 62) ≤ i) && decide (i < 2 ^ 62)
def dIR1 (m : DA) : DI := fun ρ S => (m ρ S).bind fun vs S1 => match vs with
  | [.d (.int j)] => if okB j = true then .ok (.seq (rngV 0 j.toNat)) S1 else .bad
  | _ => .bad
def dIR2 (m : DA) : DI := fun ρ S => (m ρ S).bind fun vs S1 => match vs with
  | [.d (.int i), .d (.int j)] => if (okB i && okB j) = true then .ok (.seq (rngV i (j - i).toNat)) S1 else .bad
  | _ => .bad
section
variable {X : Cx} {W : WX} {tg e a b : Expr} {m : DE} {ma : DA} {p pos : Pos}
theorem si_list (h : SE X W e m) : SI X W tg e (dIL m) := by
  refine PI.weak (pi_list h) fun σ H Q ⟨A, ρ, S, re, rs, h⟩ => ?_
  refine tM.mono (tM_bind re rs h) fun x H1 ⟨A1, S1, v, p1, e1, re1, rs1, rv1, h1⟩ => ?_
  cases v with
  | d _ => exact h1.elim
  | l n =>
    obtain ⟨a, ha, rfl⟩ := rv1
    by_cases c : (lstAt S1 n).isSome = true
    · simp only [c, if_true] at h1
      obtain ⟨ds, ed⟩ := Option.isSome_iff_exists.mp c
      obtain ⟨vs, q1, _⟩ := lstAt_sq rs1 ha ed
      exact ⟨a, rfl, ⟨vs, q1⟩, h1.now rs1 ⟨a, ha, rfl⟩⟩
    · simp only [c] at h1
      exact h1.elim
theorem si_tup (h : SE X W e m) : SI X W tg e (dIT m) := by
  refine PI.weak (pi_tup h) fun σ H Q ⟨A, ρ, S, re, rs, h⟩ => ?_
  refine tM.mono (tM_bind re rs h) fun x H1 ⟨A1, S1, v, p1, e1, re1, rs1, rv1, h1⟩ => ?_
  cases v with
  | l _ => exact h1.elim
  | d d =>
    cases d with
    | tup ds =>
      obtain ⟨a, us, rfl, q1, q2⟩ := rv1
      refine ⟨a, rfl, ⟨us, q1⟩, h1.now rs1 ⟨fun i H x hi => ?_, fun i H y H2 v x hy hv => ?_, fun i H x hi => ?_⟩⟩
      · have : i < us.length := by rw [q2.length]; simpa using hi
        exact ⟨us, us[i], x _ _ q1, List.getElem?_eq_getElem this⟩
      · obtain ⟨rfl, hy⟩ := hy
        rw [List.getElem?_map] at hv
        cases q : ds[i]? with
        | none => rw [q] at hv; cases hv
        | some d =>
          rw [q] at hv
          have : v = .d d := (Option.some.inj hv).symm
          subst this
          obtain ⟨w, e1, e2⟩ := q2.get q
          have := hy us (x _ _ q1)
          rw [e1] at this
          have : w = y := Option.some.inj this
          subst this
          exact ⟨Up.refl _, RD.up x _ _ e2⟩
      · exact ⟨us, x _ _ q1, by rw [q2.length]; simpa using hi⟩
    | _ => exact h1.elim
theorem si_str (h : SE X W e m) : SI X W tg e (dIS m) := by
  refine PI.weak (pi_str h) fun σ H Q ⟨A, ρ, S, re, rs, h⟩ => ?_
  refine tM.mono (tM_bind re rs h) fun x H1 ⟨A1, S1, v, p1, e1, re1, rs1, rv1, h1⟩ => ?_
  cases v with
  | l _ => exact h1.elim
  | d d =>
    cases d with
    | str s =>
      obtain rfl : x = .str (sOf s) := rv1
      have sz : (sOf s).cps.size = s.length := rfl
      refine ⟨sOf s, rfl, h1.now rs1 ⟨fun i H x hi => ?_, fun i H y H2 v x hy hv => ?_, fun i H x hi => ?_⟩⟩
      · show i < (sOf s).cps.size
        rw [sz]; simpa using hi
      · obtain ⟨rfl, c, hc, rfl⟩ := hy
        rw [List.getElem?_map] at hv
        have hc' : s[i]? = some c := by
          have : (sOf s).cps[i]? = s[i]? := by show s.toArray[i]? = _; simp
          rw [← this]; exact hc
        rw [hc'] at hv
        have : v = .d (.str [c]) := (Option.some.inj hv).symm
        subst this
        exact ⟨Up.refl _, rfl⟩
      · show (sOf s).cps.size ≤ i
        rw [sz]; simpa using hi
    | _ => exact h1.elim
theorem it_rng {K : PySem.W.Frag} {A : List Addr} {H : Hp} (lo : Int) (n : Nat) : ItOk K A (Itr lo n) (rngV lo n) H := by
  unfold rngV
  refine ⟨fun i H x hi => (show i < n by simpa using hi), fun i H y H2 v x hy hv => ?_, fun i H x hi => (show n ≤ i by simpa using hi)⟩
  obtain ⟨rfl, rfl⟩ := hy
  rw [List.getElem?_map] at hv
  by_cases h : i < n
  · rw [List.getElem?_range h] at hv
    have : v = .d (.int (lo + i)) := (Option.some.inj hv).symm
    subst this
    exact ⟨Up.refl _, rfl⟩
  · rw [List.getElem?_eq_none (by simpa using Nat.le_of_not_lt h)] at hv
    cases hv
theorem okB_ok {i : Int} (h : okB i = true) : -(2 ^ 62) ≤ i ∧ i < 2 ^ 62 := by
  unfold okB at h
  simpa using h
theorem si_rng1 (hg : Gl X "range") (hm : X.mg "range" = none) (ha : SA X W [a] ma) (hs : starEach [a] X.env = [(false, eval a X.env)] := by rfl) : SI X W tg (.Call (.Name "range" p) [a] [] pos) (dIR1 ma) := by
  refine PI.weak (pi_range1 hg hm ha hs) fun σ H Q ⟨A, ρ, S, re, rs, h⟩ => ?_
  refine tM.mono (tM_bind re rs h) fun x H1 ⟨A1, S1, v, p1, e1, re1, rs1, rv1, h1⟩ => ?_
  split at h1
  · rename_i j
    split at h1
    · rename_i c
      obtain ⟨y, rfl, ry⟩ := rv1.one
      obtain rfl : y = .int j := ry
      have := okB_ok c
      exact ⟨j, rfl, this.1, this.2, h1.now rs1 (it_rng 0 j.toNat)⟩
    · exact h1.elim
  · exact h1.elim
theorem si_rng2 (hg : Gl X "range") (hm : X.mg "range" = none) (ha : SA X W [a, b] ma) (hs : starEach [a, b] X.env = [(false, eval a X.env), (false, eval b X.env)] := by rfl) (hs2 : starEach [b] X.env = [(false, eval b X.env)] := by rfl) : SI X W tg (.Call (.Name "range" p) [a, b] [] pos) (dIR2 ma) := by
  refine PI.weak (pi_range2 hg hm ha hs hs2) fun σ H Q ⟨A, ρ, S, re, rs, h⟩ => ?_
  refine tM.mono (tM_bind re rs h) fun x H1 ⟨A1, S1, v, p1, e1, re1, rs1, rv1, h1⟩ => ?_
  split at h1
  · rename_i i j
    split at h1
    · rename_i c
      rw [Bool.and_eq_true] at c
      obtain ⟨y, z, rfl, ry, rz⟩ := rv1.two
      obtain rfl : y = .int i := ry
      obtain rfl : z = .int j := rz
      have c1 := okB_ok c.1
      have c2 := okB_ok c.2
      exact ⟨i, j, rfl, ⟨c1.1, c1.2, c2.1, c2.2⟩, h1.now rs1 (it_rng i _)⟩
    · exact h1.elim
  · exact h1.elim
end

/-! ### loops -/
def loopS (T : Tg) (mb : DS) : List Vl → Env → Store → Out
  | [], ρ, S => .nx ρ S
  | x :: r, ρ, S => match T.run x ρ with
    | none => .bad
    | some ρ1 => match mb ρ1 S with
      | .nx ρ' S' => loopS T mb r ρ' S'
      | .ct ρ' S' => loopS T mb r ρ' S'
      | .bk ρ' S' => .nx ρ' S'
      | o => o
def loopL (T : Tg) (mb : DS) (n : Nat) (ds : List D) : List D → Env → Store → Out
  | [], ρ, S => if stands S n ds = true then .nx ρ S else .bad
  | x :: r, ρ, S => if stands S n ds = true then match T.run (.d x) ρ with
    | none => .bad
    | some ρ1 => match mb ρ1 S with
      | .nx ρ' S' => loopL T mb n ds r ρ' S'
      | .ct ρ' S' => loopL T mb n ds r ρ' S'
      | .bk ρ' S' => .nx ρ' S'
      | o => o
    else .bad
def dFor (mi : DI) (T : Tg) (mb : DS) : DS := fun ρ S => bindS (mi ρ S) ρ fun it S1 => match it with
  | .seq xs => loopS T mb xs ρ S1
  | .lst n => match lstAt S1 n with
    | some ds => loopL T mb n ds ds ρ S1
    | none => .bad
def loopW (mt : DT) (mb : DS) : Nat → Env → Store → Out
  | 0, _, _ => .bad
  | n + 1, ρ, S => bindS (mt ρ S) ρ fun b S1 => if b = true then match mb ρ S1 with
      | .nx ρ' S' => loopW mt mb n ρ' S'
      | .ct ρ' S' => loopW mt mb n ρ' S'
      | .bk ρ' S' => .nx ρ' S'
      | o => o
    else .nx ρ S1
def dWhile (fuel : Nat) (mt : DT) (mb : DS) : DS := loopW mt mb fuel
section
variable {X : Cx} {W : WX} {pos : Pos} {tg iter c : Expr} {body : List Stmt} {mi : DI} {T : Tg} {mb : DS} {mt : DT}
theorem body_ok {K : PySem.W.Frag} {mg : Str → Option Value} {W : WX} {A : List Addr} {H : Hp} {D : Ends} {N : L2.St → Hp → Prop} {rest : Env → Store → Out} {o : Out}
    (h : FinS K mg W A H (match o with
      | .nx ρ' S' => rest ρ' S'
      | .ct ρ' S' => rest ρ' S'
      | .bk ρ' S' => .nx ρ' S'
      | o => o) D)
    (hN : ∀ A' H' σ' ρ' S', A <+: A' → Ext K H H' → RS K H' A' S' → RE K H' A' ρ' σ' → FinS K mg W A' H' (rest ρ' S') D → N σ' H') : FinS K mg W A H o { D with nx := N, ct := N, bk := D.nx } := by
  cases o with
  | nx ρ' S' => exact fun A' H' σ' p e r q => hN A' H' σ' ρ' S' p e r q (FinS.up p e h)
  | ct ρ' S' => exact fun A' H' σ' p e r q => hN A' H' σ' ρ' S' p e r q (FinS.up p e h)
  | bk ρ' S' => exact h
  | rt v S' => exact h
  | er x ρ' S' => exact h
  | bad => exact h
theorem s_for (hp : PassesOwn (model X.prog X.w) X.A X.env X.xe) (hc : X.calm = true) (hi : SI X W tg iter mi) (hg : SG' X tg T) (hb : SSs X W body mb)
    (hs : ∀ x, foldedSetIterable iter X.env x = pure x := by intro _; rfl) : SS X W (.For tg iter body [] pos) (dFor mi T mb) := by
  refine PS.weak (ps_for hp hc hi hg hb hs) fun D σ H ⟨A, ρ, S, re, rs, h⟩ => ?_
  refine tM.mono (tM_bindS re rs h) fun J H1 ⟨A1, S1, it, p1, e1, re1, rs1, rv1, h1⟩ => ?_
  cases it with
  | seq xs =>
    have ok : ItOk X.K A1 J xs H1 := rv1
    refine ⟨fun i m σ' H' => m = xs.length - i ∧ i ≤ xs.length ∧ ∃ A' ρ' S', A1 <+: A' ∧ Ext X.K H1 H' ∧ RE X.K H' A' ρ' σ' ∧ RS X.K H' A' S' ∧ FinS X.K X.mg W A' H' (loopS T mb (xs.drop i) ρ' S') D,
      ⟨xs.length, by simp, Nat.zero_le _, A1, ρ, S1, List.prefix_refl _, Ext.refl, re1, rs1, by rw [List.drop_zero]; exact h1⟩, ?_⟩
    rintro i m σ' H' ⟨rfl, hi, A', ρ', S', p', e', re', rs', h'⟩
    by_cases hlt : i < xs.length
    · rw [List.drop_eq_getElem_cons hlt] at h'
      unfold loopS at h'
      refine .inr ⟨ok.go i H' e' hlt, fun σ2 H2 => ∃ A2 ρ2 S2, A1 <+: A2 ∧ Ext X.K H1 H2 ∧ RE X.K H2 A2 ρ2 σ2 ∧ RS X.K H2 A2 S2 ∧ FinS X.K X.mg W A2 H2 (loopS T mb (xs.drop (i + 1)) ρ2 S2) D,
        fun σ2 H2 hN => ⟨xs.length - (i + 1), by omega, rfl, hlt, hN⟩, fun x H2 hy => ?_⟩
      obtain ⟨u, rv⟩ := ok.yl i H' x H2 _ e' hy (List.getElem?_eq_getElem hlt)
      split at h'
      · exact h'.elim
      · rename_i ρ1 eT
        refine tg_ok (re'.up u.ext (List.prefix_refl _)) (rv.up Ext.refl p') eT fun σ3 re3 _ => ⟨A', ρ1, S', re3, rs'.up u, ?_⟩
        refine body_ok (FinS.up (List.prefix_refl _) u.ext h') fun A3 H3 σ4 ρ4 S4 p4 e4 rs4 re4 h4 => ⟨A3, ρ4, S4, p'.trans p4, e'.trans (u.ext.trans e4), re4, rs4, h4⟩
    · have : i = xs.length := by omega
      subst this
      rw [List.drop_length] at h'
      exact .inl ⟨ok.st _ H' e' (Nat.le_refl _), h' A' H' σ' (List.prefix_refl _) Ext.refl rs' re'⟩
  | lst n =>
    obtain ⟨a, ha, rfl⟩ := rv1
    cases ed : lstAt S1 n with
    | none => simp only [ed] at h1; exact h1.elim
    | some ds =>
      simp only [ed] at h1
      refine ⟨fun i m σ' H' => m = ds.length - i ∧ i ≤ ds.length ∧ ∃ A' ρ' S', A1 <+: A' ∧ Ext X.K H1 H' ∧ RE X.K H' A' ρ' σ' ∧ RS X.K H' A' S' ∧ FinS X.K X.mg W A' H' (loopL T mb n ds (ds.drop i) ρ' S') D,
        ⟨ds.length, by simp, Nat.zero_le _, A1, ρ, S1, List.prefix_refl _, Ext.refl, re1, rs1, by rw [List.drop_zero]; exact h1⟩, ?_⟩
      rintro i m σ' H' ⟨rfl, hi, A', ρ', S', p', e', re', rs', h'⟩
      by_cases hlt : i < ds.length
      · rw [List.drop_eq_getElem_cons hlt] at h'
        unfold loopL at h'
        split at h'
        · rename_i cs
          obtain ⟨vs, q1, q2⟩ := lstAt_sq rs' (pre_get p' ha) (stands_iff.mp cs)
          obtain ⟨x0, g1, g2⟩ := q2.get (List.getElem?_eq_getElem hlt)
          refine .inr ⟨⟨vs, x0, q1, g1⟩, fun σ2 H2 => ∃ A2 ρ2 S2, A1 <+: A2 ∧ Ext X.K H1 H2 ∧ RE X.K H2 A2 ρ2 σ2 ∧ RS X.K H2 A2 S2 ∧ FinS X.K X.mg W A2 H2 (loopL T mb n ds (ds.drop (i + 1)) ρ2 S2) D,
            fun σ2 H2 hN => ⟨ds.length - (i + 1), by omega, rfl, hlt, hN⟩, fun x H2 hy => ?_⟩
          obtain ⟨rfl, hy⟩ := hy
          have : x0 = x := Option.some.inj (g1.symm.trans (hy vs q1))
          subst this
          split at h'
          · exact h'.elim
          · rename_i ρ1 eT
            refine tg_ok re' (v := .d _) g2 eT fun σ3 re3 _ => ⟨A', ρ1, S', re3, rs', ?_⟩
            refine body_ok h' fun A3 H3 σ4 ρ4 S4 p4 e4 rs4 re4 h4 => ⟨A3, ρ4, S4, p'.trans p4, e'.trans e4, re4, rs4, h4⟩
        · exact h'.elim
      · have : i = ds.length := by omega
        subst this
        rw [List.drop_length] at h'
        unfold loopL at h'
        split at h'
        · rename_i cs
          obtain ⟨vs, q1, q2⟩ := lstAt_sq rs' (pre_get p' ha) (stands_iff.mp cs)
          exact .inl ⟨⟨vs, q1, by rw [q2.length]; exact Nat.le_refl _⟩, h' A' H' σ' (List.prefix_refl _) Ext.refl rs' re'⟩
        · exact h'.elim
theorem s_while {fuel : Nat} (hp : PassesOwn (model X.prog X.w) X.A X.env X.xe) (hc : ST X W c mt) (hb : SSs X W body mb) : SS X W (.While c body [] pos) (dWhile fuel mt mb) := by
  refine PS.weak (ps_while hp hc hb) fun D σ H ⟨A, ρ, S, re, rs, h⟩ => ?_
  refine ⟨fun m σ' H' => ∃ A' ρ' S', A <+: A' ∧ Ext X.K H H' ∧ RE X.K H' A' ρ' σ' ∧ RS X.K H' A' S' ∧ FinS X.K X.mg W A' H' (loopW mt mb m ρ' S') D, ⟨fuel, A, ρ, S, List.prefix_refl _, Ext.refl, re, rs, h⟩, ?_⟩
  rintro m σ' H' ⟨A', ρ', S', p', e', re', rs', h'⟩
  cases m with
  | zero => exact h'.elim
  | succ m =>
    unfold loopW at h'
    refine tM.mono (tM_bindS re' rs' h') fun b H1 ⟨A1, S1, v, p1, e1, re1, rs1, rv1, h1⟩ => ?_
    obtain rfl : v = b := rv1
    cases v with
    | true =>
      rw [if_pos rfl]
      refine ⟨fun σ2 H2 => ∃ A2 ρ2 S2, A <+: A2 ∧ Ext X.K H H2 ∧ RE X.K H2 A2 ρ2 σ2 ∧ RS X.K H2 A2 S2 ∧ FinS X.K X.mg W A2 H2 (loopW mt mb m ρ2 S2) D, fun σ2 H2 hN => ⟨m, Nat.lt_succ_self _, hN⟩, A1, ρ', S1, re1, rs1, ?_⟩
      exact body_ok h1 fun A3 H3 σ4 ρ4 S4 p4 e4 rs4 re4 h4 => ⟨A3, ρ4, S4, (p'.trans p1).trans p4, (e'.trans e1).trans e4, re4, rs4, h4⟩
    | false =>
      rw [if_neg Bool.false_ne_true]
      exact h1 A1 H1 σ' (List.prefix_refl _) Ext.refl rs1 re1
end
end DL
end

section
set_option Elab.async false
set_option linter.all false
set_option maxRecDepth 100000
set_option autoImplicit false
set_option maxHeartbeats 400000
namespace DL
open PySem L2 TL

/-! ### list comprehensions -/
def wipeR (ρ : Env) : List Nat → Env
  | [] => ρ
  | v :: vs => (wipeR ρ vs).set v none
def W0 : WX := fun _ _ _ _ => False
def dYes : DT := fun _ S => .ok true S
def stepC (n : Nat) (r : Res Vl) (k : Store → Res Vl) : Res Vl := match r with
  | .ok (.d d) S2 => match S2[n]? with
    | some (.lst acc) => if acc.length < sizeLine then k (S2.set n (.lst (acc ++ [d]))) else .bad
    | _ => .bad
  | _ => .bad
def turnC (T : Tg) (mt : DT) (me : DE) (n : Nat) (ρ : Env) (x : Vl) (S : Store) (k : Store → Res Vl) : Res Vl := match T.run x ρ with
  | none => .bad
  | some ρ1 => match mt ρ1 S with
    | .ok true S1 => stepC n (me ρ1 S1) k
    | .ok false S1 => k S1
    | _ => .bad
def loopC (T : Tg) (mt : DT) (me : DE) (n : Nat) (ρ : Env) : List Vl → Store → Res Vl
  | [], S => .ok (.l n) S
  | x :: r, S => turnC T mt me n ρ x S fun S' => loopC T mt me n ρ r S'
def loopCL (T : Tg) (mt : DT) (me : DE) (n : Nat) (ρ : Env) (m : Nat) (ds : List D) : List D → Store → Res Vl
  | [], S => if stands S m ds = true then .ok (.l n) S else .bad
  | x :: r, S => if stands S m ds = true then turnC T mt me n ρ (.d x) S fun S' => loopCL T mt me n ρ m ds r S' else .bad
def dLc (mi : DI) (T : Tg) (mt : DT) (me : DE) (vs : List Nat) : DE := fun ρ S => (mi ρ S).bind fun it S1 => match it with
  | .seq xs => loopC T mt me S1.length (wipeR ρ vs) xs (S1 ++ [.lst []])
  | .lst m => match lstAt S1 m with
    | some ds => loopCL T mt me S1.length (wipeR ρ vs) m ds ds (S1 ++ [.lst []])
    | none => .bad
theorem re_wipe {K : PySem.W.Frag} {H : Hp} {A : List Addr} {ρ : Env} {σ : L2.St} (r : RE K H A ρ σ) : ∀ vs : List Nat, RE K H A (wipeR ρ vs) (wipe σ vs)
  | [] => r
  | v :: vs => by unfold wipeR wipe; exact (re_wipe r vs).unset v
section
variable {X : Cx} {W : WX} {elt tg iter : Expr} {ifs : List Expr} {scope : Scope} {own : List (Str × Nat)} {pos spos py : Pos} {mi : DI} {T : Tg} {mt : DT} {me : DE}
theorem turn_ok {K : PySem.W.Frag} {mg : Str → Option Value} {W : WX} {A : List Addr} {H : Hp} {S : Store} {ρ : Env} {σ : L2.St} {vs : List Nat} {n : Nat} {D : Addr} {v : Vl} {x : V} {k : Store → Res Vl} {Q : VK} {Nx : Hp → Prop}
    (re : RE K H A (wipeR ρ vs) (wipe σ vs)) (rs : RS K H A S) (rv : RV K H A v x) (hD : A[n]? = some D) (hT : ∀ i ∈ T.own, i ∈ vs)
    (h : Fin K mg (RV K) W σ A H (turnC T mt me n (wipeR ρ vs) v S k) Q)
    (hN : ∀ A' H' S', A <+: A' → Ext K H H' → RS K H' A' S' → Fin K mg (RV K) W σ A' H' (k S') Q → Nx H') :
    T.rd K x (wipe σ vs) H fun σ2 H2 => wipe σ2 vs = wipe σ vs ∧ tT K mg W0 mt σ2 H2 fun b H3 =>
      if b = true then tE K mg W0 me σ2 H3 fun y H4 => ∃ acc, H4 D = some (.lst acc) ∧ acc.length < sizeLine ∧ Nx (upd H4 D (.lst (acc ++ [y]))) else Nx H3 := by
  unfold turnC at h
  split at h
  · exact h.elim
  · rename_i ρ1 eT
    have ww : wipe (wipe σ vs) vs = wipe σ vs := by
      have : ∀ (l : List Nat) (τ : L2.St), (∀ i ∈ l, i ∈ vs) → wipe (wipe τ l) vs = wipe τ vs := by
        intro l
        induction l with
        | nil => intro τ _; rfl
        | cons a l ih =>
          intro τ hl
          show wipe ((wipe τ l).set a none) vs = wipe τ vs
          rw [wipe_comm none (hl a List.mem_cons_self), ih τ fun i hi => hl i (List.mem_cons_of_mem _ hi)]
      exact this vs σ fun _ h => h
    refine tg_ok re rv eT fun σ3 re3 hw => ⟨(hw vs hT).trans ww, A, ρ1, S, re3, rs, ?_⟩
    cases et : mt ρ1 S with
    | bad => rw [et] at h; exact h.elim
    | er e S' => rw [et] at h; exact h.elim
    | ok b S1 =>
      rw [et] at h
      refine fun A1 H1 b' p1 e1 rs1 eb => ?_
      obtain rfl : b = b' := eb
      cases b with
      | false =>
        rw [if_neg Bool.false_ne_true]
        exact hN A1 H1 S1 p1 e1 rs1 (Fin.up p1 e1 h)
      | true =>
        rw [if_pos rfl]
        refine ⟨A1, ρ1, S1, re3.up e1 p1, rs1, ?_⟩
        have h : Fin K mg (RV K) W σ A1 H1 (stepC n (me ρ1 S1) k) Q := Fin.up p1 e1 h
        cases ee : me ρ1 S1 with
        | bad => rw [ee] at h; exact h.elim
        | er e S' => rw [ee] at h; exact h.elim
        | ok u S2 =>
          rw [ee] at h
          refine fun A2 H2 y p2 e2 rs2 ry => ?_
          cases u with
          | l _ => exact h.elim
          | d d =>
            have h : Fin K mg (RV K) W σ A1 H1 (match S2[n]? with
              | some (.lst acc) => if acc.length < sizeLine then k (S2.set n (.lst (acc ++ [d]))) else .bad
              | _ => .bad) Q := h
            have h := Fin.up p2 e2 h
            split at h
            · rename_i acc ea
              have hD2 := pre_get p2 (pre_get p1 hD)
              obtain ⟨us, g1, g2⟩ := rs2.cell _ _ _ hD2 ea
              split at h
              · rename_i c
                refine ⟨us, g1, by rw [g2.length]; exact c, ?_⟩
                have ex : Ext K H2 (upd H2 D (.lst (us ++ [y]))) := ext_mut g1 ho_lst.1 ho_lst.2
                obtain ⟨_, rs3⟩ := rs2.write (o' := .lst (us ++ [y])) (c' := .lst (acc ++ [d])) hD2 ea rfl ⟨us ++ [y], upd_same, RDs.up ex _ _ (g2.append (RDs.one ry))⟩ rfl
                exact hN A2 _ _ (p1.trans p2) ((e1.trans e2).trans ex) rs3 (Fin.up (List.prefix_refl _) ex h)
              · exact h.elim
            · exact h.elim
theorem w_lc {vs : List Nat} (hT : ∀ i ∈ T.own, i ∈ vs) {σ : L2.St} {H : Hp} {Q : VK} (h : tE X.K X.mg W (dLc mi T mt me vs) σ H Q) :
    tLc (tM X.K X.mg (RI X.K) W mi) (T.rd X.K) (tT X.K X.mg W0 mt) (tE X.K X.mg W0 me) vs σ H Q := by
  obtain ⟨A, ρ, S, re, rs, h⟩ := h
  refine tM.mono (tM_bind re rs h) fun J H1 ⟨A1, S1, it, p1, e1, re1, rs1, rv1, h1⟩ D hD => ?_
  have u : Up H1 (upd H1 D (.lst [])) := Up.new hD
  have rsN : RS X.K (upd H1 D (.lst [])) (A1 ++ [D]) (S1 ++ [.lst []]) := rs1.new hD ⟨[], upd_same, rfl⟩
  have hDn : (A1 ++ [D])[S1.length]? = some D := by rw [← rs1.len]; simp
  have pN : A1 <+: A1 ++ [D] := List.prefix_append _ _
  have reN := re_wipe (re1.up u.ext pN) vs
  cases it with
  | seq xs =>
    have ok : ItOk X.K A1 J xs H1 := rv1
    have h1 : Fin X.K X.mg (RV X.K) W σ A1 H1 (loopC T mt me S1.length (wipeR ρ vs) xs (S1 ++ [.lst []])) Q := h1
    refine ⟨fun i m H' => m = xs.length - i ∧ i ≤ xs.length ∧ ∃ A' S', (A1 ++ [D]) <+: A' ∧ Ext X.K H1 H' ∧ RE X.K H' A' (wipeR ρ vs) (wipe σ vs) ∧ RS X.K H' A' S' ∧ Fin X.K X.mg (RV X.K) W σ A' H' (loopC T mt me S1.length (wipeR ρ vs) (xs.drop i) S') Q,
      ⟨xs.length, by simp, Nat.zero_le _, A1 ++ [D], S1 ++ [.lst []], List.prefix_refl _, u.ext, reN, rsN, by rw [List.drop_zero]; exact Fin.up pN u.ext h1⟩, ?_⟩
    rintro i m H' ⟨rfl, hi, A', S', p', e', re', rs', h'⟩
    have hD' := pre_get p' hDn
    by_cases hlt : i < xs.length
    · rw [List.drop_eq_getElem_cons hlt] at h'
      refine .inr ⟨ok.go i H' e' hlt, fun H2 => ∃ A2 S2, (A1 ++ [D]) <+: A2 ∧ Ext X.K H1 H2 ∧ RE X.K H2 A2 (wipeR ρ vs) (wipe σ vs) ∧ RS X.K H2 A2 S2 ∧ Fin X.K X.mg (RV X.K) W σ A2 H2 (loopC T mt me S1.length (wipeR ρ vs) (xs.drop (i + 1)) S2) Q,
        fun H2 hN => ⟨xs.length - (i + 1), by omega, rfl, hlt, hN⟩, fun x H2 hy => ?_⟩
      obtain ⟨uu, rv⟩ := ok.yl i H' x H2 _ e' hy (List.getElem?_eq_getElem hlt)
      exact turn_ok (re'.up uu.ext (List.prefix_refl _)) (rs'.up uu) (rv.up Ext.refl (pN.trans p')) hD' hT (Fin.up (List.prefix_refl _) uu.ext h') fun A3 H3 S3 p3 e3 rs3 h3 =>
        ⟨A3, S3, p'.trans p3, e'.trans (uu.ext.trans e3), re'.up (uu.ext.trans e3) p3, rs3, h3⟩
    · have : i = xs.length := by omega
      subst this
      rw [List.drop_length] at h'
      exact .inl ⟨ok.st _ H' e' (Nat.le_refl _), h'.now (b := V.ref D) rs' ⟨D, hD', rfl⟩⟩
  | lst n =>
    obtain ⟨a, ha, rfl⟩ := rv1
    cases ed : lstAt S1 n with
    | none => simp only [ed] at h1; exact h1.elim
    | some ds =>
      simp only [ed] at h1
      refine ⟨fun i m H' => m = ds.length - i ∧ i ≤ ds.length ∧ ∃ A' S', (A1 ++ [D]) <+: A' ∧ Ext X.K H1 H' ∧ RE X.K H' A' (wipeR ρ vs) (wipe σ vs) ∧ RS X.K H' A' S' ∧ Fin X.K X.mg (RV X.K) W σ A' H' (loopCL T mt me S1.length (wipeR ρ vs) n ds (ds.drop i) S') Q,
        ⟨ds.length, by simp, Nat.zero_le _, A1 ++ [D], S1 ++ [.lst []], List.prefix_refl _, u.ext, reN, rsN, by rw [List.drop_zero]; exact Fin.up pN u.ext h1⟩, ?_⟩
      rintro i m H' ⟨rfl, hi, A', S', p', e', re', rs', h'⟩
      have hD' := pre_get p' hDn
      have ha' := pre_get (pN.trans p') ha
      by_cases hlt : i < ds.length
      · rw [List.drop_eq_getElem_cons hlt] at h'
        unfold loopCL at h'
        split at h'
        · rename_i cs
          obtain ⟨us, q1, q2⟩ := lstAt_sq rs' ha' (stands_iff.mp cs)
          obtain ⟨x0, g1, g2⟩ := q2.get (List.getElem?_eq_getElem hlt)
          refine .inr ⟨⟨us, x0, q1, g1⟩, fun H2 => ∃ A2 S2, (A1 ++ [D]) <+: A2 ∧ Ext X.K H1 H2 ∧ RE X.K H2 A2 (wipeR ρ vs) (wipe σ vs) ∧ RS X.K H2 A2 S2 ∧ Fin X.K X.mg (RV X.K) W σ A2 H2 (loopCL T mt me S1.length (wipeR ρ vs) n ds (ds.drop (i + 1)) S2) Q,
            fun H2 hN => ⟨ds.length - (i + 1), by omega, rfl, hlt, hN⟩, fun x H2 hy => ?_⟩
          obtain ⟨rfl, hy⟩ := hy
          have : x0 = x := Option.some.inj (g1.symm.trans (hy us q1))
          subst this
          exact turn_ok re' rs' (v := .d _) g2 hD' hT h' fun A3 H3 S3 p3 e3 rs3 h3 =>
            ⟨A3, S3, p'.trans p3, e'.trans e3, re'.up e3 p3, rs3, h3⟩
        · exact h'.elim
      · have : i = ds.length := by omega
        subst this
        rw [List.drop_length] at h'
        unfold loopCL at h'
        split at h'
        · rename_i cs
          obtain ⟨us, q1, q2⟩ := lstAt_sq rs' ha' (stands_iff.mp cs)
          exact .inl ⟨⟨us, q1, by rw [q2.length]; exact Nat.le_refl _⟩, h'.now (b := V.ref D) rs' ⟨D, hD', rfl⟩⟩
        · exact h'.elim
abbrev BlkAll (X : Cx) (scope : Scope) (P : Cx → Prop) : Prop := ∀ (s : Shared) (H : Hp) (C : Addr) (cl : List (Str × Addr)) (fp : List Addr), P (X.blk s H scope (compEnvC scope cl C X.env) fp)
theorem s_lc (hc : X.calm = true) (hN : X.N.Nodup) (hi : SI X W tg iter mi) (ok : BlkOk X.N X.env.scope scope own) (hT : ∀ i ∈ T.own, i ∈ own.map (·.2)) (hg : BlkAll X scope fun Y => PG Y tg (T.rd X.K)) (ht : BlkAll X scope fun Y => PTs Y ifs (tT X.K X.mg W0 mt))
    (he : BlkAll X scope fun Y => PE Y elt (tE X.K X.mg W0 me)) (hs : ∀ x, foldedSetIterable iter X.env x = pure x := by intro _; rfl) : SE X W (.ListComp elt [⟨tg, iter, ifs, 0⟩] scope pos) (dLc mi T mt me (own.map (·.2))) :=
  PE.weak (pe_lc hc hN hi ok hg ht he hs) fun _ _ _ => w_lc hT
def dSet (i : Nat) (m : DE) : DS := fun ρ S => bindS (m ρ S) ρ fun v S1 => .nx (ρ.set i (some v)) S1
theorem w_set {i : Nat} {m : DE} {D : Ends} {σ : L2.St} {H : Hp} (h : tS X.K X.mg W (dSet i m) D σ H) : tE X.K X.mg W m σ H fun x H1 => gName i x σ H1 D.nx := by
  obtain ⟨A, ρ, S, re, rs, h⟩ := h
  refine tM.mono (tM_bindS re rs h) fun x H1 ⟨A1, S1, v, p1, e1, re1, rs1, rv1, h1⟩ => ?_
  exact h1 A1 H1 _ (List.prefix_refl _) Ext.refl rs1 (re1.set i rv1)
theorem s_setLc {i : Nat} {y : Str} (hc : X.calm = true) (hN : X.N.Nodup) (hy : X.N[i]? = some y) (hyl : X.env.scope.names.lookup y = some .local)
    (hsw : swapsWith (.ListComp elt [⟨tg, iter, ifs, 0⟩] scope pos) (some (.Name y py)) spos.line X.env = pure true) (hi : SI X W tg iter mi) (ok : BlkOk X.N X.env.scope scope own) (hT : ∀ i ∈ T.own, i ∈ own.map (·.2)) (hg : BlkAll X scope fun Y => PG Y tg (T.rd X.K)) (ht : BlkAll X scope fun Y => PTs Y ifs (tT X.K X.mg W0 mt))
    (he : BlkAll X scope fun Y => PE Y elt (tE X.K X.mg W0 me)) (hs : ∀ x, foldedSetIterable iter X.env x = pure x := by intro _; rfl) : SS X W (.Assign [.Name y py] (.ListComp elt [⟨tg, iter, ifs, 0⟩] scope pos) spos) (dSet i (dLc mi T mt me (own.map (·.2)))) := by
  refine PS.weak (ps_setLc hc hN hy hyl hsw hi ok hg ht he hs) fun D σ H h => ?_
  exact w_lc hT (w_set h)
theorem spt_nil {Y : Cx} : PTs Y [] (tT Y.K Y.mg W0 dYes) := PTs.weak pts_nil fun σ H Q ⟨A, ρ, S, re, rs, h⟩ => h.now (b := true) rs rfl
theorem spt_one {Y : Cx} {c : Expr} {m : DT} (h : PT Y c (tT Y.K Y.mg W0 m)) : PTs Y [c] (tT Y.K Y.mg W0 m) := pts_one h
end

/-! ### statements -/
def dSeq (a b : DS) : DS := fun ρ S => match a ρ S with
  | .nx ρ' S' => b ρ' S'
  | o => o
def dNext : DS := fun ρ S => .nx ρ S
def dBrk : DS := fun ρ S => .bk ρ S
def dCnt : DS := fun ρ S => .ct ρ S
def dExpr (m : DE) : DS := fun ρ S => bindS (m ρ S) ρ fun _ S1 => .nx ρ S1
def dRet (m : DE) : DS := fun ρ S => bindS (m ρ S) ρ fun v S1 => .rt v S1
def dRetN : DS := fun _ S => .rt (.d .non) S
def dIf (t : DT) (a b : DS) : DS := fun ρ S => bindS (t ρ S) ρ fun c S1 => if c = true then a ρ S1 else b ρ S1
def dBad : DS := fun _ _ => .bad
def dAsg (T : Tg) (m : DE) : DS := fun ρ S => bindS (m ρ S) ρ fun v S1 => match T.run v ρ with
  | some ρ' => .nx ρ' S1
  | none => .bad
def setsL : List Nat → List Vl → Env → Option Env
  | [], [], ρ => some ρ
  | i :: is, v :: vs, ρ => setsL is vs (ρ.set i (some v))
  | _, _, _ => none
def dPar (is : List Nat) (m : DA) : DS := fun ρ S => bindS (m ρ S) ρ fun vs S1 => match setsL is vs ρ with
  | some ρ' => .nx ρ' S1
  | none => .bad
section
variable {X : Cx} {W : WX} {pos : Pos} {st : Stmt} {rest a b : List Stmt} {ms mr : DS} {e c : Expr} {m : DE} {mt : DT} {ma : DA}
theorem ss_nil : SSs X W [] dNext := PSs.weak pss_nil fun D σ H ⟨A, ρ, S, re, rs, h⟩ => h A H σ (List.prefix_refl _) Ext.refl rs re
theorem ss_cons (h1 : SS X W st ms) (h2 : SSs X W rest mr) : SSs X W (st :: rest) (dSeq ms mr) := by
  refine PSs.weak (pss_cons h1 h2) fun D σ H ⟨A, ρ, S, re, rs, h⟩ => ⟨A, ρ, S, re, rs, ?_⟩
  unfold dSeq at h
  cases e : ms ρ S with
  | nx ρ' S' => rw [e] at h; exact fun A' H' σ' p x r q => ⟨A', ρ', S', q, r, FinS.up p x h⟩
  | rt v S' => rw [e] at h; exact h
  | bk v S' => rw [e] at h; exact h
  | ct v S' => rw [e] at h; exact h
  | er x v S' => rw [e] at h; exact h
  | bad => rw [e] at h; exact h
theorem ss_one (h1 : SS X W st ms) : SSs X W [st] ms := pss_one h1
theorem s_pass : SS X W (.Pass pos) dNext := PS.weak ps_pass fun D σ H ⟨A, ρ, S, re, rs, h⟩ => h A H σ (List.prefix_refl _) Ext.refl rs re
theorem s_break : SS X W (.Break pos) dBrk := PS.weak ps_break fun D σ H ⟨A, ρ, S, re, rs, h⟩ => h A H σ (List.prefix_refl _) Ext.refl rs re
theorem s_cont : SS X W (.Continue pos) dCnt := PS.weak ps_continue fun D σ H ⟨A, ρ, S, re, rs, h⟩ => h A H σ (List.prefix_refl _) Ext.refl rs re
theorem s_expr (he : SE X W e m) (hs : swapsWith e none pos.line X.env = pure false := by rfl) : SS X W (.Expr e pos) (dExpr m) := by
  refine PS.weak (ps_expr he hs) fun D σ H ⟨A, ρ, S, re, rs, h⟩ => ?_
  refine tM.mono (tM_bindS re rs h) fun x H1 ⟨A1, S1, v, p1, e1, re1, rs1, rv1, h1⟩ => ?_
  exact h1 A1 H1 σ (List.prefix_refl _) Ext.refl rs1 re1
theorem s_ret (he : SE X W e m) : SS X W (.Return (some e) pos) (dRet m) := by
  refine PS.weak (ps_ret he) fun D σ H ⟨A, ρ, S, re, rs, h⟩ => ?_
  refine tM.mono (tM_bindS re rs h) fun x H1 ⟨A1, S1, v, p1, e1, re1, rs1, rv1, h1⟩ => ?_
  exact h1 A1 H1 x (List.prefix_refl _) Ext.refl rs1 rv1
theorem s_retN : SS X W (.Return none pos) dRetN := PS.weak ps_retN fun D σ H ⟨A, ρ, S, re, rs, h⟩ => h A H .non (List.prefix_refl _) Ext.refl rs rfl
theorem s_if (hc : ST X W c mt) (ha : SSs X W a ms) (hb : SSs X W b mr) : SS X W (.If c a b pos) (dIf mt ms mr) := by
  refine PS.weak (ps_if hc ha hb) fun D σ H ⟨A, ρ, S, re, rs, h⟩ => ?_
  refine tM.mono (tM_bindS re rs h) fun x H1 ⟨A1, S1, v, p1, e1, re1, rs1, rv1, h1⟩ => ?_
  obtain rfl : v = x := rv1
  cases v with
  | true => exact ⟨A1, ρ, S1, re1, rs1, h1⟩
  | false => exact ⟨A1, ρ, S1, re1, rs1, h1⟩
theorem s_never : SS X W st dBad := PS.weak ps_never fun D σ H ⟨A, ρ, S, re, rs, h⟩ => h.elim
theorem s_set (i : Nat) {x : Str} {pos' : Pos} (hN : X.N.Nodup) (hi : X.N[i]? = some x) (hx : Loc X.env.scope x) (he : SE X W e m) (hs : swapsWith e (some (.Name x pos')) pos.line X.env = pure false := by rfl)
    (hf : X.fn x = true ∨ X.env.scope.names.lookup x = some .local := by first | exact .inl rfl | exact .inr rfl | assumption) : SS X W (.Assign [.Name x pos'] e pos) (dSet i m) :=
  PS.weak (ps_set hN hi hx he hs hf) fun D σ H h => w_set h
theorem s_asg {tg : Expr} {T : Tg} (he : SE X W e m) (hg : SG' X tg T) (hs : swapsWithSole [tg] e pos.line X.env = pure false := by rfl) (hw : swappedStores [tg] e X.env = pure none := by rfl)
    (h1 : (assignEach [tg] X.env).map (·.2) = [assign tg X.env] := by rfl) : SS X W (.Assign [tg] e pos) (dAsg T m) := by
  refine PS.weak (ps_asg he hg hs hw h1) fun D σ H ⟨A, ρ, S, re, rs, h⟩ => ?_
  refine tM.mono (tM_bindS re rs h) fun x H1 ⟨A1, S1, v, p1, e1, re1, rs1, rv1, h1⟩ => ?_
  split at h1
  · rename_i ρ' eT
    exact tg_ok re1 rv1 eT fun σ' re' _ => h1 A1 H1 σ' (List.prefix_refl _) Ext.refl rs1 re'
  · exact h1.elim
theorem re_setsL {K : PySem.W.Frag} {H : Hp} {A : List Addr} : ∀ {is : List Nat} {vs : List Vl} {xs : List V} {ρ ρ' : Env} {σ : L2.St}, RVs K H A vs xs → setsL is vs ρ = some ρ' → RE K H A ρ σ → RE K H A ρ' (setsV is xs σ)
  | [], [], xs, ρ, ρ', σ, _, h, r => by cases h; unfold setsV; exact r
  | i :: is, d :: ds, _, ρ, ρ', σ, ⟨v, xs, h1, h2, h3⟩, h, r => by
    subst h1
    unfold setsV
    exact re_setsL h3 h (r.set i h2)
  | [], _ :: _, _, _, _, _, _, h, _ => by cases h
  | _ :: _, [], _, _, _, _, _, h, _ => by cases h
theorem s_par2 {i j : Nat} {x y : Str} {a b : Expr} {px py pt : Pos} {kt k2 : Nat} {pt2 : Pos} (h : PS X (.Assign [.Tuple [.Name x px, .Name y py] kt pt] (.Tuple [a, b] k2 pt2) pos) (tPar i j (tAr X.K X.mg W ma))) :
    SS X W (.Assign [.Tuple [.Name x px, .Name y py] kt pt] (.Tuple [a, b] k2 pt2) pos) (dPar [i, j] ma) := by
  refine PS.weak h fun D σ H ⟨A, ρ, S, re, rs, h⟩ => ?_
  refine tM.mono (tM_bindS re rs h) fun xs H1 ⟨A1, S1, vs, p1, e1, re1, rs1, rv1, h1⟩ => ?_
  split at h1
  · rename_i ρ' e
    match vs, rv1, e with
    | [v, w], rv1, e =>
      have re2 := re_setsL rv1 e re1
      obtain ⟨x, y, rfl, rx, ry⟩ := rv1.two
      exact ⟨x, y, rfl, h1 A1 H1 _ (List.prefix_refl _) Ext.refl rs1 re2⟩
    | [], _, e => cases e
    | [_], _, e => cases e
    | _ :: _ :: _ :: _, _, e => cases e
  · exact h1.elim
theorem s_par3 {i j l : Nat} {st : Stmt} (h : PS X st (tPar3 i j l (tAr X.K X.mg W ma))) : SS X W st (dPar [i, j, l] ma) := by
  refine PS.weak h fun D σ H ⟨A, ρ, S, re, rs, h⟩ => ?_
  refine tM.mono (tM_bindS re rs h) fun xs H1 ⟨A1, S1, vs, p1, e1, re1, rs1, rv1, h1⟩ => ?_
  split at h1
  · rename_i ρ' e
    match vs, rv1, e with
    | [v, w, u], rv1, e =>
      have re2 := re_setsL rv1 e re1
      obtain ⟨x, r, rfl, rx, rr⟩ := rv1
      obtain ⟨y, z, rfl, ry, rz⟩ := rr.two
      exact ⟨x, y, z, rfl, h1 A1 H1 _ (List.prefix_refl _) Ext.refl rs1 re2⟩
    | [], _, e => cases e
    | [_], _, e => cases e
    | [_, _], _, e => cases e
    | _ :: _ :: _ :: _ :: _, _, e => cases e
  · exact h1.elim
theorem names_okL {K : PySem.W.Frag} {H : Hp} {A : List Addr} : ∀ {is : List Nat} {vs : List Vl} {xs : List V} {ρ ρ' : Env} {σ : L2.St} {H' : Hp} {Q : L2.St → Hp → Prop}, RVs K H A vs xs → setsL is vs ρ = some ρ' → Q (setsV is xs σ) H' → gNames is xs σ H' Q
  | [], [], xs, ρ, ρ', σ, H', Q, r, _, q => ⟨r, q⟩
  | i :: is, d :: ds, _, ρ, ρ', σ, H', Q, ⟨v, xs, h1, h2, h3⟩, h, q => by
    subst h1
    exact ⟨v, xs, rfl, names_okL h3 h q⟩
  | [], _ :: _, _, _, _, _, _, _, _, h, _ => by cases h
  | _ :: _, [], _, _, _, _, _, _, _, h, _ => by cases h
theorem setsL_len {is : List Nat} : ∀ {vs : List Vl} {ρ ρ' : Env}, setsL is vs ρ = some ρ' → vs.length = is.length := by
  induction is with
  | nil => intro ds ρ ρ' h; cases ds with
    | nil => rfl
    | cons _ _ => cases h
  | cons i is ih => intro ds ρ ρ' h; cases ds with
    | nil => cases h
    | cons d ds =>
      have := ih (vs := ds) (ρ := ρ.set i (some d)) (ρ' := ρ') h
      simp [this]
/-- a, b, c, d = e1, e2, e3, e4: a tuple made, taken apart -/
def dParN (is : List Nat) (m : DA) : DS := fun ρ S => bindS (m ρ S) ρ fun vs S1 => if vs.length ≤ sizeLine then match setsL is vs ρ with
  | some ρ' => .nx ρ' S1
  | none => .bad
  else .bad
theorem s_parN {is : List Nat} {es : List Expr} {tgs : List Expr} {k k2 : Nat} {pt pt2 : Pos} (he : SA X W es ma) (hg : SG' X (.Tuple tgs k pt) (.tp is)) (hs : swapsWithSole [.Tuple tgs k pt] (.Tuple es k2 pt2) pos.line X.env = pure false := by rfl) (hw : swappedStores [.Tuple tgs k pt] (.Tuple es k2 pt2) X.env = pure none := by rfl)
    (h1 : (assignEach [.Tuple tgs k pt] X.env).map (·.2) = [assign (.Tuple tgs k pt) X.env] := by rfl) : SS X W (.Assign [.Tuple tgs k pt] (.Tuple es k2 pt2) pos) (dParN is ma) := by
  refine PS.weak (ps_asg (pe_tup he) hg hs hw h1) fun D σ H ⟨A, ρ, S, re, rs, h⟩ => ?_
  refine tM.mono (tM_bindS re rs h) fun xs H1 ⟨A1, S1, vs, p1, e1, re1, rs1, rv1, h1⟩ => ?_
  split at h1
  · rename_i c
    split at h1
    · rename_i ρ' e
      refine ⟨by rw [rv1.length]; exact c, fun p hp => ?_⟩
      have u : Up H1 (upd H1 p (.tup xs)) := Up.new hp
      refine ⟨p, xs, rfl, SqT.of upd_same, by rw [rv1.length]; exact setsL_len e, names_okL rv1 e ?_⟩
      exact h1 A1 _ _ (List.prefix_refl _) u.ext (rs1.up u) (re_setsL (rv1.up u.ext (List.prefix_refl _)) e (re1.up u.ext (List.prefix_refl _)))
    · exact h1.elim
  · exact h1.elim
end
end DL
end

section
set_option Elab.async false
set_option linter.all false
set_option maxRecDepth 100000
set_option autoImplicit false
set_option maxHeartbeats 400000
namespace DL
open PySem L2 TL

/-! ### one of two readings -/
theorem PE.or {X : Cx} {e : Expr} {t u : TE} (h : PE X e t) (k : PE X e u) : PE X e (fun σ H Q => t σ H Q ∨ u σ H Q) := ⟨fun pins s σ H Q I q => q.elim (h.run pins s σ H Q I) (k.run pins s σ H Q I)⟩
theorem PT.or {X : Cx} {e : Expr} {t u : TT} (h : PT X e t) (k : PT X e u) : PT X e (fun σ H Q => t σ H Q ∨ u σ H Q) := ⟨fun pins s σ H Q I q => q.elim (h.run pins s σ H Q I) (k.run pins s σ H Q I)⟩
theorem PS.or {X : Cx} {e : Stmt} {t u : TS} (h : PS X e t) (k : PS X e u) : PS X e (fun D σ H => t D σ H ∨ u D σ H) := ⟨fun pins s σ H D I q => q.elim (h.run pins s σ H D I) (k.run pins s σ H D I)⟩
theorem PI.or {X : Cx} {tg e : Expr} {t u : TI} (h : PI X tg e t) (k : PI X tg e u) : PI X tg e (fun σ H R => t σ H R ∨ u σ H R) := ⟨fun pins s σ H R I q => q.elim (h.run pins s σ H R I) (k.run pins s σ H R I)⟩

/-! ### walking a list, a tuple, a text -/
def dIA (m : DE) : DI := fun ρ S => (m ρ S).bind fun v S1 => match v with
  | .l n => if (lstAt S1 n).isSome = true then .ok (.lst n) S1 else .bad
  | .d (.tup ds) => .ok (.seq (ds.map .d)) S1
  | .d (.str s) => .ok (.seq (s.map fun c => .d (.str [c]))) S1
  | _ => .bad
theorem si_any {X : Cx} {W : WX} {tg e : Expr} {m : DE} (h : SE X W e m) : SI X W tg e (dIA m) := by
  refine PI.weak (PI.or (si_list h) (PI.or (si_tup h) (si_str h))) fun σ H Q ⟨A, ρ, S, re, rs, h⟩ => ?_
  cases e : m ρ S with
  | bad => unfold dIA at h; rw [e] at h; exact h.elim
  | er x S' => exact .inl ⟨A, ρ, S, re, rs, by unfold dIL; unfold dIA at h; rw [e] at h ⊢; exact h⟩
  | ok v S' =>
    cases v with
    | l n => exact .inl ⟨A, ρ, S, re, rs, by unfold dIL; unfold dIA at h; rw [e] at h ⊢; exact h⟩
    | d d =>
      cases d with
      | tup ds => exact .inr (.inl ⟨A, ρ, S, re, rs, by unfold dIT; unfold dIA at h; rw [e] at h ⊢; exact h⟩)
      | str s => exact .inr (.inr ⟨A, ρ, S, re, rs, by unfold dIS; unfold dIA at h; rw [e] at h ⊢; exact h⟩)
      | _ => unfold dIA at h; rw [e] at h; exact h.elim

/-! ### isinstance with a built-in type -/
def tyN (v : Vl) (S : Store) : Option String := match v with
  | .d .non => some "NoneType"
  | .d (.bl _) => some "bool"
  | .d (.int _) => some "int"
  | .d (.str _) => some "str"
  | .d (.tup _) => some "tuple"
  | .l n => match S[n]? with
    | some (.lst _) => some "list"
    | some (.dct _) => some "dict"
    | _ => none
def isiB (a T : String) : Bool := a == T || (a == "bool" && T == "int")
def dIsi (T : String) (m : DE) : DE := fun ρ S => (m ρ S).bind fun v S1 => match tyN v S1 with
  | some a => .ok (.d (.bl (isiB a T))) S1
  | none => .bad
def KitOk (T : String) : Prop := ∀ a ∈ ["NoneType", "bool", "int", "str", "tuple", "list", "dict"], kitB a T = some (isiB a T)
theorem kit_tuple : KitOk "tuple" := by unfold KitOk; decide +kernel
theorem kit_int : KitOk "int" := by unfold KitOk; decide +kernel
theorem kit_str : KitOk "str" := by unfold KitOk; decide +kernel
theorem kit_bool : KitOk "bool" := by unfold KitOk; decide +kernel
theorem kit_list : KitOk "list" := by unfold KitOk; decide +kernel
theorem sqT_ty {K : PySem.W.Frag} {H : Hp} {a : Addr} {vs : List V} (h : SqT K H a vs) : TyX K H (.ref a) (.type "tuple") := by
  rcases h with (h | ⟨o, h⟩) | ⟨o, its, n, hk, hc, _⟩
  · exact .base (.tup h)
  · exact .fTuple h
  · exact .kTuple hk hc
theorem tyN_ok {K : PySem.W.Frag} {H : Hp} {A : List Addr} {S : Store} {v : Vl} {x : V} {a : String} (rs : RS K H A S) (rv : RV K H A v x) (h : tyN v S = some a) : TyX K H x (.type a) ∧ a ∈ ["NoneType", "bool", "int", "str", "tuple", "list", "dict"] := by
  unfold tyN at h
  split at h
  · cases h; rw [show x = _ from rv]; exact ⟨.base .non, by simp⟩
  · cases h; rw [show x = _ from rv]; exact ⟨.base (.bl _), by simp⟩
  · cases h; rw [show x = _ from rv]; exact ⟨.base (.int _), by simp⟩
  · cases h; rw [show x = _ from rv]; exact ⟨.base (.str _), by simp⟩
  · cases h
    obtain ⟨b, vs, rfl, h1, _⟩ := rv
    exact ⟨sqT_ty h1, by simp⟩
  · obtain ⟨b, hb, rfl⟩ := rv
    split at h
    · rename_i ds e
      cases h
      obtain ⟨vs, q, _⟩ := rs.cell _ _ _ hb e
      exact ⟨.base (.lst q), by simp⟩
    · rename_i ds e
      cases h
      obtain ⟨vs, q, _⟩ := rs.cell _ _ _ hb e
      exact ⟨.base (.dK q), by simp⟩
    · cases h
theorem s_isi {X : Cx} {W : WX} {x y : Str} {p p2 pos : Pos} {e : Expr} {m : DE} (T : String) (hk : KitOk T) (hg : Gl X x) (hm : X.mg x = none) (hv : bootBuiltins x = some (.builtin "isinstance")) (hg2 : Gl X y) (hm2 : X.mg y = none) (hv2 : bootBuiltins y = some (.type T)) (ha : SE X W e m)
    (hn : x ≠ "__name__" := by decide) (hdb : (x == ("__debug__" : Str)) = false := by decide) (hn2 : y ≠ "__name__" := by decide) (hdb2 : (y == ("__debug__" : Str)) = false := by decide)
    (hs : starEach (e :: [.Name y p2]) X.env = (false, eval e X.env) :: starEach [.Name y p2] X.env := by rfl) (hs2 : starEach (.Name y p2 :: []) X.env = (false, eval (.Name y p2) X.env) :: starEach [] X.env := by rfl) (hpl : (backTo pos (starEach [.Name y p2] X.env)).any (·.1) = false := by rfl) :
    SE X W (.Call (.Name x p) [e, .Name y p2] [] pos) (dIsi T m) := by
  refine PE.weak (pe_callB call_isi hg hm hv (pa_cons ha (pa_cons (pe_bltn (v := .ty T) hg2 hm2 hv2 rfl hn2 hdb2) pa_nil hs2) hs) hn hdb hs hpl) fun σ H Q ⟨A, ρ, S, re, rs, h⟩ => ?_
  refine tM.mono (tM_bind re rs h) fun x H1 ⟨A1, S1, v, p1, e1, re1, rs1, rv1, h1⟩ => ?_
  split at h1
  · rename_i a ea
    obtain ⟨t1, t2⟩ := tyN_ok rs1 rv1 ea
    exact ⟨x, .ty T, .type a, .type T, isiB a T, rfl, .ty T, t1, kit_ty (hk a t2), fin_v h1 rs1 rfl⟩
  · exact h1.elim

/-! ### dicts with int and text keys -/
def keyOkD : D → Bool
  | .int _ => true
  | .str _ => true
  | _ => false
def look (kvs : List (D × D)) (k : D) : Option D := (kvs.find? fun p => sameD p.1 k).map (·.2)
def putD (kvs : List (D × D)) (k v : D) : List (D × D) := if (kvs.any fun p => sameD p.1 k) = true then kvs.map (fun p => if sameD p.1 k = true then (p.1, v) else p) else kvs ++ [(k, v)]
section
variable {K : PySem.W.Frag} {H : Hp}
theorem key_same {a b : D} {k k' : Key} (h : keyD a = some k) (h' : keyD b = some k') : decide (k = k') = sameD a b := by
  cases a <;> cases b <;> first
    | (cases h; done)
    | (cases h'; done)
    | (cases h; cases h'; simp [sameD]; done)
    | (rename_i s t; cases h; cases h'; simp only [sameD]; rw [Bool.eq_iff_iff, decide_eq_true_eq, beq_iff_eq]; exact ⟨fun z => sOf_inj (Sum.inr.inj z), fun z => by rw [z]⟩)
    | (rename_i s t; cases h; cases h'; simp only [sameD]; rw [Bool.eq_iff_iff, decide_eq_true_eq, beq_iff_eq]; exact ⟨fun z => Sum.inl.inj z, fun z => by rw [z]⟩)
theorem key_V {a : D} {k : Key} {x : V} (h : keyD a = some k) (r : RD K H a x) : x = kV k := by
  cases a <;> first
    | (cases h; done)
    | (cases h; exact r)
theorem look_ok {k : D} {k' : Key} (hk : keyD k = some k') : ∀ {kvs : List (D × D)} {l : List (Key × V)}, RKv K H kvs l → (∃ d v, look kvs k = some d ∧ valV l k' = some v ∧ RD K H d v) ∨ (look kvs k = none ∧ valV l k' = none)
  | [], _, h => by rw [show _ = [] from h]; exact .inr ⟨rfl, rfl⟩
  | (a, d) :: r, _, ⟨ka, v, r', h1, h2, h3, h4⟩ => by
    subst h1
    have e := key_same h2 hk
    by_cases c : ka = k'
    · rw [decide_eq_true c] at e
      refine .inl ⟨d, v, ?_, ?_, h3⟩
      · unfold look; rw [List.find?_cons_of_pos (by simpa using e.symm)]; rfl
      · exact valV_pos (p := (ka, v)) c
    · rw [decide_eq_false c] at e
      have e2 : look ((a, d) :: r) k = look r k := by
        unfold look; rw [List.find?_cons_of_neg (by simpa using e.symm)]
      rw [e2, valV_neg (p := (ka, v)) c]
      exact look_ok hk h4
theorem any_ok {k : D} {k' : Key} (hk : keyD k = some k') : ∀ {kvs : List (D × D)} {l : List (Key × V)}, RKv K H kvs l → (kvs.any fun p => sameD p.1 k) = (l.any fun kv => decide (kv.1 = k'))
  | [], _, h => by rw [show _ = [] from h]; rfl
  | (a, d) :: r, _, ⟨ka, v, r', h1, h2, h3, h4⟩ => by
    subst h1
    rw [List.any_cons, List.any_cons, any_ok hk h4, key_same h2 hk]
theorem map_ok {k : D} {k' : Key} {d' : D} {v' : V} (hk : keyD k = some k') (hv : RD K H d' v') : ∀ {kvs : List (D × D)} {l : List (Key × V)}, RKv K H kvs l → RKv K H (kvs.map fun p => if sameD p.1 k = true then (p.1, d') else p) (l.map fun kv => if kv.1 = k' then (kv.1, v') else kv)
  | [], _, h => by rw [show _ = [] from h]; rfl
  | (a, d) :: r, _, ⟨ka, v, r', h1, h2, h3, h4⟩ => by
    subst h1
    have e := key_same h2 hk
    rw [List.map_cons, List.map_cons]
    by_cases c : ka = k'
    · rw [decide_eq_true c] at e
      rw [if_pos e.symm, if_pos c]
      exact ⟨ka, v', _, rfl, h2, hv, map_ok hk hv h4⟩
    · rw [decide_eq_false c] at e
      rw [if_neg (by rw [← e]; exact Bool.false_ne_true), if_neg c]
      exact ⟨ka, v, _, rfl, h2, h3, map_ok hk hv h4⟩
theorem snoc_ok {k : D} {k' : Key} {d' : D} {v' : V} (hk : keyD k = some k') (hv : RD K H d' v') : ∀ {kvs : List (D × D)} {l : List (Key × V)}, RKv K H kvs l → RKv K H (kvs ++ [(k, d')]) (l ++ [(k', v')])
  | [], _, h => by rw [show _ = [] from h]; exact ⟨k', v', [], rfl, hk, hv, rfl⟩
  | (a, d) :: r, _, ⟨ka, v, r', h1, h2, h3, h4⟩ => by
    subst h1
    exact ⟨ka, v, _, rfl, h2, h3, snoc_ok hk hv h4⟩
theorem put_ok {k : D} {k' : Key} {d' : D} {v' : V} (hk : keyD k = some k') (hv : RD K H d' v') {kvs : List (D × D)} {l : List (Key × V)} (h : RKv K H kvs l) : RKv K H (putD kvs k d') (putK l k' v') := by
  unfold putD putK
  rw [any_ok hk h]
  split
  · exact map_ok hk hv h
  · exact snoc_ok hk hv h
theorem keyD_some {k : D} (h : keyOkD k = true) : ∃ k', keyD k = some k' := by
  cases k <;> first
    | (cases h; done)
    | exact ⟨_, rfl⟩
end
def dDict : DE := fun _ S => .ok (.l S.length) (S ++ [.dct []])
theorem s_dict {X : Cx} {W : WX} {pos : Pos} : SE X W (.Dict [] [] pos) dDict := by
  refine PE.weak pe_dnewK fun σ H Q ⟨A, ρ, S, re, rs, h⟩ p hp => ?_
  have u : Up H (upd H p (.dK [])) := Up.new hp
  exact h (A ++ [p]) _ _ (List.prefix_append _ _) u.ext (rs.new hp ⟨[], upd_same, rfl⟩) ⟨p, by rw [← rs.len]; simp, rfl⟩
/-- k in a dict, or as gIn -/
def inD (v u : Vl) (S : Store) : Option Bool := match v, u with
  | .d k, .l n => match S[n]? with
    | some (.dct kvs) => if keyOkD k = true then some (look kvs k).isSome else none
    | _ => inB v u S
  | _, _ => inB v u S
def dIn (ma mb : DE) : DE := fun ρ S => (ma ρ S).bind fun v S1 => (mb ρ S1).bind fun u S2 => match inD v u S2 with
  | some b => .ok (.d (.bl b)) S2
  | none => .bad
def dNotIn (ma mb : DE) : DE := fun ρ S => (ma ρ S).bind fun v S1 => (mb ρ S1).bind fun u S2 => match inD v u S2 with
  | some b => .ok (.d (.bl (!b))) S2
  | none => .bad
section
variable {X : Cx} {W : WX} {pos : Pos} {a b : Expr} {ma mb : DE}
/-- which reading serves -/
theorem in_split {σ : L2.St} {H : Hp} {A : List Addr} {ρ : Env} {S : Store} {Q : VK} (f : Bool → Bool) (re : RE X.K H A ρ σ) (rs : RS X.K H A S)
    (h : Fin X.K X.mg (RV X.K) W σ A H ((ma ρ S).bind fun v S1 => (mb ρ S1).bind fun u S2 => match inD v u S2 with
      | some b => .ok (.d (.bl (f b))) S2
      | none => .bad) Q) :
    (tE X.K X.mg W (dBin (fun v u S => match inB v u S with
      | some b => .ok (.d (.bl (f b))) S
      | none => .bad) ma mb) σ H Q) ∨
    (tE X.K X.mg W ma σ H fun y H1 => tE X.K X.mg W mb σ H1 fun x H2 => ∃ a o, x = .ref a ∧ DGet H2 a y o ∧ Q (.bl (f o.isSome)) H2) := by
  cases e1 : ma ρ S with
  | bad => rw [e1] at h; exact h.elim
  | er x S' => rw [e1] at h; exact .inl ⟨A, ρ, S, re, rs, by unfold dBin; rw [e1]; exact h⟩
  | ok v S1 =>
    rw [e1] at h
    cases e2 : mb ρ S1 with
    | bad => simp only [Res.bind_ok, e2] at h; exact h.elim
    | er x S' => simp only [Res.bind_ok, e2] at h; exact .inl ⟨A, ρ, S, re, rs, by unfold dBin; rw [e1]; simp only [Res.bind_ok, e2]; exact h⟩
    | ok u S2 =>
      have h2 : Fin X.K X.mg (RV X.K) W σ A H (match inD v u S2 with
        | some b => .ok (.d (.bl (f b))) S2
        | none => .bad) Q := by simpa only [Res.bind_ok, e2] using h
      have old : inD v u S2 = inB v u S2 → (tE X.K X.mg W (dBin (fun v u S => match inB v u S with
          | some b => .ok (.d (.bl (f b))) S
          | none => .bad) ma mb) σ H Q) := fun z => ⟨A, ρ, S, re, rs, by unfold dBin; rw [e1]; simp only [Res.bind_ok, e2]; rw [z] at h2; exact h2⟩
      match v, u, e1, e2, h2, old with
      | .d k, .l n, e1, e2, h2, old =>
        cases e3 : S2[n]? with
        | none => exact .inl (old (by unfold inD; simp only [e3]))
        | some c =>
          cases c with
          | lst _ => exact .inl (old (by unfold inD; simp only [e3]))
          | frz _ => exact .inl (old (by unfold inD; simp only [e3]))
          | dct kvs =>
            refine .inr ⟨A, ρ, S, re, rs, ?_⟩
            rw [e1]
            refine fun A1 H1 y p1 x1 rs1 ry => ⟨A1, ρ, S1, re.up x1 p1, rs1, ?_⟩
            rw [e2]
            refine fun A2 H2 x p2 x2 rs2 rx => ?_
            obtain ⟨ad, had, rfl⟩ := rx
            obtain ⟨l, q1, q2⟩ := rs2.cell _ _ _ had e3
            unfold inD at h2
            simp only [e3] at h2
            by_cases c : keyOkD k = true
            · simp only [c, if_true] at h2
              obtain ⟨k', hk⟩ := keyD_some c
              have ey := key_V hk (RD.up x2 _ _ ry)
              subst ey
              refine ⟨ad, valV l k', rfl, DGet.k q1, ?_⟩
              have h3 := Fin.up (p1.trans p2) (x1.trans x2) h2
              have : (valV l k').isSome = (look kvs k).isSome := by
                rcases look_ok hk q2 with ⟨d, v, z1, z2, _⟩ | ⟨z1, z2⟩
                · rw [z1, z2]; rfl
                · rw [z1, z2]; rfl
              rw [this]
              exact fin_v h3 rs2 rfl
            · simp only [c] at h2
              exact h2.elim
      | .l _, _, _, _, _, old => exact .inl (old rfl)
      | .d _, .d _, _, _, _, old => exact .inl (old rfl)
theorem s_in (hu : X.A.units + 1 < cLine) (ha : SE X W a ma) (hb : SE X W b mb) (hm : behindInMarks .In b = false := by rfl) : SE X W (.Compare a [.In] [b] pos) (dIn ma mb) :=
  PE.weak (PE.or (pe_cmpR op_inAll ha hb hm) (pe_cmp (pc_din hu ha hb) hm)) fun σ H Q ⟨A, ρ, S, re, rs, h⟩ => (in_split (fun b => b) re rs h).imp (fun z => w_op od_in z) id
theorem s_notIn (hu : X.A.units + 1 < cLine) (ha : SE X W a ma) (hb : SE X W b mb) (hm : behindInMarks .NotIn b = false := by rfl) : SE X W (.Compare a [.NotIn] [b] pos) (dNotIn ma mb) :=
  PE.weak (PE.or (pe_cmpR op_notInAll ha hb hm) (pe_cmp (pc_dnotin hu ha hb) hm)) fun σ H Q ⟨A, ρ, S, re, rs, h⟩ => (in_split (fun b => !b) re rs h).imp (fun z => w_op od_notIn z) id
theorem st_in (hu : X.A.units + 1 < cLine) (ha : SE X W a ma) (hb : SE X W b mb) (hm : behindInMarks .In b = false := by rfl) : ST X W (.Compare a [.In] [b] pos) (dBT (dIn ma mb)) :=
  PT.weak (PT.or (pt_cmpR op_inAll ha hb hm) (pt_cmp (pc_din hu ha hb) hm)) fun σ H Q h => by
    obtain ⟨A, ρ, S, re, rs, h⟩ := w_bt h
    exact (in_split (fun b => b) re rs h).imp (fun z => w_op od_in z) id
theorem st_notIn (hu : X.A.units + 1 < cLine) (ha : SE X W a ma) (hb : SE X W b mb) (hm : behindInMarks .NotIn b = false := by rfl) : ST X W (.Compare a [.NotIn] [b] pos) (dBT (dNotIn ma mb)) :=
  PT.weak (PT.or (pt_cmpR op_notInAll ha hb hm) (pt_cmp (pc_dnotin hu ha hb) hm)) fun σ H Q h => by
    obtain ⟨A, ρ, S, re, rs, h⟩ := w_bt h
    exact (in_split (fun b => !b) re rs h).imp (fun z => w_op od_notIn z) id
/-- xs[i], d[k] -/
def ixD (v u : Vl) (S : Store) : Res Vl := match v, u with
  | .l n, .d k => match S[n]? with
    | some (.dct kvs) => if keyOkD k = true then match look kvs k with
      | some d => .ok (.d d) S
      | none => .bad
      else .bad
    | _ => gIx v u S
  | _, _ => gIx v u S
def dIx (ma mb : DE) : DE := dBin ixD ma mb
theorem s_idx (hu : X.A.units + 1 < cLine) (ha : SE X W a ma) (hb : SE X W b mb) (hs : PlainIx b := by exact fun _ _ => rfl) (hs2 : NoSl b := by exact fun _ _ => rfl) : SE X W (.Subscript a b pos) (dIx ma mb) := by
  refine PE.weak (PE.or (pe_ix ix_seq ha hb hs) (pe_dget hu ha hb hs2)) fun σ H Q ⟨A, ρ, S, re, rs, h⟩ => ?_
  unfold dIx dBin at h
  cases e1 : ma ρ S with
  | bad => rw [e1] at h; exact h.elim
  | er x S' => rw [e1] at h; exact .inl (w_op od_ix ⟨A, ρ, S, re, rs, by unfold dBin; rw [e1]; exact h⟩)
  | ok v S1 =>
    rw [e1] at h
    cases e2 : mb ρ S1 with
    | bad => simp only [Res.bind_ok, e2] at h; exact h.elim
    | er x S' => simp only [Res.bind_ok, e2] at h; exact .inl (w_op od_ix ⟨A, ρ, S, re, rs, by unfold dBin; rw [e1]; simp only [Res.bind_ok, e2]; exact h⟩)
    | ok u S2 =>
      have h2 : Fin X.K X.mg (RV X.K) W σ A H (ixD v u S2) Q := by simpa only [Res.bind_ok, e2] using h
      have old : ixD v u S2 = gIx v u S2 → tOp (rIx X.K) (tE X.K X.mg W ma) (tE X.K X.mg W mb) σ H Q := fun z => w_op od_ix ⟨A, ρ, S, re, rs, by unfold dBin; rw [e1]; simp only [Res.bind_ok, e2]; rw [z] at h2; exact h2⟩
      match v, u, e1, e2, h2, old with
      | .l n, .d k, e1, e2, h2, old =>
        cases e3 : S2[n]? with
        | none => exact .inl (old (by unfold ixD; simp only [e3]))
        | some c =>
          cases c with
          | lst _ => exact .inl (old (by unfold ixD; simp only [e3]))
          | frz _ => exact .inl (old (by unfold ixD; simp only [e3]))
          | dct kvs =>
            refine .inr ⟨A, ρ, S, re, rs, ?_⟩
            rw [e1]
            refine fun A1 H1 y p1 x1 rs1 ry => ⟨A1, ρ, S1, re.up x1 p1, rs1, ?_⟩
            rw [e2]
            refine fun A2 H2 x p2 x2 rs2 rx => ?_
            obtain ⟨ad, had, rfl⟩ := RV.up x2 p2 ry
            obtain ⟨l, q1, q2⟩ := rs2.cell _ _ _ had e3
            unfold ixD at h2
            simp only [e3] at h2
            by_cases c : keyOkD k = true
            · simp only [c, if_true] at h2
              obtain ⟨k', hk⟩ := keyD_some c
              have ey := key_V hk rx
              subst ey
              have h3 := Fin.up (p1.trans p2) (x1.trans x2) h2
              rcases look_ok hk q2 with ⟨d, v, z1, z2, z3⟩ | ⟨z1, z2⟩
              · rw [z1] at h3
                refine ⟨ad, v, rfl, ?_, fin_v h3 rs2 z3⟩
                rw [← z2]
                exact DGet.k q1
              · rw [z1] at h3; exact h3.elim
            · simp only [c] at h2
              exact h2.elim
      | .d _, _, _, _, _, old => exact .inl (old rfl)
      | .l _, .l _, _, _, _, old => exact .inl (old rfl)
end
/-! xs[i] = e, d[k] = e -/
def putC (o i v : Vl) (S : Store) : Option Store := match o, i, v with
  | .l n, .d k, .d x => match S[n]? with
    | some (.lst ds) => match k with
      | .int j => (ixN ds.length j).map fun q => S.set n (.lst (ds.set q x))
      | _ => none
    | some (.dct kvs) => if (keyOkD k && decide (kvs.length < sizeLine)) = true then some (S.set n (.dct (putD kvs k x))) else none
    | _ => none
  | _, _, _ => none
def dPut (mv mo mi : DE) : DS := fun ρ S => bindS (mv ρ S) ρ fun v S1 => bindS (mo ρ S1) ρ fun o S2 => bindS (mi ρ S2) ρ fun i S3 => match putC o i v S3 with
  | some S' => .nx ρ S'
  | none => .bad
section
variable {X : Cx} {W : WX} {pos pos' : Pos} {o i value : Expr} {mo mi mv : DE}
abbrev rPutAll (D : Ends) (σ : L2.St) (o i v : V) (H : Hp) : Prop := (∃ p xs k j, o = .ref p ∧ i = .int k ∧ H p = some (.lst xs) ∧ ixN xs.length k = some j ∧ D.nx σ (upd H p (.lst (xs.set j v)))) ∨ ∃ a H4, o = .ref a ∧ DPut H a i v H4 ∧ D.nx σ H4
theorem w_put {D : Ends} {σ : L2.St} {H : Hp} (h : tS X.K X.mg W (dPut mv mo mi) D σ H) : tE X.K X.mg W mv σ H fun v H1 => tE X.K X.mg W mo σ H1 fun x H2 => tE X.K X.mg W mi σ H2 fun y H3 => rPutAll D σ x y v H3 := by
  obtain ⟨A, ρ, S, re, rs, h⟩ := h
  refine tM.mono (tM_bindS re rs h) fun x H1 ⟨A1, S1, v, p1, e1, re1, rs1, rv1, h1⟩ => ?_
  refine tM.mono (tM_bindS re1 rs1 h1) fun y H2 ⟨A2, S2, u, p2, e2, re2, rs2, rv2, h2⟩ => ?_
  refine tM.mono (tM_bindS re2 rs2 h2) fun z H3 ⟨A3, S3, w, p3, e3, re3, rs3, rv3, h3⟩ => ?_
  have rv := (rv1.up e2 p2).up e3 p3
  have ru := rv2.up e3 p3
  cases eq : putC u w v S3 with
  | none => simp only [eq] at h3; exact h3.elim
  | some S' =>
    simp only [eq] at h3
    cases u with
    | d _ => simp only [putC] at eq; cases eq
    | l n =>
    cases w with
    | l _ => simp only [putC] at eq; cases eq
    | d k =>
    cases v with
    | l _ => simp only [putC] at eq; cases eq
    | d dv =>
    simp only [putC] at eq
    obtain ⟨a, ha, rfl⟩ := ru
    cases ed : S3[n]? with
    | none => rw [ed] at eq; cases eq
    | some cell =>
    rw [ed] at eq
    cases cell with
    | frz _ => cases eq
    | lst ds =>
      obtain ⟨us, q1, q2⟩ := rs3.cell _ _ _ ha ed
      cases k with
      | int j =>
        obtain rfl : z = .int j := rv3
        simp only [Option.map_eq_some_iff] at eq
        obtain ⟨q, eq1, eq2⟩ := eq
        subst eq2
        have r' := q2.set q (show RD X.K H3 dv x from rv)
        have ex : Ext X.K H3 (upd H3 a (.lst (us.set q x))) := ext_mut q1 ho_lst.1 ho_lst.2
        obtain ⟨_, rs'⟩ := rs3.write (o' := .lst (us.set q x)) (c' := .lst (ds.set q dv)) ha ed rfl ⟨_, upd_same, RDs.up ex _ _ r'⟩ rfl
        exact .inl ⟨a, us, j, q, rfl, rfl, q1, by rw [q2.length]; exact eq1, h3 A3 _ σ (List.prefix_refl _) ex rs' (re3.up ex (List.prefix_refl _))⟩
      | _ => cases eq
    | dct kvs =>
      obtain ⟨l, q1, q2⟩ := rs3.cell _ _ _ ha ed
      simp only [] at eq
      split at eq
      · rename_i c
        cases eq
        rw [Bool.and_eq_true] at c
        obtain ⟨k', hk⟩ := keyD_some c.1
        have ez := key_V hk rv3
        subst ez
        have hl : l.length < sizeLine := by rw [q2.length]; exact of_decide_eq_true c.2
        have r' := put_ok hk (show RD X.K H3 dv x from rv) q2
        have ex : Ext X.K H3 (upd H3 a (.dK (putK l k' x))) := ext_mut q1 ho_dK.1 ho_dK.2
        obtain ⟨_, rs'⟩ := rs3.write (o' := .dK (putK l k' x)) (c' := .dct (putD kvs k dv)) ha ed rfl ⟨_, upd_same, RKv.up ex r'⟩ rfl
        exact .inr ⟨a, _, rfl, DPut.k q1 hl, h3 A3 _ σ (List.prefix_refl _) ex rs' (re3.up ex (List.prefix_refl _))⟩
      · cases eq
abbrev rSetAll : TSet := fun o i v H Q => (∃ p xs k j, o = .ref p ∧ i = .int k ∧ H p = some (.lst xs) ∧ ixN xs.length k = some j ∧ Q (upd H p (.lst (xs.set j v)))) ∨ ∃ a H4, o = .ref a ∧ DPut H a i v H4 ∧ Q H4
theorem pset_all (hu : X.A.units + 1 < cLine) : PSet X rSetAll := by
  intro pins s σ H o i v ov iv u Q I ro ri rv h
  rcases h with h | ⟨a, H4, rfl, g, q⟩
  · exact set_list pins s σ H o i v ov iv u Q I ro ri rv h
  · cases ro
    exact d_setItem hu I g ri rv fun s4 I4 => ⟨H4, I4, q⟩
theorem s_put (hu : X.A.units + 1 < cLine) (hv : SE X W value mv) (ho : SE X W o mo) (hi : SE X W i mi)
    (ha : ∀ v, assign (.Subscript o i pos') X.env v = (do
      let ov ← holding [v] (eval o X.env)
      let iv ← holding [v, ov] (eval i X.env)
      standAt pos'
      holding [v, ov, iv] (setItem ov iv v)
      release [v, ov, iv] []) := by intro _; rfl) (hs : swapsWithSole [.Subscript o i pos'] value pos.line X.env = pure false := by rfl) (hw : swappedStores [.Subscript o i pos'] value X.env = pure none := by rfl)
    (h1 : (assignEach [.Subscript o i pos'] X.env).map (·.2) = [assign (.Subscript o i pos') X.env] := by rfl) : SS X W (.Assign [.Subscript o i pos'] value pos) (dPut mv mo mi) :=
  PS.weak (ps_asg hv (pg_sub ho hi (pset_all hu) ha) hs hw h1) fun D σ H h => w_put h
end

/-! ### xs[::-1] -/
def dRev (m : DE) : DE := fun ρ S => (m ρ S).bind fun v S1 => match v with
  | .l n => match lstAt S1 n with
    | some ds => .ok (.l S1.length) (S1 ++ [.lst ds.reverse])
    | none => .bad
  | _ => .bad
theorem s_rev {X : Cx} {W : WX} {k : Nat} {p1 p2 p3 pos : Pos} {e : Expr} {m : DE} (h : SE X W e m) : SE X W (.Subscript e (.Slice none none (some (.UnaryOp .USub (.Constant (.int 1) k p1) p2)) p3) pos) (dRev m) := by
  refine PE.weak (pe_revL h) fun σ H Q ⟨A, ρ, S, re, rs, h⟩ => ?_
  refine tM.mono (tM_bind re rs h) fun x H1 ⟨A1, S1, v, p1, e1, re1, rs1, rv1, h1⟩ => ?_
  cases v with
  | d _ => exact h1.elim
  | l n =>
    obtain ⟨a, ha, rfl⟩ := rv1
    cases ed : lstAt S1 n with
    | none => simp only [ed] at h1; exact h1.elim
    | some ds =>
      simp only [ed] at h1
      obtain ⟨vs, q1, q2⟩ := lstAt_sq rs1 ha ed
      exact ⟨a, vs, rfl, q1, fun p hp => fin_lst h1 rs1 q2.reverse hp⟩
end DL
end

section
set_option Elab.async false
set_option linter.all false
set_option maxRecDepth 100000
set_option autoImplicit false
set_option maxHeartbeats 400000
namespace DL
open PySem L2 TL PyProof.Rows

/-! ### a text, a list: [::-1] -/
def rRevS : V → Hp → VK → Prop := fun x H Q => ∃ z : Str, x = .str z ∧ z.length ≤ sizeLine ∧ Q (.str ⟨z.cps.toList.reverse.toArray⟩) H
theorem rev_cps (z : Str) (u : Tok) : Txt.sliceBy z none none (-1, u) = ⟨z.cps.toList.reverse.toArray⟩ := by
  have h := step_rev_list z u
  have : ∀ a b : Str, a.cps.toList = b.cps.toList → a = b := fun a b e => by
    cases a; cases b; simp at e; subst e; rfl
  refine this _ _ (h.trans ?_)
  refine List.ext_getElem (by simp [Str.length]) fun i h1 h2 => ?_
  have hi : i < z.cps.size := by simpa [Str.length] using h1
  simp only [List.getElem_map, List.getElem_range, List.toList_toArray, List.getElem_reverse, Array.length_toList, Str.length]
  have : z.cps.size - 1 - i < z.cps.size := by omega
  simp [Array.getD, this]
theorem pe_revS {X : Cx} {e : Expr} {te : TE} {k : Nat} {p1 p2 p3 pos : Pos} (he : PE X e te) : PE X (.Subscript e (.Slice none none (some (.UnaryOp .USub (.Constant (.int 1) k p1) p2)) p3) pos) (tUn rRevS te) := by
  refine ⟨fun pins s σ H Q I h => ?_⟩
  refine Subscript_ (thn (he.run pins s σ H _ I h) fun v s1 ⟨x, H1, I1, r1, q1⟩ => ?_)
  obtain ⟨z, ex, hz, q⟩ := q1
  subst ex
  obtain ⟨t, rfl⟩ := r1
  have hst : PO X (some (.UnaryOp .USub (.Constant (.int 1) k p1) p2)) (tPart (tUn (rU fun i => .int (-i)) (tC (.int 1)))) := po_some (pe_un un_neg pe_int)
  refine wpAny_Slice (thn (po_none.run pins s1 σ H1 (fun o H2 => o = none ∧ H2 = H1) I1 ⟨rfl, rfl⟩) fun vl s2 ⟨l, H2, I2, pl, el, e2⟩ => ?_)
  subst el e2
  refine thn (po_none.run pins s2 σ H2 (fun o H3 => o = none ∧ H3 = H2) I2 ⟨rfl, rfl⟩) fun vu s3 ⟨u, H3, I3, pu, eu, e3⟩ => ?_
  subst eu e3
  refine thn (hst.run pins s3 σ H3 (fun o H4 => o = some (-1) ∧ H4 = H3) I3 ⟨1, rfl, -1, rfl, rfl, rfl⟩) fun vs s4 ⟨o, H4, I4, ps, eo, e4⟩ => ?_
  subst eo e4
  have I5 : Inv X pins σ H4 { s4 with heap := s4.heap.push { cls := .type "slice", data := .fields #[vl, vu, vs] } } := I4.kept (t' := s4.toks) fun b ob q => Heap.get?_push_of_some _ q
  obtain ⟨l, rfl, el⟩ := IsPart.raw pl
  obtain ⟨u, rfl, eu⟩ := IsPart.raw pu
  obtain ⟨st, rfl, es⟩ := IsPart.raw ps
  cases l with
  | some _ => cases el
  | none =>
  cases u with
  | some _ => cases eu
  | none =>
  cases st with
  | none => cases es
  | some st =>
  obtain ⟨i, tk⟩ := st
  obtain rfl : i = -1 := Option.some.inj es
  show wpAny (model X.prog X.w) X.A (subscriptTail e (.Slice none none (some (.UnaryOp .USub (.Constant (.int 1) k p1) p2)) p3) (.str z t) (.ref s4.heap.objs.size)) (EP X pins σ Q) X.xe _
  refine tail_any (ops := [.str z t, .ref s4.heap.objs.size]) (typeIs_str _ _ _) F.slot_str_getitem.lookup ?_ (by with_unfolding_all rfl)
  refine wpAny_getItem_str_slice (l := none) (u := none) (st := some (-1, tk)) ⟨_, Heap.get?_push_size _ rfl, rfl, rfl⟩ rfl ?_
  have e := rev_cps z tk
  have hl : (Txt.sliceBy z none none (-1, tk)).length ≤ sizeLine := by rw [step_rev_len]; exact hz
  rw [← e] at q
  unfold Txt.sliceBy at q hl
  exact ⟨hl, .str _, H4, I5.tok _, ⟨_, rfl⟩, q⟩
def gRev : Vl → Store → Res Vl
  | .l n, S => match lstAt S n with
    | some ds => .ok (.l S.length) (S ++ [.lst ds.reverse])
    | none => .bad
  | .d (.str s), S => if s.length ≤ 16777216 then .ok (.d (.str s.reverse)) S else .bad
  | _, _ => .bad
theorem s_revA {X : Cx} {W : WX} {k : Nat} {p1 p2 p3 pos : Pos} {e : Expr} {m : DE} (h : SE X W e m) : SE X W (.Subscript e (.Slice none none (some (.UnaryOp .USub (.Constant (.int 1) k p1) p2)) p3) pos) (dUn gRev m) := by
  refine PE.weak (PE.or (s_rev h) (pe_revS h)) fun σ H Q ⟨A, ρ, S, re, rs, h⟩ => ?_
  cases e : m ρ S with
  | bad => unfold dUn at h; rw [e] at h; exact h.elim
  | er x S' => exact .inl ⟨A, ρ, S, re, rs, by unfold dRev; unfold dUn at h; rw [e] at h ⊢; exact h⟩
  | ok v S' =>
    cases v with
    | l n => exact .inl ⟨A, ρ, S, re, rs, by unfold dRev; unfold dUn at h; rw [e] at h ⊢; exact h⟩
    | d d =>
      cases d with
      | str s =>
        refine .inr ?_
        refine ⟨A, ρ, S, re, rs, ?_⟩
        rw [e]
        unfold dUn at h
        rw [e] at h
        simp only [Res.bind, gRev] at h
        split at h
        · rename_i c
          intro A' H' b p x r rv
          obtain rfl : b = .str (sOf s) := rv
          refine ⟨sOf s, rfl, by rw [sOf_length]; exact c, ?_⟩
          have e2 : (⟨(sOf s).cps.toList.reverse.toArray⟩ : Str) = sOf s.reverse := rfl
          rw [e2]
          exact h A' H' _ p x r rfl
        · exact h.elim
      | _ => unfold dUn at h; rw [e] at h; exact h.elim
end DL
end

section
set_option Elab.async false
set_option linter.all false
set_option maxRecDepth 100000
set_option autoImplicit false
set_option maxHeartbeats 400000
namespace DL
open PySem L2 TL PyProof.Rows
def recFuel : Nat := 40
def whileFuel : Nat := 1000000
theorem ok_bad {P : Program} {w : World} {K : PySem.W.Frag} {mg : Str → Option Value} {base : Heap} {x qual : Str} {st : Stmt} {f : Addr} {fd : FuncData} {N ps : List Str} {k : Nat} (F : Fun K x qual st f fd) (S : FnScope N ps (defScope st)) (hN : ps.length ≤ N.length) :
    FnOk P w K mg base (L2.CX P w) (k + 1) f fd ps (spD K mg fun _ _ => .bad) := by
  refine F.okX S (fun vs H Q E h => ?_) (fun cdv A outer s H vs Q E hr h => ?_)
  · obtain ⟨A, S', us, rs, rv, h⟩ := h
    exact h.elim
  · obtain ⟨A1, S1, us, rs, rv, h⟩ := h
    exact h.elim
end DL
end

section
set_option Elab.async false
set_option linter.all false
set_option maxRecDepth 100000
set_option autoImplicit false
set_option maxHeartbeats 1000001
namespace DX
open PySem PySem.W PySem.Calls PyProof.Rows L2 TL

/-! ### an exception class whose __init__ says: self.f = p; super().__init__(..) -/
/-- the context of such an __init__ -/
def cxS (P : Program) (w : World) (K : PySem.W.Frag) (mg : Str → Option Value) (base : Heap) (N : List Str) (qual : Str) (scope : Scope) (f : Addr) (cd : Value) (cc : Addr) (A : Around) (outer : List Env) (s : Shared) (H : Hp) : Cx where
  prog := P
  w := w
  K := K
  mg := mg
  base := base
  A := A.deeper (ksEnv qual scope s.heap.objs.size f cd cc)
  N := N
  s_0 := s
  H_0 := H
  env := ksEnv qual scope s.heap.objs.size f cd cc
  outer := outer
  stack := ksEnv qual scope s.heap.objs.size f cd cc :: outer
  ex := []
  calm := true
  fn := fun _ => false
  pn := []
  xe := fun _ _ => False
/-- the scope of an __init__ of two names -/
structure ScS (p : Str) (sc : Scope) : Prop where
  kind : sc.kind = .function
  co : sc.isCoroutine = false
  gen : sc.isGenerator = false
  nocell : ∀ y ∈ sc.names, y.2 ≠ .cell
  self : sc.names.lookup ("self" : Str) = some .local
  par : sc.names.lookup p = some .local
  cls : sc.names.lookup ("__class__" : Str) = some .free
  sup : sc.names.lookup ("super" : Str) = some .globalImplicit
  ne : p ≠ ("self" : Str)
  fr : ∀ y ∈ sc.names, y.2 = .free → y.1 = ("__class__" : Str)
theorem inv_startS {P : Program} {w : World} {K : PySem.W.Frag} {mg : Str → Option Value} {base : Heap} {p qual : Str} {scope : Scope} {f cc : Addr} {cd : Value} {A : Around} {outer : List Env} {s : Shared} {H : Hp} {a v : V} {ua uv : Value} {oc : Obj} {vc : Option Value} {h₁ : Heap} {tk : Nat}
    (S : ScS p scope) (hd : A.handled = none) (e0 : Env0 P w K mg base A outer s H) (ra : RelV a ua) (rv : RelV v uv) (hcc : base.get? cc = some oc) (hcv : oc.data = .cell vc)
    (hns : h₁.Ns s.heap.objs.size (fun x => [(("self" : Str), ua), (p, uv)].reverse.lookup x)) (hk : ∀ b o, s.heap.get? b = some o → h₁.get? b = some o) :
    Inv (cxS P w K mg base ["self", p] qual scope f cd cc A outer s H) [] [some a, some v] H { s with heap := h₁, toks := tk } := by
  have noA : ∀ b : Addr, b ∉ (cxS P w K mg base ["self", p] qual scope f cd cc A outer s H).ex := fun b z => absurd (show b ∈ ([] : List Addr) from z) (by simp)
  have cl : ∀ (y : Str) (c : Addr), (ksEnv qual scope s.heap.objs.size f cd cc).cells.lookup y = some c → y = "__class__" ∧ c = cc := fun y c h => by
    have h : List.lookup y [(("__class__" : Str), cc)] = some c := h
    by_cases e : y = "__class__"
    · subst e
      simp [List.lookup] at h
      exact ⟨rfl, h.symm⟩
    · have e2 : (y == ("__class__" : Str)) = false := by simpa using e
      simp [List.lookup, e2] at h
  refine ⟨⟨e0.mod, S.kind, rfl, rfl, Nat.le_refl _, fun y z c h1 h2 => ?_, fun y hy => ?_, fun y c h _ => absurd h Bool.false_ne_true, fun _ => hd, Around.frames_deeper e0.frames, .inr ⟨rfl, rfl⟩, fun b z => absurd z (noA b), e0.bs, e0.bsz, fun b _ _ => noA b, fun b z => absurd z (noA b), e0.funs, e0.frf⟩,
    rfl, e0.bare, Un.kept hk, ⟨_, hns, fun i y v' h1 h2 h3 => ?_⟩, fun y c h => ?_, e0.hok.fresh (Nat.le_refl _), fun y c h => ?_, fun p hp => absurd (show p ∈ ([] : List (Addr × Obj)) from hp) (by simp), e0.hok.kept hk, rfl⟩
  · rw [(cl y c h1).1, (cl z c h2).1]
  · have hy : scope.names.lookup y = some .cell ∨ scope.names.lookup y = some .free := hy
    rcases hy with hy | hy
    · exact absurd rfl (S.nocell _ (PySem.mem_of_lookup hy))
    · have e := S.fr _ (PySem.mem_of_lookup hy) rfl
      exact ⟨cc, by rw [show y = ("__class__" : Str) from e]; rfl⟩
  · match i, h1, h2 with
    | 0, h1, h2 =>
      obtain rfl : ("self" : Str) = y := Option.some.inj h1
      obtain rfl : a = v' := Option.some.inj (Option.some.inj h2)
      refine ⟨ua, ra, .inl ⟨S.self, ?_⟩⟩
      have e : (("self" : Str) == p) = false := by simpa using S.ne.symm
      show List.lookup ("self" : Str) [(p, uv), (("self" : Str), ua)] = some ua
      simp [List.lookup, e]
    | 1, h1, h2 =>
      obtain rfl : p = y := Option.some.inj h1
      obtain rfl : v = v' := Option.some.inj (Option.some.inj h2)
      refine ⟨uv, rv, .inl ⟨S.par, ?_⟩⟩
      show List.lookup p [(p, uv), (("self" : Str), ua)] = some uv
      simp [List.lookup]
    | i + 2, h1, h2 =>
      have h1 : ([] : List Str)[i]? = some y := h1
      simp at h1
  · obtain ⟨rfl, rfl⟩ := cl y c h
    exact ⟨vc, oc, hk _ _ (e0.bs _ _ hcc).1, hcv⟩
  · obtain ⟨rfl, rfl⟩ := cl y c h
    exact (e0.bs _ _ hcc).2

/-- what the written part says of a class C whose __init__, st, says: self.f = p; super().__init__(msg) -/
structure Ini (P : Program) (K : PySem.W.Frag) (mg : Str → Option Value) (C fI cc cda : Addr) (st : Stmt) (qual p f : Str) (fd : FuncData) : Prop where
  cls : OexC K C
  fn : ∃ (oc : Value) (od : Option Addr) (kV doc pm ct : Value) (an : Option Addr) (osl : Array (Option Value)), fd = ksFn "__init__" qual (defArgs st) (defBody st) (defScope st) .none kV doc pm an (.ref cda) ct cc ∧ K.lookup fI = some ⟨oc, od, .func fd, osl⟩
  code : codeIn K (.ref cda) qual = true
  cdo : ∃ (ccl : Value) (cdd : Option Addr) (vs : Array Value) (ccs : Array (Option Value)) (file : Str) (tf : Tok), K.lookup cda = some ⟨ccl, cdd, .fields vs, ccs⟩ ∧ vs[2]? = some (.str file tf) ∧ ((P.main.file : Str) == file) = true
  cell : ∃ (cl : Value) (cld : Option Addr) (csl : Array (Option Value)), K.lookup cc = some ⟨cl, cld, .cell (some (.ref C)), csl⟩
  sup : ks_superIn K C C "__init__" = some (some (.builtin "ValueError.__init__"))
  opq : nsIn K cStatics "thirdparty.any" = some none
  ve : subIn K (.ref C) (.type "ValueError") = some true
  own : mroIn K C (.ref C) = some true
  noS : mg "super" = none
  noF : findIn K (.ref C) f = some none
  top : (P.main.scope.names.lookup ("super" : Str)).isSome = false
  sc : ScS p (defScope st)
  par : (((defArgs st).posonlyargs ++ (defArgs st).args).head?).map (·.arg) = some "self"
/-- what such an __init__ leaves -/
def spI (C : Addr) (f : Str) (ok : V → Prop) : Sp := fun vs H Q _ => ∃ a v, vs = [.ref a, v] ∧ ok v ∧ H a = some (exo a C none) ∧ ∀ dx, H dx = none → dx ≠ a → Q .non (upd (upd H dx (exd dx [(f, v)])) a (exo a C (some dx)))
theorem init1_ok {P : Program} {w : World} {K : PySem.W.Frag} {mg : Str → Option Value} {base : Heap} {C fI cc cda : Addr} {st : Stmt} {qual p f : Str} {fd : FuncData} {q1 q2 q3 q4 p0 p1 p2 p3 p4 : Pos} {msg : Expr} {tm : TE} {ok : V → Prop} {k : Nat}
    (T : Ini P K mg C fI cc cda st qual p f fd)
    (hb : defBody st = [.Assign [.Attribute (.Name "self" q1) f q2] (.Name p q3) q4, .Expr (.Call (.Attribute (.Call (.Name "super" p0) [] [] p1) "__init__" p2) [msg] [] p3) p4])
    (hm : ∀ A outer s H, PE (cxS P w K mg base ["self", p] qual (defScope st) fI (.ref cda) cc A outer s H) msg tm)
    (hmv : ∀ a v H (Q : VK), ok v → (∀ z, Q (.str z) H) → tm [some (.ref a), some v] H Q)
    (hd1 : (p == ("__debug__" : Str)) = false := by decide) (hd2 : (p == ("__classdict__" : Str)) = false := by decide)
    (hs1 : ∀ L cd, starEach [msg] (ksEnv qual (defScope st) L fI cd cc) = [(false, eval msg (ksEnv qual (defScope st) L fI cd cc))] := by intro _ _; rfl)
    (hev : ∀ env : PySem.Env, ∃ pl : Sem Bool, eval (.Call (.Attribute (.Call (.Name "super" p0) [] [] p1) "__init__" p2) [msg] [] p3) env = (do
      let ov ← attributeBase (.Call (.Name "super" p0) [] [] p1) "__init__" env (eval (.Call (.Name "super" p0) [] [] p1) env)
      standAt p2.atName
      let (f, first) ← holding [ov] (getMethod ov "__init__" pl)
      callWith p3 f first (backTo p3 (starEach [msg] env)) []) := by intro _; exact ⟨_, rfl⟩) :
    FnOk P w K mg base CX0 (k + 1) fI fd ["self", p] (spI C f ok) := by
  refine ⟨fun vs H Q E h => ?_, fun A outer s H args us vs Q E hr e0 hbi r hsp => ?_⟩
  · obtain ⟨a, v, rfl, _⟩ := h
    rfl
  obtain ⟨a, v, rfl, hv, ha, hq⟩ := hsp
  obtain ⟨oc, od, kV, doc, pm, ct, an, osl, rfl, lk⟩ := T.fn
  have KX : K.In s.heap := e0.mod.kin.keeps fun b o e => (e0.bs b o e).1
  have lim : s.heap.NoLimit := e0.mod.nolimit.keeps fun b o e => (e0.bs b o e).1
  cases r with
  | @cons _ ua _ us' ra rr =>
  cases rr with
  | @cons _ uv _ us'' rv rn =>
  cases rn
  obtain rfl : ua = Value.ref a := ra
  obtain ⟨cl, cld, csl, lcc⟩ := T.cell
  have S := T.sc
  refine ks_codeAny_call_defAt (fd := ksFn "__init__" qual (defArgs st) (defBody st) (defScope st) .none kV doc pm an (.ref cda) ct cc) (body := defBody st) (binds := [(("self" : Str), .ref a), (p, uv)]) hr.depth (KX _ _ lk) rfl lim
    (codeRec_of KX T.code) rfl hbi S.nocell (fun x hx => ?_) (fun h₁ hns hk₁ => ?_) S.co S.gen S.kind
  · rcases List.mem_cons.mp hx with rfl | hx
    · exact S.self
    · rw [List.mem_singleton.mp hx]
      exact S.par
  have hr' := hr.deeper (k := k) (callEnv (ksFn "__init__" qual (defArgs st) (defBody st) (defScope st) .none kV doc pm an (.ref cda) ct cc) s.heap.objs.size fI)
  have bcc : base.get? cc = some ⟨cl, cld, .cell (some (.ref C)), csl⟩ := e0.mod.kin _ _ lcc
  have I : Inv (cxS P w K mg base ["self", p] qual (defScope st) fI (.ref cda) cc A outer s H) [] [some (.ref a), some v] H { s with heap := h₁, toks := s.toks + [(("self" : Str), Value.ref a), (p, uv)].length } :=
    inv_startS (a := .ref a) (v := v) S hr.hd e0 rfl rv bcc rfl hns hk₁
  let X : Cx := cxS P w K mg base ["self", p] qual (defScope st) fI (.ref cda) cc A outer s H
  have eX : X.env = ksEnv qual (defScope st) s.heap.objs.size fI (.ref cda) cc := rfl
  have hN0 : X.N[0]? = some ("self" : Str) := rfl
  have hN1 : X.N[1]? = some p := rfl
  have vs0 : Vis X.env.scope "self" := .inl S.self
  have vs1 : Vis X.env.scope p := .inl S.par
  show PySem.wpAt (model P w) X.A (.func (defBody st) X.env) (execs (defBody st) X.env) _ _ _
  have eb : execs (defBody st) X.env = execs [.Assign [.Attribute (.Name "self" q1) f q2] (.Name p q3) q4, .Expr (.Call (.Attribute (.Call (.Name "super" p0) [] [] p1) "__init__" p2) [msg] [] p3) p4] X.env := by rw [hb]
  rw [eb]
  -- self.f = p
  let D : Ends := { nx := fun σ' H' => σ' = [some (.ref a), some v] ∧ ∃ dx, H dx = none ∧ dx ≠ a ∧ H' = upd (upd H dx (exd dx [(f, v)])) a (exo a C (some dx)), rt := fun _ _ => False }
  have g1 : tOst X.K f (tVar 0) (tVar 1) D [some (.ref a), some v] H := ⟨v, rfl, .ref a, rfl, a, C, rfl, T.cls, T.noF, .inl ⟨ha, fun dx h1 h2 => ⟨rfl, dx, h1, h2, rfl⟩⟩⟩
  have st1 := (ps_ost (pos := q4) (p' := q2) (f := f) (pe_var (X := X) (pos := q1) hN0 vs0) (pe_var (X := X) (pos := q3) hN1 vs1 hd1 hd2)).run [] _ _ H D I g1
  refine ks_wpAt_execs_cons (wpAt_of_wpAny (wpAny_mono st1 (fun fl s2 hs => ?_) fun _ _ z => z.elim))
  cases fl with
  | ret _ => obtain ⟨_, _, _, _, _, z⟩ := hs; exact z.elim
  | brk => obtain ⟨_, _, _, z⟩ := hs; exact False.elim z
  | cont => obtain ⟨_, _, _, z⟩ := hs; exact False.elim z
  | next =>
  obtain ⟨σ2, H2, I2, rfl, dx, hdx, hda, rfl⟩ := hs
  have ea : (upd (upd H dx (exd dx [(f, v)])) a (exo a C (some dx))) a = some (exo a C (some dx)) := upd_same
  -- super().__init__(msg)
  obtain ⟨ccl, cdd, vsc, ccs, file, tf, lcd, hvs, hfile⟩ := T.cdo
  have KX2 := I2.kIn
  obtain ⟨ar, har, harg⟩ : ∃ ar : Arg, ((defArgs st).posonlyargs ++ (defArgs st).args).head? = some ar ∧ ar.arg = "self" := by
    have := T.par
    cases e : ((defArgs st).posonlyargs ++ (defArgs st).args).head? with
    | none => rw [e] at this; cases this
    | some ar => rw [e] at this; exact ⟨ar, rfl, Option.some.inj this⟩
  obtain ⟨mb, hb1, hb2⟩ := I2.mod.blt
  obtain ⟨pl, hev⟩ := hev X.env
  obtain ⟨m, hns2, hl2⟩ := I2.loc
  obtain ⟨us, rs, hlk⟩ := hl2 0 "self" (.ref a) hN0 rfl vs0
  obtain rfl : us = Value.ref a := rs
  have hms : m "self" = some (.ref a) := by
    rcases hlk with ⟨_, z⟩ | ⟨z, _⟩
    · exact z
    · have z : (defScope st).names.lookup ("self" : Str) = some .cell ∨ (defScope st).names.lookup ("self" : Str) = some .free := z
      rw [S.self] at z
      rcases z with z | z <;> cases z
  obtain ⟨nm, qn, N', bs, bm, sn, sub, ab, col, dd, k0, k1, k2, k3, k5, hC, hbm⟩ := T.cls.cls
  have hcl : clsIn K C = some { name := nm, bases := bs, mro := .ref C :: bm, ns := N', qualname := qn, hasDict := true, slotNames := sn, subclasses := sub, abstract := ab, collection := col, hasDel := false } := by unfold clsIn; rw [hC] <;> rfl
  obtain ⟨t1, hoe⟩ := exo_at I2.hok ea
  refine ks_wpAt_execs_cons (ks_wpAt_Expr_any (ks_wpAt_MethodCall ?h hev) I2.quiet rfl)
  refine ks_wpAt_super_base (env := X.env) S.sup S.cls rfl rfl (KX2 _ _ lk) rfl har rfl (KX2 _ _ lcd) rfl hvs hfile T.top ?_
  refine ks_loadName_global S.kind S.sup (loadGlobal_builtin (env := X.env) (I2.mod.glob.keeps I2.bk) T.noS (hb1.keeps I2.bk) ((hb2 "super" (by decide)).trans PyProof.Rows.Boot.«super») ⟨rfl, ?_⟩)
  refine wpAny_loadName_free S.kind S.cls rfl ⟨_, KX2 _ _ lcc, rfl⟩ ?_
  rw [harg]
  refine wpAny_loadName_local S.kind S.self hns2 hms ?_
  refine ks_wpAny_isType_cls (KX2 _ _ hC) rfl ⟨rfl, ?_⟩
  obtain ⟨hp, g, d, t, os⟩ := s2
  refine ks_wpAny_call_super (KX2 _ _ hC) rfl hoe rfl (fun c z => by cases z) (looks_mroIn KX2 T.own) (fun h' eso kso => ?_)
  have I3 : Inv X [] [some (.ref a), some v] (upd (upd H dx (exd dx [(f, v)])) a (exo a C (some dx))) ⟨h', g, d, t, os⟩ := I2.kept (t' := t) kso
  have KX3 := I3.kIn
  obtain ⟨t3, ho3⟩ := exo_at I3.hok ea
  have hI : Looks (model P w) h' (isInstance (.ref a) (.type "ValueError")) true := (show Looks (model P w) h' (typeOf (.ref a)) (.ref C) from (Looks.ld ho3).andThen .now).andThen (looks_subIn KX3 T.ve)
  have haC : a ≠ C := fun z => by
    have e := KX3 _ _ hC
    rw [← z, ho3] at e
    cases e
  have hsup := T.sup
  unfold ks_superIn at hsup
  rw [hcl] at hsup
  refine kxs_getMethod kxs_ValueError eso (looks_opaque KX3 T.opq) (l₀ := .ref C :: bm) (fun A Q E s k q => wpAny_bind ((looks_clsIn KX3 hcl) A _ E s k (wpAny_pure q))) rfl KX3 hsup hI haC rfl ?_
  have I4 : Inv X [] [some (.ref a), some v] (upd (upd H dx (exd dx [(f, v)])) a (exo a C (some dx))) ⟨h'.push (kxs_mw "ValueError.__init__" a), g, d, t + 1, os⟩ := I3.kept (t' := t + 1) fun b o e => Heap.get?_push_of_some _ e
  have fo := I3.fpOk (Nat.le_refl _) (I3.hok.fresh (Nat.le_refl _))
  have I5 : Inv X [(h'.objs.size, kxs_mw "ValueError.__init__" a)] [some (.ref a), some v] (upd (upd H dx (exd dx [(f, v)])) a (exo a C (some dx))) ⟨h'.push (kxs_mw "ValueError.__init__" a), g, d, t + 1, os⟩ :=
    I4.pins_of fun q hq => by
      rw [List.mem_singleton.mp hq]
      exact ⟨Heap.get?_push_size _ rfl, fo.1, fo.2.1, fo.2.2.1, fun v z => by cases z⟩
  have mrule : PA X [msg] (tCons tm tNil) := pa_cons (hm A outer s H) pa_nil (hs1 _ _)
  have mrun := mrule.run p3 _ _ _ _ (fun vs H' => (∃ z, vs = [V.str z]) ∧ H' = upd (upd H dx (exd dx [(f, v)])) a (exo a C (some dx))) I5 (by
    refine hmv a v _ _ hv fun z => ?_
    exact ⟨⟨z, rfl⟩, rfl⟩)
  have hs1' : starEach [msg] X.env = [(false, eval msg X.env)] := hs1 _ _
  show wpAny (model P w) X.A (callWith p3 (.ref h'.objs.size) [] (backTo p3 (starEach [msg] X.env)) []) _ _ _
  rw [hs1'] at mrun ⊢
  refine kxs_callWith (i := "ValueError.__init__") (x := a) rfl (evalArgs_plain (wpAny_mono mrun (fun us s6 h6 => ?_) fun _ _ z => z.elim))
  obtain ⟨vs6, H6, I6, r6, ⟨z, rfl⟩, rfl⟩ := h6
  have pin6 := (I6.pin (h'.objs.size, kxs_mw "ValueError.__init__" a) (by simp)).1
  refine ⟨pin6, ?_⟩
  obtain ⟨t6, ho6⟩ := exo_at I6.hok ea
  have hlen : us.length ≤ sizeLine := by
    rw [← r6.length, sizeLine_eq]
    simp
  have KX6 := I6.kIn
  obtain ⟨hh, g6, d6, tk6, os6⟩ := s6
  refine wpAny_call (codeAny_of_tree ?_)
  show wpAny _ _ (callAny (.ref h'.objs.size) ⟨us, []⟩) _ _ _
  simp only [callAny]
  refine wpAny_bind (wpAny_load pin6 ?_)
  simp only [kxs_mw, show (Value.type "method-wrapper" == Value.type "method" || Value.type "method-wrapper" == Value.type "builtin_function_or_method" || Value.type "method-wrapper" == Value.type "method-wrapper") = true by decide, if_true]
  refine KFB.if_so (by decide) ?_
  have FB := PySem.F.excBase_ValueError
  refine wpAny_bind (check_bound_init FB.toExcCallFacts (KX6 _ _ hC) ho6 rfl ?_)
  refine wpAny_bind (wpAny_pure (wpAny_pure ?_))
  refine ⟨plainId_quiet FB.init.plain _, codeAny_builtin FB.initEntry ?_⟩
  refine exc_init_tree (cls := .ref C) (t0 := t6) (dv := some dx) (c2 := .none) (c3 := .none) (b4 := .bool false) ho6 hlen fun h8 k8 e8 _ => ?_
  have J := I6.write (t' := tk6) (x := a) (e := a) (o := exo a C (some dx)) (by rw [ea]; exact True.intro) (.inl rfl) k8 ⟨_, e8⟩ (exo_ok e8)
  have eu : upd (upd (upd H dx (exd dx [(f, v)])) a (exo a C (some dx))) a (exo a C (some dx)) = upd (upd H dx (exd dx [(f, v)])) a (exo a C (some dx)) := by
    funext b
    by_cases hb : b = a
    · rw [hb, upd_same, upd_same]
    · rw [upd_ne hb]
  rw [eu] at J
  refine wpAt_of_wpAny (wpAny_execs_nil ?_)
  exact ⟨.non, _, J.os, J.bare, J.base, J.hok, rfl, hq dx hdx hda⟩
end DX
end

section
set_option Elab.async false
set_option linter.all false
set_option maxRecDepth 100000
set_option autoImplicit false
set_option maxHeartbeats 1000001
namespace DX
open PySem PySem.W PySem.Calls PyProof.Rows L2 TL DL

/-! ### raise C(e) -/
def okMsg : D → Bool
  | .str s => decide (s.length ≤ 1000)
  | .int i => decide (i.natAbs ≤ 1000)
  | _ => false
def MsgV (v : V) : Prop := (∃ z : Str, v = .str z ∧ z.length ≤ 1000) ∨ ∃ i : Int, v = .int i ∧ i.natAbs ≤ 1000
theorem okMsg_ok {K : PySem.W.Frag} {H : Hp} {x : D} {v : V} (h : okMsg x = true) (r : RD K H x v) : MsgV v := by
  cases x with
  | str s =>
    obtain rfl : v = .str (sOf s) := r
    exact .inl ⟨_, rfl, by rw [sOf_length]; exact of_decide_eq_true h⟩
  | int i =>
    obtain rfl : v = .int i := r
    exact .inr ⟨i, rfl, of_decide_eq_true h⟩
  | _ => cases h
def dRaise (c f : Str) (m : DE) : DS := fun ρ S => bindS (m ρ S) ρ fun v S1 => match v with
  | .d x => if okMsg x = true then .er ⟨c, [(f, x)]⟩ ρ S1 else .bad
  | _ => .bad
structure Mk (P : Program) (w : World) (K : PySem.W.Frag) (mg : Str → Option Value) (base : Heap) (x f : Str) (C fI : Addr) (fd : FuncData) (ps : List Str) : Prop where
  cls : OexC K C
  iC : findIn K (.ref C) "__init__" = some (some (.ref fI))
  tI : typeIn K (.ref fI) = some (.type "function")
  F : FnOk P w K mg base CX0 1 fI fd ps (spI C f MsgV)
  g : mg x = some (.ref C)
  b : Binds K fd ps []
theorem s_raise {X : Cx} {W : WX} {x f : Str} {C fI : Addr} {fd : FuncData} {ps : List Str} {p pos pos2 : Pos} {e : Expr} {m : DE} (M : Mk X.prog X.w X.K X.mg X.base x f C fI fd ps) (hc : X.calm = true) (hr : Room 2 X.A) (tk : Takes X W) (hg : Gl X x) (ha : SE X W e m)
    (hdb : (x == ("__debug__" : Str)) = false := by decide) (he : starEach [e] X.env = (false, eval e X.env) :: starEach [] X.env := by rfl) (hpl : (backTo pos (starEach [] X.env)).any (·.1) = false := by rfl) :
    SS X W (.Raise (some (.Call (.Name x p) [e] [] pos)) none pos2) (dRaise x f m) := by
  refine PS.weak (ps_raise hc tk (pmk_oex M.cls M.iC M.tI M.F hr M.b .nil pass0 hg M.g (pa_cons ha pa_nil he) hdb he hpl)) fun D σ H ⟨A, ρ, S, re, rs, h⟩ => ?_
  refine tM.mono (tM_bindS re rs h) fun y H1 ⟨A1, S1, v, p1, e1, re1, rs1, rv1, h1⟩ => ?_
  split at h1
  · rename_i dx
    split at h1
    · rename_i c
      refine ⟨by simp, fun a ha => ⟨a, y, rfl, okMsg_ok c rv1, upd_same, fun d hd hda => ?_⟩⟩
      have hd1 : H1 d = none := by
        rw [upd_ne hda] at hd; exact hd
      refine ⟨rfl, d, [(f, y)], upd_same, by rw [upd_ne hda, upd_same], hd1, ?_⟩
      have eH : upd (del (upd (upd (upd H1 a (exo a C none)) d (exd d [(f, y)])) a (exo a C (some d))) a) d (.xd [(f, y)]) = upd H1 d (.xd [(f, y)]) := by
        funext b
        by_cases hb : b = d
        · rw [hb, upd_same, upd_same]
        · rw [upd_ne hb, upd_ne hb]
          by_cases hba : b = a
          · rw [hba, del_same, ha]
          · rw [del_ne hba, upd_ne hba, upd_ne hb, upd_ne hba]
      rw [eH]
      have u : Up H1 (upd H1 d (.xd [(f, y)])) := Up.new hd1
      refine h1 A1 _ σ (.ref C) (some d) (List.prefix_refl _) u.ext (rs1.up u) (re1.up u.ext (List.prefix_refl _)) ⟨M.g, fun g z hz => ?_⟩
      have : g = f ∧ z = dx := by
        by_cases e : g = f
        · subst e
          simp [List.lookup] at hz
          exact ⟨rfl, hz.symm⟩
        · have e2 : (g == f) = false := by simpa using e
          simp [List.lookup, e2] at hz
      obtain ⟨rfl, rfl⟩ := this
      exact ⟨d, _, y, rfl, upd_same, by simp [List.lookup], RD.up u.ext _ _ rv1⟩
    · exact h1.elim
  · exact h1.elim
end DX
end

section
set_option Elab.async false
set_option linter.all false
set_option maxRecDepth 100000
set_option autoImplicit false
set_option maxHeartbeats 1000001
namespace DX
open PySem PySem.W PySem.Calls PyProof.Rows L2 TL DL

/-! ### within a suite that holds the exception e, of the class at D, at a; its name in slot i -/
structure FX (K : PySem.W.Frag) (i : Nat) (a : Addr) (d : Option Addr) (e : Er) (σ : L2.St) (H : Hp) : Prop where
  slot : σ[i]? = some (some (.ref a))
  dict : d = none ∨ ∃ dd fs, d = some dd ∧ H dd = some (.xd fs)
  fld : ∀ f x, e.fs.lookup f = some x → ∃ dd fs v, d = some dd ∧ H dd = some (.xd fs) ∧ fs.lookup f = some v ∧ RD K H x v
theorem FX.up {K : PySem.W.Frag} {i : Nat} {a : Addr} {d : Option Addr} {e : Er} {σ : L2.St} {H H' : Hp} (x : FX K i a d e σ H) (u : Up H H') : FX K i a d e σ H' :=
  ⟨x.slot, x.dict.imp id fun ⟨dd, fs, h1, h2⟩ => ⟨dd, fs, h1, u _ _ h2⟩, fun f y h => let ⟨dd, fs, v, h1, h2, h3, h4⟩ := x.fld f y h; ⟨dd, fs, v, h1, u _ _ h2, h3, RD.up u.ext _ _ h4⟩⟩
def PXT (X : Cx) (i : Nat) (a : Addr) (d : Option Addr) (e : Er) (t : Expr) (b : Bool) : Prop := PT X t fun σ H Q => FX X.K i a d e σ H ∧ ∀ H', Up H H' → Q b H'
def PXE (X : Cx) (i : Nat) (a : Addr) (d : Option Addr) (e : Er) (t : Expr) (y : D) : Prop := PE X t fun σ H Q => FX X.K i a d e σ H ∧ ∀ H' v, Up H H' → RD X.K H' y v → Q v H'
def PXA (X : Cx) (i : Nat) (a : Addr) (d : Option Addr) (e : Er) (t : List Expr) (ys : List D) : Prop := PA X t fun σ H Q => FX X.K i a d e σ H ∧ ∀ H' vs, Up H H' → RDs X.K H' ys vs → Q vs H'
def PXS (X : Cx) (i : Nat) (a : Addr) (d : Option Addr) (e : Er) (t : List Stmt) (y : D) : Prop := PSs X t fun D σ H => FX X.K i a d e σ H ∧ ∀ H' v, Up H H' → RD X.K H' y v → D.rt v H'
theorem pe_no {X : Cx} {t : Expr} : PE X t (fun _ _ _ => False) := ⟨fun _ _ _ _ _ _ h => h.elim⟩
theorem pss_no {X : Cx} {t : List Stmt} : PSs X t (fun _ _ _ => False) := ⟨fun _ _ _ _ _ _ h => h.elim⟩
section
variable {X : Cx} {i : Nat} {a : Addr} {d : Option Addr} {e : Er} {b : Bool} {y z : D} {ys : List D} {c t u : Expr} {es : List Expr} {pos : Pos} {ss rest : List Stmt}
theorem x_not (h : PXT X i a d e c b) : PXT X i a d e (.UnaryOp .Not c pos) (!b) := PT.weak (pt_not h) fun σ H Q ⟨f, q⟩ => ⟨f, fun H' u => q H' u⟩
theorem x_str {s : Str} {j : Nat} (n : List Nat) (h : tl s = n) : PXE X i a d e (.Constant (.str s) j pos) (.str n) := PE.weak pe_str fun σ H Q ⟨f, q⟩ => q H _ (Up.refl H) (by show V.str s = V.str (sOf n); rw [← h, sOf_of])
theorem x_non {j : Nat} : PXE X i a d e (.Constant .none j pos) .non := PE.weak pe_non fun σ H Q ⟨f, q⟩ => q H _ (Up.refl H) rfl
theorem x_int {k : Int} {j : Nat} : PXE X i a d e (.Constant (.int k) j pos) (.int k) := PE.weak pe_int fun σ H Q ⟨f, q⟩ => q H _ (Up.refl H) rfl
theorem xa_nil : PXA X i a d e [] [] := PA.weak pa_nil fun σ H Q ⟨f, q⟩ => q H [] (Up.refl H) rfl
theorem xa_cons (h1 : PXE X i a d e t y) (h2 : PXA X i a d e es ys) (hs : starEach (t :: es) X.env = (false, eval t X.env) :: starEach es X.env := by rfl) : PXA X i a d e (t :: es) (y :: ys) :=
  PA.weak (pa_cons h1 h2 hs) fun σ H Q ⟨f, q⟩ => ⟨f, fun H1 v u1 r1 => ⟨f.up u1, fun H2 vs u2 r2 => q H2 (v :: vs) (fun _ _ h => u2 _ _ (u1 _ _ h)) ⟨v, vs, rfl, RD.up u2.ext _ _ r1, r2⟩⟩⟩
theorem x_tup {k : Nat} (h : PXA X i a d e es ys) (hl : ys.length ≤ sizeLine := by decide) : PXE X i a d e (.Tuple es k pos) (.tup ys) :=
  PE.weak (pe_tup h) fun σ H Q ⟨f, q⟩ => ⟨f, fun H1 vs u1 r1 => ⟨by rw [r1.length]; exact hl, fun p hp => q _ _ (fun _ _ h => Up.new hp _ _ (u1 _ _ h)) ⟨p, vs, rfl, SqT.of upd_same, RDs.up (Up.new hp).ext _ _ r1⟩⟩⟩
theorem x_ifE (h : PXT X i a d e c b) (h1 : b = true → PXE X i a d e t y) (h2 : b = false → PXE X i a d e u y) : PXE X i a d e (.IfExp c t u pos) y := by
  cases b with
  | true => exact PE.weak (pe_ifExp h (h1 rfl) pe_no) fun σ H Q ⟨f, q⟩ => ⟨f, fun H' u => by (show if true = true then _ else _); rw [if_pos rfl]; exact ⟨f.up u, fun H2 v u2 r => q H2 v (fun _ _ h => u2 _ _ (u _ _ h)) r⟩⟩
  | false => exact PE.weak (pe_ifExp h pe_no (h2 rfl)) fun σ H Q ⟨f, q⟩ => ⟨f, fun H' u => by (show if false = true then _ else _); rw [if_neg Bool.false_ne_true]; exact ⟨f.up u, fun H2 v u2 r => q H2 v (fun _ _ h => u2 _ _ (u _ _ h)) r⟩⟩
theorem xs_ret (h : PXE X i a d e t y) : PXS X i a d e [.Return (some t) pos] y := PSs.weak (pss_one (ps_ret h)) fun D σ H ⟨f, q⟩ => ⟨f, q⟩
/-- if c: return ..; the rest -/
theorem xs_if (h : PXT X i a d e c b) (h1 : b = true → PXS X i a d e ss y) (h2 : b = false → PXS X i a d e rest y) : PXS X i a d e (.If c ss [] pos :: rest) y := by
  cases b with
  | true =>
    refine PSs.weak (pss_cons (ps_if h (h1 rfl) pss_nil) pss_no) fun D σ H ⟨f, q⟩ => ?_
    exact ⟨f, fun H' u => by (show if true = true then _ else _); rw [if_pos rfl]; exact ⟨f.up u, fun H2 v u2 r => q H2 v (fun _ _ h => u2 _ _ (u _ _ h)) r⟩⟩
  | false =>
    refine PSs.weak (pss_cons (ps_if h pss_no pss_nil) (h2 rfl)) fun D σ H ⟨f, q⟩ => ?_
    exact ⟨f, fun H' u => by (show if false = true then _ else _); rw [if_neg Bool.false_ne_true]; exact ⟨f.up u, fun H2 v u2 r => q H2 v (fun _ _ h => u2 _ _ (u _ _ h)) r⟩⟩
end
/-! isinstance(the exception, a class | a tuple of classes), the exception's field -/
def rIsED (K : PySem.W.Frag) (D a : Addr) (d : Option Addr) : List V → Hp → VK → Prop := fun xs H Q => (d = none ∨ ∃ dd fs, d = some dd ∧ H dd = some (.xd fs)) ∧
  ((∃ (c : V) (cv : Value) (b : Bool), xs = [.ref a, c] ∧ (∀ u, RelV c u → u = cv) ∧ PySem.W.kitOne K (.ref D) cv = some b ∧ Q (.bl b) H) ∨
    ∃ (t : Addr) (ws : List V) (cvs : List Value) (b : Bool), xs = [.ref a, .ref t] ∧ SqT K H t ws ∧ (∀ us, Vals ws us → us = cvs) ∧ PySem.W.kitAny K (.ref D) cvs = some b ∧ Q (.bl b) H)
theorem call_isED {X : Cx} {a D : Addr} {d : Option Addr} {oe : Obj} {pn : List (Addr × Obj)} (C : ExcC X.K D) (hz : Zc (.ref D) d oe) (hf : ∃ vs, oe.data = .fields vs) : CallR (X.suite a ((a, oe) :: pn)) (.builtin "isinstance") (rIsED X.K D a d) := by
  intro pins s σ H xs us Q I r h
  obtain ⟨hd, h⟩ := h
  have hcl : (clsIn X.K D).isSome = true := by obtain ⟨cd, hc, _⟩ := any_some C.hd; rw [hc]; rfl
  obtain ⟨hget, _⟩ := I.pin (a, oe) (List.mem_append.mpr (.inl List.mem_cons_self))
  obtain ⟨vs, hv⟩ := hf
  have J : ∃ od, PySem.W.InstAt s.heap a oe D od := by
    rcases hd with rfl | ⟨dd, fs, rfl, hd⟩
    · exact ⟨none, hget, hz.1, by unfold PySem.W.notCls; rw [hv] <;> rfl, by rw [hz.2]; trivial⟩
    · obtain ⟨mA, hns, hr⟩ : ObjOk X.prog X.w H s.heap dd (.xd fs) := I.hok dd _ hd
      obtain ⟨od, ho, hl⟩ := lookIn_ns hns
      exact ⟨some od, hget, hz.1, by unfold PySem.W.notCls; rw [hv] <;> rfl, by rw [hz.2]; exact ho⟩
  obtain ⟨od, J⟩ := J
  have KX := PySem.W.kitx_exc (x := a) (ox := oe) (od := od) hcl C.hg C.hk C.hs C.ha C.hn C.ht C.hm
  rcases h with ⟨c, cv, b, rfl, hcv, e, q⟩ | ⟨t, ws, cvs, b, rfl, ht, hcv, e, q⟩
  · cases r with
    | cons rx rr =>
      cases rr with
      | cons rt rr =>
        cases rr
        cases rx
        have ec := hcv _ rt
        subst ec
        exact PySem.W.kia_one KX I.kIn J e (fun z => nomatch z) fun tk => ⟨.bl b, H, I.kept (t' := tk) fun _ _ z => z, rfl, q⟩
  · cases r with
    | cons rx rr =>
      cases rr with
      | cons rt rr =>
        cases rr
        cases rx
        cases rt
        obtain ⟨its, r1, ⟨o, ho, hc, n, hdat⟩, _⟩ := I.tuple ht
        have ec := hcv _ r1
        subst ec
        obtain ⟨oc, odd, od2, osl⟩ := o
        dsimp only at hc hdat
        subst hc hdat
        exact PySem.W.kia_tup KX I.kIn J ho e (fun z => nomatch z) fun tk => ⟨.bl b, H, I.kept (t' := tk) fun _ _ z => z, rfl, q⟩
section
variable {X : Cx} {i : Nat} {a C : Addr} {d : Option Addr} {e : Er} {oe : Obj} {pn : List (Addr × Obj)} {n x c : Str} {p p2 pos : Pos}
theorem x_isi {v : V} {cv : Value} {b : Bool} {ce : Expr} (T : ExcC X.K C) (hz : Zc (.ref C) d oe) (hf : ∃ vs, oe.data = .fields vs) (hg : Gl X x) (hm : X.mg x = none) (hv : bootBuiltins x = some (.builtin "isinstance")) (hN : X.N[i]? = some n) (hvis : Vis X.env.scope n)
    (hc : PE (X.suite a ((a, oe) :: pn)) ce (tC v)) (hr : ∀ u, RelV v u → u = cv) (hk : kitOne X.K (.ref C) cv = some b) (hdb : (n == ("__debug__" : Str)) = false := by decide) (hcd : (n == ("__classdict__" : Str)) = false := by decide)
    (hn : x ≠ "__name__" := by decide) (hdb2 : (x == ("__debug__" : Str)) = false := by decide)
    (hs : starEach (.Name n p2 :: [ce]) X.env = (false, eval (.Name n p2) X.env) :: starEach [ce] X.env := by rfl) (hs2 : starEach (ce :: []) X.env = (false, eval ce X.env) :: starEach [] X.env := by rfl) (hpl : (backTo pos (starEach [ce] X.env)).any (·.1) = false := by rfl)
    (he : ∀ whole, isTrue (.Call (.Name x p) [.Name n p2, ce] [] pos) X.env whole = (do let v ← whole; standAt (Expr.Call (.Name x p) [.Name n p2, ce] [] pos).pos; holding [v] (PySem.truthy v)) := by intro _; rfl) :
    PXT (X.suite a ((a, oe) :: pn)) i a d e (.Call (.Name x p) [.Name n p2, ce] [] pos) b :=
  PT.weak (pt_val (pe_callB (call_isED T hz hf) hg hm hv (pa_cons (pe_var hN hvis hdb hcd) (pa_cons hc pa_nil hs2) hs) hn hdb2 hs hpl) he) fun σ H Q ⟨f, q⟩ =>
    ⟨.ref a, f.slot, f.dict, .inl ⟨v, cv, b, rfl, hr, hk, b, rfl, q H (Up.refl H)⟩⟩
theorem x_isiN {vs : List V} {cvs : List Value} {b : Bool} {ces : List Expr} {ta : TA} {k : Nat} {p3 : Pos} (T : ExcC X.K C) (hz : Zc (.ref C) d oe) (hf : ∃ vs, oe.data = .fields vs) (hg : Gl X x) (hm : X.mg x = none) (hv : bootBuiltins x = some (.builtin "isinstance")) (hN : X.N[i]? = some n) (hvis : Vis X.env.scope n)
    (hc : PA (X.suite a ((a, oe) :: pn)) ces ta) (hta : ∀ σ H (Q : List V → Hp → Prop), Q vs H → ta σ H Q) (hl : vs.length ≤ 1000) (hr : ∀ us, Vals vs us → us = cvs) (hk : kitAny X.K (.ref C) cvs = some b) (hdb : (n == ("__debug__" : Str)) = false := by decide) (hcd : (n == ("__classdict__" : Str)) = false := by decide)
    (hn : x ≠ "__name__" := by decide) (hdb2 : (x == ("__debug__" : Str)) = false := by decide)
    (hs : starEach (.Name n p2 :: [.Tuple ces k p3]) X.env = (false, eval (.Name n p2) X.env) :: starEach [.Tuple ces k p3] X.env := by rfl) (hs2 : starEach (.Tuple ces k p3 :: []) X.env = (false, eval (.Tuple ces k p3) X.env) :: starEach [] X.env := by rfl) (hpl : (backTo pos (starEach [.Tuple ces k p3] X.env)).any (·.1) = false := by rfl)
    (he : ∀ whole, isTrue (.Call (.Name x p) [.Name n p2, .Tuple ces k p3] [] pos) X.env whole = (do let v ← whole; standAt (Expr.Call (.Name x p) [.Name n p2, .Tuple ces k p3] [] pos).pos; holding [v] (PySem.truthy v)) := by intro _; rfl) :
    PXT (X.suite a ((a, oe) :: pn)) i a d e (.Call (.Name x p) [.Name n p2, .Tuple ces k p3] [] pos) b :=
  PT.weak (pt_val (pe_callB (call_isED T hz hf) hg hm hv (pa_cons (pe_var hN hvis hdb hcd) (pa_cons (pe_tup hc) pa_nil hs2) hs) hn hdb2 hs hpl) he) fun σ H Q ⟨f, q⟩ =>
    ⟨.ref a, f.slot, hta _ _ _ ⟨by rw [sizeLine_eq]; omega, fun p hp =>
      have u := Up.new hp
      ⟨(f.up u).dict, .inr ⟨p, vs, cvs, b, rfl, SqT.of upd_same, hr, hk, b, rfl, q _ u⟩⟩⟩⟩
theorem x_fld {g : Str} {y : D} (T : XfC X.K C) (hno : findIn X.K (.ref C) g = some none) (hz : Zc (.ref C) d oe) (hf : ∃ vs, oe.data = .fields vs) (hN : X.N[i]? = some n) (hvis : Vis X.env.scope n) (hy : e.fs.lookup g = some y)
    (hdb : (n == ("__debug__" : Str)) = false := by decide) (hcd : (n == ("__classdict__" : Str)) = false := by decide)
    (hb : attributeBase (.Name n p2) g X.env (eval (.Name n p2) X.env) = eval (.Name n p2) X.env := by rfl) :
    PXE (X.suite a ((a, oe) :: pn)) i a d e (.Attribute (.Name n p2) g pos) y :=
  PE.weak (pe_xf T hno hz hf (pe_var hN hvis hdb hcd) hb) fun σ H Q ⟨f, q⟩ => by
    obtain ⟨dd, fs, v, h1, h2, h3, h4⟩ := f.fld g y hy
    exact ⟨.ref a, f.slot, rfl, rfl, dd, fs, v, h1, h2, h3, q H v (Up.refl H) h4⟩
end
/-! ### try: .. except C as n: .. -/
def dTryX (i : Nat) (mb : DS) (sx : Er → Option D) : DS := fun ρ S => match mb ρ S with
  | .er e ρ' S' => if e.fs.isEmpty = false ∧ i < ρ'.length then match sx e with
    | some y => .rt (.d y) S'
    | none => .bad
    else .bad
  | o => o
theorem s_tryX {X : Cx} {W : WX} {i : Nat} {x n : Str} {c : Value} {mb : DS} {sx : Er → Option D} {body suite : List Stmt} {b₀ : Stmt} {np pos pos' : Pos} (hs : X.stack = X.env :: X.outer) (hf : X.env.frame = some X.env.locals) (hN : X.N.Nodup) (hi : X.N[i]? = some n) (hln : X.env.kindOf n = some .local) (hc : Names X x c) (tk : Takes X W)
    (hb : ∀ (W : WX) (pn : List (Addr × Obj)) (xe : Value → Shared → Prop), Takes (X.tr pn xe) W → PassesOwn (model X.prog X.w) X.A X.env xe → SSs (X.tr pn xe) W body mb)
    (hex : ∀ e y cls, sx e = some y → X.mg e.c = some cls → exmOne X.K cls c = some true)
    (hsu : ∀ e y cls a oe d pn, sx e = some y → X.mg e.c = some cls → Zc cls d oe → (∃ vs, oe.data = .fields vs) → PXS (X.suite a ((a, oe) :: pn)) i a d e (b₀ :: suite) y) :
    SS X W (.Try body [.ExceptHandler (some (.Name x np)) (some n) (b₀ :: suite) pos'] [] [] pos) (dTryX i mb sx) := by
  refine PS.weak (ps_try_as (tb := fun W => tS X.K X.mg W mb) (ts := fun a cls d D σ H => ∃ e y, sx e = some y ∧ X.mg e.c = some cls ∧ FX X.K i a d e σ H ∧ ∀ H' v, Up H H' → RD X.K H' y v → D.rt v H') (Wout := W) hs hf hN hi hln hc tk hb
    fun a oe cls d pn hz hf => ⟨fun pins s σ H D I ⟨e, y, h1, h2, h3, h4⟩ => (hsu e y cls a oe d pn h1 h2 hz hf).run pins s σ H D I ⟨h3, h4⟩⟩) fun D σ H ⟨A, ρ, S, re, rs, h⟩ => ⟨A, ρ, S, re, rs, ?_⟩
  unfold dTryX at h
  cases em : mb ρ S with
  | nx ρ' S' => rw [em] at h; exact h
  | rt v S' => rw [em] at h; exact h
  | bk v S' => rw [em] at h; exact h
  | ct v S' => rw [em] at h; exact h
  | bad => rw [em] at h; exact h.elim
  | er e ρ' S' =>
    rw [em] at h
    simp only [] at h
    split at h
    · rename_i c
      split at h
      · rename_i y ey
        intro A' H' σ' cls d p' x' r' re' q'
        refine ⟨true, hex e y cls ey q'.1, fun _ a ha => ⟨e, y, ey, q'.1, ⟨?_, ?_, q'.2⟩, fun H2 v u2 rv => ?_⟩, fun z => by cases z⟩
        · rw [List.getElem?_set_self (by rw [← re'.len]; exact c.2)]
        · cases hfs : e.fs with
          | nil => rw [hfs] at c; cases c.1
          | cons g r =>
            obtain ⟨f, z⟩ := g
            obtain ⟨dd, fs, v, h1, h2, _⟩ := q'.2 f z (by rw [hfs]; simp [List.lookup])
            exact .inr ⟨dd, fs, h1, h2⟩
        · exact h A' H2 v p' (x'.trans u2.ext) (r'.up u2) rv
      · exact h.elim
    · exact h.elim
end DX
end

section
set_option Elab.async false
set_option linter.all false
set_option maxRecDepth 100000
set_option autoImplicit false
set_option maxHeartbeats 1000001
namespace DX
open PySem PySem.W PySem.Calls PyProof.Rows L2 TL DL

/-! ### 'some text' + str(x) -/
theorem small_pos : ∀ n : Nat, n < 1001 → ((toString (n : Int) : Str).length ≤ 10) ∧ ((toString (-(n : Int)) : Str).length ≤ 10) := by decide +kernel
theorem small_len (i : Int) (h : i.natAbs ≤ 1000) : (toString i : Str).length ≤ 10 := by
  rcases Int.natAbs_eq i with e | e
  · rw [e]; exact (small_pos _ (by omega)).1
  · rw [e]; exact (small_pos _ (by omega)).2
theorem small_log (i : Int) (h : i.natAbs ≤ 1000) : i.natAbs.log2 < 1920 := by
  have : i.natAbs.log2 ≤ i.natAbs := Nat.log2_le_self _
  omega
def tMsg (s : Str) (i : Nat) : TE := fun σ H Q => ∃ v, σ[i]? = some (some v) ∧ MsgV v ∧ s.length ≤ 1000 ∧ ∀ z : Str, Q (.str z) H
theorem pe_msg {X : Cx} {s p : Str} {i j : Nat} {p1 p2 p3 p4 p5 : Pos} (hg : Gl X "str") (hm : X.mg "str" = none) (hp : PE X (.Name p p5) (tVar i)) (hs : starEach (.Name p p5 :: []) X.env = (false, eval (.Name p p5) X.env) :: starEach [] X.env := by rfl) :
    PE X (.BinOp (.Constant (.str s) j p1) .Add (.Call (.Name "str" p2) [.Name p p5] [] p3) p4) (tMsg s i) := by
  refine PE.weak (pe_op op_add_str pe_str (PE.or (pe_callTy SkE.call_str_str hg hm (by decide +kernel) (pa_cons hp pa_nil hs) (he := hs)) (pe_callTy call_str_int hg hm (by decide +kernel) (pa_cons hp pa_nil hs) (he := hs)))) fun σ H Q ⟨v, h1, h2, h3, q⟩ => ?_
  rcases h2 with ⟨z, rfl, hz⟩ | ⟨k, rfl, hk⟩
  · exact .inl ⟨_, h1, z, rfl, s, z, rfl, rfl, by rw [sizeLine_eq]; omega, q _⟩
  · exact .inr ⟨_, h1, k, rfl, small_log k hk, s, _, rfl, rfl, by have := small_len k hk; rw [sizeLine_eq]; omega, q _⟩
/-! ### defs with defaults -/
theorem ok_fnD {P : Program} {w : World} {K : PySem.W.Frag} {mg : Str → Option Value} {base : Heap} {x qual : Str} {st : Stmt} {f : Addr} {fd : FuncData} {N ps : List Str} {k : Nat} {ms : DS} {dvs : List V} (F : FunD K x qual (defArgs st) (defBody st) (defScope st) dvs [] f fd) (S : FnScope N ps (defScope st)) (hN : ps.length ≤ N.length)
    (hbody : ∀ (cdv : Value) (A : Around) (outer : List PySem.Env) (s : Shared) (H : Hp) (E : XK), Room k (A.deeper (PyProof.Rows.envOfC qual (defScope st) s.heap.objs.size f cdv)) →
      SSs (cxOf (L2.CX P w) P w K mg base N qual (defScope st) f cdv A outer s H E) (fun c d _ H => E c d H) (defBody st) ms) :
    FnOk P w K mg base (L2.CX P w) (k + 1) f fd ps (spD K mg (runFn ps.length N.length ms)) := by
  refine F.ok S (fun vs H Q E h => ?_) (fun cdv A outer s H vs Q E hr h => ⟨_, hbody cdv A outer s H E hr, ?_⟩)
  · obtain ⟨A, S', us, rs, rv, h⟩ := h
    unfold runFn at h
    split at h
    · rename_i c; rw [rv.length]; exact c
    · exact h.elim
  · obtain ⟨A1, S1, us, rs, rv, h⟩ := h
    unfold runFn at h
    split at h
    · rename_i c
      rw [← rs.len] at h
      have h' := fin_gc h
      refine ⟨A1, _, S1, re_start rv (by omega), rs, ?_⟩
      revert h'
      generalize ms (us.map some ++ List.replicate (N.length - us.length) none) S1 = o
      intro h'
      cases o with
      | nx ρ' S' => exact fun A' H' σ' p e r _ => h' A' H' .non p e r rfl
      | rt v S' => exact fun A' H' x p e r q => h' A' H' x p e r q
      | er x ρ' S' => exact fun A' H' σ' c d p e r _ q => h' A' H' c d p e r q
      | bk ρ' S' => exact h'.elim
      | ct ρ' S' => exact h'.elim
      | bad => exact h'.elim
    · exact h.elim
theorem vals_refs : ∀ (l : List Addr) (us : List Value), Vals (l.map V.ref) us → us = l.map Value.ref
  | [], us, h => by cases h; rfl
  | a :: l, us, h => by
    cases h with
    | cons r rr =>
      rename_i u us'
      obtain rfl : u = Value.ref a := r
      rw [vals_refs l us' rr]
      rfl
theorem any_f {K : PySem.W.Frag} {t c : Value} {r : List Value} {b : Bool} (h : kitOne K t c = some false) (h' : kitAny K t r = some b) : kitAny K t (c :: r) = some b := by
  unfold kitAny
  rw [h]
  exact h'
theorem any_t {K : PySem.W.Frag} {t c : Value} {r : List Value} (h : kitOne K t c = some true) : kitAny K t (c :: r) = some true := by
  unfold kitAny
  rw [h]
/-- the __init__ of a class of the text -/
def clsInit : Stmt → Stmt
  | .ClassDef _ _ _ (st :: _) _ _ _ _ _ _ _ => st
  | st => st
end DX
end

section
set_option Elab.async false
set_option linter.all false
set_option maxRecDepth 100000
set_option autoImplicit false
set_option maxHeartbeats 1000001
namespace DX
open PySem PySem.W PySem.Calls PyProof.Rows L2 TL DL
theorem no_out {P : Program} {w : World} {H : Hp} {s : Shared} {e : Value} {s' : Shared} (h : L2.CX P w [] H s (fun _ _ _ => False) e s') : False := by
  unfold L2.CX at h
  obtain ⟨_, _, _, _, _, _, _, _, _, _, _, _, h⟩ := h
  exact h
/-- the law's answer -/
theorem sp_top {K : PySem.W.Frag} {mg : Str → Option Value} {mf : DF} {H : Hp} {a : Addr} {ns : List Int} (hO : Only H) (hS : SqL K H a (ns.map V.int)) (h : ∃ S, mf [.l 0] [.frz (ns.map .int)] = .ok (.d (.bl true)) S) :
    spD K mg mf [.ref a] H (fun v _ => v = .bl true) fun _ _ _ => False := by
  obtain ⟨S, h⟩ := h
  refine ⟨[a], [.frz (ns.map .int)], [.l 0], ?_, ⟨.ref a, [], rfl, ⟨a, rfl, rfl⟩, rfl⟩, ?_⟩
  · refine ⟨rfl, fun n b c h1 h2 => ?_, fun n m b c c' h1 h2 h3 h4 h5 h6 => ?_⟩
    · match n, h1, h2 with
      | 0, h1, h2 =>
        obtain rfl : a = b := Option.some.inj h1
        obtain rfl : Cell.frz (ns.map .int) = c := Option.some.inj h2
        refine ⟨ns.map V.int, ?_, RDs.ints ns⟩
        rcases hS with (h | h) | h
        · rcases hO a with z | ⟨o, xs, z⟩
          · rw [h] at z; cases z
          · rw [h] at z; cases z
        · exact .inl h
        · exact .inr h
      | n + 1, h1, _ => simp at h1
    · match n, m, h1, h2 with
      | 0, 0, _, _ => rfl
      | n + 1, _, h1, _ => simp at h1
      | 0, m + 1, _, h2 => simp at h2
  · rw [h]
    exact fun A' H' b _ _ _ r => r
theorem kit_own {K : PySem.W.Frag} {t : Value} {C : Addr} {b : Bool} (h1 : isClsIn K C = true) (h2 : typeIn K (.ref C) = some (.type "type")) (h3 : subIn K t (.ref C) = some b) (h4 : subIn K (.ref C) (.ref C) = some true) : kitOne K t (.ref C) = some b := by
  unfold kitOne
  by_cases c : (t == Value.ref C) = true
  · have e := eq_of_beq c
    subst e
    rw [h3] at h4
    rw [if_pos c, h4]
  · rw [if_neg c]
    have h1' : (clsIn K C).isSome = true := h1
    unfold kitCls
    simp only [h1', h2]
    exact h3
theorem kit_blt {K : PySem.W.Frag} {D : Addr} {T : String} {b : Bool} (h1 : kitMeta T = true) (h3 : subIn K (.ref D) (.type T) = some b) : kitOne K (.ref D) (.type T) = some b := by
  unfold kitOne
  rw [if_neg (by simp)]
  unfold kitCls
  simp only [h1, if_true]
  exact h3
theorem super_of {K : PySem.W.Frag} {C D : Addr} {nm qn : Str} {N : Addr} {bs bm : List Value} {sn : List Str} {sub : List Value} {ab : Bool} {col : Option Bool} {dd : Option Addr} {k0 k1 k2 k3 k5 : Option Value} {nw : String}
    {nm' qn' : Str} {N' : Addr} {bs' bm' : List Value} {sn' : List Str} {sub' : List Value} {ab' : Bool} {col' : Option Bool} {dd' : Option Addr} {k0' k1' k2' k3' k5' : Option Value} {nw' : String} {name : Str} {v : Option Value}
    (h1 : K.lookup C = some (excClassObj nm qn C N bs bm true sn sub ab col dd k0 k1 k2 k3 k5 nw)) (h2 : bm = .ref D :: bm') (h3 : K.lookup D = some (excClassObj nm' qn' D N' bs' bm' true sn' sub' ab' col' dd' k0' k1' k2' k3' k5' nw'))
    (h4 : findIn K (.ref D) name = some v) : ks_superIn K C C name = some v := by
  unfold ks_superIn clsIn
  rw [h1]
  show alongIn K name (((Value.ref C :: bm).dropWhile (· != .ref C)).drop 1) = some v
  have e : ((Value.ref C :: bm).dropWhile (· != .ref C)).drop 1 = bm := by simp [List.dropWhile_cons]
  rw [e, h2]
  unfold findIn at h4
  simp only [] at h4
  rw [h3] at h4
  exact h4
def spTop (K : PySem.W.Frag) : Sp := fun vs H Q _ => ∃ (a : Addr) (ns : List Int), vs = [.ref a] ∧ ns.length ≤ 63 ∧ (∀ z ∈ ns, Builtin.Int.intBits z ≤ 1048576) ∧ Only H ∧ SqL K H a (ns.map V.int) ∧ ∀ H', Q (.bl true) H'
theorem sp_imp {K : PySem.W.Frag} {mg : Str → Option Value} {mf : DF} {vs : List V} {H : Hp} {Q : VK} {E : XK}
    (law : ∀ ns : List Int, ns.length ≤ 63 → (∀ z ∈ ns, Builtin.Int.intBits z ≤ 1048576) → ∃ S, mf [.l 0] [.frz (ns.map .int)] = .ok (.d (.bl true)) S) (h : spTop K vs H Q E) : spD K mg mf vs H Q E := by
  obtain ⟨a, ns, rfl, hl, hb, hO, hS, q⟩ := h
  obtain ⟨A, S, us, h1, h2, h3⟩ := sp_top (mg := mg) hO hS (law ns hl hb)
  refine ⟨A, S, us, h1, h2, ?_⟩
  cases e : mf us S with
  | ok v S' =>
    rw [e] at h3
    intro A' H' b p x r rv
    obtain rfl := h3 A' H' b p x r rv
    exact q H'
  | er x S' =>
    rw [e] at h3
    exact fun A' H' cls d p x r q => (h3 A' H' cls d p x r q).elim
  | bad => rw [e] at h3; exact h3
end DX
end

section
set_option Elab.async false
set_option linter.all false
set_option maxRecDepth 100000
set_option autoImplicit false
set_option maxHeartbeats 1000001
namespace DL
/-! ### what an expression, a statement surely does -/
def okR0 {α : Type} (r : Res α) (Q : α → Store → Prop) : Prop := match r with
  | .ok a S => Q a S
  | _ => False
structure Ed where
  nx : Env → Store → Prop
  rt : Vl → Store → Prop
  bk : Env → Store → Prop := fun _ _ => False
  ct : Env → Store → Prop := fun _ _ => False
def okO0 (o : Out) (E : Ed) : Prop := match o with
  | .nx ρ S => E.nx ρ S
  | .rt v S => E.rt v S
  | .bk ρ S => E.bk ρ S
  | .ct ρ S => E.ct ρ S
  | _ => False
section
variable {α β : Type} {Q : α → Store → Prop} {E : Ed}
theorem okR_ok0 {a : α} {S : Store} : okR0 (.ok a S) Q = Q a S := rfl
theorem okR_bad0 : okR0 (.bad : Res α) Q = False := rfl
theorem okR_er0 {e : Er} {S : Store} : okR0 (.er e S : Res α) Q = False := rfl
theorem okR_mono0 {r : Res α} {Q' : α → Store → Prop} (h : okR0 r Q) (i : ∀ a S, Q a S → Q' a S) : okR0 r Q' := by
  cases r with
  | ok a S => exact i _ _ h
  | er _ _ => exact h
  | bad => exact h
theorem okR_eq0 {r : Res α} {a : α} {S : Store} (h : r = .ok a S) (q : Q a S) : okR0 r Q := by rw [h]; exact q
theorem okR_iff0 {r : Res α} : okR0 r Q ↔ ∃ a S, r = .ok a S ∧ Q a S := by
  cases r with
  | ok a S => exact ⟨fun h => ⟨a, S, rfl, h⟩, fun ⟨_, _, h, q⟩ => by cases h; exact q⟩
  | er _ _ => exact ⟨fun h => h.elim, fun ⟨_, _, h, _⟩ => by cases h⟩
  | bad => exact ⟨fun h => h.elim, fun ⟨_, _, h, _⟩ => by cases h⟩
theorem okR_bind0 {r : Res β} {f : β → Store → Res α} : okR0 (r.bind f) Q = okR0 r (fun b S => okR0 (f b S) Q) := by cases r <;> rfl
theorem okO_bindS0 {r : Res β} {ρ : Env} {f : β → Store → Out} : okO0 (bindS r ρ f) E = okR0 r (fun b S => okO0 (f b S) E) := by cases r <;> rfl
theorem okO_mono0 {o : Out} {E' : Ed} (h : okO0 o E) (h1 : ∀ ρ S, E.nx ρ S → E'.nx ρ S) (h2 : ∀ v S, E.rt v S → E'.rt v S) (h3 : ∀ ρ S, E.bk ρ S → E'.bk ρ S) (h4 : ∀ ρ S, E.ct ρ S → E'.ct ρ S) : okO0 o E' := by
  cases o with
  | nx _ _ => exact h1 _ _ h
  | rt _ _ => exact h2 _ _ h
  | bk _ _ => exact h3 _ _ h
  | ct _ _ => exact h4 _ _ h
  | er _ _ _ => exact h
  | bad => exact h
end
section
variable {ρ : Env} {S : Store} {E : Ed} {Q : Vl → Store → Prop} {QB : Bool → Store → Prop} {QA : List Vl → Store → Prop}
theorem w_dSeq0 {a b : DS} : okO0 (dSeq a b ρ S) E = okO0 (a ρ S) { E with nx := fun ρ' S' => okO0 (b ρ' S') E } := by
  unfold dSeq
  cases a ρ S <;> rfl
theorem w_dSet0 {i : Nat} {m : DE} : okO0 (dSet i m ρ S) E = okR0 (m ρ S) (fun v S1 => E.nx (ρ.set i (some v)) S1) := okO_bindS0
theorem w_dExpr0 {m : DE} : okO0 (dExpr m ρ S) E = okR0 (m ρ S) (fun _ S1 => E.nx ρ S1) := okO_bindS0
theorem w_dRet0 {m : DE} : okO0 (dRet m ρ S) E = okR0 (m ρ S) (fun v S1 => E.rt v S1) := okO_bindS0
theorem w_dRetN0 : okO0 (dRetN ρ S) E = E.rt (.d .non) S := rfl
theorem w_dNext0 : okO0 (dNext ρ S) E = E.nx ρ S := rfl
theorem w_dBrk0 : okO0 (dBrk ρ S) E = E.bk ρ S := rfl
theorem w_dCnt0 : okO0 (dCnt ρ S) E = E.ct ρ S := rfl
theorem w_dIf0 {t : DT} {a b : DS} : okO0 (dIf t a b ρ S) E = okR0 (t ρ S) (fun c S1 => if c = true then okO0 (a ρ S1) E else okO0 (b ρ S1) E) := by
  unfold dIf
  rw [okO_bindS0]
  congr 1
  funext c S1
  cases c <;> rfl
theorem w_dAsg0 {T : Tg} {m : DE} : okO0 (dAsg T m ρ S) E = okR0 (m ρ S) (fun v S1 => ∃ ρ', T.run v ρ = some ρ' ∧ E.nx ρ' S1) := by
  unfold dAsg
  rw [okO_bindS0]
  congr 1
  funext v S1
  cases T.run v ρ with
  | none => simp [okO0]
  | some ρ' => simp [okO0]
theorem w_dPar0 {is : List Nat} {m : DA} : okO0 (dPar is m ρ S) E = okR0 (m ρ S) (fun vs S1 => ∃ ρ', setsL is vs ρ = some ρ' ∧ E.nx ρ' S1) := by
  unfold dPar
  rw [okO_bindS0]
  congr 1
  funext v S1
  cases setsL is v ρ with
  | none => simp [okO0]
  | some ρ' => simp [okO0]
theorem w_dParN0 {is : List Nat} {m : DA} : okO0 (dParN is m ρ S) E = okR0 (m ρ S) (fun vs S1 => vs.length ≤ PySem.sizeLine ∧ ∃ ρ', setsL is vs ρ = some ρ' ∧ E.nx ρ' S1) := by
  unfold dParN
  rw [okO_bindS0]
  congr 1
  funext v S1
  by_cases c : v.length ≤ PySem.sizeLine
  · simp only [c, if_true, true_and]
    cases setsL is v ρ with
    | none => simp [okO0]
    | some ρ' => simp [okO0]
  · simp [c, okO0]
theorem w_dPut0 {mv mo mi : DE} : okO0 (dPut mv mo mi ρ S) E = okR0 (mv ρ S) (fun v S1 => okR0 (mo ρ S1) fun o S2 => okR0 (mi ρ S2) fun i S3 => ∃ S', putC o i v S3 = some S' ∧ E.nx ρ S') := by
  unfold dPut
  rw [okO_bindS0]
  congr 1
  funext v S1
  rw [okO_bindS0]
  congr 1
  funext o S2
  rw [okO_bindS0]
  congr 1
  funext i S3
  cases putC o i v S3 with
  | none => simp [okO0]
  | some ρ' => simp [okO0]
theorem w_dC0 {x : D} : okR0 (dC x ρ S) Q = Q (.d x) S := rfl
theorem w_dVar0 {i : Nat} : okR0 (dVar i ρ S) Q = ∃ v, ρ[i]? = some (some v) ∧ Q v S := by
  unfold dVar
  split
  · rename_i v e
    rw [okR_ok0]
    exact propext ⟨fun h => ⟨v, e, h⟩, fun ⟨w, h1, h2⟩ => by rw [e] at h1; cases h1; exact h2⟩
  · rename_i h
    exact propext ⟨fun z => z.elim, fun ⟨w, h1, _⟩ => (h w h1).elim⟩
theorem w_dBin0 {g : Vl → Vl → Store → Res Vl} {a b : DE} : okR0 (dBin g a b ρ S) Q = okR0 (a ρ S) (fun v S1 => okR0 (b ρ S1) fun u S2 => okR0 (g v u S2) Q) := by
  unfold dBin
  rw [okR_bind0]
  congr 1
  funext v S1
  exact okR_bind0
theorem w_dUn0 {g : Vl → Store → Res Vl} {a : DE} : okR0 (dUn g a ρ S) Q = okR0 (a ρ S) (fun v S1 => okR0 (g v S1) Q) := okR_bind0
theorem w_dCB0 {g : List Vl → Store → Res Vl} {m : DA} : okR0 (dCB g m ρ S) Q = okR0 (m ρ S) (fun vs S1 => okR0 (g vs S1) Q) := okR_bind0
theorem w_dNil0 : okR0 (dNil ρ S) QA = QA [] S := rfl
theorem w_dCons0 {m : DE} {k : DA} : okR0 (dCons m k ρ S) QA = okR0 (m ρ S) (fun v S1 => okR0 (k ρ S1) fun vs S2 => QA (v :: vs) S2) := by
  unfold dCons
  rw [okR_bind0]
  congr 1
  funext v S1
  rw [okR_bind0]
  rfl
theorem w_dCall0 {mf : DF} {dvs : List Vl} {ma : DA} : okR0 (dCall mf dvs ma ρ S) Q = okR0 (ma ρ S) (fun us S1 => okR0 (mf (us ++ dvs) S1) Q) := okR_bind0
theorem w_dBT0 {m : DE} : okR0 (dBT m ρ S) QB = okR0 (m ρ S) (fun v S1 => ∃ b, v = .d (.bl b) ∧ QB b S1) := by
  unfold dBT
  rw [okR_bind0]
  congr 1
  funext v S1
  unfold boolOf
  split
  · rename_i b
    rw [okR_ok0]
    exact propext ⟨fun h => ⟨b, rfl, h⟩, fun ⟨c, h1, h2⟩ => by cases h1; exact h2⟩
  · rename_i h
    exact propext ⟨fun z => z.elim, fun ⟨w, h1, _⟩ => (h w h1).elim⟩
theorem w_dTr0 {m : DE} : okR0 (dTr m ρ S) QB = okR0 (m ρ S) (fun v S1 => okR0 (truthyV v S1) QB) := okR_bind0
theorem w_dNot0 {m : DT} : okR0 (dNot m ρ S) QB = okR0 (m ρ S) (fun b S1 => QB (!b) S1) := by
  unfold dNot
  rw [okR_bind0]
  rfl
theorem w_dAnd0 {m k : DT} : okR0 (dAnd m k ρ S) QB = okR0 (m ρ S) (fun b S1 => if b = true then okR0 (k ρ S1) QB else QB false S1) := by
  unfold dAnd
  rw [okR_bind0]
  congr 1
  funext b S1
  cases b <;> rfl
theorem w_dOr0 {m k : DT} : okR0 (dOr m k ρ S) QB = okR0 (m ρ S) (fun b S1 => if b = true then QB true S1 else okR0 (k ρ S1) QB) := by
  unfold dOr
  rw [okR_bind0]
  congr 1
  funext b S1
  cases b <;> rfl
theorem w_dAndV0 {m k : DE} : okR0 (dAndV m k ρ S) Q = okR0 (m ρ S) (fun v S1 => ∃ b, v = .d (.bl b) ∧ (if b = true then okR0 (k ρ S1) Q else Q (.d (.bl false)) S1)) := by
  unfold dAndV
  rw [okR_bind0, w_dBT0]
  congr 1
  funext v S1
  congr 1
  funext b
  cases b <;> rfl
theorem w_dOrV0 {m k : DE} : okR0 (dOrV m k ρ S) Q = okR0 (m ρ S) (fun v S1 => ∃ b, v = .d (.bl b) ∧ (if b = true then Q (.d (.bl true)) S1 else okR0 (k ρ S1) Q)) := by
  unfold dOrV
  rw [okR_bind0, w_dBT0]
  congr 1
  funext v S1
  congr 1
  funext b
  cases b <;> rfl
theorem w_dNotV0 {m : DE} : okR0 (dNotV m ρ S) Q = okR0 (m ρ S) (fun v S1 => ∃ b, v = .d (.bl b) ∧ Q (.d (.bl (!b))) S1) := by
  unfold dNotV
  rw [okR_bind0, w_dBT0]
  rfl
theorem w_dIfE0 {t : DT} {m k : DE} : okR0 (dIfE t m k ρ S) Q = okR0 (t ρ S) (fun b S1 => if b = true then okR0 (m ρ S1) Q else okR0 (k ρ S1) Q) := by
  unfold dIfE
  rw [okR_bind0]
  congr 1
  funext b S1
  cases b <;> rfl
theorem w_dTup0 {m : DA} : okR0 (dTup m ρ S) Q = okR0 (m ρ S) (fun vs S1 => ∃ ds, allD vs = some ds ∧ ds.length ≤ PySem.sizeLine ∧ Q (.d (.tup ds)) S1) := by
  unfold dTup
  rw [okR_bind0]
  congr 1
  funext vs S1
  cases allD vs with
  | none => simp [okR0]
  | some ds => by_cases c : ds.length ≤ PySem.sizeLine <;> simp [okR0, c]
theorem w_dLst0 {m : DA} : okR0 (dLst m ρ S) Q = okR0 (m ρ S) (fun vs S1 => ∃ ds, allD vs = some ds ∧ ds.length ≤ PySem.sizeLine ∧ Q (.l S1.length) (S1 ++ [.lst ds])) := by
  unfold dLst
  rw [okR_bind0]
  congr 1
  funext vs S1
  cases allD vs with
  | none => simp [okR0]
  | some ds => by_cases c : ds.length ≤ PySem.sizeLine <;> simp [okR0, c]
theorem w_dIx0 {a b : DE} : okR0 (dIx a b ρ S) Q = okR0 (a ρ S) (fun v S1 => okR0 (b ρ S1) fun u S2 => okR0 (ixD v u S2) Q) := w_dBin0
theorem w_dIsi0 {T : String} {m : DE} : okR0 (dIsi T m ρ S) Q = okR0 (m ρ S) (fun v S1 => ∃ a, tyN v S1 = some a ∧ Q (.d (.bl (isiB a T))) S1) := by
  unfold dIsi
  rw [okR_bind0]
  congr 1
  funext v S1
  cases tyN v S1 <;> simp [okR0]
theorem w_dIn0 {a b : DE} : okR0 (dIn a b ρ S) Q = okR0 (a ρ S) (fun v S1 => okR0 (b ρ S1) fun u S2 => ∃ c, inD v u S2 = some c ∧ Q (.d (.bl c)) S2) := by
  unfold dIn
  rw [okR_bind0]
  congr 1
  funext v S1
  rw [okR_bind0]
  congr 1
  funext u S2
  cases inD v u S2 <;> simp [okR0]
theorem w_dNotIn0 {a b : DE} : okR0 (dNotIn a b ρ S) Q = okR0 (a ρ S) (fun v S1 => okR0 (b ρ S1) fun u S2 => ∃ c, inD v u S2 = some c ∧ Q (.d (.bl (!c))) S2) := by
  unfold dNotIn
  rw [okR_bind0]
  congr 1
  funext v S1
  rw [okR_bind0]
  congr 1
  funext u S2
  cases inD v u S2 <;> simp [okR0]
theorem w_dONone0 {QO : Option Int → Store → Prop} : okR0 (dONone ρ S) QO = QO none S := rfl
theorem w_dOSome0 {m : DE} {QO : Option Int → Store → Prop} : okR0 (dOSome m ρ S) QO = okR0 (m ρ S) (fun v S1 => ∃ i, v = .d (.int i) ∧ QO (some i) S1) := by
  unfold dOSome
  rw [okR_bind0]
  congr 1
  funext v S1
  split
  · rename_i i
    simp [okR0]
  · rename_i h
    exact propext ⟨fun z => z.elim, fun ⟨w, h1, _⟩ => (h w h1).elim⟩
theorem w_dSl0 {m : DE} {l h : DO} : okR0 (dSl m l h ρ S) Q = okR0 (m ρ S) (fun v S1 => okR0 (l ρ S1) fun i S2 => okR0 (h ρ S2) fun j S3 => okR0 (gSl v i j S3) Q) := by
  unfold dSl
  rw [okR_bind0]
  congr 1
  funext v S1
  rw [okR_bind0]
  congr 1
  funext u S2
  rw [okR_bind0]
theorem w_dBM0 {ty : Vl → Store → Bool} {g : GM} {mo : DE} {ma : DA} : okR0 (dBM ty g mo ma ρ S) Q = okR0 (mo ρ S) (fun v S1 => ty v S1 = true ∧ okR0 (ma ρ S1) fun us S2 => okR0 (g v us S2) Q) := by
  unfold dBM
  rw [okR_bind0]
  congr 1
  funext v S1
  by_cases c : ty v S1 = true
  · rw [if_pos c, okR_bind0]
    simp [c]
  · rw [if_neg c]
    simp [c, okR0]
theorem w_dChain0 {g g' : Vl → Vl → Store → Res Vl} {a b c : DE} : okR0 (dChain g g' a b c ρ S) Q = okR0 (a ρ S) (fun v S1 => okR0 (b ρ S1) fun u S2 => okR0 (g v u S2) fun k S3 => ∃ t, k = .d (.bl t) ∧ if t = true then okR0 (c ρ S3) (fun z S4 => okR0 (g' u z S4) Q) else Q (.d (.bl false)) S3) := by
  unfold dChain
  rw [okR_bind0]
  congr 1
  funext v S1
  rw [okR_bind0]
  congr 1
  funext u S2
  rw [okR_bind0, okR_bind0]
  congr 1
  funext k S3
  unfold boolOf
  split
  · rename_i t
    rw [okR_ok0]
    refine propext ⟨fun h => ⟨t, rfl, ?_⟩, fun ⟨t', h1, h2⟩ => ?_⟩
    · cases t with
      | true => rw [if_pos rfl] at h ⊢; rw [okR_bind0] at h; exact h
      | false => exact h
    · cases h1
      cases t with
      | true => rw [if_pos rfl] at h2 ⊢; rw [okR_bind0]; exact h2
      | false => exact h2
  · rename_i h
    exact propext ⟨fun z => z.elim, fun ⟨w, h1, _⟩ => (h w h1).elim⟩
theorem w_dListRg10 {m : DE} : okR0 (dListRg1 m ρ S) Q = okR0 (m ρ S) (fun v S1 => ∃ j, v = .d (.int j) ∧ rgOk 0 j = true ∧ Q (.l S1.length) (S1 ++ [.lst (rngD 0 j)])) := by
  unfold dListRg1
  rw [okR_bind0]
  congr 1
  funext v S1
  split
  · rename_i j
    by_cases c : rgOk 0 j = true <;> simp [okR0, c]
  · rename_i h
    exact propext ⟨fun z => z.elim, fun ⟨w, h1, _⟩ => (h w h1).elim⟩
theorem w_runFn0 {np N : Nat} {ms : DS} {us : List Vl} (h : us.length = np) (q : okO0 (ms (us.map some ++ List.replicate (N - us.length) none) S) { nx := fun _ S' => Q (.d .non) (S'.take S.length), rt := fun v S' => okR0 (gcR S.length (.ok v S')) Q }) : okR0 (runFn np N ms us S) Q := by
  unfold runFn
  rw [if_pos h]
  revert q
  generalize ms (us.map some ++ List.replicate (N - us.length) none) S = o
  intro q
  cases o with
  | nx _ _ => exact q
  | rt _ _ => exact q
  | bk _ _ => exact q.elim
  | ct _ _ => exact q.elim
  | er _ _ _ => exact q.elim
  | bad => exact q.elim
theorem gc_d0 {n : Nat} {x : D} : okR0 (gcR n (.ok (.d x) S)) Q = Q (.d x) (S.take n) := rfl
theorem gc_old0 {n k : Nat} (h : k < n) : okR0 (gcR n (.ok (.l k) S)) Q = Q (.l k) (S.take n) := by simp [gcR, h, okR0]
theorem gc_new0 {n k : Nat} {c : Cell} (h : n ≤ k) (hc : S[k]? = some c) : okR0 (gcR n (.ok (.l k) S)) Q = Q (.l n) (S.take n ++ [c]) := by simp [gcR, Nat.not_lt.mpr h, hc, okR0]
end
/-! ### walks and loops -/
section
variable {ρ : Env} {S : Store} {E : Ed} {Q : Vl → Store → Prop} {QI : IV → Store → Prop} {T : Tg} {mb : DS} {mt : DT} {me : DE}
theorem w_dIR10 {m : DA} : okR0 (dIR1 m ρ S) QI = okR0 (m ρ S) (fun vs S1 => ∃ j, vs = [.d (.int j)] ∧ okB j = true ∧ QI (.seq (rngV 0 j.toNat)) S1) := by
  unfold dIR1
  rw [okR_bind0]
  congr 1
  funext vs S1
  split
  · rename_i j
    by_cases c : okB j = true <;> simp [okR0, c]
  · rename_i h
    exact propext ⟨fun z => z.elim, fun ⟨w, h1, _⟩ => (h w h1).elim⟩
theorem w_dIR20 {m : DA} : okR0 (dIR2 m ρ S) QI = okR0 (m ρ S) (fun vs S1 => ∃ i j, vs = [.d (.int i), .d (.int j)] ∧ (okB i && okB j) = true ∧ QI (.seq (rngV i (j - i).toNat)) S1) := by
  unfold dIR2
  rw [okR_bind0]
  congr 1
  funext vs S1
  split
  · rename_i i j
    by_cases c : (okB i && okB j) = true
    · rw [if_pos c]
      exact propext ⟨fun h => ⟨i, j, rfl, c, h⟩, fun ⟨i', j', h1, h2, h3⟩ => by cases h1; exact h3⟩
    · rw [if_neg c]
      exact propext ⟨fun h => h.elim, fun ⟨i', j', h1, h2, _⟩ => by cases h1; exact c h2⟩
  · rename_i h
    exact propext ⟨fun z => z.elim, fun ⟨w, w', h1, _⟩ => (h w w' h1).elim⟩
def iaQ0 (QI : IV → Store → Prop) : Vl → Store → Prop
  | .l n, S1 => (lstAt S1 n).isSome = true ∧ QI (.lst n) S1
  | .d (.tup ds), S1 => QI (.seq (ds.map .d)) S1
  | .d (.str s), S1 => QI (.seq (s.map fun c => .d (.str [c]))) S1
  | _, _ => False
theorem w_dIA0 {m : DE} : okR0 (dIA m ρ S) QI = okR0 (m ρ S) (iaQ0 QI) := by
  unfold dIA
  rw [okR_bind0]
  congr 1
  funext v S1
  cases v with
  | l n => by_cases c : (lstAt S1 n).isSome = true <;> simp [okR0, iaQ0, c]
  | d d => cases d <;> rfl
def forQ0 (T : Tg) (mb : DS) (ρ : Env) (E : Ed) : IV → Store → Prop
  | .seq xs, S1 => okO0 (loopS T mb xs ρ S1) E
  | .lst n, S1 => ∃ ds, lstAt S1 n = some ds ∧ okO0 (loopL T mb n ds ds ρ S1) E
theorem w_dFor0 {mi : DI} : okO0 (dFor mi T mb ρ S) E = okR0 (mi ρ S) (forQ0 T mb ρ E) := by
  unfold dFor
  rw [okO_bindS0]
  congr 1
  funext it S1
  cases it with
  | seq xs => rfl
  | lst n =>
    show okO0 (match lstAt S1 n with | some ds => loopL T mb n ds ds ρ S1 | none => .bad) E = ∃ ds, lstAt S1 n = some ds ∧ okO0 (loopL T mb n ds ds ρ S1) E
    cases lstAt S1 n <;> simp [okO0]
theorem loopS_inv0 {xs : List Vl} (I : Nat → Env → Store → Prop) (h0 : I 0 ρ S)
    (hs : ∀ i x ρ S, xs[i]? = some x → I i ρ S → ∃ ρ1, T.run x ρ = some ρ1 ∧ okO0 (mb ρ1 S) { nx := I (i + 1), ct := I (i + 1), bk := E.nx, rt := E.rt })
    (he : ∀ ρ S, I xs.length ρ S → E.nx ρ S) : okO0 (loopS T mb xs ρ S) E := by
  induction xs generalizing I ρ S with
  | nil => exact he _ _ h0
  | cons x r ih =>
    obtain ⟨ρ1, h1, h2⟩ := hs 0 x ρ S rfl h0
    unfold loopS
    rw [h1]
    simp only []
    have next : ∀ ρ' S', I 1 ρ' S' → okO0 (loopS T mb r ρ' S') E := fun ρ' S' h => ih (fun i => I (i + 1)) h (fun i x ρ S hx hI => hs (i + 1) x ρ S (by simpa using hx) hI) (fun ρ S h => he ρ S (by simpa using h))
    cases e : mb ρ1 S with
    | nx ρ' S' => rw [e] at h2; exact next _ _ h2
    | ct ρ' S' => rw [e] at h2; exact next _ _ h2
    | bk ρ' S' => rw [e] at h2; exact h2
    | rt v S' => rw [e] at h2; exact h2
    | er x ρ' S' => rw [e] at h2; exact h2.elim
    | bad => rw [e] at h2; exact h2.elim
theorem loopL_inv0 {n : Nat} {ds xs : List D} (I : Nat → Env → Store → Prop) (h0 : I 0 ρ S) (hl : ∀ i ρ S, I i ρ S → lstAt S n = some ds)
    (hs : ∀ i x ρ S, xs[i]? = some x → I i ρ S → ∃ ρ1, T.run (.d x) ρ = some ρ1 ∧ okO0 (mb ρ1 S) { nx := I (i + 1), ct := I (i + 1), bk := E.nx, rt := E.rt })
    (he : ∀ ρ S, I xs.length ρ S → E.nx ρ S) : okO0 (loopL T mb n ds xs ρ S) E := by
  induction xs generalizing I ρ S with
  | nil =>
    unfold loopL
    rw [if_pos (stands_iff.mpr (hl _ _ _ h0))]
    exact he _ _ h0
  | cons x r ih =>
    obtain ⟨ρ1, h1, h2⟩ := hs 0 x ρ S rfl h0
    unfold loopL
    rw [if_pos (stands_iff.mpr (hl _ _ _ h0)), h1]
    simp only []
    have next : ∀ ρ' S', I 1 ρ' S' → okO0 (loopL T mb n ds r ρ' S') E := fun ρ' S' h => ih (fun i => I (i + 1)) h (fun i ρ S h => hl _ _ _ h) (fun i x ρ S hx hI => hs (i + 1) x ρ S (by simpa using hx) hI) (fun ρ S h => he ρ S (by simpa using h))
    cases e : mb ρ1 S with
    | nx ρ' S' => rw [e] at h2; exact next _ _ h2
    | ct ρ' S' => rw [e] at h2; exact next _ _ h2
    | bk ρ' S' => rw [e] at h2; exact h2
    | rt v S' => rw [e] at h2; exact h2
    | er x ρ' S' => rw [e] at h2; exact h2.elim
    | bad => rw [e] at h2; exact h2.elim
/-- one turn of a comprehension -/
def turnQ0 (mt : DT) (me : DE) (n : Nat) (ρ1 : Env) (S : Store) (k : Store → Prop) : Prop :=
  okR0 (mt ρ1 S) fun b S1 => if b = true then okR0 (me ρ1 S1) fun v S2 => ∃ d acc, v = .d d ∧ S2[n]? = some (.lst acc) ∧ acc.length < PySem.sizeLine ∧ k (S2.set n (.lst (acc ++ [d]))) else k S1
theorem turn_q0 {n : Nat} {x : Vl} {ρ1 : Env} {k : Store → Res Vl} (h : T.run x ρ = some ρ1) (q : turnQ0 mt me n ρ1 S fun S' => okR0 (k S') Q) : okR0 (turnC T mt me n ρ x S k) Q := by
  unfold turnC
  rw [h]
  unfold turnQ0 at q
  simp only []
  cases e : mt ρ1 S with
  | ok b S1 =>
    rw [e] at q
    cases b with
    | false => exact q
    | true =>
      have q : okR0 (me ρ1 S1) fun v S2 => ∃ d acc, v = .d d ∧ S2[n]? = some (.lst acc) ∧ acc.length < PySem.sizeLine ∧ okR0 (k (S2.set n (.lst (acc ++ [d])))) Q := q
      simp only []
      cases e2 : me ρ1 S1 with
      | ok v S2 =>
        rw [e2] at q
        obtain ⟨d, acc, rfl, h1, h2, h3⟩ := q
        unfold stepC
        simp only [h1, if_pos h2]
        exact h3
      | er _ _ => rw [e2] at q; exact q.elim
      | bad => rw [e2] at q; exact q.elim
  | er _ _ => rw [e] at q; exact q.elim
  | bad => rw [e] at q; exact q.elim
theorem loopC_inv0 {n : Nat} {xs : List Vl} (I : Nat → Store → Prop) (h0 : I 0 S)
    (hs : ∀ i x S, xs[i]? = some x → I i S → ∃ ρ1, T.run x ρ = some ρ1 ∧ turnQ0 mt me n ρ1 S (I (i + 1)))
    (he : ∀ S, I xs.length S → Q (.l n) S) : okR0 (loopC T mt me n ρ xs S) Q := by
  induction xs generalizing I S with
  | nil => exact he _ h0
  | cons x r ih =>
    obtain ⟨ρ1, h1, h2⟩ := hs 0 x S rfl h0
    unfold loopC
    refine turn_q0 h1 ?_
    have next : ∀ S', I 1 S' → okR0 (loopC T mt me n ρ r S') Q := fun S' h => ih (fun i => I (i + 1)) h (fun i x S hx hI => hs (i + 1) x S (by simpa using hx) hI) (fun S h => he S (by simpa using h))
    unfold turnQ0 at h2 ⊢
    refine okR_mono0 h2 fun b S1 hb => ?_
    cases b with
    | false => exact next _ hb
    | true =>
      have hb : okR0 (me ρ1 S1) fun v S2 => ∃ d acc, v = .d d ∧ S2[n]? = some (.lst acc) ∧ acc.length < PySem.sizeLine ∧ I (0 + 1) (S2.set n (.lst (acc ++ [d]))) := hb
      refine okR_mono0 (Q := fun v S2 => ∃ d acc, v = .d d ∧ S2[n]? = some (.lst acc) ∧ acc.length < PySem.sizeLine ∧ I (0 + 1) (S2.set n (.lst (acc ++ [d])))) hb fun v S2 ⟨d, acc, a1, a2, a3, a4⟩ => ⟨d, acc, a1, a2, a3, next _ a4⟩
theorem loopCL_inv0 {n m : Nat} {ds xs : List D} (I : Nat → Store → Prop) (h0 : I 0 S) (hl : ∀ i S, I i S → lstAt S m = some ds)
    (hs : ∀ i x S, xs[i]? = some x → I i S → ∃ ρ1, T.run (.d x) ρ = some ρ1 ∧ turnQ0 mt me n ρ1 S (I (i + 1)))
    (he : ∀ S, I xs.length S → Q (.l n) S) : okR0 (loopCL T mt me n ρ m ds xs S) Q := by
  induction xs generalizing I S with
  | nil =>
    unfold loopCL
    rw [if_pos (stands_iff.mpr (hl _ _ h0))]
    exact he _ h0
  | cons x r ih =>
    obtain ⟨ρ1, h1, h2⟩ := hs 0 x S rfl h0
    unfold loopCL
    rw [if_pos (stands_iff.mpr (hl _ _ h0))]
    refine turn_q0 h1 ?_
    have next : ∀ S', I 1 S' → okR0 (loopCL T mt me n ρ m ds r S') Q := fun S' h => ih (fun i => I (i + 1)) h (fun i S h => hl _ _ h) (fun i x S hx hI => hs (i + 1) x S (by simpa using hx) hI) (fun S h => he S (by simpa using h))
    unfold turnQ0 at h2 ⊢
    refine okR_mono0 h2 fun b S1 hb => ?_
    cases b with
    | false => exact next _ hb
    | true =>
      have hb : okR0 (me ρ1 S1) fun v S2 => ∃ d acc, v = .d d ∧ S2[n]? = some (.lst acc) ∧ acc.length < PySem.sizeLine ∧ I (0 + 1) (S2.set n (.lst (acc ++ [d]))) := hb
      refine okR_mono0 (Q := fun v S2 => ∃ d acc, v = .d d ∧ S2[n]? = some (.lst acc) ∧ acc.length < PySem.sizeLine ∧ I (0 + 1) (S2.set n (.lst (acc ++ [d])))) hb fun v S2 ⟨d, acc, a1, a2, a3, a4⟩ => ⟨d, acc, a1, a2, a3, next _ a4⟩
def lcQ0 (T : Tg) (mt : DT) (me : DE) (vs : List Nat) (ρ : Env) (Q : Vl → Store → Prop) : IV → Store → Prop
  | .seq xs, S1 => okR0 (loopC T mt me S1.length (wipeR ρ vs) xs (S1 ++ [.lst []])) Q
  | .lst m, S1 => ∃ ds, lstAt S1 m = some ds ∧ okR0 (loopCL T mt me S1.length (wipeR ρ vs) m ds ds (S1 ++ [.lst []])) Q
theorem w_dLc0 {mi : DI} {vs : List Nat} : okR0 (dLc mi T mt me vs ρ S) Q = okR0 (mi ρ S) (lcQ0 T mt me vs ρ Q) := by
  unfold dLc
  rw [okR_bind0]
  congr 1
  funext it S1
  cases it with
  | seq xs => rfl
  | lst n =>
    show okR0 (match lstAt S1 n with | some ds => loopCL T mt me S1.length (wipeR ρ vs) n ds ds (S1 ++ [.lst []]) | none => .bad) Q = ∃ ds, lstAt S1 n = some ds ∧ okR0 (loopCL T mt me S1.length (wipeR ρ vs) n ds ds (S1 ++ [.lst []])) Q
    cases lstAt S1 n <;> simp [okR0]
theorem w_dYes0 {QB : Bool → Store → Prop} : okR0 (dYes ρ S) QB = QB true S := rfl
end
theorem seq_cut0 {ρ : Env} {S : Store} {E : Ed} {a b : DS} (P : Env → Store → Prop) (h1 : okO0 (a ρ S) { E with nx := P }) (h2 : ∀ ρ' S', P ρ' S' → okO0 (b ρ' S') E) : okO0 (dSeq a b ρ S) E := by
  rw [w_dSeq0]
  exact okO_mono0 h1 h2 (fun _ _ h => h) (fun _ _ h => h) (fun _ _ h => h)
end DL
end

section
set_option Elab.async false
set_option linter.all false
set_option maxRecDepth 100000
set_option autoImplicit false
set_option maxHeartbeats 1000001
namespace DL
open PySem L2 TL
/-! ### what the operators do at known kinds -/
section
variable {S : Store} {Q : Vl → Store → Prop} {QB : Bool → Store → Prop} {i j : Int} {s t : List Nat} {n m : Nat} {ds es : List D}
theorem propIf0 {P : Prop} [Decidable P] {r : Res Vl} : okR0 (if P then r else .bad) Q = (P ∧ okR0 r Q) := by
  by_cases c : P <;> simp [c, okR0]
theorem e_lt0 : okR0 (gLt (.d (.int i)) (.d (.int j)) S) Q = Q (.d (.bl (decide (i < j)))) S := rfl
theorem e_le0 : okR0 (gLe (.d (.int i)) (.d (.int j)) S) Q = Q (.d (.bl (decide (i ≤ j)))) S := rfl
theorem e_gt0 : okR0 (gGt (.d (.int i)) (.d (.int j)) S) Q = Q (.d (.bl (decide (j < i)))) S := rfl
theorem e_ge0 : okR0 (gGe (.d (.int i)) (.d (.int j)) S) Q = Q (.d (.bl (decide (j ≤ i)))) S := rfl
theorem e_sub0 : okR0 (DL.gSub (.d (.int i)) (.d (.int j)) S) Q = Q (.d (.int (i - j))) S := rfl
theorem e_add0 : okR0 (gAdd (.d (.int i)) (.d (.int j)) S) Q = Q (.d (.int (i + j))) S := rfl
theorem e_addS0 : okR0 (gAdd (.d (.str s)) (.d (.str t)) S) Q = (s.length + t.length ≤ sizeLine ∧ Q (.d (.str (s ++ t))) S) := propIf0
theorem e_addT0 : okR0 (gAdd (.d (.tup ds)) (.d (.tup es)) S) Q = (ds.length + es.length ≤ sizeLine ∧ Q (.d (.tup (ds ++ es))) S) := propIf0
theorem e_addL0 (h1 : S[n]? = some (.lst ds)) (h2 : S[m]? = some (.lst es)) : okR0 (gAdd (.l n) (.l m) S) Q = (ds.length + es.length ≤ sizeLine ∧ Q (.l S.length) (S ++ [.lst (ds ++ es)])) := by
  unfold gAdd
  simp only [h1, h2]
  exact propIf0
theorem e_mul0 : okR0 (gMul (.d (.int i)) (.d (.int j)) S) Q = (mulC i j = true ∧ Q (.d (.int (i * j))) S) := propIf0
theorem e_mulS0 : okR0 (gMul (.d (.str s)) (.d (.int j)) S) Q = ((decide (s.length * j.toNat ≤ sizeLine) && decide (-(2 ^ 62) ≤ j) && decide (j < 2 ^ 62)) = true ∧ Q (.d (.str (rep s j.toNat))) S) := propIf0
theorem e_mod0 : okR0 (gMod (.d (.int i)) (.d (.int j)) S) Q = (0 < j ∧ Q (.d (.int (i % j))) S) := by
  show okR0 (if decide (0 < j) = true then .ok (.d (.int (i % j))) S else .bad) Q = _
  rw [propIf0, decide_eq_true_eq]
  rfl
theorem e_fdiv0 : okR0 (gFdiv (.d (.int i)) (.d (.int j)) S) Q = (divC i j = true ∧ Q (.d (.int (i / j))) S) := propIf0
theorem e_pow0 : okR0 (gPow (.d (.int i)) (.d (.int j)) S) Q = (powC i j = true ∧ Q (.d (.int (i ^ j.toNat))) S) := propIf0
theorem e_neg0 : okR0 (gNeg (.d (.int i)) S) Q = Q (.d (.int (-i))) S := rfl
theorem e_eqI0 : okR0 (gEq (.d (.int i)) (.d (.int j)) S) Q = Q (.d (.bl (i == j))) S := rfl
theorem e_neI0 : okR0 (gNe (.d (.int i)) (.d (.int j)) S) Q = Q (.d (.bl (!(i == j)))) S := rfl
theorem e_eqS0 : okR0 (gEq (.d (.str s)) (.d (.str t)) S) Q = Q (.d (.bl (s == t))) S := rfl
theorem e_neS0 : okR0 (gNe (.d (.str s)) (.d (.str t)) S) Q = Q (.d (.bl (!(s == t)))) S := rfl
theorem e_eqD0 {a b : D} : okR0 (gEq (.d a) (.d b) S) Q = ((scalD a b || (okD 60 a && okD 60 b)) = true ∧ Q (.d (.bl (eqD a b))) S) := by
  show okR0 (mapR _ (if (scalD a b || (okD 60 a && okD 60 b)) = true then .ok (eqD a b) S else .bad)) Q = _
  by_cases c : (scalD a b || (okD 60 a && okD 60 b)) = true <;> simp [c, mapR, okR0]
theorem e_neD0 {a b : D} : okR0 (gNe (.d a) (.d b) S) Q = ((scalD a b || (okD 60 a && okD 60 b)) = true ∧ Q (.d (.bl (!(eqD a b)))) S) := by
  show okR0 (mapR _ (if (scalD a b || (okD 60 a && okD 60 b)) = true then .ok (eqD a b) S else .bad)) Q = _
  by_cases c : (scalD a b || (okD 60 a && okD 60 b)) = true <;> simp [c, mapR, okR0]
theorem e_is0 {v u : Vl} : okR0 (gIs v u S) Q = ∃ b, isV v u = some b ∧ Q (.d (.bl b)) S := by
  unfold gIs
  cases isV v u <;> simp [okR0]
theorem e_isNot0 {v u : Vl} : okR0 (gIsNot v u S) Q = ∃ b, isV v u = some b ∧ Q (.d (.bl (!b))) S := by
  unfold gIsNot
  cases isV v u <;> simp [okR0]
theorem e_lenS0 : okR0 (gLen [.d (.str s)] S) Q = (s.length ≤ sizeLine ∧ Q (.d (.int s.length)) S) := propIf0
theorem e_lenT0 : okR0 (gLen [.d (.tup ds)] S) Q = Q (.d (.int ds.length)) S := rfl
theorem e_lenL0 : okR0 (gLen [.l n] S) Q = ∃ ds, lstAt S n = some ds ∧ Q (.d (.int ds.length)) S := by
  unfold gLen
  cases h : lstAt S n <;> simp [okR0, h]
theorem e_int0 : okR0 (gInt1 [.d (.int i)] S) Q = Q (.d (.int i)) S := rfl
theorem e_abs0 : okR0 (gAbs [.d (.int i)] S) Q = Q (.d (.int (if i < 0 then -i else i))) S := rfl
theorem e_max0 : okR0 (gMax [.d (.int i), .d (.int j)] S) Q = Q (.d (.int (if j > i then j else i))) S := rfl
theorem e_min0 : okR0 (gMin [.d (.int i), .d (.int j)] S) Q = Q (.d (.int (if j < i then j else i))) S := rfl
theorem e_tupT0 : okR0 (gTuple [.d (.tup ds)] S) Q = Q (.d (.tup ds)) S := rfl
theorem e_tupL0 : okR0 (gTuple [.l n] S) Q = ∃ ds, lstAt S n = some ds ∧ Q (.d (.tup ds)) S := by
  unfold gTuple
  cases h : lstAt S n <;> simp [okR0, h]
theorem e_listS0 : okR0 (gList [.d (.str s)] S) Q = (s.length ≤ sizeLine ∧ Q (.l S.length) (S ++ [.lst (chars s)])) := propIf0
theorem e_listT0 : okR0 (gList [.d (.tup ds)] S) Q = Q (.l S.length) (S ++ [.lst ds]) := rfl
theorem e_listL0 : okR0 (gList [.l n] S) Q = ∃ ds, lstAt S n = some ds ∧ Q (.l S.length) (S ++ [.lst ds]) := by
  unfold gList
  cases h : lstAt S n <;> simp [okR0, h]
theorem e_all0 : okR0 (gAll [.l n] S) Q = ∃ ds bs, lstAt S n = some ds ∧ bools ds = some bs ∧ Q (.d (.bl (bs.all id))) S := by
  unfold gAll gBools
  cases h : lstAt S n with
  | none => simp [okR0, h]
  | some ds => cases e : bools ds <;> simp [okR0, e, h]
theorem e_any0 : okR0 (gAny [.l n] S) Q = ∃ ds bs, lstAt S n = some ds ∧ bools ds = some bs ∧ Q (.d (.bl (bs.any id))) S := by
  unfold gAny gBools
  cases h : lstAt S n with
  | none => simp [okR0, h]
  | some ds => cases e : bools ds <;> simp [okR0, e, h]
theorem e_str0 : okR0 (gStr [.d (.int i)] S) Q = (i.natAbs.log2 < 1920 ∧ Q (.d (.str (strI i))) S) := propIf0
theorem e_ixT0 : okR0 (ixD (.d (.tup ds)) (.d (.int i)) S) Q = ∃ d, atI ds i = some d ∧ Q (.d d) S := by
  show okR0 (match atI ds i with | some d => .ok (.d d) S | none => .bad) Q = _
  cases atI ds i <;> simp [okR0]
theorem e_ixS0 : okR0 (ixD (.d (.str s)) (.d (.int i)) S) Q = (s.length ≤ sizeLine ∧ ∃ c, atI s i = some c ∧ Q (.d (.str [c])) S) := by
  show okR0 (if s.length ≤ sizeLine then (match atI s i with | some c => .ok (.d (.str [c])) S | none => .bad) else .bad) Q = _
  rw [propIf0]
  congr 1
  cases atI s i <;> simp [okR0]
theorem e_ixL0 (h : lstAt S n = some ds) : okR0 (ixD (.l n) (.d (.int i)) S) Q = ∃ d, atI ds i = some d ∧ Q (.d d) S := by
  have e : ixD (.l n) (.d (.int i)) S = gIx (.l n) (.d (.int i)) S := by
    unfold lstAt at h
    unfold ixD
    simp only []
    split at h
    · rename_i e; rw [e]
    · rename_i e; rw [e]
    · cases h
  rw [e]
  show okR0 (match lstAt S n with | some ds => (match atI ds i with | some d => .ok (.d d) S | none => .bad) | none => .bad) Q = _
  rw [h]
  simp only []
  cases atI ds i <;> simp [okR0]
theorem e_slT0 {lo hi : Option Int} : okR0 (gSl (.d (.tup ds)) lo hi S) Q = Q (.d (.tup (cutL ds lo hi))) S := rfl
theorem e_slS0 {lo hi : Option Int} : okR0 (gSl (.d (.str s)) lo hi S) Q = (s.length ≤ sizeLine ∧ Q (.d (.str (cutL s lo hi))) S) := propIf0
theorem e_slL0 {lo hi : Option Int} : okR0 (gSl (.l n) lo hi S) Q = ∃ ds, lstAt S n = some ds ∧ Q (.l S.length) (S ++ [.lst (cutL ds lo hi)]) := by
  unfold gSl
  cases h : lstAt S n <;> simp [okR0, h]
theorem e_append0 {x : D} (h : S[n]? = some (.lst ds)) : okR0 (gAppend (.l n) [.d x] S) Q = (ds.length < sizeLine ∧ Q (.d .non) (S.set n (.lst (ds ++ [x])))) := by
  unfold gAppend
  simp only [h]
  exact propIf0
theorem e_pop0 (h : S[n]? = some (.lst ds)) : okR0 (gPop (.l n) [] S) Q = ∃ x, ds[ds.length - 1]? = some x ∧ Q (.d x) (S.set n (.lst ds.dropLast)) := by
  unfold gPop
  simp only [h]
  cases ds[ds.length - 1]? <;> simp [okR0]
theorem e_popAt0 {k : Nat} {x : D} (h : S[n]? = some (.lst ds)) (hx : ds[k]? = some x) (hk : k < 2 ^ 62) (q : Q (.d x) (S.set n (.lst (ds.eraseIdx k)))) : okR0 (gPopAt (.l n) [.d (.int k)] S) Q := by
  have hl := (List.getElem?_eq_some_iff.mp hx).1
  have e : ixN ds.length (k : Int) = some k := by
    unfold ixN
    rw [if_pos (by omega), if_pos (by omega)]
    simp
  unfold gPopAt
  simp only [h, e, hx]
  rw [if_pos (by simp; omega)]
  exact q
theorem e_join0 (h : lstAt S n = some ds) : okR0 (gJoin (.d (.str s)) [.l n] S) Q = ∃ ss, strsD ds = some ss ∧ (ss.map (·.length)).sum + ss.length * s.length ≤ 16777216 ∧ Q (.d (.str (joinL s ss))) S := by
  unfold gJoin
  simp only [h]
  cases strsD ds with
  | none => simp [okR0]
  | some ss =>
    simp only [Option.some.injEq, exists_eq_left']
    exact propIf0
theorem e_index0 {c : Nat} : okR0 (gIndex (.d (.str s)) [.d (.str [c])] S) Q = ∃ j, s.idxOf? c = some j ∧ Q (.d (.int (j : Nat))) S := by
  show okR0 (match s.idxOf? c with | some j => .ok (.d (.int (j : Nat))) S | none => .bad) Q = _
  cases s.idxOf? c <;> simp [okR0]
theorem e_revL0 : okR0 (gRev (.l n) S) Q = ∃ ds, lstAt S n = some ds ∧ Q (.l S.length) (S ++ [.lst ds.reverse]) := by
  unfold gRev
  cases h : lstAt S n <;> simp [okR0, h]
theorem e_revS0 : okR0 (gRev (.d (.str s)) S) Q = (s.length ≤ 16777216 ∧ Q (.d (.str s.reverse)) S) := propIf0
theorem e_trB0 {b : Bool} : okR0 (truthyV (.d (.bl b)) S) QB = QB b S := rfl
theorem e_inS {c : Nat} : inD (.d (.str [c])) (.d (.str t)) S = some (decide (c ∈ t)) := rfl
theorem e_inT {x : D} (h : (flatD x && ds.all flatD) = true) : inD (.d x) (.d (.tup ds)) S = some (ds.any fun e => eqD e x) := by
  have : inD (.d x) (.d (.tup ds)) S = (if (flatD x && ds.all flatD) = true then some (ds.any fun e => eqD e x) else none) := by
    show inB _ _ _ = _
    unfold inB
    cases x with
    | str s => cases s with
      | nil => rfl
      | cons a s => cases s <;> rfl
    | _ => rfl
  rw [this, if_pos h]
theorem e_isLst (h : lstAt S n = some ds) : isLst (.l n) S = true := by show (lstAt S n).isSome = true; rw [h]; rfl
end
/-! places -/
theorem at_nat {α : Type} (xs : List α) (k : Nat) : atI xs (k : Int) = xs[k]? := by
  unfold atI ixN
  rw [if_pos (by omega)]
  by_cases h : k < xs.length
  · rw [if_pos (by omega)]; simp
  · rw [if_neg (by omega)]
    simp at h
    simp [h]
theorem at_0 {α : Type} (xs : List α) : atI xs 0 = xs[0]? := at_nat xs 0
theorem at_1 {α : Type} (xs : List α) : atI xs 1 = xs[1]? := at_nat xs 1
theorem at_2 {α : Type} (xs : List α) : atI xs 2 = xs[2]? := at_nat xs 2
theorem at_3 {α : Type} (xs : List α) : atI xs 3 = xs[3]? := at_nat xs 3
theorem at_4 {α : Type} (xs : List α) : atI xs 4 = xs[4]? := at_nat xs 4
theorem at_5 {α : Type} (xs : List α) : atI xs 5 = xs[5]? := at_nat xs 5
theorem at_neg1 {α : Type} (xs : List α) : atI xs (-1) = xs.getLast? := by
  unfold atI ixN
  rw [if_neg (by omega)]
  cases xs with
  | nil => rfl
  | cons x r =>
    rw [if_pos (by simp; omega), List.getLast?_eq_getElem?]
    have : ((-1 : Int) + ((x :: r).length : Int)).toNat = (x :: r).length - 1 := by simp; omega
    rw [this]
    rfl
theorem cut_to {α : Type} (xs : List α) (k : Nat) : cutL xs none (some (k : Int)) = xs.take k := by
  unfold cutL HT.sIx
  simp only []
  rw [if_neg (by omega)]
  simp [List.take_eq_take_iff]
theorem cut_from {α : Type} (xs : List α) (k : Nat) : cutL xs (some (k : Int)) none = xs.drop k := by
  unfold cutL HT.sIx
  simp only []
  rw [if_neg (by omega)]
  by_cases h : k ≤ xs.length
  · rw [show min ((k : Int).toNat) xs.length = k by simp; omega]
    rw [List.take_of_length_le (by simp)]
  · rw [show min ((k : Int).toNat) xs.length = xs.length by simp; omega]
    simp
    omega
theorem cut_mid {α : Type} (xs : List α) (i j : Nat) : cutL xs (some (i : Int)) (some (j : Int)) = (xs.drop i).take (j - i) := by
  unfold cutL HT.sIx
  simp only []
  rw [if_neg (by omega), if_neg (by omega)]
  by_cases h : i ≤ xs.length
  · rw [show min ((i : Int).toNat) xs.length = i by simp; omega]
    by_cases h2 : j ≤ xs.length
    · rw [show min ((j : Int).toNat) xs.length = j by simp; omega]
    · rw [show min ((j : Int).toNat) xs.length = xs.length by simp; omega]
      rw [List.take_of_length_le (by simp), List.take_of_length_le (by simp; omega)]
  · rw [show min ((i : Int).toNat) xs.length = xs.length by simp; omega]
    rw [List.drop_of_length_le (Nat.le_refl _), List.drop_of_length_le (by omega)]
    simp
/-! data that is the same -/
mutual
theorem eqD_refl : ∀ a : D, eqD a a = true
  | .non => rfl
  | .bl a => by simp [eqD]
  | .int a => by simp [eqD]
  | .str a => by simp [eqD]
  | .tup a => by simp only [eqD]; exact eqDs_refl a
theorem eqDs_refl : ∀ a : List D, eqDs a a = true
  | [] => rfl
  | a :: r => by simp only [eqDs, Bool.and_eq_true]; exact ⟨eqD_refl a, eqDs_refl r⟩
end
theorem lst_at {S : Store} {n : Nat} {ds : List D} (h : S[n]? = some (.lst ds)) : lstAt S n = some ds := by unfold lstAt; rw [h]
theorem frz_at {S : Store} {n : Nat} {ds : List D} (h : S[n]? = some (.frz ds)) : lstAt S n = some ds := by unfold lstAt; rw [h]
theorem take_set {S : Store} {n : Nat} {c : Cell} : (S.set n c).take S.length = S.set n c := List.take_of_length_le (by simp)
theorem new_at {S : Store} {c : Cell} : (S ++ [c])[S.length]? = some c := by simp
theorem old_at {S T : Store} {n : Nat} {c : Cell} (h : S[n]? = some c) : (S ++ T)[n]? = some c := by
  rw [List.getElem?_append_left (List.getElem?_eq_some_iff.mp h).1]; exact h
theorem set_at {S : Store} {n : Nat} {c c' : Cell} (h : S[n]? = some c) : (S.set n c')[n]? = some c' := List.getElem?_set_self (List.getElem?_eq_some_iff.mp h).1
theorem set_other {S : Store} {n m : Nat} {c' : Cell} (h : n ≠ m) : (S.set n c')[m]? = S[m]? := List.getElem?_set_ne h
theorem set_new {S : Store} {c c' : Cell} : (S ++ [c]).set S.length c' = S ++ [c'] := by simp
theorem set_old {S T : Store} {n : Nat} {c : Cell} (h : n < S.length) : (S ++ T).set n c = S.set n c ++ T := List.set_append_left _ _ h
theorem take_new {S T : Store} : (S ++ T).take S.length = S := by simp
end DL
end

section
set_option Elab.async false
set_option linter.all false
set_option maxRecDepth 100000
set_option autoImplicit false
set_option maxHeartbeats 1000001
namespace DL
open PySem L2 TL
/-! ### the same, not unfolded by itself -/
@[irreducible] def okR {α : Type} (r : Res α) (Q : α → Store → Prop) : Prop := okR0 r Q
@[irreducible] def okO (o : Out) (E : Ed) : Prop := okO0 o E
theorem okR_is {α : Type} (r : Res α) (Q : α → Store → Prop) : okR r Q = okR0 r Q := by unfold okR; rfl
theorem okO_is (o : Out) (E : Ed) : okO o E = okO0 o E := by unfold okO; rfl
def iaQ (QI : IV → Store → Prop) (v : Vl) (S : Store) : Prop := iaQ0 QI v S
theorem iaQ_is : iaQ = iaQ0 := rfl
theorem iaQ_l {QI : IV → Store → Prop} {n : Nat} {S : Store} : iaQ QI (.l n) S = ((lstAt S n).isSome = true ∧ QI (.lst n) S) := rfl
theorem iaQ_t {QI : IV → Store → Prop} {ds : List D} {S : Store} : iaQ QI (.d (.tup ds)) S = QI (.seq (ds.map .d)) S := rfl
theorem iaQ_s {QI : IV → Store → Prop} {s : List Nat} {S : Store} : iaQ QI (.d (.str s)) S = QI (.seq (s.map fun c => .d (.str [c]))) S := rfl
@[irreducible] def forQ (T : Tg) (mb : DS) (ρ : Env) (E : Ed) (it : IV) (S : Store) : Prop := forQ0 T mb ρ E it S
@[irreducible] def lcQ (T : Tg) (mt : DT) (me : DE) (vs : List Nat) (ρ : Env) (Q : Vl → Store → Prop) (it : IV) (S : Store) : Prop := lcQ0 T mt me vs ρ Q it S
@[irreducible] def turnQ (mt : DT) (me : DE) (n : Nat) (ρ1 : Env) (S : Store) (k : Store → Prop) : Prop := turnQ0 mt me n ρ1 S k
theorem forQ_is : forQ = forQ0 := by funext T mb ρ E it S; unfold forQ; rfl
theorem lcQ_is : lcQ = lcQ0 := by funext T mt me vs ρ Q it S; unfold lcQ; rfl
theorem turnQ_is : turnQ = turnQ0 := by funext mt me n ρ1 S k; unfold turnQ; rfl
theorem forQ_seq {T : Tg} {mb : DS} {ρ : Env} {E : Ed} {xs : List Vl} {S : Store} : forQ T mb ρ E (.seq xs) S = okO (loopS T mb xs ρ S) E := by rw [forQ_is, okO_is]; rfl
theorem forQ_lst {T : Tg} {mb : DS} {ρ : Env} {E : Ed} {n : Nat} {S : Store} : forQ T mb ρ E (.lst n) S = ∃ ds, lstAt S n = some ds ∧ okO (loopL T mb n ds ds ρ S) E := by rw [forQ_is]; simp only [okO_is]; rfl
theorem lcQ_seq {T : Tg} {mt : DT} {me : DE} {vs : List Nat} {ρ : Env} {Q : Vl → Store → Prop} {xs : List Vl} {S : Store} : lcQ T mt me vs ρ Q (.seq xs) S = okR (loopC T mt me S.length (wipeR ρ vs) xs (S ++ [.lst []])) Q := by rw [lcQ_is, okR_is]; rfl
theorem lcQ_lst {T : Tg} {mt : DT} {me : DE} {vs : List Nat} {ρ : Env} {Q : Vl → Store → Prop} {n : Nat} {S : Store} : lcQ T mt me vs ρ Q (.lst n) S = ∃ ds, lstAt S n = some ds ∧ okR (loopCL T mt me S.length (wipeR ρ vs) n ds ds (S ++ [.lst []])) Q := by rw [lcQ_is]; simp only [okR_is]; rfl
theorem turnQ_def {mt : DT} {me : DE} {n : Nat} {ρ1 : Env} {S : Store} {k : Store → Prop} : turnQ mt me n ρ1 S k = okR (mt ρ1 S) fun b S1 => if b = true then okR (me ρ1 S1) (fun v S2 => ∃ d acc, v = .d d ∧ S2[n]? = some (.lst acc) ∧ acc.length < PySem.sizeLine ∧ k (S2.set n (.lst (acc ++ [d])))) else k S1 := by
  rw [turnQ_is]
  simp only [okR_is]
  rfl
section
variable {α β : Type} {Q : α → Store → Prop} {E : Ed}
theorem okR_ok {a : α} {S : Store} : okR (.ok a S) Q = Q a S := by
  simp only [okR_is, okO_is, forQ_is, lcQ_is, turnQ_is, iaQ_is] at *
  exact okR_ok0
theorem okR_bad : okR (.bad : Res α) Q = False := by
  simp only [okR_is, okO_is, forQ_is, lcQ_is, turnQ_is, iaQ_is] at *
  exact okR_bad0
theorem okR_er {e : Er} {S : Store} : okR (.er e S : Res α) Q = False := by
  simp only [okR_is, okO_is, forQ_is, lcQ_is, turnQ_is, iaQ_is] at *
  exact okR_er0
theorem okR_mono {r : Res α} {Q' : α → Store → Prop} (h : okR r Q) (i : ∀ a S, Q a S → Q' a S) : okR r Q' := by
  simp only [okR_is, okO_is, forQ_is, lcQ_is, turnQ_is, iaQ_is] at *
  exact okR_mono0 h i
theorem okR_eq {r : Res α} {a : α} {S : Store} (h : r = .ok a S) (q : Q a S) : okR r Q := by
  simp only [okR_is, okO_is, forQ_is, lcQ_is, turnQ_is, iaQ_is] at *
  exact okR_eq0 h q
theorem okR_iff {r : Res α} : okR r Q ↔ ∃ a S, r = .ok a S ∧ Q a S := by
  simp only [okR_is, okO_is, forQ_is, lcQ_is, turnQ_is, iaQ_is] at *
  exact okR_iff0
theorem okR_bind {r : Res β} {f : β → Store → Res α} : okR (r.bind f) Q = okR r (fun b S => okR (f b S) Q) := by
  simp only [okR_is, okO_is, forQ_is, lcQ_is, turnQ_is, iaQ_is] at *
  exact okR_bind0
theorem okO_bindS {r : Res β} {ρ : Env} {f : β → Store → Out} : okO (bindS r ρ f) E = okR r (fun b S => okO (f b S) E) := by
  simp only [okR_is, okO_is, forQ_is, lcQ_is, turnQ_is, iaQ_is] at *
  exact okO_bindS0
theorem okO_mono {o : Out} {E' : Ed} (h : okO o E) (h1 : ∀ ρ S, E.nx ρ S → E'.nx ρ S) (h2 : ∀ v S, E.rt v S → E'.rt v S) (h3 : ∀ ρ S, E.bk ρ S → E'.bk ρ S) (h4 : ∀ ρ S, E.ct ρ S → E'.ct ρ S) : okO o E' := by
  simp only [okR_is, okO_is, forQ_is, lcQ_is, turnQ_is, iaQ_is] at *
  exact okO_mono0 h h1 h2 h3 h4
end
section
variable {ρ : Env} {S : Store} {E : Ed} {Q : Vl → Store → Prop} {QB : Bool → Store → Prop} {QA : List Vl → Store → Prop}
theorem w_dSeq {a b : DS} : okO (dSeq a b ρ S) E = okO (a ρ S) { E with nx := fun ρ' S' => okO (b ρ' S') E } := by
  simp only [okR_is, okO_is, forQ_is, lcQ_is, turnQ_is, iaQ_is] at *
  exact w_dSeq0
theorem w_dSet {i : Nat} {m : DE} : okO (dSet i m ρ S) E = okR (m ρ S) (fun v S1 => E.nx (ρ.set i (some v)) S1) := by
  simp only [okR_is, okO_is, forQ_is, lcQ_is, turnQ_is, iaQ_is] at *
  exact w_dSet0
theorem w_dExpr {m : DE} : okO (dExpr m ρ S) E = okR (m ρ S) (fun _ S1 => E.nx ρ S1) := by
  simp only [okR_is, okO_is, forQ_is, lcQ_is, turnQ_is, iaQ_is] at *
  exact w_dExpr0
theorem w_dRet {m : DE} : okO (dRet m ρ S) E = okR (m ρ S) (fun v S1 => E.rt v S1) := by
  simp only [okR_is, okO_is, forQ_is, lcQ_is, turnQ_is, iaQ_is] at *
  exact w_dRet0
theorem w_dRetN : okO (dRetN ρ S) E = E.rt (.d .non) S := by
  simp only [okR_is, okO_is, forQ_is, lcQ_is, turnQ_is, iaQ_is] at *
  exact w_dRetN0
theorem w_dNext : okO (dNext ρ S) E = E.nx ρ S := by
  simp only [okR_is, okO_is, forQ_is, lcQ_is, turnQ_is, iaQ_is] at *
  exact w_dNext0
theorem w_dBrk : okO (dBrk ρ S) E = E.bk ρ S := by
  simp only [okR_is, okO_is, forQ_is, lcQ_is, turnQ_is, iaQ_is] at *
  exact w_dBrk0
theorem w_dCnt : okO (dCnt ρ S) E = E.ct ρ S := by
  simp only [okR_is, okO_is, forQ_is, lcQ_is, turnQ_is, iaQ_is] at *
  exact w_dCnt0
theorem w_dIf {t : DT} {a b : DS} : okO (dIf t a b ρ S) E = okR (t ρ S) (fun c S1 => if c = true then okO (a ρ S1) E else okO (b ρ S1) E) := by
  simp only [okR_is, okO_is, forQ_is, lcQ_is, turnQ_is, iaQ_is] at *
  exact w_dIf0
theorem w_dAsg {T : Tg} {m : DE} : okO (dAsg T m ρ S) E = okR (m ρ S) (fun v S1 => ∃ ρ', T.run v ρ = some ρ' ∧ E.nx ρ' S1) := by
  simp only [okR_is, okO_is, forQ_is, lcQ_is, turnQ_is, iaQ_is] at *
  exact w_dAsg0
theorem w_dPar {is : List Nat} {m : DA} : okO (dPar is m ρ S) E = okR (m ρ S) (fun vs S1 => ∃ ρ', setsL is vs ρ = some ρ' ∧ E.nx ρ' S1) := by
  simp only [okR_is, okO_is, forQ_is, lcQ_is, turnQ_is, iaQ_is] at *
  exact w_dPar0
theorem w_dParN {is : List Nat} {m : DA} : okO (dParN is m ρ S) E = okR (m ρ S) (fun vs S1 => vs.length ≤ PySem.sizeLine ∧ ∃ ρ', setsL is vs ρ = some ρ' ∧ E.nx ρ' S1) := by
  simp only [okR_is, okO_is, forQ_is, lcQ_is, turnQ_is, iaQ_is] at *
  exact w_dParN0
theorem w_dPut {mv mo mi : DE} : okO (dPut mv mo mi ρ S) E = okR (mv ρ S) (fun v S1 => okR (mo ρ S1) fun o S2 => okR (mi ρ S2) fun i S3 => ∃ S', putC o i v S3 = some S' ∧ E.nx ρ S') := by
  simp only [okR_is, okO_is, forQ_is, lcQ_is, turnQ_is, iaQ_is] at *
  exact w_dPut0
theorem w_dC {x : D} : okR (dC x ρ S) Q = Q (.d x) S := by
  simp only [okR_is, okO_is, forQ_is, lcQ_is, turnQ_is, iaQ_is] at *
  exact w_dC0
theorem w_dVar {i : Nat} : okR (dVar i ρ S) Q = ∃ v, ρ[i]? = some (some v) ∧ Q v S := by
  simp only [okR_is, okO_is, forQ_is, lcQ_is, turnQ_is, iaQ_is] at *
  exact w_dVar0
theorem w_dBin {g : Vl → Vl → Store → Res Vl} {a b : DE} : okR (dBin g a b ρ S) Q = okR (a ρ S) (fun v S1 => okR (b ρ S1) fun u S2 => okR (g v u S2) Q) := by
  simp only [okR_is, okO_is, forQ_is, lcQ_is, turnQ_is, iaQ_is] at *
  exact w_dBin0
theorem w_dUn {g : Vl → Store → Res Vl} {a : DE} : okR (dUn g a ρ S) Q = okR (a ρ S) (fun v S1 => okR (g v S1) Q) := by
  simp only [okR_is, okO_is, forQ_is, lcQ_is, turnQ_is, iaQ_is] at *
  exact w_dUn0
theorem w_dCB {g : List Vl → Store → Res Vl} {m : DA} : okR (dCB g m ρ S) Q = okR (m ρ S) (fun vs S1 => okR (g vs S1) Q) := by
  simp only [okR_is, okO_is, forQ_is, lcQ_is, turnQ_is, iaQ_is] at *
  exact w_dCB0
theorem w_dNil : okR (dNil ρ S) QA = QA [] S := by
  simp only [okR_is, okO_is, forQ_is, lcQ_is, turnQ_is, iaQ_is] at *
  exact w_dNil0
theorem w_dCons {m : DE} {k : DA} : okR (dCons m k ρ S) QA = okR (m ρ S) (fun v S1 => okR (k ρ S1) fun vs S2 => QA (v :: vs) S2) := by
  simp only [okR_is, okO_is, forQ_is, lcQ_is, turnQ_is, iaQ_is] at *
  exact w_dCons0
theorem w_dCall {mf : DF} {dvs : List Vl} {ma : DA} : okR (dCall mf dvs ma ρ S) Q = okR (ma ρ S) (fun us S1 => okR (mf (us ++ dvs) S1) Q) := by
  simp only [okR_is, okO_is, forQ_is, lcQ_is, turnQ_is, iaQ_is] at *
  exact w_dCall0
theorem w_dBT {m : DE} : okR (dBT m ρ S) QB = okR (m ρ S) (fun v S1 => ∃ b, v = .d (.bl b) ∧ QB b S1) := by
  simp only [okR_is, okO_is, forQ_is, lcQ_is, turnQ_is, iaQ_is] at *
  exact w_dBT0
theorem w_dTr {m : DE} : okR (dTr m ρ S) QB = okR (m ρ S) (fun v S1 => okR (truthyV v S1) QB) := by
  simp only [okR_is, okO_is, forQ_is, lcQ_is, turnQ_is, iaQ_is] at *
  exact w_dTr0
theorem w_dNot {m : DT} : okR (dNot m ρ S) QB = okR (m ρ S) (fun b S1 => QB (!b) S1) := by
  simp only [okR_is, okO_is, forQ_is, lcQ_is, turnQ_is, iaQ_is] at *
  exact w_dNot0
theorem w_dAnd {m k : DT} : okR (dAnd m k ρ S) QB = okR (m ρ S) (fun b S1 => if b = true then okR (k ρ S1) QB else QB false S1) := by
  simp only [okR_is, okO_is, forQ_is, lcQ_is, turnQ_is, iaQ_is] at *
  exact w_dAnd0
theorem w_dOr {m k : DT} : okR (dOr m k ρ S) QB = okR (m ρ S) (fun b S1 => if b = true then QB true S1 else okR (k ρ S1) QB) := by
  simp only [okR_is, okO_is, forQ_is, lcQ_is, turnQ_is, iaQ_is] at *
  exact w_dOr0
theorem w_dAndV {m k : DE} : okR (dAndV m k ρ S) Q = okR (m ρ S) (fun v S1 => ∃ b, v = .d (.bl b) ∧ (if b = true then okR (k ρ S1) Q else Q (.d (.bl false)) S1)) := by
  simp only [okR_is, okO_is, forQ_is, lcQ_is, turnQ_is, iaQ_is] at *
  exact w_dAndV0
theorem w_dOrV {m k : DE} : okR (dOrV m k ρ S) Q = okR (m ρ S) (fun v S1 => ∃ b, v = .d (.bl b) ∧ (if b = true then Q (.d (.bl true)) S1 else okR (k ρ S1) Q)) := by
  simp only [okR_is, okO_is, forQ_is, lcQ_is, turnQ_is, iaQ_is] at *
  exact w_dOrV0
theorem w_dNotV {m : DE} : okR (dNotV m ρ S) Q = okR (m ρ S) (fun v S1 => ∃ b, v = .d (.bl b) ∧ Q (.d (.bl (!b))) S1) := by
  simp only [okR_is, okO_is, forQ_is, lcQ_is, turnQ_is, iaQ_is] at *
  exact w_dNotV0
theorem w_dIfE {t : DT} {m k : DE} : okR (dIfE t m k ρ S) Q = okR (t ρ S) (fun b S1 => if b = true then okR (m ρ S1) Q else okR (k ρ S1) Q) := by
  simp only [okR_is, okO_is, forQ_is, lcQ_is, turnQ_is, iaQ_is] at *
  exact w_dIfE0
theorem w_dTup {m : DA} : okR (dTup m ρ S) Q = okR (m ρ S) (fun vs S1 => ∃ ds, allD vs = some ds ∧ ds.length ≤ PySem.sizeLine ∧ Q (.d (.tup ds)) S1) := by
  simp only [okR_is, okO_is, forQ_is, lcQ_is, turnQ_is, iaQ_is] at *
  exact w_dTup0
theorem w_dLst {m : DA} : okR (dLst m ρ S) Q = okR (m ρ S) (fun vs S1 => ∃ ds, allD vs = some ds ∧ ds.length ≤ PySem.sizeLine ∧ Q (.l S1.length) (S1 ++ [.lst ds])) := by
  simp only [okR_is, okO_is, forQ_is, lcQ_is, turnQ_is, iaQ_is] at *
  exact w_dLst0
theorem w_dIx {a b : DE} : okR (dIx a b ρ S) Q = okR (a ρ S) (fun v S1 => okR (b ρ S1) fun u S2 => okR (ixD v u S2) Q) := by
  simp only [okR_is, okO_is, forQ_is, lcQ_is, turnQ_is, iaQ_is] at *
  exact w_dIx0
theorem w_dIsi {T : String} {m : DE} : okR (dIsi T m ρ S) Q = okR (m ρ S) (fun v S1 => ∃ a, tyN v S1 = some a ∧ Q (.d (.bl (isiB a T))) S1) := by
  simp only [okR_is, okO_is, forQ_is, lcQ_is, turnQ_is, iaQ_is] at *
  exact w_dIsi0
theorem w_dIn {a b : DE} : okR (dIn a b ρ S) Q = okR (a ρ S) (fun v S1 => okR (b ρ S1) fun u S2 => ∃ c, inD v u S2 = some c ∧ Q (.d (.bl c)) S2) := by
  simp only [okR_is, okO_is, forQ_is, lcQ_is, turnQ_is, iaQ_is] at *
  exact w_dIn0
theorem w_dNotIn {a b : DE} : okR (dNotIn a b ρ S) Q = okR (a ρ S) (fun v S1 => okR (b ρ S1) fun u S2 => ∃ c, inD v u S2 = some c ∧ Q (.d (.bl (!c))) S2) := by
  simp only [okR_is, okO_is, forQ_is, lcQ_is, turnQ_is, iaQ_is] at *
  exact w_dNotIn0
theorem w_dONone {QO : Option Int → Store → Prop} : okR (dONone ρ S) QO = QO none S := by
  simp only [okR_is, okO_is, forQ_is, lcQ_is, turnQ_is, iaQ_is] at *
  exact w_dONone0
theorem w_dOSome {m : DE} {QO : Option Int → Store → Prop} : okR (dOSome m ρ S) QO = okR (m ρ S) (fun v S1 => ∃ i, v = .d (.int i) ∧ QO (some i) S1) := by
  simp only [okR_is, okO_is, forQ_is, lcQ_is, turnQ_is, iaQ_is] at *
  exact w_dOSome0
theorem w_dSl {m : DE} {l h : DO} : okR (dSl m l h ρ S) Q = okR (m ρ S) (fun v S1 => okR (l ρ S1) fun i S2 => okR (h ρ S2) fun j S3 => okR (gSl v i j S3) Q) := by
  simp only [okR_is, okO_is, forQ_is, lcQ_is, turnQ_is, iaQ_is] at *
  exact w_dSl0
theorem w_dBM {ty : Vl → Store → Bool} {g : GM} {mo : DE} {ma : DA} : okR (dBM ty g mo ma ρ S) Q = okR (mo ρ S) (fun v S1 => ty v S1 = true ∧ okR (ma ρ S1) fun us S2 => okR (g v us S2) Q) := by
  simp only [okR_is, okO_is, forQ_is, lcQ_is, turnQ_is, iaQ_is] at *
  exact w_dBM0
theorem w_dChain {g g' : Vl → Vl → Store → Res Vl} {a b c : DE} : okR (dChain g g' a b c ρ S) Q = okR (a ρ S) (fun v S1 => okR (b ρ S1) fun u S2 => okR (g v u S2) fun k S3 => ∃ t, k = .d (.bl t) ∧ if t = true then okR (c ρ S3) (fun z S4 => okR (g' u z S4) Q) else Q (.d (.bl false)) S3) := by
  simp only [okR_is, okO_is, forQ_is, lcQ_is, turnQ_is, iaQ_is] at *
  exact w_dChain0
theorem w_dListRg1 {m : DE} : okR (dListRg1 m ρ S) Q = okR (m ρ S) (fun v S1 => ∃ j, v = .d (.int j) ∧ rgOk 0 j = true ∧ Q (.l S1.length) (S1 ++ [.lst (rngD 0 j)])) := by
  simp only [okR_is, okO_is, forQ_is, lcQ_is, turnQ_is, iaQ_is] at *
  exact w_dListRg10
theorem w_runFn {np N : Nat} {ms : DS} {us : List Vl} (h : us.length = np) (q : okO (ms (us.map some ++ List.replicate (N - us.length) none) S) { nx := fun _ S' => Q (.d .non) (S'.take S.length), rt := fun v S' => okR (gcR S.length (.ok v S')) Q }) : okR (runFn np N ms us S) Q := by
  simp only [okR_is, okO_is, forQ_is, lcQ_is, turnQ_is, iaQ_is] at *
  exact w_runFn0 h q
theorem gc_d {n : Nat} {x : D} : okR (gcR n (.ok (.d x) S)) Q = Q (.d x) (S.take n) := by
  simp only [okR_is, okO_is, forQ_is, lcQ_is, turnQ_is, iaQ_is] at *
  exact gc_d0
theorem gc_old {n k : Nat} (h : k < n) : okR (gcR n (.ok (.l k) S)) Q = Q (.l k) (S.take n) := by
  simp only [okR_is, okO_is, forQ_is, lcQ_is, turnQ_is, iaQ_is] at *
  exact gc_old0 h
theorem gc_new {n k : Nat} {c : Cell} (h : n ≤ k) (hc : S[k]? = some c) : okR (gcR n (.ok (.l k) S)) Q = Q (.l n) (S.take n ++ [c]) := by
  simp only [okR_is, okO_is, forQ_is, lcQ_is, turnQ_is, iaQ_is] at *
  exact gc_new0 h hc
end
section
variable {ρ : Env} {S : Store} {E : Ed} {Q : Vl → Store → Prop} {QI : IV → Store → Prop} {T : Tg} {mb : DS} {mt : DT} {me : DE}
theorem w_dIR1 {m : DA} : okR (dIR1 m ρ S) QI = okR (m ρ S) (fun vs S1 => ∃ j, vs = [.d (.int j)] ∧ okB j = true ∧ QI (.seq (rngV 0 j.toNat)) S1) := by
  simp only [okR_is, okO_is, forQ_is, lcQ_is, turnQ_is, iaQ_is] at *
  exact w_dIR10
theorem w_dIR2 {m : DA} : okR (dIR2 m ρ S) QI = okR (m ρ S) (fun vs S1 => ∃ i j, vs = [.d (.int i), .d (.int j)] ∧ (okB i && okB j) = true ∧ QI (.seq (rngV i (j - i).toNat)) S1) := by
  simp only [okR_is, okO_is, forQ_is, lcQ_is, turnQ_is, iaQ_is] at *
  exact w_dIR20
theorem w_dIA {m : DE} : okR (dIA m ρ S) QI = okR (m ρ S) (iaQ QI) := by
  simp only [okR_is, okO_is, forQ_is, lcQ_is, turnQ_is, iaQ_is] at *
  exact w_dIA0
theorem w_dFor {mi : DI} : okO (dFor mi T mb ρ S) E = okR (mi ρ S) (forQ T mb ρ E) := by
  simp only [okR_is, okO_is, forQ_is, lcQ_is, turnQ_is, iaQ_is] at *
  exact w_dFor0
theorem loopS_inv {xs : List Vl} (I : Nat → Env → Store → Prop) (h0 : I 0 ρ S)
    (hs : ∀ i x ρ S, xs[i]? = some x → I i ρ S → ∃ ρ1, T.run x ρ = some ρ1 ∧ okO (mb ρ1 S) { nx := I (i + 1), ct := I (i + 1), bk := E.nx, rt := E.rt })
    (he : ∀ ρ S, I xs.length ρ S → E.nx ρ S) : okO (loopS T mb xs ρ S) E := by
  simp only [okR_is, okO_is, forQ_is, lcQ_is, turnQ_is, iaQ_is] at *
  exact loopS_inv0 I h0 hs he
theorem loopL_inv {n : Nat} {ds xs : List D} (I : Nat → Env → Store → Prop) (h0 : I 0 ρ S) (hl : ∀ i ρ S, I i ρ S → lstAt S n = some ds)
    (hs : ∀ i x ρ S, xs[i]? = some x → I i ρ S → ∃ ρ1, T.run (.d x) ρ = some ρ1 ∧ okO (mb ρ1 S) { nx := I (i + 1), ct := I (i + 1), bk := E.nx, rt := E.rt })
    (he : ∀ ρ S, I xs.length ρ S → E.nx ρ S) : okO (loopL T mb n ds xs ρ S) E := by
  simp only [okR_is, okO_is, forQ_is, lcQ_is, turnQ_is, iaQ_is] at *
  exact loopL_inv0 I h0 hl hs he
theorem turn_q {n : Nat} {x : Vl} {ρ1 : Env} {k : Store → Res Vl} (h : T.run x ρ = some ρ1) (q : turnQ mt me n ρ1 S fun S' => okR (k S') Q) : okR (turnC T mt me n ρ x S k) Q := by
  simp only [okR_is, okO_is, forQ_is, lcQ_is, turnQ_is, iaQ_is] at *
  exact turn_q0 h q
theorem loopC_inv {n : Nat} {xs : List Vl} (I : Nat → Store → Prop) (h0 : I 0 S)
    (hs : ∀ i x S, xs[i]? = some x → I i S → ∃ ρ1, T.run x ρ = some ρ1 ∧ turnQ mt me n ρ1 S (I (i + 1)))
    (he : ∀ S, I xs.length S → Q (.l n) S) : okR (loopC T mt me n ρ xs S) Q := by
  simp only [okR_is, okO_is, forQ_is, lcQ_is, turnQ_is, iaQ_is] at *
  exact loopC_inv0 I h0 hs he
theorem loopCL_inv {n m : Nat} {ds xs : List D} (I : Nat → Store → Prop) (h0 : I 0 S) (hl : ∀ i S, I i S → lstAt S m = some ds)
    (hs : ∀ i x S, xs[i]? = some x → I i S → ∃ ρ1, T.run (.d x) ρ = some ρ1 ∧ turnQ mt me n ρ1 S (I (i + 1)))
    (he : ∀ S, I xs.length S → Q (.l n) S) : okR (loopCL T mt me n ρ m ds xs S) Q := by
  simp only [okR_is, okO_is, forQ_is, lcQ_is, turnQ_is, iaQ_is] at *
  exact loopCL_inv0 I h0 hl hs he
theorem w_dLc {mi : DI} {vs : List Nat} : okR (dLc mi T mt me vs ρ S) Q = okR (mi ρ S) (lcQ T mt me vs ρ Q) := by
  simp only [okR_is, okO_is, forQ_is, lcQ_is, turnQ_is, iaQ_is] at *
  exact w_dLc0
theorem w_dYes {QB : Bool → Store → Prop} : okR (dYes ρ S) QB = QB true S := by
  simp only [okR_is, okO_is, forQ_is, lcQ_is, turnQ_is, iaQ_is] at *
  exact w_dYes0
end
theorem seq_cut {ρ : Env} {S : Store} {E : Ed} {a b : DS} (P : Env → Store → Prop) (h1 : okO (a ρ S) { E with nx := P }) (h2 : ∀ ρ' S', P ρ' S' → okO (b ρ' S') E) : okO (dSeq a b ρ S) E := by
  simp only [okR_is, okO_is, forQ_is, lcQ_is, turnQ_is, iaQ_is] at *
  exact seq_cut0 P h1 h2
section
variable {S : Store} {Q : Vl → Store → Prop} {QB : Bool → Store → Prop} {i j : Int} {s t : List Nat} {n m : Nat} {ds es : List D}
theorem propIf {P : Prop} [Decidable P] {r : Res Vl} : okR (if P then r else .bad) Q = (P ∧ okR r Q) := by
  simp only [okR_is, okO_is, forQ_is, lcQ_is, turnQ_is, iaQ_is] at *
  exact propIf0
theorem e_lt : okR (gLt (.d (.int i)) (.d (.int j)) S) Q = Q (.d (.bl (decide (i < j)))) S := by
  simp only [okR_is, okO_is, forQ_is, lcQ_is, turnQ_is, iaQ_is] at *
  exact e_lt0
theorem e_le : okR (gLe (.d (.int i)) (.d (.int j)) S) Q = Q (.d (.bl (decide (i ≤ j)))) S := by
  simp only [okR_is, okO_is, forQ_is, lcQ_is, turnQ_is, iaQ_is] at *
  exact e_le0
theorem e_gt : okR (gGt (.d (.int i)) (.d (.int j)) S) Q = Q (.d (.bl (decide (j < i)))) S := by
  simp only [okR_is, okO_is, forQ_is, lcQ_is, turnQ_is, iaQ_is] at *
  exact e_gt0
theorem e_ge : okR (gGe (.d (.int i)) (.d (.int j)) S) Q = Q (.d (.bl (decide (j ≤ i)))) S := by
  simp only [okR_is, okO_is, forQ_is, lcQ_is, turnQ_is, iaQ_is] at *
  exact e_ge0
theorem e_sub : okR (DL.gSub (.d (.int i)) (.d (.int j)) S) Q = Q (.d (.int (i - j))) S := by
  simp only [okR_is, okO_is, forQ_is, lcQ_is, turnQ_is, iaQ_is] at *
  exact e_sub0
theorem e_add : okR (gAdd (.d (.int i)) (.d (.int j)) S) Q = Q (.d (.int (i + j))) S := by
  simp only [okR_is, okO_is, forQ_is, lcQ_is, turnQ_is, iaQ_is] at *
  exact e_add0
theorem e_addS : okR (gAdd (.d (.str s)) (.d (.str t)) S) Q = (s.length + t.length ≤ sizeLine ∧ Q (.d (.str (s ++ t))) S) := by
  simp only [okR_is, okO_is, forQ_is, lcQ_is, turnQ_is, iaQ_is] at *
  exact e_addS0
theorem e_addT : okR (gAdd (.d (.tup ds)) (.d (.tup es)) S) Q = (ds.length + es.length ≤ sizeLine ∧ Q (.d (.tup (ds ++ es))) S) := by
  simp only [okR_is, okO_is, forQ_is, lcQ_is, turnQ_is, iaQ_is] at *
  exact e_addT0
theorem e_addL (h1 : S[n]? = some (.lst ds)) (h2 : S[m]? = some (.lst es)) : okR (gAdd (.l n) (.l m) S) Q = (ds.length + es.length ≤ sizeLine ∧ Q (.l S.length) (S ++ [.lst (ds ++ es)])) := by
  simp only [okR_is, okO_is, forQ_is, lcQ_is, turnQ_is, iaQ_is] at *
  exact e_addL0 h1 h2
theorem e_mul : okR (gMul (.d (.int i)) (.d (.int j)) S) Q = (mulC i j = true ∧ Q (.d (.int (i * j))) S) := by
  simp only [okR_is, okO_is, forQ_is, lcQ_is, turnQ_is, iaQ_is] at *
  exact e_mul0
theorem e_mulS : okR (gMul (.d (.str s)) (.d (.int j)) S) Q = ((decide (s.length * j.toNat ≤ sizeLine) && decide (-(2 ^ 62) ≤ j) && decide (j < 2 ^ 62)) = true ∧ Q (.d (.str (rep s j.toNat))) S) := by
  simp only [okR_is, okO_is, forQ_is, lcQ_is, turnQ_is, iaQ_is] at *
  exact e_mulS0
theorem e_mod : okR (gMod (.d (.int i)) (.d (.int j)) S) Q = (0 < j ∧ Q (.d (.int (i % j))) S) := by
  simp only [okR_is, okO_is, forQ_is, lcQ_is, turnQ_is, iaQ_is] at *
  exact e_mod0
theorem e_fdiv : okR (gFdiv (.d (.int i)) (.d (.int j)) S) Q = (divC i j = true ∧ Q (.d (.int (i / j))) S) := by
  simp only [okR_is, okO_is, forQ_is, lcQ_is, turnQ_is, iaQ_is] at *
  exact e_fdiv0
theorem e_pow : okR (gPow (.d (.int i)) (.d (.int j)) S) Q = (powC i j = true ∧ Q (.d (.int (i ^ j.toNat))) S) := by
  simp only [okR_is, okO_is, forQ_is, lcQ_is, turnQ_is, iaQ_is] at *
  exact e_pow0
theorem e_neg : okR (gNeg (.d (.int i)) S) Q = Q (.d (.int (-i))) S := by
  simp only [okR_is, okO_is, forQ_is, lcQ_is, turnQ_is, iaQ_is] at *
  exact e_neg0
theorem e_eqI : okR (gEq (.d (.int i)) (.d (.int j)) S) Q = Q (.d (.bl (i == j))) S := by
  simp only [okR_is, okO_is, forQ_is, lcQ_is, turnQ_is, iaQ_is] at *
  exact e_eqI0
theorem e_neI : okR (gNe (.d (.int i)) (.d (.int j)) S) Q = Q (.d (.bl (!(i == j)))) S := by
  simp only [okR_is, okO_is, forQ_is, lcQ_is, turnQ_is, iaQ_is] at *
  exact e_neI0
theorem e_eqS : okR (gEq (.d (.str s)) (.d (.str t)) S) Q = Q (.d (.bl (s == t))) S := by
  simp only [okR_is, okO_is, forQ_is, lcQ_is, turnQ_is, iaQ_is] at *
  exact e_eqS0
theorem e_neS : okR (gNe (.d (.str s)) (.d (.str t)) S) Q = Q (.d (.bl (!(s == t)))) S := by
  simp only [okR_is, okO_is, forQ_is, lcQ_is, turnQ_is, iaQ_is] at *
  exact e_neS0
theorem e_eqD {a b : D} : okR (gEq (.d a) (.d b) S) Q = ((scalD a b || (okD 60 a && okD 60 b)) = true ∧ Q (.d (.bl (eqD a b))) S) := by
  simp only [okR_is, okO_is, forQ_is, lcQ_is, turnQ_is, iaQ_is] at *
  exact e_eqD0
theorem e_neD {a b : D} : okR (gNe (.d a) (.d b) S) Q = ((scalD a b || (okD 60 a && okD 60 b)) = true ∧ Q (.d (.bl (!(eqD a b)))) S) := by
  simp only [okR_is, okO_is, forQ_is, lcQ_is, turnQ_is, iaQ_is] at *
  exact e_neD0
theorem e_is {v u : Vl} : okR (gIs v u S) Q = ∃ b, isV v u = some b ∧ Q (.d (.bl b)) S := by
  simp only [okR_is, okO_is, forQ_is, lcQ_is, turnQ_is, iaQ_is] at *
  exact e_is0
theorem e_isNot {v u : Vl} : okR (gIsNot v u S) Q = ∃ b, isV v u = some b ∧ Q (.d (.bl (!b))) S := by
  simp only [okR_is, okO_is, forQ_is, lcQ_is, turnQ_is, iaQ_is] at *
  exact e_isNot0
theorem e_lenS : okR (gLen [.d (.str s)] S) Q = (s.length ≤ sizeLine ∧ Q (.d (.int s.length)) S) := by
  simp only [okR_is, okO_is, forQ_is, lcQ_is, turnQ_is, iaQ_is] at *
  exact e_lenS0
theorem e_lenT : okR (gLen [.d (.tup ds)] S) Q = Q (.d (.int ds.length)) S := by
  simp only [okR_is, okO_is, forQ_is, lcQ_is, turnQ_is, iaQ_is] at *
  exact e_lenT0
theorem e_lenL : okR (gLen [.l n] S) Q = ∃ ds, lstAt S n = some ds ∧ Q (.d (.int ds.length)) S := by
  simp only [okR_is, okO_is, forQ_is, lcQ_is, turnQ_is, iaQ_is] at *
  exact e_lenL0
theorem e_int : okR (gInt1 [.d (.int i)] S) Q = Q (.d (.int i)) S := by
  simp only [okR_is, okO_is, forQ_is, lcQ_is, turnQ_is, iaQ_is] at *
  exact e_int0
theorem e_abs : okR (gAbs [.d (.int i)] S) Q = Q (.d (.int (if i < 0 then -i else i))) S := by
  simp only [okR_is, okO_is, forQ_is, lcQ_is, turnQ_is, iaQ_is] at *
  exact e_abs0
theorem e_max : okR (gMax [.d (.int i), .d (.int j)] S) Q = Q (.d (.int (if j > i then j else i))) S := by
  simp only [okR_is, okO_is, forQ_is, lcQ_is, turnQ_is, iaQ_is] at *
  exact e_max0
theorem e_min : okR (gMin [.d (.int i), .d (.int j)] S) Q = Q (.d (.int (if j < i then j else i))) S := by
  simp only [okR_is, okO_is, forQ_is, lcQ_is, turnQ_is, iaQ_is] at *
  exact e_min0
theorem e_tupT : okR (gTuple [.d (.tup ds)] S) Q = Q (.d (.tup ds)) S := by
  simp only [okR_is, okO_is, forQ_is, lcQ_is, turnQ_is, iaQ_is] at *
  exact e_tupT0
theorem e_tupL : okR (gTuple [.l n] S) Q = ∃ ds, lstAt S n = some ds ∧ Q (.d (.tup ds)) S := by
  simp only [okR_is, okO_is, forQ_is, lcQ_is, turnQ_is, iaQ_is] at *
  exact e_tupL0
theorem e_listS : okR (gList [.d (.str s)] S) Q = (s.length ≤ sizeLine ∧ Q (.l S.length) (S ++ [.lst (chars s)])) := by
  simp only [okR_is, okO_is, forQ_is, lcQ_is, turnQ_is, iaQ_is] at *
  exact e_listS0
theorem e_listT : okR (gList [.d (.tup ds)] S) Q = Q (.l S.length) (S ++ [.lst ds]) := by
  simp only [okR_is, okO_is, forQ_is, lcQ_is, turnQ_is, iaQ_is] at *
  exact e_listT0
theorem e_listL : okR (gList [.l n] S) Q = ∃ ds, lstAt S n = some ds ∧ Q (.l S.length) (S ++ [.lst ds]) := by
  simp only [okR_is, okO_is, forQ_is, lcQ_is, turnQ_is, iaQ_is] at *
  exact e_listL0
theorem e_all : okR (gAll [.l n] S) Q = ∃ ds bs, lstAt S n = some ds ∧ bools ds = some bs ∧ Q (.d (.bl (bs.all id))) S := by
  simp only [okR_is, okO_is, forQ_is, lcQ_is, turnQ_is, iaQ_is] at *
  exact e_all0
theorem e_any : okR (gAny [.l n] S) Q = ∃ ds bs, lstAt S n = some ds ∧ bools ds = some bs ∧ Q (.d (.bl (bs.any id))) S := by
  simp only [okR_is, okO_is, forQ_is, lcQ_is, turnQ_is, iaQ_is] at *
  exact e_any0
theorem e_str : okR (gStr [.d (.int i)] S) Q = (i.natAbs.log2 < 1920 ∧ Q (.d (.str (strI i))) S) := by
  simp only [okR_is, okO_is, forQ_is, lcQ_is, turnQ_is, iaQ_is] at *
  exact e_str0
theorem e_ixT : okR (ixD (.d (.tup ds)) (.d (.int i)) S) Q = ∃ d, atI ds i = some d ∧ Q (.d d) S := by
  simp only [okR_is, okO_is, forQ_is, lcQ_is, turnQ_is, iaQ_is] at *
  exact e_ixT0
theorem e_ixS : okR (ixD (.d (.str s)) (.d (.int i)) S) Q = (s.length ≤ sizeLine ∧ ∃ c, atI s i = some c ∧ Q (.d (.str [c])) S) := by
  simp only [okR_is, okO_is, forQ_is, lcQ_is, turnQ_is, iaQ_is] at *
  exact e_ixS0
theorem e_ixL (h : lstAt S n = some ds) : okR (ixD (.l n) (.d (.int i)) S) Q = ∃ d, atI ds i = some d ∧ Q (.d d) S := by
  simp only [okR_is, okO_is, forQ_is, lcQ_is, turnQ_is, iaQ_is] at *
  exact e_ixL0 h
theorem e_slT {lo hi : Option Int} : okR (gSl (.d (.tup ds)) lo hi S) Q = Q (.d (.tup (cutL ds lo hi))) S := by
  simp only [okR_is, okO_is, forQ_is, lcQ_is, turnQ_is, iaQ_is] at *
  exact e_slT0
theorem e_slS {lo hi : Option Int} : okR (gSl (.d (.str s)) lo hi S) Q = (s.length ≤ sizeLine ∧ Q (.d (.str (cutL s lo hi))) S) := by
  simp only [okR_is, okO_is, forQ_is, lcQ_is, turnQ_is, iaQ_is] at *
  exact e_slS0
theorem e_slL {lo hi : Option Int} : okR (gSl (.l n) lo hi S) Q = ∃ ds, lstAt S n = some ds ∧ Q (.l S.length) (S ++ [.lst (cutL ds lo hi)]) := by
  simp only [okR_is, okO_is, forQ_is, lcQ_is, turnQ_is, iaQ_is] at *
  exact e_slL0
theorem e_append {x : D} (h : S[n]? = some (.lst ds)) : okR (gAppend (.l n) [.d x] S) Q = (ds.length < sizeLine ∧ Q (.d .non) (S.set n (.lst (ds ++ [x])))) := by
  simp only [okR_is, okO_is, forQ_is, lcQ_is, turnQ_is, iaQ_is] at *
  exact e_append0 h
theorem e_pop (h : S[n]? = some (.lst ds)) : okR (gPop (.l n) [] S) Q = ∃ x, ds[ds.length - 1]? = some x ∧ Q (.d x) (S.set n (.lst ds.dropLast)) := by
  simp only [okR_is, okO_is, forQ_is, lcQ_is, turnQ_is, iaQ_is] at *
  exact e_pop0 h
theorem e_popAt {k : Nat} {x : D} (h : S[n]? = some (.lst ds)) (hx : ds[k]? = some x) (hk : k < 2 ^ 62) (q : Q (.d x) (S.set n (.lst (ds.eraseIdx k)))) : okR (gPopAt (.l n) [.d (.int k)] S) Q := by
  simp only [okR_is, okO_is, forQ_is, lcQ_is, turnQ_is, iaQ_is] at *
  exact e_popAt0 h hx hk q
theorem e_join (h : lstAt S n = some ds) : okR (gJoin (.d (.str s)) [.l n] S) Q = ∃ ss, strsD ds = some ss ∧ (ss.map (·.length)).sum + ss.length * s.length ≤ 16777216 ∧ Q (.d (.str (joinL s ss))) S := by
  simp only [okR_is, okO_is, forQ_is, lcQ_is, turnQ_is, iaQ_is] at *
  exact e_join0 h
theorem e_index {c : Nat} : okR (gIndex (.d (.str s)) [.d (.str [c])] S) Q = ∃ j, s.idxOf? c = some j ∧ Q (.d (.int (j : Nat))) S := by
  simp only [okR_is, okO_is, forQ_is, lcQ_is, turnQ_is, iaQ_is] at *
  exact e_index0
theorem e_revL : okR (gRev (.l n) S) Q = ∃ ds, lstAt S n = some ds ∧ Q (.l S.length) (S ++ [.lst ds.reverse]) := by
  simp only [okR_is, okO_is, forQ_is, lcQ_is, turnQ_is, iaQ_is] at *
  exact e_revL0
theorem e_revS : okR (gRev (.d (.str s)) S) Q = (s.length ≤ 16777216 ∧ Q (.d (.str s.reverse)) S) := by
  simp only [okR_is, okO_is, forQ_is, lcQ_is, turnQ_is, iaQ_is] at *
  exact e_revS0
theorem e_trB {b : Bool} : okR (truthyV (.d (.bl b)) S) QB = QB b S := by
  simp only [okR_is, okO_is, forQ_is, lcQ_is, turnQ_is, iaQ_is] at *
  exact e_trB0
end
end DL
end

section
set_option linter.all false
set_option autoImplicit false
set_option maxHeartbeats 1000001
namespace L71
/-! ### the plain law: texts cut, read apart -/
def cutS (cs : List Nat) (s : List (List Nat) × List Nat) (c : Nat) : List (List Nat) × List Nat := if c ∈ cs then (s.1 ++ [s.2 ++ [c]], []) else (s.1, s.2 ++ [c])
def cutR (cs t : List Nat) : List (List Nat) × List Nat := t.foldl (cutS cs) ([], [])
def cutF (cs t : List Nat) : List (List Nat) := (cutR cs t).1 ++ [(cutR cs t).2]
theorem cutR_snoc (cs t : List Nat) (c : Nat) : cutR cs (t ++ [c]) = cutS cs (cutR cs t) c := by unfold cutR; rw [List.foldl_append]; rfl
/-- the pieces between the places -/
def segs (t : List Nat) : List Nat → List (List Nat)
  | a :: b :: r => (t.drop a).take (b - a) :: segs t (b :: r)
  | _ => []
theorem segs_snoc (t : List Nat) (a b : Nat) : ∀ l : List Nat, segs t (l ++ [a, b]) = segs t (l ++ [a]) ++ [(t.drop a).take (b - a)]
  | [] => rfl
  | [x] => rfl
  | x :: y :: l => by
    have ih := segs_snoc t a b (y :: l)
    show (t.drop x).take (y - x) :: segs t ((y :: l) ++ [a, b]) = (t.drop x).take (y - x) :: segs t ((y :: l) ++ [a]) ++ _
    rw [ih]
    rfl
theorem segs_len (t : List Nat) : ∀ l : List Nat, (segs t l).length = l.length - 1
  | [] => rfl
  | [x] => rfl
  | x :: y :: l => by
    have ih := segs_len t (y :: l)
    show (segs t (y :: l)).length + 1 = _
    rw [ih]
    simp
theorem segs_at (t : List Nat) : ∀ (l : List Nat) (k a b : Nat), l[k]? = some a → l[k + 1]? = some b → (segs t l)[k]? = some ((t.drop a).take (b - a))
  | [], k, a, b, h, _ => by simp at h
  | [x], k, a, b, _, h => by simp at h
  | x :: y :: l, 0, a, b, h1, h2 => by
    simp at h1 h2
    subst h1 h2
    rfl
  | x :: y :: l, k + 1, a, b, h1, h2 => segs_at t (y :: l) k a b (by simpa using h1) (by simpa using h2)
def hits (cs t : List Nat) (i : Nat) : List Nat := ((List.range i).filter fun k => decide ((t.getD k 0) ∈ cs)).map (· + 1)
theorem hits_succ (cs t : List Nat) (i : Nat) : hits cs t (i + 1) = hits cs t i ++ (if (t.getD i 0) ∈ cs then [i + 1] else []) := by
  unfold hits
  rw [List.range_succ, List.filter_append, List.map_append]
  congr 1
  by_cases h : (t.getD i 0) ∈ cs
  · rw [if_pos h, List.filter_cons_of_pos (by simpa using h)]; rfl
  · rw [if_neg h, List.filter_cons_of_neg (by simpa using h)]; rfl
theorem cut_inv (cs t : List Nat) : ∀ i, i ≤ t.length → ∃ l b, [0] ++ hits cs t i = l ++ [b] ∧ b ≤ i ∧ (cutR cs (t.take i)).1 = segs t ([0] ++ hits cs t i) ∧ (cutR cs (t.take i)).2 = (t.drop b).take (i - b)
  | 0, _ => ⟨[], 0, rfl, Nat.le_refl _, rfl, by simp [cutR]⟩
  | i + 1, h => by
    obtain ⟨l, b, h1, h2, h3, h4⟩ := cut_inv cs t i (by omega)
    have hi : i < t.length := by omega
    have e : t.take (i + 1) = t.take i ++ [t[i]] := by rw [List.take_succ, List.getElem?_eq_getElem hi]; rfl
    have eg : t.getD i 0 = t[i] := by simp [List.getD, hi]
    have es : (t.drop b).take (i - b) ++ [t[i]] = (t.drop b).take (i + 1 - b) := by
      rw [show i + 1 - b = (i - b) + 1 by omega, List.take_succ]
      congr 1
      rw [List.getElem?_drop, show b + (i - b) = i by omega, List.getElem?_eq_getElem hi]
      rfl
    rw [e, cutR_snoc, hits_succ, eg]
    unfold cutS
    by_cases hc : t[i] ∈ cs
    · rw [if_pos hc, if_pos hc]
      refine ⟨l ++ [b], i + 1, by rw [← List.append_assoc, h1], Nat.le_refl _, ?_, by simp⟩
      show (cutR cs (t.take i)).1 ++ [(cutR cs (t.take i)).2 ++ [t[i]]] = _
      rw [h3, h4, es, ← List.append_assoc, h1, List.append_assoc]
      exact (segs_snoc t b (i + 1) l).symm
    · rw [if_neg hc, if_neg hc, List.append_nil]
      refine ⟨l, b, h1, by omega, h3, ?_⟩
      show (cutR cs (t.take i)).2 ++ [t[i]] = _
      rw [h4, es]
/-- the pieces by places are those of the cut -/
theorem cut_segs (cs t : List Nat) : segs t ([0] ++ hits cs t t.length ++ [t.length]) = cutF cs t := by
  obtain ⟨l, b, h1, h2, h3, h4⟩ := cut_inv cs t t.length (Nat.le_refl _)
  rw [List.take_length] at h3 h4
  unfold cutF
  rw [h3, h4, h1, List.append_assoc]
  exact segs_snoc t b t.length l
theorem cutR_flat (cs : List Nat) : ∀ t : List Nat, (cutR cs t).1.flatten ++ (cutR cs t).2 = t := by
  intro t
  have key : ∀ n, n ≤ t.length → (cutR cs (t.take n)).1.flatten ++ (cutR cs (t.take n)).2 = t.take n := by
    intro n
    induction n with
    | zero => intro _; simp [cutR]
    | succ i ih =>
      intro h
      have ih := ih (by omega)
      have hi : i < t.length := by omega
      have e : t.take (i + 1) = t.take i ++ [t[i]] := by rw [List.take_succ, List.getElem?_eq_getElem hi]; rfl
      rw [e, cutR_snoc]
      unfold cutS
      by_cases hc : t[i] ∈ cs
      · rw [if_pos hc]
        show ((cutR cs (t.take i)).1 ++ [(cutR cs (t.take i)).2 ++ [t[i]]]).flatten ++ [] = _
        rw [List.flatten_append, List.append_nil]
        show (cutR cs (t.take i)).1.flatten ++ (((cutR cs (t.take i)).2 ++ [t[i]]) ++ []) = _
        rw [List.append_nil, ← List.append_assoc, ih]
      · rw [if_neg hc]
        show (cutR cs (t.take i)).1.flatten ++ ((cutR cs (t.take i)).2 ++ [t[i]]) = _
        rw [← List.append_assoc, ih]
  have := key t.length (Nat.le_refl _)
  rwa [List.take_length] at this
theorem cutF_flat (cs t : List Nat) : (cutF cs t).flatten = t := by
  unfold cutF
  rw [List.flatten_append]
  show _ ++ ((cutR cs t).2 ++ []) = t
  rw [List.append_nil, cutR_flat]
theorem cutR_len (cs : List Nat) : ∀ t : List Nat, (cutR cs t).1.length ≤ t.length := by
  intro t
  have key : ∀ n, n ≤ t.length → (cutR cs (t.take n)).1.length ≤ n := by
    intro n
    induction n with
    | zero => intro _; simp [cutR]
    | succ i ih =>
      intro h
      have ih := ih (by omega)
      have hi : i < t.length := by omega
      have e : t.take (i + 1) = t.take i ++ [t[i]] := by rw [List.take_succ, List.getElem?_eq_getElem hi]; rfl
      rw [e, cutR_snoc]
      unfold cutS
      by_cases hc : t[i] ∈ cs
      · rw [if_pos hc]
        show ((cutR cs (t.take i)).1 ++ [_]).length ≤ _
        rw [List.length_append, List.length_singleton]
        omega
      · rw [if_neg hc]
        show (cutR cs (t.take i)).1.length ≤ _
        omega
  have := key t.length (Nat.le_refl _)
  rwa [List.take_length] at this
theorem cutR_len2 (cs t : List Nat) : (cutR cs t).2.length ≤ t.length := by
  have := congrArg List.length (cutR_flat cs t)
  rw [List.length_append] at this
  omega
theorem sum_take_le : ∀ (l : List (List Nat)) (k : Nat), (l.take k).flatten.length ≤ l.flatten.length
  | [], k => by simp
  | a :: l, 0 => by simp
  | a :: l, k + 1 => by
    have := sum_take_le l k
    show (a ++ (l.take k).flatten).length ≤ (a ++ l.flatten).length
    rw [List.length_append, List.length_append]
    omega
theorem mem_flat {p : List Nat} {l : List (List Nat)} (h : p ∈ l) {c : Nat} (hc : c ∈ p) : c ∈ l.flatten := List.mem_flatten.mpr ⟨p, h, hc⟩
/-! reading -/
section
variable {M : Type} (stp : Nat → Nat → Nat) (mrk : Nat → Nat → M) (cs : List Nat) (gs : Nat → Nat)
/-- one sign -/
def one (s : Nat × List M) (c : Nat) : Nat × List M := (stp s.1 c, s.2 ++ [mrk s.1 c])
def walkF (s : Nat × List M) (t : List Nat) : Nat × List M := t.foldl (one stp mrk) s
def apS (s : Nat × List M) (c : Nat) : Nat × List M := if c ∈ cs then (gs c, (one stp mrk s c).2) else one stp mrk s c
def apF (s : Nat × List M) (t : List Nat) : Nat × List M := t.foldl (apS stp mrk cs gs) s
def guess (p : List Nat) (st : Nat) : Nat := match p.getLast? with
  | some c => if c ∈ cs then gs c else st
  | none => st
def pcS (s : Nat × List M) (p : List Nat) : Nat × List M := (guess cs gs p (walkF stp mrk s p).1, (walkF stp mrk s p).2)
def pcF (s : Nat × List M) (ps : List (List Nat)) : Nat × List M := ps.foldl (pcS stp mrk cs gs) s
theorem read_inv (s : Nat × List M) : ∀ t : List Nat, apF stp mrk cs gs s t = walkF stp mrk (pcF stp mrk cs gs s (cutR cs t).1) (cutR cs t).2 ∧ ∀ c ∈ (cutR cs t).2, c ∉ cs := by
  intro t
  have key : ∀ n, n ≤ t.length → apF stp mrk cs gs s (t.take n) = walkF stp mrk (pcF stp mrk cs gs s (cutR cs (t.take n)).1) (cutR cs (t.take n)).2 ∧ ∀ c ∈ (cutR cs (t.take n)).2, c ∉ cs := by
    intro n
    induction n with
    | zero => intro _; exact ⟨rfl, by simp [cutR]⟩
    | succ i ih =>
      intro h
      obtain ⟨h1, h2⟩ := ih (by omega)
      have hi : i < t.length := by omega
      have e : t.take (i + 1) = t.take i ++ [t[i]] := by rw [List.take_succ, List.getElem?_eq_getElem hi]; rfl
      rw [e, cutR_snoc]
      have ea : apF stp mrk cs gs s (t.take i ++ [t[i]]) = apS stp mrk cs gs (apF stp mrk cs gs s (t.take i)) t[i] := by unfold apF; rw [List.foldl_append]; rfl
      have ew : ∀ (u : Nat × List M) (p : List Nat) (c : Nat), walkF stp mrk u (p ++ [c]) = one stp mrk (walkF stp mrk u p) c := fun u p c => by unfold walkF; rw [List.foldl_append]; rfl
      rw [ea, h1]
      unfold cutS
      by_cases hc : t[i] ∈ cs
      · rw [if_pos hc]
        refine ⟨?_, by simp⟩
        have ep : pcF stp mrk cs gs s ((cutR cs (t.take i)).1 ++ [(cutR cs (t.take i)).2 ++ [t[i]]]) = pcS stp mrk cs gs (pcF stp mrk cs gs s (cutR cs (t.take i)).1) ((cutR cs (t.take i)).2 ++ [t[i]]) := by unfold pcF; rw [List.foldl_append]; rfl
        show _ = walkF stp mrk (pcF stp mrk cs gs s ((cutR cs (t.take i)).1 ++ [(cutR cs (t.take i)).2 ++ [t[i]]])) []
        rw [ep]
        unfold apS
        rw [if_pos hc]
        show _ = pcS stp mrk cs gs _ _
        unfold pcS guess
        rw [List.getLast?_append, ew]
        simp [hc]
      · rw [if_neg hc]
        refine ⟨?_, ?_⟩
        · show _ = walkF stp mrk _ ((cutR cs (t.take i)).2 ++ [t[i]])
          rw [ew]
          unfold apS
          rw [if_neg hc]
        · intro c hc'
          rcases List.mem_append.mp hc' with hc' | hc'
          · exact h2 c hc'
          · rw [List.mem_singleton.mp hc']; exact hc
  have := key t.length (Nat.le_refl _)
  rwa [List.take_length] at this
/-- read apart, piece by piece, is read with the guesses -/
theorem read_apart_is (s : Nat × List M) (t : List Nat) : pcF stp mrk cs gs s (cutF cs t) = apF stp mrk cs gs s t := by
  obtain ⟨h1, h2⟩ := read_inv stp mrk cs gs s t
  rw [h1]
  unfold cutF pcF
  rw [List.foldl_append]
  show pcS stp mrk cs gs _ _ = _
  unfold pcS guess
  cases e : (cutR cs t).2.getLast? with
  | none => rfl
  | some c =>
    have := h2 c (List.mem_of_getLast? e)
    simp only [if_neg this]
end
end L71
end

section
set_option Elab.async false
set_option linter.all false
set_option maxRecDepth 100000
set_option autoImplicit false
set_option maxHeartbeats 1000001
namespace L71
open PySem L2 TL DL

abbrev PW : Program := PySem.Challenge.pw_staleornot_k71_cut_texts_read_apart
def topS (i : Nat) : Stmt := PySem.Challenge.pw_staleornot_k71_cut_texts_read_apart.main.body.getD i (.Pass ⟨0, 0, 0, 0⟩)
abbrev S_is_over : Stmt := topS 12
abbrev S_in_order : Stmt := topS 13
abbrev S_is_lot : Stmt := topS 14
abbrev S_check_text : Stmt := topS 15
abbrev S_walk : Stmt := topS 17
abbrev S_is_int : Stmt := topS 19
abbrev S_is_from : Stmt := topS 20
abbrev S_is_row : Stmt := topS 21
abbrev S_are_numbers : Stmt := topS 22
abbrev S_is_cut : Stmt := topS 24
abbrev S_cut_text : Stmt := topS 25
abbrev S_read_apart : Stmt := topS 26
abbrev S_law_cell : Stmt := topS 28
abbrev S_law_pool : Stmt := topS 29
abbrev S_law_take : Stmt := topS 30
abbrev S_law_signs : Stmt := topS 31
abbrev S_law_lot : Stmt := topS 32
abbrev S_law_text : Stmt := topS 33
abbrev S_law_row : Stmt := topS 34
abbrev S_law_mark : Stmt := topS 35
abbrev S_law_machine : Stmt := topS 36
abbrev S_law_same : Stmt := topS 37
abbrev S_law_offered : Stmt := topS 38
abbrev S_law_spare : Stmt := topS 39
abbrev S_law_no_rules : Stmt := topS 40
abbrev S_law_pieces : Stmt := topS 41
abbrev S_law_apart : Stmt := topS 42
abbrev S_law_read : Stmt := topS 43
abbrev S_law_any_text : Stmt := topS 44
abbrev S_law_error : Stmt := topS 45
abbrev S_law_refused : Stmt := topS 46
abbrev S_law : Stmt := topS 47
structure Ad where
  c_BadLine : Addr
  c_NoDeed : Addr
  c_NoTrial : Addr
  c_Overlap : Addr
  c_StaleError : Addr
  c_TooLong : Addr
  c_TooMany : Addr
  c_Unfit : Addr
  c_Unknown : Addr
  i_TooLong : Addr
  q_TooLong : Addr
  o_TooLong : Addr
  e_TooLong : FuncData
  i_Unfit : Addr
  q_Unfit : Addr
  o_Unfit : Addr
  e_Unfit : FuncData
  a_is_over : Addr
  d_is_over : FuncData
  a_in_order : Addr
  d_in_order : FuncData
  a_is_lot : Addr
  d_is_lot : FuncData
  a_check_text : Addr
  d_check_text : FuncData
  a_walk : Addr
  d_walk : FuncData
  a_is_int : Addr
  d_is_int : FuncData
  a_is_from : Addr
  d_is_from : FuncData
  a_is_row : Addr
  d_is_row : FuncData
  a_are_numbers : Addr
  d_are_numbers : FuncData
  a_is_cut : Addr
  d_is_cut : FuncData
  a_cut_text : Addr
  d_cut_text : FuncData
  a_read_apart : Addr
  d_read_apart : FuncData
  a_law_cell : Addr
  d_law_cell : FuncData
  a_law_pool : Addr
  d_law_pool : FuncData
  a_law_take : Addr
  d_law_take : FuncData
  a_law_signs : Addr
  d_law_signs : FuncData
  a_law_lot : Addr
  d_law_lot : FuncData
  a_law_text : Addr
  d_law_text : FuncData
  a_law_row : Addr
  d_law_row : FuncData
  a_law_mark : Addr
  d_law_mark : FuncData
  a_law_machine : Addr
  d_law_machine : FuncData
  a_law_same : Addr
  d_law_same : FuncData
  a_law_offered : Addr
  d_law_offered : FuncData
  a_law_spare : Addr
  d_law_spare : FuncData
  a_law_no_rules : Addr
  d_law_no_rules : FuncData
  a_law_pieces : Addr
  d_law_pieces : FuncData
  a_law_apart : Addr
  d_law_apart : FuncData
  a_law_read : Addr
  d_law_read : FuncData
  a_law_any_text : Addr
  d_law_any_text : FuncData
  a_law_error : Addr
  d_law_error : FuncData
  a_law_refused : Addr
  d_law_refused : FuncData
  a_law : Addr
  d_law : FuncData
/-- what the top has written -/
structure Gs (K : PySem.W.Frag) (mg : Str → Option Value) (ad : Ad) : Prop where
  m_ValueError : mg "ValueError" = none
  m_abs : mg "abs" = none
  m_all : mg "all" = none
  m_bool : mg "bool" = none
  m_int : mg "int" = none
  m_isinstance : mg "isinstance" = none
  m_len : mg "len" = none
  m_list : mg "list" = none
  m_min : mg "min" = none
  m_range : mg "range" = none
  m_str : mg "str" = none
  m_tuple : mg "tuple" = none
  N_BadLine : mg "BadLine" = some (.ref ad.c_BadLine)
  N_NoDeed : mg "NoDeed" = some (.ref ad.c_NoDeed)
  N_NoTrial : mg "NoTrial" = some (.ref ad.c_NoTrial)
  N_Overlap : mg "Overlap" = some (.ref ad.c_Overlap)
  N_StaleError : mg "StaleError" = some (.ref ad.c_StaleError)
  N_TooLong : mg "TooLong" = some (.ref ad.c_TooLong)
  N_TooMany : mg "TooMany" = some (.ref ad.c_TooMany)
  N_Unfit : mg "Unfit" = some (.ref ad.c_Unfit)
  N_Unknown : mg "Unknown" = some (.ref ad.c_Unknown)
  I_TooLong : DX.Ini PW K mg ad.c_TooLong ad.i_TooLong ad.q_TooLong ad.o_TooLong (DX.clsInit (topS 4)) "TooLong.__init__" "limit" "limit" ad.e_TooLong
  iC_TooLong : PySem.W.findIn K (.ref ad.c_TooLong) "__init__" = some (some (.ref ad.i_TooLong))
  tI_TooLong : PySem.W.typeIn K (.ref ad.i_TooLong) = some (.type "function")
  bI_TooLong : Binds K ad.e_TooLong ["self", "limit"] []
  ex_TooLong : ExcC K ad.c_TooLong
  xf_TooLong : XfC K ad.c_TooLong
  em_TooLong : PySem.W.exmOne K (.ref ad.c_TooLong) (.ref ad.c_StaleError) = some true
  I_Unfit : DX.Ini PW K mg ad.c_Unfit ad.i_Unfit ad.q_Unfit ad.o_Unfit (DX.clsInit (topS 5)) "Unfit.__init__" "part" "part" ad.e_Unfit
  iC_Unfit : PySem.W.findIn K (.ref ad.c_Unfit) "__init__" = some (some (.ref ad.i_Unfit))
  tI_Unfit : PySem.W.typeIn K (.ref ad.i_Unfit) = some (.type "function")
  bI_Unfit : Binds K ad.e_Unfit ["self", "part"] []
  ex_Unfit : ExcC K ad.c_Unfit
  xf_Unfit : XfC K ad.c_Unfit
  em_Unfit : PySem.W.exmOne K (.ref ad.c_Unfit) (.ref ad.c_StaleError) = some true
  kt_TooLong_ValueError : PySem.W.kitOne K (.ref ad.c_TooLong) (.type "ValueError") = some true
  kt_TooLong_BadLine : PySem.W.kitOne K (.ref ad.c_TooLong) (.ref ad.c_BadLine) = some false
  kt_TooLong_NoDeed : PySem.W.kitOne K (.ref ad.c_TooLong) (.ref ad.c_NoDeed) = some false
  kt_TooLong_NoTrial : PySem.W.kitOne K (.ref ad.c_TooLong) (.ref ad.c_NoTrial) = some false
  kt_TooLong_Overlap : PySem.W.kitOne K (.ref ad.c_TooLong) (.ref ad.c_Overlap) = some false
  kt_TooLong_TooMany : PySem.W.kitOne K (.ref ad.c_TooLong) (.ref ad.c_TooMany) = some false
  kt_TooLong_Unknown : PySem.W.kitOne K (.ref ad.c_TooLong) (.ref ad.c_Unknown) = some false
  kt_TooLong_Unfit : PySem.W.kitOne K (.ref ad.c_TooLong) (.ref ad.c_Unfit) = some false
  kt_TooLong_TooLong : PySem.W.kitOne K (.ref ad.c_TooLong) (.ref ad.c_TooLong) = some true
  kt_Unfit_ValueError : PySem.W.kitOne K (.ref ad.c_Unfit) (.type "ValueError") = some true
  kt_Unfit_BadLine : PySem.W.kitOne K (.ref ad.c_Unfit) (.ref ad.c_BadLine) = some false
  kt_Unfit_NoDeed : PySem.W.kitOne K (.ref ad.c_Unfit) (.ref ad.c_NoDeed) = some false
  kt_Unfit_NoTrial : PySem.W.kitOne K (.ref ad.c_Unfit) (.ref ad.c_NoTrial) = some false
  kt_Unfit_Overlap : PySem.W.kitOne K (.ref ad.c_Unfit) (.ref ad.c_Overlap) = some false
  kt_Unfit_TooMany : PySem.W.kitOne K (.ref ad.c_Unfit) (.ref ad.c_TooMany) = some false
  kt_Unfit_Unknown : PySem.W.kitOne K (.ref ad.c_Unfit) (.ref ad.c_Unknown) = some false
  kt_Unfit_Unfit : PySem.W.kitOne K (.ref ad.c_Unfit) (.ref ad.c_Unfit) = some true
  kt_Unfit_TooLong : PySem.W.kitOne K (.ref ad.c_Unfit) (.ref ad.c_TooLong) = some false
  g_is_over : mg "is_over" = some (.ref ad.a_is_over)
  F_is_over : L2.Fun K "is_over" "is_over" S_is_over ad.a_is_over ad.d_is_over
  b_is_over : Binds K ad.d_is_over ["signs", "text"] []
  g_in_order : mg "in_order" = some (.ref ad.a_in_order)
  F_in_order : L2.Fun K "in_order" "in_order" S_in_order ad.a_in_order ad.d_in_order
  b_in_order : Binds K ad.d_in_order ["signs", "chars"] []
  g_is_lot : mg "is_lot" = some (.ref ad.a_is_lot)
  F_is_lot : L2.Fun K "is_lot" "is_lot" S_is_lot ad.a_is_lot ad.d_is_lot
  b_is_lot : Binds K ad.d_is_lot ["signs", "thing"] []
  g_check_text : mg "check_text" = some (.ref ad.a_check_text)
  F_check_text : L2.FunD K "check_text" "check_text" (defArgs S_check_text) (defBody S_check_text) (defScope S_check_text) [.int 400] [] ad.a_check_text ad.d_check_text
  b_check_text : ∃ ds, Vals [.int 400] ds ∧ Binds K ad.d_check_text ["signs", "text", "limit"] ds
  g_walk : mg "walk" = some (.ref ad.a_walk)
  F_walk : L2.Fun K "walk" "walk" S_walk ad.a_walk ad.d_walk
  b_walk : Binds K ad.d_walk ["machine", "standing", "text"] []
  g_is_int : mg "is_int" = some (.ref ad.a_is_int)
  F_is_int : L2.Fun K "is_int" "is_int" S_is_int ad.a_is_int ad.d_is_int
  b_is_int : Binds K ad.d_is_int ["thing"] []
  g_is_from : mg "is_from" = some (.ref ad.a_is_from)
  F_is_from : L2.Fun K "is_from" "is_from" S_is_from ad.a_is_from ad.d_is_from
  b_is_from : Binds K ad.d_is_from ["thing", "least", "most"] []
  g_is_row : mg "is_row" = some (.ref ad.a_is_row)
  F_is_row : L2.Fun K "is_row" "is_row" S_is_row ad.a_is_row ad.d_is_row
  b_is_row : Binds K ad.d_is_row ["thing", "many"] []
  g_are_numbers : mg "are_numbers" = some (.ref ad.a_are_numbers)
  F_are_numbers : L2.Fun K "are_numbers" "are_numbers" S_are_numbers ad.a_are_numbers ad.d_are_numbers
  b_are_numbers : Binds K ad.d_are_numbers ["thing", "below"] []
  g_is_cut : mg "is_cut" = some (.ref ad.a_is_cut)
  F_is_cut : L2.Fun K "is_cut" "is_cut" S_is_cut ad.a_is_cut ad.d_is_cut
  b_is_cut : Binds K ad.d_is_cut ["machine", "thing"] []
  g_cut_text : mg "cut_text" = some (.ref ad.a_cut_text)
  F_cut_text : L2.Fun K "cut_text" "cut_text" S_cut_text ad.a_cut_text ad.d_cut_text
  b_cut_text : Binds K ad.d_cut_text ["rule", "text"] []
  g_read_apart : mg "read_apart" = some (.ref ad.a_read_apart)
  F_read_apart : L2.Fun K "read_apart" "read_apart" S_read_apart ad.a_read_apart ad.d_read_apart
  b_read_apart : Binds K ad.d_read_apart ["machine", "rule", "text"] []
  g_law_cell : mg "_law_cell" = some (.ref ad.a_law_cell)
  F_law_cell : L2.Fun K "_law_cell" "_law_cell" S_law_cell ad.a_law_cell ad.d_law_cell
  b_law_cell : Binds K ad.d_law_cell ["script", "k"] []
  g_law_pool : mg "_law_pool" = some (.ref ad.a_law_pool)
  F_law_pool : L2.Fun K "_law_pool" "_law_pool" S_law_pool ad.a_law_pool ad.d_law_pool
  b_law_pool : Binds K ad.d_law_pool ["script", "k", "many"] []
  g_law_take : mg "_law_take" = some (.ref ad.a_law_take)
  F_law_take : L2.Fun K "_law_take" "_law_take" S_law_take ad.a_law_take ad.d_law_take
  b_law_take : Binds K ad.d_law_take ["pool", "many"] []
  g_law_signs : mg "_law_signs" = some (.ref ad.a_law_signs)
  F_law_signs : L2.Fun K "_law_signs" "_law_signs" S_law_signs ad.a_law_signs ad.d_law_signs
  b_law_signs : Binds K ad.d_law_signs ["pool", "many"] []
  g_law_lot : mg "_law_lot" = some (.ref ad.a_law_lot)
  F_law_lot : L2.Fun K "_law_lot" "_law_lot" S_law_lot ad.a_law_lot ad.d_law_lot
  b_law_lot : Binds K ad.d_law_lot ["pool", "signs"] []
  g_law_text : mg "_law_text" = some (.ref ad.a_law_text)
  F_law_text : L2.Fun K "_law_text" "_law_text" S_law_text ad.a_law_text ad.d_law_text
  b_law_text : Binds K ad.d_law_text ["pool", "signs", "most"] []
  g_law_row : mg "_law_row" = some (.ref ad.a_law_row)
  F_law_row : L2.Fun K "_law_row" "_law_row" S_law_row ad.a_law_row ad.d_law_row
  b_law_row : Binds K ad.d_law_row ["pool", "way", "standing", "many", "wide"] []
  g_law_mark : mg "_law_mark" = some (.ref ad.a_law_mark)
  F_law_mark : L2.Fun K "_law_mark" "_law_mark" S_law_mark ad.a_law_mark ad.d_law_mark
  b_law_mark : Binds K ad.d_law_mark ["pool", "kinds"] []
  g_law_machine : mg "_law_machine" = some (.ref ad.a_law_machine)
  F_law_machine : L2.Fun K "_law_machine" "_law_machine" S_law_machine ad.a_law_machine ad.d_law_machine
  b_law_machine : Binds K ad.d_law_machine ["pool", "signs", "many"] []
  g_law_same : mg "_law_same" = some (.ref ad.a_law_same)
  F_law_same : L2.Fun K "_law_same" "_law_same" S_law_same ad.a_law_same ad.d_law_same
  b_law_same : Binds K ad.d_law_same ["told", "due"] []
  g_law_offered : mg "_law_offered" = some (.ref ad.a_law_offered)
  F_law_offered : L2.Fun K "_law_offered" "_law_offered" S_law_offered ad.a_law_offered ad.d_law_offered
  b_law_offered : Binds K ad.d_law_offered ["script", "pool"] []
  g_law_spare : mg "_law_spare" = some (.ref ad.a_law_spare)
  F_law_spare : L2.Fun K "_law_spare" "_law_spare" S_law_spare ad.a_law_spare ad.d_law_spare
  b_law_spare : Binds K ad.d_law_spare ["signs"] []
  g_law_no_rules : mg "_law_no_rules" = some (.ref ad.a_law_no_rules)
  F_law_no_rules : L2.Fun K "_law_no_rules" "_law_no_rules" S_law_no_rules ad.a_law_no_rules ad.d_law_no_rules
  b_law_no_rules : Binds K ad.d_law_no_rules ["pool", "machine", "rule"] []
  g_law_pieces : mg "_law_pieces" = some (.ref ad.a_law_pieces)
  F_law_pieces : L2.Fun K "_law_pieces" "_law_pieces" S_law_pieces ad.a_law_pieces ad.d_law_pieces
  b_law_pieces : Binds K ad.d_law_pieces ["cuts", "text"] []
  g_law_apart : mg "_law_apart" = some (.ref ad.a_law_apart)
  F_law_apart : L2.Fun K "_law_apart" "_law_apart" S_law_apart ad.a_law_apart ad.d_law_apart
  b_law_apart : Binds K ad.d_law_apart ["machine", "rule", "text"] []
  g_law_read : mg "_law_read" = some (.ref ad.a_law_read)
  F_law_read : L2.Fun K "_law_read" "_law_read" S_law_read ad.a_law_read ad.d_law_read
  b_law_read : Binds K ad.d_law_read ["machine", "rule", "text"] []
  g_law_any_text : mg "_law_any_text" = some (.ref ad.a_law_any_text)
  F_law_any_text : L2.Fun K "_law_any_text" "_law_any_text" S_law_any_text ad.a_law_any_text ad.d_law_any_text
  b_law_any_text : Binds K ad.d_law_any_text ["pool", "signs"] []
  g_law_error : mg "_law_error" = some (.ref ad.a_law_error)
  F_law_error : L2.Fun K "_law_error" "_law_error" S_law_error ad.a_law_error ad.d_law_error
  b_law_error : Binds K ad.d_law_error ["machine", "rule", "text"] []
  g_law_refused : mg "_law_refused" = some (.ref ad.a_law_refused)
  F_law_refused : L2.Fun K "_law_refused" "_law_refused" S_law_refused ad.a_law_refused ad.d_law_refused
  b_law_refused : Binds K ad.d_law_refused ["pool", "machine", "rule"] []
  g_law : mg "law" = some (.ref ad.a_law)
  F_law : L2.Fun K "law" "law" S_law ad.a_law ad.d_law
  b_law : Binds K ad.d_law ["script"] []
end L71
end

section
set_option Elab.async false
set_option linter.all false
set_option maxRecDepth 100000
set_option autoImplicit false
set_option maxHeartbeats 1000001
namespace L71
open PySem L2 TL DL
variable {w : World} {K : PySem.W.Frag} {mg : Str → Option Value} {base : Heap} {ad : Ad}
theorem mk_TooLong (T : Gs K mg ad) : DX.Mk PW w K mg base "TooLong" "limit" ad.c_TooLong ad.i_TooLong ad.e_TooLong ["self", "limit"] := by
  refine ⟨T.I_TooLong.cls, T.iC_TooLong, T.tI_TooLong, ?_, T.N_TooLong, T.bI_TooLong⟩
  refine DX.init1_ok (p := "limit") (k := 0) (tm := DX.tMsg "more signs than " 1) T.I_TooLong rfl (fun A outer s H => DX.pe_msg rfl T.m_str (pv 1)) (fun a v H Q hv hq => ⟨v, rfl, hv, by decide, hq⟩) rfl rfl ?_ ?_
  · intro _ _; rfl
  · intro _; exact ⟨_, rfl⟩
theorem mk_Unfit (T : Gs K mg ad) : DX.Mk PW w K mg base "Unfit" "part" ad.c_Unfit ad.i_Unfit ad.e_Unfit ["self", "part"] := by
  refine ⟨T.I_Unfit.cls, T.iC_Unfit, T.tI_Unfit, ?_, T.N_Unfit, T.bI_Unfit⟩
  refine DX.init1_ok (p := "part") (k := 0) (tm := DX.tMsg "does not fit: " 1) T.I_Unfit rfl (fun A outer s H => DX.pe_msg rfl T.m_str (pv 1)) (fun a v H Q hv hq => ⟨v, rfl, hv, by decide, hq⟩) rfl rfl ?_ ?_
  · intro _ _; rfl
  · intro _; exact ⟨_, rfl⟩
theorem sc_is_over : FnScope ["signs", "text", "char"] ["signs", "text"] (defScope S_is_over) := ⟨rfl, rfl, rfl, by decide +kernel, rfl, by decide +kernel, by decide +kernel⟩
def t_is_over : DS := dRet (dCB gAll (dCons (dLc (dIA (dVar 1)) (.nm 2) dYes (dIn (dVar 2) (dVar 0)) ([2])) dNil))
def m_is_over : DF := runFn 2 3 t_is_over
theorem ok_is_over (T : Gs K mg ad) : FnOk PW w K mg base (L2.CX PW w) (1) ad.a_is_over ad.d_is_over ["signs", "text"] (spD K mg m_is_over) := by
  refine ok_fn T.F_is_over sc_is_over (by decide) fun cdv A outer s H E hr => ?_
  have hu := hr.units
  have hu1 := hu_of hr
  exact ss_one (s_ret (s_cb cd_bools (cr_all rfl) rfl T.m_all (by decide +kernel) (sa_cons (s_lc (own := [("char", 2)]) rfl sc_is_over.nd (si_any (s_var 1 (pv 1))) (blkOk_by (by kernel_rfl)) (by decide) (fun _ _ _ _ _ => sg_nm 2 sc_is_over.nd rfl (by first | exact Or.inl rfl | exact Or.inr rfl)) (fun _ _ _ _ _ => spt_nil) (fun _ _ _ _ _ => s_in hu1 (s_var 2 (pv 2)) (s_var 0 (pv 0)))) sa_nil)))
theorem sc_in_order : FnScope ["signs", "chars", "sign"] ["signs", "chars"] (defScope S_in_order) := ⟨rfl, rfl, rfl, by decide +kernel, rfl, by decide +kernel, by decide +kernel⟩
def t_in_order : DS := dRet (dBM isStr gJoin (dC (.str [])) (dCons (dLc (dIA (dVar 0)) (.nm 2) (dBT (dIn (dVar 2) (dVar 1))) (dVar 2) ([2])) dNil))
def m_in_order : DF := runFn 2 3 t_in_order
theorem ok_in_order (T : Gs K mg ad) : FnOk PW w K mg base (L2.CX PW w) (1) ad.a_in_order ad.d_in_order ["signs", "chars"] (spD K mg m_in_order) := by
  refine ok_fn T.F_in_order sc_in_order (by decide) fun cdv A outer s H E hr => ?_
  have hu := hr.units
  have hu1 := hu_of hr
  exact ss_one (s_ret (s_bm md_join td_str PySem.F.plainAttrs_str PySem.F.slot_str_join PySem.F.type_str_join mt_join (s_str [] (by decide +kernel)) (sa_cons (s_lc (own := [("sign", 2)]) rfl sc_in_order.nd (si_any (s_var 0 (pv 0))) (blkOk_by (by kernel_rfl)) (by decide) (fun _ _ _ _ _ => sg_nm 2 sc_in_order.nd rfl (by first | exact Or.inl rfl | exact Or.inr rfl)) (fun _ _ _ _ _ => spt_one (st_in hu1 (s_var 2 (pv 2)) (s_var 1 (pv 1)))) (fun _ _ _ _ _ => s_var 2 (pv 2))) sa_nil)))
theorem sc_is_lot : FnScope ["signs", "thing"] ["signs", "thing"] (defScope S_is_lot) := ⟨rfl, rfl, rfl, by decide +kernel, rfl, by decide +kernel, by decide +kernel⟩
def t_is_lot : DS := dSeq (dIf (dNot (dTr (dIsi ("str") (dVar 1)))) (dRet (dC (.bl false))) dNext) (dRet (dBin gEq (dCall m_in_order ([]) (dCons (dVar 0) (dCons (dVar 1) dNil))) (dVar 1)))
def m_is_lot : DF := runFn 2 2 t_is_lot
theorem ok_is_lot (T : Gs K mg ad) : FnOk PW w K mg base (L2.CX PW w) (2) ad.a_is_lot ad.d_is_lot ["signs", "thing"] (spD K mg m_is_lot) := by
  have c_in_order := ok_in_order (w := w) (base := base) T
  refine ok_fn T.F_is_lot sc_is_lot (by decide) fun cdv A outer s H E hr => ?_
  have hu := hr.units
  have hu1 := hu_of hr
  have r_in_order := hr.mono (show 1 ≤ 1 by first | decide | omega)
  exact ss_cons (s_if (st_not (st_truth ((fun _ => rfl)) (s_isi "str" kit_str rfl T.m_isinstance (by decide +kernel) rfl T.m_str (by decide +kernel) (s_var 1 (pv 1))))) (ss_one (s_ret s_bl)) ss_nil) (ss_one (s_ret (s_cmp ((op_eqAll hu)) od_eq ((nomark _)) (s_call c_in_order r_in_order (takes_of rfl rfl rfl rfl) rfl T.g_in_order T.F_in_order.kp T.b_in_order (sa_cons (s_var 0 (pv 0)) (sa_cons (s_var 1 (pv 1)) sa_nil))) (s_var 1 (pv 1)))))
theorem sc_check_text : FnScope ["signs", "text", "limit"] ["signs", "text", "limit"] (defScope S_check_text) := ⟨rfl, rfl, rfl, by decide +kernel, rfl, by decide +kernel, by decide +kernel⟩
def t_check_text : DS := dSeq (dIf (dOr (dNot (dTr (dIsi ("str") (dVar 1)))) (dNot (dTr (dCall m_is_over ([]) (dCons (dVar 0) (dCons (dVar 1) dNil)))))) (DX.dRaise ("Unfit") ("part") (dC (.str [116, 101, 120, 116]))) dNext) (dIf (dBT (dBin gGt (dCB gLen (dCons (dVar 1) dNil)) (dVar 2))) (DX.dRaise ("TooLong") ("limit") (dVar 2)) dNext)
def m_check_text : DF := runFn 3 3 t_check_text
theorem ok_check_text (T : Gs K mg ad) : FnOk PW w K mg base (L2.CX PW w) (3) ad.a_check_text ad.d_check_text ["signs", "text", "limit"] (spD K mg m_check_text) := by
  have c_is_over := ok_is_over (w := w) (base := base) T
  have k_TooLong := mk_TooLong (w := w) (base := base) T
  have k_Unfit := mk_Unfit (w := w) (base := base) T
  refine DX.ok_fnD T.F_check_text sc_check_text (by decide) fun cdv A outer s H E hr => ?_
  have hu := hr.units
  have hu1 := hu_of hr
  have r_is_over := hr.mono (show 1 ≤ 2 by first | decide | omega)
  have r_raise := hr.mono (show 2 ≤ 2 by decide)
  exact ss_cons (s_if (st_w (sw_or (st_not (st_truth ((fun _ => rfl)) (s_isi "str" kit_str rfl T.m_isinstance (by decide +kernel) rfl T.m_str (by decide +kernel) (s_var 1 (pv 1))))) (sw_or1 (st_not (st_truth ((fun _ => rfl)) (s_call c_is_over r_is_over (takes_of rfl rfl rfl rfl) rfl T.g_is_over T.F_is_over.kp T.b_is_over (sa_cons (s_var 0 (pv 0)) (sa_cons (s_var 1 (pv 1)) sa_nil)))))))) (ss_one (DX.s_raise k_Unfit rfl r_raise (takes_of rfl rfl rfl rfl) rfl (s_str [116, 101, 120, 116] (by decide +kernel)))) ss_nil) (ss_one (s_if (st_cmp op_gt od_gt ((nomark _)) (s_cb cd_len call_len rfl T.m_len (by decide +kernel) (sa_cons (s_var 1 (pv 1)) sa_nil)) (s_var 2 (pv 2))) (ss_one (DX.s_raise k_TooLong rfl r_raise (takes_of rfl rfl rfl rfl) rfl (s_var 2 (pv 2)))) ss_nil))
theorem sc_walk : FnScope ["machine", "standing", "text", "signs", "go", "tell", "marks", "sign", "place"] ["machine", "standing", "text"] (defScope S_walk) := ⟨rfl, rfl, rfl, by decide +kernel, rfl, by decide +kernel, by decide +kernel⟩
def t_walk : DS := dSeq (dPar ([3, 4, 5]) (dCons (dIx (dVar 0) (dC (.int 0))) (dCons (dIx (dVar 0) (dC (.int 1))) (dCons (dIx (dVar 0) (dC (.int 2))) dNil)))) (dSeq (dSet 6 (dLst dNil)) (dSeq (dFor (dIA (dVar 2)) (.nm 7) (dSeq (dSet 8 (dBM isStr gIndex (dVar 3) (dCons (dVar 7) dNil))) (dSeq (dExpr (dBM isLst gAppend (dVar 6) (dCons (dIx (dIx (dVar 5) (dVar 1)) (dVar 8)) dNil))) (dSet 1 (dIx (dIx (dVar 4) (dVar 1)) (dVar 8)))))) (dRet (dTup (dCons (dVar 1) (dCons (dCB gTuple (dCons (dVar 6) dNil)) dNil))))))
def m_walk : DF := runFn 3 9 t_walk
theorem ok_walk (T : Gs K mg ad) : FnOk PW w K mg base (L2.CX PW w) (1) ad.a_walk ad.d_walk ["machine", "standing", "text"] (spD K mg m_walk) := by
  refine ok_fn T.F_walk sc_walk (by decide) fun cdv A outer s H E hr => ?_
  have hu := hr.units
  have hu1 := hu_of hr
  exact ss_cons (s_par3 (ps_par3 (i := 3) (j := 4) (l := 5) rfl sc_walk.nd rfl rfl rfl (by decide) (by decide) (by decide) rfl rfl rfl (sa_cons (s_idx hu1 (s_var 0 (pv 0)) s_int) (sa_cons (s_idx hu1 (s_var 0 (pv 0)) s_int) (sa_cons (s_idx hu1 (s_var 0 (pv 0)) s_int) sa_nil))) rfl)) (ss_cons (s_set 6 sc_walk.nd rfl (by first | exact Or.inl rfl | exact Or.inr rfl) (s_lst sa_nil)) (ss_cons (s_for (passes_of rfl) rfl (si_any (s_var 2 (pv 2))) (sg_nm 7 sc_walk.nd rfl (by first | exact Or.inl rfl | exact Or.inr rfl)) (ss_cons (s_set 8 sc_walk.nd rfl (by first | exact Or.inl rfl | exact Or.inr rfl) (s_bm md_index td_str PySem.F.plainAttrs_str PySem.F.slot_str_index PySem.F.type_str_index mt_sindex (s_var 3 (pv 3)) (sa_cons (s_var 7 (pv 7)) sa_nil))) (ss_cons (s_expr (s_bm md_append td_lst PySem.F.plainAttrs_list PySem.F.slot_list_append PySem.F.type_list_append mt_append (s_var 6 (pv 6)) (sa_cons (s_idx hu1 (s_idx hu1 (s_var 5 (pv 5)) (s_var 1 (pv 1))) (s_var 8 (pv 8))) sa_nil))) (ss_one (s_set 1 sc_walk.nd rfl (by first | exact Or.inl rfl | exact Or.inr rfl) (s_idx hu1 (s_idx hu1 (s_var 4 (pv 4)) (s_var 1 (pv 1))) (s_var 8 (pv 8)))))))) (ss_one (s_ret (s_tup (sa_cons (s_var 1 (pv 1)) (sa_cons (s_ct cd_tuple call_tuple_of rfl T.m_tuple (by decide +kernel) (sa_cons (s_var 6 (pv 6)) sa_nil)) sa_nil)))))))
theorem sc_is_int : FnScope ["thing"] ["thing"] (defScope S_is_int) := ⟨rfl, rfl, rfl, by decide +kernel, rfl, by decide +kernel, by decide +kernel⟩
def t_is_int : DS := dRet (dAndV (dIsi ("int") (dVar 0)) (dNotV (dIsi ("bool") (dVar 0))))
def m_is_int : DF := runFn 1 1 t_is_int
theorem ok_is_int (T : Gs K mg ad) : FnOk PW w K mg base (L2.CX PW w) (1) ad.a_is_int ad.d_is_int ["thing"] (spD K mg m_is_int) := by
  refine ok_fn T.F_is_int sc_is_int (by decide) fun cdv A outer s H E hr => ?_
  have hu := hr.units
  have hu1 := hu_of hr
  exact ss_one (s_ret (s_and (s_isi "int" kit_int rfl T.m_isinstance (by decide +kernel) rfl T.m_int (by decide +kernel) (s_var 0 (pv 0))) (s_one .And (s_not (s_isi "bool" kit_bool rfl T.m_isinstance (by decide +kernel) rfl T.m_bool (by decide +kernel) (s_var 0 (pv 0)))))))
theorem sc_is_from : FnScope ["thing", "least", "most"] ["thing", "least", "most"] (defScope S_is_from) := ⟨rfl, rfl, rfl, by decide +kernel, rfl, by decide +kernel, by decide +kernel⟩
def t_is_from : DS := dRet (dAndV (dCall m_is_int ([]) (dCons (dVar 0) dNil)) (dChain gLe gLe (dVar 1) (dVar 0) (dVar 2)))
def m_is_from : DF := runFn 3 3 t_is_from
theorem ok_is_from (T : Gs K mg ad) : FnOk PW w K mg base (L2.CX PW w) (2) ad.a_is_from ad.d_is_from ["thing", "least", "most"] (spD K mg m_is_from) := by
  have c_is_int := ok_is_int (w := w) (base := base) T
  refine ok_fn T.F_is_from sc_is_from (by decide) fun cdv A outer s H E hr => ?_
  have hu := hr.units
  have hu1 := hu_of hr
  have r_is_int := hr.mono (show 1 ≤ 1 by first | decide | omega)
  exact ss_one (s_ret (s_and (s_call c_is_int r_is_int (takes_of rfl rfl rfl rfl) rfl T.g_is_int T.F_is_int.kp T.b_is_int (sa_cons (s_var 0 (pv 0)) sa_nil)) (s_one .And (s_chain op_le op_le od_le od_le (s_var 1 (pv 1)) (s_var 0 (pv 0)) (s_var 2 (pv 2))))))
theorem sc_is_row : FnScope ["thing", "many"] ["thing", "many"] (defScope S_is_row) := ⟨rfl, rfl, rfl, by decide +kernel, rfl, by decide +kernel, by decide +kernel⟩
def t_is_row : DS := dRet (dAndV (dIsi ("tuple") (dVar 0)) (dBin gEq (dCB gLen (dCons (dVar 0) dNil)) (dVar 1)))
def m_is_row : DF := runFn 2 2 t_is_row
theorem ok_is_row (T : Gs K mg ad) : FnOk PW w K mg base (L2.CX PW w) (1) ad.a_is_row ad.d_is_row ["thing", "many"] (spD K mg m_is_row) := by
  refine ok_fn T.F_is_row sc_is_row (by decide) fun cdv A outer s H E hr => ?_
  have hu := hr.units
  have hu1 := hu_of hr
  exact ss_one (s_ret (s_and (s_isi "tuple" kit_tuple rfl T.m_isinstance (by decide +kernel) rfl T.m_tuple (by decide +kernel) (s_var 0 (pv 0))) (s_one .And (s_cmp ((op_eqAll hu)) od_eq ((nomark _)) (s_cb cd_len call_len rfl T.m_len (by decide +kernel) (sa_cons (s_var 0 (pv 0)) sa_nil)) (s_var 1 (pv 1))))))
theorem sc_are_numbers : FnScope ["thing", "below", "one"] ["thing", "below"] (defScope S_are_numbers) := ⟨rfl, rfl, rfl, by decide +kernel, rfl, by decide +kernel, by decide +kernel⟩
def t_are_numbers : DS := dSeq (dIf (dNot (dTr (dIsi ("tuple") (dVar 0)))) (dRet (dC (.bl false))) dNext) (dRet (dCB gAll (dCons (dLc (dIA (dVar 0)) (.nm 2) dYes (dCall m_is_from ([]) (dCons (dVar 2) (dCons (dC (.int 0)) (dCons (dBin gSub (dVar 1) (dC (.int 1))) dNil)))) ([2])) dNil)))
def m_are_numbers : DF := runFn 2 3 t_are_numbers
theorem ok_are_numbers (T : Gs K mg ad) : FnOk PW w K mg base (L2.CX PW w) (3) ad.a_are_numbers ad.d_are_numbers ["thing", "below"] (spD K mg m_are_numbers) := by
  have c_is_from := ok_is_from (w := w) (base := base) T
  refine ok_fn T.F_are_numbers sc_are_numbers (by decide) fun cdv A outer s H E hr => ?_
  have hu := hr.units
  have hu1 := hu_of hr
  have r_is_from := hr.mono (show 2 ≤ 2 by first | decide | omega)
  exact ss_cons (s_if (st_not (st_truth ((fun _ => rfl)) (s_isi "tuple" kit_tuple rfl T.m_isinstance (by decide +kernel) rfl T.m_tuple (by decide +kernel) (s_var 0 (pv 0))))) (ss_one (s_ret s_bl)) ss_nil) (ss_one (s_ret (s_cb cd_bools (cr_all rfl) rfl T.m_all (by decide +kernel) (sa_cons (s_lc (own := [("one", 2)]) rfl sc_are_numbers.nd (si_any (s_var 0 (pv 0))) (blkOk_by (by kernel_rfl)) (by decide) (fun _ _ _ _ _ => sg_nm 2 sc_are_numbers.nd rfl (by first | exact Or.inl rfl | exact Or.inr rfl)) (fun _ _ _ _ _ => spt_nil) (fun _ _ _ _ _ => s_call c_is_from r_is_from takes0 rfl T.g_is_from T.F_is_from.kp T.b_is_from (sa_cons (s_var 2 (pv 2)) (sa_cons s_int (sa_cons (s_sub (s_var 1 (pv 1)) s_int) sa_nil))))) sa_nil))))
theorem sc_is_cut : FnScope ["machine", "thing"] ["machine", "thing"] (defScope S_is_cut) := ⟨rfl, rfl, rfl, by decide +kernel, rfl, by decide +kernel, by decide +kernel⟩
def t_is_cut : DS := dSeq (dIf (dOr (dNot (dTr (dCall m_is_row ([]) (dCons (dVar 1) (dCons (dC (.int 2)) dNil))))) (dNot (dTr (dCall m_is_lot ([]) (dCons (dIx (dVar 0) (dC (.int 0))) (dCons (dIx (dVar 1) (dC (.int 0))) dNil)))))) (dRet (dC (.bl false))) dNext) (dRet (dAndV (dCall m_are_numbers ([]) (dCons (dIx (dVar 1) (dC (.int 1))) (dCons (dCB gLen (dCons (dIx (dVar 0) (dC (.int 1))) dNil)) dNil))) (dBin gEq (dCB gLen (dCons (dIx (dVar 1) (dC (.int 1))) dNil)) (dCB gLen (dCons (dIx (dVar 1) (dC (.int 0))) dNil)))))
def m_is_cut : DF := runFn 2 2 t_is_cut
theorem ok_is_cut (T : Gs K mg ad) : FnOk PW w K mg base (L2.CX PW w) (4) ad.a_is_cut ad.d_is_cut ["machine", "thing"] (spD K mg m_is_cut) := by
  have c_are_numbers := ok_are_numbers (w := w) (base := base) T
  have c_is_lot := ok_is_lot (w := w) (base := base) T
  have c_is_row := ok_is_row (w := w) (base := base) T
  refine ok_fn T.F_is_cut sc_is_cut (by decide) fun cdv A outer s H E hr => ?_
  have hu := hr.units
  have hu1 := hu_of hr
  have r_are_numbers := hr.mono (show 3 ≤ 3 by first | decide | omega)
  have r_is_lot := hr.mono (show 2 ≤ 3 by first | decide | omega)
  have r_is_row := hr.mono (show 1 ≤ 3 by first | decide | omega)
  exact ss_cons (s_if (st_w (sw_or (st_not (st_truth ((fun _ => rfl)) (s_call c_is_row r_is_row (takes_of rfl rfl rfl rfl) rfl T.g_is_row T.F_is_row.kp T.b_is_row (sa_cons (s_var 1 (pv 1)) (sa_cons s_int sa_nil))))) (sw_or1 (st_not (st_truth ((fun _ => rfl)) (s_call c_is_lot r_is_lot (takes_of rfl rfl rfl rfl) rfl T.g_is_lot T.F_is_lot.kp T.b_is_lot (sa_cons (s_idx hu1 (s_var 0 (pv 0)) s_int) (sa_cons (s_idx hu1 (s_var 1 (pv 1)) s_int) sa_nil)))))))) (ss_one (s_ret s_bl)) ss_nil) (ss_one (s_ret (s_and (s_call c_are_numbers r_are_numbers (takes_of rfl rfl rfl rfl) rfl T.g_are_numbers T.F_are_numbers.kp T.b_are_numbers (sa_cons (s_idx hu1 (s_var 1 (pv 1)) s_int) (sa_cons (s_cb cd_len call_len rfl T.m_len (by decide +kernel) (sa_cons (s_idx hu1 (s_var 0 (pv 0)) s_int) sa_nil)) sa_nil))) (s_one .And (s_cmp ((op_eqAll hu)) od_eq ((nomark _)) (s_cb cd_len call_len rfl T.m_len (by decide +kernel) (sa_cons (s_idx hu1 (s_var 1 (pv 1)) s_int) sa_nil)) (s_cb cd_len call_len rfl T.m_len (by decide +kernel) (sa_cons (s_idx hu1 (s_var 1 (pv 1)) s_int) sa_nil)))))))
theorem sc_cut_text : FnScope ["rule", "text", "pieces", "piece", "sign"] ["rule", "text"] (defScope S_cut_text) := ⟨rfl, rfl, rfl, by decide +kernel, rfl, by decide +kernel, by decide +kernel⟩
def t_cut_text : DS := dSeq (dSet 2 (dLst dNil)) (dSeq (dSet 3 (dC (.str []))) (dSeq (dFor (dIA (dVar 1)) (.nm 4) (dSeq (dSet 3 (dBin gAdd (dVar 3) (dVar 4))) (dIf (dBT (dIn (dVar 4) (dIx (dVar 0) (dC (.int 0))))) (dSeq (dExpr (dBM isLst gAppend (dVar 2) (dCons (dVar 3) dNil))) (dSet 3 (dC (.str [])))) dNext))) (dSeq (dExpr (dBM isLst gAppend (dVar 2) (dCons (dVar 3) dNil))) (dRet (dCB gTuple (dCons (dVar 2) dNil))))))
def m_cut_text : DF := runFn 2 5 t_cut_text
theorem ok_cut_text (T : Gs K mg ad) : FnOk PW w K mg base (L2.CX PW w) (1) ad.a_cut_text ad.d_cut_text ["rule", "text"] (spD K mg m_cut_text) := by
  refine ok_fn T.F_cut_text sc_cut_text (by decide) fun cdv A outer s H E hr => ?_
  have hu := hr.units
  have hu1 := hu_of hr
  exact ss_cons (s_set 2 sc_cut_text.nd rfl (by first | exact Or.inl rfl | exact Or.inr rfl) (s_lst sa_nil)) (ss_cons (s_set 3 sc_cut_text.nd rfl (by first | exact Or.inl rfl | exact Or.inr rfl) (s_str [] (by decide +kernel))) (ss_cons (s_for (passes_of rfl) rfl (si_any (s_var 1 (pv 1))) (sg_nm 4 sc_cut_text.nd rfl (by first | exact Or.inl rfl | exact Or.inr rfl)) (ss_cons (s_set 3 sc_cut_text.nd rfl (by first | exact Or.inl rfl | exact Or.inr rfl) (s_add (s_var 3 (pv 3)) (s_var 4 (pv 4)))) (ss_one (s_if (st_in hu1 (s_var 4 (pv 4)) (s_idx hu1 (s_var 0 (pv 0)) s_int)) (ss_cons (s_expr (s_bm md_append td_lst PySem.F.plainAttrs_list PySem.F.slot_list_append PySem.F.type_list_append mt_append (s_var 2 (pv 2)) (sa_cons (s_var 3 (pv 3)) sa_nil))) (ss_one (s_set 3 sc_cut_text.nd rfl (by first | exact Or.inl rfl | exact Or.inr rfl) (s_str [] (by decide +kernel))))) ss_nil)))) (ss_cons (s_expr (s_bm md_append td_lst PySem.F.plainAttrs_list PySem.F.slot_list_append PySem.F.type_list_append mt_append (s_var 2 (pv 2)) (sa_cons (s_var 3 (pv 3)) sa_nil))) (ss_one (s_ret (s_ct cd_tuple call_tuple_of rfl T.m_tuple (by decide +kernel) (sa_cons (s_var 2 (pv 2)) sa_nil)))))))
theorem sc_read_apart : FnScope ["machine", "rule", "text", "standing", "marks", "piece", "told"] ["machine", "rule", "text"] (defScope S_read_apart) := ⟨rfl, rfl, rfl, by decide +kernel, rfl, by decide +kernel, by decide +kernel⟩
def t_read_apart : DS := dSeq (dExpr (dCall m_check_text ([.d (.int 400)]) (dCons (dIx (dVar 0) (dC (.int 0))) (dCons (dVar 2) dNil)))) (dSeq (dSet 3 (dC (.int 0))) (dSeq (dSet 4 (dTup dNil)) (dSeq (dFor (dIA (dCall m_cut_text ([]) (dCons (dVar 1) (dCons (dVar 2) dNil)))) (.nm 5) (dSeq (dAsg (.tp [3, 6]) (dCall m_walk ([]) (dCons (dVar 0) (dCons (dVar 3) (dCons (dVar 5) dNil))))) (dSeq (dSet 4 (dBin gAdd (dVar 4) (dVar 6))) (dIf (dAnd (dBT (dBin gNe (dVar 5) (dC (.str [])))) (dBT (dIn (dIx (dVar 5) (dUn gNeg (dC (.int 1)))) (dIx (dVar 1) (dC (.int 0)))))) (dSet 3 (dIx (dIx (dVar 1) (dC (.int 1))) (dBM isStr gIndex (dIx (dVar 1) (dC (.int 0))) (dCons (dIx (dVar 5) (dUn gNeg (dC (.int 1)))) dNil)))) dNext)))) (dRet (dTup (dCons (dVar 4) (dCons (dIx (dIx (dVar 0) (dC (.int 3))) (dVar 3)) dNil)))))))
def m_read_apart : DF := runFn 3 7 t_read_apart
theorem ok_read_apart (T : Gs K mg ad) : FnOk PW w K mg base (L2.CX PW w) (4) ad.a_read_apart ad.d_read_apart ["machine", "rule", "text"] (spD K mg m_read_apart) := by
  have c_cut_text := ok_cut_text (w := w) (base := base) T
  have c_walk := ok_walk (w := w) (base := base) T
  have c_check_text := ok_check_text (w := w) (base := base) T
  obtain ⟨ds_check_text, dv_check_text, db_check_text⟩ := T.b_check_text
  refine ok_fn T.F_read_apart sc_read_apart (by decide) fun cdv A outer s H E hr => ?_
  have hu := hr.units
  have hu1 := hu_of hr
  have r_cut_text := hr.mono (show 1 ≤ 3 by first | decide | omega)
  have r_walk := hr.mono (show 1 ≤ 3 by first | decide | omega)
  have r_check_text := hr.mono (show 3 ≤ 3 by first | decide | omega)
  exact ss_cons (s_expr (s_callD c_check_text r_check_text (takes_of rfl rfl rfl rfl) rfl T.g_check_text T.F_check_text.kp db_check_text dv_check_text (fun _ _ => ⟨_, _, rfl, rfl, rfl⟩) (sa_cons (s_idx hu1 (s_var 0 (pv 0)) s_int) (sa_cons (s_var 2 (pv 2)) sa_nil)))) (ss_cons (s_set 3 sc_read_apart.nd rfl (by first | exact Or.inl rfl | exact Or.inr rfl) s_int) (ss_cons (s_set 4 sc_read_apart.nd rfl (by first | exact Or.inl rfl | exact Or.inr rfl) (s_tup sa_nil)) (ss_cons (s_for (passes_of rfl) rfl (si_any (s_call c_cut_text r_cut_text (takes_of rfl rfl rfl rfl) rfl T.g_cut_text T.F_cut_text.kp T.b_cut_text (sa_cons (s_var 1 (pv 1)) (sa_cons (s_var 2 (pv 2)) sa_nil)))) (sg_nm 5 sc_read_apart.nd rfl (by first | exact Or.inl rfl | exact Or.inr rfl)) (ss_cons (s_asg (s_call c_walk r_walk (takes_of rfl rfl rfl rfl) rfl T.g_walk T.F_walk.kp T.b_walk (sa_cons (s_var 0 (pv 0)) (sa_cons (s_var 3 (pv 3)) (sa_cons (s_var 5 (pv 5)) sa_nil)))) (sg_tp rfl (pgs_cons (pg_name (i := 3) sc_read_apart.nd rfl (by first | exact Or.inl rfl | exact Or.inr rfl) (by first | exact .inl rfl | exact .inr rfl)) (pgs_cons (pg_name (i := 6) sc_read_apart.nd rfl (by first | exact Or.inl rfl | exact Or.inr rfl) (by first | exact .inl rfl | exact .inr rfl)) pgs_nil)))) (ss_cons (s_set 4 sc_read_apart.nd rfl (by first | exact Or.inl rfl | exact Or.inr rfl) (s_add (s_var 4 (pv 4)) (s_var 6 (pv 6)))) (ss_one (s_if (st_w (sw_and (st_cmp ((op_neAll hu)) od_ne ((nomark _)) (s_var 5 (pv 5)) (s_str [] (by decide +kernel))) (sw_and1 (st_in hu1 (s_idx hu1 (s_var 5 (pv 5)) (s_neg s_int)) (s_idx hu1 (s_var 1 (pv 1)) s_int))))) (ss_one (s_set 3 sc_read_apart.nd rfl (by first | exact Or.inl rfl | exact Or.inr rfl) (s_idx hu1 (s_idx hu1 (s_var 1 (pv 1)) s_int) (s_bm md_index td_str PySem.F.plainAttrs_str PySem.F.slot_str_index PySem.F.type_str_index mt_sindex (s_idx hu1 (s_var 1 (pv 1)) s_int) (sa_cons (s_idx hu1 (s_var 5 (pv 5)) (s_neg s_int)) sa_nil))))) ss_nil))))) (ss_one (s_ret (s_tup (sa_cons (s_var 4 (pv 4)) (sa_cons (s_idx hu1 (s_idx hu1 (s_var 0 (pv 0)) s_int) (s_var 3 (pv 3))) sa_nil))))))))
theorem sc_law_cell : FnScope ["script", "k"] ["script", "k"] (defScope S_law_cell) := ⟨rfl, rfl, rfl, by decide +kernel, rfl, by decide +kernel, by decide +kernel⟩
def t_law_cell : DS := dSeq (dIf (dBT (dBin gLt (dVar 1) (dCB gLen (dCons (dVar 0) dNil)))) (dRet (dCB gInt1 (dCons (dIx (dVar 0) (dVar 1)) dNil))) dNext) (dRet (dBin gAdd (dBin gAdd (dBin gMul (dC (.int 31)) (dVar 1)) (dBin gMul (dC (.int 7)) (dCB gLen (dCons (dVar 0) dNil)))) (dC (.int 3))))
def m_law_cell : DF := runFn 2 2 t_law_cell
theorem ok_law_cell (T : Gs K mg ad) : FnOk PW w K mg base (L2.CX PW w) (1) ad.a_law_cell ad.d_law_cell ["script", "k"] (spD K mg m_law_cell) := by
  refine ok_fn T.F_law_cell sc_law_cell (by decide) fun cdv A outer s H E hr => ?_
  have hu := hr.units
  have hu1 := hu_of hr
  exact ss_cons (s_if (st_cmp op_lt od_lt ((nomark _)) (s_var 1 (pv 1)) (s_cb cd_len call_len rfl T.m_len (by decide +kernel) (sa_cons (s_var 0 (pv 0)) sa_nil))) (ss_one (s_ret (s_ct cd_int call_int1 rfl T.m_int (by decide +kernel) (sa_cons (s_idx hu1 (s_var 0 (pv 0)) (s_var 1 (pv 1))) sa_nil)))) ss_nil) (ss_one (s_ret (s_add (s_add (s_mul s_int (s_var 1 (pv 1))) (s_mul s_int (s_cb cd_len call_len rfl T.m_len (by decide +kernel) (sa_cons (s_var 0 (pv 0)) sa_nil)))) s_int)))
theorem sc_law_pool : FnScope ["script", "k", "many", "number", "row", "state", "lap"] ["script", "k", "many"] (defScope S_law_pool) := ⟨rfl, rfl, rfl, by decide +kernel, rfl, by decide +kernel, by decide +kernel⟩
def t_law_pool : DS := dSeq (dSet 3 (dCB gAbs (dCons (dCall m_law_cell ([]) (dCons (dVar 0) (dCons (dVar 1) dNil))) dNil))) (dSeq (dSet 4 (dLst dNil)) (dSeq (dIf (dBT (dBin gGe (dVar 3) (dBin gPow (dC (.int 10)) (dC (.int 18))))) (dFor (dIR1 (dCons (dVar 2) dNil)) (.nm 6) (dIf (dBT (dBin gGt (dVar 3) (dC (.int 0)))) (dSeq (dExpr (dBM isLst gAppend (dVar 4) (dCons (dBin gMod (dCB gInt1 (dCons (dVar 3) dNil)) (dC (.int 997))) dNil))) (dSet 3 (dBin gFdiv (dVar 3) (dC (.int 997))))) dNext)) dNext) (dSeq (dSet 5 (dBin gMod (dCB gInt1 (dCons (dBin gAdd (dBin gAdd (dBin gAdd (dBin gMul (dVar 3) (dC (.int 69621))) (dBin gMul (dC (.int 1009)) (dVar 1))) (dBin gMul (dC (.int 17)) (dCB gLen (dCons (dVar 4) dNil)))) (dC (.int 5))) dNil)) (dC (.int 2147483647)))) (dSeq (dSet 5 (dBin gMod (dCB gInt1 (dCons (dBin gAdd (dBin gMul (dVar 5) (dC (.int 16807))) (dC (.int 13))) dNil)) (dC (.int 2147483647)))) (dSeq (dFor (dIR1 (dCons (dBin gSub (dVar 2) (dCB gLen (dCons (dVar 4) dNil))) dNil)) (.nm 6) (dSeq (dSet 5 (dBin gMod (dCB gInt1 (dCons (dBin gAdd (dBin gAdd (dBin gMul (dVar 5) (dC (.int 48271))) (dC (.int 12345))) (dBin gMul (dC (.int 7)) (dVar 6))) dNil)) (dC (.int 2147483647)))) (dExpr (dBM isLst gAppend (dVar 4) (dCons (dBin gMod (dCB gInt1 (dCons (dBin gFdiv (dVar 5) (dC (.int 11))) dNil)) (dC (.int 997))) dNil))))) (dRet (dUn gRev (dVar 4))))))))
def m_law_pool : DF := runFn 3 7 t_law_pool
theorem ok_law_pool (T : Gs K mg ad) : FnOk PW w K mg base (L2.CX PW w) (2) ad.a_law_pool ad.d_law_pool ["script", "k", "many"] (spD K mg m_law_pool) := by
  have c_law_cell := ok_law_cell (w := w) (base := base) T
  refine ok_fn T.F_law_pool sc_law_pool (by decide) fun cdv A outer s H E hr => ?_
  have hu := hr.units
  have hu1 := hu_of hr
  have r_law_cell := hr.mono (show 1 ≤ 1 by first | decide | omega)
  exact ss_cons (s_set 3 sc_law_pool.nd rfl (by first | exact Or.inl rfl | exact Or.inr rfl) (s_cb cd_abs call_abs rfl T.m_abs (by decide +kernel) (sa_cons (s_call c_law_cell r_law_cell (takes_of rfl rfl rfl rfl) rfl T.g_law_cell T.F_law_cell.kp T.b_law_cell (sa_cons (s_var 0 (pv 0)) (sa_cons (s_var 1 (pv 1)) sa_nil))) sa_nil))) (ss_cons (s_set 4 sc_law_pool.nd rfl (by first | exact Or.inl rfl | exact Or.inr rfl) (s_lst sa_nil)) (ss_cons (s_if (st_cmp op_ge od_ge ((nomark _)) (s_var 3 (pv 3)) (s_pow s_int s_int)) (ss_one (s_for (passes_of rfl) rfl (si_rng1 rfl T.m_range (sa_cons (s_var 2 (pv 2)) sa_nil)) (sg_nm 6 sc_law_pool.nd rfl (by first | exact Or.inl rfl | exact Or.inr rfl)) (ss_one (s_if (st_cmp op_gt od_gt ((nomark _)) (s_var 3 (pv 3)) s_int) (ss_cons (s_expr (s_bm md_append td_lst PySem.F.plainAttrs_list PySem.F.slot_list_append PySem.F.type_list_append mt_append (s_var 4 (pv 4)) (sa_cons (s_mod (s_ct cd_int call_int1 rfl T.m_int (by decide +kernel) (sa_cons (s_var 3 (pv 3)) sa_nil)) s_int) sa_nil))) (ss_one (s_set 3 sc_law_pool.nd rfl (by first | exact Or.inl rfl | exact Or.inr rfl) (s_fdiv (s_var 3 (pv 3)) s_int)))) ss_nil)))) ss_nil) (ss_cons (s_set 5 sc_law_pool.nd rfl (by first | exact Or.inl rfl | exact Or.inr rfl) (s_mod (s_ct cd_int call_int1 rfl T.m_int (by decide +kernel) (sa_cons (s_add (s_add (s_add (s_mul (s_var 3 (pv 3)) s_int) (s_mul s_int (s_var 1 (pv 1)))) (s_mul s_int (s_cb cd_len call_len rfl T.m_len (by decide +kernel) (sa_cons (s_var 4 (pv 4)) sa_nil)))) s_int) sa_nil)) s_int)) (ss_cons (s_set 5 sc_law_pool.nd rfl (by first | exact Or.inl rfl | exact Or.inr rfl) (s_mod (s_ct cd_int call_int1 rfl T.m_int (by decide +kernel) (sa_cons (s_add (s_mul (s_var 5 (pv 5)) s_int) s_int) sa_nil)) s_int)) (ss_cons (s_for (passes_of rfl) rfl (si_rng1 rfl T.m_range (sa_cons (s_sub (s_var 2 (pv 2)) (s_cb cd_len call_len rfl T.m_len (by decide +kernel) (sa_cons (s_var 4 (pv 4)) sa_nil))) sa_nil)) (sg_nm 6 sc_law_pool.nd rfl (by first | exact Or.inl rfl | exact Or.inr rfl)) (ss_cons (s_set 5 sc_law_pool.nd rfl (by first | exact Or.inl rfl | exact Or.inr rfl) (s_mod (s_ct cd_int call_int1 rfl T.m_int (by decide +kernel) (sa_cons (s_add (s_add (s_mul (s_var 5 (pv 5)) s_int) s_int) (s_mul s_int (s_var 6 (pv 6)))) sa_nil)) s_int)) (ss_one (s_expr (s_bm md_append td_lst PySem.F.plainAttrs_list PySem.F.slot_list_append PySem.F.type_list_append mt_append (s_var 4 (pv 4)) (sa_cons (s_mod (s_ct cd_int call_int1 rfl T.m_int (by decide +kernel) (sa_cons (s_fdiv (s_var 5 (pv 5)) s_int) sa_nil)) s_int) sa_nil)))))) (ss_one (s_ret (s_revA (s_var 4 (pv 4))))))))))
theorem sc_law_take : FnScope ["pool", "many"] ["pool", "many"] (defScope S_law_take) := ⟨rfl, rfl, rfl, by decide +kernel, rfl, by decide +kernel, by decide +kernel⟩
def t_law_take : DS := dSeq (dIf (dOr (dBT (dBin gLe (dVar 1) (dC (.int 1)))) (dBT (dBin gEq (dCB gLen (dCons (dVar 0) dNil)) (dC (.int 0))))) (dRet (dC (.int 0))) dNext) (dRet (dBin gMod (dCB gInt1 (dCons (dBM isLst gPop (dVar 0) dNil) dNil)) (dVar 1)))
def m_law_take : DF := runFn 2 2 t_law_take
theorem ok_law_take (T : Gs K mg ad) : FnOk PW w K mg base (L2.CX PW w) (1) ad.a_law_take ad.d_law_take ["pool", "many"] (spD K mg m_law_take) := by
  refine ok_fn T.F_law_take sc_law_take (by decide) fun cdv A outer s H E hr => ?_
  have hu := hr.units
  have hu1 := hu_of hr
  exact ss_cons (s_if (st_w (sw_or (st_cmp op_le od_le ((nomark _)) (s_var 1 (pv 1)) s_int) (sw_or1 (st_cmp ((op_eqAll hu)) od_eq ((nomark _)) (s_cb cd_len call_len rfl T.m_len (by decide +kernel) (sa_cons (s_var 0 (pv 0)) sa_nil)) s_int)))) (ss_one (s_ret s_int)) ss_nil) (ss_one (s_ret (s_mod (s_ct cd_int call_int1 rfl T.m_int (by decide +kernel) (sa_cons (s_bm0 md_pop td_lst PySem.F.plainAttrs_list PySem.F.slot_list_pop PySem.F.type_list_pop mt_pop (s_var 0 (pv 0))) sa_nil)) (s_var 1 (pv 1)))))
theorem sc_law_signs : FnScope ["pool", "many", "left", "signs", "lap"] ["pool", "many"] (defScope S_law_signs) := ⟨rfl, rfl, rfl, by decide +kernel, rfl, by decide +kernel, by decide +kernel⟩
def t_law_signs : DS := dSeq (dSet 2 (dCB gList (dCons (dC (.str [97, 98, 99, 100, 101, 102, 103, 104, 105, 106, 107, 108, 109, 110, 111, 112, 113, 114, 115, 116, 117, 118, 119, 120, 121, 122, 65, 66, 67, 68, 69, 70, 71, 72, 73, 74, 75, 76, 77, 78, 79, 80, 81, 82, 83, 84, 85, 86, 87, 88, 89, 90, 48, 49, 50, 51, 52, 53, 54, 55, 56, 57, 33, 35, 36, 38, 39, 40, 41, 42, 43, 44, 46, 47, 58, 59, 60, 61, 62, 63, 64, 91, 93, 94, 95, 123, 124, 125, 126, 34])) dNil))) (dSeq (dSet 3 (dC (.str []))) (dSeq (dFor (dIR1 (dCons (dVar 1) dNil)) (.nm 4) (dSet 3 (dBin gAdd (dVar 3) (dBM isLst gPopAt (dVar 2) (dCons (dCall m_law_take ([]) (dCons (dVar 0) (dCons (dCB gLen (dCons (dVar 2) dNil)) dNil))) dNil))))) (dRet (dVar 3))))
def m_law_signs : DF := runFn 2 5 t_law_signs
theorem ok_law_signs (T : Gs K mg ad) : FnOk PW w K mg base (L2.CX PW w) (2) ad.a_law_signs ad.d_law_signs ["pool", "many"] (spD K mg m_law_signs) := by
  have c_law_take := ok_law_take (w := w) (base := base) T
  refine ok_fn T.F_law_signs sc_law_signs (by decide) fun cdv A outer s H E hr => ?_
  have hu := hr.units
  have hu1 := hu_of hr
  have r_law_take := hr.mono (show 1 ≤ 1 by first | decide | omega)
  exact ss_cons (s_set 2 sc_law_signs.nd rfl (by first | exact Or.inl rfl | exact Or.inr rfl) (s_ct cd_list (call_listAll rfl) rfl T.m_list (by decide +kernel) (sa_cons (s_str [97, 98, 99, 100, 101, 102, 103, 104, 105, 106, 107, 108, 109, 110, 111, 112, 113, 114, 115, 116, 117, 118, 119, 120, 121, 122, 65, 66, 67, 68, 69, 70, 71, 72, 73, 74, 75, 76, 77, 78, 79, 80, 81, 82, 83, 84, 85, 86, 87, 88, 89, 90, 48, 49, 50, 51, 52, 53, 54, 55, 56, 57, 33, 35, 36, 38, 39, 40, 41, 42, 43, 44, 46, 47, 58, 59, 60, 61, 62, 63, 64, 91, 93, 94, 95, 123, 124, 125, 126, 34] (by decide +kernel)) sa_nil))) (ss_cons (s_set 3 sc_law_signs.nd rfl (by first | exact Or.inl rfl | exact Or.inr rfl) (s_str [] (by decide +kernel))) (ss_cons (s_for (passes_of rfl) rfl (si_rng1 rfl T.m_range (sa_cons (s_var 1 (pv 1)) sa_nil)) (sg_nm 4 sc_law_signs.nd rfl (by first | exact Or.inl rfl | exact Or.inr rfl)) (ss_one (s_set 3 sc_law_signs.nd rfl (by first | exact Or.inl rfl | exact Or.inr rfl) (s_add (s_var 3 (pv 3)) (s_bm md_popAt td_lst PySem.F.plainAttrs_list PySem.F.slot_list_pop PySem.F.type_list_pop mt_popAt (s_var 2 (pv 2)) (sa_cons (s_call c_law_take r_law_take (takes_of rfl rfl rfl rfl) rfl T.g_law_take T.F_law_take.kp T.b_law_take (sa_cons (s_var 0 (pv 0)) (sa_cons (s_cb cd_len call_len rfl T.m_len (by decide +kernel) (sa_cons (s_var 2 (pv 2)) sa_nil)) sa_nil))) sa_nil)))))) (ss_one (s_ret (s_var 3 (pv 3))))))
theorem sc_law_lot : FnScope ["pool", "signs", "sign"] ["pool", "signs"] (defScope S_law_lot) := ⟨rfl, rfl, rfl, by decide +kernel, rfl, by decide +kernel, by decide +kernel⟩
def t_law_lot : DS := dSeq (dIf (dBT (dBin gEq (dCall m_law_take ([]) (dCons (dVar 0) (dCons (dC (.int 4)) dNil))) (dC (.int 0)))) (dRet (dVar 1)) dNext) (dRet (dBM isStr gJoin (dC (.str [])) (dCons (dLc (dIA (dVar 1)) (.nm 2) (dBT (dBin gEq (dCall m_law_take ([]) (dCons (dVar 0) (dCons (dC (.int 2)) dNil))) (dC (.int 0)))) (dVar 2) ([2])) dNil)))
def m_law_lot : DF := runFn 2 3 t_law_lot
theorem ok_law_lot (T : Gs K mg ad) : FnOk PW w K mg base (L2.CX PW w) (2) ad.a_law_lot ad.d_law_lot ["pool", "signs"] (spD K mg m_law_lot) := by
  have c_law_take := ok_law_take (w := w) (base := base) T
  refine ok_fn T.F_law_lot sc_law_lot (by decide) fun cdv A outer s H E hr => ?_
  have hu := hr.units
  have hu1 := hu_of hr
  have r_law_take := hr.mono (show 1 ≤ 1 by first | decide | omega)
  exact ss_cons (s_if (st_cmp ((op_eqAll hu)) od_eq ((nomark _)) (s_call c_law_take r_law_take (takes_of rfl rfl rfl rfl) rfl T.g_law_take T.F_law_take.kp T.b_law_take (sa_cons (s_var 0 (pv 0)) (sa_cons s_int sa_nil))) s_int) (ss_one (s_ret (s_var 1 (pv 1)))) ss_nil) (ss_one (s_ret (s_bm md_join td_str PySem.F.plainAttrs_str PySem.F.slot_str_join PySem.F.type_str_join mt_join (s_str [] (by decide +kernel)) (sa_cons (s_lc (own := [("sign", 2)]) rfl sc_law_lot.nd (si_any (s_var 1 (pv 1))) (blkOk_by (by kernel_rfl)) (by decide) (fun _ _ _ _ _ => sg_nm 2 sc_law_lot.nd rfl (by first | exact Or.inl rfl | exact Or.inr rfl)) (fun _ _ _ _ _ => spt_one (st_cmp ((op_eqAll hu)) od_eq ((nomark _)) (s_call c_law_take r_law_take takes0 rfl T.g_law_take T.F_law_take.kp T.b_law_take (sa_cons (s_var 0 (pv 0)) (sa_cons s_int sa_nil))) s_int)) (fun _ _ _ _ _ => s_var 2 (pv 2))) sa_nil))))
theorem sc_law_text : FnScope ["pool", "signs", "most", "lap"] ["pool", "signs", "most"] (defScope S_law_text) := ⟨rfl, rfl, rfl, by decide +kernel, rfl, by decide +kernel, by decide +kernel⟩
def t_law_text : DS := dRet (dBM isStr gJoin (dC (.str [])) (dCons (dLc (dIR1 (dCons (dCall m_law_take ([]) (dCons (dVar 0) (dCons (dBin gAdd (dVar 2) (dC (.int 1))) dNil))) dNil)) (.nm 3) dYes (dIx (dVar 1) (dCall m_law_take ([]) (dCons (dVar 0) (dCons (dCB gLen (dCons (dVar 1) dNil)) dNil)))) ([3])) dNil))
def m_law_text : DF := runFn 3 4 t_law_text
theorem ok_law_text (T : Gs K mg ad) : FnOk PW w K mg base (L2.CX PW w) (2) ad.a_law_text ad.d_law_text ["pool", "signs", "most"] (spD K mg m_law_text) := by
  have c_law_take := ok_law_take (w := w) (base := base) T
  refine ok_fn T.F_law_text sc_law_text (by decide) fun cdv A outer s H E hr => ?_
  have hu := hr.units
  have hu1 := hu_of hr
  have r_law_take := hr.mono (show 1 ≤ 1 by first | decide | omega)
  exact ss_one (s_ret (s_bm md_join td_str PySem.F.plainAttrs_str PySem.F.slot_str_join PySem.F.type_str_join mt_join (s_str [] (by decide +kernel)) (sa_cons (s_lc (own := [("lap", 3)]) rfl sc_law_text.nd (si_rng1 rfl T.m_range (sa_cons (s_call c_law_take r_law_take (takes_of rfl rfl rfl rfl) rfl T.g_law_take T.F_law_take.kp T.b_law_take (sa_cons (s_var 0 (pv 0)) (sa_cons (s_add (s_var 2 (pv 2)) s_int) sa_nil))) sa_nil)) (blkOk_by (by kernel_rfl)) (by decide) (fun _ _ _ _ _ => sg_nm 3 sc_law_text.nd rfl (by first | exact Or.inl rfl | exact Or.inr rfl)) (fun _ _ _ _ _ => spt_nil) (fun _ _ _ _ _ => s_idx hu1 (s_var 1 (pv 1)) (s_call c_law_take r_law_take takes0 rfl T.g_law_take T.F_law_take.kp T.b_law_take (sa_cons (s_var 0 (pv 0)) (sa_cons (s_cb cd_len call_len rfl T.m_len (by decide +kernel) (sa_cons (s_var 1 (pv 1)) sa_nil)) sa_nil))))) sa_nil)))
theorem sc_law_row : FnScope ["pool", "way", "standing", "many", "wide", "row", "place", "free"] ["pool", "way", "standing", "many", "wide"] (defScope S_law_row) := ⟨rfl, rfl, rfl, by decide +kernel, rfl, by decide +kernel, by decide +kernel⟩
def t_law_row : DS := dSeq (dSet 5 (dLst dNil)) (dSeq (dFor (dIR1 (dCons (dVar 4) dNil)) (.nm 6) (dSeq (dSet 7 (dCall m_law_take ([]) (dCons (dVar 0) (dCons (dVar 3) dNil)))) (dIf (dBT (dBin gEq (dVar 1) (dC (.int 1)))) (dExpr (dBM isLst gAppend (dVar 5) (dCons (dBin gMod (dCB gInt1 (dCons (dBin gAdd (dBin gMul (dVar 2) (dVar 4)) (dVar 6)) dNil)) (dVar 3)) dNil))) (dIf (dBT (dBin gEq (dVar 1) (dC (.int 2)))) (dExpr (dBM isLst gAppend (dVar 5) (dCons (dBin gMod (dCB gInt1 (dCons (dBin gAdd (dVar 2) (dVar 6)) dNil)) (dVar 3)) dNil))) (dIf (dAnd (dBT (dBin gEq (dVar 1) (dC (.int 3)))) (dBT (dBin gEq (dVar 6) (dC (.int 0))))) (dExpr (dBM isLst gAppend (dVar 5) (dCons (dC (.int 0)) dNil))) (dIf (dAnd (dBT (dBin gEq (dVar 1) (dC (.int 4)))) (dBT (dBin gEq (dVar 6) (dC (.int 0))))) (dExpr (dBM isLst gAppend (dVar 5) (dCons (dCB gMin (dCons (dBin gAdd (dVar 2) (dC (.int 1))) (dCons (dBin gSub (dVar 3) (dC (.int 1))) dNil))) dNil))) (dExpr (dBM isLst gAppend (dVar 5) (dCons (dVar 7) dNil))))))))) (dRet (dCB gTuple (dCons (dVar 5) dNil))))
def m_law_row : DF := runFn 5 8 t_law_row
theorem ok_law_row (T : Gs K mg ad) : FnOk PW w K mg base (L2.CX PW w) (2) ad.a_law_row ad.d_law_row ["pool", "way", "standing", "many", "wide"] (spD K mg m_law_row) := by
  have c_law_take := ok_law_take (w := w) (base := base) T
  refine ok_fn T.F_law_row sc_law_row (by decide) fun cdv A outer s H E hr => ?_
  have hu := hr.units
  have hu1 := hu_of hr
  have r_law_take := hr.mono (show 1 ≤ 1 by first | decide | omega)
  exact ss_cons (s_set 5 sc_law_row.nd rfl (by first | exact Or.inl rfl | exact Or.inr rfl) (s_lst sa_nil)) (ss_cons (s_for (passes_of rfl) rfl (si_rng1 rfl T.m_range (sa_cons (s_var 4 (pv 4)) sa_nil)) (sg_nm 6 sc_law_row.nd rfl (by first | exact Or.inl rfl | exact Or.inr rfl)) (ss_cons (s_set 7 sc_law_row.nd rfl (by first | exact Or.inl rfl | exact Or.inr rfl) (s_call c_law_take r_law_take (takes_of rfl rfl rfl rfl) rfl T.g_law_take T.F_law_take.kp T.b_law_take (sa_cons (s_var 0 (pv 0)) (sa_cons (s_var 3 (pv 3)) sa_nil)))) (ss_one (s_if (st_cmp ((op_eqAll hu)) od_eq ((nomark _)) (s_var 1 (pv 1)) s_int) (ss_one (s_expr (s_bm md_append td_lst PySem.F.plainAttrs_list PySem.F.slot_list_append PySem.F.type_list_append mt_append (s_var 5 (pv 5)) (sa_cons (s_mod (s_ct cd_int call_int1 rfl T.m_int (by decide +kernel) (sa_cons (s_add (s_mul (s_var 2 (pv 2)) (s_var 4 (pv 4))) (s_var 6 (pv 6))) sa_nil)) (s_var 3 (pv 3))) sa_nil)))) (ss_one (s_if (st_cmp ((op_eqAll hu)) od_eq ((nomark _)) (s_var 1 (pv 1)) s_int) (ss_one (s_expr (s_bm md_append td_lst PySem.F.plainAttrs_list PySem.F.slot_list_append PySem.F.type_list_append mt_append (s_var 5 (pv 5)) (sa_cons (s_mod (s_ct cd_int call_int1 rfl T.m_int (by decide +kernel) (sa_cons (s_add (s_var 2 (pv 2)) (s_var 6 (pv 6))) sa_nil)) (s_var 3 (pv 3))) sa_nil)))) (ss_one (s_if (st_w (sw_and (st_cmp ((op_eqAll hu)) od_eq ((nomark _)) (s_var 1 (pv 1)) s_int) (sw_and1 (st_cmp ((op_eqAll hu)) od_eq ((nomark _)) (s_var 6 (pv 6)) s_int)))) (ss_one (s_expr (s_bm md_append td_lst PySem.F.plainAttrs_list PySem.F.slot_list_append PySem.F.type_list_append mt_append (s_var 5 (pv 5)) (sa_cons s_int sa_nil)))) (ss_one (s_if (st_w (sw_and (st_cmp ((op_eqAll hu)) od_eq ((nomark _)) (s_var 1 (pv 1)) s_int) (sw_and1 (st_cmp ((op_eqAll hu)) od_eq ((nomark _)) (s_var 6 (pv 6)) s_int)))) (ss_one (s_expr (s_bm md_append td_lst PySem.F.plainAttrs_list PySem.F.slot_list_append PySem.F.type_list_append mt_append (s_var 5 (pv 5)) (sa_cons (s_cb cd_I2 (call_min2 rfl) rfl T.m_min (by decide +kernel) (sa_cons (s_add (s_var 2 (pv 2)) s_int) (sa_cons (s_sub (s_var 3 (pv 3)) s_int) sa_nil))) sa_nil)))) (ss_one (s_expr (s_bm md_append td_lst PySem.F.plainAttrs_list PySem.F.slot_list_append PySem.F.type_list_append mt_append (s_var 5 (pv 5)) (sa_cons (s_var 7 (pv 7)) sa_nil)))))))))))))) (ss_one (s_ret (s_ct cd_tuple call_tuple_of rfl T.m_tuple (by decide +kernel) (sa_cons (s_var 5 (pv 5)) sa_nil)))))
theorem sc_law_mark : FnScope ["pool", "kinds", "menu"] ["pool", "kinds"] (defScope S_law_mark) := ⟨rfl, rfl, rfl, by decide +kernel, rfl, by decide +kernel, by decide +kernel⟩
def t_law_mark : DS := dSeq (dSet 2 (dLst (dCons (dTup (dCons (dC (.str [109])) (dCons (dC (.int 0)) (dCons (dTup dNil) dNil)))) (dCons (dTup (dCons (dC (.str [109])) (dCons (dC (.int 1)) (dCons (dTup (dCons (dC (.str [111, 100, 100])) dNil)) dNil)))) (dCons (dC (.str [120])) (dCons (dC .non) (dCons (dTup (dCons (dC (.str [110])) (dCons (dTup (dCons (dC (.int 1)) (dCons (dC (.int 2)) dNil))) (dCons (dTup (dCons (dC (.str [102])) (dCons (dC (.str [103])) dNil))) dNil)))) (dCons (dC (.int 5)) dNil)))))))) (dRet (dIx (dVar 2) (dCall m_law_take ([]) (dCons (dVar 0) (dCons (dVar 1) dNil)))))
def m_law_mark : DF := runFn 2 3 t_law_mark
theorem ok_law_mark (T : Gs K mg ad) : FnOk PW w K mg base (L2.CX PW w) (2) ad.a_law_mark ad.d_law_mark ["pool", "kinds"] (spD K mg m_law_mark) := by
  have c_law_take := ok_law_take (w := w) (base := base) T
  refine ok_fn T.F_law_mark sc_law_mark (by decide) fun cdv A outer s H E hr => ?_
  have hu := hr.units
  have hu1 := hu_of hr
  have r_law_take := hr.mono (show 1 ≤ 1 by first | decide | omega)
  exact ss_cons (s_set 2 sc_law_mark.nd rfl (by first | exact Or.inl rfl | exact Or.inr rfl) (s_lst (sa_cons (s_tup (sa_cons (s_str [109] (by decide +kernel)) (sa_cons s_int (sa_cons (s_tup sa_nil) sa_nil)))) (sa_cons (s_tup (sa_cons (s_str [109] (by decide +kernel)) (sa_cons s_int (sa_cons (s_tup (sa_cons (s_str [111, 100, 100] (by decide +kernel)) sa_nil)) sa_nil)))) (sa_cons (s_str [120] (by decide +kernel)) (sa_cons s_non (sa_cons (s_tup (sa_cons (s_str [110] (by decide +kernel)) (sa_cons (s_tup (sa_cons s_int (sa_cons s_int sa_nil))) (sa_cons (s_tup (sa_cons (s_str [102] (by decide +kernel)) (sa_cons (s_str [103] (by decide +kernel)) sa_nil))) sa_nil)))) (sa_cons s_int sa_nil)))))))) (ss_one (s_ret (s_idx hu1 (s_var 2 (pv 2)) (s_call c_law_take r_law_take (takes_of rfl rfl rfl rfl) rfl T.g_law_take T.F_law_take.kp T.b_law_take (sa_cons (s_var 0 (pv 0)) (sa_cons (s_var 1 (pv 1)) sa_nil))))))
theorem sc_law_machine : FnScope ["pool", "signs", "many", "way", "kinds", "wide", "go", "tell", "end", "standing", "place"] ["pool", "signs", "many"] (defScope S_law_machine) := ⟨rfl, rfl, rfl, by decide +kernel, rfl, by decide +kernel, by decide +kernel⟩
def t_law_machine : DS := dSeq (dSet 3 (dCall m_law_take ([]) (dCons (dVar 0) (dCons (dC (.int 5)) dNil)))) (dSeq (dSet 4 (dBin gAdd (dC (.int 1)) (dCall m_law_take ([]) (dCons (dVar 0) (dCons (dC (.int 6)) dNil))))) (dSeq (dSet 5 (dCB gLen (dCons (dVar 1) dNil))) (dSeq (dSet 6 (dCB gTuple (dCons (dLc (dIR1 (dCons (dVar 2) dNil)) (.nm 9) dYes (dCall m_law_row ([]) (dCons (dVar 0) (dCons (dVar 3) (dCons (dVar 9) (dCons (dVar 2) (dCons (dVar 5) dNil)))))) ([9])) dNil))) (dSeq (dSet 7 (dCB gTuple (dCons (dLc (dIR1 (dCons (dVar 2) dNil)) (.nm 9) dYes (dCB gTuple (dCons (dLc (dIR1 (dCons (dVar 5) dNil)) (.nm 10) dYes (dCall m_law_mark ([]) (dCons (dVar 0) (dCons (dVar 4) dNil))) ([10])) dNil)) ([9])) dNil))) (dSeq (dSet 8 (dCB gTuple (dCons (dLc (dIR1 (dCons (dVar 2) dNil)) (.nm 9) dYes (dCall m_law_mark ([]) (dCons (dVar 0) (dCons (dVar 4) dNil))) ([9])) dNil))) (dRet (dTup (dCons (dVar 1) (dCons (dVar 6) (dCons (dVar 7) (dCons (dVar 8) dNil)))))))))))
def m_law_machine : DF := runFn 3 11 t_law_machine
theorem ok_law_machine (T : Gs K mg ad) : FnOk PW w K mg base (L2.CX PW w) (3) ad.a_law_machine ad.d_law_machine ["pool", "signs", "many"] (spD K mg m_law_machine) := by
  have c_law_mark := ok_law_mark (w := w) (base := base) T
  have c_law_row := ok_law_row (w := w) (base := base) T
  have c_law_take := ok_law_take (w := w) (base := base) T
  refine ok_fn T.F_law_machine sc_law_machine (by decide) fun cdv A outer s H E hr => ?_
  have hu := hr.units
  have hu1 := hu_of hr
  have r_law_mark := hr.mono (show 2 ≤ 2 by first | decide | omega)
  have r_law_row := hr.mono (show 2 ≤ 2 by first | decide | omega)
  have r_law_take := hr.mono (show 1 ≤ 2 by first | decide | omega)
  exact ss_cons (s_set 3 sc_law_machine.nd rfl (by first | exact Or.inl rfl | exact Or.inr rfl) (s_call c_law_take r_law_take (takes_of rfl rfl rfl rfl) rfl T.g_law_take T.F_law_take.kp T.b_law_take (sa_cons (s_var 0 (pv 0)) (sa_cons s_int sa_nil)))) (ss_cons (s_set 4 sc_law_machine.nd rfl (by first | exact Or.inl rfl | exact Or.inr rfl) (s_add s_int (s_call c_law_take r_law_take (takes_of rfl rfl rfl rfl) rfl T.g_law_take T.F_law_take.kp T.b_law_take (sa_cons (s_var 0 (pv 0)) (sa_cons s_int sa_nil))))) (ss_cons (s_set 5 sc_law_machine.nd rfl (by first | exact Or.inl rfl | exact Or.inr rfl) (s_cb cd_len call_len rfl T.m_len (by decide +kernel) (sa_cons (s_var 1 (pv 1)) sa_nil))) (ss_cons (s_set 6 sc_law_machine.nd rfl (by first | exact Or.inl rfl | exact Or.inr rfl) (s_ct cd_tuple call_tuple_of rfl T.m_tuple (by decide +kernel) (sa_cons (s_lc (own := [("standing", 9)]) rfl sc_law_machine.nd (si_rng1 rfl T.m_range (sa_cons (s_var 2 (pv 2)) sa_nil)) (blkOk_by (by kernel_rfl)) (by decide) (fun _ _ _ _ _ => sg_nm 9 sc_law_machine.nd rfl (by first | exact Or.inl rfl | exact Or.inr rfl)) (fun _ _ _ _ _ => spt_nil) (fun _ _ _ _ _ => s_call c_law_row r_law_row takes0 rfl T.g_law_row T.F_law_row.kp T.b_law_row (sa_cons (s_var 0 (pv 0)) (sa_cons (s_var 3 (pv 3)) (sa_cons (s_var 9 (pv 9)) (sa_cons (s_var 2 (pv 2)) (sa_cons (s_var 5 (pv 5)) sa_nil))))))) sa_nil))) (ss_cons (s_set 7 sc_law_machine.nd rfl (by first | exact Or.inl rfl | exact Or.inr rfl) (s_ct cd_tuple call_tuple_of rfl T.m_tuple (by decide +kernel) (sa_cons (s_lc (own := [("standing", 9)]) rfl sc_law_machine.nd (si_rng1 rfl T.m_range (sa_cons (s_var 2 (pv 2)) sa_nil)) (blkOk_by (by kernel_rfl)) (by decide) (fun _ _ _ _ _ => sg_nm 9 sc_law_machine.nd rfl (by first | exact Or.inl rfl | exact Or.inr rfl)) (fun _ _ _ _ _ => spt_nil) (fun _ _ _ _ _ => s_ct cd_tuple call_tuple_of rfl T.m_tuple (by decide +kernel) (sa_cons (s_lc (own := [("place", 10)]) rfl sc_law_machine.nd (si_rng1 rfl T.m_range (sa_cons (s_var 5 (pv 5)) sa_nil)) (blkOk_by (by kernel_rfl)) (by decide) (fun _ _ _ _ _ => sg_nm 10 sc_law_machine.nd rfl (by first | exact Or.inl rfl | exact Or.inr rfl)) (fun _ _ _ _ _ => spt_nil) (fun _ _ _ _ _ => s_call c_law_mark r_law_mark takes0 rfl T.g_law_mark T.F_law_mark.kp T.b_law_mark (sa_cons (s_var 0 (pv 0)) (sa_cons (s_var 4 (pv 4)) sa_nil)))) sa_nil))) sa_nil))) (ss_cons (s_set 8 sc_law_machine.nd rfl (by first | exact Or.inl rfl | exact Or.inr rfl) (s_ct cd_tuple call_tuple_of rfl T.m_tuple (by decide +kernel) (sa_cons (s_lc (own := [("standing", 9)]) rfl sc_law_machine.nd (si_rng1 rfl T.m_range (sa_cons (s_var 2 (pv 2)) sa_nil)) (blkOk_by (by kernel_rfl)) (by decide) (fun _ _ _ _ _ => sg_nm 9 sc_law_machine.nd rfl (by first | exact Or.inl rfl | exact Or.inr rfl)) (fun _ _ _ _ _ => spt_nil) (fun _ _ _ _ _ => s_call c_law_mark r_law_mark takes0 rfl T.g_law_mark T.F_law_mark.kp T.b_law_mark (sa_cons (s_var 0 (pv 0)) (sa_cons (s_var 4 (pv 4)) sa_nil)))) sa_nil))) (ss_one (s_ret (s_tup (sa_cons (s_var 1 (pv 1)) (sa_cons (s_var 6 (pv 6)) (sa_cons (s_var 7 (pv 7)) (sa_cons (s_var 8 (pv 8)) sa_nil))))))))))))
theorem sc_law_same : FnScope ["told", "due", "k"] ["told", "due"] (defScope S_law_same) := ⟨rfl, rfl, rfl, by decide +kernel, rfl, by decide +kernel, by decide +kernel⟩
def t_law_same (self : DF) : DS := dSeq (dIf (dTr (dIsi ("tuple") (dVar 1))) (dSeq (dIf (dOr (dNot (dTr (dIsi ("tuple") (dVar 0)))) (dBT (dBin gNe (dCB gLen (dCons (dVar 0) dNil)) (dCB gLen (dCons (dVar 1) dNil))))) (dRet (dC (.bl false))) dNext) (dRet (dCB gAll (dCons (dLc (dIR1 (dCons (dCB gLen (dCons (dVar 1) dNil)) dNil)) (.nm 2) dYes (dCall self ([]) (dCons (dIx (dVar 0) (dVar 2)) (dCons (dIx (dVar 1) (dVar 2)) dNil))) ([2])) dNil)))) dNext) (dSeq (dIf (dTr (dIsi ("str") (dVar 1))) (dRet (dAndV (dIsi ("str") (dVar 0)) (dBin gEq (dVar 0) (dVar 1)))) dNext) (dSeq (dIf (dBT (dBin gIs (dVar 1) (dC .non))) (dRet (dBin gIs (dVar 0) (dC .non))) dNext) (dRet (dAndV (dIsi ("int") (dVar 0)) (dAndV (dNotV (dIsi ("bool") (dVar 0))) (dBin gEq (dVar 0) (dVar 1)))))))
def m_law_same : Nat → DF
  | 0 => fun _ _ => .bad
  | n + 1 => runFn 2 3 (t_law_same (m_law_same n))
theorem ok_law_same (T : Gs K mg ad) (n : Nat) : FnOk PW w K mg base (L2.CX PW w) (n + 1) ad.a_law_same ad.d_law_same ["told", "due"] (spD K mg (m_law_same n)) := by
  induction n with
  | zero => exact ok_bad T.F_law_same sc_law_same (by decide)
  | succ n c_self =>
  refine ok_fn T.F_law_same sc_law_same (by decide) fun cdv A outer s H E hr => ?_
  have hu := hr.units
  have hu1 := hu_of hr
  have r_self := hr
  exact ss_cons (s_if (st_truth ((fun _ => rfl)) (s_isi "tuple" kit_tuple rfl T.m_isinstance (by decide +kernel) rfl T.m_tuple (by decide +kernel) (s_var 1 (pv 1)))) (ss_cons (s_if (st_w (sw_or (st_not (st_truth ((fun _ => rfl)) (s_isi "tuple" kit_tuple rfl T.m_isinstance (by decide +kernel) rfl T.m_tuple (by decide +kernel) (s_var 0 (pv 0))))) (sw_or1 (st_cmp ((op_neAll hu)) od_ne ((nomark _)) (s_cb cd_len call_len rfl T.m_len (by decide +kernel) (sa_cons (s_var 0 (pv 0)) sa_nil)) (s_cb cd_len call_len rfl T.m_len (by decide +kernel) (sa_cons (s_var 1 (pv 1)) sa_nil)))))) (ss_one (s_ret s_bl)) ss_nil) (ss_one (s_ret (s_cb cd_bools (cr_all rfl) rfl T.m_all (by decide +kernel) (sa_cons (s_lc (own := [("k", 2)]) rfl sc_law_same.nd (si_rng1 rfl T.m_range (sa_cons (s_cb cd_len call_len rfl T.m_len (by decide +kernel) (sa_cons (s_var 1 (pv 1)) sa_nil)) sa_nil)) (blkOk_by (by kernel_rfl)) (by decide) (fun _ _ _ _ _ => sg_nm 2 sc_law_same.nd rfl (by first | exact Or.inl rfl | exact Or.inr rfl)) (fun _ _ _ _ _ => spt_nil) (fun _ _ _ _ _ => s_call c_self r_self takes0 rfl T.g_law_same T.F_law_same.kp T.b_law_same (sa_cons (s_idx hu1 (s_var 0 (pv 0)) (s_var 2 (pv 2))) (sa_cons (s_idx hu1 (s_var 1 (pv 1)) (s_var 2 (pv 2))) sa_nil)))) sa_nil))))) ss_nil) (ss_cons (s_if (st_truth ((fun _ => rfl)) (s_isi "str" kit_str rfl T.m_isinstance (by decide +kernel) rfl T.m_str (by decide +kernel) (s_var 1 (pv 1)))) (ss_one (s_ret (s_and (s_isi "str" kit_str rfl T.m_isinstance (by decide +kernel) rfl T.m_str (by decide +kernel) (s_var 0 (pv 0))) (s_one .And (s_cmp ((op_eqAll hu)) od_eq ((nomark _)) (s_var 0 (pv 0)) (s_var 1 (pv 1))))))) ss_nil) (ss_cons (s_if (st_cmp op_isAll od_is ((nomark _)) (s_var 1 (pv 1)) s_non) (ss_one (s_ret (s_cmp op_isAll od_is ((nomark _)) (s_var 0 (pv 0)) s_non))) ss_nil) (ss_one (s_ret (s_and (s_isi "int" kit_int rfl T.m_isinstance (by decide +kernel) rfl T.m_int (by decide +kernel) (s_var 0 (pv 0))) (s_and (s_not (s_isi "bool" kit_bool rfl T.m_isinstance (by decide +kernel) rfl T.m_bool (by decide +kernel) (s_var 0 (pv 0)))) (s_one .And (s_cmp ((op_eqAll hu)) od_eq ((nomark _)) (s_var 0 (pv 0)) (s_var 1 (pv 1))))))))))
theorem sc_law_offered : FnScope ["script", "pool", "signs", "bulk"] ["script", "pool"] (defScope S_law_offered) := ⟨rfl, rfl, rfl, by decide +kernel, rfl, by decide +kernel, by decide +kernel⟩
def t_law_offered : DS := dSeq (dSet 2 (dCall m_law_signs ([]) (dCons (dVar 1) (dCons (dBin gAdd (dC (.int 1)) (dCall m_law_take ([]) (dCons (dVar 1) (dCons (dC (.int 8)) dNil)))) dNil)))) (dSeq (dIf (dBT (dBin gGt (dCall m_law_take ([]) (dCons (dVar 1) (dCons (dC (.int 16)) dNil))) (dC (.int 0)))) (dRet (dCall m_law_machine ([]) (dCons (dVar 1) (dCons (dVar 2) (dCons (dBin gAdd (dC (.int 1)) (dCall m_law_take ([]) (dCons (dVar 1) (dCons (dC (.int 8)) dNil)))) dNil))))) dNext) (dSeq (dSet 3 (dCall m_law_pool ([]) (dCons (dVar 0) (dCons (dC (.int 1)) (dCons (dC (.int 2200)) dNil))))) (dRet (dCall m_law_machine ([]) (dCons (dVar 3) (dCons (dVar 2) (dCons (dBin gAdd (dC (.int 60)) (dCall m_law_take ([]) (dCons (dVar 1) (dCons (dC (.int 61)) dNil)))) dNil)))))))
def m_law_offered : DF := runFn 2 4 t_law_offered
theorem ok_law_offered (T : Gs K mg ad) : FnOk PW w K mg base (L2.CX PW w) (4) ad.a_law_offered ad.d_law_offered ["script", "pool"] (spD K mg m_law_offered) := by
  have c_law_machine := ok_law_machine (w := w) (base := base) T
  have c_law_take := ok_law_take (w := w) (base := base) T
  have c_law_pool := ok_law_pool (w := w) (base := base) T
  have c_law_signs := ok_law_signs (w := w) (base := base) T
  refine ok_fn T.F_law_offered sc_law_offered (by decide) fun cdv A outer s H E hr => ?_
  have hu := hr.units
  have hu1 := hu_of hr
  have r_law_machine := hr.mono (show 3 ≤ 3 by first | decide | omega)
  have r_law_take := hr.mono (show 1 ≤ 3 by first | decide | omega)
  have r_law_pool := hr.mono (show 2 ≤ 3 by first | decide | omega)
  have r_law_signs := hr.mono (show 2 ≤ 3 by first | decide | omega)
  exact ss_cons (s_set 2 sc_law_offered.nd rfl (by first | exact Or.inl rfl | exact Or.inr rfl) (s_call c_law_signs r_law_signs (takes_of rfl rfl rfl rfl) rfl T.g_law_signs T.F_law_signs.kp T.b_law_signs (sa_cons (s_var 1 (pv 1)) (sa_cons (s_add s_int (s_call c_law_take r_law_take (takes_of rfl rfl rfl rfl) rfl T.g_law_take T.F_law_take.kp T.b_law_take (sa_cons (s_var 1 (pv 1)) (sa_cons s_int sa_nil)))) sa_nil)))) (ss_cons (s_if (st_cmp op_gt od_gt ((nomark _)) (s_call c_law_take r_law_take (takes_of rfl rfl rfl rfl) rfl T.g_law_take T.F_law_take.kp T.b_law_take (sa_cons (s_var 1 (pv 1)) (sa_cons s_int sa_nil))) s_int) (ss_one (s_ret (s_call c_law_machine r_law_machine (takes_of rfl rfl rfl rfl) rfl T.g_law_machine T.F_law_machine.kp T.b_law_machine (sa_cons (s_var 1 (pv 1)) (sa_cons (s_var 2 (pv 2)) (sa_cons (s_add s_int (s_call c_law_take r_law_take (takes_of rfl rfl rfl rfl) rfl T.g_law_take T.F_law_take.kp T.b_law_take (sa_cons (s_var 1 (pv 1)) (sa_cons s_int sa_nil)))) sa_nil)))))) ss_nil) (ss_cons (s_set 3 sc_law_offered.nd rfl (by first | exact Or.inl rfl | exact Or.inr rfl) (s_call c_law_pool r_law_pool (takes_of rfl rfl rfl rfl) rfl T.g_law_pool T.F_law_pool.kp T.b_law_pool (sa_cons (s_var 0 (pv 0)) (sa_cons s_int (sa_cons s_int sa_nil))))) (ss_one (s_ret (s_call c_law_machine r_law_machine (takes_of rfl rfl rfl rfl) rfl T.g_law_machine T.F_law_machine.kp T.b_law_machine (sa_cons (s_var 3 (pv 3)) (sa_cons (s_var 2 (pv 2)) (sa_cons (s_add s_int (s_call c_law_take r_law_take (takes_of rfl rfl rfl rfl) rfl T.g_law_take T.F_law_take.kp T.b_law_take (sa_cons (s_var 1 (pv 1)) (sa_cons s_int sa_nil)))) sa_nil))))))))
theorem sc_law_spare : FnScope ["signs", "one"] ["signs"] (defScope S_law_spare) := ⟨rfl, rfl, rfl, by decide +kernel, rfl, by decide +kernel, by decide +kernel⟩
def t_law_spare : DS := dRet (dIx (dLc (dIA (dC (.str [97, 98, 99, 100, 101, 102, 103, 104, 105]))) (.nm 1) (dBT (dNotIn (dVar 1) (dVar 0))) (dVar 1) ([1])) (dC (.int 0)))
def m_law_spare : DF := runFn 1 2 t_law_spare
theorem ok_law_spare (T : Gs K mg ad) : FnOk PW w K mg base (L2.CX PW w) (1) ad.a_law_spare ad.d_law_spare ["signs"] (spD K mg m_law_spare) := by
  refine ok_fn T.F_law_spare sc_law_spare (by decide) fun cdv A outer s H E hr => ?_
  have hu := hr.units
  have hu1 := hu_of hr
  exact ss_one (s_ret (s_idx hu1 (s_lc (own := [("one", 1)]) rfl sc_law_spare.nd (si_any (s_str [97, 98, 99, 100, 101, 102, 103, 104, 105] (by decide +kernel))) (blkOk_by (by kernel_rfl)) (by decide) (fun _ _ _ _ _ => sg_nm 1 sc_law_spare.nd rfl (by first | exact Or.inl rfl | exact Or.inr rfl)) (fun _ _ _ _ _ => spt_one (st_notIn hu1 (s_var 1 (pv 1)) (s_var 0 (pv 0)))) (fun _ _ _ _ _ => s_var 1 (pv 1))) s_int))
theorem sc_law_no_rules : FnScope ["pool", "machine", "rule", "cuts", "guesses", "many", "spare", "deep", "lap", "wrong", "at", "odd", "one"] ["pool", "machine", "rule"] (defScope S_law_no_rules) := ⟨rfl, rfl, rfl, by decide +kernel, rfl, by decide +kernel, by decide +kernel⟩
def t_law_no_rules : DS := dSeq (dAsg (.tp [3, 4]) (dVar 2)) (dSeq (dSet 5 (dCB gLen (dCons (dIx (dVar 1) (dC (.int 1))) dNil))) (dSeq (dSet 6 (dCall m_law_spare ([]) (dCons (dIx (dVar 1) (dC (.int 0))) dNil))) (dSeq (dSet 7 (dTup dNil)) (dSeq (dFor (dIR1 (dCons (dC (.int 8)) dNil)) (.nm 8) (dSet 7 (dTup (dCons (dVar 7) dNil)))) (dSeq (dSet 9 (dLst (dCons (dC .non) (dCons (dVar 5) (dCons (dVar 3) (dCons (dVar 4) (dCons (dTup dNil) (dCons (dTup (dCons (dVar 3) dNil)) (dCons (dTup (dCons (dVar 3) (dCons (dVar 4) (dCons (dTup dNil) dNil)))) (dCons (dTup (dCons (dVar 4) (dCons (dVar 3) dNil))) (dCons (dTup (dCons (dVar 3) (dCons (dC .non) dNil))) (dCons (dTup (dCons (dC .non) (dCons (dVar 4) dNil))) (dCons (dTup (dCons (dVar 3) (dCons (dBin gAdd (dVar 4) (dTup (dCons (dC (.int 0)) dNil))) dNil))) (dCons (dTup (dCons (dCB gTuple (dCons (dLc (dIA (dVar 3)) (.nm 12) dYes (dVar 12) ([12])) dNil)) (dCons (dVar 4) dNil))) (dCons (dTup (dCons (dBin gAdd (dVar 3) (dVar 6)) (dCons (dBin gAdd (dVar 4) (dTup (dCons (dC (.int 0)) dNil))) dNil))) (dCons (dTup (dCons (dBin gAdd (dVar 6) (dVar 3)) (dCons (dBin gAdd (dTup (dCons (dC (.int 0)) dNil)) (dVar 4)) dNil))) (dCons (dTup (dCons (dVar 3) (dCons (dBin gMul (dC (.str [48])) (dCB gLen (dCons (dVar 3) dNil))) dNil))) (dCons (dTup (dCons (dVar 3) (dCons (dVar 7) dNil))) dNil)))))))))))))))))) (dSeq (dIf (dBT (dBin gEq (dVar 3) (dC (.str [])))) (dRet (dVar 9)) dNext) (dSeq (dSet 10 (dCall m_law_take ([]) (dCons (dVar 0) (dCons (dCB gLen (dCons (dVar 3) dNil)) dNil)))) (dSeq (dFor (dIA (dLst (dCons (dVar 5) (dCons (dUn gNeg (dC (.int 1))) (dCons (dBin gSub (dC (.int 0)) (dVar 5)) (dCons (dC .non) (dCons (dCB gStr (dCons (dIx (dVar 4) (dVar 10)) dNil)) (dCons (dTup (dCons (dIx (dVar 4) (dVar 10)) dNil)) (dCons (dVar 7) dNil))))))))) (.nm 11) (dExpr (dBM isLst gAppend (dVar 9) (dCons (dTup (dCons (dVar 3) (dCons (dBin gAdd (dBin gAdd (dSl (dVar 4) dONone (dOSome (dVar 10))) (dTup (dCons (dVar 11) dNil))) (dSl (dVar 4) (dOSome (dBin gAdd (dVar 10) (dC (.int 1)))) dONone)) dNil))) dNil)))) (dSeq (dExpr (dBM isLst gAppend (dVar 9) (dCons (dTup (dCons (dVar 3) (dCons (dSl (dVar 4) (dOSome (dC (.int 1))) dONone) dNil))) dNil))) (dSeq (dExpr (dBM isLst gAppend (dVar 9) (dCons (dTup (dCons (dSl (dVar 3) (dOSome (dC (.int 1))) dONone) (dCons (dVar 4) dNil))) dNil))) (dSeq (dExpr (dBM isLst gAppend (dVar 9) (dCons (dTup (dCons (dBin gAdd (dIx (dVar 3) (dVar 10)) (dVar 3)) (dCons (dBin gAdd (dTup (dCons (dC (.int 0)) dNil)) (dVar 4)) dNil))) dNil))) (dSeq (dExpr (dBM isLst gAppend (dVar 9) (dCons (dTup (dCons (dBin gAdd (dVar 3) (dIx (dVar 3) (dVar 10))) (dCons (dBin gAdd (dVar 4) (dTup (dCons (dC (.int 0)) dNil))) dNil))) dNil))) (dSeq (dIf (dBT (dBin gGt (dCB gLen (dCons (dVar 3) dNil)) (dC (.int 1)))) (dExpr (dBM isLst gAppend (dVar 9) (dCons (dTup (dCons (dUn gRev (dVar 3)) (dCons (dVar 4) dNil))) dNil))) dNext) (dRet (dVar 9)))))))))))))))
def m_law_no_rules : DF := runFn 3 13 t_law_no_rules
theorem ok_law_no_rules (T : Gs K mg ad) : FnOk PW w K mg base (L2.CX PW w) (2) ad.a_law_no_rules ad.d_law_no_rules ["pool", "machine", "rule"] (spD K mg m_law_no_rules) := by
  have c_law_take := ok_law_take (w := w) (base := base) T
  have c_law_spare := ok_law_spare (w := w) (base := base) T
  refine ok_fn T.F_law_no_rules sc_law_no_rules (by decide) fun cdv A outer s H E hr => ?_
  have hu := hr.units
  have hu1 := hu_of hr
  have r_law_take := hr.mono (show 1 ≤ 1 by first | decide | omega)
  have r_law_spare := hr.mono (show 1 ≤ 1 by first | decide | omega)
  exact ss_cons (s_asg (s_var 2 (pv 2)) (sg_tp rfl (pgs_cons (pg_name (i := 3) sc_law_no_rules.nd rfl (by first | exact Or.inl rfl | exact Or.inr rfl) (by first | exact .inl rfl | exact .inr rfl)) (pgs_cons (pg_name (i := 4) sc_law_no_rules.nd rfl (by first | exact Or.inl rfl | exact Or.inr rfl) (by first | exact .inl rfl | exact .inr rfl)) pgs_nil)))) (ss_cons (s_set 5 sc_law_no_rules.nd rfl (by first | exact Or.inl rfl | exact Or.inr rfl) (s_cb cd_len call_len rfl T.m_len (by decide +kernel) (sa_cons (s_idx hu1 (s_var 1 (pv 1)) s_int) sa_nil))) (ss_cons (s_set 6 sc_law_no_rules.nd rfl (by first | exact Or.inl rfl | exact Or.inr rfl) (s_call c_law_spare r_law_spare (takes_of rfl rfl rfl rfl) rfl T.g_law_spare T.F_law_spare.kp T.b_law_spare (sa_cons (s_idx hu1 (s_var 1 (pv 1)) s_int) sa_nil))) (ss_cons (s_set 7 sc_law_no_rules.nd rfl (by first | exact Or.inl rfl | exact Or.inr rfl) (s_tup sa_nil)) (ss_cons (s_for (passes_of rfl) rfl (si_rng1 rfl T.m_range (sa_cons s_int sa_nil)) (sg_nm 8 sc_law_no_rules.nd rfl (by first | exact Or.inl rfl | exact Or.inr rfl)) (ss_one (s_set 7 sc_law_no_rules.nd rfl (by first | exact Or.inl rfl | exact Or.inr rfl) (s_tup (sa_cons (s_var 7 (pv 7)) sa_nil))))) (ss_cons (s_set 9 sc_law_no_rules.nd rfl (by first | exact Or.inl rfl | exact Or.inr rfl) (s_lst (sa_cons s_non (sa_cons (s_var 5 (pv 5)) (sa_cons (s_var 3 (pv 3)) (sa_cons (s_var 4 (pv 4)) (sa_cons (s_tup sa_nil) (sa_cons (s_tup (sa_cons (s_var 3 (pv 3)) sa_nil)) (sa_cons (s_tup (sa_cons (s_var 3 (pv 3)) (sa_cons (s_var 4 (pv 4)) (sa_cons (s_tup sa_nil) sa_nil)))) (sa_cons (s_tup (sa_cons (s_var 4 (pv 4)) (sa_cons (s_var 3 (pv 3)) sa_nil))) (sa_cons (s_tup (sa_cons (s_var 3 (pv 3)) (sa_cons s_non sa_nil))) (sa_cons (s_tup (sa_cons s_non (sa_cons (s_var 4 (pv 4)) sa_nil))) (sa_cons (s_tup (sa_cons (s_var 3 (pv 3)) (sa_cons (s_add (s_var 4 (pv 4)) (s_tup (sa_cons s_int sa_nil))) sa_nil))) (sa_cons (s_tup (sa_cons (s_ct cd_tuple call_tuple_of rfl T.m_tuple (by decide +kernel) (sa_cons (s_lc (own := [("one", 12)]) rfl sc_law_no_rules.nd (si_any (s_var 3 (pv 3))) (blkOk_by (by kernel_rfl)) (by decide) (fun _ _ _ _ _ => sg_nm 12 sc_law_no_rules.nd rfl (by first | exact Or.inl rfl | exact Or.inr rfl)) (fun _ _ _ _ _ => spt_nil) (fun _ _ _ _ _ => s_var 12 (pv 12))) sa_nil)) (sa_cons (s_var 4 (pv 4)) sa_nil))) (sa_cons (s_tup (sa_cons (s_add (s_var 3 (pv 3)) (s_var 6 (pv 6))) (sa_cons (s_add (s_var 4 (pv 4)) (s_tup (sa_cons s_int sa_nil))) sa_nil))) (sa_cons (s_tup (sa_cons (s_add (s_var 6 (pv 6)) (s_var 3 (pv 3))) (sa_cons (s_add (s_tup (sa_cons s_int sa_nil)) (s_var 4 (pv 4))) sa_nil))) (sa_cons (s_tup (sa_cons (s_var 3 (pv 3)) (sa_cons (s_mul (s_str [48] (by decide +kernel)) (s_cb cd_len call_len rfl T.m_len (by decide +kernel) (sa_cons (s_var 3 (pv 3)) sa_nil))) sa_nil))) (sa_cons (s_tup (sa_cons (s_var 3 (pv 3)) (sa_cons (s_var 7 (pv 7)) sa_nil))) sa_nil)))))))))))))))))) (ss_cons (s_if (st_cmp ((op_eqAll hu)) od_eq ((nomark _)) (s_var 3 (pv 3)) (s_str [] (by decide +kernel))) (ss_one (s_ret (s_var 9 (pv 9)))) ss_nil) (ss_cons (s_set 10 sc_law_no_rules.nd rfl (by first | exact Or.inl rfl | exact Or.inr rfl) (s_call c_law_take r_law_take (takes_of rfl rfl rfl rfl) rfl T.g_law_take T.F_law_take.kp T.b_law_take (sa_cons (s_var 0 (pv 0)) (sa_cons (s_cb cd_len call_len rfl T.m_len (by decide +kernel) (sa_cons (s_var 3 (pv 3)) sa_nil)) sa_nil)))) (ss_cons (s_for (passes_of rfl) rfl (si_any (s_lst (sa_cons (s_var 5 (pv 5)) (sa_cons (s_neg s_int) (sa_cons (s_sub s_int (s_var 5 (pv 5))) (sa_cons s_non (sa_cons (s_ct cd_str call_str_int rfl T.m_str (by decide +kernel) (sa_cons (s_idx hu1 (s_var 4 (pv 4)) (s_var 10 (pv 10))) sa_nil)) (sa_cons (s_tup (sa_cons (s_idx hu1 (s_var 4 (pv 4)) (s_var 10 (pv 10))) sa_nil)) (sa_cons (s_var 7 (pv 7)) sa_nil))))))))) (sg_nm 11 sc_law_no_rules.nd rfl (by first | exact Or.inl rfl | exact Or.inr rfl)) (ss_one (s_expr (s_bm md_append td_lst PySem.F.plainAttrs_list PySem.F.slot_list_append PySem.F.type_list_append mt_append (s_var 9 (pv 9)) (sa_cons (s_tup (sa_cons (s_var 3 (pv 3)) (sa_cons (s_add (s_add (s_slice (s_var 4 (pv 4)) so_none (so_some (s_var 10 (pv 10)))) (s_tup (sa_cons (s_var 11 (pv 11)) sa_nil))) (s_slice (s_var 4 (pv 4)) (so_some (s_add (s_var 10 (pv 10)) s_int)) so_none)) sa_nil))) sa_nil))))) (ss_cons (s_expr (s_bm md_append td_lst PySem.F.plainAttrs_list PySem.F.slot_list_append PySem.F.type_list_append mt_append (s_var 9 (pv 9)) (sa_cons (s_tup (sa_cons (s_var 3 (pv 3)) (sa_cons (s_slice (s_var 4 (pv 4)) (so_some s_int) so_none) sa_nil))) sa_nil))) (ss_cons (s_expr (s_bm md_append td_lst PySem.F.plainAttrs_list PySem.F.slot_list_append PySem.F.type_list_append mt_append (s_var 9 (pv 9)) (sa_cons (s_tup (sa_cons (s_slice (s_var 3 (pv 3)) (so_some s_int) so_none) (sa_cons (s_var 4 (pv 4)) sa_nil))) sa_nil))) (ss_cons (s_expr (s_bm md_append td_lst PySem.F.plainAttrs_list PySem.F.slot_list_append PySem.F.type_list_append mt_append (s_var 9 (pv 9)) (sa_cons (s_tup (sa_cons (s_add (s_idx hu1 (s_var 3 (pv 3)) (s_var 10 (pv 10))) (s_var 3 (pv 3))) (sa_cons (s_add (s_tup (sa_cons s_int sa_nil)) (s_var 4 (pv 4))) sa_nil))) sa_nil))) (ss_cons (s_expr (s_bm md_append td_lst PySem.F.plainAttrs_list PySem.F.slot_list_append PySem.F.type_list_append mt_append (s_var 9 (pv 9)) (sa_cons (s_tup (sa_cons (s_add (s_var 3 (pv 3)) (s_idx hu1 (s_var 3 (pv 3)) (s_var 10 (pv 10)))) (sa_cons (s_add (s_var 4 (pv 4)) (s_tup (sa_cons s_int sa_nil))) sa_nil))) sa_nil))) (ss_cons (s_if (st_cmp op_gt od_gt ((nomark _)) (s_cb cd_len call_len rfl T.m_len (by decide +kernel) (sa_cons (s_var 3 (pv 3)) sa_nil)) s_int) (ss_one (s_expr (s_bm md_append td_lst PySem.F.plainAttrs_list PySem.F.slot_list_append PySem.F.type_list_append mt_append (s_var 9 (pv 9)) (sa_cons (s_tup (sa_cons (s_revA (s_var 3 (pv 3))) (sa_cons (s_var 4 (pv 4)) sa_nil))) sa_nil)))) ss_nil) (ss_one (s_ret (s_var 9 (pv 9)))))))))))))))))
theorem sc_law_pieces : FnScope ["cuts", "text", "places", "k"] ["cuts", "text"] (defScope S_law_pieces) := ⟨rfl, rfl, rfl, by decide +kernel, rfl, by decide +kernel, by decide +kernel⟩
def t_law_pieces : DS := dSeq (dSet 2 (dBin gAdd (dBin gAdd (dLst (dCons (dC (.int 0)) dNil)) (dLc (dIR1 (dCons (dCB gLen (dCons (dVar 1) dNil)) dNil)) (.nm 3) (dBT (dIn (dIx (dVar 1) (dVar 3)) (dVar 0))) (dBin gAdd (dVar 3) (dC (.int 1))) ([3]))) (dLst (dCons (dCB gLen (dCons (dVar 1) dNil)) dNil)))) (dRet (dCB gTuple (dCons (dLc (dIR1 (dCons (dBin gSub (dCB gLen (dCons (dVar 2) dNil)) (dC (.int 1))) dNil)) (.nm 3) dYes (dSl (dVar 1) (dOSome (dIx (dVar 2) (dVar 3))) (dOSome (dIx (dVar 2) (dBin gAdd (dVar 3) (dC (.int 1)))))) ([3])) dNil)))
def m_law_pieces : DF := runFn 2 4 t_law_pieces
theorem ok_law_pieces (T : Gs K mg ad) : FnOk PW w K mg base (L2.CX PW w) (1) ad.a_law_pieces ad.d_law_pieces ["cuts", "text"] (spD K mg m_law_pieces) := by
  refine ok_fn T.F_law_pieces sc_law_pieces (by decide) fun cdv A outer s H E hr => ?_
  have hu := hr.units
  have hu1 := hu_of hr
  exact ss_cons (s_set 2 sc_law_pieces.nd rfl (by first | exact Or.inl rfl | exact Or.inr rfl) (s_add (s_add (s_lst (sa_cons s_int sa_nil)) (s_lc (own := [("k", 3)]) rfl sc_law_pieces.nd (si_rng1 rfl T.m_range (sa_cons (s_cb cd_len call_len rfl T.m_len (by decide +kernel) (sa_cons (s_var 1 (pv 1)) sa_nil)) sa_nil)) (blkOk_by (by kernel_rfl)) (by decide) (fun _ _ _ _ _ => sg_nm 3 sc_law_pieces.nd rfl (by first | exact Or.inl rfl | exact Or.inr rfl)) (fun _ _ _ _ _ => spt_one (st_in hu1 (s_idx hu1 (s_var 1 (pv 1)) (s_var 3 (pv 3))) (s_var 0 (pv 0)))) (fun _ _ _ _ _ => s_add (s_var 3 (pv 3)) s_int))) (s_lst (sa_cons (s_cb cd_len call_len rfl T.m_len (by decide +kernel) (sa_cons (s_var 1 (pv 1)) sa_nil)) sa_nil)))) (ss_one (s_ret (s_ct cd_tuple call_tuple_of rfl T.m_tuple (by decide +kernel) (sa_cons (s_lc (own := [("k", 3)]) rfl sc_law_pieces.nd (si_rng1 rfl T.m_range (sa_cons (s_sub (s_cb cd_len call_len rfl T.m_len (by decide +kernel) (sa_cons (s_var 2 (pv 2)) sa_nil)) s_int) sa_nil)) (blkOk_by (by kernel_rfl)) (by decide) (fun _ _ _ _ _ => sg_nm 3 sc_law_pieces.nd rfl (by first | exact Or.inl rfl | exact Or.inr rfl)) (fun _ _ _ _ _ => spt_nil) (fun _ _ _ _ _ => s_slice (s_var 1 (pv 1)) (so_some (s_idx hu1 (s_var 2 (pv 2)) (s_var 3 (pv 3)))) (so_some (s_idx hu1 (s_var 2 (pv 2)) (s_add (s_var 3 (pv 3)) s_int))))) sa_nil))))
theorem sc_law_apart : FnScope ["machine", "rule", "text", "signs", "go", "tell", "end", "standing", "marks", "sign", "place"] ["machine", "rule", "text"] (defScope S_law_apart) := ⟨rfl, rfl, rfl, by decide +kernel, rfl, by decide +kernel, by decide +kernel⟩
def t_law_apart : DS := dSeq (dAsg (.tp [3, 4, 5, 6]) (dVar 0)) (dSeq (dSet 7 (dC (.int 0))) (dSeq (dSet 8 (dLst dNil)) (dSeq (dFor (dIA (dVar 2)) (.nm 9) (dSeq (dSet 10 (dBM isStr gIndex (dVar 3) (dCons (dVar 9) dNil))) (dSeq (dExpr (dBM isLst gAppend (dVar 8) (dCons (dIx (dIx (dVar 5) (dVar 7)) (dVar 10)) dNil))) (dSeq (dSet 7 (dIx (dIx (dVar 4) (dVar 7)) (dVar 10))) (dIf (dBT (dIn (dVar 9) (dIx (dVar 1) (dC (.int 0))))) (dSet 7 (dIx (dIx (dVar 1) (dC (.int 1))) (dBM isStr gIndex (dIx (dVar 1) (dC (.int 0))) (dCons (dVar 9) dNil)))) dNext))))) (dRet (dTup (dCons (dCB gTuple (dCons (dVar 8) dNil)) (dCons (dIx (dVar 6) (dVar 7)) dNil)))))))
def m_law_apart : DF := runFn 3 11 t_law_apart
theorem ok_law_apart (T : Gs K mg ad) : FnOk PW w K mg base (L2.CX PW w) (1) ad.a_law_apart ad.d_law_apart ["machine", "rule", "text"] (spD K mg m_law_apart) := by
  refine ok_fn T.F_law_apart sc_law_apart (by decide) fun cdv A outer s H E hr => ?_
  have hu := hr.units
  have hu1 := hu_of hr
  exact ss_cons (s_asg (s_var 0 (pv 0)) (sg_tp rfl (pgs_cons (pg_name (i := 3) sc_law_apart.nd rfl (by first | exact Or.inl rfl | exact Or.inr rfl) (by first | exact .inl rfl | exact .inr rfl)) (pgs_cons (pg_name (i := 4) sc_law_apart.nd rfl (by first | exact Or.inl rfl | exact Or.inr rfl) (by first | exact .inl rfl | exact .inr rfl)) (pgs_cons (pg_name (i := 5) sc_law_apart.nd rfl (by first | exact Or.inl rfl | exact Or.inr rfl) (by first | exact .inl rfl | exact .inr rfl)) (pgs_cons (pg_name (i := 6) sc_law_apart.nd rfl (by first | exact Or.inl rfl | exact Or.inr rfl) (by first | exact .inl rfl | exact .inr rfl)) pgs_nil)))))) (ss_cons (s_set 7 sc_law_apart.nd rfl (by first | exact Or.inl rfl | exact Or.inr rfl) s_int) (ss_cons (s_set 8 sc_law_apart.nd rfl (by first | exact Or.inl rfl | exact Or.inr rfl) (s_lst sa_nil)) (ss_cons (s_for (passes_of rfl) rfl (si_any (s_var 2 (pv 2))) (sg_nm 9 sc_law_apart.nd rfl (by first | exact Or.inl rfl | exact Or.inr rfl)) (ss_cons (s_set 10 sc_law_apart.nd rfl (by first | exact Or.inl rfl | exact Or.inr rfl) (s_bm md_index td_str PySem.F.plainAttrs_str PySem.F.slot_str_index PySem.F.type_str_index mt_sindex (s_var 3 (pv 3)) (sa_cons (s_var 9 (pv 9)) sa_nil))) (ss_cons (s_expr (s_bm md_append td_lst PySem.F.plainAttrs_list PySem.F.slot_list_append PySem.F.type_list_append mt_append (s_var 8 (pv 8)) (sa_cons (s_idx hu1 (s_idx hu1 (s_var 5 (pv 5)) (s_var 7 (pv 7))) (s_var 10 (pv 10))) sa_nil))) (ss_cons (s_set 7 sc_law_apart.nd rfl (by first | exact Or.inl rfl | exact Or.inr rfl) (s_idx hu1 (s_idx hu1 (s_var 4 (pv 4)) (s_var 7 (pv 7))) (s_var 10 (pv 10)))) (ss_one (s_if (st_in hu1 (s_var 9 (pv 9)) (s_idx hu1 (s_var 1 (pv 1)) s_int)) (ss_one (s_set 7 sc_law_apart.nd rfl (by first | exact Or.inl rfl | exact Or.inr rfl) (s_idx hu1 (s_idx hu1 (s_var 1 (pv 1)) s_int) (s_bm md_index td_str PySem.F.plainAttrs_str PySem.F.slot_str_index PySem.F.type_str_index mt_sindex (s_idx hu1 (s_var 1 (pv 1)) s_int) (sa_cons (s_var 9 (pv 9)) sa_nil))))) ss_nil)))))) (ss_one (s_ret (s_tup (sa_cons (s_ct cd_tuple call_tuple_of rfl T.m_tuple (by decide +kernel) (sa_cons (s_var 8 (pv 8)) sa_nil)) (sa_cons (s_idx hu1 (s_var 6 (pv 6)) (s_var 7 (pv 7))) sa_nil))))))))
theorem sc_law_read : FnScope ["machine", "rule", "text"] ["machine", "rule", "text"] (defScope S_law_read) := ⟨rfl, rfl, rfl, by decide +kernel, rfl, by decide +kernel, by decide +kernel⟩
def t_law_read : DS := dSeq (dIf (dNot (dTr (dCall (m_law_same recFuel) ([]) (dCons (dCall m_cut_text ([]) (dCons (dVar 1) (dCons (dVar 2) dNil))) (dCons (dCall m_law_pieces ([]) (dCons (dIx (dVar 1) (dC (.int 0))) (dCons (dVar 2) dNil))) dNil))))) (dRet (dC (.bl false))) dNext) (dRet (dCall (m_law_same recFuel) ([]) (dCons (dCall m_read_apart ([]) (dCons (dVar 0) (dCons (dVar 1) (dCons (dVar 2) dNil)))) (dCons (dCall m_law_apart ([]) (dCons (dVar 0) (dCons (dVar 1) (dCons (dVar 2) dNil)))) dNil))))
def m_law_read : DF := runFn 3 3 t_law_read
theorem ok_law_read (T : Gs K mg ad) : FnOk PW w K mg base (L2.CX PW w) (42) ad.a_law_read ad.d_law_read ["machine", "rule", "text"] (spD K mg m_law_read) := by
  have c_law_same := ok_law_same (w := w) (base := base) T recFuel
  have c_law_apart := ok_law_apart (w := w) (base := base) T
  have c_read_apart := ok_read_apart (w := w) (base := base) T
  have c_law_pieces := ok_law_pieces (w := w) (base := base) T
  have c_cut_text := ok_cut_text (w := w) (base := base) T
  refine ok_fn T.F_law_read sc_law_read (by decide) fun cdv A outer s H E hr => ?_
  have hu := hr.units
  have hu1 := hu_of hr
  have r_law_same := hr.mono (show recFuel + 1 ≤ 41 by first | decide | omega)
  have r_law_apart := hr.mono (show 1 ≤ 41 by first | decide | omega)
  have r_read_apart := hr.mono (show 4 ≤ 41 by first | decide | omega)
  have r_law_pieces := hr.mono (show 1 ≤ 41 by first | decide | omega)
  have r_cut_text := hr.mono (show 1 ≤ 41 by first | decide | omega)
  exact ss_cons (s_if (st_not (st_truth ((fun _ => rfl)) (s_call c_law_same r_law_same (takes_of rfl rfl rfl rfl) rfl T.g_law_same T.F_law_same.kp T.b_law_same (sa_cons (s_call c_cut_text r_cut_text (takes_of rfl rfl rfl rfl) rfl T.g_cut_text T.F_cut_text.kp T.b_cut_text (sa_cons (s_var 1 (pv 1)) (sa_cons (s_var 2 (pv 2)) sa_nil))) (sa_cons (s_call c_law_pieces r_law_pieces (takes_of rfl rfl rfl rfl) rfl T.g_law_pieces T.F_law_pieces.kp T.b_law_pieces (sa_cons (s_idx hu1 (s_var 1 (pv 1)) s_int) (sa_cons (s_var 2 (pv 2)) sa_nil))) sa_nil))))) (ss_one (s_ret s_bl)) ss_nil) (ss_one (s_ret (s_call c_law_same r_law_same (takes_of rfl rfl rfl rfl) rfl T.g_law_same T.F_law_same.kp T.b_law_same (sa_cons (s_call c_read_apart r_read_apart (takes_of rfl rfl rfl rfl) rfl T.g_read_apart T.F_read_apart.kp T.b_read_apart (sa_cons (s_var 0 (pv 0)) (sa_cons (s_var 1 (pv 1)) (sa_cons (s_var 2 (pv 2)) sa_nil)))) (sa_cons (s_call c_law_apart r_law_apart (takes_of rfl rfl rfl rfl) rfl T.g_law_apart T.F_law_apart.kp T.b_law_apart (sa_cons (s_var 0 (pv 0)) (sa_cons (s_var 1 (pv 1)) (sa_cons (s_var 2 (pv 2)) sa_nil)))) sa_nil)))))
theorem sc_law_any_text : FnScope ["pool", "signs", "text"] ["pool", "signs"] (defScope S_law_any_text) := ⟨rfl, rfl, rfl, by decide +kernel, rfl, by decide +kernel, by decide +kernel⟩
def t_law_any_text : DS := dSeq (dSet 2 (dCall m_law_text ([]) (dCons (dVar 0) (dCons (dVar 1) (dCons (dC (.int 14)) dNil))))) (dSeq (dIf (dBT (dBin gEq (dCall m_law_take ([]) (dCons (dVar 0) (dCons (dC (.int 8)) dNil))) (dC (.int 0)))) (dRet (dSl (dBin gMul (dBin gAdd (dVar 2) (dVar 1)) (dC (.int 400))) dONone (dOSome (dBin gAdd (dC (.int 390)) (dCall m_law_take ([]) (dCons (dVar 0) (dCons (dC (.int 11)) dNil))))))) dNext) (dRet (dVar 2)))
def m_law_any_text : DF := runFn 2 3 t_law_any_text
theorem ok_law_any_text (T : Gs K mg ad) : FnOk PW w K mg base (L2.CX PW w) (3) ad.a_law_any_text ad.d_law_any_text ["pool", "signs"] (spD K mg m_law_any_text) := by
  have c_law_take := ok_law_take (w := w) (base := base) T
  have c_law_text := ok_law_text (w := w) (base := base) T
  refine ok_fn T.F_law_any_text sc_law_any_text (by decide) fun cdv A outer s H E hr => ?_
  have hu := hr.units
  have hu1 := hu_of hr
  have r_law_take := hr.mono (show 1 ≤ 2 by first | decide | omega)
  have r_law_text := hr.mono (show 2 ≤ 2 by first | decide | omega)
  exact ss_cons (s_set 2 sc_law_any_text.nd rfl (by first | exact Or.inl rfl | exact Or.inr rfl) (s_call c_law_text r_law_text (takes_of rfl rfl rfl rfl) rfl T.g_law_text T.F_law_text.kp T.b_law_text (sa_cons (s_var 0 (pv 0)) (sa_cons (s_var 1 (pv 1)) (sa_cons s_int sa_nil))))) (ss_cons (s_if (st_cmp ((op_eqAll hu)) od_eq ((nomark _)) (s_call c_law_take r_law_take (takes_of rfl rfl rfl rfl) rfl T.g_law_take T.F_law_take.kp T.b_law_take (sa_cons (s_var 0 (pv 0)) (sa_cons s_int sa_nil))) s_int) (ss_one (s_ret (s_slice (s_mul (s_add (s_var 2 (pv 2)) (s_var 1 (pv 1))) s_int) so_none (so_some (s_add s_int (s_call c_law_take r_law_take (takes_of rfl rfl rfl rfl) rfl T.g_law_take T.F_law_take.kp T.b_law_take (sa_cons (s_var 0 (pv 0)) (sa_cons s_int sa_nil)))))))) ss_nil) (ss_one (s_ret (s_var 2 (pv 2)))))
theorem sc_law_error : FnScope ["machine", "rule", "text", "raised"] ["machine", "rule", "text"] (defScope S_law_error) := ⟨rfl, rfl, rfl, by decide +kernel, rfl, by decide +kernel, by decide +kernel⟩
def sx_law_error (e : DL.Er) : Option DL.D := if e.c = "TooLong" then (e.fs.lookup ("limit" : Str)).map (fun x => .tup [.str [108, 111, 110, 103], x]) else if e.c = "Unfit" then (e.fs.lookup ("part" : Str)).map (fun x => .tup [.str [117, 110, 102, 105, 116], x]) else none
def t_law_error : DS := dSeq (DX.dTryX 3 (dExpr (dCall m_read_apart ([]) (dCons (dVar 0) (dCons (dVar 1) (dCons (dVar 2) dNil))))) sx_law_error) (dRet (dTup (dCons (dC (.str [114, 101, 97, 100])) (dCons (dC .non) dNil))))
def m_law_error : DF := runFn 3 4 t_law_error
theorem ok_law_error (T : Gs K mg ad) : FnOk PW w K mg base (L2.CX PW w) (5) ad.a_law_error ad.d_law_error ["machine", "rule", "text"] (spD K mg m_law_error) := by
  have c_read_apart := ok_read_apart (w := w) (base := base) T
  refine ok_fn T.F_law_error sc_law_error (by decide) fun cdv A outer s H E hr => ?_
  have hu := hr.units
  have hu1 := hu_of hr
  have r_read_apart := hr.mono (show 4 ≤ 4 by first | decide | omega)
  exact ss_cons (DX.s_tryX (i := 3) (c := .ref ad.c_StaleError) (sx := sx_law_error) rfl rfl sc_law_error.nd rfl rfl ⟨rfl, by decide, Or.inl T.N_StaleError⟩ (takes_of rfl rfl rfl rfl) (fun W1 pn1 xe1 tk1 hp1 => ss_one (s_expr (s_call c_read_apart r_read_apart tk1 rfl T.g_read_apart T.F_read_apart.kp T.b_read_apart (sa_cons (s_var 0 (pv 0)) (sa_cons (s_var 1 (pv 1)) (sa_cons (s_var 2 (pv 2)) sa_nil)))))) (by
      intro e y cls h1 h2
      have h2 : mg e.c = some cls := h2
      unfold sx_law_error at h1
      split at h1
      · rename_i c
        rw [c, T.N_TooLong] at h2
        cases h2
        exact T.em_TooLong
      ·
        split at h1
        · rename_i c
          rw [c, T.N_Unfit] at h2
          cases h2
          exact T.em_Unfit
        ·
          cases h1) (fun e y cls a oe d pn h1 h2 hz hf => (by
      have h2 : mg e.c = some cls := h2
      unfold sx_law_error at h1
      split at h1
      · rename_i c
        rw [c, T.N_TooLong] at h2
        cases h2
        rw [Option.map_eq_some_iff] at h1
        obtain ⟨x, hx, rfl⟩ := h1
        exact DX.xs_if (b := false) (DX.x_not (b := true) (DX.x_isi T.ex_TooLong hz hf (by rfl) T.m_isinstance (by decide +kernel) (by rfl) (Or.inl (by rfl)) (pe_bltn (v := .ty "ValueError") (by rfl) T.m_ValueError (by decide +kernel) rfl) (fun _ h => h) T.kt_TooLong_ValueError)) (fun z => Bool.noConfusion z) (fun _ => DX.xs_if (b := false) (DX.x_isiN (vs := [V.ref ad.c_BadLine, V.ref ad.c_NoDeed, V.ref ad.c_NoTrial, V.ref ad.c_Overlap, V.ref ad.c_TooMany, V.ref ad.c_Unknown]) (cvs := [Value.ref ad.c_BadLine, Value.ref ad.c_NoDeed, Value.ref ad.c_NoTrial, Value.ref ad.c_Overlap, Value.ref ad.c_TooMany, Value.ref ad.c_Unknown]) T.ex_TooLong hz hf (by rfl) T.m_isinstance (by decide +kernel) (by rfl) (Or.inl (by rfl)) (pa_cons (pe_glob (v := .ref ad.c_BadLine) (by rfl) T.N_BadLine rfl) (pa_cons (pe_glob (v := .ref ad.c_NoDeed) (by rfl) T.N_NoDeed rfl) (pa_cons (pe_glob (v := .ref ad.c_NoTrial) (by rfl) T.N_NoTrial rfl) (pa_cons (pe_glob (v := .ref ad.c_Overlap) (by rfl) T.N_Overlap rfl) (pa_cons (pe_glob (v := .ref ad.c_TooMany) (by rfl) T.N_TooMany rfl) (pa_cons (pe_glob (v := .ref ad.c_Unknown) (by rfl) T.N_Unknown rfl) pa_nil)))))) (fun _ _ _ q => q) (by simp) (DX.vals_refs [ad.c_BadLine, ad.c_NoDeed, ad.c_NoTrial, ad.c_Overlap, ad.c_TooMany, ad.c_Unknown]) (DX.any_f T.kt_TooLong_BadLine (DX.any_f T.kt_TooLong_NoDeed (DX.any_f T.kt_TooLong_NoTrial (DX.any_f T.kt_TooLong_Overlap (DX.any_f T.kt_TooLong_TooMany (DX.any_f T.kt_TooLong_Unknown rfl))))))) (fun z => Bool.noConfusion z) (fun _ => DX.xs_if (b := false) (DX.x_isi T.ex_TooLong hz hf (by rfl) T.m_isinstance (by decide +kernel) (by rfl) (Or.inl (by rfl)) (pe_glob (v := .ref ad.c_Unfit) (by rfl) T.N_Unfit rfl) (fun _ h => h) T.kt_TooLong_Unfit) (fun z => Bool.noConfusion z) (fun _ => DX.xs_ret (DX.x_ifE (b := true) (DX.x_isi T.ex_TooLong hz hf (by rfl) T.m_isinstance (by decide +kernel) (by rfl) (Or.inl (by rfl)) (pe_glob (v := .ref ad.c_TooLong) (by rfl) T.N_TooLong rfl) (fun _ h => h) T.kt_TooLong_TooLong) (fun _ => DX.x_tup (hl := Nat.le_of_lt (small1000 (by simp))) (DX.xa_cons (DX.x_str [108, 111, 110, 103] (by decide +kernel)) (DX.xa_cons (DX.x_fld T.xf_TooLong T.I_TooLong.noF hz hf (by rfl) (Or.inl (by rfl)) hx) DX.xa_nil))) (fun z => Bool.noConfusion z)))))
      ·
        split at h1
        · rename_i c
          rw [c, T.N_Unfit] at h2
          cases h2
          rw [Option.map_eq_some_iff] at h1
          obtain ⟨x, hx, rfl⟩ := h1
          exact DX.xs_if (b := false) (DX.x_not (b := true) (DX.x_isi T.ex_Unfit hz hf (by rfl) T.m_isinstance (by decide +kernel) (by rfl) (Or.inl (by rfl)) (pe_bltn (v := .ty "ValueError") (by rfl) T.m_ValueError (by decide +kernel) rfl) (fun _ h => h) T.kt_Unfit_ValueError)) (fun z => Bool.noConfusion z) (fun _ => DX.xs_if (b := false) (DX.x_isiN (vs := [V.ref ad.c_BadLine, V.ref ad.c_NoDeed, V.ref ad.c_NoTrial, V.ref ad.c_Overlap, V.ref ad.c_TooMany, V.ref ad.c_Unknown]) (cvs := [Value.ref ad.c_BadLine, Value.ref ad.c_NoDeed, Value.ref ad.c_NoTrial, Value.ref ad.c_Overlap, Value.ref ad.c_TooMany, Value.ref ad.c_Unknown]) T.ex_Unfit hz hf (by rfl) T.m_isinstance (by decide +kernel) (by rfl) (Or.inl (by rfl)) (pa_cons (pe_glob (v := .ref ad.c_BadLine) (by rfl) T.N_BadLine rfl) (pa_cons (pe_glob (v := .ref ad.c_NoDeed) (by rfl) T.N_NoDeed rfl) (pa_cons (pe_glob (v := .ref ad.c_NoTrial) (by rfl) T.N_NoTrial rfl) (pa_cons (pe_glob (v := .ref ad.c_Overlap) (by rfl) T.N_Overlap rfl) (pa_cons (pe_glob (v := .ref ad.c_TooMany) (by rfl) T.N_TooMany rfl) (pa_cons (pe_glob (v := .ref ad.c_Unknown) (by rfl) T.N_Unknown rfl) pa_nil)))))) (fun _ _ _ q => q) (by simp) (DX.vals_refs [ad.c_BadLine, ad.c_NoDeed, ad.c_NoTrial, ad.c_Overlap, ad.c_TooMany, ad.c_Unknown]) (DX.any_f T.kt_Unfit_BadLine (DX.any_f T.kt_Unfit_NoDeed (DX.any_f T.kt_Unfit_NoTrial (DX.any_f T.kt_Unfit_Overlap (DX.any_f T.kt_Unfit_TooMany (DX.any_f T.kt_Unfit_Unknown rfl))))))) (fun z => Bool.noConfusion z) (fun _ => DX.xs_if (b := true) (DX.x_isi T.ex_Unfit hz hf (by rfl) T.m_isinstance (by decide +kernel) (by rfl) (Or.inl (by rfl)) (pe_glob (v := .ref ad.c_Unfit) (by rfl) T.N_Unfit rfl) (fun _ h => h) T.kt_Unfit_Unfit) (fun _ => DX.xs_ret (DX.x_ifE (b := false) (DX.x_isi T.ex_Unfit hz hf (by rfl) T.m_isinstance (by decide +kernel) (by rfl) (Or.inl (by rfl)) (pe_glob (v := .ref ad.c_TooLong) (by rfl) T.N_TooLong rfl) (fun _ h => h) T.kt_Unfit_TooLong) (fun z => Bool.noConfusion z) (fun _ => DX.x_tup (hl := Nat.le_of_lt (small1000 (by simp))) (DX.xa_cons (DX.x_str [117, 110, 102, 105, 116] (by decide +kernel)) (DX.xa_cons (DX.x_fld T.xf_Unfit T.I_Unfit.noF hz hf (by rfl) (Or.inl (by rfl)) hx) DX.xa_nil))))) (fun z => Bool.noConfusion z)))
        ·
          cases h1))) (ss_one (s_ret (s_tup (sa_cons (s_str [114, 101, 97, 100] (by decide +kernel)) (sa_cons s_non sa_nil)))))
theorem sc_law_refused : FnScope ["pool", "machine", "rule", "signs", "text", "at", "odd", "long", "wrong", "other"] ["pool", "machine", "rule"] (defScope S_law_refused) := ⟨rfl, rfl, rfl, by decide +kernel, rfl, by decide +kernel, by decide +kernel⟩
def t_law_refused : DS := dSeq (dSet 3 (dIx (dVar 1) (dC (.int 0)))) (dSeq (dSet 4 (dCall m_law_text ([]) (dCons (dVar 0) (dCons (dVar 3) (dCons (dC (.int 12)) dNil))))) (dSeq (dSet 5 (dCall m_law_take ([]) (dCons (dVar 0) (dCons (dBin gAdd (dCB gLen (dCons (dVar 4) dNil)) (dC (.int 1))) dNil)))) (dSeq (dSet 6 (dIx (dLst (dCons (dCall m_law_spare ([]) (dCons (dVar 3) dNil)) (dCons (dC (.str [45])) (dCons (dC (.str [32])) (dCons (dC (.str [10])) dNil))))) (dCall m_law_take ([]) (dCons (dVar 0) (dCons (dC (.int 4)) dNil))))) (dSeq (dSet 7 (dSl (dBin gMul (dBin gAdd (dVar 4) (dVar 3)) (dC (.int 401))) dONone (dOSome (dC (.int 401))))) (dSeq (dFor (dIA (dLst (dCons (dBin gAdd (dBin gAdd (dSl (dVar 4) dONone (dOSome (dVar 5))) (dVar 6)) (dSl (dVar 4) (dOSome (dVar 5)) dONone)) (dCons (dBin gAdd (dSl (dVar 7) dONone (dOSome (dC (.int 400)))) (dVar 6)) (dCons (dBin gAdd (dVar 6) (dVar 7)) (dCons (dC .non) (dCons (dCB gLen (dCons (dVar 4) dNil)) (dCons (dTup (dCons (dVar 4) dNil)) dNil)))))))) (.nm 8) (dIf (dNot (dTr (dCall (m_law_same recFuel) ([]) (dCons (dCall m_law_error ([]) (dCons (dVar 1) (dCons (dVar 2) (dCons (dVar 8) dNil)))) (dCons (dTup (dCons (dC (.str [117, 110, 102, 105, 116])) (dCons (dC (.str [116, 101, 120, 116])) dNil))) dNil))))) (dRet (dC (.bl false))) dNext)) (dSeq (dFor (dIA (dLst (dCons (dVar 7) (dCons (dBin gAdd (dVar 7) (dVar 4)) dNil)))) (.nm 8) (dIf (dNot (dTr (dCall (m_law_same recFuel) ([]) (dCons (dCall m_law_error ([]) (dCons (dVar 1) (dCons (dVar 2) (dCons (dVar 8) dNil)))) (dCons (dTup (dCons (dC (.str [108, 111, 110, 103])) (dCons (dC (.int 400)) dNil))) dNil))))) (dRet (dC (.bl false))) dNext)) (dSeq (dFor (dIA (dLst (dCons (dBin gAdd (dBin gAdd (dSl (dVar 4) dONone (dOSome (dVar 5))) (dVar 6)) (dSl (dVar 4) (dOSome (dVar 5)) dONone)) (dCons (dVar 6) (dCons (dVar 7) (dCons (dBin gAdd (dBin gAdd (dSl (dVar 7) dONone (dOSome (dC (.int 400)))) (dVar 6)) (dVar 4)) dNil)))))) (.nm 9) (dIf (dNot (dTr (dCall (m_law_same recFuel) ([]) (dCons (dCall m_cut_text ([]) (dCons (dVar 2) (dCons (dVar 9) dNil))) (dCons (dCall m_law_pieces ([]) (dCons (dIx (dVar 2) (dC (.int 0))) (dCons (dVar 9) dNil))) dNil))))) (dRet (dC (.bl false))) dNext)) (dRet (dCall m_law_read ([]) (dCons (dVar 1) (dCons (dVar 2) (dCons (dSl (dVar 7) dONone (dOSome (dC (.int 400)))) dNil))))))))))))
def m_law_refused : DF := runFn 3 10 t_law_refused
theorem ok_law_refused (T : Gs K mg ad) : FnOk PW w K mg base (L2.CX PW w) (43) ad.a_law_refused ad.d_law_refused ["pool", "machine", "rule"] (spD K mg m_law_refused) := by
  have c_law_read := ok_law_read (w := w) (base := base) T
  have c_law_same := ok_law_same (w := w) (base := base) T recFuel
  have c_law_pieces := ok_law_pieces (w := w) (base := base) T
  have c_cut_text := ok_cut_text (w := w) (base := base) T
  have c_law_error := ok_law_error (w := w) (base := base) T
  have c_law_spare := ok_law_spare (w := w) (base := base) T
  have c_law_take := ok_law_take (w := w) (base := base) T
  have c_law_text := ok_law_text (w := w) (base := base) T
  refine ok_fn T.F_law_refused sc_law_refused (by decide) fun cdv A outer s H E hr => ?_
  have hu := hr.units
  have hu1 := hu_of hr
  have r_law_read := hr.mono (show 42 ≤ 42 by first | decide | omega)
  have r_law_same := hr.mono (show recFuel + 1 ≤ 42 by first | decide | omega)
  have r_law_pieces := hr.mono (show 1 ≤ 42 by first | decide | omega)
  have r_cut_text := hr.mono (show 1 ≤ 42 by first | decide | omega)
  have r_law_error := hr.mono (show 5 ≤ 42 by first | decide | omega)
  have r_law_spare := hr.mono (show 1 ≤ 42 by first | decide | omega)
  have r_law_take := hr.mono (show 1 ≤ 42 by first | decide | omega)
  have r_law_text := hr.mono (show 2 ≤ 42 by first | decide | omega)
  exact ss_cons (s_set 3 sc_law_refused.nd rfl (by first | exact Or.inl rfl | exact Or.inr rfl) (s_idx hu1 (s_var 1 (pv 1)) s_int)) (ss_cons (s_set 4 sc_law_refused.nd rfl (by first | exact Or.inl rfl | exact Or.inr rfl) (s_call c_law_text r_law_text (takes_of rfl rfl rfl rfl) rfl T.g_law_text T.F_law_text.kp T.b_law_text (sa_cons (s_var 0 (pv 0)) (sa_cons (s_var 3 (pv 3)) (sa_cons s_int sa_nil))))) (ss_cons (s_set 5 sc_law_refused.nd rfl (by first | exact Or.inl rfl | exact Or.inr rfl) (s_call c_law_take r_law_take (takes_of rfl rfl rfl rfl) rfl T.g_law_take T.F_law_take.kp T.b_law_take (sa_cons (s_var 0 (pv 0)) (sa_cons (s_add (s_cb cd_len call_len rfl T.m_len (by decide +kernel) (sa_cons (s_var 4 (pv 4)) sa_nil)) s_int) sa_nil)))) (ss_cons (s_set 6 sc_law_refused.nd rfl (by first | exact Or.inl rfl | exact Or.inr rfl) (s_idx hu1 (s_lst (sa_cons (s_call c_law_spare r_law_spare (takes_of rfl rfl rfl rfl) rfl T.g_law_spare T.F_law_spare.kp T.b_law_spare (sa_cons (s_var 3 (pv 3)) sa_nil)) (sa_cons (s_str [45] (by decide +kernel)) (sa_cons (s_str [32] (by decide +kernel)) (sa_cons (s_str [10] (by decide +kernel)) sa_nil))))) (s_call c_law_take r_law_take (takes_of rfl rfl rfl rfl) rfl T.g_law_take T.F_law_take.kp T.b_law_take (sa_cons (s_var 0 (pv 0)) (sa_cons s_int sa_nil))))) (ss_cons (s_set 7 sc_law_refused.nd rfl (by first | exact Or.inl rfl | exact Or.inr rfl) (s_slice (s_mul (s_add (s_var 4 (pv 4)) (s_var 3 (pv 3))) s_int) so_none (so_some s_int))) (ss_cons (s_for (passes_of rfl) rfl (si_any (s_lst (sa_cons (s_add (s_add (s_slice (s_var 4 (pv 4)) so_none (so_some (s_var 5 (pv 5)))) (s_var 6 (pv 6))) (s_slice (s_var 4 (pv 4)) (so_some (s_var 5 (pv 5))) so_none)) (sa_cons (s_add (s_slice (s_var 7 (pv 7)) so_none (so_some s_int)) (s_var 6 (pv 6))) (sa_cons (s_add (s_var 6 (pv 6)) (s_var 7 (pv 7))) (sa_cons s_non (sa_cons (s_cb cd_len call_len rfl T.m_len (by decide +kernel) (sa_cons (s_var 4 (pv 4)) sa_nil)) (sa_cons (s_tup (sa_cons (s_var 4 (pv 4)) sa_nil)) sa_nil)))))))) (sg_nm 8 sc_law_refused.nd rfl (by first | exact Or.inl rfl | exact Or.inr rfl)) (ss_one (s_if (st_not (st_truth ((fun _ => rfl)) (s_call c_law_same r_law_same (takes_of rfl rfl rfl rfl) rfl T.g_law_same T.F_law_same.kp T.b_law_same (sa_cons (s_call c_law_error r_law_error (takes_of rfl rfl rfl rfl) rfl T.g_law_error T.F_law_error.kp T.b_law_error (sa_cons (s_var 1 (pv 1)) (sa_cons (s_var 2 (pv 2)) (sa_cons (s_var 8 (pv 8)) sa_nil)))) (sa_cons (s_tup (sa_cons (s_str [117, 110, 102, 105, 116] (by decide +kernel)) (sa_cons (s_str [116, 101, 120, 116] (by decide +kernel)) sa_nil))) sa_nil))))) (ss_one (s_ret s_bl)) ss_nil))) (ss_cons (s_for (passes_of rfl) rfl (si_any (s_lst (sa_cons (s_var 7 (pv 7)) (sa_cons (s_add (s_var 7 (pv 7)) (s_var 4 (pv 4))) sa_nil)))) (sg_nm 8 sc_law_refused.nd rfl (by first | exact Or.inl rfl | exact Or.inr rfl)) (ss_one (s_if (st_not (st_truth ((fun _ => rfl)) (s_call c_law_same r_law_same (takes_of rfl rfl rfl rfl) rfl T.g_law_same T.F_law_same.kp T.b_law_same (sa_cons (s_call c_law_error r_law_error (takes_of rfl rfl rfl rfl) rfl T.g_law_error T.F_law_error.kp T.b_law_error (sa_cons (s_var 1 (pv 1)) (sa_cons (s_var 2 (pv 2)) (sa_cons (s_var 8 (pv 8)) sa_nil)))) (sa_cons (s_tup (sa_cons (s_str [108, 111, 110, 103] (by decide +kernel)) (sa_cons s_int sa_nil))) sa_nil))))) (ss_one (s_ret s_bl)) ss_nil))) (ss_cons (s_for (passes_of rfl) rfl (si_any (s_lst (sa_cons (s_add (s_add (s_slice (s_var 4 (pv 4)) so_none (so_some (s_var 5 (pv 5)))) (s_var 6 (pv 6))) (s_slice (s_var 4 (pv 4)) (so_some (s_var 5 (pv 5))) so_none)) (sa_cons (s_var 6 (pv 6)) (sa_cons (s_var 7 (pv 7)) (sa_cons (s_add (s_add (s_slice (s_var 7 (pv 7)) so_none (so_some s_int)) (s_var 6 (pv 6))) (s_var 4 (pv 4))) sa_nil)))))) (sg_nm 9 sc_law_refused.nd rfl (by first | exact Or.inl rfl | exact Or.inr rfl)) (ss_one (s_if (st_not (st_truth ((fun _ => rfl)) (s_call c_law_same r_law_same (takes_of rfl rfl rfl rfl) rfl T.g_law_same T.F_law_same.kp T.b_law_same (sa_cons (s_call c_cut_text r_cut_text (takes_of rfl rfl rfl rfl) rfl T.g_cut_text T.F_cut_text.kp T.b_cut_text (sa_cons (s_var 2 (pv 2)) (sa_cons (s_var 9 (pv 9)) sa_nil))) (sa_cons (s_call c_law_pieces r_law_pieces (takes_of rfl rfl rfl rfl) rfl T.g_law_pieces T.F_law_pieces.kp T.b_law_pieces (sa_cons (s_idx hu1 (s_var 2 (pv 2)) s_int) (sa_cons (s_var 9 (pv 9)) sa_nil))) sa_nil))))) (ss_one (s_ret s_bl)) ss_nil))) (ss_one (s_ret (s_call c_law_read r_law_read (takes_of rfl rfl rfl rfl) rfl T.g_law_read T.F_law_read.kp T.b_law_read (sa_cons (s_var 1 (pv 1)) (sa_cons (s_var 2 (pv 2)) (sa_cons (s_slice (s_var 7 (pv 7)) so_none (so_some s_int)) sa_nil)))))))))))))
theorem sc_law : FnScope ["script", "pool", "machine", "many", "cuts", "rule", "last", "right", "wrong", "lap", "text", "sign"] ["script"] (defScope S_law) := ⟨rfl, rfl, rfl, by decide +kernel, rfl, by decide +kernel, by decide +kernel⟩
def t_law : DS := dSeq (dSet 1 (dCall m_law_pool ([]) (dCons (dVar 0) (dCons (dC (.int 0)) (dCons (dC (.int 400)) dNil))))) (dSeq (dSet 2 (dCall m_law_offered ([]) (dCons (dVar 0) (dCons (dVar 1) dNil)))) (dSeq (dSet 3 (dCB gLen (dCons (dIx (dVar 2) (dC (.int 1))) dNil))) (dSeq (dSet 4 (dCall m_law_lot ([]) (dCons (dVar 1) (dCons (dIx (dVar 2) (dC (.int 0))) dNil)))) (dSeq (dSet 5 (dTup (dCons (dVar 4) (dCons (dCB gTuple (dCons (dLc (dIA (dVar 4)) (.nm 11) dYes (dCall m_law_take ([]) (dCons (dVar 1) (dCons (dVar 3) dNil))) ([11])) dNil)) dNil)))) (dSeq (dSet 6 (dTup (dCons (dIx (dVar 2) (dC (.int 0))) (dCons (dCB gTuple (dCons (dLc (dIA (dIx (dVar 2) (dC (.int 0)))) (.nm 11) dYes (dBin gSub (dVar 3) (dC (.int 1))) ([11])) dNil)) dNil)))) (dSeq (dFor (dIA (dLst (dCons (dVar 5) (dCons (dVar 6) (dCons (dTup (dCons (dC (.str [])) (dCons (dTup dNil) dNil))) dNil))))) (.nm 7) (dIf (dBT (dBin gIsNot (dCall m_is_cut ([]) (dCons (dVar 2) (dCons (dVar 7) dNil))) (dC (.bl true)))) (dRet (dC (.bl false))) dNext)) (dSeq (dFor (dIA (dCall m_law_no_rules ([]) (dCons (dVar 1) (dCons (dVar 2) (dCons (dVar 5) dNil))))) (.nm 8) (dIf (dBT (dBin gIsNot (dCall m_is_cut ([]) (dCons (dVar 2) (dCons (dVar 8) dNil))) (dC (.bl false)))) (dRet (dC (.bl false))) dNext)) (dSeq (dFor (dIR1 (dCons (dBin gAdd (dC (.int 1)) (dCB gMin (dCons (dCB gLen (dCons (dVar 0) dNil)) (dCons (dC (.int 8)) dNil)))) dNil)) (.nm 9) (dSeq (dSet 10 (dCall m_law_any_text ([]) (dCons (dCall m_law_pool ([]) (dCons (dVar 0) (dCons (dBin gAdd (dVar 9) (dC (.int 1))) (dCons (dC (.int 40)) dNil)))) (dCons (dIx (dVar 2) (dC (.int 0))) dNil)))) (dIf (dOr (dNot (dTr (dCall m_law_read ([]) (dCons (dVar 2) (dCons (dVar 5) (dCons (dVar 10) dNil)))))) (dNot (dTr (dCall m_law_read ([]) (dCons (dVar 2) (dCons (dVar 6) (dCons (dVar 10) dNil))))))) (dRet (dC (.bl false))) dNext))) (dRet (dCall m_law_refused ([]) (dCons (dVar 1) (dCons (dVar 2) (dCons (dVar 5) dNil)))))))))))))
def m_law : DF := runFn 1 12 t_law
theorem ok_law (T : Gs K mg ad) : FnOk PW w K mg base (L2.CX PW w) (44) ad.a_law ad.d_law ["script"] (spD K mg m_law) := by
  have c_law_refused := ok_law_refused (w := w) (base := base) T
  have c_law_read := ok_law_read (w := w) (base := base) T
  have c_law_any_text := ok_law_any_text (w := w) (base := base) T
  have c_law_pool := ok_law_pool (w := w) (base := base) T
  have c_law_no_rules := ok_law_no_rules (w := w) (base := base) T
  have c_is_cut := ok_is_cut (w := w) (base := base) T
  have c_law_take := ok_law_take (w := w) (base := base) T
  have c_law_lot := ok_law_lot (w := w) (base := base) T
  have c_law_offered := ok_law_offered (w := w) (base := base) T
  refine ok_fn T.F_law sc_law (by decide) fun cdv A outer s H E hr => ?_
  have hu := hr.units
  have hu1 := hu_of hr
  have r_law_refused := hr.mono (show 43 ≤ 43 by first | decide | omega)
  have r_law_read := hr.mono (show 42 ≤ 43 by first | decide | omega)
  have r_law_any_text := hr.mono (show 3 ≤ 43 by first | decide | omega)
  have r_law_pool := hr.mono (show 2 ≤ 43 by first | decide | omega)
  have r_law_no_rules := hr.mono (show 2 ≤ 43 by first | decide | omega)
  have r_is_cut := hr.mono (show 4 ≤ 43 by first | decide | omega)
  have r_law_take := hr.mono (show 1 ≤ 43 by first | decide | omega)
  have r_law_lot := hr.mono (show 2 ≤ 43 by first | decide | omega)
  have r_law_offered := hr.mono (show 4 ≤ 43 by first | decide | omega)
  exact ss_cons (s_set 1 sc_law.nd rfl (by first | exact Or.inl rfl | exact Or.inr rfl) (s_call c_law_pool r_law_pool (takes_of rfl rfl rfl rfl) rfl T.g_law_pool T.F_law_pool.kp T.b_law_pool (sa_cons (s_var 0 (pv 0)) (sa_cons s_int (sa_cons s_int sa_nil))))) (ss_cons (s_set 2 sc_law.nd rfl (by first | exact Or.inl rfl | exact Or.inr rfl) (s_call c_law_offered r_law_offered (takes_of rfl rfl rfl rfl) rfl T.g_law_offered T.F_law_offered.kp T.b_law_offered (sa_cons (s_var 0 (pv 0)) (sa_cons (s_var 1 (pv 1)) sa_nil)))) (ss_cons (s_set 3 sc_law.nd rfl (by first | exact Or.inl rfl | exact Or.inr rfl) (s_cb cd_len call_len rfl T.m_len (by decide +kernel) (sa_cons (s_idx hu1 (s_var 2 (pv 2)) s_int) sa_nil))) (ss_cons (s_set 4 sc_law.nd rfl (by first | exact Or.inl rfl | exact Or.inr rfl) (s_call c_law_lot r_law_lot (takes_of rfl rfl rfl rfl) rfl T.g_law_lot T.F_law_lot.kp T.b_law_lot (sa_cons (s_var 1 (pv 1)) (sa_cons (s_idx hu1 (s_var 2 (pv 2)) s_int) sa_nil)))) (ss_cons (s_set 5 sc_law.nd rfl (by first | exact Or.inl rfl | exact Or.inr rfl) (s_tup (sa_cons (s_var 4 (pv 4)) (sa_cons (s_ct cd_tuple call_tuple_of rfl T.m_tuple (by decide +kernel) (sa_cons (s_lc (own := [("sign", 11)]) rfl sc_law.nd (si_any (s_var 4 (pv 4))) (blkOk_by (by kernel_rfl)) (by decide) (fun _ _ _ _ _ => sg_nm 11 sc_law.nd rfl (by first | exact Or.inl rfl | exact Or.inr rfl)) (fun _ _ _ _ _ => spt_nil) (fun _ _ _ _ _ => s_call c_law_take r_law_take takes0 rfl T.g_law_take T.F_law_take.kp T.b_law_take (sa_cons (s_var 1 (pv 1)) (sa_cons (s_var 3 (pv 3)) sa_nil)))) sa_nil)) sa_nil)))) (ss_cons (s_set 6 sc_law.nd rfl (by first | exact Or.inl rfl | exact Or.inr rfl) (s_tup (sa_cons (s_idx hu1 (s_var 2 (pv 2)) s_int) (sa_cons (s_ct cd_tuple call_tuple_of rfl T.m_tuple (by decide +kernel) (sa_cons (s_lc (own := [("sign", 11)]) rfl sc_law.nd (si_any (s_idx hu1 (s_var 2 (pv 2)) s_int)) (blkOk_by (by kernel_rfl)) (by decide) (fun _ _ _ _ _ => sg_nm 11 sc_law.nd rfl (by first | exact Or.inl rfl | exact Or.inr rfl)) (fun _ _ _ _ _ => spt_nil) (fun _ _ _ _ _ => s_sub (s_var 3 (pv 3)) s_int)) sa_nil)) sa_nil)))) (ss_cons (s_for (passes_of rfl) rfl (si_any (s_lst (sa_cons (s_var 5 (pv 5)) (sa_cons (s_var 6 (pv 6)) (sa_cons (s_tup (sa_cons (s_str [] (by decide +kernel)) (sa_cons (s_tup sa_nil) sa_nil))) sa_nil))))) (sg_nm 7 sc_law.nd rfl (by first | exact Or.inl rfl | exact Or.inr rfl)) (ss_one (s_if (st_cmp op_notAll od_isNot ((nomark _)) (s_call c_is_cut r_is_cut (takes_of rfl rfl rfl rfl) rfl T.g_is_cut T.F_is_cut.kp T.b_is_cut (sa_cons (s_var 2 (pv 2)) (sa_cons (s_var 7 (pv 7)) sa_nil))) s_bl) (ss_one (s_ret s_bl)) ss_nil))) (ss_cons (s_for (passes_of rfl) rfl (si_any (s_call c_law_no_rules r_law_no_rules (takes_of rfl rfl rfl rfl) rfl T.g_law_no_rules T.F_law_no_rules.kp T.b_law_no_rules (sa_cons (s_var 1 (pv 1)) (sa_cons (s_var 2 (pv 2)) (sa_cons (s_var 5 (pv 5)) sa_nil))))) (sg_nm 8 sc_law.nd rfl (by first | exact Or.inl rfl | exact Or.inr rfl)) (ss_one (s_if (st_cmp op_notAll od_isNot ((nomark _)) (s_call c_is_cut r_is_cut (takes_of rfl rfl rfl rfl) rfl T.g_is_cut T.F_is_cut.kp T.b_is_cut (sa_cons (s_var 2 (pv 2)) (sa_cons (s_var 8 (pv 8)) sa_nil))) s_bl) (ss_one (s_ret s_bl)) ss_nil))) (ss_cons (s_for (passes_of rfl) rfl (si_rng1 rfl T.m_range (sa_cons (s_add s_int (s_cb cd_I2 (call_min2 rfl) rfl T.m_min (by decide +kernel) (sa_cons (s_cb cd_len call_len rfl T.m_len (by decide +kernel) (sa_cons (s_var 0 (pv 0)) sa_nil)) (sa_cons s_int sa_nil)))) sa_nil)) (sg_nm 9 sc_law.nd rfl (by first | exact Or.inl rfl | exact Or.inr rfl)) (ss_cons (s_set 10 sc_law.nd rfl (by first | exact Or.inl rfl | exact Or.inr rfl) (s_call c_law_any_text r_law_any_text (takes_of rfl rfl rfl rfl) rfl T.g_law_any_text T.F_law_any_text.kp T.b_law_any_text (sa_cons (s_call c_law_pool r_law_pool (takes_of rfl rfl rfl rfl) rfl T.g_law_pool T.F_law_pool.kp T.b_law_pool (sa_cons (s_var 0 (pv 0)) (sa_cons (s_add (s_var 9 (pv 9)) s_int) (sa_cons s_int sa_nil)))) (sa_cons (s_idx hu1 (s_var 2 (pv 2)) s_int) sa_nil)))) (ss_one (s_if (st_w (sw_or (st_not (st_truth ((fun _ => rfl)) (s_call c_law_read r_law_read (takes_of rfl rfl rfl rfl) rfl T.g_law_read T.F_law_read.kp T.b_law_read (sa_cons (s_var 2 (pv 2)) (sa_cons (s_var 5 (pv 5)) (sa_cons (s_var 10 (pv 10)) sa_nil)))))) (sw_or1 (st_not (st_truth ((fun _ => rfl)) (s_call c_law_read r_law_read (takes_of rfl rfl rfl rfl) rfl T.g_law_read T.F_law_read.kp T.b_law_read (sa_cons (s_var 2 (pv 2)) (sa_cons (s_var 6 (pv 6)) (sa_cons (s_var 10 (pv 10)) sa_nil))))))))) (ss_one (s_ret s_bl)) ss_nil)))) (ss_one (s_ret (s_call c_law_refused r_law_refused (takes_of rfl rfl rfl rfl) rfl T.g_law_refused T.F_law_refused.kp T.b_law_refused (sa_cons (s_var 1 (pv 1)) (sa_cons (s_var 2 (pv 2)) (sa_cons (s_var 5 (pv 5)) sa_nil))))))))))))))
end L71
end

section
set_option Elab.async false
set_option linter.all false
set_option maxRecDepth 100000
set_option autoImplicit false
set_option maxHeartbeats 1000001
namespace L71
open PySem L2 TL DL
/-! ### drawing -/
def Pool (ds : List D) : Prop := ds.length ≤ 4000 ∧ ∀ d ∈ ds, ∃ k : Int, d = .int k
theorem Pool.drop {ds : List D} (h : Pool ds) : Pool ds.dropLast := ⟨by rw [List.length_dropLast]; have := h.1; omega, fun d hd => h.2 d (List.dropLast_subset _ hd)⟩
theorem Pool.last {ds : List D} (h : Pool ds) (hn : ds.length ≠ 0) : ∃ k : Int, ds[ds.length - 1]? = some (.int k) := by
  have e : ds[ds.length - 1]? = some (ds[ds.length - 1]'(by omega)) := List.getElem?_eq_getElem (by omega)
  obtain ⟨k, hk⟩ := h.2 _ (List.getElem_mem (l := ds) (n := ds.length - 1) (by omega))
  exact ⟨k, by rw [e, hk]⟩
theorem set_same {S : Store} {n : Nat} {c : Cell} (h : S[n]? = some c) : S.set n c = S := by
  obtain ⟨h1, h2⟩ := List.getElem?_eq_some_iff.mp h
  subst h2
  exact List.set_getElem_self h1
theorem w_take {S : Store} {n : Nat} {ds : List D} {m : Int} {Q : Vl → Store → Prop} (h : S[n]? = some (.lst ds)) (hp : Pool ds)
    (q : ∀ (k : Int) (ds' : List D), Pool ds' → 0 ≤ k → (k < m ∨ k = 0) → Q (.d (.int k)) (S.set n (.lst ds'))) : okR (m_law_take [.l n, .d (.int m)] S) Q := by
  unfold m_law_take
  refine w_runFn rfl ?_
  unfold t_law_take
  simp only [w_dSeq, w_dSet, w_dExpr, w_dRet, w_dRetN, w_dNext, w_dBrk, w_dCnt, w_dIf, w_dAsg, w_dPar, w_dParN, w_dPut, w_dC, w_dVar, w_dBin, w_dUn, w_dCB, w_dNil, w_dCons, w_dCall, w_dBT, w_dTr, w_dNot, w_dAnd, w_dOr, w_dAndV, w_dOrV, w_dNotV, w_dIfE, w_dTup, w_dLst, w_dIx, w_dIsi, w_dIn, w_dNotIn, w_dONone, w_dOSome, w_dSl, w_dBM, w_dChain, w_dListRg1, w_dIR1, w_dIR2, w_dIA, w_dFor, w_dLc, w_dYes, okR_ok, List.getElem?_cons_zero, List.getElem?_cons_succ, Option.some.injEq, exists_eq_left', exists_eq_left, List.map_cons, List.map_nil, List.length_cons, List.length_nil, List.replicate_succ, List.replicate_zero, List.cons_append, List.nil_append, List.append_nil, List.set_cons_zero, List.set_cons_succ, Vl.d.injEq, Vl.l.injEq, D.int.injEq, D.bl.injEq, D.str.injEq, D.tup.injEq, Nat.sub_self, Nat.reduceSub, Nat.reduceAdd, allD, Option.map_some, e_lt, e_le, e_gt, e_ge, e_sub, e_add, e_addS, e_addT, e_mul, e_mulS, e_mod, e_fdiv, e_pow, e_neg, e_eqI, e_neI, e_eqS, e_neS, e_is, e_isNot, e_lenS, e_lenT, e_lenL, e_int, e_abs, e_max, e_min, e_tupT, e_tupL, e_listS, e_listT, e_listL, e_all, e_any, e_str, e_ixT, e_ixS, e_slT, e_slS, e_slL, e_revL, e_revS, e_trB, e_inS, gc_d, e_index, at_0, at_1, at_2, at_3, at_4, at_5, lst_at h, e_isLst (lst_at h), e_pop h, true_and, List.take_length, take_set]
  have q0 : Q (.d (.int 0)) S := by
    have := q 0 ds hp (by omega) (.inr rfl)
    rwa [set_same h] at this
  by_cases c : m ≤ 1
  · simp only [c, decide_true, if_true]
    exact q0
  · simp only [c, decide_false, Bool.false_eq_true, if_false]
    by_cases c2 : ((ds.length : Int) == 0) = true
    · rw [c2]
      exact q0
    · have c3 : ((ds.length : Int) == 0) = false := by simpa using c2
      rw [c3]
      simp only [Bool.false_eq_true, if_false]
      obtain ⟨k, hk⟩ := hp.last (by simpa using c2)
      refine ⟨_, hk, ?_⟩
      simp only [e_lt, e_le, e_gt, e_ge, e_sub, e_add, e_addS, e_addT, e_mul, e_mulS, e_mod, e_fdiv, e_pow, e_neg, e_eqI, e_neI, e_eqS, e_neS, e_is, e_isNot, e_lenS, e_lenT, e_lenL, e_int, e_abs, e_max, e_min, e_tupT, e_tupL, e_listS, e_listT, e_listL, e_all, e_any, e_str, e_ixT, e_ixS, e_slT, e_slS, e_slL, e_revL, e_revS, e_trB, e_inS, gc_d, e_index, at_0, at_1, at_2, at_3, at_4, at_5, take_set]
      exact ⟨by omega, q _ _ hp.drop (Int.emod_nonneg _ (by omega)) (.inl (Int.emod_lt_of_pos _ (by omega)))⟩
theorem mulC_small {i j : Int} (hi : i.natAbs < 2 ^ 64) (hj : j.natAbs < 2 ^ 64) : mulC i j = true := by
  have l : ∀ n : Nat, n < 2 ^ 64 → n.log2 < 64 := fun n h => by
    by_cases z : n = 0
    · subst z; decide
    · exact (Nat.log2_lt z).mpr h
  have := l _ hi
  have := l _ hj
  unfold mulC
  rw [decide_eq_true_eq]
  omega
theorem mulC_big {i j : Int} (hi : i.natAbs.log2 ≤ 2000000) (hj : j.natAbs < 2 ^ 64) : mulC i j = true := by
  have l : ∀ n : Nat, n < 2 ^ 64 → n.log2 < 64 := fun n h => by
    by_cases z : n = 0
    · subst z; decide
    · exact (Nat.log2_lt z).mpr h
  have := l _ hj
  unfold mulC
  rw [decide_eq_true_eq]
  omega
theorem log2_mono {n m : Nat} (h : n ≤ m) : n.log2 ≤ m.log2 := by
  by_cases z : n = 0
  · subst z; simp
  · have h1 := Nat.log2_self_le z
    exact (Nat.le_log2 (by omega)).mpr (Nat.le_trans h1 h)
theorem w_cell {S : Store} {s : Nat} {ns : List Int} {k : Int} {Q : Vl → Store → Prop} (hs : S[s]? = some (.frz (ns.map .int))) (hb : ∀ z ∈ ns, z.natAbs.log2 ≤ 1048576) (hl : ns.length ≤ 63) (h0 : 0 ≤ k) (h1 : k ≤ 1000)
    (q : ∀ z : Int, z.natAbs.log2 ≤ 1048576 → Q (.d (.int z)) S) : okR (m_law_cell [.l s, .d (.int k)] S) Q := by
  unfold m_law_cell
  refine w_runFn rfl ?_
  unfold t_law_cell
  simp only [w_dSeq, w_dSet, w_dExpr, w_dRet, w_dRetN, w_dNext, w_dBrk, w_dCnt, w_dIf, w_dAsg, w_dPar, w_dParN, w_dPut, w_dC, w_dVar, w_dBin, w_dUn, w_dCB, w_dNil, w_dCons, w_dCall, w_dBT, w_dTr, w_dNot, w_dAnd, w_dOr, w_dAndV, w_dOrV, w_dNotV, w_dIfE, w_dTup, w_dLst, w_dIx, w_dIsi, w_dIn, w_dNotIn, w_dONone, w_dOSome, w_dSl, w_dBM, w_dChain, w_dListRg1, w_dIR1, w_dIR2, w_dIA, w_dFor, w_dLc, w_dYes, okR_ok, List.getElem?_cons_zero, List.getElem?_cons_succ, Option.some.injEq, exists_eq_left', exists_eq_left, List.map_cons, List.map_nil, List.length_cons, List.length_nil, List.replicate_succ, List.replicate_zero, List.cons_append, List.nil_append, List.append_nil, List.set_cons_zero, List.set_cons_succ, Vl.d.injEq, Vl.l.injEq, D.int.injEq, D.bl.injEq, D.str.injEq, D.tup.injEq, Nat.sub_self, Nat.reduceSub, Nat.reduceAdd, allD, Option.map_some, e_lt, e_le, e_gt, e_ge, e_sub, e_add, e_addS, e_addT, e_mul, e_mulS, e_mod, e_fdiv, e_pow, e_neg, e_eqI, e_neI, e_eqS, e_neS, e_is, e_isNot, e_lenS, e_lenT, e_lenL, e_int, e_abs, e_max, e_min, e_tupT, e_tupL, e_listS, e_listT, e_listL, e_all, e_any, e_str, e_ixT, e_ixS, e_slT, e_slS, e_slL, e_revL, e_revS, e_trB, e_inS, gc_d, e_index, at_0, at_1, at_2, at_3, at_4, at_5, frz_at hs, List.length_map, e_ixL (frz_at hs), List.take_length]
  by_cases c : k < (ns.length : Int)
  · simp only [c, decide_true, if_true]
    obtain ⟨m, rfl⟩ : ∃ m : Nat, k = m := ⟨k.toNat, by omega⟩
    have hm : m < ns.length := by omega
    refine ⟨.int ns[m], by rw [at_nat, List.getElem?_map, List.getElem?_eq_getElem hm]; rfl, ?_⟩
    simp only [e_lt, e_le, e_gt, e_ge, e_sub, e_add, e_addS, e_addT, e_mul, e_mulS, e_mod, e_fdiv, e_pow, e_neg, e_eqI, e_neI, e_eqS, e_neS, e_is, e_isNot, e_lenS, e_lenT, e_lenL, e_int, e_abs, e_max, e_min, e_tupT, e_tupL, e_listS, e_listT, e_listL, e_all, e_any, e_str, e_ixT, e_ixS, e_slT, e_slS, e_slL, e_revL, e_revS, e_trB, e_inS, gc_d, e_index, at_0, at_1, at_2, at_3, at_4, at_5, List.take_length]
    exact q _ (hb _ (List.getElem_mem _))
  · simp only [c, decide_false, Bool.false_eq_true, if_false]
    refine ⟨mulC_small (by decide) (by omega), mulC_small (by decide) (by omega), q _ ?_⟩
    have : (31 * k + 7 * (ns.length : Int) + 3).natAbs ≤ 2 ^ 20 := by omega
    exact Nat.le_trans (log2_mono this) (by decide)
theorem w_pool {S : Store} {s : Nat} {ns : List Int} {k many : Int} {Q : Vl → Store → Prop} (hs : S[s]? = some (.frz (ns.map .int))) (hb : ∀ z ∈ ns, z.natAbs.log2 ≤ 1048576) (hl : ns.length ≤ 63) (h0 : 0 ≤ k) (h1 : k ≤ 1000) (m0 : 0 ≤ many) (m1 : many ≤ 4000)
    (q : ∀ ds, Pool ds → Q (.l S.length) (S ++ [.lst ds])) : okR (m_law_pool [.l s, .d (.int k), .d (.int many)] S) Q := by
  unfold m_law_pool
  refine w_runFn rfl ?_
  unfold t_law_pool
  refine seq_cut (fun ρ' S' => ∃ z : Int, 0 ≤ z ∧ z.natAbs.log2 ≤ 1048576 ∧ ρ' = [some (.l s), some (.d (.int k)), some (.d (.int many)), some (.d (.int z)), none, none, none] ∧ S' = S) ?_ fun ρ1 S1 ⟨z, z0, z1, e1, e2⟩ => ?_
  · simp only [w_dSeq, w_dSet, w_dExpr, w_dRet, w_dRetN, w_dNext, w_dBrk, w_dCnt, w_dIf, w_dAsg, w_dPar, w_dParN, w_dPut, w_dC, w_dVar, w_dBin, w_dUn, w_dCB, w_dNil, w_dCons, w_dCall, w_dBT, w_dTr, w_dNot, w_dAnd, w_dOr, w_dAndV, w_dOrV, w_dNotV, w_dIfE, w_dTup, w_dLst, w_dIx, w_dIsi, w_dIn, w_dNotIn, w_dONone, w_dOSome, w_dSl, w_dBM, w_dChain, w_dListRg1, w_dIR1, w_dIR2, w_dIA, w_dFor, w_dLc, w_dYes, okR_ok, List.getElem?_cons_zero, List.getElem?_cons_succ, Option.some.injEq, exists_eq_left', exists_eq_left, List.map_cons, List.map_nil, List.length_cons, List.length_nil, List.replicate_succ, List.replicate_zero, List.cons_append, List.nil_append, List.append_nil, List.set_cons_zero, List.set_cons_succ, Vl.d.injEq, Vl.l.injEq, D.int.injEq, D.bl.injEq, D.str.injEq, D.tup.injEq, Nat.sub_self, Nat.reduceSub, Nat.reduceAdd, allD, Option.map_some]
    refine w_cell hs hb hl h0 h1 fun z hz => ?_
    simp only [w_dSeq, w_dSet, w_dExpr, w_dRet, w_dRetN, w_dNext, w_dBrk, w_dCnt, w_dIf, w_dAsg, w_dPar, w_dParN, w_dPut, w_dC, w_dVar, w_dBin, w_dUn, w_dCB, w_dNil, w_dCons, w_dCall, w_dBT, w_dTr, w_dNot, w_dAnd, w_dOr, w_dAndV, w_dOrV, w_dNotV, w_dIfE, w_dTup, w_dLst, w_dIx, w_dIsi, w_dIn, w_dNotIn, w_dONone, w_dOSome, w_dSl, w_dBM, w_dChain, w_dListRg1, w_dIR1, w_dIR2, w_dIA, w_dFor, w_dLc, w_dYes, okR_ok, List.getElem?_cons_zero, List.getElem?_cons_succ, Option.some.injEq, exists_eq_left', exists_eq_left, List.map_cons, List.map_nil, List.length_cons, List.length_nil, List.replicate_succ, List.replicate_zero, List.cons_append, List.nil_append, List.append_nil, List.set_cons_zero, List.set_cons_succ, Vl.d.injEq, Vl.l.injEq, D.int.injEq, D.bl.injEq, D.str.injEq, D.tup.injEq, Nat.sub_self, Nat.reduceSub, Nat.reduceAdd, allD, Option.map_some, e_lt, e_le, e_gt, e_ge, e_sub, e_add, e_addS, e_addT, e_mul, e_mulS, e_mod, e_fdiv, e_pow, e_neg, e_eqI, e_neI, e_eqS, e_neS, e_is, e_isNot, e_lenS, e_lenT, e_lenL, e_int, e_abs, e_max, e_min, e_tupT, e_tupL, e_listS, e_listT, e_listL, e_all, e_any, e_str, e_ixT, e_ixS, e_slT, e_slS, e_slL, e_revL, e_revS, e_trB, e_inS, gc_d, e_index, at_0, at_1, at_2, at_3, at_4, at_5]
    refine ⟨_, ?_, ?_, rfl, trivial⟩
    · split <;> omega
    · split
      · rw [Int.natAbs_neg]; exact hz
      · exact hz
  subst e1 e2
  refine seq_cut (fun ρ' S' => ρ' = [some (.l s), some (.d (.int k)), some (.d (.int many)), some (.d (.int z)), some (.l S1.length), none, none] ∧ S' = S1 ++ [.lst []]) ?_ fun ρ2 S2 ⟨e1, e2⟩ => ?_
  · simp only [w_dSeq, w_dSet, w_dExpr, w_dRet, w_dRetN, w_dNext, w_dBrk, w_dCnt, w_dIf, w_dAsg, w_dPar, w_dParN, w_dPut, w_dC, w_dVar, w_dBin, w_dUn, w_dCB, w_dNil, w_dCons, w_dCall, w_dBT, w_dTr, w_dNot, w_dAnd, w_dOr, w_dAndV, w_dOrV, w_dNotV, w_dIfE, w_dTup, w_dLst, w_dIx, w_dIsi, w_dIn, w_dNotIn, w_dONone, w_dOSome, w_dSl, w_dBM, w_dChain, w_dListRg1, w_dIR1, w_dIR2, w_dIA, w_dFor, w_dLc, w_dYes, okR_ok, List.getElem?_cons_zero, List.getElem?_cons_succ, Option.some.injEq, exists_eq_left', exists_eq_left, List.map_cons, List.map_nil, List.length_cons, List.length_nil, List.replicate_succ, List.replicate_zero, List.cons_append, List.nil_append, List.append_nil, List.set_cons_zero, List.set_cons_succ, Vl.d.injEq, Vl.l.injEq, D.int.injEq, D.bl.injEq, D.str.injEq, D.tup.injEq, Nat.sub_self, Nat.reduceSub, Nat.reduceAdd, allD, Option.map_some, e_lt, e_le, e_gt, e_ge, e_sub, e_add, e_addS, e_addT, e_mul, e_mulS, e_mod, e_fdiv, e_pow, e_neg, e_eqI, e_neI, e_eqS, e_neS, e_is, e_isNot, e_lenS, e_lenT, e_lenL, e_int, e_abs, e_max, e_min, e_tupT, e_tupL, e_listS, e_listT, e_listL, e_all, e_any, e_str, e_ixT, e_ixS, e_slT, e_slS, e_slL, e_revL, e_revS, e_trB, e_inS, gc_d, e_index, at_0, at_1, at_2, at_3, at_4, at_5]
    exact ⟨by decide, trivial, trivial⟩
  subst e1 e2
  refine seq_cut (fun ρ' S' => ∃ (z : Int) (row : List D) (v : Option Vl), 0 ≤ z ∧ z.natAbs.log2 ≤ 1048576 ∧ (∀ d ∈ row, ∃ k : Int, d = .int k) ∧ row.length ≤ many.toNat ∧ ρ' = [some (.l s), some (.d (.int k)), some (.d (.int many)), some (.d (.int z)), some (.l S1.length), none, v] ∧ S' = S1 ++ [.lst row]) ?_ fun ρ2 S2 ⟨z, row, v, z0, z1, hr, hrl, e1, e2⟩ => ?_
  · simp only [w_dSeq, w_dSet, w_dExpr, w_dRet, w_dRetN, w_dNext, w_dBrk, w_dCnt, w_dIf, w_dAsg, w_dPar, w_dParN, w_dPut, w_dC, w_dVar, w_dBin, w_dUn, w_dCB, w_dNil, w_dCons, w_dCall, w_dBT, w_dTr, w_dNot, w_dAnd, w_dOr, w_dAndV, w_dOrV, w_dNotV, w_dIfE, w_dTup, w_dLst, w_dIx, w_dIsi, w_dIn, w_dNotIn, w_dONone, w_dOSome, w_dSl, w_dBM, w_dChain, w_dListRg1, w_dIR1, w_dIR2, w_dIA, w_dFor, w_dLc, w_dYes, okR_ok, List.getElem?_cons_zero, List.getElem?_cons_succ, Option.some.injEq, exists_eq_left', exists_eq_left, List.map_cons, List.map_nil, List.length_cons, List.length_nil, List.replicate_succ, List.replicate_zero, List.cons_append, List.nil_append, List.append_nil, List.set_cons_zero, List.set_cons_succ, Vl.d.injEq, Vl.l.injEq, D.int.injEq, D.bl.injEq, D.str.injEq, D.tup.injEq, Nat.sub_self, Nat.reduceSub, Nat.reduceAdd, allD, Option.map_some, e_lt, e_le, e_gt, e_ge, e_sub, e_add, e_addS, e_addT, e_mul, e_mulS, e_mod, e_fdiv, e_pow, e_neg, e_eqI, e_neI, e_eqS, e_neS, e_is, e_isNot, e_lenS, e_lenT, e_lenL, e_int, e_abs, e_max, e_min, e_tupT, e_tupL, e_listS, e_listT, e_listL, e_all, e_any, e_str, e_ixT, e_ixS, e_slT, e_slS, e_slL, e_revL, e_revS, e_trB, e_inS, gc_d, e_index, at_0, at_1, at_2, at_3, at_4, at_5]
    refine ⟨by decide, ?_⟩
    split
    · refine ⟨many, rfl, by unfold okB; simp; omega, ?_⟩
      rw [forQ_seq]
      refine loopS_inv (fun i ρ' S' => ∃ (z : Int) (row : List D) (v : Option Vl), 0 ≤ z ∧ z.natAbs.log2 ≤ 1048576 ∧ (∀ d ∈ row, ∃ k : Int, d = .int k) ∧ row.length ≤ i ∧ ρ' = [some (.l s), some (.d (.int k)), some (.d (.int many)), some (.d (.int z)), some (.l S1.length), none, v] ∧ S' = S1 ++ [.lst row])
        ⟨z, [], none, z0, z1, by simp, by simp, rfl, rfl⟩ ?_ ?_
      · rintro i x ρ3 S3 hx ⟨z, row, v, z0, z1, hr, hrl, rfl, rfl⟩
        have hi := (List.getElem?_eq_some_iff.mp hx).1
        unfold rngV at hi
        simp at hi
        refine ⟨_, rfl, ?_⟩
        simp only [w_dSeq, w_dSet, w_dExpr, w_dRet, w_dRetN, w_dNext, w_dBrk, w_dCnt, w_dIf, w_dAsg, w_dPar, w_dParN, w_dPut, w_dC, w_dVar, w_dBin, w_dUn, w_dCB, w_dNil, w_dCons, w_dCall, w_dBT, w_dTr, w_dNot, w_dAnd, w_dOr, w_dAndV, w_dOrV, w_dNotV, w_dIfE, w_dTup, w_dLst, w_dIx, w_dIsi, w_dIn, w_dNotIn, w_dONone, w_dOSome, w_dSl, w_dBM, w_dChain, w_dListRg1, w_dIR1, w_dIR2, w_dIA, w_dFor, w_dLc, w_dYes, okR_ok, List.getElem?_cons_zero, List.getElem?_cons_succ, Option.some.injEq, exists_eq_left', exists_eq_left, List.map_cons, List.map_nil, List.length_cons, List.length_nil, List.replicate_succ, List.replicate_zero, List.cons_append, List.nil_append, List.append_nil, List.set_cons_zero, List.set_cons_succ, Vl.d.injEq, Vl.l.injEq, D.int.injEq, D.bl.injEq, D.str.injEq, D.tup.injEq, Nat.sub_self, Nat.reduceSub, Nat.reduceAdd, allD, Option.map_some, e_lt, e_le, e_gt, e_ge, e_sub, e_add, e_addS, e_addT, e_mul, e_mulS, e_mod, e_fdiv, e_pow, e_neg, e_eqI, e_neI, e_eqS, e_neS, e_is, e_isNot, e_lenS, e_lenT, e_lenL, e_int, e_abs, e_max, e_min, e_tupT, e_tupL, e_listS, e_listT, e_listL, e_all, e_any, e_str, e_ixT, e_ixS, e_slT, e_slS, e_slL, e_revL, e_revS, e_trB, e_inS, gc_d, e_index, at_0, at_1, at_2, at_3, at_4, at_5]
        split
        · simp only [w_dSeq, w_dSet, w_dExpr, w_dRet, w_dRetN, w_dNext, w_dBrk, w_dCnt, w_dIf, w_dAsg, w_dPar, w_dParN, w_dPut, w_dC, w_dVar, w_dBin, w_dUn, w_dCB, w_dNil, w_dCons, w_dCall, w_dBT, w_dTr, w_dNot, w_dAnd, w_dOr, w_dAndV, w_dOrV, w_dNotV, w_dIfE, w_dTup, w_dLst, w_dIx, w_dIsi, w_dIn, w_dNotIn, w_dONone, w_dOSome, w_dSl, w_dBM, w_dChain, w_dListRg1, w_dIR1, w_dIR2, w_dIA, w_dFor, w_dLc, w_dYes, okR_ok, List.getElem?_cons_zero, List.getElem?_cons_succ, Option.some.injEq, exists_eq_left', exists_eq_left, List.map_cons, List.map_nil, List.length_cons, List.length_nil, List.replicate_succ, List.replicate_zero, List.cons_append, List.nil_append, List.append_nil, List.set_cons_zero, List.set_cons_succ, Vl.d.injEq, Vl.l.injEq, D.int.injEq, D.bl.injEq, D.str.injEq, D.tup.injEq, Nat.sub_self, Nat.reduceSub, Nat.reduceAdd, allD, Option.map_some, e_lt, e_le, e_gt, e_ge, e_sub, e_add, e_addS, e_addT, e_mul, e_mulS, e_mod, e_fdiv, e_pow, e_neg, e_eqI, e_neI, e_eqS, e_neS, e_is, e_isNot, e_lenS, e_lenT, e_lenL, e_int, e_abs, e_max, e_min, e_tupT, e_tupL, e_listS, e_listT, e_listL, e_all, e_any, e_str, e_ixT, e_ixS, e_slT, e_slS, e_slL, e_revL, e_revS, e_trB, e_inS, gc_d, e_index, at_0, at_1, at_2, at_3, at_4, at_5, e_isLst (lst_at new_at), e_append new_at, set_new, true_and]
          refine ⟨by decide, by rw [sizeLine_eq]; omega, by unfold divC; decide, z / 997, _, _, by omega, ?_, ?_, ?_, rfl, rfl⟩
          · exact Nat.le_trans (log2_mono (by omega)) z1
          · intro d hd
            rcases List.mem_append.mp hd with hd | hd
            · exact hr d hd
            · exact ⟨_, List.mem_singleton.mp hd⟩
          · simp; omega
        · exact ⟨z, row, _, z0, z1, hr, by omega, rfl, rfl⟩
      · rintro ρ3 S3 ⟨z, row, v, z0, z1, hr, hrl, rfl, rfl⟩
        refine ⟨z, row, v, z0, z1, hr, ?_, rfl, rfl⟩
        unfold rngV at hrl
        simpa using hrl
    · exact ⟨z, [], none, z0, z1, by simp, by simp, rfl, rfl⟩
  subst e1 e2
  refine seq_cut (fun ρ' S' => ∃ st : Int, 0 ≤ st ∧ st < 2147483647 ∧ ρ' = [some (.l s), some (.d (.int k)), some (.d (.int many)), some (.d (.int z)), some (.l S1.length), some (.d (.int st)), v] ∧ S' = S1 ++ [.lst row]) ?_ fun ρ2 S2 ⟨st, st0, st1, e1, e2⟩ => ?_
  · simp only [w_dSeq, w_dSet, w_dExpr, w_dRet, w_dRetN, w_dNext, w_dBrk, w_dCnt, w_dIf, w_dAsg, w_dPar, w_dParN, w_dPut, w_dC, w_dVar, w_dBin, w_dUn, w_dCB, w_dNil, w_dCons, w_dCall, w_dBT, w_dTr, w_dNot, w_dAnd, w_dOr, w_dAndV, w_dOrV, w_dNotV, w_dIfE, w_dTup, w_dLst, w_dIx, w_dIsi, w_dIn, w_dNotIn, w_dONone, w_dOSome, w_dSl, w_dBM, w_dChain, w_dListRg1, w_dIR1, w_dIR2, w_dIA, w_dFor, w_dLc, w_dYes, okR_ok, List.getElem?_cons_zero, List.getElem?_cons_succ, Option.some.injEq, exists_eq_left', exists_eq_left, List.map_cons, List.map_nil, List.length_cons, List.length_nil, List.replicate_succ, List.replicate_zero, List.cons_append, List.nil_append, List.append_nil, List.set_cons_zero, List.set_cons_succ, Vl.d.injEq, Vl.l.injEq, D.int.injEq, D.bl.injEq, D.str.injEq, D.tup.injEq, Nat.sub_self, Nat.reduceSub, Nat.reduceAdd, allD, Option.map_some, e_lt, e_le, e_gt, e_ge, e_sub, e_add, e_addS, e_addT, e_mul, e_mulS, e_mod, e_fdiv, e_pow, e_neg, e_eqI, e_neI, e_eqS, e_neS, e_is, e_isNot, e_lenS, e_lenT, e_lenL, e_int, e_abs, e_max, e_min, e_tupT, e_tupL, e_listS, e_listT, e_listL, e_all, e_any, e_str, e_ixT, e_ixS, e_slT, e_slS, e_slL, e_revL, e_revS, e_trB, e_inS, gc_d, e_index, at_0, at_1, at_2, at_3, at_4, at_5, lst_at new_at]
    exact ⟨mulC_big (by omega) (by decide), mulC_small (by decide) (by omega), mulC_small (by decide) (by omega), by decide, _, by omega, by omega, rfl, trivial⟩
  subst e1 e2
  refine seq_cut (fun ρ' S' => ∃ st : Int, 0 ≤ st ∧ st < 2147483647 ∧ ρ' = [some (.l s), some (.d (.int k)), some (.d (.int many)), some (.d (.int z)), some (.l S1.length), some (.d (.int st)), v] ∧ S' = S1 ++ [.lst row]) ?_ fun ρ2 S2 ⟨st, st0, st1, e1, e2⟩ => ?_
  · simp only [w_dSeq, w_dSet, w_dExpr, w_dRet, w_dRetN, w_dNext, w_dBrk, w_dCnt, w_dIf, w_dAsg, w_dPar, w_dParN, w_dPut, w_dC, w_dVar, w_dBin, w_dUn, w_dCB, w_dNil, w_dCons, w_dCall, w_dBT, w_dTr, w_dNot, w_dAnd, w_dOr, w_dAndV, w_dOrV, w_dNotV, w_dIfE, w_dTup, w_dLst, w_dIx, w_dIsi, w_dIn, w_dNotIn, w_dONone, w_dOSome, w_dSl, w_dBM, w_dChain, w_dListRg1, w_dIR1, w_dIR2, w_dIA, w_dFor, w_dLc, w_dYes, okR_ok, List.getElem?_cons_zero, List.getElem?_cons_succ, Option.some.injEq, exists_eq_left', exists_eq_left, List.map_cons, List.map_nil, List.length_cons, List.length_nil, List.replicate_succ, List.replicate_zero, List.cons_append, List.nil_append, List.append_nil, List.set_cons_zero, List.set_cons_succ, Vl.d.injEq, Vl.l.injEq, D.int.injEq, D.bl.injEq, D.str.injEq, D.tup.injEq, Nat.sub_self, Nat.reduceSub, Nat.reduceAdd, allD, Option.map_some, e_lt, e_le, e_gt, e_ge, e_sub, e_add, e_addS, e_addT, e_mul, e_mulS, e_mod, e_fdiv, e_pow, e_neg, e_eqI, e_neI, e_eqS, e_neS, e_is, e_isNot, e_lenS, e_lenT, e_lenL, e_int, e_abs, e_max, e_min, e_tupT, e_tupL, e_listS, e_listT, e_listL, e_all, e_any, e_str, e_ixT, e_ixS, e_slT, e_slS, e_slL, e_revL, e_revS, e_trB, e_inS, gc_d, e_index, at_0, at_1, at_2, at_3, at_4, at_5]
    exact ⟨mulC_small (by omega) (by decide), by decide, _, by omega, by omega, rfl, trivial⟩
  subst e1 e2
  refine seq_cut (fun ρ' S' => ∃ (st : Option Vl) (row : List D) (v : Option Vl), (∀ d ∈ row, ∃ k : Int, d = .int k) ∧ row.length ≤ many.toNat ∧ ρ' = [some (.l s), some (.d (.int k)), some (.d (.int many)), some (.d (.int z)), some (.l S1.length), st, v] ∧ S' = S1 ++ [.lst row]) ?_ fun ρ2 S2 ⟨st, row, v, hr, hrl, e1, e2⟩ => ?_
  · simp only [w_dSeq, w_dSet, w_dExpr, w_dRet, w_dRetN, w_dNext, w_dBrk, w_dCnt, w_dIf, w_dAsg, w_dPar, w_dParN, w_dPut, w_dC, w_dVar, w_dBin, w_dUn, w_dCB, w_dNil, w_dCons, w_dCall, w_dBT, w_dTr, w_dNot, w_dAnd, w_dOr, w_dAndV, w_dOrV, w_dNotV, w_dIfE, w_dTup, w_dLst, w_dIx, w_dIsi, w_dIn, w_dNotIn, w_dONone, w_dOSome, w_dSl, w_dBM, w_dChain, w_dListRg1, w_dIR1, w_dIR2, w_dIA, w_dFor, w_dLc, w_dYes, okR_ok, List.getElem?_cons_zero, List.getElem?_cons_succ, Option.some.injEq, exists_eq_left', exists_eq_left, List.map_cons, List.map_nil, List.length_cons, List.length_nil, List.replicate_succ, List.replicate_zero, List.cons_append, List.nil_append, List.append_nil, List.set_cons_zero, List.set_cons_succ, Vl.d.injEq, Vl.l.injEq, D.int.injEq, D.bl.injEq, D.str.injEq, D.tup.injEq, Nat.sub_self, Nat.reduceSub, Nat.reduceAdd, allD, Option.map_some, e_lt, e_le, e_gt, e_ge, e_sub, e_add, e_addS, e_addT, e_mul, e_mulS, e_mod, e_fdiv, e_pow, e_neg, e_eqI, e_neI, e_eqS, e_neS, e_is, e_isNot, e_lenS, e_lenT, e_lenL, e_int, e_abs, e_max, e_min, e_tupT, e_tupL, e_listS, e_listT, e_listL, e_all, e_any, e_str, e_ixT, e_ixS, e_slT, e_slS, e_slL, e_revL, e_revS, e_trB, e_inS, gc_d, e_index, at_0, at_1, at_2, at_3, at_4, at_5, lst_at new_at]
    refine ⟨_, rfl, by unfold okB; simp; omega, ?_⟩
    rw [forQ_seq]
    refine loopS_inv (fun i ρ' S' => ∃ (st : Int) (row' : List D) (v : Option Vl), 0 ≤ st ∧ st < 2147483647 ∧ (∀ d ∈ row', ∃ k : Int, d = .int k) ∧ row'.length ≤ row.length + i ∧ ρ' = [some (.l s), some (.d (.int k)), some (.d (.int many)), some (.d (.int z)), some (.l S1.length), some (.d (.int st)), v] ∧ S' = S1 ++ [.lst row'])
      ⟨st, row, v, st0, st1, hr, by omega, rfl, rfl⟩ ?_ ?_
    · rintro i x ρ3 S3 hx ⟨st, row', v, z0, z1, hr, hrl, rfl, rfl⟩
      have hi := (List.getElem?_eq_some_iff.mp hx).1
      unfold rngV at hi hx
      simp at hi
      rw [List.getElem?_map, List.getElem?_range (by omega)] at hx
      obtain rfl := Option.some.inj hx
      refine ⟨_, rfl, ?_⟩
      simp only [w_dSeq, w_dSet, w_dExpr, w_dRet, w_dRetN, w_dNext, w_dBrk, w_dCnt, w_dIf, w_dAsg, w_dPar, w_dParN, w_dPut, w_dC, w_dVar, w_dBin, w_dUn, w_dCB, w_dNil, w_dCons, w_dCall, w_dBT, w_dTr, w_dNot, w_dAnd, w_dOr, w_dAndV, w_dOrV, w_dNotV, w_dIfE, w_dTup, w_dLst, w_dIx, w_dIsi, w_dIn, w_dNotIn, w_dONone, w_dOSome, w_dSl, w_dBM, w_dChain, w_dListRg1, w_dIR1, w_dIR2, w_dIA, w_dFor, w_dLc, w_dYes, okR_ok, List.getElem?_cons_zero, List.getElem?_cons_succ, Option.some.injEq, exists_eq_left', exists_eq_left, List.map_cons, List.map_nil, List.length_cons, List.length_nil, List.replicate_succ, List.replicate_zero, List.cons_append, List.nil_append, List.append_nil, List.set_cons_zero, List.set_cons_succ, Vl.d.injEq, Vl.l.injEq, D.int.injEq, D.bl.injEq, D.str.injEq, D.tup.injEq, Nat.sub_self, Nat.reduceSub, Nat.reduceAdd, allD, Option.map_some, e_lt, e_le, e_gt, e_ge, e_sub, e_add, e_addS, e_addT, e_mul, e_mulS, e_mod, e_fdiv, e_pow, e_neg, e_eqI, e_neI, e_eqS, e_neS, e_is, e_isNot, e_lenS, e_lenT, e_lenL, e_int, e_abs, e_max, e_min, e_tupT, e_tupL, e_listS, e_listT, e_listL, e_all, e_any, e_str, e_ixT, e_ixS, e_slT, e_slS, e_slL, e_revL, e_revS, e_trB, e_inS, gc_d, e_index, at_0, at_1, at_2, at_3, at_4, at_5, e_isLst (lst_at new_at), e_append new_at, set_new, true_and]
      refine ⟨mulC_small (by omega) (by decide), mulC_small (by decide) (by omega), by decide, by unfold divC; decide, by decide, by rw [sizeLine_eq]; omega, _, _, _, by omega, by omega, ?_, ?_, rfl, rfl⟩
      · intro d hd
        rcases List.mem_append.mp hd with hd | hd
        · exact hr d hd
        · exact ⟨_, List.mem_singleton.mp hd⟩
      · simp; omega
    · rintro ρ3 S3 ⟨st, row', v, z0, z1, hr, hrl', rfl, rfl⟩
      refine ⟨_, row', v, hr, ?_, rfl, rfl⟩
      unfold rngV at hrl'
      simp at hrl'
      omega
  subst e1 e2
  simp only [w_dSeq, w_dSet, w_dExpr, w_dRet, w_dRetN, w_dNext, w_dBrk, w_dCnt, w_dIf, w_dAsg, w_dPar, w_dParN, w_dPut, w_dC, w_dVar, w_dBin, w_dUn, w_dCB, w_dNil, w_dCons, w_dCall, w_dBT, w_dTr, w_dNot, w_dAnd, w_dOr, w_dAndV, w_dOrV, w_dNotV, w_dIfE, w_dTup, w_dLst, w_dIx, w_dIsi, w_dIn, w_dNotIn, w_dONone, w_dOSome, w_dSl, w_dBM, w_dChain, w_dListRg1, w_dIR1, w_dIR2, w_dIA, w_dFor, w_dLc, w_dYes, okR_ok, List.getElem?_cons_zero, List.getElem?_cons_succ, Option.some.injEq, exists_eq_left', exists_eq_left, List.map_cons, List.map_nil, List.length_cons, List.length_nil, List.replicate_succ, List.replicate_zero, List.cons_append, List.nil_append, List.append_nil, List.set_cons_zero, List.set_cons_succ, Vl.d.injEq, Vl.l.injEq, D.int.injEq, D.bl.injEq, D.str.injEq, D.tup.injEq, Nat.sub_self, Nat.reduceSub, Nat.reduceAdd, allD, Option.map_some, e_lt, e_le, e_gt, e_ge, e_sub, e_add, e_addS, e_addT, e_mul, e_mulS, e_mod, e_fdiv, e_pow, e_neg, e_eqI, e_neI, e_eqS, e_neS, e_is, e_isNot, e_lenS, e_lenT, e_lenL, e_int, e_abs, e_max, e_min, e_tupT, e_tupL, e_listS, e_listT, e_listL, e_all, e_any, e_str, e_ixT, e_ixS, e_slT, e_slS, e_slL, e_revL, e_revS, e_trB, e_inS, gc_d, e_index, at_0, at_1, at_2, at_3, at_4, at_5, lst_at new_at]
  rw [gc_new (c := .lst row.reverse) (by simp) (by simp)]
  have e : (S1 ++ [Cell.lst row] ++ [Cell.lst row.reverse]).take S1.length = S1 := by simp
  rw [e]
  exact q _ ⟨by simp; omega, fun d hd => hr d (List.mem_reverse.mp hd)⟩
end L71
end

section
set_option Elab.async false
set_option linter.all false
set_option maxRecDepth 100000
set_option autoImplicit false
set_option maxHeartbeats 1000001
namespace L71
open PySem L2 TL DL
/-! ### drawn texts, machines -/
def AL : List Nat := [97, 98, 99, 100, 101, 102, 103, 104, 105, 106, 107, 108, 109, 110, 111, 112, 113, 114, 115, 116, 117, 118, 119, 120, 121, 122, 65, 66, 67, 68, 69, 70, 71, 72, 73, 74, 75, 76, 77, 78, 79, 80, 81, 82, 83, 84, 85, 86, 87, 88, 89, 90, 48, 49, 50, 51, 52, 53, 54, 55, 56, 57, 33, 35, 36, 38, 39, 40, 41, 42, 43, 44, 46, 47, 58, 59, 60, 61, 62, 63, 64, 91, 93, 94, 95, 123, 124, 125, 126, 34]
theorem AL_nodup : AL.Nodup := by decide +kernel
theorem AL_len : AL.length = 90 := by decide +kernel
theorem strs_chars : ∀ s : List Nat, strsD (chars s) = some (s.map fun c => [c])
  | [] => rfl
  | c :: s => by
    show (strsD (chars s)).map ([c] :: ·) = _
    rw [strs_chars s]
    rfl
theorem join_chars : ∀ s : List Nat, joinL [] (s.map fun c => [c]) = s
  | [] => rfl
  | [c] => rfl
  | c :: d :: s => by
    have := join_chars (d :: s)
    show [c] ++ ([] ++ joinL [] ([d] :: s.map fun c => [c])) = _
    rw [show ([d] :: s.map fun c => [c]) = (d :: s).map fun c => [c] from rfl, this]
    rfl
theorem sum_chars : ∀ s : List Nat, ((s.map fun c => [c]).map (·.length)).sum = s.length := by
  intro s
  induction s with
  | nil => rfl
  | cons c s ih => simp at ih ⊢; omega
theorem take_set_new {S T : Store} {n : Nat} {c : Cell} : ((S.set n c) ++ T).take S.length = S.set n c := by
  have : S.length = (S.set n c).length := by simp
  rw [this]
  simp
theorem set_len {S : Store} {n : Nat} {c : Cell} : (S.set n c).length = S.length := by simp
theorem lt_of_at {S : Store} {n : Nat} {c : Cell} (h : S[n]? = some c) : n < S.length := (List.getElem?_eq_some_iff.mp h).1
theorem set_new' {S : Store} {n : Nat} {c c' c2 : Cell} : ((S.set n c2) ++ [c]).set S.length c' = (S.set n c2) ++ [c'] := by
  have : S.length = (S.set n c2).length := by simp
  rw [this]
  simp
theorem new_at' {S : Store} {n : Nat} {c c2 : Cell} : ((S.set n c2) ++ [c])[S.length]? = some c := by
  have : S.length = (S.set n c2).length := by simp
  rw [this]
  simp
theorem set_old' {S T : Store} {n : Nat} {c c2 : Cell} (h : n < S.length) : ((S.set n c2) ++ T).set n c = (S.set n c) ++ T := by
  rw [set_old (by simpa using h), List.set_set]
theorem old_at' {S T : Store} {n : Nat} {c : Cell} (h : n < S.length) : ((S.set n c) ++ T)[n]? = some c := by
  rw [List.getElem?_append_left (by simpa using h)]
  exact List.getElem?_set_self h
theorem erase_perm : ∀ (l : List Nat) (k : Nat) (h : k < l.length), (l[k] :: l.eraseIdx k).Perm l
  | [], k, h => by simp at h
  | a :: l, 0, h => List.Perm.refl _
  | a :: l, k + 1, h => by
    have hk : k < l.length := by simpa using h
    have ih := erase_perm l k hk
    show (l[k] :: a :: l.eraseIdx k).Perm (a :: l)
    exact (List.Perm.swap a l[k] _).trans (List.Perm.cons a ih)
theorem chars_erase : ∀ (l : List Nat) (k : Nat), (chars l).eraseIdx k = chars (l.eraseIdx k)
  | [], k => rfl
  | a :: l, 0 => rfl
  | a :: l, k + 1 => by
    have ih := chars_erase l k
    show D.str [a] :: (chars l).eraseIdx k = D.str [a] :: chars (l.eraseIdx k)
    rw [ih]
theorem w_signs {S : Store} {n : Nat} {ds : List D} {many : Nat} {Q : Vl → Store → Prop} (h : S[n]? = some (.lst ds)) (hp : Pool ds) (hm : many ≤ 20)
    (q : ∀ (sg : List Nat) (ds' : List D), Pool ds' → sg.Nodup → (∀ c ∈ sg, c ∈ AL) → sg.length = many → Q (.d (.str sg)) (S.set n (.lst ds'))) : okR (m_law_signs [.l n, .d (.int many)] S) Q := by
  have hn := lt_of_at h
  unfold m_law_signs
  refine w_runFn rfl ?_
  unfold t_law_signs
  rw [← AL.eq_1]
  simp only [w_dSeq, w_dSet, w_dExpr, w_dRet, w_dRetN, w_dNext, w_dBrk, w_dCnt, w_dIf, w_dAsg, w_dPar, w_dParN, w_dPut, w_dC, w_dVar, w_dBin, w_dUn, w_dCB, w_dNil, w_dCons, w_dCall, w_dBT, w_dTr, w_dNot, w_dAnd, w_dOr, w_dAndV, w_dOrV, w_dNotV, w_dIfE, w_dTup, w_dLst, w_dIx, w_dIsi, w_dIn, w_dNotIn, w_dONone, w_dOSome, w_dSl, w_dBM, w_dChain, w_dListRg1, w_dIR1, w_dIR2, w_dIA, w_dFor, w_dLc, w_dYes, okR_ok, List.getElem?_cons_zero, List.getElem?_cons_succ, Option.some.injEq, exists_eq_left', exists_eq_left, List.map_cons, List.map_nil, List.length_cons, List.length_nil, List.replicate_succ, List.replicate_zero, List.cons_append, List.nil_append, List.append_nil, List.set_cons_zero, List.set_cons_succ, Vl.d.injEq, Vl.l.injEq, D.int.injEq, D.bl.injEq, D.str.injEq, D.tup.injEq, Nat.sub_self, Nat.reduceSub, Nat.reduceAdd, allD, Option.map_some, e_lt, e_le, e_gt, e_ge, e_sub, e_add, e_addS, e_addT, e_mul, e_mulS, e_mod, e_fdiv, e_pow, e_neg, e_eqI, e_neI, e_eqS, e_neS, e_is, e_isNot, e_lenS, e_lenT, e_lenL, e_int, e_abs, e_max, e_min, e_tupT, e_tupL, e_listS, e_listT, e_listL, e_all, e_any, e_str, e_ixT, e_ixS, e_slT, e_slS, e_slL, e_revL, e_revS, e_trB, e_inS, gc_d, e_index, at_0, at_1, at_2, at_3, at_4, at_5]
  refine ⟨by rw [AL_len]; decide, many, rfl, by unfold okB; simp; omega, ?_⟩
  rw [forQ_seq]
  refine loopS_inv (fun i ρ' S' => ∃ (ds : List D) (left sg : List Nat) (v : Option Vl), Pool ds ∧ (sg ++ left).Perm AL ∧ sg.length = i ∧ ρ' = [some (.l n), some (.d (.int many)), some (.l S.length), some (.d (.str sg)), v] ∧ S' = S.set n (.lst ds) ++ [.lst (chars left)])
    ⟨ds, AL, [], none, hp, by simp, rfl, rfl, by rw [set_same h]⟩ ?_ ?_
  · rintro i x ρ1 S1 hx ⟨ds, left, sg, v, hp, hperm, hsg, rfl, rfl⟩
    have hi := (List.getElem?_eq_some_iff.mp hx).1
    unfold rngV at hi
    simp at hi
    have hlen := hperm.length_eq
    rw [AL_len, List.length_append, hsg] at hlen
    refine ⟨_, rfl, ?_⟩
    simp only [w_dSeq, w_dSet, w_dExpr, w_dRet, w_dRetN, w_dNext, w_dBrk, w_dCnt, w_dIf, w_dAsg, w_dPar, w_dParN, w_dPut, w_dC, w_dVar, w_dBin, w_dUn, w_dCB, w_dNil, w_dCons, w_dCall, w_dBT, w_dTr, w_dNot, w_dAnd, w_dOr, w_dAndV, w_dOrV, w_dNotV, w_dIfE, w_dTup, w_dLst, w_dIx, w_dIsi, w_dIn, w_dNotIn, w_dONone, w_dOSome, w_dSl, w_dBM, w_dChain, w_dListRg1, w_dIR1, w_dIR2, w_dIA, w_dFor, w_dLc, w_dYes, okR_ok, List.getElem?_cons_zero, List.getElem?_cons_succ, Option.some.injEq, exists_eq_left', exists_eq_left, List.map_cons, List.map_nil, List.length_cons, List.length_nil, List.replicate_succ, List.replicate_zero, List.cons_append, List.nil_append, List.append_nil, List.set_cons_zero, List.set_cons_succ, Vl.d.injEq, Vl.l.injEq, D.int.injEq, D.bl.injEq, D.str.injEq, D.tup.injEq, Nat.sub_self, Nat.reduceSub, Nat.reduceAdd, allD, Option.map_some, e_lt, e_le, e_gt, e_ge, e_sub, e_add, e_addS, e_addT, e_mul, e_mulS, e_mod, e_fdiv, e_pow, e_neg, e_eqI, e_neI, e_eqS, e_neS, e_is, e_isNot, e_lenS, e_lenT, e_lenL, e_int, e_abs, e_max, e_min, e_tupT, e_tupL, e_listS, e_listT, e_listL, e_all, e_any, e_str, e_ixT, e_ixS, e_slT, e_slS, e_slL, e_revL, e_revS, e_trB, e_inS, gc_d, e_index, at_0, at_1, at_2, at_3, at_4, at_5, e_isLst (lst_at new_at'), true_and, lst_at new_at']
    refine w_take (old_at' hn) hp fun k ds' hp' k0 k1 => ?_
    rw [set_old' hn]
    have hcl : (chars left).length = left.length := by simp [chars]
    obtain ⟨m, rfl⟩ : ∃ m : Nat, k = m := ⟨k.toNat, by omega⟩
    have hml : m < left.length := by omega
    refine e_popAt (x := .str [left[m]]) new_at' (by unfold chars; rw [List.getElem?_map, List.getElem?_eq_getElem hml]; rfl) (by omega) ?_
    rw [set_new']
    simp only [e_lt, e_le, e_gt, e_ge, e_sub, e_add, e_addS, e_addT, e_mul, e_mulS, e_mod, e_fdiv, e_pow, e_neg, e_eqI, e_neI, e_eqS, e_neS, e_is, e_isNot, e_lenS, e_lenT, e_lenL, e_int, e_abs, e_max, e_min, e_tupT, e_tupL, e_listS, e_listT, e_listL, e_all, e_any, e_str, e_ixT, e_ixS, e_slT, e_slS, e_slL, e_revL, e_revS, e_trB, e_inS, gc_d, e_index, at_0, at_1, at_2, at_3, at_4, at_5]
    have pm : (left[m] :: left.eraseIdx m).Perm left := erase_perm left m hml
    refine ⟨by rw [sizeLine_eq]; simp; omega, ds', left.eraseIdx m, sg ++ [left[m]], _, hp', ?_, by simp; omega, rfl, ?_⟩
    · rw [List.append_assoc]
      exact (List.Perm.append_left sg pm).trans hperm
    · rw [chars_erase]
  · rintro ρ1 S1 ⟨ds, left, sg, v, hp, hperm, hsg, rfl, rfl⟩
    simp only [w_dSeq, w_dSet, w_dExpr, w_dRet, w_dRetN, w_dNext, w_dBrk, w_dCnt, w_dIf, w_dAsg, w_dPar, w_dParN, w_dPut, w_dC, w_dVar, w_dBin, w_dUn, w_dCB, w_dNil, w_dCons, w_dCall, w_dBT, w_dTr, w_dNot, w_dAnd, w_dOr, w_dAndV, w_dOrV, w_dNotV, w_dIfE, w_dTup, w_dLst, w_dIx, w_dIsi, w_dIn, w_dNotIn, w_dONone, w_dOSome, w_dSl, w_dBM, w_dChain, w_dListRg1, w_dIR1, w_dIR2, w_dIA, w_dFor, w_dLc, w_dYes, okR_ok, List.getElem?_cons_zero, List.getElem?_cons_succ, Option.some.injEq, exists_eq_left', exists_eq_left, List.map_cons, List.map_nil, List.length_cons, List.length_nil, List.replicate_succ, List.replicate_zero, List.cons_append, List.nil_append, List.append_nil, List.set_cons_zero, List.set_cons_succ, Vl.d.injEq, Vl.l.injEq, D.int.injEq, D.bl.injEq, D.str.injEq, D.tup.injEq, Nat.sub_self, Nat.reduceSub, Nat.reduceAdd, allD, Option.map_some, e_lt, e_le, e_gt, e_ge, e_sub, e_add, e_addS, e_addT, e_mul, e_mulS, e_mod, e_fdiv, e_pow, e_neg, e_eqI, e_neI, e_eqS, e_neS, e_is, e_isNot, e_lenS, e_lenT, e_lenL, e_int, e_abs, e_max, e_min, e_tupT, e_tupL, e_listS, e_listT, e_listL, e_all, e_any, e_str, e_ixT, e_ixS, e_slT, e_slS, e_slL, e_revL, e_revS, e_trB, e_inS, gc_d, e_index, at_0, at_1, at_2, at_3, at_4, at_5, take_set_new]
    refine q sg ds hp ?_ ?_ ?_
    · exact (List.nodup_append.mp (hperm.nodup_iff.mpr AL_nodup)).1
    · exact fun c hc => hperm.subset (List.mem_append_left _ hc)
    · rw [hsg]; unfold rngV; simp
/-- a comprehension over data that draws: c the pool's place, the list that grows behind the store -/
theorem w_lot {S : Store} {n : Nat} {ds : List D} {sg : List Nat} {Q : Vl → Store → Prop} (h : S[n]? = some (.lst ds)) (hp : Pool ds) (hs : sg.length ≤ 1000)
    (q : ∀ (t : List Nat) (ds' : List D), Pool ds' → t.Sublist sg → Q (.d (.str t)) (S.set n (.lst ds'))) : okR (m_law_lot [.l n, .d (.str sg)] S) Q := by
  have hn := lt_of_at h
  unfold m_law_lot
  refine w_runFn rfl ?_
  unfold t_law_lot
  simp only [w_dSeq, w_dSet, w_dExpr, w_dRet, w_dRetN, w_dNext, w_dBrk, w_dCnt, w_dIf, w_dAsg, w_dPar, w_dParN, w_dPut, w_dC, w_dVar, w_dBin, w_dUn, w_dCB, w_dNil, w_dCons, w_dCall, w_dBT, w_dTr, w_dNot, w_dAnd, w_dOr, w_dAndV, w_dOrV, w_dNotV, w_dIfE, w_dTup, w_dLst, w_dIx, w_dIsi, w_dIn, w_dNotIn, w_dONone, w_dOSome, w_dSl, w_dBM, w_dChain, w_dListRg1, w_dIR1, w_dIR2, w_dIA, w_dFor, w_dLc, w_dYes, okR_ok, List.getElem?_cons_zero, List.getElem?_cons_succ, Option.some.injEq, exists_eq_left', exists_eq_left, List.map_cons, List.map_nil, List.length_cons, List.length_nil, List.replicate_succ, List.replicate_zero, List.cons_append, List.nil_append, List.append_nil, List.set_cons_zero, List.set_cons_succ, Vl.d.injEq, Vl.l.injEq, D.int.injEq, D.bl.injEq, D.str.injEq, D.tup.injEq, Nat.sub_self, Nat.reduceSub, Nat.reduceAdd, allD, Option.map_some]
  refine w_take h hp fun k ds1 hp1 k0 k1 => ?_
  simp only [w_dSeq, w_dSet, w_dExpr, w_dRet, w_dRetN, w_dNext, w_dBrk, w_dCnt, w_dIf, w_dAsg, w_dPar, w_dParN, w_dPut, w_dC, w_dVar, w_dBin, w_dUn, w_dCB, w_dNil, w_dCons, w_dCall, w_dBT, w_dTr, w_dNot, w_dAnd, w_dOr, w_dAndV, w_dOrV, w_dNotV, w_dIfE, w_dTup, w_dLst, w_dIx, w_dIsi, w_dIn, w_dNotIn, w_dONone, w_dOSome, w_dSl, w_dBM, w_dChain, w_dListRg1, w_dIR1, w_dIR2, w_dIA, w_dFor, w_dLc, w_dYes, okR_ok, List.getElem?_cons_zero, List.getElem?_cons_succ, Option.some.injEq, exists_eq_left', exists_eq_left, List.map_cons, List.map_nil, List.length_cons, List.length_nil, List.replicate_succ, List.replicate_zero, List.cons_append, List.nil_append, List.append_nil, List.set_cons_zero, List.set_cons_succ, Vl.d.injEq, Vl.l.injEq, D.int.injEq, D.bl.injEq, D.str.injEq, D.tup.injEq, Nat.sub_self, Nat.reduceSub, Nat.reduceAdd, allD, Option.map_some, e_lt, e_le, e_gt, e_ge, e_sub, e_add, e_addS, e_addT, e_mul, e_mulS, e_mod, e_fdiv, e_pow, e_neg, e_eqI, e_neI, e_eqS, e_neS, e_is, e_isNot, e_lenS, e_lenT, e_lenL, e_int, e_abs, e_max, e_min, e_tupT, e_tupL, e_listS, e_listT, e_listL, e_all, e_any, e_str, e_ixT, e_ixS, e_slT, e_slS, e_slL, e_revL, e_revS, e_trB, e_inS, gc_d, e_index, at_0, at_1, at_2, at_3, at_4, at_5]
  split
  · have := q sg ds1 hp1 (List.Sublist.refl _)
    rwa [take_set]
  · simp only [iaQ_s, lcQ_seq, isStr, true_and]
    refine loopC_inv (fun i S' => ∃ (ds : List D) (acc : List Nat), Pool ds ∧ acc.Sublist (sg.take i) ∧ S' = S.set n (.lst ds) ++ [.lst (chars acc)]) ⟨ds1, [], hp1, by simp, rfl⟩ ?_ ?_
    · rintro i x S1 hx ⟨ds, acc, hp, hsub, rfl⟩
      rw [List.getElem?_map] at hx
      cases e : sg[i]? with
      | none => rw [e] at hx; cases hx
      | some c =>
        rw [e] at hx
        obtain rfl := Option.some.inj hx
        have htk : sg.take (i + 1) = sg.take i ++ [c] := by rw [List.take_succ, e]; rfl
        refine ⟨_, rfl, ?_⟩
        rw [turnQ_def]
        simp only [w_dSeq, w_dSet, w_dExpr, w_dRet, w_dRetN, w_dNext, w_dBrk, w_dCnt, w_dIf, w_dAsg, w_dPar, w_dParN, w_dPut, w_dC, w_dVar, w_dBin, w_dUn, w_dCB, w_dNil, w_dCons, w_dCall, w_dBT, w_dTr, w_dNot, w_dAnd, w_dOr, w_dAndV, w_dOrV, w_dNotV, w_dIfE, w_dTup, w_dLst, w_dIx, w_dIsi, w_dIn, w_dNotIn, w_dONone, w_dOSome, w_dSl, w_dBM, w_dChain, w_dListRg1, w_dIR1, w_dIR2, w_dIA, w_dFor, w_dLc, w_dYes, okR_ok, List.getElem?_cons_zero, List.getElem?_cons_succ, Option.some.injEq, exists_eq_left', exists_eq_left, List.map_cons, List.map_nil, List.length_cons, List.length_nil, List.replicate_succ, List.replicate_zero, List.cons_append, List.nil_append, List.append_nil, List.set_cons_zero, List.set_cons_succ, Vl.d.injEq, Vl.l.injEq, D.int.injEq, D.bl.injEq, D.str.injEq, D.tup.injEq, Nat.sub_self, Nat.reduceSub, Nat.reduceAdd, allD, Option.map_some, wipeR, set_len]
        refine w_take (old_at' hn) hp fun k ds2 hp2 k0 k1 => ?_
        rw [set_old' hn]
        simp only [w_dSeq, w_dSet, w_dExpr, w_dRet, w_dRetN, w_dNext, w_dBrk, w_dCnt, w_dIf, w_dAsg, w_dPar, w_dParN, w_dPut, w_dC, w_dVar, w_dBin, w_dUn, w_dCB, w_dNil, w_dCons, w_dCall, w_dBT, w_dTr, w_dNot, w_dAnd, w_dOr, w_dAndV, w_dOrV, w_dNotV, w_dIfE, w_dTup, w_dLst, w_dIx, w_dIsi, w_dIn, w_dNotIn, w_dONone, w_dOSome, w_dSl, w_dBM, w_dChain, w_dListRg1, w_dIR1, w_dIR2, w_dIA, w_dFor, w_dLc, w_dYes, okR_ok, List.getElem?_cons_zero, List.getElem?_cons_succ, Option.some.injEq, exists_eq_left', exists_eq_left, List.map_cons, List.map_nil, List.length_cons, List.length_nil, List.replicate_succ, List.replicate_zero, List.cons_append, List.nil_append, List.append_nil, List.set_cons_zero, List.set_cons_succ, Vl.d.injEq, Vl.l.injEq, D.int.injEq, D.bl.injEq, D.str.injEq, D.tup.injEq, Nat.sub_self, Nat.reduceSub, Nat.reduceAdd, allD, Option.map_some, e_lt, e_le, e_gt, e_ge, e_sub, e_add, e_addS, e_addT, e_mul, e_mulS, e_mod, e_fdiv, e_pow, e_neg, e_eqI, e_neI, e_eqS, e_neS, e_is, e_isNot, e_lenS, e_lenT, e_lenL, e_int, e_abs, e_max, e_min, e_tupT, e_tupL, e_listS, e_listT, e_listL, e_all, e_any, e_str, e_ixT, e_ixS, e_slT, e_slS, e_slL, e_revL, e_revS, e_trB, e_inS, gc_d, e_index, at_0, at_1, at_2, at_3, at_4, at_5]
        have hal : acc.length ≤ sg.length := by
          have := hsub.length_le
          rw [List.length_take] at this
          omega
        split
        · refine ⟨.str [c], chars acc, rfl, new_at', by rw [sizeLine_eq]; unfold chars; rw [List.length_map]; omega, ds2, acc ++ [c], hp2, ?_, ?_⟩
          · rw [htk]
            exact List.Sublist.append hsub (List.Sublist.refl _)
          · rw [set_new']
            simp [chars]
        · exact ⟨ds2, acc, hp2, by rw [htk]; exact hsub.trans (List.sublist_append_left _ _), rfl⟩
    · rintro S1 ⟨ds, acc, hp, hsub, rfl⟩
      rw [List.length_map, List.take_length] at hsub
      simp only [set_len]
      rw [e_join (lst_at new_at')]
      have := hsub.length_le
      refine ⟨_, strs_chars acc, by rw [sum_chars]; simp; omega, ?_⟩
      rw [join_chars]
      simp only [e_lt, e_le, e_gt, e_ge, e_sub, e_add, e_addS, e_addT, e_mul, e_mulS, e_mod, e_fdiv, e_pow, e_neg, e_eqI, e_neI, e_eqS, e_neS, e_is, e_isNot, e_lenS, e_lenT, e_lenL, e_int, e_abs, e_max, e_min, e_tupT, e_tupL, e_listS, e_listT, e_listL, e_all, e_any, e_str, e_ixT, e_ixS, e_slT, e_slS, e_slL, e_revL, e_revS, e_trB, e_inS, gc_d, e_index, at_0, at_1, at_2, at_3, at_4, at_5, take_set_new]
      exact q acc ds hp hsub
theorem mem_at {S : Store} {n : Nat} {c : Cell} (h : n < S.length) : (S.set n c)[n]? = some c := List.getElem?_set_self h
theorem w_text {S : Store} {n most : Nat} {ds : List D} {sg : List Nat} {Q : Vl → Store → Prop} (h : S[n]? = some (.lst ds)) (hp : Pool ds) (hs : sg.length ≤ 1000) (hs0 : sg ≠ []) (hm : most ≤ 1000)
    (q : ∀ (t : List Nat) (ds' : List D), Pool ds' → (∀ c ∈ t, c ∈ sg) → t.length ≤ most → Q (.d (.str t)) (S.set n (.lst ds'))) : okR (m_law_text [.l n, .d (.str sg), .d (.int most)] S) Q := by
  have hn := lt_of_at h
  have hs1 : 1 ≤ sg.length := by
    cases sg with
    | nil => exact absurd rfl hs0
    | cons _ _ => simp
  unfold m_law_text
  refine w_runFn rfl ?_
  unfold t_law_text
  simp only [w_dSeq, w_dSet, w_dExpr, w_dRet, w_dRetN, w_dNext, w_dBrk, w_dCnt, w_dIf, w_dAsg, w_dPar, w_dParN, w_dPut, w_dC, w_dVar, w_dBin, w_dUn, w_dCB, w_dNil, w_dCons, w_dCall, w_dBT, w_dTr, w_dNot, w_dAnd, w_dOr, w_dAndV, w_dOrV, w_dNotV, w_dIfE, w_dTup, w_dLst, w_dIx, w_dIsi, w_dIn, w_dNotIn, w_dONone, w_dOSome, w_dSl, w_dBM, w_dChain, w_dListRg1, w_dIR1, w_dIR2, w_dIA, w_dFor, w_dLc, w_dYes, okR_ok, List.getElem?_cons_zero, List.getElem?_cons_succ, Option.some.injEq, exists_eq_left', exists_eq_left, List.map_cons, List.map_nil, List.length_cons, List.length_nil, List.replicate_succ, List.replicate_zero, List.cons_append, List.nil_append, List.append_nil, List.set_cons_zero, List.set_cons_succ, Vl.d.injEq, Vl.l.injEq, D.int.injEq, D.bl.injEq, D.str.injEq, D.tup.injEq, Nat.sub_self, Nat.reduceSub, Nat.reduceAdd, allD, Option.map_some, isStr, true_and, e_lt, e_le, e_gt, e_ge, e_sub, e_add, e_addS, e_addT, e_mul, e_mulS, e_mod, e_fdiv, e_pow, e_neg, e_eqI, e_neI, e_eqS, e_neS, e_is, e_isNot, e_lenS, e_lenT, e_lenL, e_int, e_abs, e_max, e_min, e_tupT, e_tupL, e_listS, e_listT, e_listL, e_all, e_any, e_str, e_ixT, e_ixS, e_slT, e_slS, e_slL, e_revL, e_revS, e_trB, e_inS, gc_d, e_index, at_0, at_1, at_2, at_3, at_4, at_5]
  refine w_take h hp fun k ds1 hp1 k0 k1 => ?_
  obtain ⟨m, rfl⟩ : ∃ m : Nat, k = m := ⟨k.toNat, by omega⟩
  refine ⟨m, rfl, by unfold okB; simp; omega, ?_⟩
  rw [lcQ_seq]
  refine loopC_inv (fun i S' => ∃ (ds : List D) (acc : List Nat), Pool ds ∧ (∀ c ∈ acc, c ∈ sg) ∧ acc.length = i ∧ S' = S.set n (.lst ds) ++ [.lst (chars acc)]) ⟨ds1, [], hp1, by simp, rfl, rfl⟩ ?_ ?_
  · rintro i x S1 hx ⟨ds, acc, hp, hsub, hal, rfl⟩
    have hi := (List.getElem?_eq_some_iff.mp hx).1
    unfold rngV at hi
    simp at hi
    refine ⟨_, rfl, ?_⟩
    rw [turnQ_def]
    simp only [w_dSeq, w_dSet, w_dExpr, w_dRet, w_dRetN, w_dNext, w_dBrk, w_dCnt, w_dIf, w_dAsg, w_dPar, w_dParN, w_dPut, w_dC, w_dVar, w_dBin, w_dUn, w_dCB, w_dNil, w_dCons, w_dCall, w_dBT, w_dTr, w_dNot, w_dAnd, w_dOr, w_dAndV, w_dOrV, w_dNotV, w_dIfE, w_dTup, w_dLst, w_dIx, w_dIsi, w_dIn, w_dNotIn, w_dONone, w_dOSome, w_dSl, w_dBM, w_dChain, w_dListRg1, w_dIR1, w_dIR2, w_dIA, w_dFor, w_dLc, w_dYes, okR_ok, List.getElem?_cons_zero, List.getElem?_cons_succ, Option.some.injEq, exists_eq_left', exists_eq_left, List.map_cons, List.map_nil, List.length_cons, List.length_nil, List.replicate_succ, List.replicate_zero, List.cons_append, List.nil_append, List.append_nil, List.set_cons_zero, List.set_cons_succ, Vl.d.injEq, Vl.l.injEq, D.int.injEq, D.bl.injEq, D.str.injEq, D.tup.injEq, Nat.sub_self, Nat.reduceSub, Nat.reduceAdd, allD, Option.map_some, wipeR, set_len, if_true, e_lt, e_le, e_gt, e_ge, e_sub, e_add, e_addS, e_addT, e_mul, e_mulS, e_mod, e_fdiv, e_pow, e_neg, e_eqI, e_neI, e_eqS, e_neS, e_is, e_isNot, e_lenS, e_lenT, e_lenL, e_int, e_abs, e_max, e_min, e_tupT, e_tupL, e_listS, e_listT, e_listL, e_all, e_any, e_str, e_ixT, e_ixS, e_slT, e_slS, e_slL, e_revL, e_revS, e_trB, e_inS, gc_d, e_index, at_0, at_1, at_2, at_3, at_4, at_5]
    refine ⟨by rw [sizeLine_eq]; omega, w_take (old_at' hn) hp fun k ds2 hp2 k0 k1 => ?_⟩
    rw [set_old' hn]
    obtain ⟨j, rfl⟩ : ∃ j : Nat, k = j := ⟨k.toNat, by omega⟩
    have hj : j < sg.length := by omega
    simp only [w_dSeq, w_dSet, w_dExpr, w_dRet, w_dRetN, w_dNext, w_dBrk, w_dCnt, w_dIf, w_dAsg, w_dPar, w_dParN, w_dPut, w_dC, w_dVar, w_dBin, w_dUn, w_dCB, w_dNil, w_dCons, w_dCall, w_dBT, w_dTr, w_dNot, w_dAnd, w_dOr, w_dAndV, w_dOrV, w_dNotV, w_dIfE, w_dTup, w_dLst, w_dIx, w_dIsi, w_dIn, w_dNotIn, w_dONone, w_dOSome, w_dSl, w_dBM, w_dChain, w_dListRg1, w_dIR1, w_dIR2, w_dIA, w_dFor, w_dLc, w_dYes, okR_ok, List.getElem?_cons_zero, List.getElem?_cons_succ, Option.some.injEq, exists_eq_left', exists_eq_left, List.map_cons, List.map_nil, List.length_cons, List.length_nil, List.replicate_succ, List.replicate_zero, List.cons_append, List.nil_append, List.append_nil, List.set_cons_zero, List.set_cons_succ, Vl.d.injEq, Vl.l.injEq, D.int.injEq, D.bl.injEq, D.str.injEq, D.tup.injEq, Nat.sub_self, Nat.reduceSub, Nat.reduceAdd, allD, Option.map_some, e_lt, e_le, e_gt, e_ge, e_sub, e_add, e_addS, e_addT, e_mul, e_mulS, e_mod, e_fdiv, e_pow, e_neg, e_eqI, e_neI, e_eqS, e_neS, e_is, e_isNot, e_lenS, e_lenT, e_lenL, e_int, e_abs, e_max, e_min, e_tupT, e_tupL, e_listS, e_listT, e_listL, e_all, e_any, e_str, e_ixT, e_ixS, e_slT, e_slS, e_slL, e_revL, e_revS, e_trB, e_inS, gc_d, e_index, at_0, at_1, at_2, at_3, at_4, at_5]
    refine ⟨by rw [sizeLine_eq]; omega, sg[j], by rw [at_nat, List.getElem?_eq_getElem hj], .str [sg[j]], chars acc, rfl, new_at', by rw [sizeLine_eq]; unfold chars; rw [List.length_map]; omega, ds2, acc ++ [sg[j]], hp2, ?_, by simp; omega, ?_⟩
    · intro c hc
      rcases List.mem_append.mp hc with hc | hc
      · exact hsub c hc
      · rw [List.mem_singleton.mp hc]; exact List.getElem_mem _
    · rw [set_new']
      simp [chars]
  · rintro S1 ⟨ds, acc, hp, hsub, hal, rfl⟩
    unfold rngV at hal
    simp at hal
    simp only [set_len]
    rw [e_join (lst_at new_at')]
    refine ⟨_, strs_chars acc, by rw [sum_chars]; simp; omega, ?_⟩
    rw [join_chars]
    simp only [e_lt, e_le, e_gt, e_ge, e_sub, e_add, e_addS, e_addT, e_mul, e_mulS, e_mod, e_fdiv, e_pow, e_neg, e_eqI, e_neI, e_eqS, e_neS, e_is, e_isNot, e_lenS, e_lenT, e_lenL, e_int, e_abs, e_max, e_min, e_tupT, e_tupL, e_listS, e_listT, e_listL, e_all, e_any, e_str, e_ixT, e_ixS, e_slT, e_slS, e_slL, e_revL, e_revS, e_trB, e_inS, gc_d, e_index, at_0, at_1, at_2, at_3, at_4, at_5, take_set_new]
    exact q acc ds hp hsub (by omega)
end L71
end

section
set_option Elab.async false
set_option linter.all false
set_option maxRecDepth 100000
set_option autoImplicit false
set_option maxHeartbeats 1000001
namespace L71
open PySem L2 TL DL
theorem mid_at {S : Store} {n : Nat} {c c2 : Cell} {G G' : Store} : (S.set n c ++ (G ++ c2 :: G'))[S.length + G.length]? = some c2 := by
  rw [List.getElem?_append_right (by simp)]
  simp
theorem mid_set {S : Store} {n : Nat} {c c2 c3 : Cell} {G G' : Store} : (S.set n c ++ (G ++ c2 :: G')).set (S.length + G.length) c3 = S.set n c ++ (G ++ c3 :: G') := by
  rw [List.set_append_right _ _ (by simp)]
  congr 1
  simp
theorem draw_lc {S : Store} {n : Nat} (hn : n < S.length) {xs : List Vl} {T : Tg} {me : DE} {ρ : DL.Env} {Q : Vl → Store → Prop} {ds0 : List D} {G : Store} (P : Nat → List D → Prop) (hp : Pool ds0) (h0 : P 0 []) (hl : ∀ i acc, P i acc → acc.length < sizeLine)
    (hs : ∀ i x acc ds G', xs[i]? = some x → P i acc → Pool ds → ∃ ρ1, T.run x ρ = some ρ1 ∧ okR (me ρ1 (S.set n (.lst ds) ++ G')) fun v S2 => ∃ d ds' G'', v = .d d ∧ Pool ds' ∧ S2 = S.set n (.lst ds') ++ (G' ++ G'') ∧ P (i + 1) (acc ++ [d]))
    (q : ∀ acc ds' G', P xs.length acc → Pool ds' → Q (.l (S.length + G.length)) (S.set n (.lst ds') ++ (G ++ .lst acc :: G'))) :
    okR (loopC T dYes me (S.length + G.length) ρ xs (S.set n (.lst ds0) ++ G ++ [.lst []])) Q := by
  refine loopC_inv (fun i S' => ∃ ds acc G', Pool ds ∧ P i acc ∧ S' = S.set n (.lst ds) ++ (G ++ .lst acc :: G')) ⟨ds0, [], [], hp, h0, by simp⟩ ?_ ?_
  · rintro i x S1 hx ⟨ds, acc, G', hp, hP, rfl⟩
    obtain ⟨ρ1, h1, h2⟩ := hs i x acc ds (G ++ .lst acc :: G') hx hP hp
    refine ⟨ρ1, h1, ?_⟩
    rw [turnQ_def]
    simp only [w_dYes, if_true]
    refine okR_mono h2 fun v S2 ⟨d, ds', G'', e, hp', e2, hP'⟩ => ?_
    subst e e2
    have eG : G ++ Cell.lst acc :: G' ++ G'' = G ++ Cell.lst acc :: (G' ++ G'') := by simp
    rw [eG]
    exact ⟨d, acc, rfl, mid_at, hl _ _ hP, ds', acc ++ [d], G' ++ G'', hp', hP', mid_set⟩
  · rintro S1 ⟨ds, acc, G', hp, hP, rfl⟩
    exact q acc ds G' hP hp
def MK : List D := [.tup [.str [109], .int 0, .tup []], .tup [.str [109], .int 1, .tup [.str [111, 100, 100]]], .str [120], .non, .tup [.str [110], .tup [.int 1, .int 2], .tup [.str [102], .str [103]]], .int 5]
theorem w_mark {S : Store} {n : Nat} {ds : List D} {kinds : Int} {Q : Vl → Store → Prop} (h : S[n]? = some (.lst ds)) (hp : Pool ds) (k1 : 1 ≤ kinds) (k2 : kinds ≤ 6)
    (q : ∀ (d : D) (ds' : List D), Pool ds' → d ∈ MK → Q (.d d) (S.set n (.lst ds'))) : okR (m_law_mark [.l n, .d (.int kinds)] S) Q := by
  have hn := lt_of_at h
  unfold m_law_mark
  refine w_runFn rfl ?_
  unfold t_law_mark
  simp only [w_dSeq, w_dSet, w_dExpr, w_dRet, w_dRetN, w_dNext, w_dBrk, w_dCnt, w_dIf, w_dAsg, w_dPar, w_dParN, w_dPut, w_dC, w_dVar, w_dBin, w_dUn, w_dCB, w_dNil, w_dCons, w_dCall, w_dBT, w_dTr, w_dNot, w_dAnd, w_dOr, w_dAndV, w_dOrV, w_dNotV, w_dIfE, w_dTup, w_dLst, w_dIx, w_dIsi, w_dIn, w_dNotIn, w_dONone, w_dOSome, w_dSl, w_dBM, w_dChain, w_dListRg1, w_dIR1, w_dIR2, w_dIA, w_dFor, w_dLc, w_dYes, okR_ok, List.getElem?_cons_zero, List.getElem?_cons_succ, Option.some.injEq, exists_eq_left', exists_eq_left, List.map_cons, List.map_nil, List.length_cons, List.length_nil, List.replicate_succ, List.replicate_zero, List.cons_append, List.nil_append, List.append_nil, List.set_cons_zero, List.set_cons_succ, Vl.d.injEq, Vl.l.injEq, D.int.injEq, D.bl.injEq, D.str.injEq, D.tup.injEq, Nat.sub_self, Nat.reduceSub, Nat.reduceAdd, allD, Option.map_some]
  refine ⟨by decide, by decide, by decide, by decide, by decide, by decide, by decide, by decide, ?_⟩
  refine w_take (old_at h) hp fun k ds1 hp1 k0 k1 => ?_
  rw [set_old hn]
  obtain ⟨m, rfl⟩ : ∃ m : Nat, k = m := ⟨k.toNat, by omega⟩
  rw [e_ixL (lst_at new_at')]
  have hm : m < MK.length := by show m < 6; omega
  refine ⟨MK[m], by rw [at_nat]; exact List.getElem?_eq_getElem hm, ?_⟩
  simp only [e_lt, e_le, e_gt, e_ge, e_sub, e_add, e_addS, e_addT, e_mul, e_mulS, e_mod, e_fdiv, e_pow, e_neg, e_eqI, e_neI, e_eqS, e_neS, e_is, e_isNot, e_lenS, e_lenT, e_lenL, e_int, e_abs, e_max, e_min, e_tupT, e_tupL, e_listS, e_listT, e_listL, e_all, e_any, e_str, e_ixT, e_ixS, e_slT, e_slS, e_slL, e_revL, e_revS, e_trB, e_inS, gc_d, e_index, at_0, at_1, at_2, at_3, at_4, at_5, take_set_new]
  exact q _ _ hp1 (List.getElem_mem _)
def nums (xs : List Nat) : List D := xs.map fun (k : Nat) => D.int (k : Int)
theorem nums_snoc (xs : List Nat) (k : Nat) : nums xs ++ [.int (k : Int)] = nums (xs ++ [k]) := by simp [nums]
theorem nums_len (xs : List Nat) : (nums xs).length = xs.length := by simp [nums]
theorem w_row {S : Store} {n : Nat} {ds : List D} {way : Int} {st many wide : Nat} {Q : Vl → Store → Prop} (h : S[n]? = some (.lst ds)) (hp : Pool ds) (s1 : st ≤ 1000) (m1 : 1 ≤ many) (m2 : many ≤ 1000) (w1 : wide ≤ 1000)
    (q : ∀ (r : List Nat) (ds' : List D), Pool ds' → r.length = wide → (∀ x ∈ r, x < many) → Q (.d (.tup (nums r))) (S.set n (.lst ds'))) : okR (m_law_row [.l n, .d (.int way), .d (.int st), .d (.int many), .d (.int wide)] S) Q := by
  have hn := lt_of_at h
  unfold m_law_row
  refine w_runFn rfl ?_
  unfold t_law_row
  refine seq_cut (fun ρ' S' => ρ' = [some (.l n), some (.d (.int way)), some (.d (.int st)), some (.d (.int many)), some (.d (.int wide)), some (.l S.length), none, none] ∧ S' = S ++ [.lst []]) ?_ fun ρ1 S1 ⟨e1, e2⟩ => ?_
  · simp only [w_dSeq, w_dSet, w_dExpr, w_dRet, w_dRetN, w_dNext, w_dBrk, w_dCnt, w_dIf, w_dAsg, w_dPar, w_dParN, w_dPut, w_dC, w_dVar, w_dBin, w_dUn, w_dCB, w_dNil, w_dCons, w_dCall, w_dBT, w_dTr, w_dNot, w_dAnd, w_dOr, w_dAndV, w_dOrV, w_dNotV, w_dIfE, w_dTup, w_dLst, w_dIx, w_dIsi, w_dIn, w_dNotIn, w_dONone, w_dOSome, w_dSl, w_dBM, w_dChain, w_dListRg1, w_dIR1, w_dIR2, w_dIA, w_dFor, w_dLc, w_dYes, okR_ok, List.getElem?_cons_zero, List.getElem?_cons_succ, Option.some.injEq, exists_eq_left', exists_eq_left, List.map_cons, List.map_nil, List.length_cons, List.length_nil, List.replicate_succ, List.replicate_zero, List.cons_append, List.nil_append, List.append_nil, List.set_cons_zero, List.set_cons_succ, Vl.d.injEq, Vl.l.injEq, D.int.injEq, D.bl.injEq, D.str.injEq, D.tup.injEq, Nat.sub_self, Nat.reduceSub, Nat.reduceAdd, allD, Option.map_some]
    exact ⟨by decide, trivial, trivial⟩
  subst e1 e2
  refine seq_cut (fun ρ' S' => ∃ (r : List Nat) (ds : List D) (v w : Option Vl), Pool ds ∧ r.length = wide ∧ (∀ x ∈ r, x < many) ∧ ρ' = [some (.l n), some (.d (.int way)), some (.d (.int st)), some (.d (.int many)), some (.d (.int wide)), some (.l S.length), v, w] ∧ S' = S.set n (.lst ds) ++ [.lst (nums r)]) ?_ fun ρ1 S1 ⟨r, ds, v, w, hp, hr, hr2, e1, e2⟩ => ?_
  · simp only [w_dSeq, w_dSet, w_dExpr, w_dRet, w_dRetN, w_dNext, w_dBrk, w_dCnt, w_dIf, w_dAsg, w_dPar, w_dParN, w_dPut, w_dC, w_dVar, w_dBin, w_dUn, w_dCB, w_dNil, w_dCons, w_dCall, w_dBT, w_dTr, w_dNot, w_dAnd, w_dOr, w_dAndV, w_dOrV, w_dNotV, w_dIfE, w_dTup, w_dLst, w_dIx, w_dIsi, w_dIn, w_dNotIn, w_dONone, w_dOSome, w_dSl, w_dBM, w_dChain, w_dListRg1, w_dIR1, w_dIR2, w_dIA, w_dFor, w_dLc, w_dYes, okR_ok, List.getElem?_cons_zero, List.getElem?_cons_succ, Option.some.injEq, exists_eq_left', exists_eq_left, List.map_cons, List.map_nil, List.length_cons, List.length_nil, List.replicate_succ, List.replicate_zero, List.cons_append, List.nil_append, List.append_nil, List.set_cons_zero, List.set_cons_succ, Vl.d.injEq, Vl.l.injEq, D.int.injEq, D.bl.injEq, D.str.injEq, D.tup.injEq, Nat.sub_self, Nat.reduceSub, Nat.reduceAdd, allD, Option.map_some]
    refine ⟨wide, rfl, by unfold okB; simp; omega, ?_⟩
    rw [forQ_seq]
    refine loopS_inv (fun i ρ' S' => ∃ (r : List Nat) (ds : List D) (v w : Option Vl), Pool ds ∧ r.length = i ∧ (∀ x ∈ r, x < many) ∧ ρ' = [some (.l n), some (.d (.int way)), some (.d (.int st)), some (.d (.int many)), some (.d (.int wide)), some (.l S.length), v, w] ∧ S' = S.set n (.lst ds) ++ [.lst (nums r)])
      ⟨[], ds, none, none, hp, rfl, by simp, rfl, by rw [set_same h]; rfl⟩ ?_ ?_
    · rintro i x ρ1 S1 hx ⟨r, ds, v, w, hp, hr, hr2, rfl, rfl⟩
      have hi := (List.getElem?_eq_some_iff.mp hx).1
      unfold rngV at hi hx
      simp at hi
      rw [List.getElem?_map, List.getElem?_range (by omega)] at hx
      obtain rfl := Option.some.inj hx
      refine ⟨_, rfl, ?_⟩
      simp only [w_dSeq, w_dSet, w_dExpr, w_dRet, w_dRetN, w_dNext, w_dBrk, w_dCnt, w_dIf, w_dAsg, w_dPar, w_dParN, w_dPut, w_dC, w_dVar, w_dBin, w_dUn, w_dCB, w_dNil, w_dCons, w_dCall, w_dBT, w_dTr, w_dNot, w_dAnd, w_dOr, w_dAndV, w_dOrV, w_dNotV, w_dIfE, w_dTup, w_dLst, w_dIx, w_dIsi, w_dIn, w_dNotIn, w_dONone, w_dOSome, w_dSl, w_dBM, w_dChain, w_dListRg1, w_dIR1, w_dIR2, w_dIA, w_dFor, w_dLc, w_dYes, okR_ok, List.getElem?_cons_zero, List.getElem?_cons_succ, Option.some.injEq, exists_eq_left', exists_eq_left, List.map_cons, List.map_nil, List.length_cons, List.length_nil, List.replicate_succ, List.replicate_zero, List.cons_append, List.nil_append, List.append_nil, List.set_cons_zero, List.set_cons_succ, Vl.d.injEq, Vl.l.injEq, D.int.injEq, D.bl.injEq, D.str.injEq, D.tup.injEq, Nat.sub_self, Nat.reduceSub, Nat.reduceAdd, allD, Option.map_some]
      refine w_take (old_at' hn) hp fun k ds1 hp1 k0 k1 => ?_
      rw [set_old' hn]
      have fin : ∀ j : Int, 0 ≤ j → j < many → (nums r).length < sizeLine ∧ ∃ (r' : List Nat) (ds : List D) (v w' : Option Vl), Pool ds ∧ r'.length = i + 1 ∧ (∀ x ∈ r', x < many) ∧ [some (.l n), some (.d (.int way)), some (.d (.int st)), some (.d (.int many)), some (.d (.int wide)), some (.l S.length), some (Vl.d (.int (0 + (i : Nat)))), some (Vl.d (D.int k))] = [some (.l n), some (.d (.int way)), some (.d (.int st)), some (.d (.int many)), some (.d (.int wide)), some (.l S.length), v, w'] ∧ S.set n (.lst ds1) ++ [.lst (nums r ++ [.int j])] = S.set n (.lst ds) ++ [.lst (nums r')] := by
        intro j j0 j1
        obtain ⟨m, rfl⟩ : ∃ m : Nat, j = m := ⟨j.toNat, by omega⟩
        refine ⟨by rw [nums_len, sizeLine_eq]; omega, r ++ [m], ds1, _, _, hp1, by simp [hr], ?_, rfl, by rw [nums_snoc]⟩
        intro x hx
        rcases List.mem_append.mp hx with hx | hx
        · exact hr2 x hx
        · rw [List.mem_singleton.mp hx]; omega
      simp only [w_dSeq, w_dSet, w_dExpr, w_dRet, w_dRetN, w_dNext, w_dBrk, w_dCnt, w_dIf, w_dAsg, w_dPar, w_dParN, w_dPut, w_dC, w_dVar, w_dBin, w_dUn, w_dCB, w_dNil, w_dCons, w_dCall, w_dBT, w_dTr, w_dNot, w_dAnd, w_dOr, w_dAndV, w_dOrV, w_dNotV, w_dIfE, w_dTup, w_dLst, w_dIx, w_dIsi, w_dIn, w_dNotIn, w_dONone, w_dOSome, w_dSl, w_dBM, w_dChain, w_dListRg1, w_dIR1, w_dIR2, w_dIA, w_dFor, w_dLc, w_dYes, okR_ok, List.getElem?_cons_zero, List.getElem?_cons_succ, Option.some.injEq, exists_eq_left', exists_eq_left, List.map_cons, List.map_nil, List.length_cons, List.length_nil, List.replicate_succ, List.replicate_zero, List.cons_append, List.nil_append, List.append_nil, List.set_cons_zero, List.set_cons_succ, Vl.d.injEq, Vl.l.injEq, D.int.injEq, D.bl.injEq, D.str.injEq, D.tup.injEq, Nat.sub_self, Nat.reduceSub, Nat.reduceAdd, allD, Option.map_some, e_lt, e_le, e_gt, e_ge, e_sub, e_add, e_addS, e_addT, e_mul, e_mulS, e_mod, e_fdiv, e_pow, e_neg, e_eqI, e_neI, e_eqS, e_neS, e_is, e_isNot, e_lenS, e_lenT, e_lenL, e_int, e_abs, e_max, e_min, e_tupT, e_tupL, e_listS, e_listT, e_listL, e_all, e_any, e_str, e_ixT, e_ixS, e_slT, e_slS, e_slL, e_revL, e_revS, e_trB, e_inS, gc_d, e_index, at_0, at_1, at_2, at_3, at_4, at_5, e_isLst (lst_at new_at'), e_append new_at', set_new', true_and]
      split
      · refine ⟨mulC_small (by omega) (by omega), by omega, ?_⟩
        exact fin _ (Int.emod_nonneg _ (by omega)) (Int.emod_lt_of_pos _ (by omega))
      · split
        · exact ⟨by omega, fin _ (Int.emod_nonneg _ (by omega)) (Int.emod_lt_of_pos _ (by omega))⟩
        · repeat' split
          all_goals first
            | exact fin _ (by omega) (by omega)
            | (refine fin _ ?_ ?_ <;> split <;> omega)
    · rintro ρ1 S1 ⟨r, ds, v, w, hp, hr, hr2, rfl, rfl⟩
      exact ⟨r, ds, v, w, hp, by rw [hr]; unfold rngV; simp, hr2, rfl, rfl⟩
  subst e1 e2
  simp only [w_dSeq, w_dSet, w_dExpr, w_dRet, w_dRetN, w_dNext, w_dBrk, w_dCnt, w_dIf, w_dAsg, w_dPar, w_dParN, w_dPut, w_dC, w_dVar, w_dBin, w_dUn, w_dCB, w_dNil, w_dCons, w_dCall, w_dBT, w_dTr, w_dNot, w_dAnd, w_dOr, w_dAndV, w_dOrV, w_dNotV, w_dIfE, w_dTup, w_dLst, w_dIx, w_dIsi, w_dIn, w_dNotIn, w_dONone, w_dOSome, w_dSl, w_dBM, w_dChain, w_dListRg1, w_dIR1, w_dIR2, w_dIA, w_dFor, w_dLc, w_dYes, okR_ok, List.getElem?_cons_zero, List.getElem?_cons_succ, Option.some.injEq, exists_eq_left', exists_eq_left, List.map_cons, List.map_nil, List.length_cons, List.length_nil, List.replicate_succ, List.replicate_zero, List.cons_append, List.nil_append, List.append_nil, List.set_cons_zero, List.set_cons_succ, Vl.d.injEq, Vl.l.injEq, D.int.injEq, D.bl.injEq, D.str.injEq, D.tup.injEq, Nat.sub_self, Nat.reduceSub, Nat.reduceAdd, allD, Option.map_some, e_lt, e_le, e_gt, e_ge, e_sub, e_add, e_addS, e_addT, e_mul, e_mulS, e_mod, e_fdiv, e_pow, e_neg, e_eqI, e_neI, e_eqS, e_neS, e_is, e_isNot, e_lenS, e_lenT, e_lenL, e_int, e_abs, e_max, e_min, e_tupT, e_tupL, e_listS, e_listT, e_listL, e_all, e_any, e_str, e_ixT, e_ixS, e_slT, e_slS, e_slL, e_revL, e_revS, e_trB, e_inS, gc_d, e_index, at_0, at_1, at_2, at_3, at_4, at_5, lst_at new_at', take_set_new]
  exact q r ds hp hr hr2
structure Mach (wide many : Nat) (go : List (List Nat)) (tell : List (List D)) (en : List D) : Prop where
  g1 : go.length = many
  g2 : ∀ r ∈ go, r.length = wide ∧ ∀ x ∈ r, x < many
  t1 : tell.length = many
  t2 : ∀ r ∈ tell, r.length = wide ∧ ∀ d ∈ r, d ∈ MK
  e1 : en.length = many
  e2 : ∀ d ∈ en, d ∈ MK
def encG (go : List (List Nat)) : List D := go.map fun r => .tup (nums r)
def encT (tell : List (List D)) : List D := tell.map .tup
def enc (sg : List Nat) (go : List (List Nat)) (tell : List (List D)) (en : List D) : D := .tup [.str sg, .tup (encG go), .tup (encT tell), .tup en]
theorem all_snoc {α : Type} {P : α → Prop} {l : List α} {x : α} (h : ∀ y ∈ l, P y) (hx : P x) : ∀ y ∈ l ++ [x], P y := fun y hy => by
  rcases List.mem_append.mp hy with hy | hy
  · exact h y hy
  · rw [List.mem_singleton.mp hy]; exact hx
theorem len_G {S : Store} {n : Nat} {c : Cell} {G : Store} : (S.set n c ++ G).length = S.length + G.length := by simp
theorem rng_at {m i : Nat} {x : Vl} (h : (rngV 0 (m : Int).toNat)[i]? = some x) : i < m ∧ x = .d (.int (0 + (i : Nat))) := by
  have hi := (List.getElem?_eq_some_iff.mp h).1
  unfold rngV at hi h
  simp at hi
  rw [List.getElem?_map, List.getElem?_range (by simpa using hi)] at h
  exact ⟨hi, (Option.some.inj h).symm⟩
theorem rng_len {m : Nat} : (rngV 0 (m : Int).toNat).length = m := by unfold rngV; simp
theorem w_machine {S : Store} {n many : Nat} {ds : List D} {sg : List Nat} {Q : Vl → Store → Prop} (h : S[n]? = some (.lst ds)) (hp : Pool ds) (hs : sg.length ≤ 20) (m1 : 1 ≤ many) (m2 : many ≤ 200)
    (q : ∀ (go : List (List Nat)) (tell : List (List D)) (en ds' : List D), Pool ds' → Mach sg.length many go tell en → Q (.d (enc sg go tell en)) (S.set n (.lst ds'))) : okR (m_law_machine [.l n, .d (.str sg), .d (.int many)] S) Q := by
  have hn := lt_of_at h
  unfold m_law_machine
  refine w_runFn rfl ?_
  unfold t_law_machine
  refine seq_cut (fun ρ' S' => ∃ (way : Int) (ds : List D), Pool ds ∧ ρ' = [some (.l n), some (.d (.str sg)), some (.d (.int many)), some (.d (.int way)), none, none, none, none, none, none, none] ∧ S' = S.set n (.lst ds) ++ []) ?_ fun ρ1 S1 ⟨way, ds, hp, e1, e2⟩ => ?_
  · simp only [w_dSeq, w_dSet, w_dExpr, w_dRet, w_dRetN, w_dNext, w_dBrk, w_dCnt, w_dIf, w_dAsg, w_dPar, w_dParN, w_dPut, w_dC, w_dVar, w_dBin, w_dUn, w_dCB, w_dNil, w_dCons, w_dCall, w_dBT, w_dTr, w_dNot, w_dAnd, w_dOr, w_dAndV, w_dOrV, w_dNotV, w_dIfE, w_dTup, w_dLst, w_dIx, w_dIsi, w_dIn, w_dNotIn, w_dONone, w_dOSome, w_dSl, w_dBM, w_dChain, w_dListRg1, w_dIR1, w_dIR2, w_dIA, w_dFor, w_dLc, w_dYes, okR_ok, List.getElem?_cons_zero, List.getElem?_cons_succ, Option.some.injEq, exists_eq_left', exists_eq_left, List.map_cons, List.map_nil, List.length_cons, List.length_nil, List.replicate_succ, List.replicate_zero, List.cons_append, List.nil_append, List.append_nil, List.set_cons_zero, List.set_cons_succ, Vl.d.injEq, Vl.l.injEq, D.int.injEq, D.bl.injEq, D.str.injEq, D.tup.injEq, Nat.sub_self, Nat.reduceSub, Nat.reduceAdd, allD, Option.map_some]
    exact w_take h hp fun k ds1 hp1 k0 k1 => ⟨k, ds1, hp1, rfl, rfl⟩
  subst e1 e2
  refine seq_cut (fun ρ' S' => ∃ (ki : Int) (ds : List D), Pool ds ∧ 1 ≤ ki ∧ ki ≤ 6 ∧ ρ' = [some (.l n), some (.d (.str sg)), some (.d (.int many)), some (.d (.int way)), some (.d (.int ki)), none, none, none, none, none, none] ∧ S' = S.set n (.lst ds) ++ []) ?_ fun ρ1 S1 ⟨ki, ds, hp, k1, k2, e1, e2⟩ => ?_
  · simp only [w_dSeq, w_dSet, w_dExpr, w_dRet, w_dRetN, w_dNext, w_dBrk, w_dCnt, w_dIf, w_dAsg, w_dPar, w_dParN, w_dPut, w_dC, w_dVar, w_dBin, w_dUn, w_dCB, w_dNil, w_dCons, w_dCall, w_dBT, w_dTr, w_dNot, w_dAnd, w_dOr, w_dAndV, w_dOrV, w_dNotV, w_dIfE, w_dTup, w_dLst, w_dIx, w_dIsi, w_dIn, w_dNotIn, w_dONone, w_dOSome, w_dSl, w_dBM, w_dChain, w_dListRg1, w_dIR1, w_dIR2, w_dIA, w_dFor, w_dLc, w_dYes, okR_ok, List.getElem?_cons_zero, List.getElem?_cons_succ, Option.some.injEq, exists_eq_left', exists_eq_left, List.map_cons, List.map_nil, List.length_cons, List.length_nil, List.replicate_succ, List.replicate_zero, List.cons_append, List.nil_append, List.append_nil, List.set_cons_zero, List.set_cons_succ, Vl.d.injEq, Vl.l.injEq, D.int.injEq, D.bl.injEq, D.str.injEq, D.tup.injEq, Nat.sub_self, Nat.reduceSub, Nat.reduceAdd, allD, Option.map_some]
    refine w_take (mem_at hn) hp fun k ds1 hp1 k0 k1 => ?_
    simp only [e_lt, e_le, e_gt, e_ge, e_sub, e_add, e_addS, e_addT, e_mul, e_mulS, e_mod, e_fdiv, e_pow, e_neg, e_eqI, e_neI, e_eqS, e_neS, e_is, e_isNot, e_lenS, e_lenT, e_lenL, e_int, e_abs, e_max, e_min, e_tupT, e_tupL, e_listS, e_listT, e_listL, e_all, e_any, e_str, e_ixT, e_ixS, e_slT, e_slS, e_slL, e_revL, e_revS, e_trB, e_inS, gc_d, e_index, at_0, at_1, at_2, at_3, at_4, at_5]
    exact ⟨1 + k, ds1, hp1, by omega, by omega, rfl, by simp⟩
  subst e1 e2
  refine seq_cut (fun ρ' S' => ρ' = [some (.l n), some (.d (.str sg)), some (.d (.int many)), some (.d (.int way)), some (.d (.int ki)), some (.d (.int sg.length)), none, none, none, none, none] ∧ S' = S.set n (.lst ds) ++ []) ?_ fun ρ1 S1 ⟨e1, e2⟩ => ?_
  · simp only [w_dSeq, w_dSet, w_dExpr, w_dRet, w_dRetN, w_dNext, w_dBrk, w_dCnt, w_dIf, w_dAsg, w_dPar, w_dParN, w_dPut, w_dC, w_dVar, w_dBin, w_dUn, w_dCB, w_dNil, w_dCons, w_dCall, w_dBT, w_dTr, w_dNot, w_dAnd, w_dOr, w_dAndV, w_dOrV, w_dNotV, w_dIfE, w_dTup, w_dLst, w_dIx, w_dIsi, w_dIn, w_dNotIn, w_dONone, w_dOSome, w_dSl, w_dBM, w_dChain, w_dListRg1, w_dIR1, w_dIR2, w_dIA, w_dFor, w_dLc, w_dYes, okR_ok, List.getElem?_cons_zero, List.getElem?_cons_succ, Option.some.injEq, exists_eq_left', exists_eq_left, List.map_cons, List.map_nil, List.length_cons, List.length_nil, List.replicate_succ, List.replicate_zero, List.cons_append, List.nil_append, List.append_nil, List.set_cons_zero, List.set_cons_succ, Vl.d.injEq, Vl.l.injEq, D.int.injEq, D.bl.injEq, D.str.injEq, D.tup.injEq, Nat.sub_self, Nat.reduceSub, Nat.reduceAdd, allD, Option.map_some, e_lt, e_le, e_gt, e_ge, e_sub, e_add, e_addS, e_addT, e_mul, e_mulS, e_mod, e_fdiv, e_pow, e_neg, e_eqI, e_neI, e_eqS, e_neS, e_is, e_isNot, e_lenS, e_lenT, e_lenL, e_int, e_abs, e_max, e_min, e_tupT, e_tupL, e_listS, e_listT, e_listL, e_all, e_any, e_str, e_ixT, e_ixS, e_slT, e_slS, e_slL, e_revL, e_revS, e_trB, e_inS, gc_d, e_index, at_0, at_1, at_2, at_3, at_4, at_5]
    exact ⟨by rw [sizeLine_eq]; omega, trivial, trivial⟩
  subst e1 e2
  refine seq_cut (fun ρ' S' => ∃ (go : List (List Nat)) (ds : List D) (G : Store), Pool ds ∧ go.length = many ∧ (∀ r ∈ go, r.length = sg.length ∧ ∀ x ∈ r, x < many) ∧ ρ' = [some (.l n), some (.d (.str sg)), some (.d (.int many)), some (.d (.int way)), some (.d (.int ki)), some (.d (.int sg.length)), some (.d (.tup (encG go))), none, none, none, none] ∧ S' = S.set n (.lst ds) ++ G) ?_ fun ρ1 S1 ⟨go, ds, G, hp, g1, g2, e1, e2⟩ => ?_
  · simp only [w_dSeq, w_dSet, w_dExpr, w_dRet, w_dRetN, w_dNext, w_dBrk, w_dCnt, w_dIf, w_dAsg, w_dPar, w_dParN, w_dPut, w_dC, w_dVar, w_dBin, w_dUn, w_dCB, w_dNil, w_dCons, w_dCall, w_dBT, w_dTr, w_dNot, w_dAnd, w_dOr, w_dAndV, w_dOrV, w_dNotV, w_dIfE, w_dTup, w_dLst, w_dIx, w_dIsi, w_dIn, w_dNotIn, w_dONone, w_dOSome, w_dSl, w_dBM, w_dChain, w_dListRg1, w_dIR1, w_dIR2, w_dIA, w_dFor, w_dLc, w_dYes, okR_ok, List.getElem?_cons_zero, List.getElem?_cons_succ, Option.some.injEq, exists_eq_left', exists_eq_left, List.map_cons, List.map_nil, List.length_cons, List.length_nil, List.replicate_succ, List.replicate_zero, List.cons_append, List.nil_append, List.append_nil, List.set_cons_zero, List.set_cons_succ, Vl.d.injEq, Vl.l.injEq, D.int.injEq, D.bl.injEq, D.str.injEq, D.tup.injEq, Nat.sub_self, Nat.reduceSub, Nat.reduceAdd, allD, Option.map_some]
    refine ⟨many, rfl, by unfold okB; simp; omega, ?_⟩
    rw [lcQ_seq]
    have e0 : (S.set n (.lst ds) : Store).length = S.length + ([] : Store).length := by simp
    rw [e0, ← List.append_nil (S.set n (.lst ds))]
    refine draw_lc hn (fun i acc => ∃ go : List (List Nat), go.length = i ∧ (∀ r ∈ go, r.length = sg.length ∧ ∀ x ∈ r, x < many) ∧ acc = encG go ∧ i ≤ many) hp ⟨[], rfl, by simp, rfl, Nat.zero_le _⟩ ?_ ?_ ?_
    · rintro i acc ⟨go, hgo, _, rfl, hi⟩
      rw [sizeLine_eq]; unfold encG; rw [List.length_map]; omega
    · rintro i x acc ds G' hx ⟨go, hgo, hg, rfl, hi⟩ hp
      obtain ⟨hi', rfl⟩ := rng_at hx
      refine ⟨_, rfl, ?_⟩
      simp only [w_dSeq, w_dSet, w_dExpr, w_dRet, w_dRetN, w_dNext, w_dBrk, w_dCnt, w_dIf, w_dAsg, w_dPar, w_dParN, w_dPut, w_dC, w_dVar, w_dBin, w_dUn, w_dCB, w_dNil, w_dCons, w_dCall, w_dBT, w_dTr, w_dNot, w_dAnd, w_dOr, w_dAndV, w_dOrV, w_dNotV, w_dIfE, w_dTup, w_dLst, w_dIx, w_dIsi, w_dIn, w_dNotIn, w_dONone, w_dOSome, w_dSl, w_dBM, w_dChain, w_dListRg1, w_dIR1, w_dIR2, w_dIA, w_dFor, w_dLc, w_dYes, okR_ok, List.getElem?_cons_zero, List.getElem?_cons_succ, Option.some.injEq, exists_eq_left', exists_eq_left, List.map_cons, List.map_nil, List.length_cons, List.length_nil, List.replicate_succ, List.replicate_zero, List.cons_append, List.nil_append, List.append_nil, List.set_cons_zero, List.set_cons_succ, Vl.d.injEq, Vl.l.injEq, D.int.injEq, D.bl.injEq, D.str.injEq, D.tup.injEq, Nat.sub_self, Nat.reduceSub, Nat.reduceAdd, allD, Option.map_some, wipeR, Int.zero_add]
      refine w_row (old_at' hn) hp (by omega) m1 (by omega) (by omega) fun r ds' hp' r1 r2 => ?_
      rw [set_old' hn]
      exact ⟨_, ds', [], rfl, hp', by simp, go ++ [r], by simp [hgo], all_snoc hg ⟨r1, r2⟩, by simp [encG], by omega⟩
    · rintro acc ds' G' ⟨go, hgo, hg, rfl, hi⟩ hp'
      rw [rng_len] at hgo
      simp only [e_lt, e_le, e_gt, e_ge, e_sub, e_add, e_addS, e_addT, e_mul, e_mulS, e_mod, e_fdiv, e_pow, e_neg, e_eqI, e_neI, e_eqS, e_neS, e_is, e_isNot, e_lenS, e_lenT, e_lenL, e_int, e_abs, e_max, e_min, e_tupT, e_tupL, e_listS, e_listT, e_listL, e_all, e_any, e_str, e_ixT, e_ixS, e_slT, e_slS, e_slL, e_revL, e_revS, e_trB, e_inS, gc_d, e_index, at_0, at_1, at_2, at_3, at_4, at_5]
      exact ⟨encG go, lst_at mid_at, go, ds', _, hp', hgo, hg, rfl, rfl⟩
  subst e1 e2
  refine seq_cut (fun ρ' S' => ∃ (tell : List (List D)) (ds : List D) (G : Store), Pool ds ∧ tell.length = many ∧ (∀ r ∈ tell, r.length = sg.length ∧ ∀ x ∈ r, x ∈ MK) ∧ ρ' = [some (.l n), some (.d (.str sg)), some (.d (.int many)), some (.d (.int way)), some (.d (.int ki)), some (.d (.int sg.length)), some (.d (.tup (encG go))), some (.d (.tup (encT tell))), none, none, none] ∧ S' = S.set n (.lst ds) ++ G) ?_ fun ρ1 S1 ⟨tell, ds, G, hp, t1, t2, e1, e2⟩ => ?_
  · simp only [w_dSeq, w_dSet, w_dExpr, w_dRet, w_dRetN, w_dNext, w_dBrk, w_dCnt, w_dIf, w_dAsg, w_dPar, w_dParN, w_dPut, w_dC, w_dVar, w_dBin, w_dUn, w_dCB, w_dNil, w_dCons, w_dCall, w_dBT, w_dTr, w_dNot, w_dAnd, w_dOr, w_dAndV, w_dOrV, w_dNotV, w_dIfE, w_dTup, w_dLst, w_dIx, w_dIsi, w_dIn, w_dNotIn, w_dONone, w_dOSome, w_dSl, w_dBM, w_dChain, w_dListRg1, w_dIR1, w_dIR2, w_dIA, w_dFor, w_dLc, w_dYes, okR_ok, List.getElem?_cons_zero, List.getElem?_cons_succ, Option.some.injEq, exists_eq_left', exists_eq_left, List.map_cons, List.map_nil, List.length_cons, List.length_nil, List.replicate_succ, List.replicate_zero, List.cons_append, List.nil_append, List.append_nil, List.set_cons_zero, List.set_cons_succ, Vl.d.injEq, Vl.l.injEq, D.int.injEq, D.bl.injEq, D.str.injEq, D.tup.injEq, Nat.sub_self, Nat.reduceSub, Nat.reduceAdd, allD, Option.map_some]
    refine ⟨many, rfl, by unfold okB; simp; omega, ?_⟩
    rw [lcQ_seq, len_G]
    refine draw_lc hn (fun i acc => ∃ tell : List (List D), tell.length = i ∧ (∀ r ∈ tell, r.length = sg.length ∧ ∀ x ∈ r, x ∈ MK) ∧ acc = encT tell ∧ i ≤ many) hp ⟨[], rfl, by simp, rfl, Nat.zero_le _⟩ ?_ ?_ ?_
    · rintro i acc ⟨tell, hgo, _, rfl, hi⟩
      rw [sizeLine_eq]; unfold encT; rw [List.length_map]; omega
    · rintro i x acc ds G' hx ⟨tell, hgo, hg, rfl, hi⟩ hp
      obtain ⟨hi', rfl⟩ := rng_at hx
      refine ⟨_, rfl, ?_⟩
      simp only [w_dSeq, w_dSet, w_dExpr, w_dRet, w_dRetN, w_dNext, w_dBrk, w_dCnt, w_dIf, w_dAsg, w_dPar, w_dParN, w_dPut, w_dC, w_dVar, w_dBin, w_dUn, w_dCB, w_dNil, w_dCons, w_dCall, w_dBT, w_dTr, w_dNot, w_dAnd, w_dOr, w_dAndV, w_dOrV, w_dNotV, w_dIfE, w_dTup, w_dLst, w_dIx, w_dIsi, w_dIn, w_dNotIn, w_dONone, w_dOSome, w_dSl, w_dBM, w_dChain, w_dListRg1, w_dIR1, w_dIR2, w_dIA, w_dFor, w_dLc, w_dYes, okR_ok, List.getElem?_cons_zero, List.getElem?_cons_succ, Option.some.injEq, exists_eq_left', exists_eq_left, List.map_cons, List.map_nil, List.length_cons, List.length_nil, List.replicate_succ, List.replicate_zero, List.cons_append, List.nil_append, List.append_nil, List.set_cons_zero, List.set_cons_succ, Vl.d.injEq, Vl.l.injEq, D.int.injEq, D.bl.injEq, D.str.injEq, D.tup.injEq, Nat.sub_self, Nat.reduceSub, Nat.reduceAdd, allD, Option.map_some, wipeR]
      refine ⟨sg.length, rfl, by unfold okB; simp; omega, ?_⟩
      rw [lcQ_seq, len_G]
      refine draw_lc hn (fun i acc => acc.length = i ∧ (∀ x ∈ acc, x ∈ MK) ∧ i ≤ sg.length) hp ⟨rfl, by simp, Nat.zero_le _⟩ ?_ ?_ ?_
      · rintro i acc ⟨hgo, _, hi⟩
        rw [sizeLine_eq]; omega
      · rintro i x acc ds G' hx ⟨hgo, hg, hi⟩ hp
        obtain ⟨hi', rfl⟩ := rng_at hx
        refine ⟨_, rfl, ?_⟩
        simp only [w_dSeq, w_dSet, w_dExpr, w_dRet, w_dRetN, w_dNext, w_dBrk, w_dCnt, w_dIf, w_dAsg, w_dPar, w_dParN, w_dPut, w_dC, w_dVar, w_dBin, w_dUn, w_dCB, w_dNil, w_dCons, w_dCall, w_dBT, w_dTr, w_dNot, w_dAnd, w_dOr, w_dAndV, w_dOrV, w_dNotV, w_dIfE, w_dTup, w_dLst, w_dIx, w_dIsi, w_dIn, w_dNotIn, w_dONone, w_dOSome, w_dSl, w_dBM, w_dChain, w_dListRg1, w_dIR1, w_dIR2, w_dIA, w_dFor, w_dLc, w_dYes, okR_ok, List.getElem?_cons_zero, List.getElem?_cons_succ, Option.some.injEq, exists_eq_left', exists_eq_left, List.map_cons, List.map_nil, List.length_cons, List.length_nil, List.replicate_succ, List.replicate_zero, List.cons_append, List.nil_append, List.append_nil, List.set_cons_zero, List.set_cons_succ, Vl.d.injEq, Vl.l.injEq, D.int.injEq, D.bl.injEq, D.str.injEq, D.tup.injEq, Nat.sub_self, Nat.reduceSub, Nat.reduceAdd, allD, Option.map_some, wipeR]
        refine w_mark (old_at' hn) hp k1 k2 fun r ds' hp' r1 => ?_
        rw [set_old' hn]
        exact ⟨_, ds', [], rfl, hp', by simp, by simp [hgo], all_snoc hg r1, by omega⟩
      · rintro acc ds' G' ⟨hgo, hg, hi⟩ hp'
        rw [rng_len] at hgo
        simp only [e_lt, e_le, e_gt, e_ge, e_sub, e_add, e_addS, e_addT, e_mul, e_mulS, e_mod, e_fdiv, e_pow, e_neg, e_eqI, e_neI, e_eqS, e_neS, e_is, e_isNot, e_lenS, e_lenT, e_lenL, e_int, e_abs, e_max, e_min, e_tupT, e_tupL, e_listS, e_listT, e_listL, e_all, e_any, e_str, e_ixT, e_ixS, e_slT, e_slS, e_slL, e_revL, e_revS, e_trB, e_inS, gc_d, e_index, at_0, at_1, at_2, at_3, at_4, at_5]
        exact ⟨acc, lst_at mid_at, _, ds', _, rfl, hp', rfl, tell ++ [acc], by simp [*], all_snoc (by assumption) ⟨hgo, hg⟩, by simp [encT], by omega⟩
    · rintro acc ds' G' ⟨tell, hgo, hg, rfl, hi⟩ hp'
      rw [rng_len] at hgo
      simp only [e_lt, e_le, e_gt, e_ge, e_sub, e_add, e_addS, e_addT, e_mul, e_mulS, e_mod, e_fdiv, e_pow, e_neg, e_eqI, e_neI, e_eqS, e_neS, e_is, e_isNot, e_lenS, e_lenT, e_lenL, e_int, e_abs, e_max, e_min, e_tupT, e_tupL, e_listS, e_listT, e_listL, e_all, e_any, e_str, e_ixT, e_ixS, e_slT, e_slS, e_slL, e_revL, e_revS, e_trB, e_inS, gc_d, e_index, at_0, at_1, at_2, at_3, at_4, at_5]
      exact ⟨encT tell, lst_at mid_at, tell, ds', _, hp', hgo, hg, rfl, rfl⟩
  subst e1 e2
  refine seq_cut (fun ρ' S' => ∃ (en : List D) (ds : List D) (G : Store), Pool ds ∧ en.length = many ∧ (∀ x ∈ en, x ∈ MK) ∧ ρ' = [some (.l n), some (.d (.str sg)), some (.d (.int many)), some (.d (.int way)), some (.d (.int ki)), some (.d (.int sg.length)), some (.d (.tup (encG go))), some (.d (.tup (encT tell))), some (.d (.tup en)), none, none] ∧ S' = S.set n (.lst ds) ++ G) ?_ fun ρ1 S1 ⟨en, ds, G, hp, n1, n2, e1, e2⟩ => ?_
  · simp only [w_dSeq, w_dSet, w_dExpr, w_dRet, w_dRetN, w_dNext, w_dBrk, w_dCnt, w_dIf, w_dAsg, w_dPar, w_dParN, w_dPut, w_dC, w_dVar, w_dBin, w_dUn, w_dCB, w_dNil, w_dCons, w_dCall, w_dBT, w_dTr, w_dNot, w_dAnd, w_dOr, w_dAndV, w_dOrV, w_dNotV, w_dIfE, w_dTup, w_dLst, w_dIx, w_dIsi, w_dIn, w_dNotIn, w_dONone, w_dOSome, w_dSl, w_dBM, w_dChain, w_dListRg1, w_dIR1, w_dIR2, w_dIA, w_dFor, w_dLc, w_dYes, okR_ok, List.getElem?_cons_zero, List.getElem?_cons_succ, Option.some.injEq, exists_eq_left', exists_eq_left, List.map_cons, List.map_nil, List.length_cons, List.length_nil, List.replicate_succ, List.replicate_zero, List.cons_append, List.nil_append, List.append_nil, List.set_cons_zero, List.set_cons_succ, Vl.d.injEq, Vl.l.injEq, D.int.injEq, D.bl.injEq, D.str.injEq, D.tup.injEq, Nat.sub_self, Nat.reduceSub, Nat.reduceAdd, allD, Option.map_some]
    refine ⟨many, rfl, by unfold okB; simp; omega, ?_⟩
    rw [lcQ_seq, len_G]
    refine draw_lc hn (fun i acc => acc.length = i ∧ (∀ x ∈ acc, x ∈ MK) ∧ i ≤ many) hp ⟨rfl, by simp, Nat.zero_le _⟩ ?_ ?_ ?_
    · rintro i acc ⟨hgo, _, hi⟩
      rw [sizeLine_eq]; omega
    · rintro i x acc ds G' hx ⟨hgo, hg, hi⟩ hp
      obtain ⟨hi', rfl⟩ := rng_at hx
      refine ⟨_, rfl, ?_⟩
      simp only [w_dSeq, w_dSet, w_dExpr, w_dRet, w_dRetN, w_dNext, w_dBrk, w_dCnt, w_dIf, w_dAsg, w_dPar, w_dParN, w_dPut, w_dC, w_dVar, w_dBin, w_dUn, w_dCB, w_dNil, w_dCons, w_dCall, w_dBT, w_dTr, w_dNot, w_dAnd, w_dOr, w_dAndV, w_dOrV, w_dNotV, w_dIfE, w_dTup, w_dLst, w_dIx, w_dIsi, w_dIn, w_dNotIn, w_dONone, w_dOSome, w_dSl, w_dBM, w_dChain, w_dListRg1, w_dIR1, w_dIR2, w_dIA, w_dFor, w_dLc, w_dYes, okR_ok, List.getElem?_cons_zero, List.getElem?_cons_succ, Option.some.injEq, exists_eq_left', exists_eq_left, List.map_cons, List.map_nil, List.length_cons, List.length_nil, List.replicate_succ, List.replicate_zero, List.cons_append, List.nil_append, List.append_nil, List.set_cons_zero, List.set_cons_succ, Vl.d.injEq, Vl.l.injEq, D.int.injEq, D.bl.injEq, D.str.injEq, D.tup.injEq, Nat.sub_self, Nat.reduceSub, Nat.reduceAdd, allD, Option.map_some, wipeR]
      refine w_mark (old_at' hn) hp k1 k2 fun r ds' hp' r1 => ?_
      rw [set_old' hn]
      exact ⟨_, ds', [], rfl, hp', by simp, by simp [hgo], all_snoc hg r1, by omega⟩
    · rintro acc ds' G' ⟨hgo, hg, hi⟩ hp'
      rw [rng_len] at hgo
      simp only [e_lt, e_le, e_gt, e_ge, e_sub, e_add, e_addS, e_addT, e_mul, e_mulS, e_mod, e_fdiv, e_pow, e_neg, e_eqI, e_neI, e_eqS, e_neS, e_is, e_isNot, e_lenS, e_lenT, e_lenL, e_int, e_abs, e_max, e_min, e_tupT, e_tupL, e_listS, e_listT, e_listL, e_all, e_any, e_str, e_ixT, e_ixS, e_slT, e_slS, e_slL, e_revL, e_revS, e_trB, e_inS, gc_d, e_index, at_0, at_1, at_2, at_3, at_4, at_5]
      exact ⟨acc, lst_at mid_at, acc, ds', _, hp', hgo, hg, rfl, rfl⟩
  subst e1 e2
  simp only [w_dSeq, w_dSet, w_dExpr, w_dRet, w_dRetN, w_dNext, w_dBrk, w_dCnt, w_dIf, w_dAsg, w_dPar, w_dParN, w_dPut, w_dC, w_dVar, w_dBin, w_dUn, w_dCB, w_dNil, w_dCons, w_dCall, w_dBT, w_dTr, w_dNot, w_dAnd, w_dOr, w_dAndV, w_dOrV, w_dNotV, w_dIfE, w_dTup, w_dLst, w_dIx, w_dIsi, w_dIn, w_dNotIn, w_dONone, w_dOSome, w_dSl, w_dBM, w_dChain, w_dListRg1, w_dIR1, w_dIR2, w_dIA, w_dFor, w_dLc, w_dYes, okR_ok, List.getElem?_cons_zero, List.getElem?_cons_succ, Option.some.injEq, exists_eq_left', exists_eq_left, List.map_cons, List.map_nil, List.length_cons, List.length_nil, List.replicate_succ, List.replicate_zero, List.cons_append, List.nil_append, List.append_nil, List.set_cons_zero, List.set_cons_succ, Vl.d.injEq, Vl.l.injEq, D.int.injEq, D.bl.injEq, D.str.injEq, D.tup.injEq, Nat.sub_self, Nat.reduceSub, Nat.reduceAdd, allD, Option.map_some, e_lt, e_le, e_gt, e_ge, e_sub, e_add, e_addS, e_addT, e_mul, e_mulS, e_mod, e_fdiv, e_pow, e_neg, e_eqI, e_neI, e_eqS, e_neS, e_is, e_isNot, e_lenS, e_lenT, e_lenL, e_int, e_abs, e_max, e_min, e_tupT, e_tupL, e_listS, e_listT, e_listL, e_all, e_any, e_str, e_ixT, e_ixS, e_slT, e_slS, e_slL, e_revL, e_revS, e_trB, e_inS, gc_d, e_index, at_0, at_1, at_2, at_3, at_4, at_5, take_set_new]
  exact ⟨by decide, q go tell en ds hp ⟨g1, g2, t1, t2, n1, n2⟩⟩
end L71
end

section
set_option Elab.async false
set_option linter.all false
set_option maxRecDepth 100000
set_option autoImplicit false
set_option maxHeartbeats 1000001
namespace L71
open PySem L2 TL DL
/-! ### comprehensions over data, without a draw -/
theorem pure_lc {S : Store} {xs : List Vl} {T : Tg} {mt : DT} {me : DE} {ρ : DL.Env} {Q : Vl → Store → Prop} (p : Vl → Bool) (f : Vl → D) (hl : xs.length ≤ 10000000)
    (hs : ∀ (i : Nat) (x : Vl) (acc : List D), xs[i]? = some x → ∃ ρ1, T.run x ρ = some ρ1 ∧ okR (mt ρ1 (S ++ [.lst acc])) fun b S1 => b = p x ∧ S1 = S ++ [.lst acc] ∧ (p x = true → okR (me ρ1 (S ++ [.lst acc])) fun v S2 => v = .d (f x) ∧ S2 = S ++ [.lst acc]))
    (q : Q (.l S.length) (S ++ [.lst ((xs.filter p).map f)])) : okR (loopC T mt me S.length ρ xs (S ++ [.lst []])) Q := by
  refine loopC_inv (fun i S' => i ≤ xs.length ∧ S' = S ++ [.lst (((xs.take i).filter p).map f)]) ⟨Nat.zero_le _, rfl⟩ ?_ ?_
  · rintro i x S1 hx ⟨hi, rfl⟩
    obtain ⟨ρ1, h1, h2⟩ := hs i x _ hx
    have hi2 := (List.getElem?_eq_some_iff.mp hx).1
    refine ⟨ρ1, h1, ?_⟩
    rw [turnQ_def]
    have e : xs.take (i + 1) = xs.take i ++ [x] := by rw [List.take_succ, hx]; rfl
    refine okR_mono h2 fun b S2 ⟨e1, e2, h3⟩ => ?_
    subst e1 e2
    by_cases c : p x = true
    · rw [if_pos c]
      refine okR_mono (h3 c) fun v S3 ⟨e1, e2⟩ => ?_
      subst e1 e2
      refine ⟨_, _, rfl, new_at, ?_, by omega, ?_⟩
      · have := List.length_filter_le p (xs.take i)
        rw [sizeLine_eq, List.length_map]
        rw [List.length_take] at this
        omega
      · rw [set_new, e, List.filter_append, List.map_append, List.filter_cons_of_pos c]
        rfl
    · rw [if_neg c]
      refine ⟨by omega, ?_⟩
      rw [e, List.filter_append, List.filter_cons_of_neg c]
      simp
  · rintro S1 ⟨hi, rfl⟩
    rw [List.take_length]
    exact q
theorem bools_map {α : Type} (f : α → Bool) : ∀ l : List α, bools (l.map fun x => D.bl (f x)) = some (l.map f)
  | [] => rfl
  | x :: l => by
    show (bools (l.map fun x => D.bl (f x))).map (f x :: ·) = _
    rw [bools_map f l]
    rfl
theorem w_is_over {S : Store} {sg t : List Nat} {Q : Vl → Store → Prop} (ht : t.length ≤ 1000000) (q : Q (.d (.bl (t.all fun c => decide (c ∈ sg)))) S) : okR (m_is_over [.d (.str sg), .d (.str t)] S) Q := by
  unfold m_is_over
  refine w_runFn rfl ?_
  unfold t_is_over
  simp only [w_dSeq, w_dSet, w_dExpr, w_dRet, w_dRetN, w_dNext, w_dBrk, w_dCnt, w_dIf, w_dAsg, w_dPar, w_dParN, w_dPut, w_dC, w_dVar, w_dBin, w_dUn, w_dCB, w_dNil, w_dCons, w_dCall, w_dBT, w_dTr, w_dNot, w_dAnd, w_dOr, w_dAndV, w_dOrV, w_dNotV, w_dIfE, w_dTup, w_dLst, w_dIx, w_dIsi, w_dIn, w_dNotIn, w_dONone, w_dOSome, w_dSl, w_dBM, w_dChain, w_dListRg1, w_dIR1, w_dIR2, w_dIA, w_dFor, w_dLc, w_dYes, okR_ok, List.getElem?_cons_zero, List.getElem?_cons_succ, Option.some.injEq, exists_eq_left', exists_eq_left, List.map_cons, List.map_nil, List.length_cons, List.length_nil, List.replicate_succ, List.replicate_zero, List.cons_append, List.nil_append, List.append_nil, List.set_cons_zero, List.set_cons_succ, Vl.d.injEq, Vl.l.injEq, D.int.injEq, D.bl.injEq, D.str.injEq, D.tup.injEq, Nat.sub_self, Nat.reduceSub, Nat.reduceAdd, allD, Option.map_some, iaQ_s, lcQ_seq]
  refine pure_lc (fun _ => true) (fun x => match x with | .d (.str [c]) => .bl (decide (c ∈ sg)) | _ => .non) (by rw [List.length_map]; omega) ?_ ?_
  · rintro i x acc hx
    rw [List.getElem?_map] at hx
    cases e : t[i]? with
    | none => rw [e] at hx; cases hx
    | some c =>
      rw [e] at hx
      obtain rfl := Option.some.inj hx
      refine ⟨_, rfl, ?_⟩
      simp only [w_dSeq, w_dSet, w_dExpr, w_dRet, w_dRetN, w_dNext, w_dBrk, w_dCnt, w_dIf, w_dAsg, w_dPar, w_dParN, w_dPut, w_dC, w_dVar, w_dBin, w_dUn, w_dCB, w_dNil, w_dCons, w_dCall, w_dBT, w_dTr, w_dNot, w_dAnd, w_dOr, w_dAndV, w_dOrV, w_dNotV, w_dIfE, w_dTup, w_dLst, w_dIx, w_dIsi, w_dIn, w_dNotIn, w_dONone, w_dOSome, w_dSl, w_dBM, w_dChain, w_dListRg1, w_dIR1, w_dIR2, w_dIA, w_dFor, w_dLc, w_dYes, okR_ok, List.getElem?_cons_zero, List.getElem?_cons_succ, Option.some.injEq, exists_eq_left', exists_eq_left, List.map_cons, List.map_nil, List.length_cons, List.length_nil, List.replicate_succ, List.replicate_zero, List.cons_append, List.nil_append, List.append_nil, List.set_cons_zero, List.set_cons_succ, Vl.d.injEq, Vl.l.injEq, D.int.injEq, D.bl.injEq, D.str.injEq, D.tup.injEq, Nat.sub_self, Nat.reduceSub, Nat.reduceAdd, allD, Option.map_some, wipeR, e_lt, e_le, e_gt, e_ge, e_sub, e_add, e_addS, e_addT, e_mul, e_mulS, e_mod, e_fdiv, e_pow, e_neg, e_eqI, e_neI, e_eqS, e_neS, e_is, e_isNot, e_lenS, e_lenT, e_lenL, e_int, e_abs, e_max, e_min, e_tupT, e_tupL, e_listS, e_listT, e_listL, e_all, e_any, e_str, e_ixT, e_ixS, e_slT, e_slS, e_slL, e_revL, e_revS, e_trB, e_inS, gc_d, e_index, at_0, at_1, at_2, at_3, at_4, at_5]
      exact ⟨trivial, trivial, fun _ => ⟨trivial, trivial⟩⟩
  · have e : ((t.map fun c => Vl.d (.str [c])).filter fun _ => true).map (fun x => match x with | .d (.str [c]) => D.bl (decide (c ∈ sg)) | _ => .non) = t.map fun c => D.bl (decide (c ∈ sg)) := by
      rw [List.filter_eq_self.mpr (by simp), List.map_map]
      rfl
    rw [e]
    simp only [e_lt, e_le, e_gt, e_ge, e_sub, e_add, e_addS, e_addT, e_mul, e_mulS, e_mod, e_fdiv, e_pow, e_neg, e_eqI, e_neI, e_eqS, e_neS, e_is, e_isNot, e_lenS, e_lenT, e_lenL, e_int, e_abs, e_max, e_min, e_tupT, e_tupL, e_listS, e_listT, e_listL, e_all, e_any, e_str, e_ixT, e_ixS, e_slT, e_slS, e_slL, e_revL, e_revS, e_trB, e_inS, gc_d, e_index, at_0, at_1, at_2, at_3, at_4, at_5]
    refine ⟨_, _, lst_at new_at, bools_map _ _, ?_⟩
    simp only [e_lt, e_le, e_gt, e_ge, e_sub, e_add, e_addS, e_addT, e_mul, e_mulS, e_mod, e_fdiv, e_pow, e_neg, e_eqI, e_neI, e_eqS, e_neS, e_is, e_isNot, e_lenS, e_lenT, e_lenL, e_int, e_abs, e_max, e_min, e_tupT, e_tupL, e_listS, e_listT, e_listL, e_all, e_any, e_str, e_ixT, e_ixS, e_slT, e_slS, e_slL, e_revL, e_revS, e_trB, e_inS, gc_d, e_index, at_0, at_1, at_2, at_3, at_4, at_5, take_new]
    rw [List.all_map]
    exact q
theorem w_in_order {S : Store} {sg t : List Nat} {Q : Vl → Store → Prop} (hs : sg.length ≤ 1000) (q : Q (.d (.str (sg.filter fun c => decide (c ∈ t)))) S) : okR (m_in_order [.d (.str sg), .d (.str t)] S) Q := by
  unfold m_in_order
  refine w_runFn rfl ?_
  unfold t_in_order
  simp only [w_dSeq, w_dSet, w_dExpr, w_dRet, w_dRetN, w_dNext, w_dBrk, w_dCnt, w_dIf, w_dAsg, w_dPar, w_dParN, w_dPut, w_dC, w_dVar, w_dBin, w_dUn, w_dCB, w_dNil, w_dCons, w_dCall, w_dBT, w_dTr, w_dNot, w_dAnd, w_dOr, w_dAndV, w_dOrV, w_dNotV, w_dIfE, w_dTup, w_dLst, w_dIx, w_dIsi, w_dIn, w_dNotIn, w_dONone, w_dOSome, w_dSl, w_dBM, w_dChain, w_dListRg1, w_dIR1, w_dIR2, w_dIA, w_dFor, w_dLc, w_dYes, okR_ok, List.getElem?_cons_zero, List.getElem?_cons_succ, Option.some.injEq, exists_eq_left', exists_eq_left, List.map_cons, List.map_nil, List.length_cons, List.length_nil, List.replicate_succ, List.replicate_zero, List.cons_append, List.nil_append, List.append_nil, List.set_cons_zero, List.set_cons_succ, Vl.d.injEq, Vl.l.injEq, D.int.injEq, D.bl.injEq, D.str.injEq, D.tup.injEq, Nat.sub_self, Nat.reduceSub, Nat.reduceAdd, allD, Option.map_some, isStr, true_and, iaQ_s, lcQ_seq]
  refine pure_lc (fun x => match x with | .d (.str [c]) => decide (c ∈ t) | _ => false) (fun x => match x with | .d d => d | _ => .non) (by rw [List.length_map]; omega) ?_ ?_
  · rintro i x acc hx
    rw [List.getElem?_map] at hx
    cases e : sg[i]? with
    | none => rw [e] at hx; cases hx
    | some c =>
      rw [e] at hx
      obtain rfl := Option.some.inj hx
      refine ⟨_, rfl, ?_⟩
      simp only [w_dSeq, w_dSet, w_dExpr, w_dRet, w_dRetN, w_dNext, w_dBrk, w_dCnt, w_dIf, w_dAsg, w_dPar, w_dParN, w_dPut, w_dC, w_dVar, w_dBin, w_dUn, w_dCB, w_dNil, w_dCons, w_dCall, w_dBT, w_dTr, w_dNot, w_dAnd, w_dOr, w_dAndV, w_dOrV, w_dNotV, w_dIfE, w_dTup, w_dLst, w_dIx, w_dIsi, w_dIn, w_dNotIn, w_dONone, w_dOSome, w_dSl, w_dBM, w_dChain, w_dListRg1, w_dIR1, w_dIR2, w_dIA, w_dFor, w_dLc, w_dYes, okR_ok, List.getElem?_cons_zero, List.getElem?_cons_succ, Option.some.injEq, exists_eq_left', exists_eq_left, List.map_cons, List.map_nil, List.length_cons, List.length_nil, List.replicate_succ, List.replicate_zero, List.cons_append, List.nil_append, List.append_nil, List.set_cons_zero, List.set_cons_succ, Vl.d.injEq, Vl.l.injEq, D.int.injEq, D.bl.injEq, D.str.injEq, D.tup.injEq, Nat.sub_self, Nat.reduceSub, Nat.reduceAdd, allD, Option.map_some, wipeR, e_lt, e_le, e_gt, e_ge, e_sub, e_add, e_addS, e_addT, e_mul, e_mulS, e_mod, e_fdiv, e_pow, e_neg, e_eqI, e_neI, e_eqS, e_neS, e_is, e_isNot, e_lenS, e_lenT, e_lenL, e_int, e_abs, e_max, e_min, e_tupT, e_tupL, e_listS, e_listT, e_listL, e_all, e_any, e_str, e_ixT, e_ixS, e_slT, e_slS, e_slL, e_revL, e_revS, e_trB, e_inS, gc_d, e_index, at_0, at_1, at_2, at_3, at_4, at_5]
      exact ⟨trivial, trivial, fun _ => ⟨trivial, trivial⟩⟩
  · have e : ∀ l : List Nat, ((l.map fun c => Vl.d (.str [c])).filter (fun x => match x with | .d (.str [c]) => decide (c ∈ t) | _ => false)).map (fun x => match x with | .d d => d | _ => .non) = chars (l.filter fun c => decide (c ∈ t)) := by
      intro l
      induction l with
      | nil => rfl
      | cons a l ih =>
        rw [List.map_cons]
        by_cases h : a ∈ t
        · rw [List.filter_cons_of_pos (by simpa using h), List.filter_cons_of_pos (by simpa using h), List.map_cons, ih]; rfl
        · rw [List.filter_cons_of_neg (by simpa using h), List.filter_cons_of_neg (by simpa using h), ih]
    rw [e, e_join (lst_at new_at)]
    have := List.length_filter_le (fun c => decide (c ∈ t)) sg
    refine ⟨_, strs_chars _, by rw [sum_chars]; simp; omega, ?_⟩
    rw [join_chars]
    simp only [e_lt, e_le, e_gt, e_ge, e_sub, e_add, e_addS, e_addT, e_mul, e_mulS, e_mod, e_fdiv, e_pow, e_neg, e_eqI, e_neI, e_eqS, e_neS, e_is, e_isNot, e_lenS, e_lenT, e_lenL, e_int, e_abs, e_max, e_min, e_tupT, e_tupL, e_listS, e_listT, e_listL, e_all, e_any, e_str, e_ixT, e_ixS, e_slT, e_slS, e_slL, e_revL, e_revS, e_trB, e_inS, gc_d, e_index, at_0, at_1, at_2, at_3, at_4, at_5, take_new]
    exact q
/-! what things are -/
theorem i1 : isiB "int" "int" = true := by decide
theorem i2 : isiB "int" "bool" = false := by decide
theorem i3 : isiB "bool" "int" = true := by decide
theorem i4 : isiB "bool" "bool" = true := by decide
theorem i5 : isiB "str" "int" = false := by decide
theorem i6 : isiB "NoneType" "int" = false := by decide
theorem i7 : isiB "tuple" "int" = false := by decide
theorem i8 : isiB "tuple" "tuple" = true := by decide
theorem i9 : isiB "int" "tuple" = false := by decide
theorem i10 : isiB "bool" "tuple" = false := by decide
theorem i11 : isiB "str" "tuple" = false := by decide
theorem i12 : isiB "NoneType" "tuple" = false := by decide
theorem i13 : isiB "str" "str" = true := by decide
theorem i14 : isiB "int" "str" = false := by decide
theorem i15 : isiB "bool" "str" = false := by decide
theorem i16 : isiB "tuple" "str" = false := by decide
theorem i17 : isiB "NoneType" "str" = false := by decide
def fromD (lo hi : Int) : D → Bool
  | .int v => decide (lo ≤ v) && decide (v ≤ hi)
  | _ => false
def isI : D → Bool
  | .int _ => true
  | _ => false
theorem w_is_int {S : Store} {d : D} {Q : Vl → Store → Prop} (q : Q (.d (.bl (isI d))) S) : okR (m_is_int [.d d] S) Q := by
  unfold m_is_int
  refine w_runFn rfl ?_
  unfold t_is_int
  cases d <;> simp only [w_dSeq, w_dSet, w_dExpr, w_dRet, w_dRetN, w_dNext, w_dBrk, w_dCnt, w_dIf, w_dAsg, w_dPar, w_dParN, w_dPut, w_dC, w_dVar, w_dBin, w_dUn, w_dCB, w_dNil, w_dCons, w_dCall, w_dBT, w_dTr, w_dNot, w_dAnd, w_dOr, w_dAndV, w_dOrV, w_dNotV, w_dIfE, w_dTup, w_dLst, w_dIx, w_dIsi, w_dIn, w_dNotIn, w_dONone, w_dOSome, w_dSl, w_dBM, w_dChain, w_dListRg1, w_dIR1, w_dIR2, w_dIA, w_dFor, w_dLc, w_dYes, okR_ok, List.getElem?_cons_zero, List.getElem?_cons_succ, Option.some.injEq, exists_eq_left', exists_eq_left, List.map_cons, List.map_nil, List.length_cons, List.length_nil, List.replicate_succ, List.replicate_zero, List.cons_append, List.nil_append, List.append_nil, List.set_cons_zero, List.set_cons_succ, Vl.d.injEq, Vl.l.injEq, D.int.injEq, D.bl.injEq, D.str.injEq, D.tup.injEq, Nat.sub_self, Nat.reduceSub, Nat.reduceAdd, allD, Option.map_some, tyN, i1, i2, i3, i4, i5, i6, i7, i8, i9, i10, i11, i12, i13, i14, i15, i16, i17, if_true, if_false, Bool.false_eq_true, Bool.not_true, Bool.not_false, e_lt, e_le, e_gt, e_ge, e_sub, e_add, e_addS, e_addT, e_mul, e_mulS, e_mod, e_fdiv, e_pow, e_neg, e_eqI, e_neI, e_eqS, e_neS, e_is, e_isNot, e_lenS, e_lenT, e_lenL, e_int, e_abs, e_max, e_min, e_tupT, e_tupL, e_listS, e_listT, e_listL, e_all, e_any, e_str, e_ixT, e_ixS, e_slT, e_slS, e_slL, e_revL, e_revS, e_trB, e_inS, gc_d, e_index, at_0, at_1, at_2, at_3, at_4, at_5, List.take_length] <;> exact q
theorem w_is_from {S : Store} {d : D} {lo hi : Int} {Q : Vl → Store → Prop} (q : Q (.d (.bl (fromD lo hi d))) S) : okR (m_is_from [.d d, .d (.int lo), .d (.int hi)] S) Q := by
  unfold m_is_from
  refine w_runFn rfl ?_
  unfold t_is_from
  simp only [w_dSeq, w_dSet, w_dExpr, w_dRet, w_dRetN, w_dNext, w_dBrk, w_dCnt, w_dIf, w_dAsg, w_dPar, w_dParN, w_dPut, w_dC, w_dVar, w_dBin, w_dUn, w_dCB, w_dNil, w_dCons, w_dCall, w_dBT, w_dTr, w_dNot, w_dAnd, w_dOr, w_dAndV, w_dOrV, w_dNotV, w_dIfE, w_dTup, w_dLst, w_dIx, w_dIsi, w_dIn, w_dNotIn, w_dONone, w_dOSome, w_dSl, w_dBM, w_dChain, w_dListRg1, w_dIR1, w_dIR2, w_dIA, w_dFor, w_dLc, w_dYes, okR_ok, List.getElem?_cons_zero, List.getElem?_cons_succ, Option.some.injEq, exists_eq_left', exists_eq_left, List.map_cons, List.map_nil, List.length_cons, List.length_nil, List.replicate_succ, List.replicate_zero, List.cons_append, List.nil_append, List.append_nil, List.set_cons_zero, List.set_cons_succ, Vl.d.injEq, Vl.l.injEq, D.int.injEq, D.bl.injEq, D.str.injEq, D.tup.injEq, Nat.sub_self, Nat.reduceSub, Nat.reduceAdd, allD, Option.map_some]
  refine w_is_int ?_
  cases d with
  | int v =>
    simp only [isI, w_dSeq, w_dSet, w_dExpr, w_dRet, w_dRetN, w_dNext, w_dBrk, w_dCnt, w_dIf, w_dAsg, w_dPar, w_dParN, w_dPut, w_dC, w_dVar, w_dBin, w_dUn, w_dCB, w_dNil, w_dCons, w_dCall, w_dBT, w_dTr, w_dNot, w_dAnd, w_dOr, w_dAndV, w_dOrV, w_dNotV, w_dIfE, w_dTup, w_dLst, w_dIx, w_dIsi, w_dIn, w_dNotIn, w_dONone, w_dOSome, w_dSl, w_dBM, w_dChain, w_dListRg1, w_dIR1, w_dIR2, w_dIA, w_dFor, w_dLc, w_dYes, okR_ok, List.getElem?_cons_zero, List.getElem?_cons_succ, Option.some.injEq, exists_eq_left', exists_eq_left, List.map_cons, List.map_nil, List.length_cons, List.length_nil, List.replicate_succ, List.replicate_zero, List.cons_append, List.nil_append, List.append_nil, List.set_cons_zero, List.set_cons_succ, Vl.d.injEq, Vl.l.injEq, D.int.injEq, D.bl.injEq, D.str.injEq, D.tup.injEq, Nat.sub_self, Nat.reduceSub, Nat.reduceAdd, allD, Option.map_some, e_lt, e_le, e_gt, e_ge, e_sub, e_add, e_addS, e_addT, e_mul, e_mulS, e_mod, e_fdiv, e_pow, e_neg, e_eqI, e_neI, e_eqS, e_neS, e_is, e_isNot, e_lenS, e_lenT, e_lenL, e_int, e_abs, e_max, e_min, e_tupT, e_tupL, e_listS, e_listT, e_listL, e_all, e_any, e_str, e_ixT, e_ixS, e_slT, e_slS, e_slL, e_revL, e_revS, e_trB, e_inS, gc_d, e_index, at_0, at_1, at_2, at_3, at_4, at_5, if_true]
    by_cases c : lo ≤ v
    · simp only [c, decide_true, if_true, e_lt, e_le, e_gt, e_ge, e_sub, e_add, e_addS, e_addT, e_mul, e_mulS, e_mod, e_fdiv, e_pow, e_neg, e_eqI, e_neI, e_eqS, e_neS, e_is, e_isNot, e_lenS, e_lenT, e_lenL, e_int, e_abs, e_max, e_min, e_tupT, e_tupL, e_listS, e_listT, e_listL, e_all, e_any, e_str, e_ixT, e_ixS, e_slT, e_slS, e_slL, e_revL, e_revS, e_trB, e_inS, gc_d, e_index, at_0, at_1, at_2, at_3, at_4, at_5, List.take_length]
      have : fromD lo hi (.int v) = decide (v ≤ hi) := by unfold fromD; simp [c]
      rw [this] at q
      exact q
    · simp only [c, decide_false, if_false, Bool.false_eq_true, e_lt, e_le, e_gt, e_ge, e_sub, e_add, e_addS, e_addT, e_mul, e_mulS, e_mod, e_fdiv, e_pow, e_neg, e_eqI, e_neI, e_eqS, e_neS, e_is, e_isNot, e_lenS, e_lenT, e_lenL, e_int, e_abs, e_max, e_min, e_tupT, e_tupL, e_listS, e_listT, e_listL, e_all, e_any, e_str, e_ixT, e_ixS, e_slT, e_slS, e_slL, e_revL, e_revS, e_trB, e_inS, gc_d, e_index, at_0, at_1, at_2, at_3, at_4, at_5, List.take_length]
      have : fromD lo hi (.int v) = false := by unfold fromD; simp [c]
      rw [this] at q
      exact q
  | _ =>
    simp only [isI, w_dSeq, w_dSet, w_dExpr, w_dRet, w_dRetN, w_dNext, w_dBrk, w_dCnt, w_dIf, w_dAsg, w_dPar, w_dParN, w_dPut, w_dC, w_dVar, w_dBin, w_dUn, w_dCB, w_dNil, w_dCons, w_dCall, w_dBT, w_dTr, w_dNot, w_dAnd, w_dOr, w_dAndV, w_dOrV, w_dNotV, w_dIfE, w_dTup, w_dLst, w_dIx, w_dIsi, w_dIn, w_dNotIn, w_dONone, w_dOSome, w_dSl, w_dBM, w_dChain, w_dListRg1, w_dIR1, w_dIR2, w_dIA, w_dFor, w_dLc, w_dYes, okR_ok, List.getElem?_cons_zero, List.getElem?_cons_succ, Option.some.injEq, exists_eq_left', exists_eq_left, List.map_cons, List.map_nil, List.length_cons, List.length_nil, List.replicate_succ, List.replicate_zero, List.cons_append, List.nil_append, List.append_nil, List.set_cons_zero, List.set_cons_succ, Vl.d.injEq, Vl.l.injEq, D.int.injEq, D.bl.injEq, D.str.injEq, D.tup.injEq, Nat.sub_self, Nat.reduceSub, Nat.reduceAdd, allD, Option.map_some, e_lt, e_le, e_gt, e_ge, e_sub, e_add, e_addS, e_addT, e_mul, e_mulS, e_mod, e_fdiv, e_pow, e_neg, e_eqI, e_neI, e_eqS, e_neS, e_is, e_isNot, e_lenS, e_lenT, e_lenL, e_int, e_abs, e_max, e_min, e_tupT, e_tupL, e_listS, e_listT, e_listL, e_all, e_any, e_str, e_ixT, e_ixS, e_slT, e_slS, e_slL, e_revL, e_revS, e_trB, e_inS, gc_d, e_index, at_0, at_1, at_2, at_3, at_4, at_5, if_false, Bool.false_eq_true, List.take_length]
    exact q
def rowD (n : Int) : D → Bool
  | .tup ds => ((ds.length : Int) == n)
  | _ => false
theorem w_is_row {S : Store} {d : D} {n : Int} {Q : Vl → Store → Prop} (q : Q (.d (.bl (rowD n d))) S) : okR (m_is_row [.d d, .d (.int n)] S) Q := by
  unfold m_is_row
  refine w_runFn rfl ?_
  unfold t_is_row
  cases d <;> simp only [w_dSeq, w_dSet, w_dExpr, w_dRet, w_dRetN, w_dNext, w_dBrk, w_dCnt, w_dIf, w_dAsg, w_dPar, w_dParN, w_dPut, w_dC, w_dVar, w_dBin, w_dUn, w_dCB, w_dNil, w_dCons, w_dCall, w_dBT, w_dTr, w_dNot, w_dAnd, w_dOr, w_dAndV, w_dOrV, w_dNotV, w_dIfE, w_dTup, w_dLst, w_dIx, w_dIsi, w_dIn, w_dNotIn, w_dONone, w_dOSome, w_dSl, w_dBM, w_dChain, w_dListRg1, w_dIR1, w_dIR2, w_dIA, w_dFor, w_dLc, w_dYes, okR_ok, List.getElem?_cons_zero, List.getElem?_cons_succ, Option.some.injEq, exists_eq_left', exists_eq_left, List.map_cons, List.map_nil, List.length_cons, List.length_nil, List.replicate_succ, List.replicate_zero, List.cons_append, List.nil_append, List.append_nil, List.set_cons_zero, List.set_cons_succ, Vl.d.injEq, Vl.l.injEq, D.int.injEq, D.bl.injEq, D.str.injEq, D.tup.injEq, Nat.sub_self, Nat.reduceSub, Nat.reduceAdd, allD, Option.map_some, tyN, i1, i2, i3, i4, i5, i6, i7, i8, i9, i10, i11, i12, i13, i14, i15, i16, i17, if_true, if_false, Bool.false_eq_true, Bool.not_true, Bool.not_false, e_lt, e_le, e_gt, e_ge, e_sub, e_add, e_addS, e_addT, e_mul, e_mulS, e_mod, e_fdiv, e_pow, e_neg, e_eqI, e_neI, e_eqS, e_neS, e_is, e_isNot, e_lenS, e_lenT, e_lenL, e_int, e_abs, e_max, e_min, e_tupT, e_tupL, e_listS, e_listT, e_listL, e_all, e_any, e_str, e_ixT, e_ixS, e_slT, e_slS, e_slL, e_revL, e_revS, e_trB, e_inS, gc_d, e_index, at_0, at_1, at_2, at_3, at_4, at_5, List.take_length] <;> exact q
def numsD (below : Int) : D → Bool
  | .tup ds => ds.all (fromD 0 (below - 1))
  | _ => false
theorem w_are_numbers {S : Store} {d : D} {n : Int} {Q : Vl → Store → Prop} (hd : ∀ ds, d = .tup ds → ds.length ≤ 1000000) (q : Q (.d (.bl (numsD n d))) S) : okR (m_are_numbers [.d d, .d (.int n)] S) Q := by
  unfold m_are_numbers
  refine w_runFn rfl ?_
  unfold t_are_numbers
  cases d with
  | tup ds =>
    simp only [w_dSeq, w_dSet, w_dExpr, w_dRet, w_dRetN, w_dNext, w_dBrk, w_dCnt, w_dIf, w_dAsg, w_dPar, w_dParN, w_dPut, w_dC, w_dVar, w_dBin, w_dUn, w_dCB, w_dNil, w_dCons, w_dCall, w_dBT, w_dTr, w_dNot, w_dAnd, w_dOr, w_dAndV, w_dOrV, w_dNotV, w_dIfE, w_dTup, w_dLst, w_dIx, w_dIsi, w_dIn, w_dNotIn, w_dONone, w_dOSome, w_dSl, w_dBM, w_dChain, w_dListRg1, w_dIR1, w_dIR2, w_dIA, w_dFor, w_dLc, w_dYes, okR_ok, List.getElem?_cons_zero, List.getElem?_cons_succ, Option.some.injEq, exists_eq_left', exists_eq_left, List.map_cons, List.map_nil, List.length_cons, List.length_nil, List.replicate_succ, List.replicate_zero, List.cons_append, List.nil_append, List.append_nil, List.set_cons_zero, List.set_cons_succ, Vl.d.injEq, Vl.l.injEq, D.int.injEq, D.bl.injEq, D.str.injEq, D.tup.injEq, Nat.sub_self, Nat.reduceSub, Nat.reduceAdd, allD, Option.map_some, tyN, i1, i2, i3, i4, i5, i6, i7, i8, i9, i10, i11, i12, i13, i14, i15, i16, i17, e_lt, e_le, e_gt, e_ge, e_sub, e_add, e_addS, e_addT, e_mul, e_mulS, e_mod, e_fdiv, e_pow, e_neg, e_eqI, e_neI, e_eqS, e_neS, e_is, e_isNot, e_lenS, e_lenT, e_lenL, e_int, e_abs, e_max, e_min, e_tupT, e_tupL, e_listS, e_listT, e_listL, e_all, e_any, e_str, e_ixT, e_ixS, e_slT, e_slS, e_slL, e_revL, e_revS, e_trB, e_inS, gc_d, e_index, at_0, at_1, at_2, at_3, at_4, at_5, if_false, Bool.false_eq_true, Bool.not_true, iaQ_t, lcQ_seq]
    refine pure_lc (fun _ => true) (fun x => match x with | .d d => .bl (fromD 0 (n - 1) d) | _ => .non) (by rw [List.length_map]; have := hd ds rfl; omega) ?_ ?_
    · rintro i x acc hx
      rw [List.getElem?_map] at hx
      cases e : ds[i]? with
      | none => rw [e] at hx; cases hx
      | some c =>
        rw [e] at hx
        obtain rfl := Option.some.inj hx
        refine ⟨_, rfl, ?_⟩
        simp only [w_dSeq, w_dSet, w_dExpr, w_dRet, w_dRetN, w_dNext, w_dBrk, w_dCnt, w_dIf, w_dAsg, w_dPar, w_dParN, w_dPut, w_dC, w_dVar, w_dBin, w_dUn, w_dCB, w_dNil, w_dCons, w_dCall, w_dBT, w_dTr, w_dNot, w_dAnd, w_dOr, w_dAndV, w_dOrV, w_dNotV, w_dIfE, w_dTup, w_dLst, w_dIx, w_dIsi, w_dIn, w_dNotIn, w_dONone, w_dOSome, w_dSl, w_dBM, w_dChain, w_dListRg1, w_dIR1, w_dIR2, w_dIA, w_dFor, w_dLc, w_dYes, okR_ok, List.getElem?_cons_zero, List.getElem?_cons_succ, Option.some.injEq, exists_eq_left', exists_eq_left, List.map_cons, List.map_nil, List.length_cons, List.length_nil, List.replicate_succ, List.replicate_zero, List.cons_append, List.nil_append, List.append_nil, List.set_cons_zero, List.set_cons_succ, Vl.d.injEq, Vl.l.injEq, D.int.injEq, D.bl.injEq, D.str.injEq, D.tup.injEq, Nat.sub_self, Nat.reduceSub, Nat.reduceAdd, allD, Option.map_some, wipeR, e_lt, e_le, e_gt, e_ge, e_sub, e_add, e_addS, e_addT, e_mul, e_mulS, e_mod, e_fdiv, e_pow, e_neg, e_eqI, e_neI, e_eqS, e_neS, e_is, e_isNot, e_lenS, e_lenT, e_lenL, e_int, e_abs, e_max, e_min, e_tupT, e_tupL, e_listS, e_listT, e_listL, e_all, e_any, e_str, e_ixT, e_ixS, e_slT, e_slS, e_slL, e_revL, e_revS, e_trB, e_inS, gc_d, e_index, at_0, at_1, at_2, at_3, at_4, at_5]
        exact ⟨trivial, trivial, fun _ => w_is_from ⟨rfl, rfl⟩⟩
    · have e : ((ds.map Vl.d).filter fun _ => true).map (fun x => match x with | .d d => D.bl (fromD 0 (n - 1) d) | _ => .non) = ds.map fun c => D.bl (fromD 0 (n - 1) c) := by
        rw [List.filter_eq_self.mpr (by simp), List.map_map]
        rfl
      rw [e]
      simp only [e_lt, e_le, e_gt, e_ge, e_sub, e_add, e_addS, e_addT, e_mul, e_mulS, e_mod, e_fdiv, e_pow, e_neg, e_eqI, e_neI, e_eqS, e_neS, e_is, e_isNot, e_lenS, e_lenT, e_lenL, e_int, e_abs, e_max, e_min, e_tupT, e_tupL, e_listS, e_listT, e_listL, e_all, e_any, e_str, e_ixT, e_ixS, e_slT, e_slS, e_slL, e_revL, e_revS, e_trB, e_inS, gc_d, e_index, at_0, at_1, at_2, at_3, at_4, at_5]
      refine ⟨_, _, lst_at new_at, bools_map _ _, ?_⟩
      simp only [e_lt, e_le, e_gt, e_ge, e_sub, e_add, e_addS, e_addT, e_mul, e_mulS, e_mod, e_fdiv, e_pow, e_neg, e_eqI, e_neI, e_eqS, e_neS, e_is, e_isNot, e_lenS, e_lenT, e_lenL, e_int, e_abs, e_max, e_min, e_tupT, e_tupL, e_listS, e_listT, e_listL, e_all, e_any, e_str, e_ixT, e_ixS, e_slT, e_slS, e_slL, e_revL, e_revS, e_trB, e_inS, gc_d, e_index, at_0, at_1, at_2, at_3, at_4, at_5, take_new]
      rw [List.all_map]
      exact q
  | _ =>
    simp only [w_dSeq, w_dSet, w_dExpr, w_dRet, w_dRetN, w_dNext, w_dBrk, w_dCnt, w_dIf, w_dAsg, w_dPar, w_dParN, w_dPut, w_dC, w_dVar, w_dBin, w_dUn, w_dCB, w_dNil, w_dCons, w_dCall, w_dBT, w_dTr, w_dNot, w_dAnd, w_dOr, w_dAndV, w_dOrV, w_dNotV, w_dIfE, w_dTup, w_dLst, w_dIx, w_dIsi, w_dIn, w_dNotIn, w_dONone, w_dOSome, w_dSl, w_dBM, w_dChain, w_dListRg1, w_dIR1, w_dIR2, w_dIA, w_dFor, w_dLc, w_dYes, okR_ok, List.getElem?_cons_zero, List.getElem?_cons_succ, Option.some.injEq, exists_eq_left', exists_eq_left, List.map_cons, List.map_nil, List.length_cons, List.length_nil, List.replicate_succ, List.replicate_zero, List.cons_append, List.nil_append, List.append_nil, List.set_cons_zero, List.set_cons_succ, Vl.d.injEq, Vl.l.injEq, D.int.injEq, D.bl.injEq, D.str.injEq, D.tup.injEq, Nat.sub_self, Nat.reduceSub, Nat.reduceAdd, allD, Option.map_some, tyN, i1, i2, i3, i4, i5, i6, i7, i8, i9, i10, i11, i12, i13, i14, i15, i16, i17, e_lt, e_le, e_gt, e_ge, e_sub, e_add, e_addS, e_addT, e_mul, e_mulS, e_mod, e_fdiv, e_pow, e_neg, e_eqI, e_neI, e_eqS, e_neS, e_is, e_isNot, e_lenS, e_lenT, e_lenL, e_int, e_abs, e_max, e_min, e_tupT, e_tupL, e_listS, e_listT, e_listL, e_all, e_any, e_str, e_ixT, e_ixS, e_slT, e_slS, e_slL, e_revL, e_revS, e_trB, e_inS, gc_d, e_index, at_0, at_1, at_2, at_3, at_4, at_5, if_true, Bool.not_false, List.take_length]
    exact q
def lotD (sg : List Nat) : D → Bool
  | .str t => ((sg.filter fun c => decide (c ∈ t)) == t)
  | _ => false
theorem w_is_lot {S : Store} {sg : List Nat} {d : D} {Q : Vl → Store → Prop} (hs : sg.length ≤ 1000) (q : Q (.d (.bl (lotD sg d))) S) : okR (m_is_lot [.d (.str sg), .d d] S) Q := by
  unfold m_is_lot
  refine w_runFn rfl ?_
  unfold t_is_lot
  cases d with
  | str t =>
    simp only [w_dSeq, w_dSet, w_dExpr, w_dRet, w_dRetN, w_dNext, w_dBrk, w_dCnt, w_dIf, w_dAsg, w_dPar, w_dParN, w_dPut, w_dC, w_dVar, w_dBin, w_dUn, w_dCB, w_dNil, w_dCons, w_dCall, w_dBT, w_dTr, w_dNot, w_dAnd, w_dOr, w_dAndV, w_dOrV, w_dNotV, w_dIfE, w_dTup, w_dLst, w_dIx, w_dIsi, w_dIn, w_dNotIn, w_dONone, w_dOSome, w_dSl, w_dBM, w_dChain, w_dListRg1, w_dIR1, w_dIR2, w_dIA, w_dFor, w_dLc, w_dYes, okR_ok, List.getElem?_cons_zero, List.getElem?_cons_succ, Option.some.injEq, exists_eq_left', exists_eq_left, List.map_cons, List.map_nil, List.length_cons, List.length_nil, List.replicate_succ, List.replicate_zero, List.cons_append, List.nil_append, List.append_nil, List.set_cons_zero, List.set_cons_succ, Vl.d.injEq, Vl.l.injEq, D.int.injEq, D.bl.injEq, D.str.injEq, D.tup.injEq, Nat.sub_self, Nat.reduceSub, Nat.reduceAdd, allD, Option.map_some, tyN, i1, i2, i3, i4, i5, i6, i7, i8, i9, i10, i11, i12, i13, i14, i15, i16, i17, e_lt, e_le, e_gt, e_ge, e_sub, e_add, e_addS, e_addT, e_mul, e_mulS, e_mod, e_fdiv, e_pow, e_neg, e_eqI, e_neI, e_eqS, e_neS, e_is, e_isNot, e_lenS, e_lenT, e_lenL, e_int, e_abs, e_max, e_min, e_tupT, e_tupL, e_listS, e_listT, e_listL, e_all, e_any, e_str, e_ixT, e_ixS, e_slT, e_slS, e_slL, e_revL, e_revS, e_trB, e_inS, gc_d, e_index, at_0, at_1, at_2, at_3, at_4, at_5, if_false, Bool.false_eq_true, Bool.not_true]
    refine w_in_order hs ?_
    simp only [e_lt, e_le, e_gt, e_ge, e_sub, e_add, e_addS, e_addT, e_mul, e_mulS, e_mod, e_fdiv, e_pow, e_neg, e_eqI, e_neI, e_eqS, e_neS, e_is, e_isNot, e_lenS, e_lenT, e_lenL, e_int, e_abs, e_max, e_min, e_tupT, e_tupL, e_listS, e_listT, e_listL, e_all, e_any, e_str, e_ixT, e_ixS, e_slT, e_slS, e_slL, e_revL, e_revS, e_trB, e_inS, gc_d, e_index, at_0, at_1, at_2, at_3, at_4, at_5, List.take_length]
    exact q
  | _ =>
    simp only [w_dSeq, w_dSet, w_dExpr, w_dRet, w_dRetN, w_dNext, w_dBrk, w_dCnt, w_dIf, w_dAsg, w_dPar, w_dParN, w_dPut, w_dC, w_dVar, w_dBin, w_dUn, w_dCB, w_dNil, w_dCons, w_dCall, w_dBT, w_dTr, w_dNot, w_dAnd, w_dOr, w_dAndV, w_dOrV, w_dNotV, w_dIfE, w_dTup, w_dLst, w_dIx, w_dIsi, w_dIn, w_dNotIn, w_dONone, w_dOSome, w_dSl, w_dBM, w_dChain, w_dListRg1, w_dIR1, w_dIR2, w_dIA, w_dFor, w_dLc, w_dYes, okR_ok, List.getElem?_cons_zero, List.getElem?_cons_succ, Option.some.injEq, exists_eq_left', exists_eq_left, List.map_cons, List.map_nil, List.length_cons, List.length_nil, List.replicate_succ, List.replicate_zero, List.cons_append, List.nil_append, List.append_nil, List.set_cons_zero, List.set_cons_succ, Vl.d.injEq, Vl.l.injEq, D.int.injEq, D.bl.injEq, D.str.injEq, D.tup.injEq, Nat.sub_self, Nat.reduceSub, Nat.reduceAdd, allD, Option.map_some, tyN, i1, i2, i3, i4, i5, i6, i7, i8, i9, i10, i11, i12, i13, i14, i15, i16, i17, e_lt, e_le, e_gt, e_ge, e_sub, e_add, e_addS, e_addT, e_mul, e_mulS, e_mod, e_fdiv, e_pow, e_neg, e_eqI, e_neI, e_eqS, e_neS, e_is, e_isNot, e_lenS, e_lenT, e_lenL, e_int, e_abs, e_max, e_min, e_tupT, e_tupL, e_listS, e_listT, e_listL, e_all, e_any, e_str, e_ixT, e_ixS, e_slT, e_slS, e_slL, e_revL, e_revS, e_trB, e_inS, gc_d, e_index, at_0, at_1, at_2, at_3, at_4, at_5, if_true, Bool.not_false, List.take_length]
    exact q
def lenD : D → Int
  | .str s => s.length
  | .tup ds => ds.length
  | _ => 0
def cutD (sg : List Nat) (many : Int) : D → Bool
  | .tup [a, b] => lotD sg a && numsD many b && (lenD b == lenD a)
  | _ => false
theorem w_is_cut {S : Store} {sg : List Nat} {go : List (List Nat)} {tell : List (List D)} {en : List D} {d : D} {Q : Vl → Store → Prop} (hs : sg.length ≤ 1000) (hd : ∀ a b, d = .tup [a, b] → lenD a ≤ 1000000 ∧ lenD b ≤ 1000000)
    (q : Q (.d (.bl (cutD sg go.length d))) S) : okR (m_is_cut [.d (enc sg go tell en), .d d] S) Q := by
  unfold m_is_cut
  refine w_runFn rfl ?_
  unfold t_is_cut enc
  simp only [w_dSeq, w_dSet, w_dExpr, w_dRet, w_dRetN, w_dNext, w_dBrk, w_dCnt, w_dIf, w_dAsg, w_dPar, w_dParN, w_dPut, w_dC, w_dVar, w_dBin, w_dUn, w_dCB, w_dNil, w_dCons, w_dCall, w_dBT, w_dTr, w_dNot, w_dAnd, w_dOr, w_dAndV, w_dOrV, w_dNotV, w_dIfE, w_dTup, w_dLst, w_dIx, w_dIsi, w_dIn, w_dNotIn, w_dONone, w_dOSome, w_dSl, w_dBM, w_dChain, w_dListRg1, w_dIR1, w_dIR2, w_dIA, w_dFor, w_dLc, w_dYes, okR_ok, List.getElem?_cons_zero, List.getElem?_cons_succ, Option.some.injEq, exists_eq_left', exists_eq_left, List.map_cons, List.map_nil, List.length_cons, List.length_nil, List.replicate_succ, List.replicate_zero, List.cons_append, List.nil_append, List.append_nil, List.set_cons_zero, List.set_cons_succ, Vl.d.injEq, Vl.l.injEq, D.int.injEq, D.bl.injEq, D.str.injEq, D.tup.injEq, Nat.sub_self, Nat.reduceSub, Nat.reduceAdd, allD, Option.map_some]
  refine w_is_row ?_
  simp only [e_lt, e_le, e_gt, e_ge, e_sub, e_add, e_addS, e_addT, e_mul, e_mulS, e_mod, e_fdiv, e_pow, e_neg, e_eqI, e_neI, e_eqS, e_neS, e_is, e_isNot, e_lenS, e_lenT, e_lenL, e_int, e_abs, e_max, e_min, e_tupT, e_tupL, e_listS, e_listT, e_listL, e_all, e_any, e_str, e_ixT, e_ixS, e_slT, e_slS, e_slL, e_revL, e_revS, e_trB, e_inS, gc_d, e_index, at_0, at_1, at_2, at_3, at_4, at_5]
  have no : rowD 2 d = false → cutD sg go.length d = false := fun h => by
    unfold cutD
    split
    · cases h
    · rfl
  by_cases c : rowD 2 d = true
  · obtain ⟨a, b, rfl⟩ : ∃ a b, d = .tup [a, b] := by
      cases d with
      | tup ds =>
        match ds, c with
        | [a, b], _ => exact ⟨a, b, rfl⟩
        | [], c => cases c
        | [_], c => cases c
        | _ :: _ :: _ :: r, c => exact absurd (eq_of_beq c) (by simp; omega)
      | _ => cases c
    obtain ⟨ha, hb⟩ := hd a b rfl
    simp only [c, Bool.not_true, if_false, Bool.false_eq_true, e_lt, e_le, e_gt, e_ge, e_sub, e_add, e_addS, e_addT, e_mul, e_mulS, e_mod, e_fdiv, e_pow, e_neg, e_eqI, e_neI, e_eqS, e_neS, e_is, e_isNot, e_lenS, e_lenT, e_lenL, e_int, e_abs, e_max, e_min, e_tupT, e_tupL, e_listS, e_listT, e_listL, e_all, e_any, e_str, e_ixT, e_ixS, e_slT, e_slS, e_slL, e_revL, e_revS, e_trB, e_inS, gc_d, e_index, at_0, at_1, at_2, at_3, at_4, at_5, w_dSeq, w_dSet, w_dExpr, w_dRet, w_dRetN, w_dNext, w_dBrk, w_dCnt, w_dIf, w_dAsg, w_dPar, w_dParN, w_dPut, w_dC, w_dVar, w_dBin, w_dUn, w_dCB, w_dNil, w_dCons, w_dCall, w_dBT, w_dTr, w_dNot, w_dAnd, w_dOr, w_dAndV, w_dOrV, w_dNotV, w_dIfE, w_dTup, w_dLst, w_dIx, w_dIsi, w_dIn, w_dNotIn, w_dONone, w_dOSome, w_dSl, w_dBM, w_dChain, w_dListRg1, w_dIR1, w_dIR2, w_dIA, w_dFor, w_dLc, w_dYes, okR_ok, List.getElem?_cons_zero, List.getElem?_cons_succ, Option.some.injEq, exists_eq_left', exists_eq_left, List.map_cons, List.map_nil, List.length_cons, List.length_nil, List.replicate_succ, List.replicate_zero, List.cons_append, List.nil_append, List.append_nil, List.set_cons_zero, List.set_cons_succ, Vl.d.injEq, Vl.l.injEq, D.int.injEq, D.bl.injEq, D.str.injEq, D.tup.injEq, Nat.sub_self, Nat.reduceSub, Nat.reduceAdd, allD, Option.map_some]
    refine w_is_lot hs ?_
    simp only [e_lt, e_le, e_gt, e_ge, e_sub, e_add, e_addS, e_addT, e_mul, e_mulS, e_mod, e_fdiv, e_pow, e_neg, e_eqI, e_neI, e_eqS, e_neS, e_is, e_isNot, e_lenS, e_lenT, e_lenL, e_int, e_abs, e_max, e_min, e_tupT, e_tupL, e_listS, e_listT, e_listL, e_all, e_any, e_str, e_ixT, e_ixS, e_slT, e_slS, e_slL, e_revL, e_revS, e_trB, e_inS, gc_d, e_index, at_0, at_1, at_2, at_3, at_4, at_5]
    have e : cutD sg go.length (.tup [a, b]) = (lotD sg a && numsD go.length b && (lenD b == lenD a)) := rfl
    rw [e] at q
    by_cases c2 : lotD sg a = true
    · simp only [c2, Bool.not_true, if_false, Bool.false_eq_true, e_lt, e_le, e_gt, e_ge, e_sub, e_add, e_addS, e_addT, e_mul, e_mulS, e_mod, e_fdiv, e_pow, e_neg, e_eqI, e_neI, e_eqS, e_neS, e_is, e_isNot, e_lenS, e_lenT, e_lenL, e_int, e_abs, e_max, e_min, e_tupT, e_tupL, e_listS, e_listT, e_listL, e_all, e_any, e_str, e_ixT, e_ixS, e_slT, e_slS, e_slL, e_revL, e_revS, e_trB, e_inS, gc_d, e_index, at_0, at_1, at_2, at_3, at_4, at_5, w_dSeq, w_dSet, w_dExpr, w_dRet, w_dRetN, w_dNext, w_dBrk, w_dCnt, w_dIf, w_dAsg, w_dPar, w_dParN, w_dPut, w_dC, w_dVar, w_dBin, w_dUn, w_dCB, w_dNil, w_dCons, w_dCall, w_dBT, w_dTr, w_dNot, w_dAnd, w_dOr, w_dAndV, w_dOrV, w_dNotV, w_dIfE, w_dTup, w_dLst, w_dIx, w_dIsi, w_dIn, w_dNotIn, w_dONone, w_dOSome, w_dSl, w_dBM, w_dChain, w_dListRg1, w_dIR1, w_dIR2, w_dIA, w_dFor, w_dLc, w_dYes, okR_ok, List.getElem?_cons_zero, List.getElem?_cons_succ, Option.some.injEq, exists_eq_left', exists_eq_left, List.map_cons, List.map_nil, List.length_cons, List.length_nil, List.replicate_succ, List.replicate_zero, List.cons_append, List.nil_append, List.append_nil, List.set_cons_zero, List.set_cons_succ, Vl.d.injEq, Vl.l.injEq, D.int.injEq, D.bl.injEq, D.str.injEq, D.tup.injEq, Nat.sub_self, Nat.reduceSub, Nat.reduceAdd, allD, Option.map_some]
      refine w_are_numbers (fun ds e => by subst e; have : (ds.length : Int) ≤ 1000000 := hb; omega) ?_
      rw [show ((encG go).length : Int) = go.length by simp [encG]]
      simp only [w_dSeq, w_dSet, w_dExpr, w_dRet, w_dRetN, w_dNext, w_dBrk, w_dCnt, w_dIf, w_dAsg, w_dPar, w_dParN, w_dPut, w_dC, w_dVar, w_dBin, w_dUn, w_dCB, w_dNil, w_dCons, w_dCall, w_dBT, w_dTr, w_dNot, w_dAnd, w_dOr, w_dAndV, w_dOrV, w_dNotV, w_dIfE, w_dTup, w_dLst, w_dIx, w_dIsi, w_dIn, w_dNotIn, w_dONone, w_dOSome, w_dSl, w_dBM, w_dChain, w_dListRg1, w_dIR1, w_dIR2, w_dIA, w_dFor, w_dLc, w_dYes, okR_ok, List.getElem?_cons_zero, List.getElem?_cons_succ, Option.some.injEq, exists_eq_left', exists_eq_left, List.map_cons, List.map_nil, List.length_cons, List.length_nil, List.replicate_succ, List.replicate_zero, List.cons_append, List.nil_append, List.append_nil, List.set_cons_zero, List.set_cons_succ, Vl.d.injEq, Vl.l.injEq, D.int.injEq, D.bl.injEq, D.str.injEq, D.tup.injEq, Nat.sub_self, Nat.reduceSub, Nat.reduceAdd, allD, Option.map_some]
      rw [c2, Bool.true_and] at q
      by_cases c3 : numsD go.length b = true
      · simp only [c3, if_true]
        rw [c3, Bool.true_and] at q
        cases a with
        | str t =>
          cases b with
          | tup ds =>
            simp only [e_lt, e_le, e_gt, e_ge, e_sub, e_add, e_addS, e_addT, e_mul, e_mulS, e_mod, e_fdiv, e_pow, e_neg, e_eqI, e_neI, e_eqS, e_neS, e_is, e_isNot, e_lenS, e_lenT, e_lenL, e_int, e_abs, e_max, e_min, e_tupT, e_tupL, e_listS, e_listT, e_listL, e_all, e_any, e_str, e_ixT, e_ixS, e_slT, e_slS, e_slL, e_revL, e_revS, e_trB, e_inS, gc_d, e_index, at_0, at_1, at_2, at_3, at_4, at_5, List.take_length]
            exact ⟨by have : (t.length : Int) ≤ 1000000 := ha; rw [sizeLine_eq]; omega, q⟩
          | _ => cases c3
        | _ => cases c2
      · have c3' : numsD go.length b = false := by simpa using c3
        simp only [c3', if_false, Bool.false_eq_true, e_lt, e_le, e_gt, e_ge, e_sub, e_add, e_addS, e_addT, e_mul, e_mulS, e_mod, e_fdiv, e_pow, e_neg, e_eqI, e_neI, e_eqS, e_neS, e_is, e_isNot, e_lenS, e_lenT, e_lenL, e_int, e_abs, e_max, e_min, e_tupT, e_tupL, e_listS, e_listT, e_listL, e_all, e_any, e_str, e_ixT, e_ixS, e_slT, e_slS, e_slL, e_revL, e_revS, e_trB, e_inS, gc_d, e_index, at_0, at_1, at_2, at_3, at_4, at_5, List.take_length]
        rw [c3'] at q
        exact q
    · have c2' : lotD sg a = false := by simpa using c2
      simp only [c2', Bool.not_false, if_true, e_lt, e_le, e_gt, e_ge, e_sub, e_add, e_addS, e_addT, e_mul, e_mulS, e_mod, e_fdiv, e_pow, e_neg, e_eqI, e_neI, e_eqS, e_neS, e_is, e_isNot, e_lenS, e_lenT, e_lenL, e_int, e_abs, e_max, e_min, e_tupT, e_tupL, e_listS, e_listT, e_listL, e_all, e_any, e_str, e_ixT, e_ixS, e_slT, e_slS, e_slL, e_revL, e_revS, e_trB, e_inS, gc_d, e_index, at_0, at_1, at_2, at_3, at_4, at_5, List.take_length]
      rw [c2'] at q
      exact q
  · have c' : rowD 2 d = false := by simpa using c
    simp only [c', Bool.not_false, if_true, e_lt, e_le, e_gt, e_ge, e_sub, e_add, e_addS, e_addT, e_mul, e_mulS, e_mod, e_fdiv, e_pow, e_neg, e_eqI, e_neI, e_eqS, e_neS, e_is, e_isNot, e_lenS, e_lenT, e_lenL, e_int, e_abs, e_max, e_min, e_tupT, e_tupL, e_listS, e_listT, e_listL, e_all, e_any, e_str, e_ixT, e_ixS, e_slT, e_slS, e_slL, e_revL, e_revS, e_trB, e_inS, gc_d, e_index, at_0, at_1, at_2, at_3, at_4, at_5, List.take_length]
    rw [no c'] at q
    exact q
end L71
end

section
set_option Elab.async false
set_option linter.all false
set_option maxRecDepth 100000
set_option autoImplicit false
set_option maxHeartbeats 1000001
namespace L71
open PySem L2 TL DL
/-! ### reading -/
theorem str_at {t : List Nat} {i : Nat} {x : Vl} (h : (t.map fun c => Vl.d (.str [c]))[i]? = some x) : ∃ c, t[i]? = some c ∧ x = .d (.str [c]) ∧ i < t.length ∧ t.take (i + 1) = t.take i ++ [c] := by
  rw [List.getElem?_map] at h
  cases e : t[i]? with
  | none => rw [e] at h; cases h
  | some c =>
    rw [e] at h
    refine ⟨c, rfl, (Option.some.inj h).symm, (List.getElem?_eq_some_iff.mp e).1, ?_⟩
    rw [List.take_succ, e]
    rfl
def ixOf (sg : List Nat) (c : Nat) : Nat := sg.idxOf c
theorem ix_some {sg : List Nat} {c : Nat} (h : c ∈ sg) : sg.idxOf? c = some (ixOf sg c) ∧ ixOf sg c < sg.length := by
  unfold ixOf
  have h1 := List.idxOf_lt_length_of_mem h
  refine ⟨?_, h1⟩
  induction sg with
  | nil => cases h
  | cons a l ih =>
    rw [List.idxOf?_cons, List.idxOf_cons]
    by_cases e : a = c
    · subst e; simp
    · have e2 : (a == c) = false := by simpa using e
      have hm : c ∈ l := by
        rcases List.mem_cons.mp h with h | h
        · exact absurd h.symm e
        · exact h
      rw [e2]
      simp only [Bool.false_eq_true, if_false, cond_false]
      rw [ih hm (List.idxOf_lt_length_of_mem hm)]
      rfl
def stp (sg : List Nat) (go : List (List Nat)) (st c : Nat) : Nat := (go.getD st []).getD (ixOf sg c) 0
def mrk (sg : List Nat) (tell : List (List D)) (st c : Nat) : D := (tell.getD st []).getD (ixOf sg c) .non
theorem go_at {sg : List Nat} {many : Nat} {go : List (List Nat)} {tell : List (List D)} {en : List D} (M : Mach sg.length many go tell en) {st c : Nat} (h : st < many) (hc : c ∈ sg) :
    ∃ r, go[st]? = some r ∧ r[ixOf sg c]? = some (stp sg go st c) ∧ stp sg go st c < many := by
  have hst : st < go.length := by rw [M.g1]; exact h
  have hr := M.g2 _ (List.getElem_mem hst)
  have hi : ixOf sg c < go[st].length := by rw [hr.1]; exact (ix_some hc).2
  have e : stp sg go st c = go[st][ixOf sg c] := by unfold stp; simp [List.getD, hst, hi]
  exact ⟨go[st], List.getElem?_eq_getElem hst, by rw [e]; exact List.getElem?_eq_getElem hi, by rw [e]; exact hr.2 _ (List.getElem_mem hi)⟩
theorem tell_at {sg : List Nat} {many : Nat} {go : List (List Nat)} {tell : List (List D)} {en : List D} (M : Mach sg.length many go tell en) {st c : Nat} (h : st < many) (hc : c ∈ sg) :
    ∃ r, tell[st]? = some r ∧ r[ixOf sg c]? = some (mrk sg tell st c) ∧ mrk sg tell st c ∈ MK := by
  have hst : st < tell.length := by rw [M.t1]; exact h
  have hr := M.t2 _ (List.getElem_mem hst)
  have hi : ixOf sg c < tell[st].length := by rw [hr.1]; exact (ix_some hc).2
  have e : mrk sg tell st c = tell[st][ixOf sg c] := by unfold mrk; simp [List.getD, hst, hi]
  exact ⟨tell[st], List.getElem?_eq_getElem hst, by rw [e]; exact List.getElem?_eq_getElem hi, by rw [e]; exact hr.2 _ (List.getElem_mem hi)⟩
abbrev wkF (sg : List Nat) (go : List (List Nat)) (tell : List (List D)) := walkF (stp sg go) (mrk sg tell)
theorem wk_snoc (sg : List Nat) (go : List (List Nat)) (tell : List (List D)) (s : Nat × List D) (t : List Nat) (c : Nat) : wkF sg go tell s (t ++ [c]) = one (stp sg go) (mrk sg tell) (wkF sg go tell s t) c := by
  unfold wkF walkF
  rw [List.foldl_append]
  rfl
/-- where a walk leads, what it shows -/
theorem wk_ok {sg : List Nat} {many : Nat} {go : List (List Nat)} {tell : List (List D)} {en : List D} (M : Mach sg.length many go tell en) : ∀ (t : List Nat) (s : Nat × List D), s.1 < many → (∀ c ∈ t, c ∈ sg) → (∀ d ∈ s.2, d ∈ MK) →
    (wkF sg go tell s t).1 < many ∧ (wkF sg go tell s t).2.length = s.2.length + t.length ∧ ∀ d ∈ (wkF sg go tell s t).2, d ∈ MK
  | [], s, h, _, hm => ⟨h, rfl, hm⟩
  | c :: t, s, h, hc, hm => by
    obtain ⟨r, _, _, h3⟩ := go_at M h (hc c List.mem_cons_self)
    obtain ⟨r', _, _, h4⟩ := tell_at M h (hc c List.mem_cons_self)
    have := wk_ok M t (one (stp sg go) (mrk sg tell) s c) h3 (fun d hd => hc d (List.mem_cons_of_mem _ hd)) (all_snoc hm h4)
    refine ⟨this.1, ?_, this.2.2⟩
    have e := this.2.1
    show (wkF sg go tell (one (stp sg go) (mrk sg tell) s c) t).2.length = _
    rw [e]
    show (s.2 ++ [_]).length + t.length = s.2.length + (t.length + 1)
    rw [List.length_append, List.length_singleton]
    omega
theorem w_walk {S : Store} {sg t : List Nat} {many st : Nat} {go : List (List Nat)} {tell : List (List D)} {en : List D} {Q : Vl → Store → Prop} (M : Mach sg.length many go tell en) (hsg : sg.length ≤ 1000) (hst : st < many) (ht : t.length ≤ 1000000) (hc : ∀ c ∈ t, c ∈ sg)
    (q : Q (.d (.tup [.int ((wkF sg go tell (st, []) t).1 : Nat), .tup (wkF sg go tell (st, []) t).2])) S) : okR (m_walk [.d (enc sg go tell en), .d (.int st), .d (.str t)] S) Q := by
  unfold m_walk
  refine w_runFn rfl ?_
  unfold t_walk
  refine seq_cut (fun ρ' S' => ρ' = [some (.d (enc sg go tell en)), some (.d (.int st)), some (.d (.str t)), some (.d (.str sg)), some (.d (.tup (encG go))), some (.d (.tup (encT tell))), none, none, none] ∧ S' = S) ?_ fun ρ1 S1 ⟨e1, e2⟩ => ?_
  · unfold enc
    simp only [w_dSeq, w_dSet, w_dExpr, w_dRet, w_dRetN, w_dNext, w_dBrk, w_dCnt, w_dIf, w_dAsg, w_dPar, w_dParN, w_dPut, w_dC, w_dVar, w_dBin, w_dUn, w_dCB, w_dNil, w_dCons, w_dCall, w_dBT, w_dTr, w_dNot, w_dAnd, w_dOr, w_dAndV, w_dOrV, w_dNotV, w_dIfE, w_dTup, w_dLst, w_dIx, w_dIsi, w_dIn, w_dNotIn, w_dONone, w_dOSome, w_dSl, w_dBM, w_dChain, w_dListRg1, w_dIR1, w_dIR2, w_dIA, w_dFor, w_dLc, w_dYes, okR_ok, List.getElem?_cons_zero, List.getElem?_cons_succ, Option.some.injEq, exists_eq_left', exists_eq_left, List.map_cons, List.map_nil, List.length_cons, List.length_nil, List.replicate_succ, List.replicate_zero, List.cons_append, List.nil_append, List.append_nil, List.set_cons_zero, List.set_cons_succ, Vl.d.injEq, Vl.l.injEq, D.int.injEq, D.bl.injEq, D.str.injEq, D.tup.injEq, Nat.sub_self, Nat.reduceSub, Nat.reduceAdd, allD, Option.map_some, e_lt, e_le, e_gt, e_ge, e_sub, e_add, e_addS, e_addT, e_mul, e_mulS, e_mod, e_fdiv, e_pow, e_neg, e_eqI, e_neI, e_eqS, e_neS, e_is, e_isNot, e_lenS, e_lenT, e_lenL, e_int, e_abs, e_max, e_min, e_tupT, e_tupL, e_listS, e_listT, e_listL, e_all, e_any, e_str, e_ixT, e_ixS, e_slT, e_slS, e_slL, e_revL, e_revS, e_trB, e_inS, gc_d, e_index, at_0, at_1, at_2, at_3, at_4, at_5]
    exact ⟨_, rfl, rfl, trivial⟩
  subst e1 e2
  refine seq_cut (fun ρ' S' => ρ' = [some (.d (enc sg go tell en)), some (.d (.int st)), some (.d (.str t)), some (.d (.str sg)), some (.d (.tup (encG go))), some (.d (.tup (encT tell))), some (.l S1.length), none, none] ∧ S' = S1 ++ [.lst []]) ?_ fun ρ2 S2 ⟨e1, e2⟩ => ?_
  · simp only [w_dSeq, w_dSet, w_dExpr, w_dRet, w_dRetN, w_dNext, w_dBrk, w_dCnt, w_dIf, w_dAsg, w_dPar, w_dParN, w_dPut, w_dC, w_dVar, w_dBin, w_dUn, w_dCB, w_dNil, w_dCons, w_dCall, w_dBT, w_dTr, w_dNot, w_dAnd, w_dOr, w_dAndV, w_dOrV, w_dNotV, w_dIfE, w_dTup, w_dLst, w_dIx, w_dIsi, w_dIn, w_dNotIn, w_dONone, w_dOSome, w_dSl, w_dBM, w_dChain, w_dListRg1, w_dIR1, w_dIR2, w_dIA, w_dFor, w_dLc, w_dYes, okR_ok, List.getElem?_cons_zero, List.getElem?_cons_succ, Option.some.injEq, exists_eq_left', exists_eq_left, List.map_cons, List.map_nil, List.length_cons, List.length_nil, List.replicate_succ, List.replicate_zero, List.cons_append, List.nil_append, List.append_nil, List.set_cons_zero, List.set_cons_succ, Vl.d.injEq, Vl.l.injEq, D.int.injEq, D.bl.injEq, D.str.injEq, D.tup.injEq, Nat.sub_self, Nat.reduceSub, Nat.reduceAdd, allD, Option.map_some]
    exact ⟨by decide, trivial, trivial⟩
  subst e1 e2
  refine seq_cut (fun ρ' S' => ∃ (v w : Option Vl), ρ' = [some (.d (enc sg go tell en)), some (.d (.int ((wkF sg go tell (st, []) t).1 : Nat))), some (.d (.str t)), some (.d (.str sg)), some (.d (.tup (encG go))), some (.d (.tup (encT tell))), some (.l S1.length), v, w] ∧ S' = S1 ++ [.lst (wkF sg go tell (st, []) t).2]) ?_ fun ρ2 S2 ⟨v, w, e1, e2⟩ => ?_
  · simp only [w_dSeq, w_dSet, w_dExpr, w_dRet, w_dRetN, w_dNext, w_dBrk, w_dCnt, w_dIf, w_dAsg, w_dPar, w_dParN, w_dPut, w_dC, w_dVar, w_dBin, w_dUn, w_dCB, w_dNil, w_dCons, w_dCall, w_dBT, w_dTr, w_dNot, w_dAnd, w_dOr, w_dAndV, w_dOrV, w_dNotV, w_dIfE, w_dTup, w_dLst, w_dIx, w_dIsi, w_dIn, w_dNotIn, w_dONone, w_dOSome, w_dSl, w_dBM, w_dChain, w_dListRg1, w_dIR1, w_dIR2, w_dIA, w_dFor, w_dLc, w_dYes, okR_ok, List.getElem?_cons_zero, List.getElem?_cons_succ, Option.some.injEq, exists_eq_left', exists_eq_left, List.map_cons, List.map_nil, List.length_cons, List.length_nil, List.replicate_succ, List.replicate_zero, List.cons_append, List.nil_append, List.append_nil, List.set_cons_zero, List.set_cons_succ, Vl.d.injEq, Vl.l.injEq, D.int.injEq, D.bl.injEq, D.str.injEq, D.tup.injEq, Nat.sub_self, Nat.reduceSub, Nat.reduceAdd, allD, Option.map_some, iaQ_s, forQ_seq]
    refine loopS_inv (fun i ρ' S' => ∃ (v w : Option Vl), ρ' = [some (.d (enc sg go tell en)), some (.d (.int ((wkF sg go tell (st, []) (t.take i)).1 : Nat))), some (.d (.str t)), some (.d (.str sg)), some (.d (.tup (encG go))), some (.d (.tup (encT tell))), some (.l S1.length), v, w] ∧ S' = S1 ++ [.lst (wkF sg go tell (st, []) (t.take i)).2])
      ⟨none, none, rfl, rfl⟩ ?_ ?_
    · rintro i x ρ3 S3 hx ⟨v, w, rfl, rfl⟩
      obtain ⟨c, hc1, rfl, hi, et⟩ := str_at hx
      have hcm : c ∈ sg := hc c (List.mem_of_getElem? hc1)
      obtain ⟨w1, w2, w3⟩ := wk_ok M (t.take i) (st, []) hst (fun c h => hc c (List.mem_of_mem_take h)) (by simp)
      obtain ⟨r, r1, r2, r3⟩ := go_at M w1 hcm
      obtain ⟨r', s1, s2, s3⟩ := tell_at M w1 hcm
      refine ⟨_, rfl, ?_⟩
      simp only [w_dSeq, w_dSet, w_dExpr, w_dRet, w_dRetN, w_dNext, w_dBrk, w_dCnt, w_dIf, w_dAsg, w_dPar, w_dParN, w_dPut, w_dC, w_dVar, w_dBin, w_dUn, w_dCB, w_dNil, w_dCons, w_dCall, w_dBT, w_dTr, w_dNot, w_dAnd, w_dOr, w_dAndV, w_dOrV, w_dNotV, w_dIfE, w_dTup, w_dLst, w_dIx, w_dIsi, w_dIn, w_dNotIn, w_dONone, w_dOSome, w_dSl, w_dBM, w_dChain, w_dListRg1, w_dIR1, w_dIR2, w_dIA, w_dFor, w_dLc, w_dYes, okR_ok, List.getElem?_cons_zero, List.getElem?_cons_succ, Option.some.injEq, exists_eq_left', exists_eq_left, List.map_cons, List.map_nil, List.length_cons, List.length_nil, List.replicate_succ, List.replicate_zero, List.cons_append, List.nil_append, List.append_nil, List.set_cons_zero, List.set_cons_succ, Vl.d.injEq, Vl.l.injEq, D.int.injEq, D.bl.injEq, D.str.injEq, D.tup.injEq, Nat.sub_self, Nat.reduceSub, Nat.reduceAdd, allD, Option.map_some, isStr, e_lt, e_le, e_gt, e_ge, e_sub, e_add, e_addS, e_addT, e_mul, e_mulS, e_mod, e_fdiv, e_pow, e_neg, e_eqI, e_neI, e_eqS, e_neS, e_is, e_isNot, e_lenS, e_lenT, e_lenL, e_int, e_abs, e_max, e_min, e_tupT, e_tupL, e_listS, e_listT, e_listL, e_all, e_any, e_str, e_ixT, e_ixS, e_slT, e_slS, e_slL, e_revL, e_revS, e_trB, e_inS, gc_d, e_index, at_0, at_1, at_2, at_3, at_4, at_5, true_and, (ix_some hcm).1, e_isLst (lst_at new_at), e_append new_at, set_new]
      refine ⟨.tup r', by rw [at_nat]; unfold encT; rw [List.getElem?_map, s1]; rfl, ?_⟩
      simp only [e_lt, e_le, e_gt, e_ge, e_sub, e_add, e_addS, e_addT, e_mul, e_mulS, e_mod, e_fdiv, e_pow, e_neg, e_eqI, e_neI, e_eqS, e_neS, e_is, e_isNot, e_lenS, e_lenT, e_lenL, e_int, e_abs, e_max, e_min, e_tupT, e_tupL, e_listS, e_listT, e_listL, e_all, e_any, e_str, e_ixT, e_ixS, e_slT, e_slS, e_slL, e_revL, e_revS, e_trB, e_inS, gc_d, e_index, at_0, at_1, at_2, at_3, at_4, at_5]
      refine ⟨_, by rw [at_nat]; exact s2, ?_⟩
      simp only [e_lt, e_le, e_gt, e_ge, e_sub, e_add, e_addS, e_addT, e_mul, e_mulS, e_mod, e_fdiv, e_pow, e_neg, e_eqI, e_neI, e_eqS, e_neS, e_is, e_isNot, e_lenS, e_lenT, e_lenL, e_int, e_abs, e_max, e_min, e_tupT, e_tupL, e_listS, e_listT, e_listL, e_all, e_any, e_str, e_ixT, e_ixS, e_slT, e_slS, e_slL, e_revL, e_revS, e_trB, e_inS, gc_d, e_index, at_0, at_1, at_2, at_3, at_4, at_5, w_dSeq, w_dSet, w_dExpr, w_dRet, w_dRetN, w_dNext, w_dBrk, w_dCnt, w_dIf, w_dAsg, w_dPar, w_dParN, w_dPut, w_dC, w_dVar, w_dBin, w_dUn, w_dCB, w_dNil, w_dCons, w_dCall, w_dBT, w_dTr, w_dNot, w_dAnd, w_dOr, w_dAndV, w_dOrV, w_dNotV, w_dIfE, w_dTup, w_dLst, w_dIx, w_dIsi, w_dIn, w_dNotIn, w_dONone, w_dOSome, w_dSl, w_dBM, w_dChain, w_dListRg1, w_dIR1, w_dIR2, w_dIA, w_dFor, w_dLc, w_dYes, okR_ok, List.getElem?_cons_zero, List.getElem?_cons_succ, Option.some.injEq, exists_eq_left', exists_eq_left, List.map_cons, List.map_nil, List.length_cons, List.length_nil, List.replicate_succ, List.replicate_zero, List.cons_append, List.nil_append, List.append_nil, List.set_cons_zero, List.set_cons_succ, Vl.d.injEq, Vl.l.injEq, D.int.injEq, D.bl.injEq, D.str.injEq, D.tup.injEq, Nat.sub_self, Nat.reduceSub, Nat.reduceAdd, allD, Option.map_some, e_append new_at, set_new]
      refine ⟨by rw [w2, sizeLine_eq]; simp; omega, .tup (nums r), by rw [at_nat]; unfold encG; rw [List.getElem?_map, r1]; rfl, ?_⟩
      simp only [e_lt, e_le, e_gt, e_ge, e_sub, e_add, e_addS, e_addT, e_mul, e_mulS, e_mod, e_fdiv, e_pow, e_neg, e_eqI, e_neI, e_eqS, e_neS, e_is, e_isNot, e_lenS, e_lenT, e_lenL, e_int, e_abs, e_max, e_min, e_tupT, e_tupL, e_listS, e_listT, e_listL, e_all, e_any, e_str, e_ixT, e_ixS, e_slT, e_slS, e_slL, e_revL, e_revS, e_trB, e_inS, gc_d, e_index, at_0, at_1, at_2, at_3, at_4, at_5]
      refine ⟨.int (stp sg go (wkF sg go tell (st, []) (t.take i)).1 c : Nat), by rw [at_nat]; unfold nums; rw [List.getElem?_map, r2]; rfl, ?_⟩
      rw [et, wk_snoc]
      exact ⟨_, _, rfl, rfl⟩
    · rintro ρ3 S3 ⟨v, w, rfl, rfl⟩
      rw [List.length_map, List.take_length]
      exact ⟨v, w, rfl, rfl⟩
  subst e1 e2
  simp only [w_dSeq, w_dSet, w_dExpr, w_dRet, w_dRetN, w_dNext, w_dBrk, w_dCnt, w_dIf, w_dAsg, w_dPar, w_dParN, w_dPut, w_dC, w_dVar, w_dBin, w_dUn, w_dCB, w_dNil, w_dCons, w_dCall, w_dBT, w_dTr, w_dNot, w_dAnd, w_dOr, w_dAndV, w_dOrV, w_dNotV, w_dIfE, w_dTup, w_dLst, w_dIx, w_dIsi, w_dIn, w_dNotIn, w_dONone, w_dOSome, w_dSl, w_dBM, w_dChain, w_dListRg1, w_dIR1, w_dIR2, w_dIA, w_dFor, w_dLc, w_dYes, okR_ok, List.getElem?_cons_zero, List.getElem?_cons_succ, Option.some.injEq, exists_eq_left', exists_eq_left, List.map_cons, List.map_nil, List.length_cons, List.length_nil, List.replicate_succ, List.replicate_zero, List.cons_append, List.nil_append, List.append_nil, List.set_cons_zero, List.set_cons_succ, Vl.d.injEq, Vl.l.injEq, D.int.injEq, D.bl.injEq, D.str.injEq, D.tup.injEq, Nat.sub_self, Nat.reduceSub, Nat.reduceAdd, allD, Option.map_some, e_lt, e_le, e_gt, e_ge, e_sub, e_add, e_addS, e_addT, e_mul, e_mulS, e_mod, e_fdiv, e_pow, e_neg, e_eqI, e_neI, e_eqS, e_neS, e_is, e_isNot, e_lenS, e_lenT, e_lenL, e_int, e_abs, e_max, e_min, e_tupT, e_tupL, e_listS, e_listT, e_listL, e_all, e_any, e_str, e_ixT, e_ixS, e_slT, e_slS, e_slL, e_revL, e_revS, e_trB, e_inS, gc_d, e_index, at_0, at_1, at_2, at_3, at_4, at_5, lst_at new_at]
  simp only [w_dSeq, w_dSet, w_dExpr, w_dRet, w_dRetN, w_dNext, w_dBrk, w_dCnt, w_dIf, w_dAsg, w_dPar, w_dParN, w_dPut, w_dC, w_dVar, w_dBin, w_dUn, w_dCB, w_dNil, w_dCons, w_dCall, w_dBT, w_dTr, w_dNot, w_dAnd, w_dOr, w_dAndV, w_dOrV, w_dNotV, w_dIfE, w_dTup, w_dLst, w_dIx, w_dIsi, w_dIn, w_dNotIn, w_dONone, w_dOSome, w_dSl, w_dBM, w_dChain, w_dListRg1, w_dIR1, w_dIR2, w_dIA, w_dFor, w_dLc, w_dYes, okR_ok, List.getElem?_cons_zero, List.getElem?_cons_succ, Option.some.injEq, exists_eq_left', exists_eq_left, List.map_cons, List.map_nil, List.length_cons, List.length_nil, List.replicate_succ, List.replicate_zero, List.cons_append, List.nil_append, List.append_nil, List.set_cons_zero, List.set_cons_succ, Vl.d.injEq, Vl.l.injEq, D.int.injEq, D.bl.injEq, D.str.injEq, D.tup.injEq, Nat.sub_self, Nat.reduceSub, Nat.reduceAdd, allD, Option.map_some, e_lt, e_le, e_gt, e_ge, e_sub, e_add, e_addS, e_addT, e_mul, e_mulS, e_mod, e_fdiv, e_pow, e_neg, e_eqI, e_neI, e_eqS, e_neS, e_is, e_isNot, e_lenS, e_lenT, e_lenL, e_int, e_abs, e_max, e_min, e_tupT, e_tupL, e_listS, e_listT, e_listL, e_all, e_any, e_str, e_ixT, e_ixS, e_slT, e_slS, e_slL, e_revL, e_revS, e_trB, e_inS, gc_d, e_index, at_0, at_1, at_2, at_3, at_4, at_5, take_new]
  exact ⟨by decide, q⟩
def stL (ps : List (List Nat)) : List D := ps.map .str
theorem stL_snoc (ps : List (List Nat)) (p : List Nat) : stL ps ++ [.str p] = stL (ps ++ [p]) := by simp [stL]
theorem w_cut_text {S : Store} {cs t : List Nat} {gd : D} {Q : Vl → Store → Prop} (ht : t.length ≤ 1000000) (q : Q (.d (.tup (stL (cutF cs t)))) S) : okR (m_cut_text [.d (.tup [.str cs, gd]), .d (.str t)] S) Q := by
  unfold m_cut_text
  refine w_runFn rfl ?_
  unfold t_cut_text
  refine seq_cut (fun ρ' S' => ρ' = [some (.d (.tup [.str cs, gd])), some (.d (.str t)), some (.l S.length), none, none] ∧ S' = S ++ [.lst []]) ?_ fun ρ2 S2 ⟨e1, e2⟩ => ?_
  · simp only [w_dSeq, w_dSet, w_dExpr, w_dRet, w_dRetN, w_dNext, w_dBrk, w_dCnt, w_dIf, w_dAsg, w_dPar, w_dParN, w_dPut, w_dC, w_dVar, w_dBin, w_dUn, w_dCB, w_dNil, w_dCons, w_dCall, w_dBT, w_dTr, w_dNot, w_dAnd, w_dOr, w_dAndV, w_dOrV, w_dNotV, w_dIfE, w_dTup, w_dLst, w_dIx, w_dIsi, w_dIn, w_dNotIn, w_dONone, w_dOSome, w_dSl, w_dBM, w_dChain, w_dListRg1, w_dIR1, w_dIR2, w_dIA, w_dFor, w_dLc, w_dYes, okR_ok, List.getElem?_cons_zero, List.getElem?_cons_succ, Option.some.injEq, exists_eq_left', exists_eq_left, List.map_cons, List.map_nil, List.length_cons, List.length_nil, List.replicate_succ, List.replicate_zero, List.cons_append, List.nil_append, List.append_nil, List.set_cons_zero, List.set_cons_succ, Vl.d.injEq, Vl.l.injEq, D.int.injEq, D.bl.injEq, D.str.injEq, D.tup.injEq, Nat.sub_self, Nat.reduceSub, Nat.reduceAdd, allD, Option.map_some]
    exact ⟨by decide, trivial, trivial⟩
  subst e1 e2
  refine seq_cut (fun ρ' S' => ρ' = [some (.d (.tup [.str cs, gd])), some (.d (.str t)), some (.l S.length), some (.d (.str [])), none] ∧ S' = S ++ [.lst []]) ?_ fun ρ2 S2 ⟨e1, e2⟩ => ?_
  · simp only [w_dSeq, w_dSet, w_dExpr, w_dRet, w_dRetN, w_dNext, w_dBrk, w_dCnt, w_dIf, w_dAsg, w_dPar, w_dParN, w_dPut, w_dC, w_dVar, w_dBin, w_dUn, w_dCB, w_dNil, w_dCons, w_dCall, w_dBT, w_dTr, w_dNot, w_dAnd, w_dOr, w_dAndV, w_dOrV, w_dNotV, w_dIfE, w_dTup, w_dLst, w_dIx, w_dIsi, w_dIn, w_dNotIn, w_dONone, w_dOSome, w_dSl, w_dBM, w_dChain, w_dListRg1, w_dIR1, w_dIR2, w_dIA, w_dFor, w_dLc, w_dYes, okR_ok, List.getElem?_cons_zero, List.getElem?_cons_succ, Option.some.injEq, exists_eq_left', exists_eq_left, List.map_cons, List.map_nil, List.length_cons, List.length_nil, List.replicate_succ, List.replicate_zero, List.cons_append, List.nil_append, List.append_nil, List.set_cons_zero, List.set_cons_succ, Vl.d.injEq, Vl.l.injEq, D.int.injEq, D.bl.injEq, D.str.injEq, D.tup.injEq, Nat.sub_self, Nat.reduceSub, Nat.reduceAdd, allD, Option.map_some]
    exact ⟨trivial, trivial⟩
  subst e1 e2
  refine seq_cut (fun ρ' S' => ∃ v : Option Vl, ρ' = [some (.d (.tup [.str cs, gd])), some (.d (.str t)), some (.l S.length), some (.d (.str (cutR cs t).2)), v] ∧ S' = S ++ [.lst (stL (cutR cs t).1)]) ?_ fun ρ2 S2 ⟨v, e1, e2⟩ => ?_
  · simp only [w_dSeq, w_dSet, w_dExpr, w_dRet, w_dRetN, w_dNext, w_dBrk, w_dCnt, w_dIf, w_dAsg, w_dPar, w_dParN, w_dPut, w_dC, w_dVar, w_dBin, w_dUn, w_dCB, w_dNil, w_dCons, w_dCall, w_dBT, w_dTr, w_dNot, w_dAnd, w_dOr, w_dAndV, w_dOrV, w_dNotV, w_dIfE, w_dTup, w_dLst, w_dIx, w_dIsi, w_dIn, w_dNotIn, w_dONone, w_dOSome, w_dSl, w_dBM, w_dChain, w_dListRg1, w_dIR1, w_dIR2, w_dIA, w_dFor, w_dLc, w_dYes, okR_ok, List.getElem?_cons_zero, List.getElem?_cons_succ, Option.some.injEq, exists_eq_left', exists_eq_left, List.map_cons, List.map_nil, List.length_cons, List.length_nil, List.replicate_succ, List.replicate_zero, List.cons_append, List.nil_append, List.append_nil, List.set_cons_zero, List.set_cons_succ, Vl.d.injEq, Vl.l.injEq, D.int.injEq, D.bl.injEq, D.str.injEq, D.tup.injEq, Nat.sub_self, Nat.reduceSub, Nat.reduceAdd, allD, Option.map_some, iaQ_s, forQ_seq]
    refine loopS_inv (fun i ρ' S' => ∃ v : Option Vl, ρ' = [some (.d (.tup [.str cs, gd])), some (.d (.str t)), some (.l S.length), some (.d (.str (cutR cs (t.take i)).2)), v] ∧ S' = S ++ [.lst (stL (cutR cs (t.take i)).1)]) ⟨none, rfl, rfl⟩ ?_ ?_
    · rintro i x ρ3 S3 hx ⟨v, rfl, rfl⟩
      obtain ⟨c, hc1, rfl, hi, et⟩ := str_at hx
      have l1 := cutR_len cs (t.take i)
      have l2 := cutR_len2 cs (t.take i)
      rw [List.length_take] at l1 l2
      refine ⟨_, rfl, ?_⟩
      simp only [w_dSeq, w_dSet, w_dExpr, w_dRet, w_dRetN, w_dNext, w_dBrk, w_dCnt, w_dIf, w_dAsg, w_dPar, w_dParN, w_dPut, w_dC, w_dVar, w_dBin, w_dUn, w_dCB, w_dNil, w_dCons, w_dCall, w_dBT, w_dTr, w_dNot, w_dAnd, w_dOr, w_dAndV, w_dOrV, w_dNotV, w_dIfE, w_dTup, w_dLst, w_dIx, w_dIsi, w_dIn, w_dNotIn, w_dONone, w_dOSome, w_dSl, w_dBM, w_dChain, w_dListRg1, w_dIR1, w_dIR2, w_dIA, w_dFor, w_dLc, w_dYes, okR_ok, List.getElem?_cons_zero, List.getElem?_cons_succ, Option.some.injEq, exists_eq_left', exists_eq_left, List.map_cons, List.map_nil, List.length_cons, List.length_nil, List.replicate_succ, List.replicate_zero, List.cons_append, List.nil_append, List.append_nil, List.set_cons_zero, List.set_cons_succ, Vl.d.injEq, Vl.l.injEq, D.int.injEq, D.bl.injEq, D.str.injEq, D.tup.injEq, Nat.sub_self, Nat.reduceSub, Nat.reduceAdd, allD, Option.map_some, e_lt, e_le, e_gt, e_ge, e_sub, e_add, e_addS, e_addT, e_mul, e_mulS, e_mod, e_fdiv, e_pow, e_neg, e_eqI, e_neI, e_eqS, e_neS, e_is, e_isNot, e_lenS, e_lenT, e_lenL, e_int, e_abs, e_max, e_min, e_tupT, e_tupL, e_listS, e_listT, e_listL, e_all, e_any, e_str, e_ixT, e_ixS, e_slT, e_slS, e_slL, e_revL, e_revS, e_trB, e_inS, gc_d, e_index, at_0, at_1, at_2, at_3, at_4, at_5, e_isLst (lst_at new_at), e_append new_at, set_new, true_and]
      refine ⟨by rw [sizeLine_eq]; simp; omega, ?_⟩
      rw [et, cutR_snoc]
      unfold cutS
      by_cases h : c ∈ cs
      · simp only [h, decide_true, if_true]
        exact ⟨by unfold stL; rw [List.length_map, sizeLine_eq]; omega, _, rfl, by rw [stL_snoc]⟩
      · simp only [h, decide_false, Bool.false_eq_true, if_false]
        exact ⟨_, rfl, trivial⟩
    · rintro ρ3 S3 ⟨v, rfl, rfl⟩
      rw [List.length_map, List.take_length]
      exact ⟨v, rfl, rfl⟩
  subst e1 e2
  have l1 := cutR_len cs t
  simp only [w_dSeq, w_dSet, w_dExpr, w_dRet, w_dRetN, w_dNext, w_dBrk, w_dCnt, w_dIf, w_dAsg, w_dPar, w_dParN, w_dPut, w_dC, w_dVar, w_dBin, w_dUn, w_dCB, w_dNil, w_dCons, w_dCall, w_dBT, w_dTr, w_dNot, w_dAnd, w_dOr, w_dAndV, w_dOrV, w_dNotV, w_dIfE, w_dTup, w_dLst, w_dIx, w_dIsi, w_dIn, w_dNotIn, w_dONone, w_dOSome, w_dSl, w_dBM, w_dChain, w_dListRg1, w_dIR1, w_dIR2, w_dIA, w_dFor, w_dLc, w_dYes, okR_ok, List.getElem?_cons_zero, List.getElem?_cons_succ, Option.some.injEq, exists_eq_left', exists_eq_left, List.map_cons, List.map_nil, List.length_cons, List.length_nil, List.replicate_succ, List.replicate_zero, List.cons_append, List.nil_append, List.append_nil, List.set_cons_zero, List.set_cons_succ, Vl.d.injEq, Vl.l.injEq, D.int.injEq, D.bl.injEq, D.str.injEq, D.tup.injEq, Nat.sub_self, Nat.reduceSub, Nat.reduceAdd, allD, Option.map_some, e_lt, e_le, e_gt, e_ge, e_sub, e_add, e_addS, e_addT, e_mul, e_mulS, e_mod, e_fdiv, e_pow, e_neg, e_eqI, e_neI, e_eqS, e_neS, e_is, e_isNot, e_lenS, e_lenT, e_lenL, e_int, e_abs, e_max, e_min, e_tupT, e_tupL, e_listS, e_listT, e_listL, e_all, e_any, e_str, e_ixT, e_ixS, e_slT, e_slS, e_slL, e_revL, e_revS, e_trB, e_inS, gc_d, e_index, at_0, at_1, at_2, at_3, at_4, at_5, e_isLst (lst_at new_at), e_append new_at, set_new, true_and, lst_at new_at]
  refine ⟨by unfold stL; rw [List.length_map, sizeLine_eq]; omega, ?_⟩
  rw [stL_snoc, take_new]
  exact q
theorem w_check_text {S : Store} {sg t : List Nat} {Q : Vl → Store → Prop} (ht : t.length ≤ 400) (hc : ∀ c ∈ t, c ∈ sg) (q : Q (.d .non) S) : okR (m_check_text [.d (.str sg), .d (.str t), .d (.int 400)] S) Q := by
  unfold m_check_text
  refine w_runFn rfl ?_
  unfold t_check_text
  simp only [w_dSeq, w_dSet, w_dExpr, w_dRet, w_dRetN, w_dNext, w_dBrk, w_dCnt, w_dIf, w_dAsg, w_dPar, w_dParN, w_dPut, w_dC, w_dVar, w_dBin, w_dUn, w_dCB, w_dNil, w_dCons, w_dCall, w_dBT, w_dTr, w_dNot, w_dAnd, w_dOr, w_dAndV, w_dOrV, w_dNotV, w_dIfE, w_dTup, w_dLst, w_dIx, w_dIsi, w_dIn, w_dNotIn, w_dONone, w_dOSome, w_dSl, w_dBM, w_dChain, w_dListRg1, w_dIR1, w_dIR2, w_dIA, w_dFor, w_dLc, w_dYes, okR_ok, List.getElem?_cons_zero, List.getElem?_cons_succ, Option.some.injEq, exists_eq_left', exists_eq_left, List.map_cons, List.map_nil, List.length_cons, List.length_nil, List.replicate_succ, List.replicate_zero, List.cons_append, List.nil_append, List.append_nil, List.set_cons_zero, List.set_cons_succ, Vl.d.injEq, Vl.l.injEq, D.int.injEq, D.bl.injEq, D.str.injEq, D.tup.injEq, Nat.sub_self, Nat.reduceSub, Nat.reduceAdd, allD, Option.map_some, tyN, i1, i2, i3, i4, i5, i6, i7, i8, i9, i10, i11, i12, i13, i14, i15, i16, i17, e_lt, e_le, e_gt, e_ge, e_sub, e_add, e_addS, e_addT, e_mul, e_mulS, e_mod, e_fdiv, e_pow, e_neg, e_eqI, e_neI, e_eqS, e_neS, e_is, e_isNot, e_lenS, e_lenT, e_lenL, e_int, e_abs, e_max, e_min, e_tupT, e_tupL, e_listS, e_listT, e_listL, e_all, e_any, e_str, e_ixT, e_ixS, e_slT, e_slS, e_slL, e_revL, e_revS, e_trB, e_inS, gc_d, e_index, at_0, at_1, at_2, at_3, at_4, at_5, if_false, Bool.false_eq_true, Bool.not_true]
  refine w_is_over (by omega) ?_
  have e : (t.all fun c => decide (c ∈ sg)) = true := by simpa using hc
  rw [e]
  simp only [w_dSeq, w_dSet, w_dExpr, w_dRet, w_dRetN, w_dNext, w_dBrk, w_dCnt, w_dIf, w_dAsg, w_dPar, w_dParN, w_dPut, w_dC, w_dVar, w_dBin, w_dUn, w_dCB, w_dNil, w_dCons, w_dCall, w_dBT, w_dTr, w_dNot, w_dAnd, w_dOr, w_dAndV, w_dOrV, w_dNotV, w_dIfE, w_dTup, w_dLst, w_dIx, w_dIsi, w_dIn, w_dNotIn, w_dONone, w_dOSome, w_dSl, w_dBM, w_dChain, w_dListRg1, w_dIR1, w_dIR2, w_dIA, w_dFor, w_dLc, w_dYes, okR_ok, List.getElem?_cons_zero, List.getElem?_cons_succ, Option.some.injEq, exists_eq_left', exists_eq_left, List.map_cons, List.map_nil, List.length_cons, List.length_nil, List.replicate_succ, List.replicate_zero, List.cons_append, List.nil_append, List.append_nil, List.set_cons_zero, List.set_cons_succ, Vl.d.injEq, Vl.l.injEq, D.int.injEq, D.bl.injEq, D.str.injEq, D.tup.injEq, Nat.sub_self, Nat.reduceSub, Nat.reduceAdd, allD, Option.map_some, e_lt, e_le, e_gt, e_ge, e_sub, e_add, e_addS, e_addT, e_mul, e_mulS, e_mod, e_fdiv, e_pow, e_neg, e_eqI, e_neI, e_eqS, e_neS, e_is, e_isNot, e_lenS, e_lenT, e_lenL, e_int, e_abs, e_max, e_min, e_tupT, e_tupL, e_listS, e_listT, e_listL, e_all, e_any, e_str, e_ixT, e_ixS, e_slT, e_slS, e_slL, e_revL, e_revS, e_trB, e_inS, gc_d, e_index, at_0, at_1, at_2, at_3, at_4, at_5, if_false, Bool.false_eq_true, Bool.not_true]
  refine ⟨by rw [sizeLine_eq]; omega, ?_⟩
  have e2 : decide ((400 : Int) < (t.length : Int)) = false := by simp; omega
  rw [e2]
  simp only [Bool.false_eq_true, if_false, List.take_length]
  exact q
end L71
end

section
set_option Elab.async false
set_option linter.all false
set_option maxRecDepth 100000
set_option autoImplicit false
set_option maxHeartbeats 1000001
namespace L71
open PySem L2 TL DL
/-! ### reading apart -/
structure Rule (many : Nat) (cs gl : List Nat) : Prop where
  l : gl.length = cs.length
  b : ∀ x ∈ gl, x < many
def gsF (cs gl : List Nat) (c : Nat) : Nat := gl.getD (ixOf cs c) 0
theorem gs_at {many : Nat} {cs gl : List Nat} (R : Rule many cs gl) {c : Nat} (h : c ∈ cs) : gl[ixOf cs c]? = some (gsF cs gl c) ∧ gsF cs gl c < many := by
  have hi : ixOf cs c < gl.length := by rw [R.l]; exact (ix_some h).2
  have e : gsF cs gl c = gl[ixOf cs c] := by unfold gsF; simp [List.getD, hi]
  rw [e]
  exact ⟨List.getElem?_eq_getElem hi, R.b _ (List.getElem_mem hi)⟩
def ruleD (cs gl : List Nat) : D := .tup [.str cs, .tup (nums gl)]
abbrev pcs (sg : List Nat) (go : List (List Nat)) (tell : List (List D)) (cs gl : List Nat) := pcF (stp sg go) (mrk sg tell) cs (gsF cs gl)
section
variable {S : Store} {sg t cs gl : List Nat} {many : Nat} {go : List (List Nat)} {tell : List (List D)} {en : List D} {Q : Vl → Store → Prop}
theorem guess_lt (R : Rule many cs gl) {p : List Nat} {st : Nat} (h : st < many) : guess cs (gsF cs gl) p st < many := by
  unfold guess
  split
  · split
    · rename_i c h; exact (gs_at R h).2
    · exact h
  · exact h
theorem pcs_ok (M : Mach sg.length many go tell en) (R : Rule many cs gl) : ∀ (ps : List (List Nat)) (s : Nat × List D), s.1 < many → (∀ p ∈ ps, ∀ c ∈ p, c ∈ sg) → (∀ d ∈ s.2, d ∈ MK) →
    (pcs sg go tell cs gl s ps).1 < many ∧ (pcs sg go tell cs gl s ps).2.length = s.2.length + ps.flatten.length ∧ ∀ d ∈ (pcs sg go tell cs gl s ps).2, d ∈ MK
  | [], s, h, _, hm => ⟨h, rfl, hm⟩
  | p :: ps, s, h, hc, hm => by
    obtain ⟨w1, w2, w3⟩ := wk_ok M p s h (hc p List.mem_cons_self) hm
    have := pcs_ok M R ps (pcS (stp sg go) (mrk sg tell) cs (gsF cs gl) s p) (guess_lt R w1) (fun p hp => hc p (List.mem_cons_of_mem _ hp)) w3
    refine ⟨this.1, ?_, this.2.2⟩
    have e := this.2.1
    show (pcs sg go tell cs gl (pcS (stp sg go) (mrk sg tell) cs (gsF cs gl) s p) ps).2.length = _
    rw [e]
    show (wkF sg go tell s p).2.length + _ = _
    rw [w2]
    show _ = s.2.length + (p ++ ps.flatten).length
    rw [List.length_append]
    omega
/-- a walk behind marks that stand -/
theorem wk_pre (sg : List Nat) (go : List (List Nat)) (tell : List (List D)) : ∀ (t : List Nat) (st : Nat) (ms : List D), wkF sg go tell (st, ms) t = ((wkF sg go tell (st, []) t).1, ms ++ (wkF sg go tell (st, []) t).2) := by
  have key : ∀ (t : List Nat) (st : Nat) (ms ns : List D), wkF sg go tell (st, ms ++ ns) t = ((wkF sg go tell (st, ns) t).1, ms ++ (wkF sg go tell (st, ns) t).2) := by
    intro t
    induction t with
    | nil => intro st ms ns; rfl
    | cons c t ih =>
      intro st ms ns
      show wkF sg go tell (stp sg go st c, (ms ++ ns) ++ [mrk sg tell st c]) t = _
      rw [List.append_assoc, ih]
      rfl
  intro t st ms
  have := key t st ms []
  rwa [List.append_nil] at this
theorem w_read_apart (M : Mach sg.length many go tell en) (R : Rule many cs gl) (hsg : sg.length ≤ 1000) (hm : 1 ≤ many) (ht : t.length ≤ 400) (hc : ∀ c ∈ t, c ∈ sg) (hcs : cs.length ≤ 1000)
    (q : Q (.d (.tup [.tup (pcs sg go tell cs gl (0, []) (cutF cs t)).2, en.getD (pcs sg go tell cs gl (0, []) (cutF cs t)).1 .non])) S) : okR (m_read_apart [.d (enc sg go tell en), .d (ruleD cs gl), .d (.str t)] S) Q := by
  have flat := cutF_flat cs t
  have hps : ∀ p ∈ cutF cs t, (∀ c ∈ p, c ∈ sg) ∧ p.length ≤ 400 := fun p hp => by
    refine ⟨fun c hc' => hc c (by rw [← flat]; exact mem_flat hp hc'), ?_⟩
    have : p.length ≤ (cutF cs t).flatten.length := by
      obtain ⟨a, b, e⟩ := List.append_of_mem hp
      rw [e, List.flatten_append]
      show _ ≤ (_ ++ (p ++ _)).length
      simp; omega
    rw [flat] at this
    omega
  unfold m_read_apart
  refine w_runFn rfl ?_
  unfold t_read_apart
  refine seq_cut (fun ρ' S' => ρ' = [some (.d (enc sg go tell en)), some (.d (ruleD cs gl)), some (.d (.str t)), none, none, none, none] ∧ S' = S) ?_ fun ρ2 S2 ⟨e1, e2⟩ => ?_
  · unfold enc
    simp only [w_dSeq, w_dSet, w_dExpr, w_dRet, w_dRetN, w_dNext, w_dBrk, w_dCnt, w_dIf, w_dAsg, w_dPar, w_dParN, w_dPut, w_dC, w_dVar, w_dBin, w_dUn, w_dCB, w_dNil, w_dCons, w_dCall, w_dBT, w_dTr, w_dNot, w_dAnd, w_dOr, w_dAndV, w_dOrV, w_dNotV, w_dIfE, w_dTup, w_dLst, w_dIx, w_dIsi, w_dIn, w_dNotIn, w_dONone, w_dOSome, w_dSl, w_dBM, w_dChain, w_dListRg1, w_dIR1, w_dIR2, w_dIA, w_dFor, w_dLc, w_dYes, okR_ok, List.getElem?_cons_zero, List.getElem?_cons_succ, Option.some.injEq, exists_eq_left', exists_eq_left, List.map_cons, List.map_nil, List.length_cons, List.length_nil, List.replicate_succ, List.replicate_zero, List.cons_append, List.nil_append, List.append_nil, List.set_cons_zero, List.set_cons_succ, Vl.d.injEq, Vl.l.injEq, D.int.injEq, D.bl.injEq, D.str.injEq, D.tup.injEq, Nat.sub_self, Nat.reduceSub, Nat.reduceAdd, allD, Option.map_some, e_lt, e_le, e_gt, e_ge, e_sub, e_add, e_addS, e_addT, e_mul, e_mulS, e_mod, e_fdiv, e_pow, e_neg, e_eqI, e_neI, e_eqS, e_neS, e_is, e_isNot, e_lenS, e_lenT, e_lenL, e_int, e_abs, e_max, e_min, e_tupT, e_tupL, e_listS, e_listT, e_listL, e_all, e_any, e_str, e_ixT, e_ixS, e_slT, e_slS, e_slL, e_revL, e_revS, e_trB, e_inS, gc_d, e_index, at_0, at_1, at_2, at_3, at_4, at_5]
    exact w_check_text ht hc ⟨trivial, rfl⟩
  subst e1 e2
  refine seq_cut (fun ρ' S' => ρ' = [some (.d (enc sg go tell en)), some (.d (ruleD cs gl)), some (.d (.str t)), some (.d (.int 0)), none, none, none] ∧ S' = S2) ?_ fun ρ2 S2 ⟨e1, e2⟩ => ?_
  · simp only [w_dSeq, w_dSet, w_dExpr, w_dRet, w_dRetN, w_dNext, w_dBrk, w_dCnt, w_dIf, w_dAsg, w_dPar, w_dParN, w_dPut, w_dC, w_dVar, w_dBin, w_dUn, w_dCB, w_dNil, w_dCons, w_dCall, w_dBT, w_dTr, w_dNot, w_dAnd, w_dOr, w_dAndV, w_dOrV, w_dNotV, w_dIfE, w_dTup, w_dLst, w_dIx, w_dIsi, w_dIn, w_dNotIn, w_dONone, w_dOSome, w_dSl, w_dBM, w_dChain, w_dListRg1, w_dIR1, w_dIR2, w_dIA, w_dFor, w_dLc, w_dYes, okR_ok, List.getElem?_cons_zero, List.getElem?_cons_succ, Option.some.injEq, exists_eq_left', exists_eq_left, List.map_cons, List.map_nil, List.length_cons, List.length_nil, List.replicate_succ, List.replicate_zero, List.cons_append, List.nil_append, List.append_nil, List.set_cons_zero, List.set_cons_succ, Vl.d.injEq, Vl.l.injEq, D.int.injEq, D.bl.injEq, D.str.injEq, D.tup.injEq, Nat.sub_self, Nat.reduceSub, Nat.reduceAdd, allD, Option.map_some]
    exact ⟨trivial, trivial⟩
  subst e1 e2
  refine seq_cut (fun ρ' S' => ρ' = [some (.d (enc sg go tell en)), some (.d (ruleD cs gl)), some (.d (.str t)), some (.d (.int 0)), some (.d (.tup [])), none, none] ∧ S' = S2) ?_ fun ρ2 S2 ⟨e1, e2⟩ => ?_
  · simp only [w_dSeq, w_dSet, w_dExpr, w_dRet, w_dRetN, w_dNext, w_dBrk, w_dCnt, w_dIf, w_dAsg, w_dPar, w_dParN, w_dPut, w_dC, w_dVar, w_dBin, w_dUn, w_dCB, w_dNil, w_dCons, w_dCall, w_dBT, w_dTr, w_dNot, w_dAnd, w_dOr, w_dAndV, w_dOrV, w_dNotV, w_dIfE, w_dTup, w_dLst, w_dIx, w_dIsi, w_dIn, w_dNotIn, w_dONone, w_dOSome, w_dSl, w_dBM, w_dChain, w_dListRg1, w_dIR1, w_dIR2, w_dIA, w_dFor, w_dLc, w_dYes, okR_ok, List.getElem?_cons_zero, List.getElem?_cons_succ, Option.some.injEq, exists_eq_left', exists_eq_left, List.map_cons, List.map_nil, List.length_cons, List.length_nil, List.replicate_succ, List.replicate_zero, List.cons_append, List.nil_append, List.append_nil, List.set_cons_zero, List.set_cons_succ, Vl.d.injEq, Vl.l.injEq, D.int.injEq, D.bl.injEq, D.str.injEq, D.tup.injEq, Nat.sub_self, Nat.reduceSub, Nat.reduceAdd, allD, Option.map_some]
    exact ⟨by decide, trivial, trivial⟩
  subst e1 e2
  refine seq_cut (fun ρ' S' => ∃ (v w : Option Vl), ρ' = [some (.d (enc sg go tell en)), some (.d (ruleD cs gl)), some (.d (.str t)), some (.d (.int ((pcs sg go tell cs gl (0, []) (cutF cs t)).1 : Nat))), some (.d (.tup (pcs sg go tell cs gl (0, []) (cutF cs t)).2)), v, w] ∧ S' = S2) ?_ fun ρ2 S2 ⟨v, w, e1, e2⟩ => ?_
  · simp only [w_dSeq, w_dSet, w_dExpr, w_dRet, w_dRetN, w_dNext, w_dBrk, w_dCnt, w_dIf, w_dAsg, w_dPar, w_dParN, w_dPut, w_dC, w_dVar, w_dBin, w_dUn, w_dCB, w_dNil, w_dCons, w_dCall, w_dBT, w_dTr, w_dNot, w_dAnd, w_dOr, w_dAndV, w_dOrV, w_dNotV, w_dIfE, w_dTup, w_dLst, w_dIx, w_dIsi, w_dIn, w_dNotIn, w_dONone, w_dOSome, w_dSl, w_dBM, w_dChain, w_dListRg1, w_dIR1, w_dIR2, w_dIA, w_dFor, w_dLc, w_dYes, okR_ok, List.getElem?_cons_zero, List.getElem?_cons_succ, Option.some.injEq, exists_eq_left', exists_eq_left, List.map_cons, List.map_nil, List.length_cons, List.length_nil, List.replicate_succ, List.replicate_zero, List.cons_append, List.nil_append, List.append_nil, List.set_cons_zero, List.set_cons_succ, Vl.d.injEq, Vl.l.injEq, D.int.injEq, D.bl.injEq, D.str.injEq, D.tup.injEq, Nat.sub_self, Nat.reduceSub, Nat.reduceAdd, allD, Option.map_some]
    unfold ruleD
    refine w_cut_text (by omega) ?_
    simp only [iaQ_t, forQ_seq]
    refine loopS_inv (fun i ρ' S' => ∃ (v w : Option Vl), ρ' = [some (.d (enc sg go tell en)), some (.d (.tup [.str cs, .tup (nums gl)])), some (.d (.str t)), some (.d (.int ((pcs sg go tell cs gl (0, []) ((cutF cs t).take i)).1 : Nat))), some (.d (.tup (pcs sg go tell cs gl (0, []) ((cutF cs t).take i)).2)), v, w] ∧ S' = S2)
      ⟨none, none, rfl, rfl⟩ ?_ ?_
    · rintro i x ρ3 S3 hx ⟨v, w, rfl, rfl⟩
      rw [List.getElem?_map] at hx
      unfold stL at hx
      rw [List.getElem?_map] at hx
      cases e : (cutF cs t)[i]? with
      | none => rw [e] at hx; cases hx
      | some p =>
        rw [e] at hx
        obtain rfl := Option.some.inj hx
        have hpm := List.mem_of_getElem? e
        obtain ⟨hp1, hp2⟩ := hps p hpm
        obtain ⟨a1, a2, a3⟩ := pcs_ok (en := en) M R ((cutF cs t).take i) (0, []) (by omega) (fun p hp => (hps p (List.mem_of_mem_take hp)).1) (by simp)
        have a4 := sum_take_le (cutF cs t) i
        rw [flat] at a4
        have et : (cutF cs t).take (i + 1) = (cutF cs t).take i ++ [p] := by rw [List.take_succ, e]; rfl
        have es : pcs sg go tell cs gl (0, []) ((cutF cs t).take (i + 1)) = pcS (stp sg go) (mrk sg tell) cs (gsF cs gl) (pcs sg go tell cs gl (0, []) ((cutF cs t).take i)) p := by
          rw [et]
          unfold pcs pcF
          rw [List.foldl_append]
          rfl
        have ew := wk_pre sg go tell p (pcs sg go tell cs gl (0, []) ((cutF cs t).take i)).1 (pcs sg go tell cs gl (0, []) ((cutF cs t).take i)).2
        obtain ⟨b1, b2, b3⟩ := wk_ok M p ((pcs sg go tell cs gl (0, []) ((cutF cs t).take i)).1, []) a1 hp1 (by simp)
        refine ⟨_, rfl, ?_⟩
        simp only [w_dSeq, w_dSet, w_dExpr, w_dRet, w_dRetN, w_dNext, w_dBrk, w_dCnt, w_dIf, w_dAsg, w_dPar, w_dParN, w_dPut, w_dC, w_dVar, w_dBin, w_dUn, w_dCB, w_dNil, w_dCons, w_dCall, w_dBT, w_dTr, w_dNot, w_dAnd, w_dOr, w_dAndV, w_dOrV, w_dNotV, w_dIfE, w_dTup, w_dLst, w_dIx, w_dIsi, w_dIn, w_dNotIn, w_dONone, w_dOSome, w_dSl, w_dBM, w_dChain, w_dListRg1, w_dIR1, w_dIR2, w_dIA, w_dFor, w_dLc, w_dYes, okR_ok, List.getElem?_cons_zero, List.getElem?_cons_succ, Option.some.injEq, exists_eq_left', exists_eq_left, List.map_cons, List.map_nil, List.length_cons, List.length_nil, List.replicate_succ, List.replicate_zero, List.cons_append, List.nil_append, List.append_nil, List.set_cons_zero, List.set_cons_succ, Vl.d.injEq, Vl.l.injEq, D.int.injEq, D.bl.injEq, D.str.injEq, D.tup.injEq, Nat.sub_self, Nat.reduceSub, Nat.reduceAdd, allD, Option.map_some]
        refine w_walk M hsg a1 (by omega) hp1 ⟨_, rfl, ?_⟩
        simp only [w_dSeq, w_dSet, w_dExpr, w_dRet, w_dRetN, w_dNext, w_dBrk, w_dCnt, w_dIf, w_dAsg, w_dPar, w_dParN, w_dPut, w_dC, w_dVar, w_dBin, w_dUn, w_dCB, w_dNil, w_dCons, w_dCall, w_dBT, w_dTr, w_dNot, w_dAnd, w_dOr, w_dAndV, w_dOrV, w_dNotV, w_dIfE, w_dTup, w_dLst, w_dIx, w_dIsi, w_dIn, w_dNotIn, w_dONone, w_dOSome, w_dSl, w_dBM, w_dChain, w_dListRg1, w_dIR1, w_dIR2, w_dIA, w_dFor, w_dLc, w_dYes, okR_ok, List.getElem?_cons_zero, List.getElem?_cons_succ, Option.some.injEq, exists_eq_left', exists_eq_left, List.map_cons, List.map_nil, List.length_cons, List.length_nil, List.replicate_succ, List.replicate_zero, List.cons_append, List.nil_append, List.append_nil, List.set_cons_zero, List.set_cons_succ, Vl.d.injEq, Vl.l.injEq, D.int.injEq, D.bl.injEq, D.str.injEq, D.tup.injEq, Nat.sub_self, Nat.reduceSub, Nat.reduceAdd, allD, Option.map_some, e_lt, e_le, e_gt, e_ge, e_sub, e_add, e_addS, e_addT, e_mul, e_mulS, e_mod, e_fdiv, e_pow, e_neg, e_eqI, e_neI, e_eqS, e_neS, e_is, e_isNot, e_lenS, e_lenT, e_lenL, e_int, e_abs, e_max, e_min, e_tupT, e_tupL, e_listS, e_listT, e_listL, e_all, e_any, e_str, e_ixT, e_ixS, e_slT, e_slS, e_slL, e_revL, e_revS, e_trB, e_inS, gc_d, e_index, at_0, at_1, at_2, at_3, at_4, at_5]
        refine ⟨by rw [a2, b2, sizeLine_eq]; show 0 + _ + (0 + _) ≤ _; omega, ?_⟩
        have eP : pcS (stp sg go) (mrk sg tell) cs (gsF cs gl) (pcs sg go tell cs gl (0, []) ((cutF cs t).take i)) p = (guess cs (gsF cs gl) p (wkF sg go tell ((pcs sg go tell cs gl (0, []) ((cutF cs t).take i)).1, []) p).1, (pcs sg go tell cs gl (0, []) ((cutF cs t).take i)).2 ++ (wkF sg go tell ((pcs sg go tell cs gl (0, []) ((cutF cs t).take i)).1, []) p).2) := by
          unfold pcS
          rw [show walkF (stp sg go) (mrk sg tell) (pcs sg go tell cs gl (0, []) ((cutF cs t).take i)) p = _ from ew]
        rw [es, eP, at_neg1]
        cases eL : p.getLast? with
        | none =>
          have : p = [] := List.getLast?_eq_none_iff.mp eL
          subst this
          exact ⟨_, _, rfl, trivial⟩
        | some c =>
          have hne : (p == []) = false := by
            cases p with
            | nil => cases eL
            | cons _ _ => rfl
          simp only [hne, Bool.not_false, if_true]
          refine ⟨by rw [sizeLine_eq]; omega, c, rfl, ?_⟩
          by_cases h : c ∈ cs
          · simp only [h, decide_true, if_true]
            have eg : guess cs (gsF cs gl) p (wkF sg go tell ((pcs sg go tell cs gl (0, []) ((cutF cs t).take i)).1, []) p).1 = gsF cs gl c := by unfold guess; rw [eL]; simp [h]
            rw [eg]
            exact ⟨rfl, by rw [sizeLine_eq]; omega, c, rfl, _, (ix_some h).1, .int (gsF cs gl c : Nat), by rw [at_nat]; unfold nums; rw [List.getElem?_map, (gs_at R h).1]; rfl, _, _, rfl, trivial⟩
          · simp only [h, decide_false, Bool.false_eq_true, if_false]
            have eg : guess cs (gsF cs gl) p (wkF sg go tell ((pcs sg go tell cs gl (0, []) ((cutF cs t).take i)).1, []) p).1 = (wkF sg go tell ((pcs sg go tell cs gl (0, []) ((cutF cs t).take i)).1, []) p).1 := by unfold guess; rw [eL]; simp [h]
            rw [eg]
            exact ⟨_, _, rfl, trivial⟩
    · rintro ρ3 S3 ⟨v, w, rfl, rfl⟩
      rw [List.length_map]
      unfold stL
      rw [List.length_map, List.take_length]
      exact ⟨v, w, rfl, rfl⟩
  subst e1 e2
  obtain ⟨a1, a2, a3⟩ := pcs_ok (en := en) M R (cutF cs t) (0, []) (by omega) (fun p hp => (hps p hp).1) (by simp)
  have hen : (pcs sg go tell cs gl (0, []) (cutF cs t)).1 < en.length := by rw [M.e1]; exact a1
  unfold enc
  simp only [w_dSeq, w_dSet, w_dExpr, w_dRet, w_dRetN, w_dNext, w_dBrk, w_dCnt, w_dIf, w_dAsg, w_dPar, w_dParN, w_dPut, w_dC, w_dVar, w_dBin, w_dUn, w_dCB, w_dNil, w_dCons, w_dCall, w_dBT, w_dTr, w_dNot, w_dAnd, w_dOr, w_dAndV, w_dOrV, w_dNotV, w_dIfE, w_dTup, w_dLst, w_dIx, w_dIsi, w_dIn, w_dNotIn, w_dONone, w_dOSome, w_dSl, w_dBM, w_dChain, w_dListRg1, w_dIR1, w_dIR2, w_dIA, w_dFor, w_dLc, w_dYes, okR_ok, List.getElem?_cons_zero, List.getElem?_cons_succ, Option.some.injEq, exists_eq_left', exists_eq_left, List.map_cons, List.map_nil, List.length_cons, List.length_nil, List.replicate_succ, List.replicate_zero, List.cons_append, List.nil_append, List.append_nil, List.set_cons_zero, List.set_cons_succ, Vl.d.injEq, Vl.l.injEq, D.int.injEq, D.bl.injEq, D.str.injEq, D.tup.injEq, Nat.sub_self, Nat.reduceSub, Nat.reduceAdd, allD, Option.map_some, e_lt, e_le, e_gt, e_ge, e_sub, e_add, e_addS, e_addT, e_mul, e_mulS, e_mod, e_fdiv, e_pow, e_neg, e_eqI, e_neI, e_eqS, e_neS, e_is, e_isNot, e_lenS, e_lenT, e_lenL, e_int, e_abs, e_max, e_min, e_tupT, e_tupL, e_listS, e_listT, e_listL, e_all, e_any, e_str, e_ixT, e_ixS, e_slT, e_slS, e_slL, e_revL, e_revS, e_trB, e_inS, gc_d, e_index, at_0, at_1, at_2, at_3, at_4, at_5]
  refine ⟨en[(pcs sg go tell cs gl (0, []) (cutF cs t)).1], by rw [at_nat]; exact List.getElem?_eq_getElem hen, by decide, ?_⟩
  have ee : en.getD (pcs sg go tell cs gl (0, []) (cutF cs t)).1 .non = en[(pcs sg go tell cs gl (0, []) (cutF cs t)).1] := by simp [List.getD, hen]
  rw [ee, ] at q
  simpa using q
/-! the law's own reading -/
theorem ap_is (R : Rule many cs gl) (s : Nat × List D) (t : List Nat) : apF (stp sg go) (mrk sg tell) cs (gsF cs gl) s t = pcs sg go tell cs gl s (cutF cs t) := (read_apart_is (stp sg go) (mrk sg tell) cs (gsF cs gl) s t).symm
theorem ap_snoc (s : Nat × List D) (t : List Nat) (c : Nat) : apF (stp sg go) (mrk sg tell) cs (gsF cs gl) s (t ++ [c]) = apS (stp sg go) (mrk sg tell) cs (gsF cs gl) (apF (stp sg go) (mrk sg tell) cs (gsF cs gl) s t) c := by
  unfold apF
  rw [List.foldl_append]
  rfl
theorem ap_ok (M : Mach sg.length many go tell en) (R : Rule many cs gl) (t : List Nat) (hm : 1 ≤ many) (hc : ∀ c ∈ t, c ∈ sg) : (apF (stp sg go) (mrk sg tell) cs (gsF cs gl) (0, []) t).1 < many ∧ (apF (stp sg go) (mrk sg tell) cs (gsF cs gl) (0, []) t).2.length = t.length ∧ ∀ d ∈ (apF (stp sg go) (mrk sg tell) cs (gsF cs gl) (0, []) t).2, d ∈ MK := by
  rw [ap_is R]
  have flat := cutF_flat cs t
  have := pcs_ok (en := en) M R (cutF cs t) (0, []) (by omega) (fun p hp c hc' => hc c (by rw [← flat]; exact mem_flat hp hc')) (by simp)
  refine ⟨this.1, ?_, this.2.2⟩
  rw [this.2.1, flat]
  exact Nat.zero_add _
theorem w_apart (M : Mach sg.length many go tell en) (R : Rule many cs gl) (hsg : sg.length ≤ 1000) (hm : 1 ≤ many) (ht : t.length ≤ 1000000) (hc : ∀ c ∈ t, c ∈ sg) (hcs : cs.length ≤ 1000)
    (q : Q (.d (.tup [.tup (apF (stp sg go) (mrk sg tell) cs (gsF cs gl) (0, []) t).2, en.getD (apF (stp sg go) (mrk sg tell) cs (gsF cs gl) (0, []) t).1 .non])) S) : okR (m_law_apart [.d (enc sg go tell en), .d (ruleD cs gl), .d (.str t)] S) Q := by
  unfold m_law_apart
  refine w_runFn rfl ?_
  unfold t_law_apart
  refine seq_cut (fun ρ' S' => ρ' = [some (.d (enc sg go tell en)), some (.d (ruleD cs gl)), some (.d (.str t)), some (.d (.str sg)), some (.d (.tup (encG go))), some (.d (.tup (encT tell))), some (.d (.tup en)), none, none, none, none] ∧ S' = S) ?_ fun ρ2 S2 ⟨e1, e2⟩ => ?_
  · simp only [w_dSeq, w_dSet, w_dExpr, w_dRet, w_dRetN, w_dNext, w_dBrk, w_dCnt, w_dIf, w_dAsg, w_dPar, w_dParN, w_dPut, w_dC, w_dVar, w_dBin, w_dUn, w_dCB, w_dNil, w_dCons, w_dCall, w_dBT, w_dTr, w_dNot, w_dAnd, w_dOr, w_dAndV, w_dOrV, w_dNotV, w_dIfE, w_dTup, w_dLst, w_dIx, w_dIsi, w_dIn, w_dNotIn, w_dONone, w_dOSome, w_dSl, w_dBM, w_dChain, w_dListRg1, w_dIR1, w_dIR2, w_dIA, w_dFor, w_dLc, w_dYes, okR_ok, List.getElem?_cons_zero, List.getElem?_cons_succ, Option.some.injEq, exists_eq_left', exists_eq_left, List.map_cons, List.map_nil, List.length_cons, List.length_nil, List.replicate_succ, List.replicate_zero, List.cons_append, List.nil_append, List.append_nil, List.set_cons_zero, List.set_cons_succ, Vl.d.injEq, Vl.l.injEq, D.int.injEq, D.bl.injEq, D.str.injEq, D.tup.injEq, Nat.sub_self, Nat.reduceSub, Nat.reduceAdd, allD, Option.map_some]
    exact ⟨_, rfl, rfl, trivial⟩
  subst e1 e2
  refine seq_cut (fun ρ' S' => ρ' = [some (.d (enc sg go tell en)), some (.d (ruleD cs gl)), some (.d (.str t)), some (.d (.str sg)), some (.d (.tup (encG go))), some (.d (.tup (encT tell))), some (.d (.tup en)), some (.d (.int 0)), none, none, none] ∧ S' = S2) ?_ fun ρ2 S2 ⟨e1, e2⟩ => ?_
  · simp only [w_dSeq, w_dSet, w_dExpr, w_dRet, w_dRetN, w_dNext, w_dBrk, w_dCnt, w_dIf, w_dAsg, w_dPar, w_dParN, w_dPut, w_dC, w_dVar, w_dBin, w_dUn, w_dCB, w_dNil, w_dCons, w_dCall, w_dBT, w_dTr, w_dNot, w_dAnd, w_dOr, w_dAndV, w_dOrV, w_dNotV, w_dIfE, w_dTup, w_dLst, w_dIx, w_dIsi, w_dIn, w_dNotIn, w_dONone, w_dOSome, w_dSl, w_dBM, w_dChain, w_dListRg1, w_dIR1, w_dIR2, w_dIA, w_dFor, w_dLc, w_dYes, okR_ok, List.getElem?_cons_zero, List.getElem?_cons_succ, Option.some.injEq, exists_eq_left', exists_eq_left, List.map_cons, List.map_nil, List.length_cons, List.length_nil, List.replicate_succ, List.replicate_zero, List.cons_append, List.nil_append, List.append_nil, List.set_cons_zero, List.set_cons_succ, Vl.d.injEq, Vl.l.injEq, D.int.injEq, D.bl.injEq, D.str.injEq, D.tup.injEq, Nat.sub_self, Nat.reduceSub, Nat.reduceAdd, allD, Option.map_some]
    exact ⟨trivial, trivial⟩
  subst e1 e2
  refine seq_cut (fun ρ' S' => ρ' = [some (.d (enc sg go tell en)), some (.d (ruleD cs gl)), some (.d (.str t)), some (.d (.str sg)), some (.d (.tup (encG go))), some (.d (.tup (encT tell))), some (.d (.tup en)), some (.d (.int 0)), some (.l S2.length), none, none] ∧ S' = S2 ++ [.lst []]) ?_ fun ρ2 S2 ⟨e1, e2⟩ => ?_
  · simp only [w_dSeq, w_dSet, w_dExpr, w_dRet, w_dRetN, w_dNext, w_dBrk, w_dCnt, w_dIf, w_dAsg, w_dPar, w_dParN, w_dPut, w_dC, w_dVar, w_dBin, w_dUn, w_dCB, w_dNil, w_dCons, w_dCall, w_dBT, w_dTr, w_dNot, w_dAnd, w_dOr, w_dAndV, w_dOrV, w_dNotV, w_dIfE, w_dTup, w_dLst, w_dIx, w_dIsi, w_dIn, w_dNotIn, w_dONone, w_dOSome, w_dSl, w_dBM, w_dChain, w_dListRg1, w_dIR1, w_dIR2, w_dIA, w_dFor, w_dLc, w_dYes, okR_ok, List.getElem?_cons_zero, List.getElem?_cons_succ, Option.some.injEq, exists_eq_left', exists_eq_left, List.map_cons, List.map_nil, List.length_cons, List.length_nil, List.replicate_succ, List.replicate_zero, List.cons_append, List.nil_append, List.append_nil, List.set_cons_zero, List.set_cons_succ, Vl.d.injEq, Vl.l.injEq, D.int.injEq, D.bl.injEq, D.str.injEq, D.tup.injEq, Nat.sub_self, Nat.reduceSub, Nat.reduceAdd, allD, Option.map_some]
    exact ⟨by decide, trivial, trivial⟩
  subst e1 e2
  refine seq_cut (fun ρ' S' => ∃ (v w : Option Vl), ρ' = [some (.d (enc sg go tell en)), some (.d (ruleD cs gl)), some (.d (.str t)), some (.d (.str sg)), some (.d (.tup (encG go))), some (.d (.tup (encT tell))), some (.d (.tup en)), some (.d (.int ((apF (stp sg go) (mrk sg tell) cs (gsF cs gl) (0, []) t).1 : Nat))), some (.l S2.length), v, w] ∧ S' = S2 ++ [.lst (apF (stp sg go) (mrk sg tell) cs (gsF cs gl) (0, []) t).2]) ?_ fun ρ2 S2 ⟨v, w, e1, e2⟩ => ?_
  · simp only [w_dSeq, w_dSet, w_dExpr, w_dRet, w_dRetN, w_dNext, w_dBrk, w_dCnt, w_dIf, w_dAsg, w_dPar, w_dParN, w_dPut, w_dC, w_dVar, w_dBin, w_dUn, w_dCB, w_dNil, w_dCons, w_dCall, w_dBT, w_dTr, w_dNot, w_dAnd, w_dOr, w_dAndV, w_dOrV, w_dNotV, w_dIfE, w_dTup, w_dLst, w_dIx, w_dIsi, w_dIn, w_dNotIn, w_dONone, w_dOSome, w_dSl, w_dBM, w_dChain, w_dListRg1, w_dIR1, w_dIR2, w_dIA, w_dFor, w_dLc, w_dYes, okR_ok, List.getElem?_cons_zero, List.getElem?_cons_succ, Option.some.injEq, exists_eq_left', exists_eq_left, List.map_cons, List.map_nil, List.length_cons, List.length_nil, List.replicate_succ, List.replicate_zero, List.cons_append, List.nil_append, List.append_nil, List.set_cons_zero, List.set_cons_succ, Vl.d.injEq, Vl.l.injEq, D.int.injEq, D.bl.injEq, D.str.injEq, D.tup.injEq, Nat.sub_self, Nat.reduceSub, Nat.reduceAdd, allD, Option.map_some, iaQ_s, forQ_seq]
    refine loopS_inv (fun i ρ' S' => ∃ (v w : Option Vl), ρ' = [some (.d (enc sg go tell en)), some (.d (ruleD cs gl)), some (.d (.str t)), some (.d (.str sg)), some (.d (.tup (encG go))), some (.d (.tup (encT tell))), some (.d (.tup en)), some (.d (.int ((apF (stp sg go) (mrk sg tell) cs (gsF cs gl) (0, []) (t.take i)).1 : Nat))), some (.l S2.length), v, w] ∧ S' = S2 ++ [.lst (apF (stp sg go) (mrk sg tell) cs (gsF cs gl) (0, []) (t.take i)).2])
      ⟨none, none, rfl, rfl⟩ ?_ ?_
    · rintro i x ρ3 S3 hx ⟨v, w, rfl, rfl⟩
      obtain ⟨c, hc1, rfl, hi, et⟩ := str_at hx
      have hcm : c ∈ sg := hc c (List.mem_of_getElem? hc1)
      obtain ⟨w1, w2, w3⟩ := ap_ok M R (t.take i) hm (fun c h => hc c (List.mem_of_mem_take h))
      obtain ⟨r, r1, r2, r3⟩ := go_at M w1 hcm
      obtain ⟨r', s1, s2, s3⟩ := tell_at M w1 hcm
      refine ⟨_, rfl, ?_⟩
      unfold ruleD
      simp only [w_dSeq, w_dSet, w_dExpr, w_dRet, w_dRetN, w_dNext, w_dBrk, w_dCnt, w_dIf, w_dAsg, w_dPar, w_dParN, w_dPut, w_dC, w_dVar, w_dBin, w_dUn, w_dCB, w_dNil, w_dCons, w_dCall, w_dBT, w_dTr, w_dNot, w_dAnd, w_dOr, w_dAndV, w_dOrV, w_dNotV, w_dIfE, w_dTup, w_dLst, w_dIx, w_dIsi, w_dIn, w_dNotIn, w_dONone, w_dOSome, w_dSl, w_dBM, w_dChain, w_dListRg1, w_dIR1, w_dIR2, w_dIA, w_dFor, w_dLc, w_dYes, okR_ok, List.getElem?_cons_zero, List.getElem?_cons_succ, Option.some.injEq, exists_eq_left', exists_eq_left, List.map_cons, List.map_nil, List.length_cons, List.length_nil, List.replicate_succ, List.replicate_zero, List.cons_append, List.nil_append, List.append_nil, List.set_cons_zero, List.set_cons_succ, Vl.d.injEq, Vl.l.injEq, D.int.injEq, D.bl.injEq, D.str.injEq, D.tup.injEq, Nat.sub_self, Nat.reduceSub, Nat.reduceAdd, allD, Option.map_some, isStr, e_lt, e_le, e_gt, e_ge, e_sub, e_add, e_addS, e_addT, e_mul, e_mulS, e_mod, e_fdiv, e_pow, e_neg, e_eqI, e_neI, e_eqS, e_neS, e_is, e_isNot, e_lenS, e_lenT, e_lenL, e_int, e_abs, e_max, e_min, e_tupT, e_tupL, e_listS, e_listT, e_listL, e_all, e_any, e_str, e_ixT, e_ixS, e_slT, e_slS, e_slL, e_revL, e_revS, e_trB, e_inS, gc_d, e_index, at_0, at_1, at_2, at_3, at_4, at_5, true_and, (ix_some hcm).1, e_isLst (lst_at new_at), e_append new_at, set_new]
      refine ⟨.tup r', by rw [at_nat]; unfold encT; rw [List.getElem?_map, s1]; rfl, ?_⟩
      simp only [e_lt, e_le, e_gt, e_ge, e_sub, e_add, e_addS, e_addT, e_mul, e_mulS, e_mod, e_fdiv, e_pow, e_neg, e_eqI, e_neI, e_eqS, e_neS, e_is, e_isNot, e_lenS, e_lenT, e_lenL, e_int, e_abs, e_max, e_min, e_tupT, e_tupL, e_listS, e_listT, e_listL, e_all, e_any, e_str, e_ixT, e_ixS, e_slT, e_slS, e_slL, e_revL, e_revS, e_trB, e_inS, gc_d, e_index, at_0, at_1, at_2, at_3, at_4, at_5]
      refine ⟨_, by rw [at_nat]; exact s2, ?_⟩
      simp only [e_lt, e_le, e_gt, e_ge, e_sub, e_add, e_addS, e_addT, e_mul, e_mulS, e_mod, e_fdiv, e_pow, e_neg, e_eqI, e_neI, e_eqS, e_neS, e_is, e_isNot, e_lenS, e_lenT, e_lenL, e_int, e_abs, e_max, e_min, e_tupT, e_tupL, e_listS, e_listT, e_listL, e_all, e_any, e_str, e_ixT, e_ixS, e_slT, e_slS, e_slL, e_revL, e_revS, e_trB, e_inS, gc_d, e_index, at_0, at_1, at_2, at_3, at_4, at_5, w_dSeq, w_dSet, w_dExpr, w_dRet, w_dRetN, w_dNext, w_dBrk, w_dCnt, w_dIf, w_dAsg, w_dPar, w_dParN, w_dPut, w_dC, w_dVar, w_dBin, w_dUn, w_dCB, w_dNil, w_dCons, w_dCall, w_dBT, w_dTr, w_dNot, w_dAnd, w_dOr, w_dAndV, w_dOrV, w_dNotV, w_dIfE, w_dTup, w_dLst, w_dIx, w_dIsi, w_dIn, w_dNotIn, w_dONone, w_dOSome, w_dSl, w_dBM, w_dChain, w_dListRg1, w_dIR1, w_dIR2, w_dIA, w_dFor, w_dLc, w_dYes, okR_ok, List.getElem?_cons_zero, List.getElem?_cons_succ, Option.some.injEq, exists_eq_left', exists_eq_left, List.map_cons, List.map_nil, List.length_cons, List.length_nil, List.replicate_succ, List.replicate_zero, List.cons_append, List.nil_append, List.append_nil, List.set_cons_zero, List.set_cons_succ, Vl.d.injEq, Vl.l.injEq, D.int.injEq, D.bl.injEq, D.str.injEq, D.tup.injEq, Nat.sub_self, Nat.reduceSub, Nat.reduceAdd, allD, Option.map_some, e_append new_at, set_new]
      refine ⟨by rw [w2, sizeLine_eq, List.length_take]; omega, .tup (nums r), by rw [at_nat]; unfold encG; rw [List.getElem?_map, r1]; rfl, ?_⟩
      simp only [e_lt, e_le, e_gt, e_ge, e_sub, e_add, e_addS, e_addT, e_mul, e_mulS, e_mod, e_fdiv, e_pow, e_neg, e_eqI, e_neI, e_eqS, e_neS, e_is, e_isNot, e_lenS, e_lenT, e_lenL, e_int, e_abs, e_max, e_min, e_tupT, e_tupL, e_listS, e_listT, e_listL, e_all, e_any, e_str, e_ixT, e_ixS, e_slT, e_slS, e_slL, e_revL, e_revS, e_trB, e_inS, gc_d, e_index, at_0, at_1, at_2, at_3, at_4, at_5]
      refine ⟨.int (stp sg go (apF (stp sg go) (mrk sg tell) cs (gsF cs gl) (0, []) (t.take i)).1 c : Nat), by rw [at_nat]; unfold nums; rw [List.getElem?_map, r2]; rfl, ?_⟩
      rw [et, ap_snoc]
      unfold apS
      by_cases h : c ∈ cs
      · simp only [h, decide_true, if_true, (ix_some h).1, e_lt, e_le, e_gt, e_ge, e_sub, e_add, e_addS, e_addT, e_mul, e_mulS, e_mod, e_fdiv, e_pow, e_neg, e_eqI, e_neI, e_eqS, e_neS, e_is, e_isNot, e_lenS, e_lenT, e_lenL, e_int, e_abs, e_max, e_min, e_tupT, e_tupL, e_listS, e_listT, e_listL, e_all, e_any, e_str, e_ixT, e_ixS, e_slT, e_slS, e_slL, e_revL, e_revS, e_trB, e_inS, gc_d, e_index, at_0, at_1, at_2, at_3, at_4, at_5, w_dSeq, w_dSet, w_dExpr, w_dRet, w_dRetN, w_dNext, w_dBrk, w_dCnt, w_dIf, w_dAsg, w_dPar, w_dParN, w_dPut, w_dC, w_dVar, w_dBin, w_dUn, w_dCB, w_dNil, w_dCons, w_dCall, w_dBT, w_dTr, w_dNot, w_dAnd, w_dOr, w_dAndV, w_dOrV, w_dNotV, w_dIfE, w_dTup, w_dLst, w_dIx, w_dIsi, w_dIn, w_dNotIn, w_dONone, w_dOSome, w_dSl, w_dBM, w_dChain, w_dListRg1, w_dIR1, w_dIR2, w_dIA, w_dFor, w_dLc, w_dYes, okR_ok, List.getElem?_cons_zero, List.getElem?_cons_succ, Option.some.injEq, exists_eq_left', exists_eq_left, List.map_cons, List.map_nil, List.length_cons, List.length_nil, List.replicate_succ, List.replicate_zero, List.cons_append, List.nil_append, List.append_nil, List.set_cons_zero, List.set_cons_succ, Vl.d.injEq, Vl.l.injEq, D.int.injEq, D.bl.injEq, D.str.injEq, D.tup.injEq, Nat.sub_self, Nat.reduceSub, Nat.reduceAdd, allD, Option.map_some]
        exact ⟨.int (gsF cs gl c : Nat), by rw [at_nat]; unfold nums; rw [List.getElem?_map, (gs_at R h).1]; rfl, _, _, rfl, rfl⟩
      · simp only [h, decide_false, Bool.false_eq_true, if_false]
        exact ⟨_, _, rfl, rfl⟩
    · rintro ρ3 S3 ⟨v, w, rfl, rfl⟩
      rw [List.length_map, List.take_length]
      exact ⟨v, w, rfl, rfl⟩
  subst e1 e2
  obtain ⟨a1, a2, a3⟩ := ap_ok M R t hm hc
  have hen : (apF (stp sg go) (mrk sg tell) cs (gsF cs gl) (0, []) t).1 < en.length := by rw [M.e1]; exact a1
  have ee : en.getD (apF (stp sg go) (mrk sg tell) cs (gsF cs gl) (0, []) t).1 .non = en[(apF (stp sg go) (mrk sg tell) cs (gsF cs gl) (0, []) t).1] := by simp [List.getD, hen]
  simp only [w_dSeq, w_dSet, w_dExpr, w_dRet, w_dRetN, w_dNext, w_dBrk, w_dCnt, w_dIf, w_dAsg, w_dPar, w_dParN, w_dPut, w_dC, w_dVar, w_dBin, w_dUn, w_dCB, w_dNil, w_dCons, w_dCall, w_dBT, w_dTr, w_dNot, w_dAnd, w_dOr, w_dAndV, w_dOrV, w_dNotV, w_dIfE, w_dTup, w_dLst, w_dIx, w_dIsi, w_dIn, w_dNotIn, w_dONone, w_dOSome, w_dSl, w_dBM, w_dChain, w_dListRg1, w_dIR1, w_dIR2, w_dIA, w_dFor, w_dLc, w_dYes, okR_ok, List.getElem?_cons_zero, List.getElem?_cons_succ, Option.some.injEq, exists_eq_left', exists_eq_left, List.map_cons, List.map_nil, List.length_cons, List.length_nil, List.replicate_succ, List.replicate_zero, List.cons_append, List.nil_append, List.append_nil, List.set_cons_zero, List.set_cons_succ, Vl.d.injEq, Vl.l.injEq, D.int.injEq, D.bl.injEq, D.str.injEq, D.tup.injEq, Nat.sub_self, Nat.reduceSub, Nat.reduceAdd, allD, Option.map_some, e_lt, e_le, e_gt, e_ge, e_sub, e_add, e_addS, e_addT, e_mul, e_mulS, e_mod, e_fdiv, e_pow, e_neg, e_eqI, e_neI, e_eqS, e_neS, e_is, e_isNot, e_lenS, e_lenT, e_lenL, e_int, e_abs, e_max, e_min, e_tupT, e_tupL, e_listS, e_listT, e_listL, e_all, e_any, e_str, e_ixT, e_ixS, e_slT, e_slS, e_slL, e_revL, e_revS, e_trB, e_inS, gc_d, e_index, at_0, at_1, at_2, at_3, at_4, at_5]
  refine ⟨_, lst_at new_at, ?_⟩
  refine ⟨_, by rw [at_nat]; exact List.getElem?_eq_getElem hen, by decide, ?_⟩
  rw [take_new, ← ee]
  exact q
end
end L71
end

section
set_option Elab.async false
set_option linter.all false
set_option maxRecDepth 100000
set_option autoImplicit false
set_option maxHeartbeats 1000001
namespace L71
open PySem L2 TL DL
/-! ### the same -/
def okP : Nat → D → Prop
  | 0, .tup _ => False
  | n + 1, .tup ds => ds.length ≤ 1000000 ∧ ∀ d ∈ ds, okP n d
  | _, .bl _ => False
  | _, .non => True
  | _, .int _ => True
  | _, .str _ => True
theorem eq_of_okR {α : Type} {r : Res α} {a : α} {S : Store} (h : okR r fun b S1 => b = a ∧ S1 = S) : r = .ok a S := by
  obtain ⟨b, S1, e, rfl, rfl⟩ := okR_iff.mp h
  exact e
theorem rng_at' {m i : Nat} {x : Vl} (h : (rngV 0 (m : Int).toNat)[i]? = some x) : i < m ∧ x = .d (.int (i : Nat)) := by
  obtain ⟨h1, h2⟩ := rng_at h
  exact ⟨h1, by rw [h2, Int.zero_add]⟩
theorem w_same : ∀ (n : Nat) (d : D), okP n d → ∀ (f : Nat) (S : Store) (Q : Vl → Store → Prop), n < f → Q (.d (.bl true)) S → okR (m_law_same f [.d d, .d d] S) Q := by
  intro n
  induction n with
  | zero =>
    intro d hd f S Q hf q
    obtain ⟨f, rfl⟩ : ∃ g, f = g + 1 := ⟨f - 1, by omega⟩
    show okR (runFn 2 3 (t_law_same (m_law_same f)) _ S) Q
    refine w_runFn rfl ?_
    unfold t_law_same
    cases d with
    | tup ds => exact hd.elim
    | bl _ => exact hd.elim
    | non => simp only [w_dSeq, w_dSet, w_dExpr, w_dRet, w_dRetN, w_dNext, w_dBrk, w_dCnt, w_dIf, w_dAsg, w_dPar, w_dParN, w_dPut, w_dC, w_dVar, w_dBin, w_dUn, w_dCB, w_dNil, w_dCons, w_dCall, w_dBT, w_dTr, w_dNot, w_dAnd, w_dOr, w_dAndV, w_dOrV, w_dNotV, w_dIfE, w_dTup, w_dLst, w_dIx, w_dIsi, w_dIn, w_dNotIn, w_dONone, w_dOSome, w_dSl, w_dBM, w_dChain, w_dListRg1, w_dIR1, w_dIR2, w_dIA, w_dFor, w_dLc, w_dYes, okR_ok, List.getElem?_cons_zero, List.getElem?_cons_succ, Option.some.injEq, exists_eq_left', exists_eq_left, List.map_cons, List.map_nil, List.length_cons, List.length_nil, List.replicate_succ, List.replicate_zero, List.cons_append, List.nil_append, List.append_nil, List.set_cons_zero, List.set_cons_succ, Vl.d.injEq, Vl.l.injEq, D.int.injEq, D.bl.injEq, D.str.injEq, D.tup.injEq, Nat.sub_self, Nat.reduceSub, Nat.reduceAdd, allD, Option.map_some, tyN, i1, i2, i3, i4, i5, i6, i7, i8, i9, i10, i11, i12, i13, i14, i15, i16, i17, e_lt, e_le, e_gt, e_ge, e_sub, e_add, e_addS, e_addT, e_mul, e_mulS, e_mod, e_fdiv, e_pow, e_neg, e_eqI, e_neI, e_eqS, e_neS, e_is, e_isNot, e_lenS, e_lenT, e_lenL, e_int, e_abs, e_max, e_min, e_tupT, e_tupL, e_listS, e_listT, e_listL, e_all, e_any, e_str, e_ixT, e_ixS, e_slT, e_slS, e_slL, e_revL, e_revS, e_trB, e_inS, gc_d, e_index, at_0, at_1, at_2, at_3, at_4, at_5, isV, Bool.false_eq_true, if_false, if_true, List.take_length]; exact q
    | int k => simp only [w_dSeq, w_dSet, w_dExpr, w_dRet, w_dRetN, w_dNext, w_dBrk, w_dCnt, w_dIf, w_dAsg, w_dPar, w_dParN, w_dPut, w_dC, w_dVar, w_dBin, w_dUn, w_dCB, w_dNil, w_dCons, w_dCall, w_dBT, w_dTr, w_dNot, w_dAnd, w_dOr, w_dAndV, w_dOrV, w_dNotV, w_dIfE, w_dTup, w_dLst, w_dIx, w_dIsi, w_dIn, w_dNotIn, w_dONone, w_dOSome, w_dSl, w_dBM, w_dChain, w_dListRg1, w_dIR1, w_dIR2, w_dIA, w_dFor, w_dLc, w_dYes, okR_ok, List.getElem?_cons_zero, List.getElem?_cons_succ, Option.some.injEq, exists_eq_left', exists_eq_left, List.map_cons, List.map_nil, List.length_cons, List.length_nil, List.replicate_succ, List.replicate_zero, List.cons_append, List.nil_append, List.append_nil, List.set_cons_zero, List.set_cons_succ, Vl.d.injEq, Vl.l.injEq, D.int.injEq, D.bl.injEq, D.str.injEq, D.tup.injEq, Nat.sub_self, Nat.reduceSub, Nat.reduceAdd, allD, Option.map_some, tyN, i1, i2, i3, i4, i5, i6, i7, i8, i9, i10, i11, i12, i13, i14, i15, i16, i17, e_lt, e_le, e_gt, e_ge, e_sub, e_add, e_addS, e_addT, e_mul, e_mulS, e_mod, e_fdiv, e_pow, e_neg, e_eqI, e_neI, e_eqS, e_neS, e_is, e_isNot, e_lenS, e_lenT, e_lenL, e_int, e_abs, e_max, e_min, e_tupT, e_tupL, e_listS, e_listT, e_listL, e_all, e_any, e_str, e_ixT, e_ixS, e_slT, e_slS, e_slL, e_revL, e_revS, e_trB, e_inS, gc_d, e_index, at_0, at_1, at_2, at_3, at_4, at_5, isV, Bool.false_eq_true, if_false, if_true, List.take_length, Bool.not_false, BEq.rfl]; exact q
    | str s => simp only [w_dSeq, w_dSet, w_dExpr, w_dRet, w_dRetN, w_dNext, w_dBrk, w_dCnt, w_dIf, w_dAsg, w_dPar, w_dParN, w_dPut, w_dC, w_dVar, w_dBin, w_dUn, w_dCB, w_dNil, w_dCons, w_dCall, w_dBT, w_dTr, w_dNot, w_dAnd, w_dOr, w_dAndV, w_dOrV, w_dNotV, w_dIfE, w_dTup, w_dLst, w_dIx, w_dIsi, w_dIn, w_dNotIn, w_dONone, w_dOSome, w_dSl, w_dBM, w_dChain, w_dListRg1, w_dIR1, w_dIR2, w_dIA, w_dFor, w_dLc, w_dYes, okR_ok, List.getElem?_cons_zero, List.getElem?_cons_succ, Option.some.injEq, exists_eq_left', exists_eq_left, List.map_cons, List.map_nil, List.length_cons, List.length_nil, List.replicate_succ, List.replicate_zero, List.cons_append, List.nil_append, List.append_nil, List.set_cons_zero, List.set_cons_succ, Vl.d.injEq, Vl.l.injEq, D.int.injEq, D.bl.injEq, D.str.injEq, D.tup.injEq, Nat.sub_self, Nat.reduceSub, Nat.reduceAdd, allD, Option.map_some, tyN, i1, i2, i3, i4, i5, i6, i7, i8, i9, i10, i11, i12, i13, i14, i15, i16, i17, e_lt, e_le, e_gt, e_ge, e_sub, e_add, e_addS, e_addT, e_mul, e_mulS, e_mod, e_fdiv, e_pow, e_neg, e_eqI, e_neI, e_eqS, e_neS, e_is, e_isNot, e_lenS, e_lenT, e_lenL, e_int, e_abs, e_max, e_min, e_tupT, e_tupL, e_listS, e_listT, e_listL, e_all, e_any, e_str, e_ixT, e_ixS, e_slT, e_slS, e_slL, e_revL, e_revS, e_trB, e_inS, gc_d, e_index, at_0, at_1, at_2, at_3, at_4, at_5, isV, Bool.false_eq_true, if_false, if_true, List.take_length, BEq.rfl]; exact q
  | succ n ih =>
    intro d hd f S Q hf q
    obtain ⟨f, rfl⟩ : ∃ g, f = g + 1 := ⟨f - 1, by omega⟩
    show okR (runFn 2 3 (t_law_same (m_law_same f)) _ S) Q
    refine w_runFn rfl ?_
    unfold t_law_same
    cases d with
    | tup ds =>
      obtain ⟨h1, h2⟩ := hd
      simp only [w_dSeq, w_dSet, w_dExpr, w_dRet, w_dRetN, w_dNext, w_dBrk, w_dCnt, w_dIf, w_dAsg, w_dPar, w_dParN, w_dPut, w_dC, w_dVar, w_dBin, w_dUn, w_dCB, w_dNil, w_dCons, w_dCall, w_dBT, w_dTr, w_dNot, w_dAnd, w_dOr, w_dAndV, w_dOrV, w_dNotV, w_dIfE, w_dTup, w_dLst, w_dIx, w_dIsi, w_dIn, w_dNotIn, w_dONone, w_dOSome, w_dSl, w_dBM, w_dChain, w_dListRg1, w_dIR1, w_dIR2, w_dIA, w_dFor, w_dLc, w_dYes, okR_ok, List.getElem?_cons_zero, List.getElem?_cons_succ, Option.some.injEq, exists_eq_left', exists_eq_left, List.map_cons, List.map_nil, List.length_cons, List.length_nil, List.replicate_succ, List.replicate_zero, List.cons_append, List.nil_append, List.append_nil, List.set_cons_zero, List.set_cons_succ, Vl.d.injEq, Vl.l.injEq, D.int.injEq, D.bl.injEq, D.str.injEq, D.tup.injEq, Nat.sub_self, Nat.reduceSub, Nat.reduceAdd, allD, Option.map_some, tyN, i1, i2, i3, i4, i5, i6, i7, i8, i9, i10, i11, i12, i13, i14, i15, i16, i17, e_lt, e_le, e_gt, e_ge, e_sub, e_add, e_addS, e_addT, e_mul, e_mulS, e_mod, e_fdiv, e_pow, e_neg, e_eqI, e_neI, e_eqS, e_neS, e_is, e_isNot, e_lenS, e_lenT, e_lenL, e_int, e_abs, e_max, e_min, e_tupT, e_tupL, e_listS, e_listT, e_listL, e_all, e_any, e_str, e_ixT, e_ixS, e_slT, e_slS, e_slL, e_revL, e_revS, e_trB, e_inS, gc_d, e_index, at_0, at_1, at_2, at_3, at_4, at_5, isV, Bool.false_eq_true, if_false, if_true, Bool.not_true, BEq.rfl]
      refine ⟨ds.length, rfl, by unfold okB; simp; omega, ?_⟩
      rw [lcQ_seq]
      refine pure_lc (fun _ => true) (fun _ => .bl true) (by rw [rng_len]; omega) ?_ ?_
      · rintro i x acc hx
        obtain ⟨hi, rfl⟩ := rng_at' hx
        refine ⟨_, rfl, ?_⟩
        simp only [w_dSeq, w_dSet, w_dExpr, w_dRet, w_dRetN, w_dNext, w_dBrk, w_dCnt, w_dIf, w_dAsg, w_dPar, w_dParN, w_dPut, w_dC, w_dVar, w_dBin, w_dUn, w_dCB, w_dNil, w_dCons, w_dCall, w_dBT, w_dTr, w_dNot, w_dAnd, w_dOr, w_dAndV, w_dOrV, w_dNotV, w_dIfE, w_dTup, w_dLst, w_dIx, w_dIsi, w_dIn, w_dNotIn, w_dONone, w_dOSome, w_dSl, w_dBM, w_dChain, w_dListRg1, w_dIR1, w_dIR2, w_dIA, w_dFor, w_dLc, w_dYes, okR_ok, List.getElem?_cons_zero, List.getElem?_cons_succ, Option.some.injEq, exists_eq_left', exists_eq_left, List.map_cons, List.map_nil, List.length_cons, List.length_nil, List.replicate_succ, List.replicate_zero, List.cons_append, List.nil_append, List.append_nil, List.set_cons_zero, List.set_cons_succ, Vl.d.injEq, Vl.l.injEq, D.int.injEq, D.bl.injEq, D.str.injEq, D.tup.injEq, Nat.sub_self, Nat.reduceSub, Nat.reduceAdd, allD, Option.map_some, wipeR, e_lt, e_le, e_gt, e_ge, e_sub, e_add, e_addS, e_addT, e_mul, e_mulS, e_mod, e_fdiv, e_pow, e_neg, e_eqI, e_neI, e_eqS, e_neS, e_is, e_isNot, e_lenS, e_lenT, e_lenL, e_int, e_abs, e_max, e_min, e_tupT, e_tupL, e_listS, e_listT, e_listL, e_all, e_any, e_str, e_ixT, e_ixS, e_slT, e_slS, e_slL, e_revL, e_revS, e_trB, e_inS, gc_d, e_index, at_0, at_1, at_2, at_3, at_4, at_5]
        refine ⟨trivial, trivial, fun _ => ⟨ds[i], by rw [at_nat]; exact List.getElem?_eq_getElem hi, ds[i], by rw [at_nat]; exact List.getElem?_eq_getElem hi, ?_⟩⟩
        exact ih _ (h2 _ (List.getElem_mem hi)) f _ _ (by omega) ⟨rfl, rfl⟩
      · simp only [e_lt, e_le, e_gt, e_ge, e_sub, e_add, e_addS, e_addT, e_mul, e_mulS, e_mod, e_fdiv, e_pow, e_neg, e_eqI, e_neI, e_eqS, e_neS, e_is, e_isNot, e_lenS, e_lenT, e_lenL, e_int, e_abs, e_max, e_min, e_tupT, e_tupL, e_listS, e_listT, e_listL, e_all, e_any, e_str, e_ixT, e_ixS, e_slT, e_slS, e_slL, e_revL, e_revS, e_trB, e_inS, gc_d, e_index, at_0, at_1, at_2, at_3, at_4, at_5]
        refine ⟨_, _, lst_at new_at, bools_map (fun _ => true) _, ?_⟩
        rw [take_new]
        have : ((List.filter (fun _ => true) (rngV 0 (ds.length : Int).toNat)).map fun _ => true).all id = true := by simp
        rw [this]
        exact q
    | bl _ => exact hd.elim
    | non => simp only [w_dSeq, w_dSet, w_dExpr, w_dRet, w_dRetN, w_dNext, w_dBrk, w_dCnt, w_dIf, w_dAsg, w_dPar, w_dParN, w_dPut, w_dC, w_dVar, w_dBin, w_dUn, w_dCB, w_dNil, w_dCons, w_dCall, w_dBT, w_dTr, w_dNot, w_dAnd, w_dOr, w_dAndV, w_dOrV, w_dNotV, w_dIfE, w_dTup, w_dLst, w_dIx, w_dIsi, w_dIn, w_dNotIn, w_dONone, w_dOSome, w_dSl, w_dBM, w_dChain, w_dListRg1, w_dIR1, w_dIR2, w_dIA, w_dFor, w_dLc, w_dYes, okR_ok, List.getElem?_cons_zero, List.getElem?_cons_succ, Option.some.injEq, exists_eq_left', exists_eq_left, List.map_cons, List.map_nil, List.length_cons, List.length_nil, List.replicate_succ, List.replicate_zero, List.cons_append, List.nil_append, List.append_nil, List.set_cons_zero, List.set_cons_succ, Vl.d.injEq, Vl.l.injEq, D.int.injEq, D.bl.injEq, D.str.injEq, D.tup.injEq, Nat.sub_self, Nat.reduceSub, Nat.reduceAdd, allD, Option.map_some, tyN, i1, i2, i3, i4, i5, i6, i7, i8, i9, i10, i11, i12, i13, i14, i15, i16, i17, e_lt, e_le, e_gt, e_ge, e_sub, e_add, e_addS, e_addT, e_mul, e_mulS, e_mod, e_fdiv, e_pow, e_neg, e_eqI, e_neI, e_eqS, e_neS, e_is, e_isNot, e_lenS, e_lenT, e_lenL, e_int, e_abs, e_max, e_min, e_tupT, e_tupL, e_listS, e_listT, e_listL, e_all, e_any, e_str, e_ixT, e_ixS, e_slT, e_slS, e_slL, e_revL, e_revS, e_trB, e_inS, gc_d, e_index, at_0, at_1, at_2, at_3, at_4, at_5, isV, Bool.false_eq_true, if_false, if_true, List.take_length]; exact q
    | int k => simp only [w_dSeq, w_dSet, w_dExpr, w_dRet, w_dRetN, w_dNext, w_dBrk, w_dCnt, w_dIf, w_dAsg, w_dPar, w_dParN, w_dPut, w_dC, w_dVar, w_dBin, w_dUn, w_dCB, w_dNil, w_dCons, w_dCall, w_dBT, w_dTr, w_dNot, w_dAnd, w_dOr, w_dAndV, w_dOrV, w_dNotV, w_dIfE, w_dTup, w_dLst, w_dIx, w_dIsi, w_dIn, w_dNotIn, w_dONone, w_dOSome, w_dSl, w_dBM, w_dChain, w_dListRg1, w_dIR1, w_dIR2, w_dIA, w_dFor, w_dLc, w_dYes, okR_ok, List.getElem?_cons_zero, List.getElem?_cons_succ, Option.some.injEq, exists_eq_left', exists_eq_left, List.map_cons, List.map_nil, List.length_cons, List.length_nil, List.replicate_succ, List.replicate_zero, List.cons_append, List.nil_append, List.append_nil, List.set_cons_zero, List.set_cons_succ, Vl.d.injEq, Vl.l.injEq, D.int.injEq, D.bl.injEq, D.str.injEq, D.tup.injEq, Nat.sub_self, Nat.reduceSub, Nat.reduceAdd, allD, Option.map_some, tyN, i1, i2, i3, i4, i5, i6, i7, i8, i9, i10, i11, i12, i13, i14, i15, i16, i17, e_lt, e_le, e_gt, e_ge, e_sub, e_add, e_addS, e_addT, e_mul, e_mulS, e_mod, e_fdiv, e_pow, e_neg, e_eqI, e_neI, e_eqS, e_neS, e_is, e_isNot, e_lenS, e_lenT, e_lenL, e_int, e_abs, e_max, e_min, e_tupT, e_tupL, e_listS, e_listT, e_listL, e_all, e_any, e_str, e_ixT, e_ixS, e_slT, e_slS, e_slL, e_revL, e_revS, e_trB, e_inS, gc_d, e_index, at_0, at_1, at_2, at_3, at_4, at_5, isV, Bool.false_eq_true, if_false, if_true, List.take_length, Bool.not_false, BEq.rfl]; exact q
    | str s => simp only [w_dSeq, w_dSet, w_dExpr, w_dRet, w_dRetN, w_dNext, w_dBrk, w_dCnt, w_dIf, w_dAsg, w_dPar, w_dParN, w_dPut, w_dC, w_dVar, w_dBin, w_dUn, w_dCB, w_dNil, w_dCons, w_dCall, w_dBT, w_dTr, w_dNot, w_dAnd, w_dOr, w_dAndV, w_dOrV, w_dNotV, w_dIfE, w_dTup, w_dLst, w_dIx, w_dIsi, w_dIn, w_dNotIn, w_dONone, w_dOSome, w_dSl, w_dBM, w_dChain, w_dListRg1, w_dIR1, w_dIR2, w_dIA, w_dFor, w_dLc, w_dYes, okR_ok, List.getElem?_cons_zero, List.getElem?_cons_succ, Option.some.injEq, exists_eq_left', exists_eq_left, List.map_cons, List.map_nil, List.length_cons, List.length_nil, List.replicate_succ, List.replicate_zero, List.cons_append, List.nil_append, List.append_nil, List.set_cons_zero, List.set_cons_succ, Vl.d.injEq, Vl.l.injEq, D.int.injEq, D.bl.injEq, D.str.injEq, D.tup.injEq, Nat.sub_self, Nat.reduceSub, Nat.reduceAdd, allD, Option.map_some, tyN, i1, i2, i3, i4, i5, i6, i7, i8, i9, i10, i11, i12, i13, i14, i15, i16, i17, e_lt, e_le, e_gt, e_ge, e_sub, e_add, e_addS, e_addT, e_mul, e_mulS, e_mod, e_fdiv, e_pow, e_neg, e_eqI, e_neI, e_eqS, e_neS, e_is, e_isNot, e_lenS, e_lenT, e_lenL, e_int, e_abs, e_max, e_min, e_tupT, e_tupL, e_listS, e_listT, e_listL, e_all, e_any, e_str, e_ixT, e_ixS, e_slT, e_slS, e_slL, e_revL, e_revS, e_trB, e_inS, gc_d, e_index, at_0, at_1, at_2, at_3, at_4, at_5, isV, Bool.false_eq_true, if_false, if_true, List.take_length, BEq.rfl]; exact q
theorem segs_all (t : List Nat) (pl : List Nat) (n : Nat) (h : pl.length - 1 = n) : ((rngV 0 (n : Int).toNat).filter fun _ => true).map (fun x => match x with | .d (.int k) => D.str ((segs t pl).getD k.toNat []) | _ => .non) = stL (segs t pl) := by
  rw [List.filter_eq_self.mpr (by simp)]
  unfold rngV stL
  rw [List.map_map]
  refine List.ext_getElem (by simp [segs_len, h]) fun i h1 h2 => ?_
  simp at h1 h2
  simp [List.getD, h2]
theorem hits_is (cs t : List Nat) : ((rngV 0 (t.length : Int).toNat).filter fun x => match x with | .d (.int k) => decide (t.getD k.toNat 0 ∈ cs) | _ => false).map (fun x => match x with | .d (.int k) => D.int (k + 1) | _ => .non) = nums (hits cs t t.length) := by
  unfold rngV hits nums
  rw [Int.toNat_natCast]
  generalize List.range t.length = l
  induction l with
  | nil => rfl
  | cons a l ih =>
    rw [List.map_cons]
    have ea : (0 + (a : Int)) = (a : Int) := Int.zero_add _
    by_cases h : t.getD a 0 ∈ cs
    · rw [List.filter_cons_of_pos (by rw [ea]; simpa using h), List.filter_cons_of_pos (by simpa using h), List.map_cons, ih, ea]
      rfl
    · rw [List.filter_cons_of_neg (by rw [ea]; simpa using h), List.filter_cons_of_neg (by simpa using h), ih]
theorem nums_at {xs : List Nat} {k : Nat} (h : k < xs.length) : atI (nums xs) (k : Int) = some (.int (xs[k] : Nat)) := by
  rw [at_nat]; unfold nums; rw [List.getElem?_map, List.getElem?_eq_getElem h]; rfl
theorem w_pieces {S : Store} {cs t : List Nat} {Q : Vl → Store → Prop} (ht : t.length ≤ 1000000) (q : Q (.d (.tup (stL (cutF cs t)))) S) : okR (m_law_pieces [.d (.str cs), .d (.str t)] S) Q := by
  unfold m_law_pieces
  refine w_runFn rfl ?_
  unfold t_law_pieces
  refine seq_cut (fun ρ' S' => ∃ (m : Nat) (G : Store), ρ' = [some (.d (.str cs)), some (.d (.str t)), some (.l m), none] ∧ S' = S ++ G ∧ (S ++ G)[m]? = some (.lst (nums ([0] ++ hits cs t t.length ++ [t.length])))) ?_ fun ρ1 S1 ⟨m, G, e1, e2, hm⟩ => ?_
  · have hh : (hits cs t t.length).length ≤ t.length := by
      unfold hits
      rw [List.length_map]
      have := List.length_filter_le (fun k => decide (t.getD k 0 ∈ cs)) (List.range t.length)
      rw [List.length_range] at this
      exact this
    simp only [w_dSeq, w_dSet, w_dExpr, w_dRet, w_dRetN, w_dNext, w_dBrk, w_dCnt, w_dIf, w_dAsg, w_dPar, w_dParN, w_dPut, w_dC, w_dVar, w_dBin, w_dUn, w_dCB, w_dNil, w_dCons, w_dCall, w_dBT, w_dTr, w_dNot, w_dAnd, w_dOr, w_dAndV, w_dOrV, w_dNotV, w_dIfE, w_dTup, w_dLst, w_dIx, w_dIsi, w_dIn, w_dNotIn, w_dONone, w_dOSome, w_dSl, w_dBM, w_dChain, w_dListRg1, w_dIR1, w_dIR2, w_dIA, w_dFor, w_dLc, w_dYes, okR_ok, List.getElem?_cons_zero, List.getElem?_cons_succ, Option.some.injEq, exists_eq_left', exists_eq_left, List.map_cons, List.map_nil, List.length_cons, List.length_nil, List.replicate_succ, List.replicate_zero, List.cons_append, List.nil_append, List.append_nil, List.set_cons_zero, List.set_cons_succ, Vl.d.injEq, Vl.l.injEq, D.int.injEq, D.bl.injEq, D.str.injEq, D.tup.injEq, Nat.sub_self, Nat.reduceSub, Nat.reduceAdd, allD, Option.map_some, e_lt, e_le, e_gt, e_ge, e_sub, e_add, e_addS, e_addT, e_mul, e_mulS, e_mod, e_fdiv, e_pow, e_neg, e_eqI, e_neI, e_eqS, e_neS, e_is, e_isNot, e_lenS, e_lenT, e_lenL, e_int, e_abs, e_max, e_min, e_tupT, e_tupL, e_listS, e_listT, e_listL, e_all, e_any, e_str, e_ixT, e_ixS, e_slT, e_slS, e_slL, e_revL, e_revS, e_trB, e_inS, gc_d, e_index, at_0, at_1, at_2, at_3, at_4, at_5]
    refine ⟨by decide, by rw [sizeLine_eq]; omega, t.length, rfl, by unfold okB; simp; omega, ?_⟩
    rw [lcQ_seq]
    refine pure_lc (fun x => match x with | .d (.int k) => decide (t.getD k.toNat 0 ∈ cs) | _ => false) (fun x => match x with | .d (.int k) => D.int (k + 1) | _ => .non) (by rw [rng_len]; omega) ?_ ?_
    · rintro i x acc hx
      obtain ⟨hi, rfl⟩ := rng_at' hx
      refine ⟨_, rfl, ?_⟩
      simp only [w_dSeq, w_dSet, w_dExpr, w_dRet, w_dRetN, w_dNext, w_dBrk, w_dCnt, w_dIf, w_dAsg, w_dPar, w_dParN, w_dPut, w_dC, w_dVar, w_dBin, w_dUn, w_dCB, w_dNil, w_dCons, w_dCall, w_dBT, w_dTr, w_dNot, w_dAnd, w_dOr, w_dAndV, w_dOrV, w_dNotV, w_dIfE, w_dTup, w_dLst, w_dIx, w_dIsi, w_dIn, w_dNotIn, w_dONone, w_dOSome, w_dSl, w_dBM, w_dChain, w_dListRg1, w_dIR1, w_dIR2, w_dIA, w_dFor, w_dLc, w_dYes, okR_ok, List.getElem?_cons_zero, List.getElem?_cons_succ, Option.some.injEq, exists_eq_left', exists_eq_left, List.map_cons, List.map_nil, List.length_cons, List.length_nil, List.replicate_succ, List.replicate_zero, List.cons_append, List.nil_append, List.append_nil, List.set_cons_zero, List.set_cons_succ, Vl.d.injEq, Vl.l.injEq, D.int.injEq, D.bl.injEq, D.str.injEq, D.tup.injEq, Nat.sub_self, Nat.reduceSub, Nat.reduceAdd, allD, Option.map_some, wipeR, e_lt, e_le, e_gt, e_ge, e_sub, e_add, e_addS, e_addT, e_mul, e_mulS, e_mod, e_fdiv, e_pow, e_neg, e_eqI, e_neI, e_eqS, e_neS, e_is, e_isNot, e_lenS, e_lenT, e_lenL, e_int, e_abs, e_max, e_min, e_tupT, e_tupL, e_listS, e_listT, e_listL, e_all, e_any, e_str, e_ixT, e_ixS, e_slT, e_slS, e_slL, e_revL, e_revS, e_trB, e_inS, gc_d, e_index, at_0, at_1, at_2, at_3, at_4, at_5]
      refine ⟨by rw [sizeLine_eq]; omega, t[i], by rw [at_nat]; exact List.getElem?_eq_getElem hi, ?_⟩
      have eg : t.getD (i : Int).toNat 0 = t[i] := by simp [List.getD, hi]
      first
        | exact ⟨_, rfl, by rw [eg], trivial, fun _ => ⟨trivial, trivial⟩⟩
        | exact ⟨by rw [eg], trivial, fun _ => ⟨trivial, trivial⟩⟩
        | exact ⟨by rw [eg], rfl, fun _ => ⟨rfl, rfl⟩⟩
    · rw [hits_is]
      rw [e_addL (old_at new_at) new_at]
      refine ⟨by rw [nums_len, sizeLine_eq]; simp; omega, by rw [sizeLine_eq]; omega, by decide, ?_⟩
      rw [e_addL (old_at new_at) new_at]
      refine ⟨by rw [List.length_append, nums_len, sizeLine_eq]; simp; omega, _, [.lst [.int 0], .lst (nums (hits cs t t.length)), .lst ([.int 0] ++ nums (hits cs t t.length)), .lst [.int t.length], .lst (([.int 0] ++ nums (hits cs t t.length)) ++ [.int t.length])], rfl, by simp, ?_⟩
      have e : [D.int 0] ++ nums (hits cs t t.length) ++ [D.int (t.length : Nat)] = nums (0 :: (hits cs t t.length ++ [t.length])) := by simp [nums]
      rw [← e]
      simp
  subst e1 e2
  simp only [w_dSeq, w_dSet, w_dExpr, w_dRet, w_dRetN, w_dNext, w_dBrk, w_dCnt, w_dIf, w_dAsg, w_dPar, w_dParN, w_dPut, w_dC, w_dVar, w_dBin, w_dUn, w_dCB, w_dNil, w_dCons, w_dCall, w_dBT, w_dTr, w_dNot, w_dAnd, w_dOr, w_dAndV, w_dOrV, w_dNotV, w_dIfE, w_dTup, w_dLst, w_dIx, w_dIsi, w_dIn, w_dNotIn, w_dONone, w_dOSome, w_dSl, w_dBM, w_dChain, w_dListRg1, w_dIR1, w_dIR2, w_dIA, w_dFor, w_dLc, w_dYes, okR_ok, List.getElem?_cons_zero, List.getElem?_cons_succ, Option.some.injEq, exists_eq_left', exists_eq_left, List.map_cons, List.map_nil, List.length_cons, List.length_nil, List.replicate_succ, List.replicate_zero, List.cons_append, List.nil_append, List.append_nil, List.set_cons_zero, List.set_cons_succ, Vl.d.injEq, Vl.l.injEq, D.int.injEq, D.bl.injEq, D.str.injEq, D.tup.injEq, Nat.sub_self, Nat.reduceSub, Nat.reduceAdd, allD, Option.map_some, e_lt, e_le, e_gt, e_ge, e_sub, e_add, e_addS, e_addT, e_mul, e_mulS, e_mod, e_fdiv, e_pow, e_neg, e_eqI, e_neI, e_eqS, e_neS, e_is, e_isNot, e_lenS, e_lenT, e_lenL, e_int, e_abs, e_max, e_min, e_tupT, e_tupL, e_listS, e_listT, e_listL, e_all, e_any, e_str, e_ixT, e_ixS, e_slT, e_slS, e_slL, e_revL, e_revS, e_trB, e_inS, gc_d, e_index, at_0, at_1, at_2, at_3, at_4, at_5]
  refine ⟨_, lst_at hm, ?_⟩
  generalize hpl : [0] ++ hits cs t t.length ++ [t.length] = pl at hm ⊢
  have hpos : 1 ≤ pl.length := by rw [← hpl]; simp
  have hlen : pl.length ≤ t.length + 2 := by
    rw [← hpl]
    unfold hits
    have := List.length_filter_le (fun k => decide (t.getD k 0 ∈ cs)) (List.range t.length)
    rw [List.length_range] at this
    simp only [List.length_append, List.length_cons, List.length_nil, List.length_map]
    omega
  rw [nums_len]
  refine ⟨(pl.length : Int) - 1, rfl, by unfold okB; simp; omega, ?_⟩
  rw [show ((pl.length : Int) - 1) = ((pl.length - 1 : Nat) : Int) by omega, lcQ_seq]
  refine pure_lc (fun _ => true) (fun x => match x with | .d (.int k) => D.str ((segs t pl).getD k.toNat []) | _ => .non) (by rw [rng_len]; omega) ?_ ?_
  · rintro i x acc hx
    obtain ⟨hi, rfl⟩ := rng_at' hx
    have h1 : i < pl.length := by omega
    have h2 : i + 1 < pl.length := by omega
    refine ⟨_, rfl, ?_⟩
    simp only [w_dSeq, w_dSet, w_dExpr, w_dRet, w_dRetN, w_dNext, w_dBrk, w_dCnt, w_dIf, w_dAsg, w_dPar, w_dParN, w_dPut, w_dC, w_dVar, w_dBin, w_dUn, w_dCB, w_dNil, w_dCons, w_dCall, w_dBT, w_dTr, w_dNot, w_dAnd, w_dOr, w_dAndV, w_dOrV, w_dNotV, w_dIfE, w_dTup, w_dLst, w_dIx, w_dIsi, w_dIn, w_dNotIn, w_dONone, w_dOSome, w_dSl, w_dBM, w_dChain, w_dListRg1, w_dIR1, w_dIR2, w_dIA, w_dFor, w_dLc, w_dYes, okR_ok, List.getElem?_cons_zero, List.getElem?_cons_succ, Option.some.injEq, exists_eq_left', exists_eq_left, List.map_cons, List.map_nil, List.length_cons, List.length_nil, List.replicate_succ, List.replicate_zero, List.cons_append, List.nil_append, List.append_nil, List.set_cons_zero, List.set_cons_succ, Vl.d.injEq, Vl.l.injEq, D.int.injEq, D.bl.injEq, D.str.injEq, D.tup.injEq, Nat.sub_self, Nat.reduceSub, Nat.reduceAdd, allD, Option.map_some, wipeR, e_lt, e_le, e_gt, e_ge, e_sub, e_add, e_addS, e_addT, e_mul, e_mulS, e_mod, e_fdiv, e_pow, e_neg, e_eqI, e_neI, e_eqS, e_neS, e_is, e_isNot, e_lenS, e_lenT, e_lenL, e_int, e_abs, e_max, e_min, e_tupT, e_tupL, e_listS, e_listT, e_listL, e_all, e_any, e_str, e_ixT, e_ixS, e_slT, e_slS, e_slL, e_revL, e_revS, e_trB, e_inS, gc_d, e_index, at_0, at_1, at_2, at_3, at_4, at_5]
    refine ⟨trivial, trivial, fun _ => ?_⟩
    rw [e_ixL (lst_at (old_at hm))]
    refine ⟨_, nums_at h1, _, rfl, ?_⟩
    rw [e_ixL (lst_at (old_at hm))]
    refine ⟨_, by rw [show ((i : Int) + 1) = ((i + 1 : Nat) : Int) by omega]; exact nums_at h2, _, rfl, by rw [sizeLine_eq]; omega, ?_⟩
    have := segs_at t pl i pl[i] pl[i + 1] (List.getElem?_eq_getElem h1) (List.getElem?_eq_getElem h2)
    rw [cut_mid]
    simp [List.getD, this]
  · rw [segs_all t pl _ rfl]
    simp only [e_lt, e_le, e_gt, e_ge, e_sub, e_add, e_addS, e_addT, e_mul, e_mulS, e_mod, e_fdiv, e_pow, e_neg, e_eqI, e_neI, e_eqS, e_neS, e_is, e_isNot, e_lenS, e_lenT, e_lenL, e_int, e_abs, e_max, e_min, e_tupT, e_tupL, e_listS, e_listT, e_listL, e_all, e_any, e_str, e_ixT, e_ixS, e_slT, e_slS, e_slL, e_revL, e_revS, e_trB, e_inS, gc_d, e_index, at_0, at_1, at_2, at_3, at_4, at_5]
    refine ⟨_, lst_at new_at, ?_⟩
    have : (S ++ G ++ [Cell.lst (stL (segs t pl))]).take S.length = S := by simp
    rw [this, ← hpl, cut_segs]
    exact q
end L71
end

section
set_option Elab.async false
set_option linter.all false
set_option maxRecDepth 100000
set_option autoImplicit false
set_option maxHeartbeats 1000001
namespace L71
open PySem L2 TL DL
theorem mk_ok : ∀ d ∈ MK, okP 3 d := by
  intro d hd
  simp only [MK, List.mem_cons, List.not_mem_nil, or_false] at hd
  rcases hd with rfl | rfl | rfl | rfl | rfl | rfl
  all_goals simp [okP]
theorem okP_mono : ∀ (n : Nat) (d : D), okP n d → okP (n + 1) d := by
  intro n
  induction n with
  | zero =>
    intro d h
    cases d with
    | tup _ => exact h.elim
    | bl _ => exact h.elim
    | _ => trivial
  | succ n ih =>
    intro d h
    cases d with
    | tup ds => exact ⟨h.1, fun d hd => ih d (h.2 d hd)⟩
    | bl _ => exact h.elim
    | _ => trivial
theorem pieces_ok (ps : List (List Nat)) (h : ps.length ≤ 1000000) : okP 1 (.tup (stL ps)) := ⟨by unfold stL; rw [List.length_map]; exact h, fun d hd => by
  unfold stL at hd
  obtain ⟨p, _, rfl⟩ := List.mem_map.mp hd
  trivial⟩
theorem cutF_len (cs t : List Nat) : (cutF cs t).length ≤ t.length + 1 := by
  unfold cutF
  have := cutR_len cs t
  rw [List.length_append, List.length_singleton]
  omega
section
variable {S : Store} {sg t cs gl : List Nat} {many : Nat} {go : List (List Nat)} {tell : List (List D)} {en : List D} {Q : Vl → Store → Prop}
theorem w_read (M : Mach sg.length many go tell en) (R : Rule many cs gl) (hsg : sg.length ≤ 1000) (hm : 1 ≤ many) (ht : t.length ≤ 400) (hc : ∀ c ∈ t, c ∈ sg) (hcs : cs.length ≤ 1000) (q : Q (.d (.bl true)) S) : okR (m_law_read [.d (enc sg go tell en), .d (ruleD cs gl), .d (.str t)] S) Q := by
  unfold m_law_read
  refine w_runFn rfl ?_
  unfold t_law_read ruleD
  simp only [w_dSeq, w_dSet, w_dExpr, w_dRet, w_dRetN, w_dNext, w_dBrk, w_dCnt, w_dIf, w_dAsg, w_dPar, w_dParN, w_dPut, w_dC, w_dVar, w_dBin, w_dUn, w_dCB, w_dNil, w_dCons, w_dCall, w_dBT, w_dTr, w_dNot, w_dAnd, w_dOr, w_dAndV, w_dOrV, w_dNotV, w_dIfE, w_dTup, w_dLst, w_dIx, w_dIsi, w_dIn, w_dNotIn, w_dONone, w_dOSome, w_dSl, w_dBM, w_dChain, w_dListRg1, w_dIR1, w_dIR2, w_dIA, w_dFor, w_dLc, w_dYes, okR_ok, List.getElem?_cons_zero, List.getElem?_cons_succ, Option.some.injEq, exists_eq_left', exists_eq_left, List.map_cons, List.map_nil, List.length_cons, List.length_nil, List.replicate_succ, List.replicate_zero, List.cons_append, List.nil_append, List.append_nil, List.set_cons_zero, List.set_cons_succ, Vl.d.injEq, Vl.l.injEq, D.int.injEq, D.bl.injEq, D.str.injEq, D.tup.injEq, Nat.sub_self, Nat.reduceSub, Nat.reduceAdd, allD, Option.map_some]
  refine w_cut_text (by omega) ?_
  simp only [w_dSeq, w_dSet, w_dExpr, w_dRet, w_dRetN, w_dNext, w_dBrk, w_dCnt, w_dIf, w_dAsg, w_dPar, w_dParN, w_dPut, w_dC, w_dVar, w_dBin, w_dUn, w_dCB, w_dNil, w_dCons, w_dCall, w_dBT, w_dTr, w_dNot, w_dAnd, w_dOr, w_dAndV, w_dOrV, w_dNotV, w_dIfE, w_dTup, w_dLst, w_dIx, w_dIsi, w_dIn, w_dNotIn, w_dONone, w_dOSome, w_dSl, w_dBM, w_dChain, w_dListRg1, w_dIR1, w_dIR2, w_dIA, w_dFor, w_dLc, w_dYes, okR_ok, List.getElem?_cons_zero, List.getElem?_cons_succ, Option.some.injEq, exists_eq_left', exists_eq_left, List.map_cons, List.map_nil, List.length_cons, List.length_nil, List.replicate_succ, List.replicate_zero, List.cons_append, List.nil_append, List.append_nil, List.set_cons_zero, List.set_cons_succ, Vl.d.injEq, Vl.l.injEq, D.int.injEq, D.bl.injEq, D.str.injEq, D.tup.injEq, Nat.sub_self, Nat.reduceSub, Nat.reduceAdd, allD, Option.map_some, e_lt, e_le, e_gt, e_ge, e_sub, e_add, e_addS, e_addT, e_mul, e_mulS, e_mod, e_fdiv, e_pow, e_neg, e_eqI, e_neI, e_eqS, e_neS, e_is, e_isNot, e_lenS, e_lenT, e_lenL, e_int, e_abs, e_max, e_min, e_tupT, e_tupL, e_listS, e_listT, e_listL, e_all, e_any, e_str, e_ixT, e_ixS, e_slT, e_slS, e_slL, e_revL, e_revS, e_trB, e_inS, gc_d, e_index, at_0, at_1, at_2, at_3, at_4, at_5]
  refine w_pieces (by omega) ?_
  refine w_same 1 _ (pieces_ok _ (by have := cutF_len cs t; omega)) recFuel _ _ (by decide) ?_
  simp only [e_lt, e_le, e_gt, e_ge, e_sub, e_add, e_addS, e_addT, e_mul, e_mulS, e_mod, e_fdiv, e_pow, e_neg, e_eqI, e_neI, e_eqS, e_neS, e_is, e_isNot, e_lenS, e_lenT, e_lenL, e_int, e_abs, e_max, e_min, e_tupT, e_tupL, e_listS, e_listT, e_listL, e_all, e_any, e_str, e_ixT, e_ixS, e_slT, e_slS, e_slL, e_revL, e_revS, e_trB, e_inS, gc_d, e_index, at_0, at_1, at_2, at_3, at_4, at_5, Bool.not_true, Bool.false_eq_true, if_false]
  refine w_read_apart M R hsg hm ht hc hcs ?_
  refine w_apart M R hsg hm (by omega) hc hcs ?_
  rw [ap_is R]
  obtain ⟨a1, a2, a3⟩ := ap_ok M R t hm hc
  rw [ap_is R] at a1 a2 a3
  have hk : okP 5 (.tup [.tup (pcs sg go tell cs gl (0, []) (cutF cs t)).2, en.getD (pcs sg go tell cs gl (0, []) (cutF cs t)).1 .non]) := by
    refine ⟨by simp, fun d hd => ?_⟩
    simp only [List.mem_cons, List.not_mem_nil, or_false] at hd
    rcases hd with rfl | rfl
    · exact ⟨by rw [a2]; omega, fun d hd => mk_ok d (a3 d hd)⟩
    · have hen : (pcs sg go tell cs gl (0, []) (cutF cs t)).1 < en.length := by rw [M.e1]; exact a1
      have ee : en.getD (pcs sg go tell cs gl (0, []) (cutF cs t)).1 .non = en[(pcs sg go tell cs gl (0, []) (cutF cs t)).1] := by simp [List.getD, hen]
      rw [ee]
      exact okP_mono _ _ (mk_ok _ (M.e2 _ (List.getElem_mem hen)))
  refine w_same 5 _ hk recFuel _ _ (by decide) ?_
  simp only [e_lt, e_le, e_gt, e_ge, e_sub, e_add, e_addS, e_addT, e_mul, e_mulS, e_mod, e_fdiv, e_pow, e_neg, e_eqI, e_neI, e_eqS, e_neS, e_is, e_isNot, e_lenS, e_lenT, e_lenL, e_int, e_abs, e_max, e_min, e_tupT, e_tupL, e_listS, e_listT, e_listL, e_all, e_any, e_str, e_ixT, e_ixS, e_slT, e_slS, e_slL, e_revL, e_revS, e_trB, e_inS, gc_d, e_index, at_0, at_1, at_2, at_3, at_4, at_5, List.take_length]
  exact q
/-! refusals -/
def erU : Er := ⟨"Unfit", [("part", .str [116, 101, 120, 116])]⟩
def erL : Er := ⟨"TooLong", [("limit", .int 400)]⟩
def badT (sg : List Nat) : D → Prop
  | .str t => t.length ≤ 1000000 ∧ ∃ c ∈ t, c ∉ sg
  | _ => True
theorem check_bad {d : D} (h : badT sg d) : m_check_text [.d (.str sg), .d d, .d (.int 400)] S = .er erU S := by
  have test : (dOr (dNot (dTr (dIsi ("str") (dVar 1)))) (dNot (dTr (dCall m_is_over ([]) (dCons (dVar 0) (dCons (dVar 1) dNil)))))) [some (.d (.str sg)), some (.d d), some (.d (.int 400))] S = .ok true S := by
    refine eq_of_okR ?_
    cases d with
    | str t =>
      obtain ⟨h1, c, h2, h3⟩ := h
      simp only [w_dSeq, w_dSet, w_dExpr, w_dRet, w_dRetN, w_dNext, w_dBrk, w_dCnt, w_dIf, w_dAsg, w_dPar, w_dParN, w_dPut, w_dC, w_dVar, w_dBin, w_dUn, w_dCB, w_dNil, w_dCons, w_dCall, w_dBT, w_dTr, w_dNot, w_dAnd, w_dOr, w_dAndV, w_dOrV, w_dNotV, w_dIfE, w_dTup, w_dLst, w_dIx, w_dIsi, w_dIn, w_dNotIn, w_dONone, w_dOSome, w_dSl, w_dBM, w_dChain, w_dListRg1, w_dIR1, w_dIR2, w_dIA, w_dFor, w_dLc, w_dYes, okR_ok, List.getElem?_cons_zero, List.getElem?_cons_succ, Option.some.injEq, exists_eq_left', exists_eq_left, List.map_cons, List.map_nil, List.length_cons, List.length_nil, List.replicate_succ, List.replicate_zero, List.cons_append, List.nil_append, List.append_nil, List.set_cons_zero, List.set_cons_succ, Vl.d.injEq, Vl.l.injEq, D.int.injEq, D.bl.injEq, D.str.injEq, D.tup.injEq, Nat.sub_self, Nat.reduceSub, Nat.reduceAdd, allD, Option.map_some, tyN, i1, i2, i3, i4, i5, i6, i7, i8, i9, i10, i11, i12, i13, i14, i15, i16, i17, e_lt, e_le, e_gt, e_ge, e_sub, e_add, e_addS, e_addT, e_mul, e_mulS, e_mod, e_fdiv, e_pow, e_neg, e_eqI, e_neI, e_eqS, e_neS, e_is, e_isNot, e_lenS, e_lenT, e_lenL, e_int, e_abs, e_max, e_min, e_tupT, e_tupL, e_listS, e_listT, e_listL, e_all, e_any, e_str, e_ixT, e_ixS, e_slT, e_slS, e_slL, e_revL, e_revS, e_trB, e_inS, gc_d, e_index, at_0, at_1, at_2, at_3, at_4, at_5, if_false, Bool.false_eq_true, Bool.not_true]
      refine w_is_over h1 ?_
      have e : (t.all fun c => decide (c ∈ sg)) = false := by
        rw [List.all_eq_false]
        exact ⟨c, h2, by simpa using h3⟩
      rw [e]
      simp only [e_lt, e_le, e_gt, e_ge, e_sub, e_add, e_addS, e_addT, e_mul, e_mulS, e_mod, e_fdiv, e_pow, e_neg, e_eqI, e_neI, e_eqS, e_neS, e_is, e_isNot, e_lenS, e_lenT, e_lenL, e_int, e_abs, e_max, e_min, e_tupT, e_tupL, e_listS, e_listT, e_listL, e_all, e_any, e_str, e_ixT, e_ixS, e_slT, e_slS, e_slL, e_revL, e_revS, e_trB, e_inS, gc_d, e_index, at_0, at_1, at_2, at_3, at_4, at_5, Bool.not_false]
      exact ⟨trivial, trivial⟩
    | _ =>
      simp only [w_dSeq, w_dSet, w_dExpr, w_dRet, w_dRetN, w_dNext, w_dBrk, w_dCnt, w_dIf, w_dAsg, w_dPar, w_dParN, w_dPut, w_dC, w_dVar, w_dBin, w_dUn, w_dCB, w_dNil, w_dCons, w_dCall, w_dBT, w_dTr, w_dNot, w_dAnd, w_dOr, w_dAndV, w_dOrV, w_dNotV, w_dIfE, w_dTup, w_dLst, w_dIx, w_dIsi, w_dIn, w_dNotIn, w_dONone, w_dOSome, w_dSl, w_dBM, w_dChain, w_dListRg1, w_dIR1, w_dIR2, w_dIA, w_dFor, w_dLc, w_dYes, okR_ok, List.getElem?_cons_zero, List.getElem?_cons_succ, Option.some.injEq, exists_eq_left', exists_eq_left, List.map_cons, List.map_nil, List.length_cons, List.length_nil, List.replicate_succ, List.replicate_zero, List.cons_append, List.nil_append, List.append_nil, List.set_cons_zero, List.set_cons_succ, Vl.d.injEq, Vl.l.injEq, D.int.injEq, D.bl.injEq, D.str.injEq, D.tup.injEq, Nat.sub_self, Nat.reduceSub, Nat.reduceAdd, allD, Option.map_some, tyN, i1, i2, i3, i4, i5, i6, i7, i8, i9, i10, i11, i12, i13, i14, i15, i16, i17, e_lt, e_le, e_gt, e_ge, e_sub, e_add, e_addS, e_addT, e_mul, e_mulS, e_mod, e_fdiv, e_pow, e_neg, e_eqI, e_neI, e_eqS, e_neS, e_is, e_isNot, e_lenS, e_lenT, e_lenL, e_int, e_abs, e_max, e_min, e_tupT, e_tupL, e_listS, e_listT, e_listL, e_all, e_any, e_str, e_ixT, e_ixS, e_slT, e_slS, e_slL, e_revL, e_revS, e_trB, e_inS, gc_d, e_index, at_0, at_1, at_2, at_3, at_4, at_5, if_true, Bool.not_false]
      exact ⟨trivial, trivial⟩
  unfold m_check_text runFn
  show gcR S.length (match t_check_text [some (.d (.str sg)), some (.d d), some (.d (.int 400))] S with | .nx _ S' => .ok (.d .non) S' | .rt v S' => .ok v S' | .er e _ S' => .er e S' | _ => .bad) = _
  have e : t_check_text [some (.d (.str sg)), some (.d d), some (.d (.int 400))] S = .er erU [some (.d (.str sg)), some (.d d), some (.d (.int 400))] S := by
    unfold t_check_text dSeq dIf
    rw [test]
    rfl
  rw [e]
  show Res.er erU (S.take S.length) = _
  rw [List.take_length]
theorem check_long (ht : 400 < t.length) (ht2 : t.length ≤ 1000000) (hc : ∀ c ∈ t, c ∈ sg) : m_check_text [.d (.str sg), .d (.str t), .d (.int 400)] S = .er erL S := by
  have test : (dOr (dNot (dTr (dIsi ("str") (dVar 1)))) (dNot (dTr (dCall m_is_over ([]) (dCons (dVar 0) (dCons (dVar 1) dNil)))))) [some (.d (.str sg)), some (.d (.str t)), some (.d (.int 400))] S = .ok false S := by
    refine eq_of_okR ?_
    simp only [w_dSeq, w_dSet, w_dExpr, w_dRet, w_dRetN, w_dNext, w_dBrk, w_dCnt, w_dIf, w_dAsg, w_dPar, w_dParN, w_dPut, w_dC, w_dVar, w_dBin, w_dUn, w_dCB, w_dNil, w_dCons, w_dCall, w_dBT, w_dTr, w_dNot, w_dAnd, w_dOr, w_dAndV, w_dOrV, w_dNotV, w_dIfE, w_dTup, w_dLst, w_dIx, w_dIsi, w_dIn, w_dNotIn, w_dONone, w_dOSome, w_dSl, w_dBM, w_dChain, w_dListRg1, w_dIR1, w_dIR2, w_dIA, w_dFor, w_dLc, w_dYes, okR_ok, List.getElem?_cons_zero, List.getElem?_cons_succ, Option.some.injEq, exists_eq_left', exists_eq_left, List.map_cons, List.map_nil, List.length_cons, List.length_nil, List.replicate_succ, List.replicate_zero, List.cons_append, List.nil_append, List.append_nil, List.set_cons_zero, List.set_cons_succ, Vl.d.injEq, Vl.l.injEq, D.int.injEq, D.bl.injEq, D.str.injEq, D.tup.injEq, Nat.sub_self, Nat.reduceSub, Nat.reduceAdd, allD, Option.map_some, tyN, i1, i2, i3, i4, i5, i6, i7, i8, i9, i10, i11, i12, i13, i14, i15, i16, i17, e_lt, e_le, e_gt, e_ge, e_sub, e_add, e_addS, e_addT, e_mul, e_mulS, e_mod, e_fdiv, e_pow, e_neg, e_eqI, e_neI, e_eqS, e_neS, e_is, e_isNot, e_lenS, e_lenT, e_lenL, e_int, e_abs, e_max, e_min, e_tupT, e_tupL, e_listS, e_listT, e_listL, e_all, e_any, e_str, e_ixT, e_ixS, e_slT, e_slS, e_slL, e_revL, e_revS, e_trB, e_inS, gc_d, e_index, at_0, at_1, at_2, at_3, at_4, at_5, if_false, Bool.false_eq_true, Bool.not_true]
    refine w_is_over ht2 ?_
    have e : (t.all fun c => decide (c ∈ sg)) = true := by simpa using hc
    rw [e]
    simp only [e_lt, e_le, e_gt, e_ge, e_sub, e_add, e_addS, e_addT, e_mul, e_mulS, e_mod, e_fdiv, e_pow, e_neg, e_eqI, e_neI, e_eqS, e_neS, e_is, e_isNot, e_lenS, e_lenT, e_lenL, e_int, e_abs, e_max, e_min, e_tupT, e_tupL, e_listS, e_listT, e_listL, e_all, e_any, e_str, e_ixT, e_ixS, e_slT, e_slS, e_slL, e_revL, e_revS, e_trB, e_inS, gc_d, e_index, at_0, at_1, at_2, at_3, at_4, at_5, Bool.not_true]
    exact ⟨trivial, trivial⟩
  have test2 : (dBT (dBin gGt (dCB gLen (dCons (dVar 1) dNil)) (dVar 2))) [some (.d (.str sg)), some (.d (.str t)), some (.d (.int 400))] S = .ok true S := by
    refine eq_of_okR ?_
    simp only [w_dSeq, w_dSet, w_dExpr, w_dRet, w_dRetN, w_dNext, w_dBrk, w_dCnt, w_dIf, w_dAsg, w_dPar, w_dParN, w_dPut, w_dC, w_dVar, w_dBin, w_dUn, w_dCB, w_dNil, w_dCons, w_dCall, w_dBT, w_dTr, w_dNot, w_dAnd, w_dOr, w_dAndV, w_dOrV, w_dNotV, w_dIfE, w_dTup, w_dLst, w_dIx, w_dIsi, w_dIn, w_dNotIn, w_dONone, w_dOSome, w_dSl, w_dBM, w_dChain, w_dListRg1, w_dIR1, w_dIR2, w_dIA, w_dFor, w_dLc, w_dYes, okR_ok, List.getElem?_cons_zero, List.getElem?_cons_succ, Option.some.injEq, exists_eq_left', exists_eq_left, List.map_cons, List.map_nil, List.length_cons, List.length_nil, List.replicate_succ, List.replicate_zero, List.cons_append, List.nil_append, List.append_nil, List.set_cons_zero, List.set_cons_succ, Vl.d.injEq, Vl.l.injEq, D.int.injEq, D.bl.injEq, D.str.injEq, D.tup.injEq, Nat.sub_self, Nat.reduceSub, Nat.reduceAdd, allD, Option.map_some, e_lt, e_le, e_gt, e_ge, e_sub, e_add, e_addS, e_addT, e_mul, e_mulS, e_mod, e_fdiv, e_pow, e_neg, e_eqI, e_neI, e_eqS, e_neS, e_is, e_isNot, e_lenS, e_lenT, e_lenL, e_int, e_abs, e_max, e_min, e_tupT, e_tupL, e_listS, e_listT, e_listL, e_all, e_any, e_str, e_ixT, e_ixS, e_slT, e_slS, e_slL, e_revL, e_revS, e_trB, e_inS, gc_d, e_index, at_0, at_1, at_2, at_3, at_4, at_5]
    exact ⟨by rw [sizeLine_eq]; omega, by simp; omega, trivial⟩
  unfold m_check_text runFn
  show gcR S.length (match t_check_text [some (.d (.str sg)), some (.d (.str t)), some (.d (.int 400))] S with | .nx _ S' => .ok (.d .non) S' | .rt v S' => .ok v S' | .er e _ S' => .er e S' | _ => .bad) = _
  have e : t_check_text [some (.d (.str sg)), some (.d (.str t)), some (.d (.int 400))] S = .er erL [some (.d (.str sg)), some (.d (.str t)), some (.d (.int 400))] S := by
    unfold t_check_text dSeq dIf
    rw [test]
    show (bindS (dBT (dBin gGt (dCB gLen (dCons (dVar 1) dNil)) (dVar 2)) [some (.d (.str sg)), some (.d (.str t)), some (.d (.int 400))] S) _ _) = _
    rw [test2]
    rfl
  rw [e]
  show Res.er erL (S.take S.length) = _
  rw [List.take_length]
theorem read_er {e : Er} {rd d : D} (h : m_check_text [.d (.str sg), .d d, .d (.int 400)] S = .er e S) : m_read_apart [.d (enc sg go tell en), .d rd, .d d] S = .er e S := by
  unfold m_read_apart runFn
  show gcR S.length (match t_read_apart [some (.d (enc sg go tell en)), some (.d rd), some (.d d), none, none, none, none] S with | .nx _ S' => .ok (.d .non) S' | .rt v S' => .ok v S' | .er e _ S' => .er e S' | _ => .bad) = _
  have args : (dCons (dIx (dVar 0) (dC (.int 0))) (dCons (dVar 2) dNil)) [some (.d (enc sg go tell en)), some (.d rd), some (.d d), none, none, none, none] S = .ok [.d (.str sg), .d d] S := by
    refine eq_of_okR ?_
    unfold enc
    simp only [w_dSeq, w_dSet, w_dExpr, w_dRet, w_dRetN, w_dNext, w_dBrk, w_dCnt, w_dIf, w_dAsg, w_dPar, w_dParN, w_dPut, w_dC, w_dVar, w_dBin, w_dUn, w_dCB, w_dNil, w_dCons, w_dCall, w_dBT, w_dTr, w_dNot, w_dAnd, w_dOr, w_dAndV, w_dOrV, w_dNotV, w_dIfE, w_dTup, w_dLst, w_dIx, w_dIsi, w_dIn, w_dNotIn, w_dONone, w_dOSome, w_dSl, w_dBM, w_dChain, w_dListRg1, w_dIR1, w_dIR2, w_dIA, w_dFor, w_dLc, w_dYes, okR_ok, List.getElem?_cons_zero, List.getElem?_cons_succ, Option.some.injEq, exists_eq_left', exists_eq_left, List.map_cons, List.map_nil, List.length_cons, List.length_nil, List.replicate_succ, List.replicate_zero, List.cons_append, List.nil_append, List.append_nil, List.set_cons_zero, List.set_cons_succ, Vl.d.injEq, Vl.l.injEq, D.int.injEq, D.bl.injEq, D.str.injEq, D.tup.injEq, Nat.sub_self, Nat.reduceSub, Nat.reduceAdd, allD, Option.map_some, e_lt, e_le, e_gt, e_ge, e_sub, e_add, e_addS, e_addT, e_mul, e_mulS, e_mod, e_fdiv, e_pow, e_neg, e_eqI, e_neI, e_eqS, e_neS, e_is, e_isNot, e_lenS, e_lenT, e_lenL, e_int, e_abs, e_max, e_min, e_tupT, e_tupL, e_listS, e_listT, e_listL, e_all, e_any, e_str, e_ixT, e_ixS, e_slT, e_slS, e_slL, e_revL, e_revS, e_trB, e_inS, gc_d, e_index, at_0, at_1, at_2, at_3, at_4, at_5]
    exact ⟨trivial, trivial⟩
  have e' : t_read_apart [some (.d (enc sg go tell en)), some (.d rd), some (.d d), none, none, none, none] S = .er e [some (.d (enc sg go tell en)), some (.d rd), some (.d d), none, none, none, none] S := by
    unfold t_read_apart dSeq dExpr dCall
    rw [args]
    show (match bindS (m_check_text [.d (.str sg), .d d, .d (.int 400)] S) _ _ with | .nx ρ' S' => _ | o => o) = _
    rw [h]
    rfl
  rw [e']
  show Res.er e (S.take S.length) = _
  rw [List.take_length]
theorem w_error {e : Er} {rd d y : D} (h : m_check_text [.d (.str sg), .d d, .d (.int 400)] S = .er e S) (hf : e.fs.isEmpty = false) (hs : sx_law_error e = some y) (q : Q (.d y) S) : okR (m_law_error [.d (enc sg go tell en), .d rd, .d d] S) Q := by
  unfold m_law_error
  refine w_runFn rfl ?_
  show okO (t_law_error [some (.d (enc sg go tell en)), some (.d rd), some (.d d), none] S) _
  have args : (dCons (dVar 0) (dCons (dVar 1) (dCons (dVar 2) dNil))) [some (.d (enc sg go tell en)), some (.d rd), some (.d d), none] S = .ok [.d (enc sg go tell en), .d rd, .d d] S := by
    refine eq_of_okR ?_
    simp only [w_dSeq, w_dSet, w_dExpr, w_dRet, w_dRetN, w_dNext, w_dBrk, w_dCnt, w_dIf, w_dAsg, w_dPar, w_dParN, w_dPut, w_dC, w_dVar, w_dBin, w_dUn, w_dCB, w_dNil, w_dCons, w_dCall, w_dBT, w_dTr, w_dNot, w_dAnd, w_dOr, w_dAndV, w_dOrV, w_dNotV, w_dIfE, w_dTup, w_dLst, w_dIx, w_dIsi, w_dIn, w_dNotIn, w_dONone, w_dOSome, w_dSl, w_dBM, w_dChain, w_dListRg1, w_dIR1, w_dIR2, w_dIA, w_dFor, w_dLc, w_dYes, okR_ok, List.getElem?_cons_zero, List.getElem?_cons_succ, Option.some.injEq, exists_eq_left', exists_eq_left, List.map_cons, List.map_nil, List.length_cons, List.length_nil, List.replicate_succ, List.replicate_zero, List.cons_append, List.nil_append, List.append_nil, List.set_cons_zero, List.set_cons_succ, Vl.d.injEq, Vl.l.injEq, D.int.injEq, D.bl.injEq, D.str.injEq, D.tup.injEq, Nat.sub_self, Nat.reduceSub, Nat.reduceAdd, allD, Option.map_some, e_lt, e_le, e_gt, e_ge, e_sub, e_add, e_addS, e_addT, e_mul, e_mulS, e_mod, e_fdiv, e_pow, e_neg, e_eqI, e_neI, e_eqS, e_neS, e_is, e_isNot, e_lenS, e_lenT, e_lenL, e_int, e_abs, e_max, e_min, e_tupT, e_tupL, e_listS, e_listT, e_listL, e_all, e_any, e_str, e_ixT, e_ixS, e_slT, e_slS, e_slL, e_revL, e_revS, e_trB, e_inS, gc_d, e_index, at_0, at_1, at_2, at_3, at_4, at_5]
    exact ⟨trivial, trivial⟩
  have e1 : (dExpr (dCall m_read_apart ([]) (dCons (dVar 0) (dCons (dVar 1) (dCons (dVar 2) dNil))))) [some (.d (enc sg go tell en)), some (.d rd), some (.d d), none] S = .er e [some (.d (enc sg go tell en)), some (.d rd), some (.d d), none] S := by
    unfold dExpr dCall
    rw [args]
    show bindS (m_read_apart [.d (enc sg go tell en), .d rd, .d d] S) _ _ = _
    rw [read_er h]
    rfl
  have e2 : t_law_error [some (.d (enc sg go tell en)), some (.d rd), some (.d d), none] S = .rt (.d y) S := by
    unfold t_law_error dSeq DX.dTryX
    rw [e1]
    simp only [hf, hs]
    rfl
  rw [e2, okO_is]
  show okR (gcR S.length (.ok (.d y) S)) Q
  simp only [e_lt, e_le, e_gt, e_ge, e_sub, e_add, e_addS, e_addT, e_mul, e_mulS, e_mod, e_fdiv, e_pow, e_neg, e_eqI, e_neI, e_eqS, e_neS, e_is, e_isNot, e_lenS, e_lenT, e_lenL, e_int, e_abs, e_max, e_min, e_tupT, e_tupL, e_listS, e_listT, e_listL, e_all, e_any, e_str, e_ixT, e_ixS, e_slT, e_slS, e_slL, e_revL, e_revS, e_trB, e_inS, gc_d, e_index, at_0, at_1, at_2, at_3, at_4, at_5, List.take_length]
  exact q
theorem sx_U : sx_law_error erU = some (.tup [.str [117, 110, 102, 105, 116], .str [116, 101, 120, 116]]) := by
  unfold sx_law_error erU
  rw [if_neg (by decide), if_pos rfl]
  rfl
theorem sx_L : sx_law_error erL = some (.tup [.str [108, 111, 110, 103], .int 400]) := by
  unfold sx_law_error erL
  rw [if_pos rfl]
  rfl
end
end L71
end

section
set_option Elab.async false
set_option linter.all false
set_option maxRecDepth 100000
set_option autoImplicit false
set_option maxHeartbeats 1000001
namespace L71
open PySem L2 TL DL
theorem nodup_len : ∀ (l m : List Nat), l.Nodup → (∀ c ∈ l, c ∈ m) → l.length ≤ m.length
  | [], m, _, _ => Nat.zero_le _
  | a :: l, m, h, hs => by
    have ha := hs a List.mem_cons_self
    have h' := List.nodup_cons.mp h
    have := nodup_len l (m.erase a) h'.2 fun c hc => by
      have hne : c ≠ a := fun e => h'.1 (by rw [← e]; exact hc)
      exact (List.mem_erase_of_ne hne).mpr (hs c (List.mem_cons_of_mem _ hc))
    rw [List.length_erase_of_mem ha] at this
    have : 1 ≤ m.length := List.length_pos_of_mem ha
    simp
    omega
def NL : List Nat := [97, 98, 99, 100, 101, 102, 103, 104, 105]
theorem w_spare {S : Store} {sg : List Nat} {Q : Vl → Store → Prop} (hs : sg.length ≤ 8) (q : ∀ c, c ∉ sg → Q (.d (.str [c])) S) : okR (m_law_spare [.d (.str sg)] S) Q := by
  have hex : ∃ c ∈ NL, c ∉ sg := by
    by_cases h : ∀ c ∈ NL, c ∈ sg
    · have := nodup_len NL sg (by decide) h
      have e : NL.length = 9 := rfl
      omega
    · obtain ⟨c, h⟩ := Classical.not_forall.mp h
      obtain ⟨h1, h2⟩ := Classical.not_imp.mp h
      exact ⟨c, h1, h2⟩
  unfold m_law_spare
  refine w_runFn rfl ?_
  unfold t_law_spare
  simp only [w_dSeq, w_dSet, w_dExpr, w_dRet, w_dRetN, w_dNext, w_dBrk, w_dCnt, w_dIf, w_dAsg, w_dPar, w_dParN, w_dPut, w_dC, w_dVar, w_dBin, w_dUn, w_dCB, w_dNil, w_dCons, w_dCall, w_dBT, w_dTr, w_dNot, w_dAnd, w_dOr, w_dAndV, w_dOrV, w_dNotV, w_dIfE, w_dTup, w_dLst, w_dIx, w_dIsi, w_dIn, w_dNotIn, w_dONone, w_dOSome, w_dSl, w_dBM, w_dChain, w_dListRg1, w_dIR1, w_dIR2, w_dIA, w_dFor, w_dLc, w_dYes, okR_ok, List.getElem?_cons_zero, List.getElem?_cons_succ, Option.some.injEq, exists_eq_left', exists_eq_left, List.map_cons, List.map_nil, List.length_cons, List.length_nil, List.replicate_succ, List.replicate_zero, List.cons_append, List.nil_append, List.append_nil, List.set_cons_zero, List.set_cons_succ, Vl.d.injEq, Vl.l.injEq, D.int.injEq, D.bl.injEq, D.str.injEq, D.tup.injEq, Nat.sub_self, Nat.reduceSub, Nat.reduceAdd, allD, Option.map_some, iaQ_s, lcQ_seq]
  refine pure_lc (fun x => match x with | .d (.str [c]) => !decide (c ∈ sg) | _ => false) (fun x => match x with | .d d => d | _ => .non) (by decide) ?_ ?_
  · rintro i x acc hx
    have hx : (NL.map fun c => Vl.d (.str [c]))[i]? = some x := hx
    obtain ⟨c, hc1, rfl, hi, et⟩ := str_at hx
    refine ⟨_, rfl, ?_⟩
    simp only [w_dSeq, w_dSet, w_dExpr, w_dRet, w_dRetN, w_dNext, w_dBrk, w_dCnt, w_dIf, w_dAsg, w_dPar, w_dParN, w_dPut, w_dC, w_dVar, w_dBin, w_dUn, w_dCB, w_dNil, w_dCons, w_dCall, w_dBT, w_dTr, w_dNot, w_dAnd, w_dOr, w_dAndV, w_dOrV, w_dNotV, w_dIfE, w_dTup, w_dLst, w_dIx, w_dIsi, w_dIn, w_dNotIn, w_dONone, w_dOSome, w_dSl, w_dBM, w_dChain, w_dListRg1, w_dIR1, w_dIR2, w_dIA, w_dFor, w_dLc, w_dYes, okR_ok, List.getElem?_cons_zero, List.getElem?_cons_succ, Option.some.injEq, exists_eq_left', exists_eq_left, List.map_cons, List.map_nil, List.length_cons, List.length_nil, List.replicate_succ, List.replicate_zero, List.cons_append, List.nil_append, List.append_nil, List.set_cons_zero, List.set_cons_succ, Vl.d.injEq, Vl.l.injEq, D.int.injEq, D.bl.injEq, D.str.injEq, D.tup.injEq, Nat.sub_self, Nat.reduceSub, Nat.reduceAdd, allD, Option.map_some, wipeR, e_lt, e_le, e_gt, e_ge, e_sub, e_add, e_addS, e_addT, e_mul, e_mulS, e_mod, e_fdiv, e_pow, e_neg, e_eqI, e_neI, e_eqS, e_neS, e_is, e_isNot, e_lenS, e_lenT, e_lenL, e_int, e_abs, e_max, e_min, e_tupT, e_tupL, e_listS, e_listT, e_listL, e_all, e_any, e_str, e_ixT, e_ixS, e_slT, e_slS, e_slL, e_revL, e_revS, e_trB, e_inS, gc_d, e_index, at_0, at_1, at_2, at_3, at_4, at_5]
    exact ⟨trivial, trivial, fun _ => ⟨trivial, trivial⟩⟩
  · have e : ∀ l : List Nat, ((l.map fun c => Vl.d (.str [c])).filter (fun x => match x with | .d (.str [c]) => !decide (c ∈ sg) | _ => false)).map (fun x => match x with | .d d => d | _ => .non) = chars (l.filter fun c => !decide (c ∈ sg)) := by
      intro l
      induction l with
      | nil => rfl
      | cons a l ih =>
        rw [List.map_cons]
        by_cases h : a ∈ sg
        · rw [List.filter_cons_of_neg (by simpa using h), List.filter_cons_of_neg (by simpa using h), ih]
        · rw [List.filter_cons_of_pos (by simpa using h), List.filter_cons_of_pos (by simpa using h), List.map_cons, ih]; rfl
    have e' := e NL
    rw [show ([Vl.d (.str [97]), Vl.d (.str [98]), Vl.d (.str [99]), Vl.d (.str [100]), Vl.d (.str [101]), Vl.d (.str [102]), Vl.d (.str [103]), Vl.d (.str [104]), Vl.d (.str [105])] : List Vl) = NL.map fun c => Vl.d (.str [c]) from rfl, e']
    rw [e_ixL (lst_at new_at)]
    obtain ⟨c, h1, h2⟩ := hex
    have hm : c ∈ NL.filter fun c => !decide (c ∈ sg) := List.mem_filter.mpr ⟨h1, by simpa using h2⟩
    cases eF : NL.filter fun c => !decide (c ∈ sg) with
    | nil => rw [eF] at hm; cases hm
    | cons a l =>
      have ha : a ∉ sg := by
        have : a ∈ NL.filter fun c => !decide (c ∈ sg) := by rw [eF]; exact List.mem_cons_self
        simpa using (List.mem_filter.mp this).2
      refine ⟨.str [a], by rw [at_0]; rfl, ?_⟩
      simp only [e_lt, e_le, e_gt, e_ge, e_sub, e_add, e_addS, e_addT, e_mul, e_mulS, e_mod, e_fdiv, e_pow, e_neg, e_eqI, e_neI, e_eqS, e_neS, e_is, e_isNot, e_lenS, e_lenT, e_lenL, e_int, e_abs, e_max, e_min, e_tupT, e_tupL, e_listS, e_listT, e_listL, e_all, e_any, e_str, e_ixT, e_ixS, e_slT, e_slS, e_slL, e_revL, e_revS, e_trB, e_inS, gc_d, e_index, at_0, at_1, at_2, at_3, at_4, at_5, take_new]
      exact q a ha
theorem rep_mem {s : List Nat} {k c : Nat} (h : c ∈ rep s k) : c ∈ s := by
  unfold rep at h
  obtain ⟨l, h1, h2⟩ := List.mem_flatten.mp h
  rw [List.mem_replicate] at h1
  rw [h1.2] at h2
  exact h2
theorem w_any_text {S : Store} {n : Nat} {ds : List D} {sg : List Nat} {Q : Vl → Store → Prop} (h : S[n]? = some (.lst ds)) (hp : Pool ds) (hs : sg.length ≤ 20) (hs0 : sg ≠ [])
    (q : ∀ (t : List Nat) (ds' : List D), Pool ds' → (∀ c ∈ t, c ∈ sg) → t.length ≤ 400 → Q (.d (.str t)) (S.set n (.lst ds'))) : okR (m_law_any_text [.l n, .d (.str sg)] S) Q := by
  have hn := lt_of_at h
  unfold m_law_any_text
  refine w_runFn rfl ?_
  unfold t_law_any_text
  simp only [w_dSeq, w_dSet, w_dExpr, w_dRet, w_dRetN, w_dNext, w_dBrk, w_dCnt, w_dIf, w_dAsg, w_dPar, w_dParN, w_dPut, w_dC, w_dVar, w_dBin, w_dUn, w_dCB, w_dNil, w_dCons, w_dCall, w_dBT, w_dTr, w_dNot, w_dAnd, w_dOr, w_dAndV, w_dOrV, w_dNotV, w_dIfE, w_dTup, w_dLst, w_dIx, w_dIsi, w_dIn, w_dNotIn, w_dONone, w_dOSome, w_dSl, w_dBM, w_dChain, w_dListRg1, w_dIR1, w_dIR2, w_dIA, w_dFor, w_dLc, w_dYes, okR_ok, List.getElem?_cons_zero, List.getElem?_cons_succ, Option.some.injEq, exists_eq_left', exists_eq_left, List.map_cons, List.map_nil, List.length_cons, List.length_nil, List.replicate_succ, List.replicate_zero, List.cons_append, List.nil_append, List.append_nil, List.set_cons_zero, List.set_cons_succ, Vl.d.injEq, Vl.l.injEq, D.int.injEq, D.bl.injEq, D.str.injEq, D.tup.injEq, Nat.sub_self, Nat.reduceSub, Nat.reduceAdd, allD, Option.map_some]
  refine w_text (most := 14) h hp (by omega) hs0 (by omega) fun t ds1 hp1 ht hl => ?_
  refine w_take (mem_at hn) hp1 fun k ds2 hp2 k0 k1 => ?_
  rw [List.set_set]
  simp only [e_lt, e_le, e_gt, e_ge, e_sub, e_add, e_addS, e_addT, e_mul, e_mulS, e_mod, e_fdiv, e_pow, e_neg, e_eqI, e_neI, e_eqS, e_neS, e_is, e_isNot, e_lenS, e_lenT, e_lenL, e_int, e_abs, e_max, e_min, e_tupT, e_tupL, e_listS, e_listT, e_listL, e_all, e_any, e_str, e_ixT, e_ixS, e_slT, e_slS, e_slL, e_revL, e_revS, e_trB, e_inS, gc_d, e_index, at_0, at_1, at_2, at_3, at_4, at_5, w_dSeq, w_dSet, w_dExpr, w_dRet, w_dRetN, w_dNext, w_dBrk, w_dCnt, w_dIf, w_dAsg, w_dPar, w_dParN, w_dPut, w_dC, w_dVar, w_dBin, w_dUn, w_dCB, w_dNil, w_dCons, w_dCall, w_dBT, w_dTr, w_dNot, w_dAnd, w_dOr, w_dAndV, w_dOrV, w_dNotV, w_dIfE, w_dTup, w_dLst, w_dIx, w_dIsi, w_dIn, w_dNotIn, w_dONone, w_dOSome, w_dSl, w_dBM, w_dChain, w_dListRg1, w_dIR1, w_dIR2, w_dIA, w_dFor, w_dLc, w_dYes, okR_ok, List.getElem?_cons_zero, List.getElem?_cons_succ, Option.some.injEq, exists_eq_left', exists_eq_left, List.map_cons, List.map_nil, List.length_cons, List.length_nil, List.replicate_succ, List.replicate_zero, List.cons_append, List.nil_append, List.append_nil, List.set_cons_zero, List.set_cons_succ, Vl.d.injEq, Vl.l.injEq, D.int.injEq, D.bl.injEq, D.str.injEq, D.tup.injEq, Nat.sub_self, Nat.reduceSub, Nat.reduceAdd, allD, Option.map_some]
  have hrl : (rep (t ++ sg) (400 : Int).toNat).length ≤ 16777216 := by
    unfold rep
    have e : ∀ k : Nat, (List.replicate k (t ++ sg)).flatten.length = k * (t ++ sg).length := fun k => by
      induction k with
      | zero => simp
      | succ k ih => rw [List.replicate_succ, List.flatten_cons, List.length_append, ih, Nat.succ_mul]; omega
    rw [e, List.length_append]
    have : (400 : Int).toNat = 400 := rfl
    rw [this]
    omega
  split
  · refine ⟨by rw [sizeLine_eq]; omega, ?_, ?_⟩
    · have : (400 : Int).toNat = 400 := rfl
      rw [this]
      simp only [Bool.and_eq_true, decide_eq_true_eq, List.length_append, sizeLine_eq]
      omega
    refine w_take (mem_at hn) hp2 fun j ds3 hp3 j0 j1 => ?_
    rw [List.set_set]
    obtain ⟨m, rfl⟩ : ∃ m : Nat, j = m := ⟨j.toNat, by omega⟩
    simp only [e_lt, e_le, e_gt, e_ge, e_sub, e_add, e_addS, e_addT, e_mul, e_mulS, e_mod, e_fdiv, e_pow, e_neg, e_eqI, e_neI, e_eqS, e_neS, e_is, e_isNot, e_lenS, e_lenT, e_lenL, e_int, e_abs, e_max, e_min, e_tupT, e_tupL, e_listS, e_listT, e_listL, e_all, e_any, e_str, e_ixT, e_ixS, e_slT, e_slS, e_slL, e_revL, e_revS, e_trB, e_inS, gc_d, e_index, at_0, at_1, at_2, at_3, at_4, at_5, w_dSeq, w_dSet, w_dExpr, w_dRet, w_dRetN, w_dNext, w_dBrk, w_dCnt, w_dIf, w_dAsg, w_dPar, w_dParN, w_dPut, w_dC, w_dVar, w_dBin, w_dUn, w_dCB, w_dNil, w_dCons, w_dCall, w_dBT, w_dTr, w_dNot, w_dAnd, w_dOr, w_dAndV, w_dOrV, w_dNotV, w_dIfE, w_dTup, w_dLst, w_dIx, w_dIsi, w_dIn, w_dNotIn, w_dONone, w_dOSome, w_dSl, w_dBM, w_dChain, w_dListRg1, w_dIR1, w_dIR2, w_dIA, w_dFor, w_dLc, w_dYes, okR_ok, List.getElem?_cons_zero, List.getElem?_cons_succ, Option.some.injEq, exists_eq_left', exists_eq_left, List.map_cons, List.map_nil, List.length_cons, List.length_nil, List.replicate_succ, List.replicate_zero, List.cons_append, List.nil_append, List.append_nil, List.set_cons_zero, List.set_cons_succ, Vl.d.injEq, Vl.l.injEq, D.int.injEq, D.bl.injEq, D.str.injEq, D.tup.injEq, Nat.sub_self, Nat.reduceSub, Nat.reduceAdd, allD, Option.map_some]
    refine ⟨by rw [sizeLine_eq]; exact hrl, ?_⟩
    rw [show (390 + (m : Int)) = ((390 + m : Nat) : Int) by omega, cut_to]
    have := q ((rep (t ++ sg) (400 : Int).toNat).take (390 + m)) ds3 hp3 (fun c hc => by
      rcases List.mem_append.mp (rep_mem (List.mem_of_mem_take hc)) with h | h
      · exact ht c h
      · exact h) (by rw [List.length_take]; omega)
    rwa [take_set]
  · have := q t ds2 hp2 ht (by omega)
    rwa [take_set]
end L71
end

section
set_option Elab.async false
set_option linter.all false
set_option maxRecDepth 100000
set_option autoImplicit false
set_option maxHeartbeats 2000001
namespace L71
open PySem L2 TL DL
/-! ### what is no rule -/
theorem lot_sub {sg t : List Nat} (h : lotD sg (.str t) = true) : ∀ c ∈ t, c ∈ sg := by
  have e : sg.filter (fun c => decide (c ∈ t)) = t := eq_of_beq h
  intro c hc
  rw [← e] at hc
  exact (List.mem_filter.mp hc).1
theorem lot_nodup {sg t : List Nat} (hn : sg.Nodup) (h : lotD sg (.str t) = true) : t.Nodup := by
  have e : sg.filter (fun c => decide (c ∈ t)) = t := eq_of_beq h
  rw [← e]
  exact List.Nodup.sublist List.filter_sublist hn
theorem filter_sub : ∀ (cs sg : List Nat), sg.Nodup → cs.Sublist sg → sg.filter (fun c => decide (c ∈ cs)) = cs
  | cs, [], _, h => by
    have : cs = [] := List.sublist_nil.mp h
    subst this; rfl
  | cs, a :: sg, hn, h => by
    have hn' := List.nodup_cons.mp hn
    cases h with
    | cons _ h =>
      have hna : a ∉ cs := fun hc => hn'.1 (h.subset hc)
      rw [List.filter_cons_of_neg (by simpa using hna)]
      exact filter_sub cs sg hn'.2 h
    | cons_cons _ h =>
      rename_i l
      rw [List.filter_cons_of_pos (by simp)]
      congr 1
      refine Eq.trans (List.filter_congr fun c hc => ?_) (filter_sub l sg hn'.2 h)
      have hne : c ≠ a := fun e => hn'.1 (by rw [← e]; exact hc)
      simp [hne]
theorem not_true {b : Bool} (h : b = true → False) : b = false := by
  cases b with
  | false => rfl
  | true => exact (h rfl).elim
theorem lot_cons {sg cs : List Nat} {c : Nat} (hsn : sg.Nodup) (hc : c ∈ cs) : lotD sg (.str (c :: cs)) = false :=
  not_true fun h => (List.nodup_cons.mp (lot_nodup hsn h)).1 hc
theorem lot_snoc {sg cs : List Nat} {c : Nat} (hsn : sg.Nodup) (hc : c ∈ cs) : lotD sg (.str (cs ++ [c])) = false :=
  not_true fun h => (List.nodup_append.mp (lot_nodup hsn h)).2.2 c hc c (by simp) rfl
theorem lot_rev {sg cs : List Nat} (hsn : sg.Nodup) (hcs : cs.Sublist sg) (h2 : 1 < cs.length) : lotD sg (.str cs.reverse) = false := by
  refine not_true fun h => ?_
  have e : sg.filter (fun c => decide (c ∈ cs.reverse)) = cs.reverse := eq_of_beq h
  have e2 : sg.filter (fun c => decide (c ∈ cs)) = cs.reverse := by
    rw [← e]; exact List.filter_congr fun c _ => by simp
  rw [filter_sub cs sg hsn hcs] at e2
  have hcn := hcs.nodup hsn
  match cs, hcn, h2, e2 with
  | x :: y :: l, hcn, h2, e2 =>
    rw [List.reverse_cons] at e2
    have h1 := congrArg List.getLast? e2
    rw [List.getLast?_append, List.getLast?_singleton, Option.some_or, List.getLast?_cons_cons] at h1
    have := List.mem_of_getLast? h1
    exact (List.nodup_cons.mp hcn).1 this
def badR (sg : List Nat) (many : Int) (d : D) : Prop := cutD sg many d = false ∧ ∀ a b, d = .tup [a, b] → lenD a ≤ 1000000 ∧ lenD b ≤ 1000000
theorem badR_lot {sg : List Nat} {many : Int} {a b : D} (h : lotD sg a = false) (ha : lenD a ≤ 1000000) (hb : lenD b ≤ 1000000) : badR sg many (.tup [a, b]) := ⟨by show (lotD sg a && numsD many b && (lenD b == lenD a)) = false; rw [h]; rfl, fun a' b' e => by cases e; exact ⟨ha, hb⟩⟩
theorem badR_num {sg : List Nat} {many : Int} {a b : D} (h : numsD many b = false) (ha : lenD a ≤ 1000000) (hb : lenD b ≤ 1000000) : badR sg many (.tup [a, b]) := ⟨by show (lotD sg a && numsD many b && (lenD b == lenD a)) = false; rw [h]; simp, fun a' b' e => by cases e; exact ⟨ha, hb⟩⟩
theorem badR_len {sg : List Nat} {many : Int} {a b : D} (h : lenD b ≠ lenD a) (ha : lenD a ≤ 1000000) (hb : lenD b ≤ 1000000) : badR sg many (.tup [a, b]) := ⟨by
  show (lotD sg a && numsD many b && (lenD b == lenD a)) = false
  have e : (lenD b == lenD a) = false := by simpa using h
  rw [e]; simp, fun a' b' e => by cases e; exact ⟨ha, hb⟩⟩
theorem rep_len (s : List Nat) (k : Nat) : (rep s k).length = k * s.length := by
  unfold rep
  induction k with
  | zero => simp
  | succ k ih => rw [List.replicate_succ, List.flatten_cons, List.length_append, ih, Nat.succ_mul]; omega
theorem badR_nums {sg : List Nat} {many : Int} (gl : List Nat) : badR sg many (.tup (nums gl)) := by
  match gl with
  | [] => exact ⟨rfl, fun a b e => by cases e⟩
  | [_] => exact ⟨rfl, fun a b e => by cases e⟩
  | [_, _] => exact ⟨rfl, fun a b e => by cases e; exact ⟨by show (0 : Int) ≤ _; decide, by show (0 : Int) ≤ _; decide⟩⟩
  | _ :: _ :: _ :: _ => exact ⟨rfl, fun a b e => by cases e⟩
def nest : Nat → D
  | 0 => .tup []
  | n + 1 => .tup [nest n]
theorem w_no_rules {S : Store} {n many : Nat} {ds : List D} {sg cs gl : List Nat} {go : List (List Nat)} {tell : List (List D)} {en : List D} {Q : Vl → Store → Prop} (h : S[n]? = some (.lst ds)) (hp : Pool ds) (M : Mach sg.length many go tell en) (R : Rule many cs gl)
    (hs : sg.length ≤ 8) (hsn : sg.Nodup) (hcs : cs.Sublist sg) (m1 : 1 ≤ many) (m2 : many ≤ 200)
    (q : ∀ (ws ds' : List D), Pool ds' → ws.length ≤ 100 → (∀ w ∈ ws, badR sg many w) → Q (.l S.length) (S.set n (.lst ds') ++ [.lst ws])) : okR (m_law_no_rules [.l n, .d (enc sg go tell en), .d (ruleD cs gl)] S) Q := by
  have hn := lt_of_at h
  have hcl := hcs.length_le
  have hgl : gl.length ≤ 8 := by rw [R.l]; omega
  unfold m_law_no_rules
  refine w_runFn rfl ?_
  unfold t_law_no_rules
  refine seq_cut (fun ρ' S' => ρ' = [some (.l n), some (.d (enc sg go tell en)), some (.d (ruleD cs gl)), some (.d (.str cs)), some (.d (.tup (nums gl))), none, none, none, none, none, none, none, none] ∧ S' = S) ?_ fun ρ2 S2 ⟨e1, e2⟩ => ?_
  · simp only [w_dSeq, w_dSet, w_dExpr, w_dRet, w_dRetN, w_dNext, w_dBrk, w_dCnt, w_dIf, w_dAsg, w_dPar, w_dParN, w_dPut, w_dC, w_dVar, w_dBin, w_dUn, w_dCB, w_dNil, w_dCons, w_dCall, w_dBT, w_dTr, w_dNot, w_dAnd, w_dOr, w_dAndV, w_dOrV, w_dNotV, w_dIfE, w_dTup, w_dLst, w_dIx, w_dIsi, w_dIn, w_dNotIn, w_dONone, w_dOSome, w_dSl, w_dBM, w_dChain, w_dListRg1, w_dIR1, w_dIR2, w_dIA, w_dFor, w_dLc, w_dYes, okR_ok, List.getElem?_cons_zero, List.getElem?_cons_succ, Option.some.injEq, exists_eq_left', exists_eq_left, List.map_cons, List.map_nil, List.length_cons, List.length_nil, List.replicate_succ, List.replicate_zero, List.cons_append, List.nil_append, List.append_nil, List.set_cons_zero, List.set_cons_succ, Vl.d.injEq, Vl.l.injEq, D.int.injEq, D.bl.injEq, D.str.injEq, D.tup.injEq, Nat.sub_self, Nat.reduceSub, Nat.reduceAdd, allD, Option.map_some]
    exact ⟨_, rfl, rfl, trivial⟩
  subst e1 e2
  refine seq_cut (fun ρ' S' => ρ' = [some (.l n), some (.d (enc sg go tell en)), some (.d (ruleD cs gl)), some (.d (.str cs)), some (.d (.tup (nums gl))), some (.d (.int many)), none, none, none, none, none, none, none] ∧ S' = S2) ?_ fun ρ2 S2 ⟨e1, e2⟩ => ?_
  · unfold enc
    simp only [w_dSeq, w_dSet, w_dExpr, w_dRet, w_dRetN, w_dNext, w_dBrk, w_dCnt, w_dIf, w_dAsg, w_dPar, w_dParN, w_dPut, w_dC, w_dVar, w_dBin, w_dUn, w_dCB, w_dNil, w_dCons, w_dCall, w_dBT, w_dTr, w_dNot, w_dAnd, w_dOr, w_dAndV, w_dOrV, w_dNotV, w_dIfE, w_dTup, w_dLst, w_dIx, w_dIsi, w_dIn, w_dNotIn, w_dONone, w_dOSome, w_dSl, w_dBM, w_dChain, w_dListRg1, w_dIR1, w_dIR2, w_dIA, w_dFor, w_dLc, w_dYes, okR_ok, List.getElem?_cons_zero, List.getElem?_cons_succ, Option.some.injEq, exists_eq_left', exists_eq_left, List.map_cons, List.map_nil, List.length_cons, List.length_nil, List.replicate_succ, List.replicate_zero, List.cons_append, List.nil_append, List.append_nil, List.set_cons_zero, List.set_cons_succ, Vl.d.injEq, Vl.l.injEq, D.int.injEq, D.bl.injEq, D.str.injEq, D.tup.injEq, Nat.sub_self, Nat.reduceSub, Nat.reduceAdd, allD, Option.map_some, e_lt, e_le, e_gt, e_ge, e_sub, e_add, e_addS, e_addT, e_mul, e_mulS, e_mod, e_fdiv, e_pow, e_neg, e_eqI, e_neI, e_eqS, e_neS, e_is, e_isNot, e_lenS, e_lenT, e_lenL, e_int, e_abs, e_max, e_min, e_tupT, e_tupL, e_listS, e_listT, e_listL, e_all, e_any, e_str, e_ixT, e_ixS, e_slT, e_slS, e_slL, e_revL, e_revS, e_trB, e_inS, gc_d, e_index, at_0, at_1, at_2, at_3, at_4, at_5]
    exact ⟨by rw [show (encG go).length = many by unfold encG; rw [List.length_map, M.g1]], trivial⟩
  subst e1 e2
  refine seq_cut (fun ρ' S' => ∃ sp : Nat, sp ∉ sg ∧ ρ' = [some (.l n), some (.d (enc sg go tell en)), some (.d (ruleD cs gl)), some (.d (.str cs)), some (.d (.tup (nums gl))), some (.d (.int many)), some (.d (.str [sp])), none, none, none, none, none, none] ∧ S' = S2) ?_ fun ρ2 S2 ⟨sp, hsp, e1, e2⟩ => ?_
  · unfold enc
    simp only [w_dSeq, w_dSet, w_dExpr, w_dRet, w_dRetN, w_dNext, w_dBrk, w_dCnt, w_dIf, w_dAsg, w_dPar, w_dParN, w_dPut, w_dC, w_dVar, w_dBin, w_dUn, w_dCB, w_dNil, w_dCons, w_dCall, w_dBT, w_dTr, w_dNot, w_dAnd, w_dOr, w_dAndV, w_dOrV, w_dNotV, w_dIfE, w_dTup, w_dLst, w_dIx, w_dIsi, w_dIn, w_dNotIn, w_dONone, w_dOSome, w_dSl, w_dBM, w_dChain, w_dListRg1, w_dIR1, w_dIR2, w_dIA, w_dFor, w_dLc, w_dYes, okR_ok, List.getElem?_cons_zero, List.getElem?_cons_succ, Option.some.injEq, exists_eq_left', exists_eq_left, List.map_cons, List.map_nil, List.length_cons, List.length_nil, List.replicate_succ, List.replicate_zero, List.cons_append, List.nil_append, List.append_nil, List.set_cons_zero, List.set_cons_succ, Vl.d.injEq, Vl.l.injEq, D.int.injEq, D.bl.injEq, D.str.injEq, D.tup.injEq, Nat.sub_self, Nat.reduceSub, Nat.reduceAdd, allD, Option.map_some, e_lt, e_le, e_gt, e_ge, e_sub, e_add, e_addS, e_addT, e_mul, e_mulS, e_mod, e_fdiv, e_pow, e_neg, e_eqI, e_neI, e_eqS, e_neS, e_is, e_isNot, e_lenS, e_lenT, e_lenL, e_int, e_abs, e_max, e_min, e_tupT, e_tupL, e_listS, e_listT, e_listL, e_all, e_any, e_str, e_ixT, e_ixS, e_slT, e_slS, e_slL, e_revL, e_revS, e_trB, e_inS, gc_d, e_index, at_0, at_1, at_2, at_3, at_4, at_5]
    exact w_spare hs fun c hc => ⟨c, hc, rfl, rfl⟩
  subst e1 e2
  refine seq_cut (fun ρ' S' => ρ' = [some (.l n), some (.d (enc sg go tell en)), some (.d (ruleD cs gl)), some (.d (.str cs)), some (.d (.tup (nums gl))), some (.d (.int many)), some (.d (.str [sp])), some (.d (nest 0)), none, none, none, none, none] ∧ S' = S2) ?_ fun ρ2 S2 ⟨e1, e2⟩ => ?_
  · simp only [w_dSeq, w_dSet, w_dExpr, w_dRet, w_dRetN, w_dNext, w_dBrk, w_dCnt, w_dIf, w_dAsg, w_dPar, w_dParN, w_dPut, w_dC, w_dVar, w_dBin, w_dUn, w_dCB, w_dNil, w_dCons, w_dCall, w_dBT, w_dTr, w_dNot, w_dAnd, w_dOr, w_dAndV, w_dOrV, w_dNotV, w_dIfE, w_dTup, w_dLst, w_dIx, w_dIsi, w_dIn, w_dNotIn, w_dONone, w_dOSome, w_dSl, w_dBM, w_dChain, w_dListRg1, w_dIR1, w_dIR2, w_dIA, w_dFor, w_dLc, w_dYes, okR_ok, List.getElem?_cons_zero, List.getElem?_cons_succ, Option.some.injEq, exists_eq_left', exists_eq_left, List.map_cons, List.map_nil, List.length_cons, List.length_nil, List.replicate_succ, List.replicate_zero, List.cons_append, List.nil_append, List.append_nil, List.set_cons_zero, List.set_cons_succ, Vl.d.injEq, Vl.l.injEq, D.int.injEq, D.bl.injEq, D.str.injEq, D.tup.injEq, Nat.sub_self, Nat.reduceSub, Nat.reduceAdd, allD, Option.map_some]
    exact ⟨by decide, rfl, trivial⟩
  subst e1 e2
  refine seq_cut (fun ρ' S' => ∃ (v : Option Vl), ρ' = [some (.l n), some (.d (enc sg go tell en)), some (.d (ruleD cs gl)), some (.d (.str cs)), some (.d (.tup (nums gl))), some (.d (.int many)), some (.d (.str [sp])), some (.d (nest 8)), v, none, none, none, none] ∧ S' = S2) ?_ fun ρ2 S2 ⟨v, e1, e2⟩ => ?_
  · simp only [w_dSeq, w_dSet, w_dExpr, w_dRet, w_dRetN, w_dNext, w_dBrk, w_dCnt, w_dIf, w_dAsg, w_dPar, w_dParN, w_dPut, w_dC, w_dVar, w_dBin, w_dUn, w_dCB, w_dNil, w_dCons, w_dCall, w_dBT, w_dTr, w_dNot, w_dAnd, w_dOr, w_dAndV, w_dOrV, w_dNotV, w_dIfE, w_dTup, w_dLst, w_dIx, w_dIsi, w_dIn, w_dNotIn, w_dONone, w_dOSome, w_dSl, w_dBM, w_dChain, w_dListRg1, w_dIR1, w_dIR2, w_dIA, w_dFor, w_dLc, w_dYes, okR_ok, List.getElem?_cons_zero, List.getElem?_cons_succ, Option.some.injEq, exists_eq_left', exists_eq_left, List.map_cons, List.map_nil, List.length_cons, List.length_nil, List.replicate_succ, List.replicate_zero, List.cons_append, List.nil_append, List.append_nil, List.set_cons_zero, List.set_cons_succ, Vl.d.injEq, Vl.l.injEq, D.int.injEq, D.bl.injEq, D.str.injEq, D.tup.injEq, Nat.sub_self, Nat.reduceSub, Nat.reduceAdd, allD, Option.map_some]
    refine ⟨8, rfl, by decide, ?_⟩
    rw [forQ_seq]
    refine loopS_inv (fun i ρ' S' => ∃ (v : Option Vl), ρ' = [some (.l n), some (.d (enc sg go tell en)), some (.d (ruleD cs gl)), some (.d (.str cs)), some (.d (.tup (nums gl))), some (.d (.int many)), some (.d (.str [sp])), some (.d (nest i)), v, none, none, none, none] ∧ S' = S2) ⟨none, rfl, rfl⟩ ?_ ?_
    · rintro i x ρ3 S3 hx ⟨v, rfl, rfl⟩
      refine ⟨_, rfl, ?_⟩
      simp only [w_dSeq, w_dSet, w_dExpr, w_dRet, w_dRetN, w_dNext, w_dBrk, w_dCnt, w_dIf, w_dAsg, w_dPar, w_dParN, w_dPut, w_dC, w_dVar, w_dBin, w_dUn, w_dCB, w_dNil, w_dCons, w_dCall, w_dBT, w_dTr, w_dNot, w_dAnd, w_dOr, w_dAndV, w_dOrV, w_dNotV, w_dIfE, w_dTup, w_dLst, w_dIx, w_dIsi, w_dIn, w_dNotIn, w_dONone, w_dOSome, w_dSl, w_dBM, w_dChain, w_dListRg1, w_dIR1, w_dIR2, w_dIA, w_dFor, w_dLc, w_dYes, okR_ok, List.getElem?_cons_zero, List.getElem?_cons_succ, Option.some.injEq, exists_eq_left', exists_eq_left, List.map_cons, List.map_nil, List.length_cons, List.length_nil, List.replicate_succ, List.replicate_zero, List.cons_append, List.nil_append, List.append_nil, List.set_cons_zero, List.set_cons_succ, Vl.d.injEq, Vl.l.injEq, D.int.injEq, D.bl.injEq, D.str.injEq, D.tup.injEq, Nat.sub_self, Nat.reduceSub, Nat.reduceAdd, allD, Option.map_some]
      exact ⟨by decide, _, rfl, trivial⟩
    · rintro ρ3 S3 ⟨v, rfl, rfl⟩
      exact ⟨v, rfl, rfl⟩
  subst e1 e2
  have lc : lenD (.str cs) = cs.length := rfl
  have lg : lenD (.tup (nums gl)) = gl.length := by show ((nums gl).length : Int) = _; rw [nums_len]
  have bigs : ∀ k : Nat, k ≤ 100 → (k : Int) ≤ 1000000 := fun k h => by omega
  have nest8 : numsD many (nest 8) = false := rfl
  have hR := R.l
  have nums0 : (nums gl ++ [D.int 0]).length = gl.length + 1 := by rw [List.length_append, nums_len]; rfl
  have nums0' : ([D.int 0] ++ nums gl).length = gl.length + 1 := by rw [List.length_append, nums_len]; simp; omega
  refine seq_cut (fun ρ' S' => ∃ (ws : List D) (G : Store) (m : Nat) (w : Option Vl), ρ' = [some (.l n), some (.d (enc sg go tell en)), some (.d (ruleD cs gl)), some (.d (.str cs)), some (.d (.tup (nums gl))), some (.d (.int many)), some (.d (.str [sp])), some (.d (nest 8)), v, some (.l m), none, none, w] ∧ S' = S2 ++ G ∧ S2.length ≤ m ∧ (S2 ++ G)[m]? = some (.lst ws) ∧ ws.length ≤ 20 ∧ ∀ w ∈ ws, badR sg many w) ?_ fun ρ2 S3 ⟨ws, G, m, w, e1, e2, hm, hG, hwl, hw⟩ => ?_
  · simp only [w_dSeq, w_dSet, w_dExpr, w_dRet, w_dRetN, w_dNext, w_dBrk, w_dCnt, w_dIf, w_dAsg, w_dPar, w_dParN, w_dPut, w_dC, w_dVar, w_dBin, w_dUn, w_dCB, w_dNil, w_dCons, w_dCall, w_dBT, w_dTr, w_dNot, w_dAnd, w_dOr, w_dAndV, w_dOrV, w_dNotV, w_dIfE, w_dTup, w_dLst, w_dIx, w_dIsi, w_dIn, w_dNotIn, w_dONone, w_dOSome, w_dSl, w_dBM, w_dChain, w_dListRg1, w_dIR1, w_dIR2, w_dIA, w_dFor, w_dLc, w_dYes, okR_ok, List.getElem?_cons_zero, List.getElem?_cons_succ, Option.some.injEq, exists_eq_left', exists_eq_left, List.map_cons, List.map_nil, List.length_cons, List.length_nil, List.replicate_succ, List.replicate_zero, List.cons_append, List.nil_append, List.append_nil, List.set_cons_zero, List.set_cons_succ, Vl.d.injEq, Vl.l.injEq, D.int.injEq, D.bl.injEq, D.str.injEq, D.tup.injEq, Nat.sub_self, Nat.reduceSub, Nat.reduceAdd, allD, Option.map_some, e_lt, e_le, e_gt, e_ge, e_sub, e_add, e_addS, e_addT, e_mul, e_mulS, e_mod, e_fdiv, e_pow, e_neg, e_eqI, e_neI, e_eqS, e_neS, e_is, e_isNot, e_lenS, e_lenT, e_lenL, e_int, e_abs, e_max, e_min, e_tupT, e_tupL, e_listS, e_listT, e_listL, e_all, e_any, e_str, e_ixT, e_ixS, e_slT, e_slS, e_slL, e_revL, e_revS, e_trB, e_inS, gc_d, e_index, at_0, at_1, at_2, at_3, at_4, at_5]
    refine ⟨by decide, by decide, by decide, by decide, by decide, by decide, by decide, by decide, by rw [nums_len, sizeLine_eq]; omega, by decide, ?_⟩
    rw [iaQ_s, lcQ_seq]
    refine pure_lc (fun _ => true) (fun x => match x with | .d d => d | _ => .non) (by rw [List.length_map]; omega) ?_ ?_
    · rintro i x acc hx
      obtain ⟨c, hc1, rfl, hi, et⟩ := str_at hx
      refine ⟨_, rfl, ?_⟩
      simp only [w_dSeq, w_dSet, w_dExpr, w_dRet, w_dRetN, w_dNext, w_dBrk, w_dCnt, w_dIf, w_dAsg, w_dPar, w_dParN, w_dPut, w_dC, w_dVar, w_dBin, w_dUn, w_dCB, w_dNil, w_dCons, w_dCall, w_dBT, w_dTr, w_dNot, w_dAnd, w_dOr, w_dAndV, w_dOrV, w_dNotV, w_dIfE, w_dTup, w_dLst, w_dIx, w_dIsi, w_dIn, w_dNotIn, w_dONone, w_dOSome, w_dSl, w_dBM, w_dChain, w_dListRg1, w_dIR1, w_dIR2, w_dIA, w_dFor, w_dLc, w_dYes, okR_ok, List.getElem?_cons_zero, List.getElem?_cons_succ, Option.some.injEq, exists_eq_left', exists_eq_left, List.map_cons, List.map_nil, List.length_cons, List.length_nil, List.replicate_succ, List.replicate_zero, List.cons_append, List.nil_append, List.append_nil, List.set_cons_zero, List.set_cons_succ, Vl.d.injEq, Vl.l.injEq, D.int.injEq, D.bl.injEq, D.str.injEq, D.tup.injEq, Nat.sub_self, Nat.reduceSub, Nat.reduceAdd, allD, Option.map_some, wipeR, e_lt, e_le, e_gt, e_ge, e_sub, e_add, e_addS, e_addT, e_mul, e_mulS, e_mod, e_fdiv, e_pow, e_neg, e_eqI, e_neI, e_eqS, e_neS, e_is, e_isNot, e_lenS, e_lenT, e_lenL, e_int, e_abs, e_max, e_min, e_tupT, e_tupL, e_listS, e_listT, e_listL, e_all, e_any, e_str, e_ixT, e_ixS, e_slT, e_slS, e_slL, e_revL, e_revS, e_trB, e_inS, gc_d, e_index, at_0, at_1, at_2, at_3, at_4, at_5]
      exact ⟨trivial, trivial, fun _ => ⟨trivial, trivial⟩⟩
    · simp only [e_lt, e_le, e_gt, e_ge, e_sub, e_add, e_addS, e_addT, e_mul, e_mulS, e_mod, e_fdiv, e_pow, e_neg, e_eqI, e_neI, e_eqS, e_neS, e_is, e_isNot, e_lenS, e_lenT, e_lenL, e_int, e_abs, e_max, e_min, e_tupT, e_tupL, e_listS, e_listT, e_listL, e_all, e_any, e_str, e_ixT, e_ixS, e_slT, e_slS, e_slL, e_revL, e_revS, e_trB, e_inS, gc_d, e_index, at_0, at_1, at_2, at_3, at_4, at_5]
      refine ⟨_, lst_at new_at, _, rfl, (by show 2 ≤ sizeLine; decide), by rw [sizeLine_eq]; omega, by decide, by rw [nums_len, sizeLine_eq]; omega, by decide, by rw [sizeLine_eq]; omega, by decide, by rw [nums_len, sizeLine_eq]; omega, by decide, by rw [sizeLine_eq]; omega, ?_, by decide, by decide, by decide, ?_⟩
      · rw [sizeLine_eq]
        simp only [Bool.and_eq_true, decide_eq_true_eq]
        omega
      · generalize hcw : List.map _ _ = cw
        refine ⟨_, [.lst cw, .lst _], (S2 ++ [Cell.lst cw]).length, none, rfl, by rw [List.append_assoc]; rfl, by simp, by rw [← List.singleton_append, ← List.append_assoc]; exact new_at, by simp, ?_⟩
        have hcl' : cw.length ≤ 8 := by
          rw [← hcw, List.length_map]
          have := List.length_filter_le (fun _ => true) (cs.map fun c => Vl.d (.str [c]))
          rw [List.length_map] at this
          omega
        have lot1 : lotD sg (.str (cs ++ [sp])) = false := by
          cases h : lotD sg (.str (cs ++ [sp])) with
          | false => rfl
          | true => exact absurd (lot_sub h sp (by simp)) hsp
        have lot2 : lotD sg (.str ([sp] ++ cs)) = false := by
          cases h : lotD sg (.str ([sp] ++ cs)) with
          | false => rfl
          | true => exact absurd (lot_sub h sp (by simp)) hsp
        intro w hw
        simp only [List.mem_cons, List.not_mem_nil, or_false] at hw
        have c1 : (lenD (.str cs)) ≤ 1000000 := by rw [lc]; omega
        have c2 : (lenD (.tup (nums gl))) ≤ 1000000 := by rw [lg]; omega
        have c3 : lenD (.tup (nums gl ++ [.int 0])) = gl.length + 1 := by show ((nums gl ++ [D.int 0]).length : Int) = _; rw [nums0]; rfl
        have c4 : lenD (.tup (.int 0 :: nums gl)) = gl.length + 1 := by show (([D.int 0] ++ nums gl).length : Int) = _; rw [nums0']; rfl
        have c5 : lenD (.str (cs ++ [sp])) = cs.length + 1 := by show ((cs ++ [sp]).length : Int) = _; simp
        have c6 : lenD (.str (sp :: cs)) = cs.length + 1 := by show ((sp :: cs).length : Int) = _; simp
        have z0 : ∀ k : Int, k = 0 → k ≤ 1000000 := fun k h => by omega
        rcases hw with rfl | rfl | rfl | rfl | rfl | rfl | rfl | rfl | rfl | rfl | rfl | rfl | rfl | rfl | rfl | rfl
        · exact ⟨rfl, fun a b e => by cases e⟩
        · exact ⟨rfl, fun a b e => by cases e⟩
        · exact ⟨rfl, fun a b e => by cases e⟩
        · exact badR_nums gl
        · exact ⟨rfl, fun a b e => by cases e⟩
        · exact ⟨rfl, fun a b e => by cases e⟩
        · exact ⟨rfl, fun a b e => by cases e⟩
        · exact badR_lot rfl c2 c1
        · exact badR_num rfl c1 (z0 _ rfl)
        · exact badR_lot rfl (z0 _ rfl) c2
        · exact badR_len (by rw [c3, lc]; omega) c1 (by rw [c3]; omega)
        · exact badR_lot rfl (by show (cw.length : Int) ≤ _; omega) c2
        · exact badR_lot lot1 (by rw [c5]; omega) (by rw [c3]; omega)
        · exact badR_lot lot2 (by rw [c6]; omega) (by rw [c4]; omega)
        · exact badR_num rfl c1 (by show ((rep [48] _).length : Int) ≤ _; rw [rep_len]; simp; omega)
        · exact badR_num nest8 c1 (by show (1 : Int) ≤ _; decide)
  subst e1 e2
  by_cases hc0 : (cs == []) = true
  · refine seq_cut (fun _ _ => False) ?_ (fun _ _ h => h.elim)
    simp only [w_dSeq, w_dSet, w_dExpr, w_dRet, w_dRetN, w_dNext, w_dBrk, w_dCnt, w_dIf, w_dAsg, w_dPar, w_dParN, w_dPut, w_dC, w_dVar, w_dBin, w_dUn, w_dCB, w_dNil, w_dCons, w_dCall, w_dBT, w_dTr, w_dNot, w_dAnd, w_dOr, w_dAndV, w_dOrV, w_dNotV, w_dIfE, w_dTup, w_dLst, w_dIx, w_dIsi, w_dIn, w_dNotIn, w_dONone, w_dOSome, w_dSl, w_dBM, w_dChain, w_dListRg1, w_dIR1, w_dIR2, w_dIA, w_dFor, w_dLc, w_dYes, okR_ok, List.getElem?_cons_zero, List.getElem?_cons_succ, Option.some.injEq, exists_eq_left', exists_eq_left, List.map_cons, List.map_nil, List.length_cons, List.length_nil, List.replicate_succ, List.replicate_zero, List.cons_append, List.nil_append, List.append_nil, List.set_cons_zero, List.set_cons_succ, Vl.d.injEq, Vl.l.injEq, D.int.injEq, D.bl.injEq, D.str.injEq, D.tup.injEq, Nat.sub_self, Nat.reduceSub, Nat.reduceAdd, allD, Option.map_some, e_lt, e_le, e_gt, e_ge, e_sub, e_add, e_addS, e_addT, e_mul, e_mulS, e_mod, e_fdiv, e_pow, e_neg, e_eqI, e_neI, e_eqS, e_neS, e_is, e_isNot, e_lenS, e_lenT, e_lenL, e_int, e_abs, e_max, e_min, e_tupT, e_tupL, e_listS, e_listT, e_listL, e_all, e_any, e_str, e_ixT, e_ixS, e_slT, e_slS, e_slL, e_revL, e_revS, e_trB, e_inS, gc_d, e_index, at_0, at_1, at_2, at_3, at_4, at_5, hc0, if_true]
    rw [gc_new hm hG, take_new]
    have := q ws ds hp (by omega) hw
    rwa [set_same h] at this
  refine seq_cut (fun ρ' S' => ρ' = [some (.l n), some (.d (enc sg go tell en)), some (.d (ruleD cs gl)), some (.d (.str cs)), some (.d (.tup (nums gl))), some (.d (.int many)), some (.d (.str [sp])), some (.d (nest 8)), v, some (.l m), none, none, w] ∧ S' = S2 ++ G) ?_ fun ρ2 S3 ⟨e1, e2⟩ => ?_
  · have hc0' : (cs == []) = false := by simpa using hc0
    simp only [w_dSeq, w_dSet, w_dExpr, w_dRet, w_dRetN, w_dNext, w_dBrk, w_dCnt, w_dIf, w_dAsg, w_dPar, w_dParN, w_dPut, w_dC, w_dVar, w_dBin, w_dUn, w_dCB, w_dNil, w_dCons, w_dCall, w_dBT, w_dTr, w_dNot, w_dAnd, w_dOr, w_dAndV, w_dOrV, w_dNotV, w_dIfE, w_dTup, w_dLst, w_dIx, w_dIsi, w_dIn, w_dNotIn, w_dONone, w_dOSome, w_dSl, w_dBM, w_dChain, w_dListRg1, w_dIR1, w_dIR2, w_dIA, w_dFor, w_dLc, w_dYes, okR_ok, List.getElem?_cons_zero, List.getElem?_cons_succ, Option.some.injEq, exists_eq_left', exists_eq_left, List.map_cons, List.map_nil, List.length_cons, List.length_nil, List.replicate_succ, List.replicate_zero, List.cons_append, List.nil_append, List.append_nil, List.set_cons_zero, List.set_cons_succ, Vl.d.injEq, Vl.l.injEq, D.int.injEq, D.bl.injEq, D.str.injEq, D.tup.injEq, Nat.sub_self, Nat.reduceSub, Nat.reduceAdd, allD, Option.map_some, e_lt, e_le, e_gt, e_ge, e_sub, e_add, e_addS, e_addT, e_mul, e_mulS, e_mod, e_fdiv, e_pow, e_neg, e_eqI, e_neI, e_eqS, e_neS, e_is, e_isNot, e_lenS, e_lenT, e_lenL, e_int, e_abs, e_max, e_min, e_tupT, e_tupL, e_listS, e_listT, e_listL, e_all, e_any, e_str, e_ixT, e_ixS, e_slT, e_slS, e_slL, e_revL, e_revS, e_trB, e_inS, gc_d, e_index, at_0, at_1, at_2, at_3, at_4, at_5, hc0', Bool.false_eq_true, if_false]
    exact ⟨trivial, trivial⟩
  subst e1 e2
  have hcpos : 1 ≤ cs.length := by
    cases cs with
    | nil => exact absurd rfl hc0
    | cons _ _ => simp
  have hcn : cs.Nodup := hcs.nodup hsn
  -- what stands: the pool, the list at m
  let J : Nat → Store → Prop := fun k S' => ∃ (ds' : List D) (G : Store) (ws : List D), Pool ds' ∧ S' = S2.set n (.lst ds') ++ G ∧ S'[m]? = some (.lst ws) ∧ ws.length ≤ k ∧ ∀ w ∈ ws, badR sg many w
  have J_set : ∀ (k : Nat) (S' : Store) (ws : List D) (d : D), J k S' → S'[m]? = some (.lst ws) → badR sg many d → J (k + 1) (S'.set m (.lst (ws ++ [d]))) := by
    rintro k S' ws d ⟨ds', G, ws', hp, rfl, h1, h2, h3⟩ hws hd
    obtain rfl : ws' = ws := by rw [h1] at hws; exact Cell.lst.inj (Option.some.inj hws)
    refine ⟨ds', G.set (m - S2.length) (.lst (ws' ++ [d])), ws' ++ [d], hp, ?_, set_at h1, by simp; omega, all_snoc h3 hd⟩
    rw [List.set_append_right _ _ (by simpa using hm)]
    simp
  have J_ws : ∀ (k : Nat) (S' : Store), J k S' → ∃ ws, S'[m]? = some (.lst ws) ∧ ws.length ≤ k := fun k S' ⟨_, _, ws, _, _, h1, h2, _⟩ => ⟨ws, h1, h2⟩
  have J_take : ∀ (k : Nat) (S' : Store), J k S' → ∃ ds, S'[n]? = some (.lst ds) ∧ Pool ds := fun k S' ⟨ds', G, ws, hp, e, _⟩ => ⟨ds', by rw [e]; exact old_at' hn, hp⟩
  have J_pool : ∀ (k : Nat) (S' : Store) (ds : List D), J k S' → Pool ds → J k (S'.set n (.lst ds)) := by
    rintro k S' ds ⟨ds', G, ws, hp, rfl, h1, h2⟩ hp'
    refine ⟨ds, G, ws, hp', set_old' hn, ?_, h2⟩
    rw [set_other (by omega)]
    exact h1
  have J0 : J 20 (S2 ++ G) := ⟨ds, G, ws, hp, by rw [set_same h], hG, hwl, hw⟩
  have J_new : ∀ (k : Nat) (S' : Store) (c : Cell), J k S' → J k (S' ++ [c]) := by
    rintro k S' c ⟨ds', G, ws, hp, rfl, h1, h2⟩
    exact ⟨ds', G ++ [c], ws, hp, by simp, old_at h1, h2⟩
  have J_end : ∀ (k : Nat) (S' : Store), k ≤ 100 → J k S' → okR (gcR S2.length (.ok (.l m) S')) Q := by
    rintro k S' hk ⟨ds', G, ws, hp, rfl, h1, h2, h3⟩
    rw [gc_new hm h1, take_set_new]
    exact q ws ds' hp (by omega) h3
  have J_up : ∀ (k : Nat) (S' : Store), J k S' → J (k + 1) S' := by
    rintro k S' ⟨ds', G, ws, x1, x2, x3, x4, x5⟩
    exact ⟨ds', G, ws, x1, x2, x3, Nat.le_succ_of_le x4, x5⟩
  generalize hJ : J = J' at *
  refine seq_cut (fun ρ' S' => ∃ at' : Nat, at' < cs.length ∧ ρ' = [some (.l n), some (.d (enc sg go tell en)), some (.d (ruleD cs gl)), some (.d (.str cs)), some (.d (.tup (nums gl))), some (.d (.int many)), some (.d (.str [sp])), some (.d (nest 8)), v, some (.l m), some (.d (.int at')), none, w] ∧ J' 20 S') ?_ fun ρ2 S3 ⟨a, ha, e1, hJ0⟩ => ?_
  · simp only [w_dSeq, w_dSet, w_dExpr, w_dRet, w_dRetN, w_dNext, w_dBrk, w_dCnt, w_dIf, w_dAsg, w_dPar, w_dParN, w_dPut, w_dC, w_dVar, w_dBin, w_dUn, w_dCB, w_dNil, w_dCons, w_dCall, w_dBT, w_dTr, w_dNot, w_dAnd, w_dOr, w_dAndV, w_dOrV, w_dNotV, w_dIfE, w_dTup, w_dLst, w_dIx, w_dIsi, w_dIn, w_dNotIn, w_dONone, w_dOSome, w_dSl, w_dBM, w_dChain, w_dListRg1, w_dIR1, w_dIR2, w_dIA, w_dFor, w_dLc, w_dYes, okR_ok, List.getElem?_cons_zero, List.getElem?_cons_succ, Option.some.injEq, exists_eq_left', exists_eq_left, List.map_cons, List.map_nil, List.length_cons, List.length_nil, List.replicate_succ, List.replicate_zero, List.cons_append, List.nil_append, List.append_nil, List.set_cons_zero, List.set_cons_succ, Vl.d.injEq, Vl.l.injEq, D.int.injEq, D.bl.injEq, D.str.injEq, D.tup.injEq, Nat.sub_self, Nat.reduceSub, Nat.reduceAdd, allD, Option.map_some, e_lt, e_le, e_gt, e_ge, e_sub, e_add, e_addS, e_addT, e_mul, e_mulS, e_mod, e_fdiv, e_pow, e_neg, e_eqI, e_neI, e_eqS, e_neS, e_is, e_isNot, e_lenS, e_lenT, e_lenL, e_int, e_abs, e_max, e_min, e_tupT, e_tupL, e_listS, e_listT, e_listL, e_all, e_any, e_str, e_ixT, e_ixS, e_slT, e_slS, e_slL, e_revL, e_revS, e_trB, e_inS, gc_d, e_index, at_0, at_1, at_2, at_3, at_4, at_5]
    refine ⟨by rw [sizeLine_eq]; omega, ?_⟩
    obtain ⟨ds, d1, d2⟩ := J_take _ _ J0
    refine w_take d1 d2 fun k ds1 hp1 k0 k1 => ?_
    obtain ⟨j, rfl⟩ : ∃ j : Nat, k = j := ⟨k.toNat, by omega⟩
    exact ⟨j, by omega, rfl, J_pool _ _ _ J0 hp1⟩
  subst e1
  have hga : a < gl.length := by rw [hR]; exact ha
  have hgm : gl[a] < many := R.b _ (List.getElem_mem hga)
  have lc1 : (lenD (.str cs)) ≤ 1000000 := by rw [lc]; omega
  have lg1 : (lenD (.tup (nums gl))) ≤ 1000000 := by rw [lg]; omega
  have hR' : (gl.length : Int) = cs.length := by rw [hR]
  have odd_bad : ∀ x : D, fromD 0 ((many : Int) - 1) x = false → badR sg many (.tup [.str cs, .tup ((nums gl).take a ++ [x] ++ (nums gl).drop (a + 1))]) := by
    intro x hx
    refine badR_num ?_ lc1 ?_
    · show ((nums gl).take a ++ [x] ++ (nums gl).drop (a + 1)).all _ = false
      simp only [List.all_append, List.all_cons, hx, Bool.false_and, Bool.and_false]
    · show (((nums gl).take a ++ [x] ++ (nums gl).drop (a + 1)).length : Int) ≤ _
      rw [List.length_append, List.length_append, List.length_take, List.length_drop, nums_len]
      simp
      omega
  generalize hod : ([D.int many, D.int (-1), D.int (0 - many), D.non, D.str (strI gl[a]), D.tup [D.int gl[a]], nest 8] : List D) = od
  have od_bad : ∀ x ∈ od, fromD 0 ((many : Int) - 1) x = false := by
    intro x hx
    rw [← hod] at hx
    simp only [List.mem_cons, List.not_mem_nil, or_false] at hx
    rcases hx with rfl | rfl | rfl | rfl | rfl | rfl | rfl
    · unfold fromD; simp; omega
    · unfold fromD; simp
    · unfold fromD; simp; omega
    all_goals rfl
  refine seq_cut (fun ρ' S' => ∃ w' : Option Vl, ρ' = [some (.l n), some (.d (enc sg go tell en)), some (.d (ruleD cs gl)), some (.d (.str cs)), some (.d (.tup (nums gl))), some (.d (.int many)), some (.d (.str [sp])), some (.d (nest 8)), v, some (.l m), some (.d (.int a)), w', w] ∧ J' 40 S') ?_ fun ρ2 S4 ⟨w', e1, hJ1⟩ => ?_
  · simp only [w_dSeq, w_dSet, w_dExpr, w_dRet, w_dRetN, w_dNext, w_dBrk, w_dCnt, w_dIf, w_dAsg, w_dPar, w_dParN, w_dPut, w_dC, w_dVar, w_dBin, w_dUn, w_dCB, w_dNil, w_dCons, w_dCall, w_dBT, w_dTr, w_dNot, w_dAnd, w_dOr, w_dAndV, w_dOrV, w_dNotV, w_dIfE, w_dTup, w_dLst, w_dIx, w_dIsi, w_dIn, w_dNotIn, w_dONone, w_dOSome, w_dSl, w_dBM, w_dChain, w_dListRg1, w_dIR1, w_dIR2, w_dIA, w_dFor, w_dLc, w_dYes, okR_ok, List.getElem?_cons_zero, List.getElem?_cons_succ, Option.some.injEq, exists_eq_left', exists_eq_left, List.map_cons, List.map_nil, List.length_cons, List.length_nil, List.replicate_succ, List.replicate_zero, List.cons_append, List.nil_append, List.append_nil, List.set_cons_zero, List.set_cons_succ, Vl.d.injEq, Vl.l.injEq, D.int.injEq, D.bl.injEq, D.str.injEq, D.tup.injEq, Nat.sub_self, Nat.reduceSub, Nat.reduceAdd, allD, Option.map_some, e_lt, e_le, e_gt, e_ge, e_sub, e_add, e_addS, e_addT, e_mul, e_mulS, e_mod, e_fdiv, e_pow, e_neg, e_eqI, e_neI, e_eqS, e_neS, e_is, e_isNot, e_lenS, e_lenT, e_lenL, e_int, e_abs, e_max, e_min, e_tupT, e_tupL, e_listS, e_listT, e_listL, e_all, e_any, e_str, e_ixT, e_ixS, e_slT, e_slS, e_slL, e_revL, e_revS, e_trB, e_inS, gc_d, e_index, at_0, at_1, at_2, at_3, at_4, at_5]
    refine ⟨.int gl[a], nums_at hga, ?_⟩
    simp only [e_lt, e_le, e_gt, e_ge, e_sub, e_add, e_addS, e_addT, e_mul, e_mulS, e_mod, e_fdiv, e_pow, e_neg, e_eqI, e_neI, e_eqS, e_neS, e_is, e_isNot, e_lenS, e_lenT, e_lenL, e_int, e_abs, e_max, e_min, e_tupT, e_tupL, e_listS, e_listT, e_listL, e_all, e_any, e_str, e_ixT, e_ixS, e_slT, e_slS, e_slL, e_revL, e_revS, e_trB, e_inS, gc_d, e_index, at_0, at_1, at_2, at_3, at_4, at_5]
    refine ⟨?_, .int gl[a], nums_at hga, ?_⟩
    · have : ((gl[a] : Nat) : Int).natAbs.log2 ≤ gl[a] := by
        rw [Int.natAbs_natCast]; exact Nat.log2_le_self _
      omega
    refine ⟨by show 1 ≤ sizeLine; decide, _, rfl, by show 7 ≤ sizeLine; decide, ?_⟩
    have hlst : lstAt (S3 ++ [.lst od]) S3.length = some od := lst_at new_at
    show iaQ _ _ (S3 ++ [.lst ([D.int many, D.int (-1), D.int (0 - many), D.non, D.str (strI gl[a]), D.tup [D.int gl[a]], nest 8] : List D)])
    rw [hod, iaQ_l, forQ_lst]
    refine ⟨by rw [hlst]; rfl, od, hlst, ?_⟩
    have hml : m < S3.length := by
      obtain ⟨ws, h1, _⟩ := J_ws _ _ hJ0
      exact lt_of_at h1
    have hol : od.length = 7 := by rw [← hod]; rfl
    refine loopL_inv (fun i ρ' S' => ∃ w' : Option Vl, ρ' = [some (.l n), some (.d (enc sg go tell en)), some (.d (ruleD cs gl)), some (.d (.str cs)), some (.d (.tup (nums gl))), some (.d (.int many)), some (.d (.str [sp])), some (.d (nest 8)), v, some (.l m), some (.d (.int a)), w', w] ∧ J' (20 + i) S' ∧ lstAt S' S3.length = some od)
      ⟨none, rfl, J_new _ _ _ hJ0, hlst⟩ (fun i ρ S ⟨_, _, _, h⟩ => h) ?_ ?_
    · rintro i x ρ5 S5 hx ⟨w', rfl, hJ5, hl5⟩
      obtain ⟨ws5, hw5, hk5⟩ := J_ws _ _ hJ5
      have hi := (List.getElem?_eq_some_iff.mp hx).1
      refine ⟨_, rfl, ?_⟩
      simp only [w_dSeq, w_dSet, w_dExpr, w_dRet, w_dRetN, w_dNext, w_dBrk, w_dCnt, w_dIf, w_dAsg, w_dPar, w_dParN, w_dPut, w_dC, w_dVar, w_dBin, w_dUn, w_dCB, w_dNil, w_dCons, w_dCall, w_dBT, w_dTr, w_dNot, w_dAnd, w_dOr, w_dAndV, w_dOrV, w_dNotV, w_dIfE, w_dTup, w_dLst, w_dIx, w_dIsi, w_dIn, w_dNotIn, w_dONone, w_dOSome, w_dSl, w_dBM, w_dChain, w_dListRg1, w_dIR1, w_dIR2, w_dIA, w_dFor, w_dLc, w_dYes, okR_ok, List.getElem?_cons_zero, List.getElem?_cons_succ, Option.some.injEq, exists_eq_left', exists_eq_left, List.map_cons, List.map_nil, List.length_cons, List.length_nil, List.replicate_succ, List.replicate_zero, List.cons_append, List.nil_append, List.append_nil, List.set_cons_zero, List.set_cons_succ, Vl.d.injEq, Vl.l.injEq, D.int.injEq, D.bl.injEq, D.str.injEq, D.tup.injEq, Nat.sub_self, Nat.reduceSub, Nat.reduceAdd, allD, Option.map_some, e_lt, e_le, e_gt, e_ge, e_sub, e_add, e_addS, e_addT, e_mul, e_mulS, e_mod, e_fdiv, e_pow, e_neg, e_eqI, e_neI, e_eqS, e_neS, e_is, e_isNot, e_lenS, e_lenT, e_lenL, e_int, e_abs, e_max, e_min, e_tupT, e_tupL, e_listS, e_listT, e_listL, e_all, e_any, e_str, e_ixT, e_ixS, e_slT, e_slS, e_slL, e_revL, e_revS, e_trB, e_inS, gc_d, e_index, at_0, at_1, at_2, at_3, at_4, at_5, e_isLst (lst_at hw5), e_append hw5, true_and]
      rw [cut_to, show ((a : Int) + 1) = ((a + 1 : Nat) : Int) by omega, cut_from]
      refine ⟨by decide, ?_, ?_, by decide, by rw [sizeLine_eq]; omega, _, rfl, J_set _ _ _ _ hJ5 hw5 (odd_bad x (od_bad x (List.mem_of_getElem? hx))), ?_⟩
      · rw [List.length_take, nums_len, sizeLine_eq]; simp; omega
      · rw [List.length_append, List.length_take, List.length_drop, nums_len, sizeLine_eq]; simp; omega
      · unfold lstAt
        rw [set_other (by omega)]
        exact hl5
    · rintro ρ5 S5 ⟨w', rfl, hJ5, hl5⟩
      refine ⟨w', rfl, ?_⟩
      rw [hol] at hJ5
      obtain ⟨ds', G, ws, x1, x2, x3, x4, x5⟩ := by rw [← hJ] at hJ5; exact hJ5
      rw [← hJ]
      exact ⟨ds', G, ws, x1, x2, x3, by omega, x5⟩
  subst e1
  have at_a : atI cs a = some cs[a] := by rw [at_nat, List.getElem?_eq_getElem ha]
  have hJ40 := hJ1
  refine seq_cut (fun ρ' S' => ρ' = [some (.l n), some (.d (enc sg go tell en)), some (.d (ruleD cs gl)), some (.d (.str cs)), some (.d (.tup (nums gl))), some (.d (.int many)), some (.d (.str [sp])), some (.d (nest 8)), v, some (.l m), some (.d (.int a)), w', w] ∧ J' 41 S') ?_ fun ρ2 S41 ⟨e1, hJ41⟩ => ?_
  · obtain ⟨ws, h1, h2⟩ := J_ws _ _ hJ40
    simp only [w_dSeq, w_dSet, w_dExpr, w_dRet, w_dRetN, w_dNext, w_dBrk, w_dCnt, w_dIf, w_dAsg, w_dPar, w_dParN, w_dPut, w_dC, w_dVar, w_dBin, w_dUn, w_dCB, w_dNil, w_dCons, w_dCall, w_dBT, w_dTr, w_dNot, w_dAnd, w_dOr, w_dAndV, w_dOrV, w_dNotV, w_dIfE, w_dTup, w_dLst, w_dIx, w_dIsi, w_dIn, w_dNotIn, w_dONone, w_dOSome, w_dSl, w_dBM, w_dChain, w_dListRg1, w_dIR1, w_dIR2, w_dIA, w_dFor, w_dLc, w_dYes, okR_ok, List.getElem?_cons_zero, List.getElem?_cons_succ, Option.some.injEq, exists_eq_left', exists_eq_left, List.map_cons, List.map_nil, List.length_cons, List.length_nil, List.replicate_succ, List.replicate_zero, List.cons_append, List.nil_append, List.append_nil, List.set_cons_zero, List.set_cons_succ, Vl.d.injEq, Vl.l.injEq, D.int.injEq, D.bl.injEq, D.str.injEq, D.tup.injEq, Nat.sub_self, Nat.reduceSub, Nat.reduceAdd, allD, Option.map_some, e_lt, e_le, e_gt, e_ge, e_sub, e_add, e_addS, e_addT, e_mul, e_mulS, e_mod, e_fdiv, e_pow, e_neg, e_eqI, e_neI, e_eqS, e_neS, e_is, e_isNot, e_lenS, e_lenT, e_lenL, e_int, e_abs, e_max, e_min, e_tupT, e_tupL, e_listS, e_listT, e_listL, e_all, e_any, e_str, e_ixT, e_ixS, e_slT, e_slS, e_slL, e_revL, e_revS, e_trB, e_inS, gc_d, e_index, at_0, at_1, at_2, at_3, at_4, at_5, e_isLst (lst_at h1), e_append h1, true_and]
    rw [show (1 : Int) = ((1 : Nat) : Int) from rfl, cut_from]
    exact ⟨by show 2 ≤ sizeLine; decide, by rw [sizeLine_eq]; omega, J_set _ _ _ _ hJ40 h1 (badR_len (by rw [lc]; show (((nums gl).drop 1).length : Int) ≠ _; rw [List.length_drop, nums_len]; omega) lc1 (by show (((nums gl).drop 1).length : Int) ≤ _; rw [List.length_drop, nums_len]; omega))⟩
  subst e1
  refine seq_cut (fun ρ' S' => ρ' = [some (.l n), some (.d (enc sg go tell en)), some (.d (ruleD cs gl)), some (.d (.str cs)), some (.d (.tup (nums gl))), some (.d (.int many)), some (.d (.str [sp])), some (.d (nest 8)), v, some (.l m), some (.d (.int a)), w', w] ∧ J' 42 S') ?_ fun ρ2 S42 ⟨e1, hJ42⟩ => ?_
  · obtain ⟨ws, h1, h2⟩ := J_ws _ _ hJ41
    simp only [w_dSeq, w_dSet, w_dExpr, w_dRet, w_dRetN, w_dNext, w_dBrk, w_dCnt, w_dIf, w_dAsg, w_dPar, w_dParN, w_dPut, w_dC, w_dVar, w_dBin, w_dUn, w_dCB, w_dNil, w_dCons, w_dCall, w_dBT, w_dTr, w_dNot, w_dAnd, w_dOr, w_dAndV, w_dOrV, w_dNotV, w_dIfE, w_dTup, w_dLst, w_dIx, w_dIsi, w_dIn, w_dNotIn, w_dONone, w_dOSome, w_dSl, w_dBM, w_dChain, w_dListRg1, w_dIR1, w_dIR2, w_dIA, w_dFor, w_dLc, w_dYes, okR_ok, List.getElem?_cons_zero, List.getElem?_cons_succ, Option.some.injEq, exists_eq_left', exists_eq_left, List.map_cons, List.map_nil, List.length_cons, List.length_nil, List.replicate_succ, List.replicate_zero, List.cons_append, List.nil_append, List.append_nil, List.set_cons_zero, List.set_cons_succ, Vl.d.injEq, Vl.l.injEq, D.int.injEq, D.bl.injEq, D.str.injEq, D.tup.injEq, Nat.sub_self, Nat.reduceSub, Nat.reduceAdd, allD, Option.map_some, e_lt, e_le, e_gt, e_ge, e_sub, e_add, e_addS, e_addT, e_mul, e_mulS, e_mod, e_fdiv, e_pow, e_neg, e_eqI, e_neI, e_eqS, e_neS, e_is, e_isNot, e_lenS, e_lenT, e_lenL, e_int, e_abs, e_max, e_min, e_tupT, e_tupL, e_listS, e_listT, e_listL, e_all, e_any, e_str, e_ixT, e_ixS, e_slT, e_slS, e_slL, e_revL, e_revS, e_trB, e_inS, gc_d, e_index, at_0, at_1, at_2, at_3, at_4, at_5, e_isLst (lst_at h1), e_append h1, true_and]
    rw [show (1 : Int) = ((1 : Nat) : Int) from rfl, cut_from]
    exact ⟨by rw [sizeLine_eq]; omega, by show 2 ≤ sizeLine; decide, by rw [sizeLine_eq]; omega, J_set _ _ _ _ hJ41 h1 (badR_len (by rw [lg]; show _ ≠ ((cs.drop 1).length : Int); rw [List.length_drop]; omega) (by show ((cs.drop 1).length : Int) ≤ _; rw [List.length_drop]; omega) lg1)⟩
  subst e1
  refine seq_cut (fun ρ' S' => ρ' = [some (.l n), some (.d (enc sg go tell en)), some (.d (ruleD cs gl)), some (.d (.str cs)), some (.d (.tup (nums gl))), some (.d (.int many)), some (.d (.str [sp])), some (.d (nest 8)), v, some (.l m), some (.d (.int a)), w', w] ∧ J' 43 S') ?_ fun ρ2 S43 ⟨e1, hJ43⟩ => ?_
  · obtain ⟨ws, h1, h2⟩ := J_ws _ _ hJ42
    simp only [w_dSeq, w_dSet, w_dExpr, w_dRet, w_dRetN, w_dNext, w_dBrk, w_dCnt, w_dIf, w_dAsg, w_dPar, w_dParN, w_dPut, w_dC, w_dVar, w_dBin, w_dUn, w_dCB, w_dNil, w_dCons, w_dCall, w_dBT, w_dTr, w_dNot, w_dAnd, w_dOr, w_dAndV, w_dOrV, w_dNotV, w_dIfE, w_dTup, w_dLst, w_dIx, w_dIsi, w_dIn, w_dNotIn, w_dONone, w_dOSome, w_dSl, w_dBM, w_dChain, w_dListRg1, w_dIR1, w_dIR2, w_dIA, w_dFor, w_dLc, w_dYes, okR_ok, List.getElem?_cons_zero, List.getElem?_cons_succ, Option.some.injEq, exists_eq_left', exists_eq_left, List.map_cons, List.map_nil, List.length_cons, List.length_nil, List.replicate_succ, List.replicate_zero, List.cons_append, List.nil_append, List.append_nil, List.set_cons_zero, List.set_cons_succ, Vl.d.injEq, Vl.l.injEq, D.int.injEq, D.bl.injEq, D.str.injEq, D.tup.injEq, Nat.sub_self, Nat.reduceSub, Nat.reduceAdd, allD, Option.map_some, e_lt, e_le, e_gt, e_ge, e_sub, e_add, e_addS, e_addT, e_mul, e_mulS, e_mod, e_fdiv, e_pow, e_neg, e_eqI, e_neI, e_eqS, e_neS, e_is, e_isNot, e_lenS, e_lenT, e_lenL, e_int, e_abs, e_max, e_min, e_tupT, e_tupL, e_listS, e_listT, e_listL, e_all, e_any, e_str, e_ixT, e_ixS, e_slT, e_slS, e_slL, e_revL, e_revS, e_trB, e_inS, gc_d, e_index, at_0, at_1, at_2, at_3, at_4, at_5, e_isLst (lst_at h1), e_append h1, true_and]
    exact ⟨by rw [sizeLine_eq]; omega, _, at_a, by rw [sizeLine_eq]; omega, by show 1 ≤ sizeLine; decide, by rw [nums_len, sizeLine_eq]; omega, by show 2 ≤ sizeLine; decide, by rw [sizeLine_eq]; omega, J_set _ _ _ _ hJ42 h1 (badR_lot (lot_cons hsn (List.getElem_mem ha)) (by show ((cs[a] :: cs).length : Int) ≤ _; rw [List.length_cons]; omega) (by show ((D.int 0 :: nums gl).length : Int) ≤ _; rw [List.length_cons, nums_len]; omega))⟩
  subst e1
  refine seq_cut (fun ρ' S' => ρ' = [some (.l n), some (.d (enc sg go tell en)), some (.d (ruleD cs gl)), some (.d (.str cs)), some (.d (.tup (nums gl))), some (.d (.int many)), some (.d (.str [sp])), some (.d (nest 8)), v, some (.l m), some (.d (.int a)), w', w] ∧ J' 44 S') ?_ fun ρ2 S44 ⟨e1, hJ44⟩ => ?_
  · obtain ⟨ws, h1, h2⟩ := J_ws _ _ hJ43
    simp only [w_dSeq, w_dSet, w_dExpr, w_dRet, w_dRetN, w_dNext, w_dBrk, w_dCnt, w_dIf, w_dAsg, w_dPar, w_dParN, w_dPut, w_dC, w_dVar, w_dBin, w_dUn, w_dCB, w_dNil, w_dCons, w_dCall, w_dBT, w_dTr, w_dNot, w_dAnd, w_dOr, w_dAndV, w_dOrV, w_dNotV, w_dIfE, w_dTup, w_dLst, w_dIx, w_dIsi, w_dIn, w_dNotIn, w_dONone, w_dOSome, w_dSl, w_dBM, w_dChain, w_dListRg1, w_dIR1, w_dIR2, w_dIA, w_dFor, w_dLc, w_dYes, okR_ok, List.getElem?_cons_zero, List.getElem?_cons_succ, Option.some.injEq, exists_eq_left', exists_eq_left, List.map_cons, List.map_nil, List.length_cons, List.length_nil, List.replicate_succ, List.replicate_zero, List.cons_append, List.nil_append, List.append_nil, List.set_cons_zero, List.set_cons_succ, Vl.d.injEq, Vl.l.injEq, D.int.injEq, D.bl.injEq, D.str.injEq, D.tup.injEq, Nat.sub_self, Nat.reduceSub, Nat.reduceAdd, allD, Option.map_some, e_lt, e_le, e_gt, e_ge, e_sub, e_add, e_addS, e_addT, e_mul, e_mulS, e_mod, e_fdiv, e_pow, e_neg, e_eqI, e_neI, e_eqS, e_neS, e_is, e_isNot, e_lenS, e_lenT, e_lenL, e_int, e_abs, e_max, e_min, e_tupT, e_tupL, e_listS, e_listT, e_listL, e_all, e_any, e_str, e_ixT, e_ixS, e_slT, e_slS, e_slL, e_revL, e_revS, e_trB, e_inS, gc_d, e_index, at_0, at_1, at_2, at_3, at_4, at_5, e_isLst (lst_at h1), e_append h1, true_and]
    exact ⟨by rw [sizeLine_eq]; omega, _, at_a, by rw [sizeLine_eq]; omega, by show 1 ≤ sizeLine; decide, by rw [nums_len, sizeLine_eq]; omega, by show 2 ≤ sizeLine; decide, by rw [sizeLine_eq]; omega, J_set _ _ _ _ hJ43 h1 (badR_lot (lot_snoc hsn (List.getElem_mem ha)) (by show ((cs ++ [cs[a]]).length : Int) ≤ _; rw [List.length_append, List.length_singleton]; omega) (by show ((nums gl ++ [D.int 0]).length : Int) ≤ _; rw [List.length_append, nums_len]; simp; omega))⟩
  subst e1
  refine seq_cut (fun ρ' S' => ρ' = [some (.l n), some (.d (enc sg go tell en)), some (.d (ruleD cs gl)), some (.d (.str cs)), some (.d (.tup (nums gl))), some (.d (.int many)), some (.d (.str [sp])), some (.d (nest 8)), v, some (.l m), some (.d (.int a)), w', w] ∧ J' 45 S') ?_ fun ρ2 S45 ⟨e1, hJ45⟩ => ?_
  · obtain ⟨ws, h1, h2⟩ := J_ws _ _ hJ44
    simp only [w_dSeq, w_dSet, w_dExpr, w_dRet, w_dRetN, w_dNext, w_dBrk, w_dCnt, w_dIf, w_dAsg, w_dPar, w_dParN, w_dPut, w_dC, w_dVar, w_dBin, w_dUn, w_dCB, w_dNil, w_dCons, w_dCall, w_dBT, w_dTr, w_dNot, w_dAnd, w_dOr, w_dAndV, w_dOrV, w_dNotV, w_dIfE, w_dTup, w_dLst, w_dIx, w_dIsi, w_dIn, w_dNotIn, w_dONone, w_dOSome, w_dSl, w_dBM, w_dChain, w_dListRg1, w_dIR1, w_dIR2, w_dIA, w_dFor, w_dLc, w_dYes, okR_ok, List.getElem?_cons_zero, List.getElem?_cons_succ, Option.some.injEq, exists_eq_left', exists_eq_left, List.map_cons, List.map_nil, List.length_cons, List.length_nil, List.replicate_succ, List.replicate_zero, List.cons_append, List.nil_append, List.append_nil, List.set_cons_zero, List.set_cons_succ, Vl.d.injEq, Vl.l.injEq, D.int.injEq, D.bl.injEq, D.str.injEq, D.tup.injEq, Nat.sub_self, Nat.reduceSub, Nat.reduceAdd, allD, Option.map_some, e_lt, e_le, e_gt, e_ge, e_sub, e_add, e_addS, e_addT, e_mul, e_mulS, e_mod, e_fdiv, e_pow, e_neg, e_eqI, e_neI, e_eqS, e_neS, e_is, e_isNot, e_lenS, e_lenT, e_lenL, e_int, e_abs, e_max, e_min, e_tupT, e_tupL, e_listS, e_listT, e_listL, e_all, e_any, e_str, e_ixT, e_ixS, e_slT, e_slS, e_slL, e_revL, e_revS, e_trB, e_inS, gc_d, e_index, at_0, at_1, at_2, at_3, at_4, at_5, e_isLst (lst_at h1), e_append h1, true_and]
    refine ⟨by rw [sizeLine_eq]; omega, ?_⟩
    by_cases h5 : (1 : Int) < cs.length
    · rw [if_pos (by simpa using h5)]
      exact ⟨by omega, by show 2 ≤ sizeLine; decide, by rw [sizeLine_eq]; omega, J_set _ _ _ _ hJ44 h1 (badR_lot (lot_rev hsn hcs (by omega)) (by show (cs.reverse.length : Int) ≤ _; rw [List.length_reverse]; omega) lg1)⟩
    · rw [if_neg (by simpa using h5)]
      exact J_up _ _ hJ44
  subst e1
  simp only [w_dSeq, w_dSet, w_dExpr, w_dRet, w_dRetN, w_dNext, w_dBrk, w_dCnt, w_dIf, w_dAsg, w_dPar, w_dParN, w_dPut, w_dC, w_dVar, w_dBin, w_dUn, w_dCB, w_dNil, w_dCons, w_dCall, w_dBT, w_dTr, w_dNot, w_dAnd, w_dOr, w_dAndV, w_dOrV, w_dNotV, w_dIfE, w_dTup, w_dLst, w_dIx, w_dIsi, w_dIn, w_dNotIn, w_dONone, w_dOSome, w_dSl, w_dBM, w_dChain, w_dListRg1, w_dIR1, w_dIR2, w_dIA, w_dFor, w_dLc, w_dYes, okR_ok, List.getElem?_cons_zero, List.getElem?_cons_succ, Option.some.injEq, exists_eq_left', exists_eq_left, List.map_cons, List.map_nil, List.length_cons, List.length_nil, List.replicate_succ, List.replicate_zero, List.cons_append, List.nil_append, List.append_nil, List.set_cons_zero, List.set_cons_succ, Vl.d.injEq, Vl.l.injEq, D.int.injEq, D.bl.injEq, D.str.injEq, D.tup.injEq, Nat.sub_self, Nat.reduceSub, Nat.reduceAdd, allD, Option.map_some]
  exact J_end _ _ (by decide) hJ45
end L71
end

section
set_option Elab.async false
set_option linter.all false
set_option maxRecDepth 100000
set_option autoImplicit false
set_option maxHeartbeats 2000002
namespace L71
open PySem L2 TL DL
/-! ### the offered machine -/
theorem w_offered {S : Store} {s n : Nat} {ns : List Int} {ds : List D} {Q : Vl → Store → Prop} (hs : S[s]? = some (.frz (ns.map .int))) (hb : ∀ z ∈ ns, z.natAbs.log2 ≤ 1048576) (hl : ns.length ≤ 63)
    (h : S[n]? = some (.lst ds)) (hp : Pool ds)
    (q : ∀ (sg : List Nat) (many : Nat) (go : List (List Nat)) (tell : List (List D)) (en : List D) (ds' : List D), Pool ds' → sg.Nodup → (∀ c ∈ sg, c ∈ AL) → 1 ≤ sg.length → sg.length ≤ 8 → 1 ≤ many → many ≤ 120 → Mach sg.length many go tell en →
      Q (.d (enc sg go tell en)) (S.set n (.lst ds'))) : okR (m_law_offered [.l s, .l n] S) Q := by
  have hn := lt_of_at h
  have hsn : n ≠ s := fun e => by rw [e, hs] at h; cases h
  unfold m_law_offered
  refine w_runFn rfl ?_
  unfold t_law_offered
  refine seq_cut (fun ρ' S' => ∃ (sg : List Nat) (ds' : List D), Pool ds' ∧ sg.Nodup ∧ (∀ c ∈ sg, c ∈ AL) ∧ 1 ≤ sg.length ∧ sg.length ≤ 8 ∧ ρ' = [some (.l s), some (.l n), some (.d (.str sg)), none] ∧ S' = S.set n (.lst ds')) ?_ fun ρ2 S2 ⟨sg, ds1, hp1, g1, g2, g3, g4, e1, e2⟩ => ?_
  · simp only [w_dSeq, w_dSet, w_dExpr, w_dRet, w_dRetN, w_dNext, w_dBrk, w_dCnt, w_dIf, w_dAsg, w_dPar, w_dParN, w_dPut, w_dC, w_dVar, w_dBin, w_dUn, w_dCB, w_dNil, w_dCons, w_dCall, w_dBT, w_dTr, w_dNot, w_dAnd, w_dOr, w_dAndV, w_dOrV, w_dNotV, w_dIfE, w_dTup, w_dLst, w_dIx, w_dIsi, w_dIn, w_dNotIn, w_dONone, w_dOSome, w_dSl, w_dBM, w_dChain, w_dListRg1, w_dIR1, w_dIR2, w_dIA, w_dFor, w_dLc, w_dYes, okR_ok, List.getElem?_cons_zero, List.getElem?_cons_succ, Option.some.injEq, exists_eq_left', exists_eq_left, List.map_cons, List.map_nil, List.length_cons, List.length_nil, List.replicate_succ, List.replicate_zero, List.cons_append, List.nil_append, List.append_nil, List.set_cons_zero, List.set_cons_succ, Vl.d.injEq, Vl.l.injEq, D.int.injEq, D.bl.injEq, D.str.injEq, D.tup.injEq, Nat.sub_self, Nat.reduceSub, Nat.reduceAdd, allD, Option.map_some, e_lt, e_le, e_gt, e_ge, e_sub, e_add, e_addS, e_addT, e_mul, e_mulS, e_mod, e_fdiv, e_pow, e_neg, e_eqI, e_neI, e_eqS, e_neS, e_is, e_isNot, e_lenS, e_lenT, e_lenL, e_int, e_abs, e_max, e_min, e_tupT, e_tupL, e_listS, e_listT, e_listL, e_all, e_any, e_str, e_ixT, e_ixS, e_slT, e_slS, e_slL, e_revL, e_revS, e_trB, e_inS, gc_d, e_index, at_0, at_1, at_2, at_3, at_4, at_5]
    refine w_take h hp fun k ds1 hp1 k0 k1 => ?_
    simp only [e_lt, e_le, e_gt, e_ge, e_sub, e_add, e_addS, e_addT, e_mul, e_mulS, e_mod, e_fdiv, e_pow, e_neg, e_eqI, e_neI, e_eqS, e_neS, e_is, e_isNot, e_lenS, e_lenT, e_lenL, e_int, e_abs, e_max, e_min, e_tupT, e_tupL, e_listS, e_listT, e_listL, e_all, e_any, e_str, e_ixT, e_ixS, e_slT, e_slS, e_slL, e_revL, e_revS, e_trB, e_inS, gc_d, e_index, at_0, at_1, at_2, at_3, at_4, at_5]
    obtain ⟨m, rfl⟩ : ∃ m : Nat, k = (m : Int) := ⟨k.toNat, by omega⟩
    rw [show (1 : Int) + (m : Int) = ((1 + m : Nat) : Int) by omega]
    refine w_signs (mem_at hn) hp1 (by omega) fun sg ds2 hp2 g1 g2 g3 => ?_
    rw [List.set_set]
    exact ⟨sg, ds2, hp2, g1, g2, by omega, by omega, rfl, rfl⟩
  subst e1 e2
  refine seq_cut (fun ρ' S' => ∃ (ds' : List D), Pool ds' ∧ ρ' = [some (.l s), some (.l n), some (.d (.str sg)), none] ∧ S' = S.set n (.lst ds')) ?_ fun ρ2 S2 ⟨ds2, hp2, e1, e2⟩ => ?_
  · simp only [w_dSeq, w_dSet, w_dExpr, w_dRet, w_dRetN, w_dNext, w_dBrk, w_dCnt, w_dIf, w_dAsg, w_dPar, w_dParN, w_dPut, w_dC, w_dVar, w_dBin, w_dUn, w_dCB, w_dNil, w_dCons, w_dCall, w_dBT, w_dTr, w_dNot, w_dAnd, w_dOr, w_dAndV, w_dOrV, w_dNotV, w_dIfE, w_dTup, w_dLst, w_dIx, w_dIsi, w_dIn, w_dNotIn, w_dONone, w_dOSome, w_dSl, w_dBM, w_dChain, w_dListRg1, w_dIR1, w_dIR2, w_dIA, w_dFor, w_dLc, w_dYes, okR_ok, List.getElem?_cons_zero, List.getElem?_cons_succ, Option.some.injEq, exists_eq_left', exists_eq_left, List.map_cons, List.map_nil, List.length_cons, List.length_nil, List.replicate_succ, List.replicate_zero, List.cons_append, List.nil_append, List.append_nil, List.set_cons_zero, List.set_cons_succ, Vl.d.injEq, Vl.l.injEq, D.int.injEq, D.bl.injEq, D.str.injEq, D.tup.injEq, Nat.sub_self, Nat.reduceSub, Nat.reduceAdd, allD, Option.map_some, e_lt, e_le, e_gt, e_ge, e_sub, e_add, e_addS, e_addT, e_mul, e_mulS, e_mod, e_fdiv, e_pow, e_neg, e_eqI, e_neI, e_eqS, e_neS, e_is, e_isNot, e_lenS, e_lenT, e_lenL, e_int, e_abs, e_max, e_min, e_tupT, e_tupL, e_listS, e_listT, e_listL, e_all, e_any, e_str, e_ixT, e_ixS, e_slT, e_slS, e_slL, e_revL, e_revS, e_trB, e_inS, gc_d, e_index, at_0, at_1, at_2, at_3, at_4, at_5]
    refine w_take (mem_at hn) hp1 fun k ds2 hp2 k0 k1 => ?_
    rw [List.set_set]
    simp only [w_dSeq, w_dSet, w_dExpr, w_dRet, w_dRetN, w_dNext, w_dBrk, w_dCnt, w_dIf, w_dAsg, w_dPar, w_dParN, w_dPut, w_dC, w_dVar, w_dBin, w_dUn, w_dCB, w_dNil, w_dCons, w_dCall, w_dBT, w_dTr, w_dNot, w_dAnd, w_dOr, w_dAndV, w_dOrV, w_dNotV, w_dIfE, w_dTup, w_dLst, w_dIx, w_dIsi, w_dIn, w_dNotIn, w_dONone, w_dOSome, w_dSl, w_dBM, w_dChain, w_dListRg1, w_dIR1, w_dIR2, w_dIA, w_dFor, w_dLc, w_dYes, okR_ok, List.getElem?_cons_zero, List.getElem?_cons_succ, Option.some.injEq, exists_eq_left', exists_eq_left, List.map_cons, List.map_nil, List.length_cons, List.length_nil, List.replicate_succ, List.replicate_zero, List.cons_append, List.nil_append, List.append_nil, List.set_cons_zero, List.set_cons_succ, Vl.d.injEq, Vl.l.injEq, D.int.injEq, D.bl.injEq, D.str.injEq, D.tup.injEq, Nat.sub_self, Nat.reduceSub, Nat.reduceAdd, allD, Option.map_some, e_lt, e_le, e_gt, e_ge, e_sub, e_add, e_addS, e_addT, e_mul, e_mulS, e_mod, e_fdiv, e_pow, e_neg, e_eqI, e_neI, e_eqS, e_neS, e_is, e_isNot, e_lenS, e_lenT, e_lenL, e_int, e_abs, e_max, e_min, e_tupT, e_tupL, e_listS, e_listT, e_listL, e_all, e_any, e_str, e_ixT, e_ixS, e_slT, e_slS, e_slL, e_revL, e_revS, e_trB, e_inS, gc_d, e_index, at_0, at_1, at_2, at_3, at_4, at_5]
    split
    · rename_i hif
      refine w_take (mem_at hn) hp2 fun k ds3 hp3 k0 k1 => ?_
      rw [List.set_set]
      simp only [e_lt, e_le, e_gt, e_ge, e_sub, e_add, e_addS, e_addT, e_mul, e_mulS, e_mod, e_fdiv, e_pow, e_neg, e_eqI, e_neI, e_eqS, e_neS, e_is, e_isNot, e_lenS, e_lenT, e_lenL, e_int, e_abs, e_max, e_min, e_tupT, e_tupL, e_listS, e_listT, e_listL, e_all, e_any, e_str, e_ixT, e_ixS, e_slT, e_slS, e_slL, e_revL, e_revS, e_trB, e_inS, gc_d, e_index, at_0, at_1, at_2, at_3, at_4, at_5]
      obtain ⟨m, rfl⟩ : ∃ m : Nat, k = (m : Int) := ⟨k.toNat, by omega⟩
      rw [show (1 : Int) + (m : Int) = ((1 + m : Nat) : Int) by omega]
      refine w_machine (many := 1 + m) (mem_at hn) hp3 (by omega) (by omega) (by omega) fun go tell en ds4 hp4 M => ?_
      rw [List.set_set]
      simp only [e_lt, e_le, e_gt, e_ge, e_sub, e_add, e_addS, e_addT, e_mul, e_mulS, e_mod, e_fdiv, e_pow, e_neg, e_eqI, e_neI, e_eqS, e_neS, e_is, e_isNot, e_lenS, e_lenT, e_lenL, e_int, e_abs, e_max, e_min, e_tupT, e_tupL, e_listS, e_listT, e_listL, e_all, e_any, e_str, e_ixT, e_ixS, e_slT, e_slS, e_slL, e_revL, e_revS, e_trB, e_inS, gc_d, e_index, at_0, at_1, at_2, at_3, at_4, at_5]
      have e := q sg (1 + m) go tell en ds4 hp4 g1 g2 g3 g4 (by omega) (by omega) M
      rwa [show (S.set n (.lst ds4)).take S.length = S.set n (.lst ds4) from List.take_of_length_le (by simp)]
    · exact ⟨ds2, hp2, trivial, rfl⟩
  subst e1 e2
  simp only [w_dSeq, w_dSet, w_dExpr, w_dRet, w_dRetN, w_dNext, w_dBrk, w_dCnt, w_dIf, w_dAsg, w_dPar, w_dParN, w_dPut, w_dC, w_dVar, w_dBin, w_dUn, w_dCB, w_dNil, w_dCons, w_dCall, w_dBT, w_dTr, w_dNot, w_dAnd, w_dOr, w_dAndV, w_dOrV, w_dNotV, w_dIfE, w_dTup, w_dLst, w_dIx, w_dIsi, w_dIn, w_dNotIn, w_dONone, w_dOSome, w_dSl, w_dBM, w_dChain, w_dListRg1, w_dIR1, w_dIR2, w_dIA, w_dFor, w_dLc, w_dYes, okR_ok, List.getElem?_cons_zero, List.getElem?_cons_succ, Option.some.injEq, exists_eq_left', exists_eq_left, List.map_cons, List.map_nil, List.length_cons, List.length_nil, List.replicate_succ, List.replicate_zero, List.cons_append, List.nil_append, List.append_nil, List.set_cons_zero, List.set_cons_succ, Vl.d.injEq, Vl.l.injEq, D.int.injEq, D.bl.injEq, D.str.injEq, D.tup.injEq, Nat.sub_self, Nat.reduceSub, Nat.reduceAdd, allD, Option.map_some, e_lt, e_le, e_gt, e_ge, e_sub, e_add, e_addS, e_addT, e_mul, e_mulS, e_mod, e_fdiv, e_pow, e_neg, e_eqI, e_neI, e_eqS, e_neS, e_is, e_isNot, e_lenS, e_lenT, e_lenL, e_int, e_abs, e_max, e_min, e_tupT, e_tupL, e_listS, e_listT, e_listL, e_all, e_any, e_str, e_ixT, e_ixS, e_slT, e_slS, e_slL, e_revL, e_revS, e_trB, e_inS, gc_d, e_index, at_0, at_1, at_2, at_3, at_4, at_5]
  refine w_pool (k := 1) (many := 2200) (ns := ns) (by rw [set_other hsn]; exact hs) hb hl (by decide) (by decide) (by decide) (by decide) fun bulk hpb => ?_
  refine w_take (old_at' hn) hp2 fun k ds3 hp3 k0 k1 => ?_
  simp only [e_lt, e_le, e_gt, e_ge, e_sub, e_add, e_addS, e_addT, e_mul, e_mulS, e_mod, e_fdiv, e_pow, e_neg, e_eqI, e_neI, e_eqS, e_neS, e_is, e_isNot, e_lenS, e_lenT, e_lenL, e_int, e_abs, e_max, e_min, e_tupT, e_tupL, e_listS, e_listT, e_listL, e_all, e_any, e_str, e_ixT, e_ixS, e_slT, e_slS, e_slL, e_revL, e_revS, e_trB, e_inS, gc_d, e_index, at_0, at_1, at_2, at_3, at_4, at_5]
  obtain ⟨m, rfl⟩ : ∃ m : Nat, k = (m : Int) := ⟨k.toNat, by omega⟩
  rw [show (60 : Int) + (m : Int) = ((60 + m : Nat) : Int) by omega]
  rw [set_old' hn, set_len]
  refine w_machine (many := 60 + m) new_at' hpb (by omega) (by omega) (by omega) fun go tell en ds4 hp4 M => ?_
  rw [set_new']
  simp only [e_lt, e_le, e_gt, e_ge, e_sub, e_add, e_addS, e_addT, e_mul, e_mulS, e_mod, e_fdiv, e_pow, e_neg, e_eqI, e_neI, e_eqS, e_neS, e_is, e_isNot, e_lenS, e_lenT, e_lenL, e_int, e_abs, e_max, e_min, e_tupT, e_tupL, e_listS, e_listT, e_listL, e_all, e_any, e_str, e_ixT, e_ixS, e_slT, e_slS, e_slL, e_revL, e_revS, e_trB, e_inS, gc_d, e_index, at_0, at_1, at_2, at_3, at_4, at_5]
  have e := q sg (60 + m) go tell en ds3 hp3 g1 g2 g3 g4 (by omega) (by omega) M
  rwa [take_set_new]
end L71
end

section
set_option Elab.async false
set_option linter.all false
set_option maxRecDepth 100000
set_option autoImplicit false
set_option maxHeartbeats 2000003
namespace L71
open PySem L2 TL DL
/-! ### the refusals -/
theorem AL_not : (45 ∉ AL) ∧ (32 ∉ AL) ∧ (10 ∉ AL) := by decide +kernel
theorem w_err_same {e : Er} {sg : List Nat} {go : List (List Nat)} {tell : List (List D)} {en : List D} {cs gl : List Nat} {d y : D} {S : Store} {Q : Vl → Store → Prop} (h : m_check_text [.d (.str sg), .d d, .d (.int 400)] S = .er e S) (hf : e.fs.isEmpty = false) (hs : sx_law_error e = some y) (q : Q (.d y) S) :
    okR (m_law_error [.d (enc sg go tell en), .d (ruleD cs gl), .d d] S) Q := w_error h hf hs q
theorem okU : okP 1 (.tup [.str [117, 110, 102, 105, 116], .str [116, 101, 120, 116]]) := ⟨by decide, fun d hd => by
  simp only [List.mem_cons, List.not_mem_nil, or_false] at hd
  rcases hd with rfl | rfl <;> trivial⟩
theorem okL : okP 1 (.tup [.str [108, 111, 110, 103], .int 400]) := ⟨by decide, fun d hd => by
  simp only [List.mem_cons, List.not_mem_nil, or_false] at hd
  rcases hd with rfl | rfl <;> trivial⟩
theorem w_refused {S : Store} {n many : Nat} {ds : List D} {sg cs gl : List Nat} {go : List (List Nat)} {tell : List (List D)} {en : List D} {Q : Vl → Store → Prop} (h : S[n]? = some (.lst ds)) (hp : Pool ds) (M : Mach sg.length many go tell en) (R : Rule many cs gl)
    (hs : sg.length ≤ 8) (hs1 : 1 ≤ sg.length) (ha : ∀ c ∈ sg, c ∈ AL) (hcs : cs.length ≤ 8) (m1 : 1 ≤ many)
    (q : ∀ S', Q (.d (.bl true)) S') : okR (m_law_refused [.l n, .d (enc sg go tell en), .d (ruleD cs gl)] S) Q := by
  have hn := lt_of_at h
  have hs0 : sg ≠ [] := by rintro rfl; simp at hs1
  unfold m_law_refused
  refine w_runFn rfl ?_
  unfold t_law_refused
  refine seq_cut (fun ρ' S' => ρ' = [some (.l n), some (.d (enc sg go tell en)), some (.d (ruleD cs gl)), some (.d (.str sg)), none, none, none, none, none, none] ∧ S' = S) ?_ fun ρ2 S2 ⟨e1, e2⟩ => ?_
  · unfold enc
    simp only [w_dSeq, w_dSet, w_dExpr, w_dRet, w_dRetN, w_dNext, w_dBrk, w_dCnt, w_dIf, w_dAsg, w_dPar, w_dParN, w_dPut, w_dC, w_dVar, w_dBin, w_dUn, w_dCB, w_dNil, w_dCons, w_dCall, w_dBT, w_dTr, w_dNot, w_dAnd, w_dOr, w_dAndV, w_dOrV, w_dNotV, w_dIfE, w_dTup, w_dLst, w_dIx, w_dIsi, w_dIn, w_dNotIn, w_dONone, w_dOSome, w_dSl, w_dBM, w_dChain, w_dListRg1, w_dIR1, w_dIR2, w_dIA, w_dFor, w_dLc, w_dYes, okR_ok, List.getElem?_cons_zero, List.getElem?_cons_succ, Option.some.injEq, exists_eq_left', exists_eq_left, List.map_cons, List.map_nil, List.length_cons, List.length_nil, List.replicate_succ, List.replicate_zero, List.cons_append, List.nil_append, List.append_nil, List.set_cons_zero, List.set_cons_succ, Vl.d.injEq, Vl.l.injEq, D.int.injEq, D.bl.injEq, D.str.injEq, D.tup.injEq, Nat.sub_self, Nat.reduceSub, Nat.reduceAdd, allD, Option.map_some, e_lt, e_le, e_gt, e_ge, e_sub, e_add, e_addS, e_addT, e_mul, e_mulS, e_mod, e_fdiv, e_pow, e_neg, e_eqI, e_neI, e_eqS, e_neS, e_is, e_isNot, e_lenS, e_lenT, e_lenL, e_int, e_abs, e_max, e_min, e_tupT, e_tupL, e_listS, e_listT, e_listL, e_all, e_any, e_str, e_ixT, e_ixS, e_slT, e_slS, e_slL, e_revL, e_revS, e_trB, e_inS, gc_d, e_index, at_0, at_1, at_2, at_3, at_4, at_5]
    exact ⟨trivial, trivial⟩
  subst e1 e2
  refine seq_cut (fun ρ' S' => ∃ (t : List Nat) (ds' : List D), Pool ds' ∧ (∀ c ∈ t, c ∈ sg) ∧ t.length ≤ 12 ∧ ρ' = [some (.l n), some (.d (enc sg go tell en)), some (.d (ruleD cs gl)), some (.d (.str sg)), some (.d (.str t)), none, none, none, none, none] ∧ S' = S2.set n (.lst ds')) ?_ fun ρ2 S3 ⟨t, ds1, hp1, ht, htl, e1, e2⟩ => ?_
  · simp only [w_dSeq, w_dSet, w_dExpr, w_dRet, w_dRetN, w_dNext, w_dBrk, w_dCnt, w_dIf, w_dAsg, w_dPar, w_dParN, w_dPut, w_dC, w_dVar, w_dBin, w_dUn, w_dCB, w_dNil, w_dCons, w_dCall, w_dBT, w_dTr, w_dNot, w_dAnd, w_dOr, w_dAndV, w_dOrV, w_dNotV, w_dIfE, w_dTup, w_dLst, w_dIx, w_dIsi, w_dIn, w_dNotIn, w_dONone, w_dOSome, w_dSl, w_dBM, w_dChain, w_dListRg1, w_dIR1, w_dIR2, w_dIA, w_dFor, w_dLc, w_dYes, okR_ok, List.getElem?_cons_zero, List.getElem?_cons_succ, Option.some.injEq, exists_eq_left', exists_eq_left, List.map_cons, List.map_nil, List.length_cons, List.length_nil, List.replicate_succ, List.replicate_zero, List.cons_append, List.nil_append, List.append_nil, List.set_cons_zero, List.set_cons_succ, Vl.d.injEq, Vl.l.injEq, D.int.injEq, D.bl.injEq, D.str.injEq, D.tup.injEq, Nat.sub_self, Nat.reduceSub, Nat.reduceAdd, allD, Option.map_some, e_lt, e_le, e_gt, e_ge, e_sub, e_add, e_addS, e_addT, e_mul, e_mulS, e_mod, e_fdiv, e_pow, e_neg, e_eqI, e_neI, e_eqS, e_neS, e_is, e_isNot, e_lenS, e_lenT, e_lenL, e_int, e_abs, e_max, e_min, e_tupT, e_tupL, e_listS, e_listT, e_listL, e_all, e_any, e_str, e_ixT, e_ixS, e_slT, e_slS, e_slL, e_revL, e_revS, e_trB, e_inS, gc_d, e_index, at_0, at_1, at_2, at_3, at_4, at_5]
    refine w_text (most := 12) h hp (by omega) hs0 (by omega) fun t ds1 hp1 ht hl => ?_
    exact ⟨t, ds1, hp1, ht, hl, rfl, rfl⟩
  subst e1 e2
  refine seq_cut (fun ρ' S' => ∃ (a : Nat) (ds' : List D), Pool ds' ∧ a ≤ t.length ∧ ρ' = [some (.l n), some (.d (enc sg go tell en)), some (.d (ruleD cs gl)), some (.d (.str sg)), some (.d (.str t)), some (.d (.int a)), none, none, none, none] ∧ S' = S2.set n (.lst ds')) ?_ fun ρ2 S3 ⟨a, ds2, hp2, hat, e1, e2⟩ => ?_
  · simp only [w_dSeq, w_dSet, w_dExpr, w_dRet, w_dRetN, w_dNext, w_dBrk, w_dCnt, w_dIf, w_dAsg, w_dPar, w_dParN, w_dPut, w_dC, w_dVar, w_dBin, w_dUn, w_dCB, w_dNil, w_dCons, w_dCall, w_dBT, w_dTr, w_dNot, w_dAnd, w_dOr, w_dAndV, w_dOrV, w_dNotV, w_dIfE, w_dTup, w_dLst, w_dIx, w_dIsi, w_dIn, w_dNotIn, w_dONone, w_dOSome, w_dSl, w_dBM, w_dChain, w_dListRg1, w_dIR1, w_dIR2, w_dIA, w_dFor, w_dLc, w_dYes, okR_ok, List.getElem?_cons_zero, List.getElem?_cons_succ, Option.some.injEq, exists_eq_left', exists_eq_left, List.map_cons, List.map_nil, List.length_cons, List.length_nil, List.replicate_succ, List.replicate_zero, List.cons_append, List.nil_append, List.append_nil, List.set_cons_zero, List.set_cons_succ, Vl.d.injEq, Vl.l.injEq, D.int.injEq, D.bl.injEq, D.str.injEq, D.tup.injEq, Nat.sub_self, Nat.reduceSub, Nat.reduceAdd, allD, Option.map_some, e_lt, e_le, e_gt, e_ge, e_sub, e_add, e_addS, e_addT, e_mul, e_mulS, e_mod, e_fdiv, e_pow, e_neg, e_eqI, e_neI, e_eqS, e_neS, e_is, e_isNot, e_lenS, e_lenT, e_lenL, e_int, e_abs, e_max, e_min, e_tupT, e_tupL, e_listS, e_listT, e_listL, e_all, e_any, e_str, e_ixT, e_ixS, e_slT, e_slS, e_slL, e_revL, e_revS, e_trB, e_inS, gc_d, e_index, at_0, at_1, at_2, at_3, at_4, at_5]
    refine ⟨by rw [sizeLine_eq]; omega, ?_⟩
    refine w_take (mem_at hn) hp1 fun k ds2 hp2 k0 k1 => ?_
    rw [List.set_set]
    obtain ⟨m, rfl⟩ : ∃ m : Nat, k = (m : Int) := ⟨k.toNat, by omega⟩
    exact ⟨m, ds2, hp2, by omega, rfl, rfl⟩
  subst e1 e2
  refine seq_cut (fun ρ' S' => ∃ (x : Nat), x ∉ sg ∧ ρ' = [some (.l n), some (.d (enc sg go tell en)), some (.d (ruleD cs gl)), some (.d (.str sg)), some (.d (.str t)), some (.d (.int a)), some (.d (.str [x])), none, none, none]) ?_ fun ρ2 S3 ⟨x, hx, e1⟩ => ?_
  · simp only [w_dSeq, w_dSet, w_dExpr, w_dRet, w_dRetN, w_dNext, w_dBrk, w_dCnt, w_dIf, w_dAsg, w_dPar, w_dParN, w_dPut, w_dC, w_dVar, w_dBin, w_dUn, w_dCB, w_dNil, w_dCons, w_dCall, w_dBT, w_dTr, w_dNot, w_dAnd, w_dOr, w_dAndV, w_dOrV, w_dNotV, w_dIfE, w_dTup, w_dLst, w_dIx, w_dIsi, w_dIn, w_dNotIn, w_dONone, w_dOSome, w_dSl, w_dBM, w_dChain, w_dListRg1, w_dIR1, w_dIR2, w_dIA, w_dFor, w_dLc, w_dYes, okR_ok, List.getElem?_cons_zero, List.getElem?_cons_succ, Option.some.injEq, exists_eq_left', exists_eq_left, List.map_cons, List.map_nil, List.length_cons, List.length_nil, List.replicate_succ, List.replicate_zero, List.cons_append, List.nil_append, List.append_nil, List.set_cons_zero, List.set_cons_succ, Vl.d.injEq, Vl.l.injEq, D.int.injEq, D.bl.injEq, D.str.injEq, D.tup.injEq, Nat.sub_self, Nat.reduceSub, Nat.reduceAdd, allD, Option.map_some, e_lt, e_le, e_gt, e_ge, e_sub, e_add, e_addS, e_addT, e_mul, e_mulS, e_mod, e_fdiv, e_pow, e_neg, e_eqI, e_neI, e_eqS, e_neS, e_is, e_isNot, e_lenS, e_lenT, e_lenL, e_int, e_abs, e_max, e_min, e_tupT, e_tupL, e_listS, e_listT, e_listL, e_all, e_any, e_str, e_ixT, e_ixS, e_slT, e_slS, e_slL, e_revL, e_revS, e_trB, e_inS, gc_d, e_index, at_0, at_1, at_2, at_3, at_4, at_5]
    refine w_spare hs fun c hc => ?_
    refine ⟨_, rfl, by show 4 ≤ sizeLine; decide, ?_⟩
    refine w_take (old_at' hn) hp2 fun k ds3 hp3 k0 k1 => ?_
    rw [set_old' hn, set_len, e_ixL (lst_at new_at')]
    have hk : k = 0 ∨ k = 1 ∨ k = 2 ∨ k = 3 := by omega
    rcases hk with rfl | rfl | rfl | rfl
    · exact ⟨_, rfl, c, hc, rfl⟩
    · exact ⟨_, rfl, 45, fun h => AL_not.1 (ha _ h), rfl⟩
    · exact ⟨_, rfl, 32, fun h => AL_not.2.1 (ha _ h), rfl⟩
    · exact ⟨_, rfl, 10, fun h => AL_not.2.2 (ha _ h), rfl⟩
  subst e1
  refine seq_cut (fun ρ' S' => ∃ lo : List Nat, lo.length = 401 ∧ (∀ c ∈ lo, c ∈ sg) ∧ ρ' = [some (.l n), some (.d (enc sg go tell en)), some (.d (ruleD cs gl)), some (.d (.str sg)), some (.d (.str t)), some (.d (.int a)), some (.d (.str [x])), some (.d (.str lo)), none, none]) ?_ fun ρ2 S4 ⟨lo, hlo, hlc, e1⟩ => ?_
  · simp only [w_dSeq, w_dSet, w_dExpr, w_dRet, w_dRetN, w_dNext, w_dBrk, w_dCnt, w_dIf, w_dAsg, w_dPar, w_dParN, w_dPut, w_dC, w_dVar, w_dBin, w_dUn, w_dCB, w_dNil, w_dCons, w_dCall, w_dBT, w_dTr, w_dNot, w_dAnd, w_dOr, w_dAndV, w_dOrV, w_dNotV, w_dIfE, w_dTup, w_dLst, w_dIx, w_dIsi, w_dIn, w_dNotIn, w_dONone, w_dOSome, w_dSl, w_dBM, w_dChain, w_dListRg1, w_dIR1, w_dIR2, w_dIA, w_dFor, w_dLc, w_dYes, okR_ok, List.getElem?_cons_zero, List.getElem?_cons_succ, Option.some.injEq, exists_eq_left', exists_eq_left, List.map_cons, List.map_nil, List.length_cons, List.length_nil, List.replicate_succ, List.replicate_zero, List.cons_append, List.nil_append, List.append_nil, List.set_cons_zero, List.set_cons_succ, Vl.d.injEq, Vl.l.injEq, D.int.injEq, D.bl.injEq, D.str.injEq, D.tup.injEq, Nat.sub_self, Nat.reduceSub, Nat.reduceAdd, allD, Option.map_some, e_lt, e_le, e_gt, e_ge, e_sub, e_add, e_addS, e_addT, e_mul, e_mulS, e_mod, e_fdiv, e_pow, e_neg, e_eqI, e_neI, e_eqS, e_neS, e_is, e_isNot, e_lenS, e_lenT, e_lenL, e_int, e_abs, e_max, e_min, e_tupT, e_tupL, e_listS, e_listT, e_listL, e_all, e_any, e_str, e_ixT, e_ixS, e_slT, e_slS, e_slL, e_revL, e_revS, e_trB, e_inS, gc_d, e_index, at_0, at_1, at_2, at_3, at_4, at_5]
    have e401 : (401 : Int).toNat = 401 := rfl
    rw [e401, show (401 : Int) = ((401 : Nat) : Int) from rfl, cut_to]
    refine ⟨by rw [sizeLine_eq]; omega, ?_, ?_, ?_⟩
    · simp only [Bool.and_eq_true, decide_eq_true_eq, List.length_append, sizeLine_eq]
      omega
    · rw [rep_len, List.length_append, sizeLine_eq]; omega
    · refine ⟨_, ?_, ?_, rfl⟩
      · rw [List.length_take, rep_len, List.length_append]; omega
      · intro c hc
        rcases List.mem_append.mp (rep_mem (List.mem_of_mem_take hc)) with h | h
        · exact ht c h
        · exact h
  subst e1
  have b1 : ∀ p q : List Nat, p.length ≤ 1000 → q.length ≤ 1000 → badT sg (.str (p ++ x :: q)) := fun p q hp hq => ⟨by rw [List.length_append, List.length_cons]; omega, x, by simp, hx⟩
  refine seq_cut (fun ρ' S' => ∃ w, ρ' = [some (.l n), some (.d (enc sg go tell en)), some (.d (ruleD cs gl)), some (.d (.str sg)), some (.d (.str t)), some (.d (.int a)), some (.d (.str [x])), some (.d (.str lo)), w, none]) ?_ fun ρ2 S5 ⟨w, e1⟩ => ?_
  · simp only [w_dSeq, w_dSet, w_dExpr, w_dRet, w_dRetN, w_dNext, w_dBrk, w_dCnt, w_dIf, w_dAsg, w_dPar, w_dParN, w_dPut, w_dC, w_dVar, w_dBin, w_dUn, w_dCB, w_dNil, w_dCons, w_dCall, w_dBT, w_dTr, w_dNot, w_dAnd, w_dOr, w_dAndV, w_dOrV, w_dNotV, w_dIfE, w_dTup, w_dLst, w_dIx, w_dIsi, w_dIn, w_dNotIn, w_dONone, w_dOSome, w_dSl, w_dBM, w_dChain, w_dListRg1, w_dIR1, w_dIR2, w_dIA, w_dFor, w_dLc, w_dYes, okR_ok, List.getElem?_cons_zero, List.getElem?_cons_succ, Option.some.injEq, exists_eq_left', exists_eq_left, List.map_cons, List.map_nil, List.length_cons, List.length_nil, List.replicate_succ, List.replicate_zero, List.cons_append, List.nil_append, List.append_nil, List.set_cons_zero, List.set_cons_succ, Vl.d.injEq, Vl.l.injEq, D.int.injEq, D.bl.injEq, D.str.injEq, D.tup.injEq, Nat.sub_self, Nat.reduceSub, Nat.reduceAdd, allD, Option.map_some, e_lt, e_le, e_gt, e_ge, e_sub, e_add, e_addS, e_addT, e_mul, e_mulS, e_mod, e_fdiv, e_pow, e_neg, e_eqI, e_neI, e_eqS, e_neS, e_is, e_isNot, e_lenS, e_lenT, e_lenL, e_int, e_abs, e_max, e_min, e_tupT, e_tupL, e_listS, e_listT, e_listL, e_all, e_any, e_str, e_ixT, e_ixS, e_slT, e_slS, e_slL, e_revL, e_revS, e_trB, e_inS, gc_d, e_index, at_0, at_1, at_2, at_3, at_4, at_5]
    rw [cut_to, cut_from, show (400 : Int) = ((400 : Nat) : Int) from rfl, cut_to]
    have z1 : (t.take a).length ≤ 12 := by rw [List.length_take]; omega
    have z2 : (t.drop a).length ≤ 12 := by rw [List.length_drop]; omega
    have z3 : (lo.take 400).length = 400 := by rw [List.length_take]; omega
    refine ⟨by rw [sizeLine_eq]; omega, by rw [sizeLine_eq]; omega, by rw [sizeLine_eq]; omega, by rw [List.length_append, sizeLine_eq]; simp only [List.length_singleton]; omega, by rw [sizeLine_eq]; omega, by rw [sizeLine_eq]; omega, by rw [sizeLine_eq]; omega, by rw [sizeLine_eq]; omega, by decide, by decide, ?_⟩
    generalize hod : ([.str (t.take a ++ [x] ++ t.drop a), .str (lo.take 400 ++ [x]), .str (x :: lo), .non, .int t.length, .tup [.str t]] : List D) = od
    have hlst : lstAt (S4 ++ [.lst od]) S4.length = some od := lst_at new_at
    rw [iaQ_l, forQ_lst]
    refine ⟨by rw [hlst]; rfl, od, hlst, ?_⟩
    refine loopL_inv (fun i ρ' S' => (∃ w', ρ' = [some (.l n), some (.d (enc sg go tell en)), some (.d (ruleD cs gl)), some (.d (.str sg)), some (.d (.str t)), some (.d (.int a)), some (.d (.str [x])), some (.d (.str lo)), w', none]) ∧ lstAt S' S4.length = some od) ⟨⟨_, rfl⟩, hlst⟩ (fun i ρ S ⟨_, h⟩ => h) ?_ ?_
    · rintro i y ρ5 S5 hy ⟨⟨w', rfl⟩, hl5⟩
      have hm := List.mem_of_getElem? hy
      refine ⟨_, rfl, ?_⟩
      simp only [w_dSeq, w_dSet, w_dExpr, w_dRet, w_dRetN, w_dNext, w_dBrk, w_dCnt, w_dIf, w_dAsg, w_dPar, w_dParN, w_dPut, w_dC, w_dVar, w_dBin, w_dUn, w_dCB, w_dNil, w_dCons, w_dCall, w_dBT, w_dTr, w_dNot, w_dAnd, w_dOr, w_dAndV, w_dOrV, w_dNotV, w_dIfE, w_dTup, w_dLst, w_dIx, w_dIsi, w_dIn, w_dNotIn, w_dONone, w_dOSome, w_dSl, w_dBM, w_dChain, w_dListRg1, w_dIR1, w_dIR2, w_dIA, w_dFor, w_dLc, w_dYes, okR_ok, List.getElem?_cons_zero, List.getElem?_cons_succ, Option.some.injEq, exists_eq_left', exists_eq_left, List.map_cons, List.map_nil, List.length_cons, List.length_nil, List.replicate_succ, List.replicate_zero, List.cons_append, List.nil_append, List.append_nil, List.set_cons_zero, List.set_cons_succ, Vl.d.injEq, Vl.l.injEq, D.int.injEq, D.bl.injEq, D.str.injEq, D.tup.injEq, Nat.sub_self, Nat.reduceSub, Nat.reduceAdd, allD, Option.map_some]
      refine w_error (e := erU) (check_bad ?_) rfl sx_U ?_
      · rw [← hod] at hm
        simp only [List.mem_cons, List.not_mem_nil, or_false] at hm
        rcases hm with rfl | rfl | rfl | rfl | rfl | rfl
        · rw [List.append_assoc]; exact b1 (t.take a) (t.drop a) (by omega) (by omega)
        · exact b1 (lo.take 400) [] (by omega) (by decide)
        · exact b1 [] lo (by decide) (by omega)
        · exact trivial
        · exact trivial
        · exact trivial
      simp only [w_dSeq, w_dSet, w_dExpr, w_dRet, w_dRetN, w_dNext, w_dBrk, w_dCnt, w_dIf, w_dAsg, w_dPar, w_dParN, w_dPut, w_dC, w_dVar, w_dBin, w_dUn, w_dCB, w_dNil, w_dCons, w_dCall, w_dBT, w_dTr, w_dNot, w_dAnd, w_dOr, w_dAndV, w_dOrV, w_dNotV, w_dIfE, w_dTup, w_dLst, w_dIx, w_dIsi, w_dIn, w_dNotIn, w_dONone, w_dOSome, w_dSl, w_dBM, w_dChain, w_dListRg1, w_dIR1, w_dIR2, w_dIA, w_dFor, w_dLc, w_dYes, okR_ok, List.getElem?_cons_zero, List.getElem?_cons_succ, Option.some.injEq, exists_eq_left', exists_eq_left, List.map_cons, List.map_nil, List.length_cons, List.length_nil, List.replicate_succ, List.replicate_zero, List.cons_append, List.nil_append, List.append_nil, List.set_cons_zero, List.set_cons_succ, Vl.d.injEq, Vl.l.injEq, D.int.injEq, D.bl.injEq, D.str.injEq, D.tup.injEq, Nat.sub_self, Nat.reduceSub, Nat.reduceAdd, allD, Option.map_some, e_lt, e_le, e_gt, e_ge, e_sub, e_add, e_addS, e_addT, e_mul, e_mulS, e_mod, e_fdiv, e_pow, e_neg, e_eqI, e_neI, e_eqS, e_neS, e_is, e_isNot, e_lenS, e_lenT, e_lenL, e_int, e_abs, e_max, e_min, e_tupT, e_tupL, e_listS, e_listT, e_listL, e_all, e_any, e_str, e_ixT, e_ixS, e_slT, e_slS, e_slL, e_revL, e_revS, e_trB, e_inS, gc_d, e_index, at_0, at_1, at_2, at_3, at_4, at_5]
      refine ⟨by decide, ?_⟩
      refine w_same 1 _ okU recFuel _ _ (by decide) ?_
      simp only [w_dSeq, w_dSet, w_dExpr, w_dRet, w_dRetN, w_dNext, w_dBrk, w_dCnt, w_dIf, w_dAsg, w_dPar, w_dParN, w_dPut, w_dC, w_dVar, w_dBin, w_dUn, w_dCB, w_dNil, w_dCons, w_dCall, w_dBT, w_dTr, w_dNot, w_dAnd, w_dOr, w_dAndV, w_dOrV, w_dNotV, w_dIfE, w_dTup, w_dLst, w_dIx, w_dIsi, w_dIn, w_dNotIn, w_dONone, w_dOSome, w_dSl, w_dBM, w_dChain, w_dListRg1, w_dIR1, w_dIR2, w_dIA, w_dFor, w_dLc, w_dYes, okR_ok, List.getElem?_cons_zero, List.getElem?_cons_succ, Option.some.injEq, exists_eq_left', exists_eq_left, List.map_cons, List.map_nil, List.length_cons, List.length_nil, List.replicate_succ, List.replicate_zero, List.cons_append, List.nil_append, List.append_nil, List.set_cons_zero, List.set_cons_succ, Vl.d.injEq, Vl.l.injEq, D.int.injEq, D.bl.injEq, D.str.injEq, D.tup.injEq, Nat.sub_self, Nat.reduceSub, Nat.reduceAdd, allD, Option.map_some, e_lt, e_le, e_gt, e_ge, e_sub, e_add, e_addS, e_addT, e_mul, e_mulS, e_mod, e_fdiv, e_pow, e_neg, e_eqI, e_neI, e_eqS, e_neS, e_is, e_isNot, e_lenS, e_lenT, e_lenL, e_int, e_abs, e_max, e_min, e_tupT, e_tupL, e_listS, e_listT, e_listL, e_all, e_any, e_str, e_ixT, e_ixS, e_slT, e_slS, e_slL, e_revL, e_revS, e_trB, e_inS, gc_d, e_index, at_0, at_1, at_2, at_3, at_4, at_5, Bool.not_true, Bool.false_eq_true, if_false]
      exact ⟨⟨_, rfl⟩, hl5⟩
    · rintro ρ5 S5 ⟨⟨w', rfl⟩, _⟩
      exact ⟨w', rfl⟩
  subst e1
  refine seq_cut (fun ρ' S' => ∃ w, ρ' = [some (.l n), some (.d (enc sg go tell en)), some (.d (ruleD cs gl)), some (.d (.str sg)), some (.d (.str t)), some (.d (.int a)), some (.d (.str [x])), some (.d (.str lo)), w, none]) ?_ fun ρ2 S6 ⟨w, e1⟩ => ?_
  · simp only [w_dSeq, w_dSet, w_dExpr, w_dRet, w_dRetN, w_dNext, w_dBrk, w_dCnt, w_dIf, w_dAsg, w_dPar, w_dParN, w_dPut, w_dC, w_dVar, w_dBin, w_dUn, w_dCB, w_dNil, w_dCons, w_dCall, w_dBT, w_dTr, w_dNot, w_dAnd, w_dOr, w_dAndV, w_dOrV, w_dNotV, w_dIfE, w_dTup, w_dLst, w_dIx, w_dIsi, w_dIn, w_dNotIn, w_dONone, w_dOSome, w_dSl, w_dBM, w_dChain, w_dListRg1, w_dIR1, w_dIR2, w_dIA, w_dFor, w_dLc, w_dYes, okR_ok, List.getElem?_cons_zero, List.getElem?_cons_succ, Option.some.injEq, exists_eq_left', exists_eq_left, List.map_cons, List.map_nil, List.length_cons, List.length_nil, List.replicate_succ, List.replicate_zero, List.cons_append, List.nil_append, List.append_nil, List.set_cons_zero, List.set_cons_succ, Vl.d.injEq, Vl.l.injEq, D.int.injEq, D.bl.injEq, D.str.injEq, D.tup.injEq, Nat.sub_self, Nat.reduceSub, Nat.reduceAdd, allD, Option.map_some, e_lt, e_le, e_gt, e_ge, e_sub, e_add, e_addS, e_addT, e_mul, e_mulS, e_mod, e_fdiv, e_pow, e_neg, e_eqI, e_neI, e_eqS, e_neS, e_is, e_isNot, e_lenS, e_lenT, e_lenL, e_int, e_abs, e_max, e_min, e_tupT, e_tupL, e_listS, e_listT, e_listL, e_all, e_any, e_str, e_ixT, e_ixS, e_slT, e_slS, e_slL, e_revL, e_revS, e_trB, e_inS, gc_d, e_index, at_0, at_1, at_2, at_3, at_4, at_5]
    refine ⟨by rw [sizeLine_eq]; omega, by decide, ?_⟩
    generalize hod : ([.str lo, .str (lo ++ t)] : List D) = od
    have hlst : lstAt (S5 ++ [.lst od]) S5.length = some od := lst_at new_at
    rw [iaQ_l, forQ_lst]
    refine ⟨by rw [hlst]; rfl, od, hlst, ?_⟩
    refine loopL_inv (fun i ρ' S' => (∃ w', ρ' = [some (.l n), some (.d (enc sg go tell en)), some (.d (ruleD cs gl)), some (.d (.str sg)), some (.d (.str t)), some (.d (.int a)), some (.d (.str [x])), some (.d (.str lo)), w', none]) ∧ lstAt S' S5.length = some od) ⟨⟨_, rfl⟩, hlst⟩ (fun i ρ S ⟨_, h⟩ => h) ?_ ?_
    · rintro i y ρ5 S5 hy ⟨⟨w', rfl⟩, hl5⟩
      have hm := List.mem_of_getElem? hy
      refine ⟨_, rfl, ?_⟩
      simp only [w_dSeq, w_dSet, w_dExpr, w_dRet, w_dRetN, w_dNext, w_dBrk, w_dCnt, w_dIf, w_dAsg, w_dPar, w_dParN, w_dPut, w_dC, w_dVar, w_dBin, w_dUn, w_dCB, w_dNil, w_dCons, w_dCall, w_dBT, w_dTr, w_dNot, w_dAnd, w_dOr, w_dAndV, w_dOrV, w_dNotV, w_dIfE, w_dTup, w_dLst, w_dIx, w_dIsi, w_dIn, w_dNotIn, w_dONone, w_dOSome, w_dSl, w_dBM, w_dChain, w_dListRg1, w_dIR1, w_dIR2, w_dIA, w_dFor, w_dLc, w_dYes, okR_ok, List.getElem?_cons_zero, List.getElem?_cons_succ, Option.some.injEq, exists_eq_left', exists_eq_left, List.map_cons, List.map_nil, List.length_cons, List.length_nil, List.replicate_succ, List.replicate_zero, List.cons_append, List.nil_append, List.append_nil, List.set_cons_zero, List.set_cons_succ, Vl.d.injEq, Vl.l.injEq, D.int.injEq, D.bl.injEq, D.str.injEq, D.tup.injEq, Nat.sub_self, Nat.reduceSub, Nat.reduceAdd, allD, Option.map_some]
      have hy2 : ∃ u : List Nat, y = .str u ∧ 400 < u.length ∧ u.length ≤ 1000000 ∧ ∀ c ∈ u, c ∈ sg := by
        rw [← hod] at hm
        simp only [List.mem_cons, List.not_mem_nil, or_false] at hm
        rcases hm with rfl | rfl
        · exact ⟨_, rfl, by omega, by omega, hlc⟩
        · refine ⟨_, rfl, by rw [List.length_append]; omega, by rw [List.length_append]; omega, fun c hc => ?_⟩
          rcases List.mem_append.mp hc with h | h
          · exact hlc c h
          · exact ht c h
      obtain ⟨u, rfl, u1, u2, u3⟩ := hy2
      refine w_error (e := erL) (check_long u1 u2 u3) rfl sx_L ?_
      simp only [w_dSeq, w_dSet, w_dExpr, w_dRet, w_dRetN, w_dNext, w_dBrk, w_dCnt, w_dIf, w_dAsg, w_dPar, w_dParN, w_dPut, w_dC, w_dVar, w_dBin, w_dUn, w_dCB, w_dNil, w_dCons, w_dCall, w_dBT, w_dTr, w_dNot, w_dAnd, w_dOr, w_dAndV, w_dOrV, w_dNotV, w_dIfE, w_dTup, w_dLst, w_dIx, w_dIsi, w_dIn, w_dNotIn, w_dONone, w_dOSome, w_dSl, w_dBM, w_dChain, w_dListRg1, w_dIR1, w_dIR2, w_dIA, w_dFor, w_dLc, w_dYes, okR_ok, List.getElem?_cons_zero, List.getElem?_cons_succ, Option.some.injEq, exists_eq_left', exists_eq_left, List.map_cons, List.map_nil, List.length_cons, List.length_nil, List.replicate_succ, List.replicate_zero, List.cons_append, List.nil_append, List.append_nil, List.set_cons_zero, List.set_cons_succ, Vl.d.injEq, Vl.l.injEq, D.int.injEq, D.bl.injEq, D.str.injEq, D.tup.injEq, Nat.sub_self, Nat.reduceSub, Nat.reduceAdd, allD, Option.map_some, e_lt, e_le, e_gt, e_ge, e_sub, e_add, e_addS, e_addT, e_mul, e_mulS, e_mod, e_fdiv, e_pow, e_neg, e_eqI, e_neI, e_eqS, e_neS, e_is, e_isNot, e_lenS, e_lenT, e_lenL, e_int, e_abs, e_max, e_min, e_tupT, e_tupL, e_listS, e_listT, e_listL, e_all, e_any, e_str, e_ixT, e_ixS, e_slT, e_slS, e_slL, e_revL, e_revS, e_trB, e_inS, gc_d, e_index, at_0, at_1, at_2, at_3, at_4, at_5]
      refine ⟨by decide, ?_⟩
      refine w_same 1 _ okL recFuel _ _ (by decide) ?_
      simp only [w_dSeq, w_dSet, w_dExpr, w_dRet, w_dRetN, w_dNext, w_dBrk, w_dCnt, w_dIf, w_dAsg, w_dPar, w_dParN, w_dPut, w_dC, w_dVar, w_dBin, w_dUn, w_dCB, w_dNil, w_dCons, w_dCall, w_dBT, w_dTr, w_dNot, w_dAnd, w_dOr, w_dAndV, w_dOrV, w_dNotV, w_dIfE, w_dTup, w_dLst, w_dIx, w_dIsi, w_dIn, w_dNotIn, w_dONone, w_dOSome, w_dSl, w_dBM, w_dChain, w_dListRg1, w_dIR1, w_dIR2, w_dIA, w_dFor, w_dLc, w_dYes, okR_ok, List.getElem?_cons_zero, List.getElem?_cons_succ, Option.some.injEq, exists_eq_left', exists_eq_left, List.map_cons, List.map_nil, List.length_cons, List.length_nil, List.replicate_succ, List.replicate_zero, List.cons_append, List.nil_append, List.append_nil, List.set_cons_zero, List.set_cons_succ, Vl.d.injEq, Vl.l.injEq, D.int.injEq, D.bl.injEq, D.str.injEq, D.tup.injEq, Nat.sub_self, Nat.reduceSub, Nat.reduceAdd, allD, Option.map_some, e_lt, e_le, e_gt, e_ge, e_sub, e_add, e_addS, e_addT, e_mul, e_mulS, e_mod, e_fdiv, e_pow, e_neg, e_eqI, e_neI, e_eqS, e_neS, e_is, e_isNot, e_lenS, e_lenT, e_lenL, e_int, e_abs, e_max, e_min, e_tupT, e_tupL, e_listS, e_listT, e_listL, e_all, e_any, e_str, e_ixT, e_ixS, e_slT, e_slS, e_slL, e_revL, e_revS, e_trB, e_inS, gc_d, e_index, at_0, at_1, at_2, at_3, at_4, at_5, Bool.not_true, Bool.false_eq_true, if_false]
      exact ⟨⟨_, rfl⟩, hl5⟩
    · rintro ρ5 S5 ⟨⟨w', rfl⟩, _⟩
      exact ⟨w', rfl⟩
  subst e1
  refine seq_cut (fun ρ' S' => ∃ w', ρ' = [some (.l n), some (.d (enc sg go tell en)), some (.d (ruleD cs gl)), some (.d (.str sg)), some (.d (.str t)), some (.d (.int a)), some (.d (.str [x])), some (.d (.str lo)), w, w']) ?_ fun ρ2 S7 ⟨w', e1⟩ => ?_
  · simp only [w_dSeq, w_dSet, w_dExpr, w_dRet, w_dRetN, w_dNext, w_dBrk, w_dCnt, w_dIf, w_dAsg, w_dPar, w_dParN, w_dPut, w_dC, w_dVar, w_dBin, w_dUn, w_dCB, w_dNil, w_dCons, w_dCall, w_dBT, w_dTr, w_dNot, w_dAnd, w_dOr, w_dAndV, w_dOrV, w_dNotV, w_dIfE, w_dTup, w_dLst, w_dIx, w_dIsi, w_dIn, w_dNotIn, w_dONone, w_dOSome, w_dSl, w_dBM, w_dChain, w_dListRg1, w_dIR1, w_dIR2, w_dIA, w_dFor, w_dLc, w_dYes, okR_ok, List.getElem?_cons_zero, List.getElem?_cons_succ, Option.some.injEq, exists_eq_left', exists_eq_left, List.map_cons, List.map_nil, List.length_cons, List.length_nil, List.replicate_succ, List.replicate_zero, List.cons_append, List.nil_append, List.append_nil, List.set_cons_zero, List.set_cons_succ, Vl.d.injEq, Vl.l.injEq, D.int.injEq, D.bl.injEq, D.str.injEq, D.tup.injEq, Nat.sub_self, Nat.reduceSub, Nat.reduceAdd, allD, Option.map_some, e_lt, e_le, e_gt, e_ge, e_sub, e_add, e_addS, e_addT, e_mul, e_mulS, e_mod, e_fdiv, e_pow, e_neg, e_eqI, e_neI, e_eqS, e_neS, e_is, e_isNot, e_lenS, e_lenT, e_lenL, e_int, e_abs, e_max, e_min, e_tupT, e_tupL, e_listS, e_listT, e_listL, e_all, e_any, e_str, e_ixT, e_ixS, e_slT, e_slS, e_slL, e_revL, e_revS, e_trB, e_inS, gc_d, e_index, at_0, at_1, at_2, at_3, at_4, at_5]
    rw [cut_to, cut_from, show (400 : Int) = ((400 : Nat) : Int) from rfl, cut_to]
    have z1 : (t.take a).length ≤ 12 := by rw [List.length_take]; omega
    have z2 : (t.drop a).length ≤ 12 := by rw [List.length_drop]; omega
    have z3 : (lo.take 400).length = 400 := by rw [List.length_take]; omega
    refine ⟨by rw [sizeLine_eq]; omega, by rw [sizeLine_eq]; omega, by rw [sizeLine_eq]; omega, by rw [List.length_append, sizeLine_eq]; simp only [List.length_singleton]; omega, by rw [sizeLine_eq]; omega, by rw [sizeLine_eq]; omega, by rw [List.length_append, sizeLine_eq]; simp only [List.length_singleton]; omega, by decide, ?_⟩
    generalize hod : ([.str (t.take a ++ [x] ++ t.drop a), .str [x], .str lo, .str (lo.take 400 ++ [x] ++ t)] : List D) = od
    have hlst : lstAt (S6 ++ [.lst od]) S6.length = some od := lst_at new_at
    rw [iaQ_l, forQ_lst]
    refine ⟨by rw [hlst]; rfl, od, hlst, ?_⟩
    refine loopL_inv (fun i ρ' S' => (∃ w', ρ' = [some (.l n), some (.d (enc sg go tell en)), some (.d (ruleD cs gl)), some (.d (.str sg)), some (.d (.str t)), some (.d (.int a)), some (.d (.str [x])), some (.d (.str lo)), w, w']) ∧ lstAt S' S6.length = some od) ⟨⟨_, rfl⟩, hlst⟩ (fun i ρ S ⟨_, h⟩ => h) ?_ ?_
    · rintro i y ρ5 S5 hy ⟨⟨w', rfl⟩, hl5⟩
      have hm := List.mem_of_getElem? hy
      refine ⟨_, rfl, ?_⟩
      simp only [w_dSeq, w_dSet, w_dExpr, w_dRet, w_dRetN, w_dNext, w_dBrk, w_dCnt, w_dIf, w_dAsg, w_dPar, w_dParN, w_dPut, w_dC, w_dVar, w_dBin, w_dUn, w_dCB, w_dNil, w_dCons, w_dCall, w_dBT, w_dTr, w_dNot, w_dAnd, w_dOr, w_dAndV, w_dOrV, w_dNotV, w_dIfE, w_dTup, w_dLst, w_dIx, w_dIsi, w_dIn, w_dNotIn, w_dONone, w_dOSome, w_dSl, w_dBM, w_dChain, w_dListRg1, w_dIR1, w_dIR2, w_dIA, w_dFor, w_dLc, w_dYes, okR_ok, List.getElem?_cons_zero, List.getElem?_cons_succ, Option.some.injEq, exists_eq_left', exists_eq_left, List.map_cons, List.map_nil, List.length_cons, List.length_nil, List.replicate_succ, List.replicate_zero, List.cons_append, List.nil_append, List.append_nil, List.set_cons_zero, List.set_cons_succ, Vl.d.injEq, Vl.l.injEq, D.int.injEq, D.bl.injEq, D.str.injEq, D.tup.injEq, Nat.sub_self, Nat.reduceSub, Nat.reduceAdd, allD, Option.map_some]
      have hy2 : ∃ u : List Nat, y = .str u ∧ u.length ≤ 900 := by
        rw [← hod] at hm
        simp only [List.mem_cons, List.not_mem_nil, or_false] at hm
        rcases hm with rfl | rfl | rfl | rfl
        · exact ⟨_, rfl, by rw [List.length_append, List.length_append, List.length_singleton]; omega⟩
        · exact ⟨_, rfl, by simp⟩
        · exact ⟨_, rfl, by omega⟩
        · exact ⟨_, rfl, by rw [List.length_append, List.length_append, List.length_singleton]; omega⟩
      obtain ⟨u, rfl, u1⟩ := hy2
      unfold ruleD
      refine w_cut_text (by omega) ?_
      simp only [w_dSeq, w_dSet, w_dExpr, w_dRet, w_dRetN, w_dNext, w_dBrk, w_dCnt, w_dIf, w_dAsg, w_dPar, w_dParN, w_dPut, w_dC, w_dVar, w_dBin, w_dUn, w_dCB, w_dNil, w_dCons, w_dCall, w_dBT, w_dTr, w_dNot, w_dAnd, w_dOr, w_dAndV, w_dOrV, w_dNotV, w_dIfE, w_dTup, w_dLst, w_dIx, w_dIsi, w_dIn, w_dNotIn, w_dONone, w_dOSome, w_dSl, w_dBM, w_dChain, w_dListRg1, w_dIR1, w_dIR2, w_dIA, w_dFor, w_dLc, w_dYes, okR_ok, List.getElem?_cons_zero, List.getElem?_cons_succ, Option.some.injEq, exists_eq_left', exists_eq_left, List.map_cons, List.map_nil, List.length_cons, List.length_nil, List.replicate_succ, List.replicate_zero, List.cons_append, List.nil_append, List.append_nil, List.set_cons_zero, List.set_cons_succ, Vl.d.injEq, Vl.l.injEq, D.int.injEq, D.bl.injEq, D.str.injEq, D.tup.injEq, Nat.sub_self, Nat.reduceSub, Nat.reduceAdd, allD, Option.map_some, e_lt, e_le, e_gt, e_ge, e_sub, e_add, e_addS, e_addT, e_mul, e_mulS, e_mod, e_fdiv, e_pow, e_neg, e_eqI, e_neI, e_eqS, e_neS, e_is, e_isNot, e_lenS, e_lenT, e_lenL, e_int, e_abs, e_max, e_min, e_tupT, e_tupL, e_listS, e_listT, e_listL, e_all, e_any, e_str, e_ixT, e_ixS, e_slT, e_slS, e_slL, e_revL, e_revS, e_trB, e_inS, gc_d, e_index, at_0, at_1, at_2, at_3, at_4, at_5]
      refine w_pieces (by omega) ?_
      refine w_same 1 _ (pieces_ok _ (by have := cutF_len cs u; omega)) recFuel _ _ (by decide) ?_
      simp only [w_dSeq, w_dSet, w_dExpr, w_dRet, w_dRetN, w_dNext, w_dBrk, w_dCnt, w_dIf, w_dAsg, w_dPar, w_dParN, w_dPut, w_dC, w_dVar, w_dBin, w_dUn, w_dCB, w_dNil, w_dCons, w_dCall, w_dBT, w_dTr, w_dNot, w_dAnd, w_dOr, w_dAndV, w_dOrV, w_dNotV, w_dIfE, w_dTup, w_dLst, w_dIx, w_dIsi, w_dIn, w_dNotIn, w_dONone, w_dOSome, w_dSl, w_dBM, w_dChain, w_dListRg1, w_dIR1, w_dIR2, w_dIA, w_dFor, w_dLc, w_dYes, okR_ok, List.getElem?_cons_zero, List.getElem?_cons_succ, Option.some.injEq, exists_eq_left', exists_eq_left, List.map_cons, List.map_nil, List.length_cons, List.length_nil, List.replicate_succ, List.replicate_zero, List.cons_append, List.nil_append, List.append_nil, List.set_cons_zero, List.set_cons_succ, Vl.d.injEq, Vl.l.injEq, D.int.injEq, D.bl.injEq, D.str.injEq, D.tup.injEq, Nat.sub_self, Nat.reduceSub, Nat.reduceAdd, allD, Option.map_some, e_lt, e_le, e_gt, e_ge, e_sub, e_add, e_addS, e_addT, e_mul, e_mulS, e_mod, e_fdiv, e_pow, e_neg, e_eqI, e_neI, e_eqS, e_neS, e_is, e_isNot, e_lenS, e_lenT, e_lenL, e_int, e_abs, e_max, e_min, e_tupT, e_tupL, e_listS, e_listT, e_listL, e_all, e_any, e_str, e_ixT, e_ixS, e_slT, e_slS, e_slL, e_revL, e_revS, e_trB, e_inS, gc_d, e_index, at_0, at_1, at_2, at_3, at_4, at_5, Bool.not_true, Bool.false_eq_true, if_false]
      exact ⟨⟨_, rfl⟩, hl5⟩
    · rintro ρ5 S5 ⟨⟨w', rfl⟩, _⟩
      exact ⟨w', rfl⟩
  subst e1
  simp only [w_dSeq, w_dSet, w_dExpr, w_dRet, w_dRetN, w_dNext, w_dBrk, w_dCnt, w_dIf, w_dAsg, w_dPar, w_dParN, w_dPut, w_dC, w_dVar, w_dBin, w_dUn, w_dCB, w_dNil, w_dCons, w_dCall, w_dBT, w_dTr, w_dNot, w_dAnd, w_dOr, w_dAndV, w_dOrV, w_dNotV, w_dIfE, w_dTup, w_dLst, w_dIx, w_dIsi, w_dIn, w_dNotIn, w_dONone, w_dOSome, w_dSl, w_dBM, w_dChain, w_dListRg1, w_dIR1, w_dIR2, w_dIA, w_dFor, w_dLc, w_dYes, okR_ok, List.getElem?_cons_zero, List.getElem?_cons_succ, Option.some.injEq, exists_eq_left', exists_eq_left, List.map_cons, List.map_nil, List.length_cons, List.length_nil, List.replicate_succ, List.replicate_zero, List.cons_append, List.nil_append, List.append_nil, List.set_cons_zero, List.set_cons_succ, Vl.d.injEq, Vl.l.injEq, D.int.injEq, D.bl.injEq, D.str.injEq, D.tup.injEq, Nat.sub_self, Nat.reduceSub, Nat.reduceAdd, allD, Option.map_some, e_lt, e_le, e_gt, e_ge, e_sub, e_add, e_addS, e_addT, e_mul, e_mulS, e_mod, e_fdiv, e_pow, e_neg, e_eqI, e_neI, e_eqS, e_neS, e_is, e_isNot, e_lenS, e_lenT, e_lenL, e_int, e_abs, e_max, e_min, e_tupT, e_tupL, e_listS, e_listT, e_listL, e_all, e_any, e_str, e_ixT, e_ixS, e_slT, e_slS, e_slL, e_revL, e_revS, e_trB, e_inS, gc_d, e_index, at_0, at_1, at_2, at_3, at_4, at_5]
  rw [show (400 : Int) = ((400 : Nat) : Int) from rfl, cut_to]
  refine ⟨by rw [sizeLine_eq]; omega, ?_⟩
  refine w_read M R (by omega) m1 (by rw [List.length_take]; omega) (fun c hc => hlc c (List.mem_of_mem_take hc)) (by omega) ?_
  simp only [e_lt, e_le, e_gt, e_ge, e_sub, e_add, e_addS, e_addT, e_mul, e_mulS, e_mod, e_fdiv, e_pow, e_neg, e_eqI, e_neI, e_eqS, e_neS, e_is, e_isNot, e_lenS, e_lenT, e_lenL, e_int, e_abs, e_max, e_min, e_tupT, e_tupL, e_listS, e_listT, e_listL, e_all, e_any, e_str, e_ixT, e_ixS, e_slT, e_slS, e_slL, e_revL, e_revS, e_trB, e_inS, gc_d, e_index, at_0, at_1, at_2, at_3, at_4, at_5]
  exact q _
end L71
end

section
set_option Elab.async false
set_option linter.all false
set_option maxRecDepth 100000
set_option autoImplicit false
set_option maxHeartbeats 2000004
namespace L71
open PySem L2 TL DL
/-! ### the law -/
theorem cut_true {sg cs gl : List Nat} {many : Nat} (R : Rule many cs gl) (hn : sg.Nodup) (h : cs.Sublist sg) : cutD sg many (ruleD cs gl) = true := by
  show (lotD sg (.str cs) && numsD many (.tup (nums gl)) && (lenD (.tup (nums gl)) == lenD (.str cs))) = true
  have h1 : lotD sg (.str cs) = true := by
    show (sg.filter (fun c => decide (c ∈ cs)) == cs) = true
    rw [filter_sub cs sg hn h]
    exact beq_self_eq_true _
  have h2 : numsD many (.tup (nums gl)) = true := by
    show (nums gl).all (fromD 0 ((many : Int) - 1)) = true
    rw [List.all_eq_true]
    intro d hd
    obtain ⟨k, hk, rfl⟩ := List.mem_map.mp hd
    have := R.b k hk
    show (decide ((0 : Int) ≤ k) && decide ((k : Int) ≤ (many : Int) - 1)) = true
    simp only [Bool.and_eq_true, decide_eq_true_eq]
    omega
  have h3 : (lenD (.tup (nums gl)) == lenD (.str cs)) = true := by
    show (((nums gl).length : Int) == (cs.length : Int)) = true
    rw [nums_len, R.l]
    exact beq_self_eq_true _
  rw [h1, h2, h3]; rfl
theorem rule_small {cs gl : List Nat} {many : Nat} (R : Rule many cs gl) (h : cs.length ≤ 8) : ∀ a b, ruleD cs gl = .tup [a, b] → lenD a ≤ 1000000 ∧ lenD b ≤ 1000000 := by
  intro a b e
  cases e
  refine ⟨?_, ?_⟩
  · show (cs.length : Int) ≤ _; omega
  · show ((nums gl).length : Int) ≤ _; rw [nums_len, R.l]; omega
def Inv (ns : List Int) (S : Store) : Prop := S[0]? = some (.frz (ns.map .int)) ∧ ∃ ds, S[1]? = some (.lst ds) ∧ Pool ds
theorem Inv.set {ns : List Int} {S : Store} {ds : List D} (h : Inv ns S) (hp : Pool ds) : Inv ns (S.set 1 (.lst ds)) := by
  obtain ⟨h0, ds0, h1, h2⟩ := h
  exact ⟨by rw [set_other (by decide)]; exact h0, ds, mem_at (lt_of_at h1), hp⟩
theorem Inv.app {ns : List Int} {S G : Store} (h : Inv ns S) : Inv ns (S ++ G) := by
  obtain ⟨h0, ds0, h1, h2⟩ := h
  exact ⟨old_at h0, ds0, old_at h1, h2⟩
theorem last_is {many : Nat} (m1 : 1 ≤ many) : ∀ l : List Nat, (((l.map fun c => Vl.d (.str [c])).filter fun _ => true).map fun _ => D.int ((many : Int) - 1)) = nums (List.replicate l.length (many - 1))
  | [] => rfl
  | a :: l => by
    have e : ((many - 1 : Nat) : Int) = (many : Int) - 1 := by omega
    rw [List.map_cons, List.filter_cons_of_pos rfl, List.map_cons, last_is m1 l, List.length_cons, List.replicate_succ]
    unfold nums
    rw [List.map_cons, e]
theorem law_key (ns : List Int) (hl : ns.length ≤ 63) (hb : ∀ z ∈ ns, z.natAbs.log2 ≤ 1048576) : okR (m_law [.l 0] [.frz (ns.map .int)]) fun v _ => v = .d (.bl true) := by
  unfold m_law
  refine w_runFn rfl ?_
  unfold t_law
  refine seq_cut (fun ρ' S' => ρ' = [some (.l 0), some (.l 1), none, none, none, none, none, none, none, none, none, none] ∧ Inv ns S') ?_ fun ρ2 S2 ⟨e1, I2⟩ => ?_
  · simp only [w_dSeq, w_dSet, w_dExpr, w_dRet, w_dRetN, w_dNext, w_dBrk, w_dCnt, w_dIf, w_dAsg, w_dPar, w_dParN, w_dPut, w_dC, w_dVar, w_dBin, w_dUn, w_dCB, w_dNil, w_dCons, w_dCall, w_dBT, w_dTr, w_dNot, w_dAnd, w_dOr, w_dAndV, w_dOrV, w_dNotV, w_dIfE, w_dTup, w_dLst, w_dIx, w_dIsi, w_dIn, w_dNotIn, w_dONone, w_dOSome, w_dSl, w_dBM, w_dChain, w_dListRg1, w_dIR1, w_dIR2, w_dIA, w_dFor, w_dLc, w_dYes, okR_ok, List.getElem?_cons_zero, List.getElem?_cons_succ, Option.some.injEq, exists_eq_left', exists_eq_left, List.map_cons, List.map_nil, List.length_cons, List.length_nil, List.replicate_succ, List.replicate_zero, List.cons_append, List.nil_append, List.append_nil, List.set_cons_zero, List.set_cons_succ, Vl.d.injEq, Vl.l.injEq, D.int.injEq, D.bl.injEq, D.str.injEq, D.tup.injEq, Nat.sub_self, Nat.reduceSub, Nat.reduceAdd, allD, Option.map_some]
    refine w_pool (ns := ns) rfl hb hl (by decide) (by decide) (by decide) (by decide) fun ds hp => ?_
    exact ⟨rfl, rfl, ds, rfl, hp⟩
  subst e1
  refine seq_cut (fun ρ' S' => ∃ (sg : List Nat) (many : Nat) (go : List (List Nat)) (tell : List (List D)) (en : List D), sg.Nodup ∧ (∀ c ∈ sg, c ∈ AL) ∧ 1 ≤ sg.length ∧ sg.length ≤ 8 ∧ 1 ≤ many ∧ many ≤ 120 ∧ Mach sg.length many go tell en ∧ ρ' = [some (.l 0), some (.l 1), some (.d (enc sg go tell en)), none, none, none, none, none, none, none, none, none] ∧ Inv ns S') ?_ fun ρ2 S3 ⟨sg, many, go, tell, en, g1, g2, g3, g4, m1, m2, M, e1, I3⟩ => ?_
  · simp only [w_dSeq, w_dSet, w_dExpr, w_dRet, w_dRetN, w_dNext, w_dBrk, w_dCnt, w_dIf, w_dAsg, w_dPar, w_dParN, w_dPut, w_dC, w_dVar, w_dBin, w_dUn, w_dCB, w_dNil, w_dCons, w_dCall, w_dBT, w_dTr, w_dNot, w_dAnd, w_dOr, w_dAndV, w_dOrV, w_dNotV, w_dIfE, w_dTup, w_dLst, w_dIx, w_dIsi, w_dIn, w_dNotIn, w_dONone, w_dOSome, w_dSl, w_dBM, w_dChain, w_dListRg1, w_dIR1, w_dIR2, w_dIA, w_dFor, w_dLc, w_dYes, okR_ok, List.getElem?_cons_zero, List.getElem?_cons_succ, Option.some.injEq, exists_eq_left', exists_eq_left, List.map_cons, List.map_nil, List.length_cons, List.length_nil, List.replicate_succ, List.replicate_zero, List.cons_append, List.nil_append, List.append_nil, List.set_cons_zero, List.set_cons_succ, Vl.d.injEq, Vl.l.injEq, D.int.injEq, D.bl.injEq, D.str.injEq, D.tup.injEq, Nat.sub_self, Nat.reduceSub, Nat.reduceAdd, allD, Option.map_some]
    obtain ⟨h0, ds, h1, hp⟩ := id I2
    refine w_offered h0 hb hl h1 hp fun sg many go tell en ds' hp' g1 g2 g3 g4 m1 m2 M => ?_
    exact ⟨sg, many, go, tell, en, g1, g2, g3, g4, m1, m2, M, rfl, I2.set hp'⟩
  subst e1
  refine seq_cut (fun ρ' S' => ρ' = [some (.l 0), some (.l 1), some (.d (enc sg go tell en)), some (.d (.int many)), none, none, none, none, none, none, none, none] ∧ Inv ns S') ?_ fun ρ2 S4 ⟨e1, I4⟩ => ?_
  · unfold enc
    simp only [w_dSeq, w_dSet, w_dExpr, w_dRet, w_dRetN, w_dNext, w_dBrk, w_dCnt, w_dIf, w_dAsg, w_dPar, w_dParN, w_dPut, w_dC, w_dVar, w_dBin, w_dUn, w_dCB, w_dNil, w_dCons, w_dCall, w_dBT, w_dTr, w_dNot, w_dAnd, w_dOr, w_dAndV, w_dOrV, w_dNotV, w_dIfE, w_dTup, w_dLst, w_dIx, w_dIsi, w_dIn, w_dNotIn, w_dONone, w_dOSome, w_dSl, w_dBM, w_dChain, w_dListRg1, w_dIR1, w_dIR2, w_dIA, w_dFor, w_dLc, w_dYes, okR_ok, List.getElem?_cons_zero, List.getElem?_cons_succ, Option.some.injEq, exists_eq_left', exists_eq_left, List.map_cons, List.map_nil, List.length_cons, List.length_nil, List.replicate_succ, List.replicate_zero, List.cons_append, List.nil_append, List.append_nil, List.set_cons_zero, List.set_cons_succ, Vl.d.injEq, Vl.l.injEq, D.int.injEq, D.bl.injEq, D.str.injEq, D.tup.injEq, Nat.sub_self, Nat.reduceSub, Nat.reduceAdd, allD, Option.map_some, e_lt, e_le, e_gt, e_ge, e_sub, e_add, e_addS, e_addT, e_mul, e_mulS, e_mod, e_fdiv, e_pow, e_neg, e_eqI, e_neI, e_eqS, e_neS, e_is, e_isNot, e_lenS, e_lenT, e_lenL, e_int, e_abs, e_max, e_min, e_tupT, e_tupL, e_listS, e_listT, e_listL, e_all, e_any, e_str, e_ixT, e_ixS, e_slT, e_slS, e_slL, e_revL, e_revS, e_trB, e_inS, gc_d, e_index, at_0, at_1, at_2, at_3, at_4, at_5]
    exact ⟨by rw [show (encG go).length = many by unfold encG; rw [List.length_map, M.g1]], I3⟩
  subst e1
  refine seq_cut (fun ρ' S' => ∃ cs : List Nat, cs.Sublist sg ∧ ρ' = [some (.l 0), some (.l 1), some (.d (enc sg go tell en)), some (.d (.int many)), some (.d (.str cs)), none, none, none, none, none, none, none] ∧ Inv ns S') ?_ fun ρ2 S5 ⟨cs, hcs, e1, I5⟩ => ?_
  · unfold enc
    simp only [w_dSeq, w_dSet, w_dExpr, w_dRet, w_dRetN, w_dNext, w_dBrk, w_dCnt, w_dIf, w_dAsg, w_dPar, w_dParN, w_dPut, w_dC, w_dVar, w_dBin, w_dUn, w_dCB, w_dNil, w_dCons, w_dCall, w_dBT, w_dTr, w_dNot, w_dAnd, w_dOr, w_dAndV, w_dOrV, w_dNotV, w_dIfE, w_dTup, w_dLst, w_dIx, w_dIsi, w_dIn, w_dNotIn, w_dONone, w_dOSome, w_dSl, w_dBM, w_dChain, w_dListRg1, w_dIR1, w_dIR2, w_dIA, w_dFor, w_dLc, w_dYes, okR_ok, List.getElem?_cons_zero, List.getElem?_cons_succ, Option.some.injEq, exists_eq_left', exists_eq_left, List.map_cons, List.map_nil, List.length_cons, List.length_nil, List.replicate_succ, List.replicate_zero, List.cons_append, List.nil_append, List.append_nil, List.set_cons_zero, List.set_cons_succ, Vl.d.injEq, Vl.l.injEq, D.int.injEq, D.bl.injEq, D.str.injEq, D.tup.injEq, Nat.sub_self, Nat.reduceSub, Nat.reduceAdd, allD, Option.map_some, e_lt, e_le, e_gt, e_ge, e_sub, e_add, e_addS, e_addT, e_mul, e_mulS, e_mod, e_fdiv, e_pow, e_neg, e_eqI, e_neI, e_eqS, e_neS, e_is, e_isNot, e_lenS, e_lenT, e_lenL, e_int, e_abs, e_max, e_min, e_tupT, e_tupL, e_listS, e_listT, e_listL, e_all, e_any, e_str, e_ixT, e_ixS, e_slT, e_slS, e_slL, e_revL, e_revS, e_trB, e_inS, gc_d, e_index, at_0, at_1, at_2, at_3, at_4, at_5]
    obtain ⟨h0, ds, h1, hp⟩ := id I4
    refine w_lot h1 hp (by omega) fun t ds' hp' ht => ?_
    exact ⟨t, ht, rfl, I4.set hp'⟩
  subst e1
  have hcl := hcs.length_le
  refine seq_cut (fun ρ' S' => ∃ gl : List Nat, Rule many cs gl ∧ ρ' = [some (.l 0), some (.l 1), some (.d (enc sg go tell en)), some (.d (.int many)), some (.d (.str cs)), some (.d (ruleD cs gl)), none, none, none, none, none, none] ∧ Inv ns S') ?_ fun ρ2 S6 ⟨gl, R, e1, I6⟩ => ?_
  · simp only [w_dSeq, w_dSet, w_dExpr, w_dRet, w_dRetN, w_dNext, w_dBrk, w_dCnt, w_dIf, w_dAsg, w_dPar, w_dParN, w_dPut, w_dC, w_dVar, w_dBin, w_dUn, w_dCB, w_dNil, w_dCons, w_dCall, w_dBT, w_dTr, w_dNot, w_dAnd, w_dOr, w_dAndV, w_dOrV, w_dNotV, w_dIfE, w_dTup, w_dLst, w_dIx, w_dIsi, w_dIn, w_dNotIn, w_dONone, w_dOSome, w_dSl, w_dBM, w_dChain, w_dListRg1, w_dIR1, w_dIR2, w_dIA, w_dFor, w_dLc, w_dYes, okR_ok, List.getElem?_cons_zero, List.getElem?_cons_succ, Option.some.injEq, exists_eq_left', exists_eq_left, List.map_cons, List.map_nil, List.length_cons, List.length_nil, List.replicate_succ, List.replicate_zero, List.cons_append, List.nil_append, List.append_nil, List.set_cons_zero, List.set_cons_succ, Vl.d.injEq, Vl.l.injEq, D.int.injEq, D.bl.injEq, D.str.injEq, D.tup.injEq, Nat.sub_self, Nat.reduceSub, Nat.reduceAdd, allD, Option.map_some, e_lt, e_le, e_gt, e_ge, e_sub, e_add, e_addS, e_addT, e_mul, e_mulS, e_mod, e_fdiv, e_pow, e_neg, e_eqI, e_neI, e_eqS, e_neS, e_is, e_isNot, e_lenS, e_lenT, e_lenL, e_int, e_abs, e_max, e_min, e_tupT, e_tupL, e_listS, e_listT, e_listL, e_all, e_any, e_str, e_ixT, e_ixS, e_slT, e_slS, e_slL, e_revL, e_revS, e_trB, e_inS, gc_d, e_index, at_0, at_1, at_2, at_3, at_4, at_5]
    rw [iaQ_s, lcQ_seq]
    obtain ⟨h0, ds, h1, hp⟩ := id I5
    have eS : (S5 ++ [Cell.lst []] : Store) = S5.set 1 (.lst ds) ++ [] ++ [.lst []] := by rw [List.append_nil, set_same h1]
    rw [eS]
    show okR (loopC _ _ _ (S5.length + ([] : Store).length) _ _ _) _
    refine draw_lc (lt_of_at h1) (fun i acc => ∃ gl : List Nat, gl.length = i ∧ (∀ x ∈ gl, x < many) ∧ acc = nums gl ∧ i ≤ cs.length) hp ⟨[], rfl, by simp, rfl, Nat.zero_le _⟩ ?_ ?_ ?_
    · rintro i acc ⟨gl, hgl, _, rfl, hi⟩
      rw [nums_len, sizeLine_eq]; omega
    · rintro i x acc ds G' hx ⟨gl, hgl, hb, rfl, hi⟩ hp
      obtain ⟨c, hc1, rfl, hi', et⟩ := str_at hx
      refine ⟨_, rfl, ?_⟩
      simp only [w_dSeq, w_dSet, w_dExpr, w_dRet, w_dRetN, w_dNext, w_dBrk, w_dCnt, w_dIf, w_dAsg, w_dPar, w_dParN, w_dPut, w_dC, w_dVar, w_dBin, w_dUn, w_dCB, w_dNil, w_dCons, w_dCall, w_dBT, w_dTr, w_dNot, w_dAnd, w_dOr, w_dAndV, w_dOrV, w_dNotV, w_dIfE, w_dTup, w_dLst, w_dIx, w_dIsi, w_dIn, w_dNotIn, w_dONone, w_dOSome, w_dSl, w_dBM, w_dChain, w_dListRg1, w_dIR1, w_dIR2, w_dIA, w_dFor, w_dLc, w_dYes, okR_ok, List.getElem?_cons_zero, List.getElem?_cons_succ, Option.some.injEq, exists_eq_left', exists_eq_left, List.map_cons, List.map_nil, List.length_cons, List.length_nil, List.replicate_succ, List.replicate_zero, List.cons_append, List.nil_append, List.append_nil, List.set_cons_zero, List.set_cons_succ, Vl.d.injEq, Vl.l.injEq, D.int.injEq, D.bl.injEq, D.str.injEq, D.tup.injEq, Nat.sub_self, Nat.reduceSub, Nat.reduceAdd, allD, Option.map_some, wipeR]
      refine w_take (old_at' (lt_of_at h1)) hp fun k ds' hp' k0 k1 => ?_
      rw [set_old' (lt_of_at h1)]
      obtain ⟨j, rfl⟩ : ∃ j : Nat, k = (j : Int) := ⟨k.toNat, by omega⟩
      exact ⟨_, ds', [], rfl, hp', by simp, gl ++ [j], by simp [hgl], all_snoc hb (by omega), nums_snoc gl j, by omega⟩
    · rintro acc ds' G' ⟨gl, hgl, hb, rfl, hi⟩ hp'
      rw [List.length_map] at hgl
      simp only [e_lt, e_le, e_gt, e_ge, e_sub, e_add, e_addS, e_addT, e_mul, e_mulS, e_mod, e_fdiv, e_pow, e_neg, e_eqI, e_neI, e_eqS, e_neS, e_is, e_isNot, e_lenS, e_lenT, e_lenL, e_int, e_abs, e_max, e_min, e_tupT, e_tupL, e_listS, e_listT, e_listL, e_all, e_any, e_str, e_ixT, e_ixS, e_slT, e_slS, e_slL, e_revL, e_revS, e_trB, e_inS, gc_d, e_index, at_0, at_1, at_2, at_3, at_4, at_5]
      refine ⟨nums gl, lst_at mid_at, _, rfl, (by show 2 ≤ sizeLine; decide), gl, ⟨hgl, hb⟩, rfl, ?_⟩
      exact (I5.set hp').app
  subst e1
  have RL : Rule many sg (List.replicate sg.length (many - 1)) := ⟨List.length_replicate, fun x hx => by rw [List.eq_of_mem_replicate hx]; omega⟩
  have RE : Rule many [] [] := ⟨rfl, fun x hx => by cases hx⟩
  refine seq_cut (fun ρ' S' => ρ' = [some (.l 0), some (.l 1), some (.d (enc sg go tell en)), some (.d (.int many)), some (.d (.str cs)), some (.d (ruleD cs gl)), some (.d (ruleD sg (List.replicate sg.length (many - 1)))), none, none, none, none, none] ∧ Inv ns S') ?_ fun ρ2 S7 ⟨e1, I7⟩ => ?_
  · unfold enc
    simp only [w_dSeq, w_dSet, w_dExpr, w_dRet, w_dRetN, w_dNext, w_dBrk, w_dCnt, w_dIf, w_dAsg, w_dPar, w_dParN, w_dPut, w_dC, w_dVar, w_dBin, w_dUn, w_dCB, w_dNil, w_dCons, w_dCall, w_dBT, w_dTr, w_dNot, w_dAnd, w_dOr, w_dAndV, w_dOrV, w_dNotV, w_dIfE, w_dTup, w_dLst, w_dIx, w_dIsi, w_dIn, w_dNotIn, w_dONone, w_dOSome, w_dSl, w_dBM, w_dChain, w_dListRg1, w_dIR1, w_dIR2, w_dIA, w_dFor, w_dLc, w_dYes, okR_ok, List.getElem?_cons_zero, List.getElem?_cons_succ, Option.some.injEq, exists_eq_left', exists_eq_left, List.map_cons, List.map_nil, List.length_cons, List.length_nil, List.replicate_succ, List.replicate_zero, List.cons_append, List.nil_append, List.append_nil, List.set_cons_zero, List.set_cons_succ, Vl.d.injEq, Vl.l.injEq, D.int.injEq, D.bl.injEq, D.str.injEq, D.tup.injEq, Nat.sub_self, Nat.reduceSub, Nat.reduceAdd, allD, Option.map_some, e_lt, e_le, e_gt, e_ge, e_sub, e_add, e_addS, e_addT, e_mul, e_mulS, e_mod, e_fdiv, e_pow, e_neg, e_eqI, e_neI, e_eqS, e_neS, e_is, e_isNot, e_lenS, e_lenT, e_lenL, e_int, e_abs, e_max, e_min, e_tupT, e_tupL, e_listS, e_listT, e_listL, e_all, e_any, e_str, e_ixT, e_ixS, e_slT, e_slS, e_slL, e_revL, e_revS, e_trB, e_inS, gc_d, e_index, at_0, at_1, at_2, at_3, at_4, at_5]
    rw [iaQ_s, lcQ_seq]
    refine pure_lc (fun _ => true) (fun _ => .int ((many : Int) - 1)) (by rw [List.length_map]; omega) ?_ ?_
    · rintro i x acc hx
      refine ⟨_, rfl, ?_⟩
      simp only [w_dSeq, w_dSet, w_dExpr, w_dRet, w_dRetN, w_dNext, w_dBrk, w_dCnt, w_dIf, w_dAsg, w_dPar, w_dParN, w_dPut, w_dC, w_dVar, w_dBin, w_dUn, w_dCB, w_dNil, w_dCons, w_dCall, w_dBT, w_dTr, w_dNot, w_dAnd, w_dOr, w_dAndV, w_dOrV, w_dNotV, w_dIfE, w_dTup, w_dLst, w_dIx, w_dIsi, w_dIn, w_dNotIn, w_dONone, w_dOSome, w_dSl, w_dBM, w_dChain, w_dListRg1, w_dIR1, w_dIR2, w_dIA, w_dFor, w_dLc, w_dYes, okR_ok, List.getElem?_cons_zero, List.getElem?_cons_succ, Option.some.injEq, exists_eq_left', exists_eq_left, List.map_cons, List.map_nil, List.length_cons, List.length_nil, List.replicate_succ, List.replicate_zero, List.cons_append, List.nil_append, List.append_nil, List.set_cons_zero, List.set_cons_succ, Vl.d.injEq, Vl.l.injEq, D.int.injEq, D.bl.injEq, D.str.injEq, D.tup.injEq, Nat.sub_self, Nat.reduceSub, Nat.reduceAdd, allD, Option.map_some, wipeR, e_lt, e_le, e_gt, e_ge, e_sub, e_add, e_addS, e_addT, e_mul, e_mulS, e_mod, e_fdiv, e_pow, e_neg, e_eqI, e_neI, e_eqS, e_neS, e_is, e_isNot, e_lenS, e_lenT, e_lenL, e_int, e_abs, e_max, e_min, e_tupT, e_tupL, e_listS, e_listT, e_listL, e_all, e_any, e_str, e_ixT, e_ixS, e_slT, e_slS, e_slL, e_revL, e_revS, e_trB, e_inS, gc_d, e_index, at_0, at_1, at_2, at_3, at_4, at_5]
      exact ⟨trivial, trivial, fun _ => ⟨trivial, trivial⟩⟩
    · simp only [e_lt, e_le, e_gt, e_ge, e_sub, e_add, e_addS, e_addT, e_mul, e_mulS, e_mod, e_fdiv, e_pow, e_neg, e_eqI, e_neI, e_eqS, e_neS, e_is, e_isNot, e_lenS, e_lenT, e_lenL, e_int, e_abs, e_max, e_min, e_tupT, e_tupL, e_listS, e_listT, e_listL, e_all, e_any, e_str, e_ixT, e_ixS, e_slT, e_slS, e_slL, e_revL, e_revS, e_trB, e_inS, gc_d, e_index, at_0, at_1, at_2, at_3, at_4, at_5]
      rw [last_is m1]
      refine ⟨_, lst_at new_at, _, rfl, (by show 2 ≤ sizeLine; decide), rfl, I6.app⟩
  subst e1
  have isr : ∀ (cs' gl' : List Nat) (S : Store) (Q : Vl → Store → Prop), Rule many cs' gl' → cs'.Sublist sg → Q (.d (.bl true)) S → okR (m_is_cut [.d (enc sg go tell en), .d (ruleD cs' gl')] S) Q := by
    intro cs' gl' S Q R' h q
    have hl' := h.length_le
    refine w_is_cut (by omega) (rule_small R' (by omega)) ?_
    rw [M.g1, cut_true R' g1 h]
    exact q
  refine seq_cut (fun ρ' S' => ∃ w, ρ' = [some (.l 0), some (.l 1), some (.d (enc sg go tell en)), some (.d (.int many)), some (.d (.str cs)), some (.d (ruleD cs gl)), some (.d (ruleD sg (List.replicate sg.length (many - 1)))), w, none, none, none, none] ∧ Inv ns S') ?_ fun ρ2 S8 ⟨w, e1, I8⟩ => ?_
  · simp only [w_dSeq, w_dSet, w_dExpr, w_dRet, w_dRetN, w_dNext, w_dBrk, w_dCnt, w_dIf, w_dAsg, w_dPar, w_dParN, w_dPut, w_dC, w_dVar, w_dBin, w_dUn, w_dCB, w_dNil, w_dCons, w_dCall, w_dBT, w_dTr, w_dNot, w_dAnd, w_dOr, w_dAndV, w_dOrV, w_dNotV, w_dIfE, w_dTup, w_dLst, w_dIx, w_dIsi, w_dIn, w_dNotIn, w_dONone, w_dOSome, w_dSl, w_dBM, w_dChain, w_dListRg1, w_dIR1, w_dIR2, w_dIA, w_dFor, w_dLc, w_dYes, okR_ok, List.getElem?_cons_zero, List.getElem?_cons_succ, Option.some.injEq, exists_eq_left', exists_eq_left, List.map_cons, List.map_nil, List.length_cons, List.length_nil, List.replicate_succ, List.replicate_zero, List.cons_append, List.nil_append, List.append_nil, List.set_cons_zero, List.set_cons_succ, Vl.d.injEq, Vl.l.injEq, D.int.injEq, D.bl.injEq, D.str.injEq, D.tup.injEq, Nat.sub_self, Nat.reduceSub, Nat.reduceAdd, allD, Option.map_some, e_lt, e_le, e_gt, e_ge, e_sub, e_add, e_addS, e_addT, e_mul, e_mulS, e_mod, e_fdiv, e_pow, e_neg, e_eqI, e_neI, e_eqS, e_neS, e_is, e_isNot, e_lenS, e_lenT, e_lenL, e_int, e_abs, e_max, e_min, e_tupT, e_tupL, e_listS, e_listT, e_listL, e_all, e_any, e_str, e_ixT, e_ixS, e_slT, e_slS, e_slL, e_revL, e_revS, e_trB, e_inS, gc_d, e_index, at_0, at_1, at_2, at_3, at_4, at_5]
    refine ⟨by decide, by decide, by decide, ?_⟩
    generalize hod : ([ruleD cs gl, ruleD sg (List.replicate sg.length (many - 1)), .tup [.str [], .tup []]] : List D) = od
    have hlst : lstAt (S7 ++ [.lst od]) S7.length = some od := lst_at new_at
    rw [iaQ_l, forQ_lst]
    refine ⟨by rw [hlst]; rfl, od, hlst, ?_⟩
    refine loopL_inv (fun i ρ' S' => (∃ w, ρ' = [some (.l 0), some (.l 1), some (.d (enc sg go tell en)), some (.d (.int many)), some (.d (.str cs)), some (.d (ruleD cs gl)), some (.d (ruleD sg (List.replicate sg.length (many - 1)))), w, none, none, none, none] ∧ Inv ns S') ∧ lstAt S' S7.length = some od) ⟨⟨_, rfl, I7.app⟩, hlst⟩ (fun i ρ S ⟨_, h⟩ => h) ?_ ?_
    · rintro i y ρ5 S5 hy ⟨⟨w', rfl, I5⟩, hl5⟩
      have hm := List.mem_of_getElem? hy
      refine ⟨_, rfl, ?_⟩
      simp only [w_dSeq, w_dSet, w_dExpr, w_dRet, w_dRetN, w_dNext, w_dBrk, w_dCnt, w_dIf, w_dAsg, w_dPar, w_dParN, w_dPut, w_dC, w_dVar, w_dBin, w_dUn, w_dCB, w_dNil, w_dCons, w_dCall, w_dBT, w_dTr, w_dNot, w_dAnd, w_dOr, w_dAndV, w_dOrV, w_dNotV, w_dIfE, w_dTup, w_dLst, w_dIx, w_dIsi, w_dIn, w_dNotIn, w_dONone, w_dOSome, w_dSl, w_dBM, w_dChain, w_dListRg1, w_dIR1, w_dIR2, w_dIA, w_dFor, w_dLc, w_dYes, okR_ok, List.getElem?_cons_zero, List.getElem?_cons_succ, Option.some.injEq, exists_eq_left', exists_eq_left, List.map_cons, List.map_nil, List.length_cons, List.length_nil, List.replicate_succ, List.replicate_zero, List.cons_append, List.nil_append, List.append_nil, List.set_cons_zero, List.set_cons_succ, Vl.d.injEq, Vl.l.injEq, D.int.injEq, D.bl.injEq, D.str.injEq, D.tup.injEq, Nat.sub_self, Nat.reduceSub, Nat.reduceAdd, allD, Option.map_some]
      have hy2 : ∃ cs' gl' : List Nat, y = ruleD cs' gl' ∧ Rule many cs' gl' ∧ cs'.Sublist sg := by
        rw [← hod] at hm
        simp only [List.mem_cons, List.not_mem_nil, or_false] at hm
        rcases hm with rfl | rfl | rfl
        · exact ⟨_, _, rfl, R, hcs⟩
        · exact ⟨_, _, rfl, RL, List.Sublist.refl _⟩
        · exact ⟨[], [], rfl, RE, List.nil_sublist _⟩
      obtain ⟨cs', gl', rfl, R', h'⟩ := hy2
      refine isr cs' gl' _ _ R' h' ?_
      simp only [w_dSeq, w_dSet, w_dExpr, w_dRet, w_dRetN, w_dNext, w_dBrk, w_dCnt, w_dIf, w_dAsg, w_dPar, w_dParN, w_dPut, w_dC, w_dVar, w_dBin, w_dUn, w_dCB, w_dNil, w_dCons, w_dCall, w_dBT, w_dTr, w_dNot, w_dAnd, w_dOr, w_dAndV, w_dOrV, w_dNotV, w_dIfE, w_dTup, w_dLst, w_dIx, w_dIsi, w_dIn, w_dNotIn, w_dONone, w_dOSome, w_dSl, w_dBM, w_dChain, w_dListRg1, w_dIR1, w_dIR2, w_dIA, w_dFor, w_dLc, w_dYes, okR_ok, List.getElem?_cons_zero, List.getElem?_cons_succ, Option.some.injEq, exists_eq_left', exists_eq_left, List.map_cons, List.map_nil, List.length_cons, List.length_nil, List.replicate_succ, List.replicate_zero, List.cons_append, List.nil_append, List.append_nil, List.set_cons_zero, List.set_cons_succ, Vl.d.injEq, Vl.l.injEq, D.int.injEq, D.bl.injEq, D.str.injEq, D.tup.injEq, Nat.sub_self, Nat.reduceSub, Nat.reduceAdd, allD, Option.map_some, e_lt, e_le, e_gt, e_ge, e_sub, e_add, e_addS, e_addT, e_mul, e_mulS, e_mod, e_fdiv, e_pow, e_neg, e_eqI, e_neI, e_eqS, e_neS, e_is, e_isNot, e_lenS, e_lenT, e_lenL, e_int, e_abs, e_max, e_min, e_tupT, e_tupL, e_listS, e_listT, e_listL, e_all, e_any, e_str, e_ixT, e_ixS, e_slT, e_slS, e_slL, e_revL, e_revS, e_trB, e_inS, gc_d, e_index, at_0, at_1, at_2, at_3, at_4, at_5]
      refine ⟨true, rfl, ?_⟩
      simp only [Bool.not_true, Bool.false_eq_true, if_false]
      exact ⟨⟨_, rfl, I5⟩, hl5⟩
    · rintro ρ5 S5 ⟨h, _⟩
      exact h
  subst e1
  refine seq_cut (fun ρ' S' => ∃ w', ρ' = [some (.l 0), some (.l 1), some (.d (enc sg go tell en)), some (.d (.int many)), some (.d (.str cs)), some (.d (ruleD cs gl)), some (.d (ruleD sg (List.replicate sg.length (many - 1)))), w, w', none, none, none] ∧ Inv ns S') ?_ fun ρ2 S9 ⟨w', e1, I9⟩ => ?_
  · simp only [w_dSeq, w_dSet, w_dExpr, w_dRet, w_dRetN, w_dNext, w_dBrk, w_dCnt, w_dIf, w_dAsg, w_dPar, w_dParN, w_dPut, w_dC, w_dVar, w_dBin, w_dUn, w_dCB, w_dNil, w_dCons, w_dCall, w_dBT, w_dTr, w_dNot, w_dAnd, w_dOr, w_dAndV, w_dOrV, w_dNotV, w_dIfE, w_dTup, w_dLst, w_dIx, w_dIsi, w_dIn, w_dNotIn, w_dONone, w_dOSome, w_dSl, w_dBM, w_dChain, w_dListRg1, w_dIR1, w_dIR2, w_dIA, w_dFor, w_dLc, w_dYes, okR_ok, List.getElem?_cons_zero, List.getElem?_cons_succ, Option.some.injEq, exists_eq_left', exists_eq_left, List.map_cons, List.map_nil, List.length_cons, List.length_nil, List.replicate_succ, List.replicate_zero, List.cons_append, List.nil_append, List.append_nil, List.set_cons_zero, List.set_cons_succ, Vl.d.injEq, Vl.l.injEq, D.int.injEq, D.bl.injEq, D.str.injEq, D.tup.injEq, Nat.sub_self, Nat.reduceSub, Nat.reduceAdd, allD, Option.map_some, e_lt, e_le, e_gt, e_ge, e_sub, e_add, e_addS, e_addT, e_mul, e_mulS, e_mod, e_fdiv, e_pow, e_neg, e_eqI, e_neI, e_eqS, e_neS, e_is, e_isNot, e_lenS, e_lenT, e_lenL, e_int, e_abs, e_max, e_min, e_tupT, e_tupL, e_listS, e_listT, e_listL, e_all, e_any, e_str, e_ixT, e_ixS, e_slT, e_slS, e_slL, e_revL, e_revS, e_trB, e_inS, gc_d, e_index, at_0, at_1, at_2, at_3, at_4, at_5]
    obtain ⟨h0, ds, h1, hp⟩ := id I8
    refine w_no_rules h1 hp M R g4 g1 hcs m1 (by omega) fun od ds' hp' hol hod => ?_
    have I8' : Inv ns (S8.set 1 (.lst ds') ++ [.lst od]) := (I8.set hp').app
    have hlst : lstAt (S8.set 1 (.lst ds') ++ [.lst od]) S8.length = some od := lst_at new_at'
    rw [iaQ_l, forQ_lst]
    refine ⟨by rw [hlst]; rfl, od, hlst, ?_⟩
    refine loopL_inv (fun i ρ' S' => (∃ w', ρ' = [some (.l 0), some (.l 1), some (.d (enc sg go tell en)), some (.d (.int many)), some (.d (.str cs)), some (.d (ruleD cs gl)), some (.d (ruleD sg (List.replicate sg.length (many - 1)))), w, w', none, none, none] ∧ Inv ns S') ∧ lstAt S' S8.length = some od) ⟨⟨_, rfl, I8'⟩, hlst⟩ (fun i ρ S ⟨_, h⟩ => h) ?_ ?_
    · rintro i y ρ5 S5 hy ⟨⟨w', rfl, I5⟩, hl5⟩
      have hm := List.mem_of_getElem? hy
      refine ⟨_, rfl, ?_⟩
      simp only [w_dSeq, w_dSet, w_dExpr, w_dRet, w_dRetN, w_dNext, w_dBrk, w_dCnt, w_dIf, w_dAsg, w_dPar, w_dParN, w_dPut, w_dC, w_dVar, w_dBin, w_dUn, w_dCB, w_dNil, w_dCons, w_dCall, w_dBT, w_dTr, w_dNot, w_dAnd, w_dOr, w_dAndV, w_dOrV, w_dNotV, w_dIfE, w_dTup, w_dLst, w_dIx, w_dIsi, w_dIn, w_dNotIn, w_dONone, w_dOSome, w_dSl, w_dBM, w_dChain, w_dListRg1, w_dIR1, w_dIR2, w_dIA, w_dFor, w_dLc, w_dYes, okR_ok, List.getElem?_cons_zero, List.getElem?_cons_succ, Option.some.injEq, exists_eq_left', exists_eq_left, List.map_cons, List.map_nil, List.length_cons, List.length_nil, List.replicate_succ, List.replicate_zero, List.cons_append, List.nil_append, List.append_nil, List.set_cons_zero, List.set_cons_succ, Vl.d.injEq, Vl.l.injEq, D.int.injEq, D.bl.injEq, D.str.injEq, D.tup.injEq, Nat.sub_self, Nat.reduceSub, Nat.reduceAdd, allD, Option.map_some]
      refine w_is_cut (by omega) (hod y hm).2 ?_
      rw [M.g1, (hod y hm).1]
      simp only [w_dSeq, w_dSet, w_dExpr, w_dRet, w_dRetN, w_dNext, w_dBrk, w_dCnt, w_dIf, w_dAsg, w_dPar, w_dParN, w_dPut, w_dC, w_dVar, w_dBin, w_dUn, w_dCB, w_dNil, w_dCons, w_dCall, w_dBT, w_dTr, w_dNot, w_dAnd, w_dOr, w_dAndV, w_dOrV, w_dNotV, w_dIfE, w_dTup, w_dLst, w_dIx, w_dIsi, w_dIn, w_dNotIn, w_dONone, w_dOSome, w_dSl, w_dBM, w_dChain, w_dListRg1, w_dIR1, w_dIR2, w_dIA, w_dFor, w_dLc, w_dYes, okR_ok, List.getElem?_cons_zero, List.getElem?_cons_succ, Option.some.injEq, exists_eq_left', exists_eq_left, List.map_cons, List.map_nil, List.length_cons, List.length_nil, List.replicate_succ, List.replicate_zero, List.cons_append, List.nil_append, List.append_nil, List.set_cons_zero, List.set_cons_succ, Vl.d.injEq, Vl.l.injEq, D.int.injEq, D.bl.injEq, D.str.injEq, D.tup.injEq, Nat.sub_self, Nat.reduceSub, Nat.reduceAdd, allD, Option.map_some, e_lt, e_le, e_gt, e_ge, e_sub, e_add, e_addS, e_addT, e_mul, e_mulS, e_mod, e_fdiv, e_pow, e_neg, e_eqI, e_neI, e_eqS, e_neS, e_is, e_isNot, e_lenS, e_lenT, e_lenL, e_int, e_abs, e_max, e_min, e_tupT, e_tupL, e_listS, e_listT, e_listL, e_all, e_any, e_str, e_ixT, e_ixS, e_slT, e_slS, e_slL, e_revL, e_revS, e_trB, e_inS, gc_d, e_index, at_0, at_1, at_2, at_3, at_4, at_5]
      refine ⟨true, rfl, ?_⟩
      simp only [Bool.not_true, Bool.false_eq_true, if_false]
      exact ⟨⟨_, rfl, I5⟩, hl5⟩
    · rintro ρ5 S5 ⟨h, _⟩
      exact h
  subst e1
  refine seq_cut (fun ρ' S' => ∃ v1 v2, ρ' = [some (.l 0), some (.l 1), some (.d (enc sg go tell en)), some (.d (.int many)), some (.d (.str cs)), some (.d (ruleD cs gl)), some (.d (ruleD sg (List.replicate sg.length (many - 1)))), w, w', v1, v2, none] ∧ Inv ns S') ?_ fun ρ2 S10 ⟨v1, v2, e1, I10⟩ => ?_
  · simp only [w_dSeq, w_dSet, w_dExpr, w_dRet, w_dRetN, w_dNext, w_dBrk, w_dCnt, w_dIf, w_dAsg, w_dPar, w_dParN, w_dPut, w_dC, w_dVar, w_dBin, w_dUn, w_dCB, w_dNil, w_dCons, w_dCall, w_dBT, w_dTr, w_dNot, w_dAnd, w_dOr, w_dAndV, w_dOrV, w_dNotV, w_dIfE, w_dTup, w_dLst, w_dIx, w_dIsi, w_dIn, w_dNotIn, w_dONone, w_dOSome, w_dSl, w_dBM, w_dChain, w_dListRg1, w_dIR1, w_dIR2, w_dIA, w_dFor, w_dLc, w_dYes, okR_ok, List.getElem?_cons_zero, List.getElem?_cons_succ, Option.some.injEq, exists_eq_left', exists_eq_left, List.map_cons, List.map_nil, List.length_cons, List.length_nil, List.replicate_succ, List.replicate_zero, List.cons_append, List.nil_append, List.append_nil, List.set_cons_zero, List.set_cons_succ, Vl.d.injEq, Vl.l.injEq, D.int.injEq, D.bl.injEq, D.str.injEq, D.tup.injEq, Nat.sub_self, Nat.reduceSub, Nat.reduceAdd, allD, Option.map_some, e_lt, e_le, e_gt, e_ge, e_sub, e_add, e_addS, e_addT, e_mul, e_mulS, e_mod, e_fdiv, e_pow, e_neg, e_eqI, e_neI, e_eqS, e_neS, e_is, e_isNot, e_lenS, e_lenT, e_lenL, e_int, e_abs, e_max, e_min, e_tupT, e_tupL, e_listS, e_listT, e_listL, e_all, e_any, e_str, e_ixT, e_ixS, e_slT, e_slS, e_slL, e_revL, e_revS, e_trB, e_inS, gc_d, e_index, at_0, at_1, at_2, at_3, at_4, at_5]
    obtain ⟨h0, ds, h1, hp⟩ := id I9
    have hk : ∃ k : Nat, (1 + if (8 : Int) < (ns.map D.int).length then 8 else ((ns.map D.int).length : Int)) = (k : Int) ∧ k ≤ 9 := by
      rw [List.length_map]
      split
      · exact ⟨9, rfl, Nat.le_refl _⟩
      · exact ⟨1 + ns.length, by omega, by omega⟩
    obtain ⟨k, ek, hk⟩ := hk
    refine ⟨_, frz_at h0, (k : Int), by rw [ek], by unfold okB; simp; omega, ?_⟩
    rw [forQ_seq]
    refine loopS_inv (fun i ρ' S' => ∃ v1 v2, ρ' = [some (.l 0), some (.l 1), some (.d (enc sg go tell en)), some (.d (.int many)), some (.d (.str cs)), some (.d (ruleD cs gl)), some (.d (ruleD sg (List.replicate sg.length (many - 1)))), w, w', v1, v2, none] ∧ Inv ns S') ⟨none, none, rfl, I9⟩ ?_ ?_
    · rintro i x ρ3 S3 hx ⟨v1, v2, rfl, I3⟩
      obtain ⟨hi, rfl⟩ := rng_at' hx
      refine ⟨_, rfl, ?_⟩
      refine seq_cut (fun ρ' S' => ∃ t : List Nat, (∀ c ∈ t, c ∈ sg) ∧ t.length ≤ 400 ∧ ρ' = [some (.l 0), some (.l 1), some (.d (enc sg go tell en)), some (.d (.int many)), some (.d (.str cs)), some (.d (ruleD cs gl)), some (.d (ruleD sg (List.replicate sg.length (many - 1)))), w, w', some (.d (.int i)), some (.d (.str t)), none] ∧ Inv ns S') ?_ fun ρ4 S4 ⟨t, t1, t2, e1, I4⟩ => ?_
      · unfold enc
        simp only [w_dSeq, w_dSet, w_dExpr, w_dRet, w_dRetN, w_dNext, w_dBrk, w_dCnt, w_dIf, w_dAsg, w_dPar, w_dParN, w_dPut, w_dC, w_dVar, w_dBin, w_dUn, w_dCB, w_dNil, w_dCons, w_dCall, w_dBT, w_dTr, w_dNot, w_dAnd, w_dOr, w_dAndV, w_dOrV, w_dNotV, w_dIfE, w_dTup, w_dLst, w_dIx, w_dIsi, w_dIn, w_dNotIn, w_dONone, w_dOSome, w_dSl, w_dBM, w_dChain, w_dListRg1, w_dIR1, w_dIR2, w_dIA, w_dFor, w_dLc, w_dYes, okR_ok, List.getElem?_cons_zero, List.getElem?_cons_succ, Option.some.injEq, exists_eq_left', exists_eq_left, List.map_cons, List.map_nil, List.length_cons, List.length_nil, List.replicate_succ, List.replicate_zero, List.cons_append, List.nil_append, List.append_nil, List.set_cons_zero, List.set_cons_succ, Vl.d.injEq, Vl.l.injEq, D.int.injEq, D.bl.injEq, D.str.injEq, D.tup.injEq, Nat.sub_self, Nat.reduceSub, Nat.reduceAdd, allD, Option.map_some, e_lt, e_le, e_gt, e_ge, e_sub, e_add, e_addS, e_addT, e_mul, e_mulS, e_mod, e_fdiv, e_pow, e_neg, e_eqI, e_neI, e_eqS, e_neS, e_is, e_isNot, e_lenS, e_lenT, e_lenL, e_int, e_abs, e_max, e_min, e_tupT, e_tupL, e_listS, e_listT, e_listL, e_all, e_any, e_str, e_ixT, e_ixS, e_slT, e_slS, e_slL, e_revL, e_revS, e_trB, e_inS, gc_d, e_index, at_0, at_1, at_2, at_3, at_4, at_5]
        obtain ⟨h0, ds, h1, hp⟩ := id I3
        refine w_pool (ns := ns) h0 hb hl (by omega) (by omega) (by decide) (by decide) fun ds2 hp2 => ?_
        refine w_any_text new_at hp2 (by omega) (by rintro rfl; simp at g3) fun t ds' hp' t1 t2 => ?_
        rw [set_new]
        exact ⟨t, t1, t2, rfl, I3.app⟩
      subst e1
      simp only [w_dSeq, w_dSet, w_dExpr, w_dRet, w_dRetN, w_dNext, w_dBrk, w_dCnt, w_dIf, w_dAsg, w_dPar, w_dParN, w_dPut, w_dC, w_dVar, w_dBin, w_dUn, w_dCB, w_dNil, w_dCons, w_dCall, w_dBT, w_dTr, w_dNot, w_dAnd, w_dOr, w_dAndV, w_dOrV, w_dNotV, w_dIfE, w_dTup, w_dLst, w_dIx, w_dIsi, w_dIn, w_dNotIn, w_dONone, w_dOSome, w_dSl, w_dBM, w_dChain, w_dListRg1, w_dIR1, w_dIR2, w_dIA, w_dFor, w_dLc, w_dYes, okR_ok, List.getElem?_cons_zero, List.getElem?_cons_succ, Option.some.injEq, exists_eq_left', exists_eq_left, List.map_cons, List.map_nil, List.length_cons, List.length_nil, List.replicate_succ, List.replicate_zero, List.cons_append, List.nil_append, List.append_nil, List.set_cons_zero, List.set_cons_succ, Vl.d.injEq, Vl.l.injEq, D.int.injEq, D.bl.injEq, D.str.injEq, D.tup.injEq, Nat.sub_self, Nat.reduceSub, Nat.reduceAdd, allD, Option.map_some, e_lt, e_le, e_gt, e_ge, e_sub, e_add, e_addS, e_addT, e_mul, e_mulS, e_mod, e_fdiv, e_pow, e_neg, e_eqI, e_neI, e_eqS, e_neS, e_is, e_isNot, e_lenS, e_lenT, e_lenL, e_int, e_abs, e_max, e_min, e_tupT, e_tupL, e_listS, e_listT, e_listL, e_all, e_any, e_str, e_ixT, e_ixS, e_slT, e_slS, e_slL, e_revL, e_revS, e_trB, e_inS, gc_d, e_index, at_0, at_1, at_2, at_3, at_4, at_5]
      refine w_read M R (by omega) m1 t2 t1 (by omega) ?_
      simp only [w_dSeq, w_dSet, w_dExpr, w_dRet, w_dRetN, w_dNext, w_dBrk, w_dCnt, w_dIf, w_dAsg, w_dPar, w_dParN, w_dPut, w_dC, w_dVar, w_dBin, w_dUn, w_dCB, w_dNil, w_dCons, w_dCall, w_dBT, w_dTr, w_dNot, w_dAnd, w_dOr, w_dAndV, w_dOrV, w_dNotV, w_dIfE, w_dTup, w_dLst, w_dIx, w_dIsi, w_dIn, w_dNotIn, w_dONone, w_dOSome, w_dSl, w_dBM, w_dChain, w_dListRg1, w_dIR1, w_dIR2, w_dIA, w_dFor, w_dLc, w_dYes, okR_ok, List.getElem?_cons_zero, List.getElem?_cons_succ, Option.some.injEq, exists_eq_left', exists_eq_left, List.map_cons, List.map_nil, List.length_cons, List.length_nil, List.replicate_succ, List.replicate_zero, List.cons_append, List.nil_append, List.append_nil, List.set_cons_zero, List.set_cons_succ, Vl.d.injEq, Vl.l.injEq, D.int.injEq, D.bl.injEq, D.str.injEq, D.tup.injEq, Nat.sub_self, Nat.reduceSub, Nat.reduceAdd, allD, Option.map_some, e_lt, e_le, e_gt, e_ge, e_sub, e_add, e_addS, e_addT, e_mul, e_mulS, e_mod, e_fdiv, e_pow, e_neg, e_eqI, e_neI, e_eqS, e_neS, e_is, e_isNot, e_lenS, e_lenT, e_lenL, e_int, e_abs, e_max, e_min, e_tupT, e_tupL, e_listS, e_listT, e_listL, e_all, e_any, e_str, e_ixT, e_ixS, e_slT, e_slS, e_slL, e_revL, e_revS, e_trB, e_inS, gc_d, e_index, at_0, at_1, at_2, at_3, at_4, at_5, Bool.not_true, Bool.false_eq_true, if_false]
      refine w_read M RL (by omega) m1 t2 t1 (by omega) ?_
      simp only [w_dSeq, w_dSet, w_dExpr, w_dRet, w_dRetN, w_dNext, w_dBrk, w_dCnt, w_dIf, w_dAsg, w_dPar, w_dParN, w_dPut, w_dC, w_dVar, w_dBin, w_dUn, w_dCB, w_dNil, w_dCons, w_dCall, w_dBT, w_dTr, w_dNot, w_dAnd, w_dOr, w_dAndV, w_dOrV, w_dNotV, w_dIfE, w_dTup, w_dLst, w_dIx, w_dIsi, w_dIn, w_dNotIn, w_dONone, w_dOSome, w_dSl, w_dBM, w_dChain, w_dListRg1, w_dIR1, w_dIR2, w_dIA, w_dFor, w_dLc, w_dYes, okR_ok, List.getElem?_cons_zero, List.getElem?_cons_succ, Option.some.injEq, exists_eq_left', exists_eq_left, List.map_cons, List.map_nil, List.length_cons, List.length_nil, List.replicate_succ, List.replicate_zero, List.cons_append, List.nil_append, List.append_nil, List.set_cons_zero, List.set_cons_succ, Vl.d.injEq, Vl.l.injEq, D.int.injEq, D.bl.injEq, D.str.injEq, D.tup.injEq, Nat.sub_self, Nat.reduceSub, Nat.reduceAdd, allD, Option.map_some, e_lt, e_le, e_gt, e_ge, e_sub, e_add, e_addS, e_addT, e_mul, e_mulS, e_mod, e_fdiv, e_pow, e_neg, e_eqI, e_neI, e_eqS, e_neS, e_is, e_isNot, e_lenS, e_lenT, e_lenL, e_int, e_abs, e_max, e_min, e_tupT, e_tupL, e_listS, e_listT, e_listL, e_all, e_any, e_str, e_ixT, e_ixS, e_slT, e_slS, e_slL, e_revL, e_revS, e_trB, e_inS, gc_d, e_index, at_0, at_1, at_2, at_3, at_4, at_5, Bool.not_true, Bool.false_eq_true, if_false]
      exact ⟨_, _, rfl, I4⟩
    · rintro ρ3 S3 ⟨v1, v2, rfl, I3⟩
      exact ⟨v1, v2, rfl, I3⟩
  subst e1
  simp only [w_dSeq, w_dSet, w_dExpr, w_dRet, w_dRetN, w_dNext, w_dBrk, w_dCnt, w_dIf, w_dAsg, w_dPar, w_dParN, w_dPut, w_dC, w_dVar, w_dBin, w_dUn, w_dCB, w_dNil, w_dCons, w_dCall, w_dBT, w_dTr, w_dNot, w_dAnd, w_dOr, w_dAndV, w_dOrV, w_dNotV, w_dIfE, w_dTup, w_dLst, w_dIx, w_dIsi, w_dIn, w_dNotIn, w_dONone, w_dOSome, w_dSl, w_dBM, w_dChain, w_dListRg1, w_dIR1, w_dIR2, w_dIA, w_dFor, w_dLc, w_dYes, okR_ok, List.getElem?_cons_zero, List.getElem?_cons_succ, Option.some.injEq, exists_eq_left', exists_eq_left, List.map_cons, List.map_nil, List.length_cons, List.length_nil, List.replicate_succ, List.replicate_zero, List.cons_append, List.nil_append, List.append_nil, List.set_cons_zero, List.set_cons_succ, Vl.d.injEq, Vl.l.injEq, D.int.injEq, D.bl.injEq, D.str.injEq, D.tup.injEq, Nat.sub_self, Nat.reduceSub, Nat.reduceAdd, allD, Option.map_some, e_lt, e_le, e_gt, e_ge, e_sub, e_add, e_addS, e_addT, e_mul, e_mulS, e_mod, e_fdiv, e_pow, e_neg, e_eqI, e_neI, e_eqS, e_neS, e_is, e_isNot, e_lenS, e_lenT, e_lenL, e_int, e_abs, e_max, e_min, e_tupT, e_tupL, e_listS, e_listT, e_listL, e_all, e_any, e_str, e_ixT, e_ixS, e_slT, e_slS, e_slL, e_revL, e_revS, e_trB, e_inS, gc_d, e_index, at_0, at_1, at_2, at_3, at_4, at_5]
  obtain ⟨h0, ds, h1, hp⟩ := id I10
  refine w_refused h1 hp M R g4 g3 g2 (by omega) m1 fun S' => ?_
  simp only [e_lt, e_le, e_gt, e_ge, e_sub, e_add, e_addS, e_addT, e_mul, e_mulS, e_mod, e_fdiv, e_pow, e_neg, e_eqI, e_neI, e_eqS, e_neS, e_is, e_isNot, e_lenS, e_lenT, e_lenL, e_int, e_abs, e_max, e_min, e_tupT, e_tupL, e_listS, e_listT, e_listL, e_all, e_any, e_str, e_ixT, e_ixS, e_slT, e_slS, e_slL, e_revL, e_revS, e_trB, e_inS, gc_d, e_index, at_0, at_1, at_2, at_3, at_4, at_5]
theorem law_true (ns : List Int) (hl : ns.length ≤ 63) (hb : ∀ z ∈ ns, Builtin.Int.intBits z ≤ 1048576) : ∃ S, m_law [.l 0] [.frz (ns.map .int)] = .ok (.d (.bl true)) S := by
  have hb' : ∀ z ∈ ns, z.natAbs.log2 ≤ 1048576 := by
    intro z hz
    have := hb z hz
    unfold Builtin.Int.intBits at this
    by_cases h : (z == 0) = true
    · have : z = 0 := by simpa using h
      subst this
      decide
    · rw [if_neg h] at this
      omega
  obtain ⟨v, S, e, rfl⟩ := okR_iff.mp (law_key ns hl hb')
  exact ⟨S, e⟩
end L71
end

section
set_option Elab.async false
set_option linter.all false
set_option maxRecDepth 100000
set_option autoImplicit false
set_option maxHeartbeats 1000001
namespace L71
open PySem L2 TL DL
theorem all_mk {w : World} {K : PySem.W.Frag} {h : Heap} {mg : Str → Option Value} {fa : Addr} (X : K.In h) (G : h.Ns mainGlobals mg) (hfa : mg "law" = some (.ref fa))
    {C_BadLine : Addr} {C_NoDeed : Addr} {C_NoTrial : Addr} {C_Overlap : Addr} {C_StaleError : Addr} {nm_StaleError qn_StaleError : Str} {N_StaleError : Addr} {bs_StaleError bm_StaleError : List Value} {sn_StaleError : List Str} {sub_StaleError : List Value} {ab_StaleError : Bool} {col_StaleError : Option Bool} {dd_StaleError : Option Addr} {k0_StaleError k1_StaleError k2_StaleError k3_StaleError k5_StaleError : Option Value} {C_TooLong : Addr} {C_TooMany : Addr} {C_Unfit : Addr} {C_Unknown : Addr} {I_TooLong Q_TooLong O_TooLong : Addr} {nm_TooLong qn_TooLong : Str} {N_TooLong : Addr} {bs_TooLong bm_TooLong : List Value} {sn_TooLong : List Str} {sub_TooLong : List Value} {ab_TooLong : Bool} {col_TooLong : Option Bool} {dd_TooLong : Option Addr} {k0_TooLong k1_TooLong k2_TooLong k3_TooLong k5_TooLong : Option Value} {oc_TooLong kV_TooLong dc_TooLong pm_TooLong ct_TooLong : Value} {od_TooLong an_TooLong : Option Addr} {sl_TooLong : Array (Option Value)} {ccl_TooLong : Value} {cdd_TooLong : Option Addr} {cvs_TooLong : Array Value} {ccs_TooLong : Array (Option Value)} {fl_TooLong : Str} {tf_TooLong : Tok} {ql_TooLong : Value} {qd_TooLong : Option Addr} {qs_TooLong : Array (Option Value)} {I_Unfit Q_Unfit O_Unfit : Addr} {nm_Unfit qn_Unfit : Str} {N_Unfit : Addr} {bs_Unfit bm_Unfit : List Value} {sn_Unfit : List Str} {sub_Unfit : List Value} {ab_Unfit : Bool} {col_Unfit : Option Bool} {dd_Unfit : Option Addr} {k0_Unfit k1_Unfit k2_Unfit k3_Unfit k5_Unfit : Option Value} {oc_Unfit kV_Unfit dc_Unfit pm_Unfit ct_Unfit : Value} {od_Unfit an_Unfit : Option Addr} {sl_Unfit : Array (Option Value)} {ccl_Unfit : Value} {cdd_Unfit : Option Addr} {cvs_Unfit : Array Value} {ccs_Unfit : Array (Option Value)} {fl_Unfit : Str} {tf_Unfit : Tok} {ql_Unfit : Value} {qd_Unfit : Option Addr} {qs_Unfit : Array (Option Value)} {A_is_over : Addr} {ocis_over kVis_over dcis_over pmis_over cdis_over ctis_over : Value} {odis_over anis_over : Option Addr} {slis_over : Array (Option Value)} {A_in_order : Addr} {ocin_order kVin_order dcin_order pmin_order cdin_order ctin_order : Value} {odin_order anin_order : Option Addr} {slin_order : Array (Option Value)} {A_is_lot : Addr} {ocis_lot kVis_lot dcis_lot pmis_lot cdis_lot ctis_lot : Value} {odis_lot anis_lot : Option Addr} {slis_lot : Array (Option Value)} {A_check_text : Addr} {occheck_text kVcheck_text dccheck_text pmcheck_text cdcheck_text ctcheck_text : Value} {odcheck_text ancheck_text : Option Addr} {slcheck_text : Array (Option Value)} {T_check_text : Addr} {to_check_text : Value} {td_check_text : Option Addr} {tn_check_text : Nat} {ts_check_text : Array (Option Value)} {tk0_check_text : Tok} {A_walk : Addr} {ocwalk kVwalk dcwalk pmwalk cdwalk ctwalk : Value} {odwalk anwalk : Option Addr} {slwalk : Array (Option Value)} {A_is_int : Addr} {ocis_int kVis_int dcis_int pmis_int cdis_int ctis_int : Value} {odis_int anis_int : Option Addr} {slis_int : Array (Option Value)} {A_is_from : Addr} {ocis_from kVis_from dcis_from pmis_from cdis_from ctis_from : Value} {odis_from anis_from : Option Addr} {slis_from : Array (Option Value)} {A_is_row : Addr} {ocis_row kVis_row dcis_row pmis_row cdis_row ctis_row : Value} {odis_row anis_row : Option Addr} {slis_row : Array (Option Value)} {A_are_numbers : Addr} {ocare_numbers kVare_numbers dcare_numbers pmare_numbers cdare_numbers ctare_numbers : Value} {odare_numbers anare_numbers : Option Addr} {slare_numbers : Array (Option Value)} {A_is_cut : Addr} {ocis_cut kVis_cut dcis_cut pmis_cut cdis_cut ctis_cut : Value} {odis_cut anis_cut : Option Addr} {slis_cut : Array (Option Value)} {A_cut_text : Addr} {occut_text kVcut_text dccut_text pmcut_text cdcut_text ctcut_text : Value} {odcut_text ancut_text : Option Addr} {slcut_text : Array (Option Value)} {A_read_apart : Addr} {ocread_apart kVread_apart dcread_apart pmread_apart cdread_apart ctread_apart : Value} {odread_apart anread_apart : Option Addr} {slread_apart : Array (Option Value)} {A_law_cell : Addr} {oclaw_cell kVlaw_cell dclaw_cell pmlaw_cell cdlaw_cell ctlaw_cell : Value} {odlaw_cell anlaw_cell : Option Addr} {sllaw_cell : Array (Option Value)} {A_law_pool : Addr} {oclaw_pool kVlaw_pool dclaw_pool pmlaw_pool cdlaw_pool ctlaw_pool : Value} {odlaw_pool anlaw_pool : Option Addr} {sllaw_pool : Array (Option Value)} {A_law_take : Addr} {oclaw_take kVlaw_take dclaw_take pmlaw_take cdlaw_take ctlaw_take : Value} {odlaw_take anlaw_take : Option Addr} {sllaw_take : Array (Option Value)} {A_law_signs : Addr} {oclaw_signs kVlaw_signs dclaw_signs pmlaw_signs cdlaw_signs ctlaw_signs : Value} {odlaw_signs anlaw_signs : Option Addr} {sllaw_signs : Array (Option Value)} {A_law_lot : Addr} {oclaw_lot kVlaw_lot dclaw_lot pmlaw_lot cdlaw_lot ctlaw_lot : Value} {odlaw_lot anlaw_lot : Option Addr} {sllaw_lot : Array (Option Value)} {A_law_text : Addr} {oclaw_text kVlaw_text dclaw_text pmlaw_text cdlaw_text ctlaw_text : Value} {odlaw_text anlaw_text : Option Addr} {sllaw_text : Array (Option Value)} {A_law_row : Addr} {oclaw_row kVlaw_row dclaw_row pmlaw_row cdlaw_row ctlaw_row : Value} {odlaw_row anlaw_row : Option Addr} {sllaw_row : Array (Option Value)} {A_law_mark : Addr} {oclaw_mark kVlaw_mark dclaw_mark pmlaw_mark cdlaw_mark ctlaw_mark : Value} {odlaw_mark anlaw_mark : Option Addr} {sllaw_mark : Array (Option Value)} {A_law_machine : Addr} {oclaw_machine kVlaw_machine dclaw_machine pmlaw_machine cdlaw_machine ctlaw_machine : Value} {odlaw_machine anlaw_machine : Option Addr} {sllaw_machine : Array (Option Value)} {A_law_same : Addr} {oclaw_same kVlaw_same dclaw_same pmlaw_same cdlaw_same ctlaw_same : Value} {odlaw_same anlaw_same : Option Addr} {sllaw_same : Array (Option Value)} {A_law_offered : Addr} {oclaw_offered kVlaw_offered dclaw_offered pmlaw_offered cdlaw_offered ctlaw_offered : Value} {odlaw_offered anlaw_offered : Option Addr} {sllaw_offered : Array (Option Value)} {A_law_spare : Addr} {oclaw_spare kVlaw_spare dclaw_spare pmlaw_spare cdlaw_spare ctlaw_spare : Value} {odlaw_spare anlaw_spare : Option Addr} {sllaw_spare : Array (Option Value)} {A_law_no_rules : Addr} {oclaw_no_rules kVlaw_no_rules dclaw_no_rules pmlaw_no_rules cdlaw_no_rules ctlaw_no_rules : Value} {odlaw_no_rules anlaw_no_rules : Option Addr} {sllaw_no_rules : Array (Option Value)} {A_law_pieces : Addr} {oclaw_pieces kVlaw_pieces dclaw_pieces pmlaw_pieces cdlaw_pieces ctlaw_pieces : Value} {odlaw_pieces anlaw_pieces : Option Addr} {sllaw_pieces : Array (Option Value)} {A_law_apart : Addr} {oclaw_apart kVlaw_apart dclaw_apart pmlaw_apart cdlaw_apart ctlaw_apart : Value} {odlaw_apart anlaw_apart : Option Addr} {sllaw_apart : Array (Option Value)} {A_law_read : Addr} {oclaw_read kVlaw_read dclaw_read pmlaw_read cdlaw_read ctlaw_read : Value} {odlaw_read anlaw_read : Option Addr} {sllaw_read : Array (Option Value)} {A_law_any_text : Addr} {oclaw_any_text kVlaw_any_text dclaw_any_text pmlaw_any_text cdlaw_any_text ctlaw_any_text : Value} {odlaw_any_text anlaw_any_text : Option Addr} {sllaw_any_text : Array (Option Value)} {A_law_error : Addr} {oclaw_error kVlaw_error dclaw_error pmlaw_error cdlaw_error ctlaw_error : Value} {odlaw_error anlaw_error : Option Addr} {sllaw_error : Array (Option Value)} {A_law_refused : Addr} {oclaw_refused kVlaw_refused dclaw_refused pmlaw_refused cdlaw_refused ctlaw_refused : Value} {odlaw_refused anlaw_refused : Option Addr} {sllaw_refused : Array (Option Value)} {A_law : Addr} {oclaw kVlaw dclaw pmlaw cdlaw ctlaw : Value} {odlaw anlaw : Option Addr} {sllaw : Array (Option Value)}
    (n_BadLine : PySem.W.nsIn K mainGlobals "BadLine" = some (some (.ref C_BadLine)))
    (is_BadLine : PySem.W.isClsIn K C_BadLine = true)
    (ty_BadLine : PySem.W.typeIn K (.ref C_BadLine) = some (.type "type"))
    (ss_BadLine : PySem.W.subIn K (.ref C_BadLine) (.ref C_BadLine) = some true)
    (n_NoDeed : PySem.W.nsIn K mainGlobals "NoDeed" = some (some (.ref C_NoDeed)))
    (is_NoDeed : PySem.W.isClsIn K C_NoDeed = true)
    (ty_NoDeed : PySem.W.typeIn K (.ref C_NoDeed) = some (.type "type"))
    (ss_NoDeed : PySem.W.subIn K (.ref C_NoDeed) (.ref C_NoDeed) = some true)
    (n_NoTrial : PySem.W.nsIn K mainGlobals "NoTrial" = some (some (.ref C_NoTrial)))
    (is_NoTrial : PySem.W.isClsIn K C_NoTrial = true)
    (ty_NoTrial : PySem.W.typeIn K (.ref C_NoTrial) = some (.type "type"))
    (ss_NoTrial : PySem.W.subIn K (.ref C_NoTrial) (.ref C_NoTrial) = some true)
    (n_Overlap : PySem.W.nsIn K mainGlobals "Overlap" = some (some (.ref C_Overlap)))
    (is_Overlap : PySem.W.isClsIn K C_Overlap = true)
    (ty_Overlap : PySem.W.typeIn K (.ref C_Overlap) = some (.type "type"))
    (ss_Overlap : PySem.W.subIn K (.ref C_Overlap) (.ref C_Overlap) = some true)
    (n_StaleError : PySem.W.nsIn K mainGlobals "StaleError" = some (some (.ref C_StaleError)))
    (is_StaleError : PySem.W.isClsIn K C_StaleError = true)
    (ty_StaleError : PySem.W.typeIn K (.ref C_StaleError) = some (.type "type"))
    (ss_StaleError : PySem.W.subIn K (.ref C_StaleError) (.ref C_StaleError) = some true)
    (x_StaleError : K.lookup C_StaleError = some (excClassObj nm_StaleError qn_StaleError C_StaleError N_StaleError bs_StaleError bm_StaleError true sn_StaleError sub_StaleError ab_StaleError col_StaleError dd_StaleError k0_StaleError k1_StaleError k2_StaleError k3_StaleError k5_StaleError "ValueError.__new__"))
    (ic_StaleError : PySem.W.findIn K (.ref C_StaleError) "__init__" = some (some (.builtin "ValueError.__init__")))
    (eb_StaleError : PySem.W.subIn K (.ref C_StaleError) (.type "BaseException") = some true)
    (hd_StaleError : PySem.W.hasDictIn K C_StaleError = true)
    (n_TooLong : PySem.W.nsIn K mainGlobals "TooLong" = some (some (.ref C_TooLong)))
    (is_TooLong : PySem.W.isClsIn K C_TooLong = true)
    (ty_TooLong : PySem.W.typeIn K (.ref C_TooLong) = some (.type "type"))
    (ss_TooLong : PySem.W.subIn K (.ref C_TooLong) (.ref C_TooLong) = some true)
    (n_TooMany : PySem.W.nsIn K mainGlobals "TooMany" = some (some (.ref C_TooMany)))
    (is_TooMany : PySem.W.isClsIn K C_TooMany = true)
    (ty_TooMany : PySem.W.typeIn K (.ref C_TooMany) = some (.type "type"))
    (ss_TooMany : PySem.W.subIn K (.ref C_TooMany) (.ref C_TooMany) = some true)
    (n_Unfit : PySem.W.nsIn K mainGlobals "Unfit" = some (some (.ref C_Unfit)))
    (is_Unfit : PySem.W.isClsIn K C_Unfit = true)
    (ty_Unfit : PySem.W.typeIn K (.ref C_Unfit) = some (.type "type"))
    (ss_Unfit : PySem.W.subIn K (.ref C_Unfit) (.ref C_Unfit) = some true)
    (n_Unknown : PySem.W.nsIn K mainGlobals "Unknown" = some (some (.ref C_Unknown)))
    (is_Unknown : PySem.W.isClsIn K C_Unknown = true)
    (ty_Unknown : PySem.W.typeIn K (.ref C_Unknown) = some (.type "type"))
    (ss_Unknown : PySem.W.subIn K (.ref C_Unknown) (.ref C_Unknown) = some true)
    (x_TooLong : K.lookup C_TooLong = some (excClassObj nm_TooLong qn_TooLong C_TooLong N_TooLong bs_TooLong bm_TooLong true sn_TooLong sub_TooLong ab_TooLong col_TooLong dd_TooLong k0_TooLong k1_TooLong k2_TooLong k3_TooLong k5_TooLong "ValueError.__new__"))
    (rf_TooLong : PySem.HandSPX.refsVE bm_TooLong = true)
    (sa_TooLong : PySem.W.findIn K (.ref C_TooLong) "__setattr__" = some (some (.builtin "object.__setattr__")))
    (ga_TooLong : PySem.W.findIn K (.ref C_TooLong) "__getattribute__" = some (some (.builtin "BaseException.__getattribute__")))
    (gg_TooLong : PySem.W.findIn K (.ref C_TooLong) "__getattr__" = some none)
    (nf_TooLong : PySem.W.findIn K (.ref C_TooLong) "limit" = some none)
    (ic_TooLong : PySem.W.findIn K (.ref C_TooLong) "__init__" = some (some (.ref I_TooLong)))
    (ti_TooLong : PySem.W.typeIn K (.ref I_TooLong) = some (.type "function"))
    (li_TooLong : K.lookup I_TooLong = some ⟨oc_TooLong, od_TooLong, .func (PySem.W.ksFn "__init__" "TooLong.__init__" (defArgs (DX.clsInit (topS 4))) (defBody (DX.clsInit (topS 4))) (defScope (DX.clsInit (topS 4))) .none kV_TooLong dc_TooLong pm_TooLong an_TooLong (.ref O_TooLong) ct_TooLong Q_TooLong), sl_TooLong⟩)
    (ci_TooLong : PySem.W.codeIn K (.ref O_TooLong) "TooLong.__init__" = true)
    (lo_TooLong : K.lookup O_TooLong = some ⟨ccl_TooLong, cdd_TooLong, .fields cvs_TooLong, ccs_TooLong⟩)
    (v2_TooLong : cvs_TooLong[2]? = some (.str fl_TooLong tf_TooLong))
    (mf_TooLong : ((PW.main.file : Str) == fl_TooLong) = true)
    (lq_TooLong : K.lookup Q_TooLong = some ⟨ql_TooLong, qd_TooLong, .cell (some (.ref C_TooLong)), qs_TooLong⟩)
    (mr_TooLong : bm_TooLong = .ref C_StaleError :: bm_StaleError)
    (ve_TooLong : PySem.W.subIn K (.ref C_TooLong) (.type "ValueError") = some true)
    (ow_TooLong : PySem.W.mroIn K C_TooLong (.ref C_TooLong) = some true)
    (kc_TooLong : PySem.W.keepIn K (.ref C_TooLong) = true)
    (eb_TooLong : PySem.W.subIn K (.ref C_TooLong) (.type "BaseException") = some true)
    (hd_TooLong : PySem.W.hasDictIn K C_TooLong = true)
    (fc_TooLong : PySem.W.findIn K (.ref C_TooLong) "__class__" = some (some (.builtin "object.__class__")))
    (mo_TooLong : PySem.W.mroIn K C_TooLong (.type "object") = some true)
    (em_TooLong : PySem.W.subIn K (.ref C_TooLong) (.ref C_StaleError) = some true)
    (x_Unfit : K.lookup C_Unfit = some (excClassObj nm_Unfit qn_Unfit C_Unfit N_Unfit bs_Unfit bm_Unfit true sn_Unfit sub_Unfit ab_Unfit col_Unfit dd_Unfit k0_Unfit k1_Unfit k2_Unfit k3_Unfit k5_Unfit "ValueError.__new__"))
    (rf_Unfit : PySem.HandSPX.refsVE bm_Unfit = true)
    (sa_Unfit : PySem.W.findIn K (.ref C_Unfit) "__setattr__" = some (some (.builtin "object.__setattr__")))
    (ga_Unfit : PySem.W.findIn K (.ref C_Unfit) "__getattribute__" = some (some (.builtin "BaseException.__getattribute__")))
    (gg_Unfit : PySem.W.findIn K (.ref C_Unfit) "__getattr__" = some none)
    (nf_Unfit : PySem.W.findIn K (.ref C_Unfit) "part" = some none)
    (ic_Unfit : PySem.W.findIn K (.ref C_Unfit) "__init__" = some (some (.ref I_Unfit)))
    (ti_Unfit : PySem.W.typeIn K (.ref I_Unfit) = some (.type "function"))
    (li_Unfit : K.lookup I_Unfit = some ⟨oc_Unfit, od_Unfit, .func (PySem.W.ksFn "__init__" "Unfit.__init__" (defArgs (DX.clsInit (topS 5))) (defBody (DX.clsInit (topS 5))) (defScope (DX.clsInit (topS 5))) .none kV_Unfit dc_Unfit pm_Unfit an_Unfit (.ref O_Unfit) ct_Unfit Q_Unfit), sl_Unfit⟩)
    (ci_Unfit : PySem.W.codeIn K (.ref O_Unfit) "Unfit.__init__" = true)
    (lo_Unfit : K.lookup O_Unfit = some ⟨ccl_Unfit, cdd_Unfit, .fields cvs_Unfit, ccs_Unfit⟩)
    (v2_Unfit : cvs_Unfit[2]? = some (.str fl_Unfit tf_Unfit))
    (mf_Unfit : ((PW.main.file : Str) == fl_Unfit) = true)
    (lq_Unfit : K.lookup Q_Unfit = some ⟨ql_Unfit, qd_Unfit, .cell (some (.ref C_Unfit)), qs_Unfit⟩)
    (mr_Unfit : bm_Unfit = .ref C_StaleError :: bm_StaleError)
    (ve_Unfit : PySem.W.subIn K (.ref C_Unfit) (.type "ValueError") = some true)
    (ow_Unfit : PySem.W.mroIn K C_Unfit (.ref C_Unfit) = some true)
    (kc_Unfit : PySem.W.keepIn K (.ref C_Unfit) = true)
    (eb_Unfit : PySem.W.subIn K (.ref C_Unfit) (.type "BaseException") = some true)
    (hd_Unfit : PySem.W.hasDictIn K C_Unfit = true)
    (fc_Unfit : PySem.W.findIn K (.ref C_Unfit) "__class__" = some (some (.builtin "object.__class__")))
    (mo_Unfit : PySem.W.mroIn K C_Unfit (.type "object") = some true)
    (em_Unfit : PySem.W.subIn K (.ref C_Unfit) (.ref C_StaleError) = some true)
    (opq : PySem.W.nsIn K cStatics "thirdparty.any" = some none)
    (z_super : PySem.W.nsIn K mainGlobals "super" = some none)
    (sg : PySem.W.specialIn K (.builtin "object.__class__") "__get__" = some (some (.builtin "getset_descriptor.__get__")))
    (tk : PySem.W.takesIn K (.builtin "object.__class__") = some true)
    (kt_TooLong_BadLine : PySem.W.subIn K (.ref C_TooLong) (.ref C_BadLine) = some false)
    (kt_TooLong_NoDeed : PySem.W.subIn K (.ref C_TooLong) (.ref C_NoDeed) = some false)
    (kt_TooLong_NoTrial : PySem.W.subIn K (.ref C_TooLong) (.ref C_NoTrial) = some false)
    (kt_TooLong_Overlap : PySem.W.subIn K (.ref C_TooLong) (.ref C_Overlap) = some false)
    (kt_TooLong_TooMany : PySem.W.subIn K (.ref C_TooLong) (.ref C_TooMany) = some false)
    (kt_TooLong_Unknown : PySem.W.subIn K (.ref C_TooLong) (.ref C_Unknown) = some false)
    (kt_TooLong_Unfit : PySem.W.subIn K (.ref C_TooLong) (.ref C_Unfit) = some false)
    (kt_TooLong_TooLong : PySem.W.subIn K (.ref C_TooLong) (.ref C_TooLong) = some true)
    (kt_Unfit_BadLine : PySem.W.subIn K (.ref C_Unfit) (.ref C_BadLine) = some false)
    (kt_Unfit_NoDeed : PySem.W.subIn K (.ref C_Unfit) (.ref C_NoDeed) = some false)
    (kt_Unfit_NoTrial : PySem.W.subIn K (.ref C_Unfit) (.ref C_NoTrial) = some false)
    (kt_Unfit_Overlap : PySem.W.subIn K (.ref C_Unfit) (.ref C_Overlap) = some false)
    (kt_Unfit_TooMany : PySem.W.subIn K (.ref C_Unfit) (.ref C_TooMany) = some false)
    (kt_Unfit_Unknown : PySem.W.subIn K (.ref C_Unfit) (.ref C_Unknown) = some false)
    (kt_Unfit_Unfit : PySem.W.subIn K (.ref C_Unfit) (.ref C_Unfit) = some true)
    (kt_Unfit_TooLong : PySem.W.subIn K (.ref C_Unfit) (.ref C_TooLong) = some false)
    (a_is_over : PySem.W.nsIn K mainGlobals "is_over" = some (some (.ref A_is_over)))
    (l_is_over : K.lookup A_is_over = some ⟨ocis_over, odis_over, .func (PySem.W.fnOf "is_over" "is_over" (defArgs S_is_over) (defBody S_is_over) (defScope S_is_over) .none kVis_over dcis_over pmis_over anis_over cdis_over ctis_over), slis_over⟩)
    (c_is_over : PySem.W.codeIn K cdis_over "is_over" = true)
    (k_is_over : PySem.W.keepIn K (.ref A_is_over) = true)
    (a_in_order : PySem.W.nsIn K mainGlobals "in_order" = some (some (.ref A_in_order)))
    (l_in_order : K.lookup A_in_order = some ⟨ocin_order, odin_order, .func (PySem.W.fnOf "in_order" "in_order" (defArgs S_in_order) (defBody S_in_order) (defScope S_in_order) .none kVin_order dcin_order pmin_order anin_order cdin_order ctin_order), slin_order⟩)
    (c_in_order : PySem.W.codeIn K cdin_order "in_order" = true)
    (k_in_order : PySem.W.keepIn K (.ref A_in_order) = true)
    (a_is_lot : PySem.W.nsIn K mainGlobals "is_lot" = some (some (.ref A_is_lot)))
    (l_is_lot : K.lookup A_is_lot = some ⟨ocis_lot, odis_lot, .func (PySem.W.fnOf "is_lot" "is_lot" (defArgs S_is_lot) (defBody S_is_lot) (defScope S_is_lot) .none kVis_lot dcis_lot pmis_lot anis_lot cdis_lot ctis_lot), slis_lot⟩)
    (c_is_lot : PySem.W.codeIn K cdis_lot "is_lot" = true)
    (k_is_lot : PySem.W.keepIn K (.ref A_is_lot) = true)
    (a_check_text : PySem.W.nsIn K mainGlobals "check_text" = some (some (.ref A_check_text)))
    (l_check_text : K.lookup A_check_text = some ⟨occheck_text, odcheck_text, .func (PySem.W.fnOf "check_text" "check_text" (defArgs S_check_text) (defBody S_check_text) (defScope S_check_text) (.ref T_check_text) kVcheck_text dccheck_text pmcheck_text ancheck_text cdcheck_text ctcheck_text), slcheck_text⟩)
    (c_check_text : PySem.W.codeIn K cdcheck_text "check_text" = true)
    (k_check_text : PySem.W.keepIn K (.ref A_check_text) = true)
    (t_check_text : K.lookup T_check_text = some ⟨to_check_text, td_check_text, .seq ([.int 400 tk0_check_text] : List Value).toArray tn_check_text, ts_check_text⟩)
    (a_walk : PySem.W.nsIn K mainGlobals "walk" = some (some (.ref A_walk)))
    (l_walk : K.lookup A_walk = some ⟨ocwalk, odwalk, .func (PySem.W.fnOf "walk" "walk" (defArgs S_walk) (defBody S_walk) (defScope S_walk) .none kVwalk dcwalk pmwalk anwalk cdwalk ctwalk), slwalk⟩)
    (c_walk : PySem.W.codeIn K cdwalk "walk" = true)
    (k_walk : PySem.W.keepIn K (.ref A_walk) = true)
    (a_is_int : PySem.W.nsIn K mainGlobals "is_int" = some (some (.ref A_is_int)))
    (l_is_int : K.lookup A_is_int = some ⟨ocis_int, odis_int, .func (PySem.W.fnOf "is_int" "is_int" (defArgs S_is_int) (defBody S_is_int) (defScope S_is_int) .none kVis_int dcis_int pmis_int anis_int cdis_int ctis_int), slis_int⟩)
    (c_is_int : PySem.W.codeIn K cdis_int "is_int" = true)
    (k_is_int : PySem.W.keepIn K (.ref A_is_int) = true)
    (a_is_from : PySem.W.nsIn K mainGlobals "is_from" = some (some (.ref A_is_from)))
    (l_is_from : K.lookup A_is_from = some ⟨ocis_from, odis_from, .func (PySem.W.fnOf "is_from" "is_from" (defArgs S_is_from) (defBody S_is_from) (defScope S_is_from) .none kVis_from dcis_from pmis_from anis_from cdis_from ctis_from), slis_from⟩)
    (c_is_from : PySem.W.codeIn K cdis_from "is_from" = true)
    (k_is_from : PySem.W.keepIn K (.ref A_is_from) = true)
    (a_is_row : PySem.W.nsIn K mainGlobals "is_row" = some (some (.ref A_is_row)))
    (l_is_row : K.lookup A_is_row = some ⟨ocis_row, odis_row, .func (PySem.W.fnOf "is_row" "is_row" (defArgs S_is_row) (defBody S_is_row) (defScope S_is_row) .none kVis_row dcis_row pmis_row anis_row cdis_row ctis_row), slis_row⟩)
    (c_is_row : PySem.W.codeIn K cdis_row "is_row" = true)
    (k_is_row : PySem.W.keepIn K (.ref A_is_row) = true)
    (a_are_numbers : PySem.W.nsIn K mainGlobals "are_numbers" = some (some (.ref A_are_numbers)))
    (l_are_numbers : K.lookup A_are_numbers = some ⟨ocare_numbers, odare_numbers, .func (PySem.W.fnOf "are_numbers" "are_numbers" (defArgs S_are_numbers) (defBody S_are_numbers) (defScope S_are_numbers) .none kVare_numbers dcare_numbers pmare_numbers anare_numbers cdare_numbers ctare_numbers), slare_numbers⟩)
    (c_are_numbers : PySem.W.codeIn K cdare_numbers "are_numbers" = true)
    (k_are_numbers : PySem.W.keepIn K (.ref A_are_numbers) = true)
    (a_is_cut : PySem.W.nsIn K mainGlobals "is_cut" = some (some (.ref A_is_cut)))
    (l_is_cut : K.lookup A_is_cut = some ⟨ocis_cut, odis_cut, .func (PySem.W.fnOf "is_cut" "is_cut" (defArgs S_is_cut) (defBody S_is_cut) (defScope S_is_cut) .none kVis_cut dcis_cut pmis_cut anis_cut cdis_cut ctis_cut), slis_cut⟩)
    (c_is_cut : PySem.W.codeIn K cdis_cut "is_cut" = true)
    (k_is_cut : PySem.W.keepIn K (.ref A_is_cut) = true)
    (a_cut_text : PySem.W.nsIn K mainGlobals "cut_text" = some (some (.ref A_cut_text)))
    (l_cut_text : K.lookup A_cut_text = some ⟨occut_text, odcut_text, .func (PySem.W.fnOf "cut_text" "cut_text" (defArgs S_cut_text) (defBody S_cut_text) (defScope S_cut_text) .none kVcut_text dccut_text pmcut_text ancut_text cdcut_text ctcut_text), slcut_text⟩)
    (c_cut_text : PySem.W.codeIn K cdcut_text "cut_text" = true)
    (k_cut_text : PySem.W.keepIn K (.ref A_cut_text) = true)
    (a_read_apart : PySem.W.nsIn K mainGlobals "read_apart" = some (some (.ref A_read_apart)))
    (l_read_apart : K.lookup A_read_apart = some ⟨ocread_apart, odread_apart, .func (PySem.W.fnOf "read_apart" "read_apart" (defArgs S_read_apart) (defBody S_read_apart) (defScope S_read_apart) .none kVread_apart dcread_apart pmread_apart anread_apart cdread_apart ctread_apart), slread_apart⟩)
    (c_read_apart : PySem.W.codeIn K cdread_apart "read_apart" = true)
    (k_read_apart : PySem.W.keepIn K (.ref A_read_apart) = true)
    (a_law_cell : PySem.W.nsIn K mainGlobals "_law_cell" = some (some (.ref A_law_cell)))
    (l_law_cell : K.lookup A_law_cell = some ⟨oclaw_cell, odlaw_cell, .func (PySem.W.fnOf "_law_cell" "_law_cell" (defArgs S_law_cell) (defBody S_law_cell) (defScope S_law_cell) .none kVlaw_cell dclaw_cell pmlaw_cell anlaw_cell cdlaw_cell ctlaw_cell), sllaw_cell⟩)
    (c_law_cell : PySem.W.codeIn K cdlaw_cell "_law_cell" = true)
    (k_law_cell : PySem.W.keepIn K (.ref A_law_cell) = true)
    (a_law_pool : PySem.W.nsIn K mainGlobals "_law_pool" = some (some (.ref A_law_pool)))
    (l_law_pool : K.lookup A_law_pool = some ⟨oclaw_pool, odlaw_pool, .func (PySem.W.fnOf "_law_pool" "_law_pool" (defArgs S_law_pool) (defBody S_law_pool) (defScope S_law_pool) .none kVlaw_pool dclaw_pool pmlaw_pool anlaw_pool cdlaw_pool ctlaw_pool), sllaw_pool⟩)
    (c_law_pool : PySem.W.codeIn K cdlaw_pool "_law_pool" = true)
    (k_law_pool : PySem.W.keepIn K (.ref A_law_pool) = true)
    (a_law_take : PySem.W.nsIn K mainGlobals "_law_take" = some (some (.ref A_law_take)))
    (l_law_take : K.lookup A_law_take = some ⟨oclaw_take, odlaw_take, .func (PySem.W.fnOf "_law_take" "_law_take" (defArgs S_law_take) (defBody S_law_take) (defScope S_law_take) .none kVlaw_take dclaw_take pmlaw_take anlaw_take cdlaw_take ctlaw_take), sllaw_take⟩)
    (c_law_take : PySem.W.codeIn K cdlaw_take "_law_take" = true)
    (k_law_take : PySem.W.keepIn K (.ref A_law_take) = true)
    (a_law_signs : PySem.W.nsIn K mainGlobals "_law_signs" = some (some (.ref A_law_signs)))
    (l_law_signs : K.lookup A_law_signs = some ⟨oclaw_signs, odlaw_signs, .func (PySem.W.fnOf "_law_signs" "_law_signs" (defArgs S_law_signs) (defBody S_law_signs) (defScope S_law_signs) .none kVlaw_signs dclaw_signs pmlaw_signs anlaw_signs cdlaw_signs ctlaw_signs), sllaw_signs⟩)
    (c_law_signs : PySem.W.codeIn K cdlaw_signs "_law_signs" = true)
    (k_law_signs : PySem.W.keepIn K (.ref A_law_signs) = true)
    (a_law_lot : PySem.W.nsIn K mainGlobals "_law_lot" = some (some (.ref A_law_lot)))
    (l_law_lot : K.lookup A_law_lot = some ⟨oclaw_lot, odlaw_lot, .func (PySem.W.fnOf "_law_lot" "_law_lot" (defArgs S_law_lot) (defBody S_law_lot) (defScope S_law_lot) .none kVlaw_lot dclaw_lot pmlaw_lot anlaw_lot cdlaw_lot ctlaw_lot), sllaw_lot⟩)
    (c_law_lot : PySem.W.codeIn K cdlaw_lot "_law_lot" = true)
    (k_law_lot : PySem.W.keepIn K (.ref A_law_lot) = true)
    (a_law_text : PySem.W.nsIn K mainGlobals "_law_text" = some (some (.ref A_law_text)))
    (l_law_text : K.lookup A_law_text = some ⟨oclaw_text, odlaw_text, .func (PySem.W.fnOf "_law_text" "_law_text" (defArgs S_law_text) (defBody S_law_text) (defScope S_law_text) .none kVlaw_text dclaw_text pmlaw_text anlaw_text cdlaw_text ctlaw_text), sllaw_text⟩)
    (c_law_text : PySem.W.codeIn K cdlaw_text "_law_text" = true)
    (k_law_text : PySem.W.keepIn K (.ref A_law_text) = true)
    (a_law_row : PySem.W.nsIn K mainGlobals "_law_row" = some (some (.ref A_law_row)))
    (l_law_row : K.lookup A_law_row = some ⟨oclaw_row, odlaw_row, .func (PySem.W.fnOf "_law_row" "_law_row" (defArgs S_law_row) (defBody S_law_row) (defScope S_law_row) .none kVlaw_row dclaw_row pmlaw_row anlaw_row cdlaw_row ctlaw_row), sllaw_row⟩)
    (c_law_row : PySem.W.codeIn K cdlaw_row "_law_row" = true)
    (k_law_row : PySem.W.keepIn K (.ref A_law_row) = true)
    (a_law_mark : PySem.W.nsIn K mainGlobals "_law_mark" = some (some (.ref A_law_mark)))
    (l_law_mark : K.lookup A_law_mark = some ⟨oclaw_mark, odlaw_mark, .func (PySem.W.fnOf "_law_mark" "_law_mark" (defArgs S_law_mark) (defBody S_law_mark) (defScope S_law_mark) .none kVlaw_mark dclaw_mark pmlaw_mark anlaw_mark cdlaw_mark ctlaw_mark), sllaw_mark⟩)
    (c_law_mark : PySem.W.codeIn K cdlaw_mark "_law_mark" = true)
    (k_law_mark : PySem.W.keepIn K (.ref A_law_mark) = true)
    (a_law_machine : PySem.W.nsIn K mainGlobals "_law_machine" = some (some (.ref A_law_machine)))
    (l_law_machine : K.lookup A_law_machine = some ⟨oclaw_machine, odlaw_machine, .func (PySem.W.fnOf "_law_machine" "_law_machine" (defArgs S_law_machine) (defBody S_law_machine) (defScope S_law_machine) .none kVlaw_machine dclaw_machine pmlaw_machine anlaw_machine cdlaw_machine ctlaw_machine), sllaw_machine⟩)
    (c_law_machine : PySem.W.codeIn K cdlaw_machine "_law_machine" = true)
    (k_law_machine : PySem.W.keepIn K (.ref A_law_machine) = true)
    (a_law_same : PySem.W.nsIn K mainGlobals "_law_same" = some (some (.ref A_law_same)))
    (l_law_same : K.lookup A_law_same = some ⟨oclaw_same, odlaw_same, .func (PySem.W.fnOf "_law_same" "_law_same" (defArgs S_law_same) (defBody S_law_same) (defScope S_law_same) .none kVlaw_same dclaw_same pmlaw_same anlaw_same cdlaw_same ctlaw_same), sllaw_same⟩)
    (c_law_same : PySem.W.codeIn K cdlaw_same "_law_same" = true)
    (k_law_same : PySem.W.keepIn K (.ref A_law_same) = true)
    (a_law_offered : PySem.W.nsIn K mainGlobals "_law_offered" = some (some (.ref A_law_offered)))
    (l_law_offered : K.lookup A_law_offered = some ⟨oclaw_offered, odlaw_offered, .func (PySem.W.fnOf "_law_offered" "_law_offered" (defArgs S_law_offered) (defBody S_law_offered) (defScope S_law_offered) .none kVlaw_offered dclaw_offered pmlaw_offered anlaw_offered cdlaw_offered ctlaw_offered), sllaw_offered⟩)
    (c_law_offered : PySem.W.codeIn K cdlaw_offered "_law_offered" = true)
    (k_law_offered : PySem.W.keepIn K (.ref A_law_offered) = true)
    (a_law_spare : PySem.W.nsIn K mainGlobals "_law_spare" = some (some (.ref A_law_spare)))
    (l_law_spare : K.lookup A_law_spare = some ⟨oclaw_spare, odlaw_spare, .func (PySem.W.fnOf "_law_spare" "_law_spare" (defArgs S_law_spare) (defBody S_law_spare) (defScope S_law_spare) .none kVlaw_spare dclaw_spare pmlaw_spare anlaw_spare cdlaw_spare ctlaw_spare), sllaw_spare⟩)
    (c_law_spare : PySem.W.codeIn K cdlaw_spare "_law_spare" = true)
    (k_law_spare : PySem.W.keepIn K (.ref A_law_spare) = true)
    (a_law_no_rules : PySem.W.nsIn K mainGlobals "_law_no_rules" = some (some (.ref A_law_no_rules)))
    (l_law_no_rules : K.lookup A_law_no_rules = some ⟨oclaw_no_rules, odlaw_no_rules, .func (PySem.W.fnOf "_law_no_rules" "_law_no_rules" (defArgs S_law_no_rules) (defBody S_law_no_rules) (defScope S_law_no_rules) .none kVlaw_no_rules dclaw_no_rules pmlaw_no_rules anlaw_no_rules cdlaw_no_rules ctlaw_no_rules), sllaw_no_rules⟩)
    (c_law_no_rules : PySem.W.codeIn K cdlaw_no_rules "_law_no_rules" = true)
    (k_law_no_rules : PySem.W.keepIn K (.ref A_law_no_rules) = true)
    (a_law_pieces : PySem.W.nsIn K mainGlobals "_law_pieces" = some (some (.ref A_law_pieces)))
    (l_law_pieces : K.lookup A_law_pieces = some ⟨oclaw_pieces, odlaw_pieces, .func (PySem.W.fnOf "_law_pieces" "_law_pieces" (defArgs S_law_pieces) (defBody S_law_pieces) (defScope S_law_pieces) .none kVlaw_pieces dclaw_pieces pmlaw_pieces anlaw_pieces cdlaw_pieces ctlaw_pieces), sllaw_pieces⟩)
    (c_law_pieces : PySem.W.codeIn K cdlaw_pieces "_law_pieces" = true)
    (k_law_pieces : PySem.W.keepIn K (.ref A_law_pieces) = true)
    (a_law_apart : PySem.W.nsIn K mainGlobals "_law_apart" = some (some (.ref A_law_apart)))
    (l_law_apart : K.lookup A_law_apart = some ⟨oclaw_apart, odlaw_apart, .func (PySem.W.fnOf "_law_apart" "_law_apart" (defArgs S_law_apart) (defBody S_law_apart) (defScope S_law_apart) .none kVlaw_apart dclaw_apart pmlaw_apart anlaw_apart cdlaw_apart ctlaw_apart), sllaw_apart⟩)
    (c_law_apart : PySem.W.codeIn K cdlaw_apart "_law_apart" = true)
    (k_law_apart : PySem.W.keepIn K (.ref A_law_apart) = true)
    (a_law_read : PySem.W.nsIn K mainGlobals "_law_read" = some (some (.ref A_law_read)))
    (l_law_read : K.lookup A_law_read = some ⟨oclaw_read, odlaw_read, .func (PySem.W.fnOf "_law_read" "_law_read" (defArgs S_law_read) (defBody S_law_read) (defScope S_law_read) .none kVlaw_read dclaw_read pmlaw_read anlaw_read cdlaw_read ctlaw_read), sllaw_read⟩)
    (c_law_read : PySem.W.codeIn K cdlaw_read "_law_read" = true)
    (k_law_read : PySem.W.keepIn K (.ref A_law_read) = true)
    (a_law_any_text : PySem.W.nsIn K mainGlobals "_law_any_text" = some (some (.ref A_law_any_text)))
    (l_law_any_text : K.lookup A_law_any_text = some ⟨oclaw_any_text, odlaw_any_text, .func (PySem.W.fnOf "_law_any_text" "_law_any_text" (defArgs S_law_any_text) (defBody S_law_any_text) (defScope S_law_any_text) .none kVlaw_any_text dclaw_any_text pmlaw_any_text anlaw_any_text cdlaw_any_text ctlaw_any_text), sllaw_any_text⟩)
    (c_law_any_text : PySem.W.codeIn K cdlaw_any_text "_law_any_text" = true)
    (k_law_any_text : PySem.W.keepIn K (.ref A_law_any_text) = true)
    (a_law_error : PySem.W.nsIn K mainGlobals "_law_error" = some (some (.ref A_law_error)))
    (l_law_error : K.lookup A_law_error = some ⟨oclaw_error, odlaw_error, .func (PySem.W.fnOf "_law_error" "_law_error" (defArgs S_law_error) (defBody S_law_error) (defScope S_law_error) .none kVlaw_error dclaw_error pmlaw_error anlaw_error cdlaw_error ctlaw_error), sllaw_error⟩)
    (c_law_error : PySem.W.codeIn K cdlaw_error "_law_error" = true)
    (k_law_error : PySem.W.keepIn K (.ref A_law_error) = true)
    (a_law_refused : PySem.W.nsIn K mainGlobals "_law_refused" = some (some (.ref A_law_refused)))
    (l_law_refused : K.lookup A_law_refused = some ⟨oclaw_refused, odlaw_refused, .func (PySem.W.fnOf "_law_refused" "_law_refused" (defArgs S_law_refused) (defBody S_law_refused) (defScope S_law_refused) .none kVlaw_refused dclaw_refused pmlaw_refused anlaw_refused cdlaw_refused ctlaw_refused), sllaw_refused⟩)
    (c_law_refused : PySem.W.codeIn K cdlaw_refused "_law_refused" = true)
    (k_law_refused : PySem.W.keepIn K (.ref A_law_refused) = true)
    (a_law : PySem.W.nsIn K mainGlobals "law" = some (some (.ref A_law)))
    (l_law : K.lookup A_law = some ⟨oclaw, odlaw, .func (PySem.W.fnOf "law" "law" (defArgs S_law) (defBody S_law) (defScope S_law) .none kVlaw dclaw pmlaw anlaw cdlaw ctlaw), sllaw⟩)
    (c_law : PySem.W.codeIn K cdlaw "law" = true)
    (k_law : PySem.W.keepIn K (.ref A_law) = true)
    (z_ValueError : PySem.W.nsIn K mainGlobals "ValueError" = some none)
    (z_abs : PySem.W.nsIn K mainGlobals "abs" = some none)
    (z_all : PySem.W.nsIn K mainGlobals "all" = some none)
    (z_bool : PySem.W.nsIn K mainGlobals "bool" = some none)
    (z_int : PySem.W.nsIn K mainGlobals "int" = some none)
    (z_isinstance : PySem.W.nsIn K mainGlobals "isinstance" = some none)
    (z_len : PySem.W.nsIn K mainGlobals "len" = some none)
    (z_list : PySem.W.nsIn K mainGlobals "list" = some none)
    (z_min : PySem.W.nsIn K mainGlobals "min" = some none)
    (z_range : PySem.W.nsIn K mainGlobals "range" = some none)
    (z_str : PySem.W.nsIn K mainGlobals "str" = some none)
    (z_tuple : PySem.W.nsIn K mainGlobals "tuple" = some none) :
    ∃ fd : FuncData, (∀ (s : Shared) (v : Value), BindsTo s fd ⟨[v], []⟩ [("script", v)]) ∧ ∀ base : Heap, K.In base → base.Ns mainGlobals mg → FnOk PW w K mg base (L2.CX PW w) 44 fa fd ["script"] (DX.spTop K) := by
  have e : A_law = fa := by
    have e := (PySem.W.mg_of X G a_law).symm.trans hfa
    injection e with e
    injection e
  subst e
  have ox_TooLong : OexC K C_TooLong := ⟨⟨_, _, _, _, _, _, _, _, _, _, _, _, _, _, _, x_TooLong, rf_TooLong⟩, sa_TooLong, eb_TooLong, ty_TooLong, kc_TooLong⟩
  have ini_TooLong : DX.Ini PW K mg C_TooLong I_TooLong Q_TooLong O_TooLong (DX.clsInit (topS 4)) "TooLong.__init__" "limit" "limit" _ := { cls := ox_TooLong, fn := ⟨_, _, _, _, _, _, _, _, rfl, li_TooLong⟩, code := ci_TooLong, cdo := ⟨_, _, _, _, _, _, lo_TooLong, v2_TooLong, mf_TooLong⟩, cell := ⟨_, _, _, lq_TooLong⟩, sup := DX.super_of x_TooLong mr_TooLong x_StaleError ic_StaleError, opq := opq, ve := ve_TooLong, own := ow_TooLong, noS := PySem.W.mg_none_of X G z_super, noF := nf_TooLong, top := by decide +kernel, sc := ⟨rfl, rfl, rfl, by decide +kernel, by rfl, by rfl, by rfl, by rfl, by decide, by decide +kernel⟩, par := by rfl }
  have ox_Unfit : OexC K C_Unfit := ⟨⟨_, _, _, _, _, _, _, _, _, _, _, _, _, _, _, x_Unfit, rf_Unfit⟩, sa_Unfit, eb_Unfit, ty_Unfit, kc_Unfit⟩
  have ini_Unfit : DX.Ini PW K mg C_Unfit I_Unfit Q_Unfit O_Unfit (DX.clsInit (topS 5)) "Unfit.__init__" "part" "part" _ := { cls := ox_Unfit, fn := ⟨_, _, _, _, _, _, _, _, rfl, li_Unfit⟩, code := ci_Unfit, cdo := ⟨_, _, _, _, _, _, lo_Unfit, v2_Unfit, mf_Unfit⟩, cell := ⟨_, _, _, lq_Unfit⟩, sup := DX.super_of x_Unfit mr_Unfit x_StaleError ic_StaleError, opq := opq, ve := ve_Unfit, own := ow_Unfit, noS := PySem.W.mg_none_of X G z_super, noF := nf_Unfit, top := by decide +kernel, sc := ⟨rfl, rfl, rfl, by decide +kernel, by rfl, by rfl, by rfl, by rfl, by decide, by decide +kernel⟩, par := by rfl }
  have F_is_over := fun_mk (st := S_is_over) l_is_over c_is_over k_is_over
  have F_in_order := fun_mk (st := S_in_order) l_in_order c_in_order k_in_order
  have F_is_lot := fun_mk (st := S_is_lot) l_is_lot c_is_lot k_is_lot
  have F_check_text : L2.FunD K "check_text" "check_text" (defArgs S_check_text) (defBody S_check_text) (defScope S_check_text) [.int 400] [] A_check_text _ := ⟨⟨_, _, _, _, _, _, _, _, _, _, rfl, l_check_text, c_check_text, .inr ⟨by simp, _, _, _, _, rfl, t_check_text, rfl, .cons ⟨_, rfl⟩ (.nil)⟩, .inl rfl⟩, k_check_text⟩
  have F_walk := fun_mk (st := S_walk) l_walk c_walk k_walk
  have F_is_int := fun_mk (st := S_is_int) l_is_int c_is_int k_is_int
  have F_is_from := fun_mk (st := S_is_from) l_is_from c_is_from k_is_from
  have F_is_row := fun_mk (st := S_is_row) l_is_row c_is_row k_is_row
  have F_are_numbers := fun_mk (st := S_are_numbers) l_are_numbers c_are_numbers k_are_numbers
  have F_is_cut := fun_mk (st := S_is_cut) l_is_cut c_is_cut k_is_cut
  have F_cut_text := fun_mk (st := S_cut_text) l_cut_text c_cut_text k_cut_text
  have F_read_apart := fun_mk (st := S_read_apart) l_read_apart c_read_apart k_read_apart
  have F_law_cell := fun_mk (st := S_law_cell) l_law_cell c_law_cell k_law_cell
  have F_law_pool := fun_mk (st := S_law_pool) l_law_pool c_law_pool k_law_pool
  have F_law_take := fun_mk (st := S_law_take) l_law_take c_law_take k_law_take
  have F_law_signs := fun_mk (st := S_law_signs) l_law_signs c_law_signs k_law_signs
  have F_law_lot := fun_mk (st := S_law_lot) l_law_lot c_law_lot k_law_lot
  have F_law_text := fun_mk (st := S_law_text) l_law_text c_law_text k_law_text
  have F_law_row := fun_mk (st := S_law_row) l_law_row c_law_row k_law_row
  have F_law_mark := fun_mk (st := S_law_mark) l_law_mark c_law_mark k_law_mark
  have F_law_machine := fun_mk (st := S_law_machine) l_law_machine c_law_machine k_law_machine
  have F_law_same := fun_mk (st := S_law_same) l_law_same c_law_same k_law_same
  have F_law_offered := fun_mk (st := S_law_offered) l_law_offered c_law_offered k_law_offered
  have F_law_spare := fun_mk (st := S_law_spare) l_law_spare c_law_spare k_law_spare
  have F_law_no_rules := fun_mk (st := S_law_no_rules) l_law_no_rules c_law_no_rules k_law_no_rules
  have F_law_pieces := fun_mk (st := S_law_pieces) l_law_pieces c_law_pieces k_law_pieces
  have F_law_apart := fun_mk (st := S_law_apart) l_law_apart c_law_apart k_law_apart
  have F_law_read := fun_mk (st := S_law_read) l_law_read c_law_read k_law_read
  have F_law_any_text := fun_mk (st := S_law_any_text) l_law_any_text c_law_any_text k_law_any_text
  have F_law_error := fun_mk (st := S_law_error) l_law_error c_law_error k_law_error
  have F_law_refused := fun_mk (st := S_law_refused) l_law_refused c_law_refused k_law_refused
  have F_law := fun_mk (st := S_law) l_law c_law k_law
  have T : Gs K mg ⟨C_BadLine, C_NoDeed, C_NoTrial, C_Overlap, C_StaleError, C_TooLong, C_TooMany, C_Unfit, C_Unknown, I_TooLong, Q_TooLong, O_TooLong, _, I_Unfit, Q_Unfit, O_Unfit, _, A_is_over, _, A_in_order, _, A_is_lot, _, A_check_text, _, A_walk, _, A_is_int, _, A_is_from, _, A_is_row, _, A_are_numbers, _, A_is_cut, _, A_cut_text, _, A_read_apart, _, A_law_cell, _, A_law_pool, _, A_law_take, _, A_law_signs, _, A_law_lot, _, A_law_text, _, A_law_row, _, A_law_mark, _, A_law_machine, _, A_law_same, _, A_law_offered, _, A_law_spare, _, A_law_no_rules, _, A_law_pieces, _, A_law_apart, _, A_law_read, _, A_law_any_text, _, A_law_error, _, A_law_refused, _, A_law, _⟩ := {
    m_ValueError := PySem.W.mg_none_of X G z_ValueError,
    m_abs := PySem.W.mg_none_of X G z_abs,
    m_all := PySem.W.mg_none_of X G z_all,
    m_bool := PySem.W.mg_none_of X G z_bool,
    m_int := PySem.W.mg_none_of X G z_int,
    m_isinstance := PySem.W.mg_none_of X G z_isinstance,
    m_len := PySem.W.mg_none_of X G z_len,
    m_list := PySem.W.mg_none_of X G z_list,
    m_min := PySem.W.mg_none_of X G z_min,
    m_range := PySem.W.mg_none_of X G z_range,
    m_str := PySem.W.mg_none_of X G z_str,
    m_tuple := PySem.W.mg_none_of X G z_tuple,
    N_BadLine := PySem.W.mg_of X G n_BadLine,
    N_NoDeed := PySem.W.mg_of X G n_NoDeed,
    N_NoTrial := PySem.W.mg_of X G n_NoTrial,
    N_Overlap := PySem.W.mg_of X G n_Overlap,
    N_StaleError := PySem.W.mg_of X G n_StaleError,
    N_TooLong := PySem.W.mg_of X G n_TooLong,
    N_TooMany := PySem.W.mg_of X G n_TooMany,
    N_Unfit := PySem.W.mg_of X G n_Unfit,
    N_Unknown := PySem.W.mg_of X G n_Unknown,
    I_TooLong := ini_TooLong,
    iC_TooLong := ic_TooLong,
    tI_TooLong := ti_TooLong,
    bI_TooLong := .all fun us hl => match us, hl with | [_, _], _ => rfl,
    ex_TooLong := ⟨ga_TooLong, gg_TooLong, eb_TooLong, hd_TooLong, fc_TooLong, sg, tk, mo_TooLong⟩,
    xf_TooLong := ⟨ga_TooLong, gg_TooLong, eb_TooLong, hd_TooLong⟩,
    em_TooLong := PySem.W.exm_ref eb_StaleError hd_StaleError ty_StaleError em_TooLong,
    I_Unfit := ini_Unfit,
    iC_Unfit := ic_Unfit,
    tI_Unfit := ti_Unfit,
    bI_Unfit := .all fun us hl => match us, hl with | [_, _], _ => rfl,
    ex_Unfit := ⟨ga_Unfit, gg_Unfit, eb_Unfit, hd_Unfit, fc_Unfit, sg, tk, mo_Unfit⟩,
    xf_Unfit := ⟨ga_Unfit, gg_Unfit, eb_Unfit, hd_Unfit⟩,
    em_Unfit := PySem.W.exm_ref eb_StaleError hd_StaleError ty_StaleError em_Unfit,
    kt_TooLong_ValueError := DX.kit_blt (by decide +kernel) ve_TooLong,
    kt_TooLong_BadLine := DX.kit_own is_BadLine ty_BadLine kt_TooLong_BadLine ss_BadLine,
    kt_TooLong_NoDeed := DX.kit_own is_NoDeed ty_NoDeed kt_TooLong_NoDeed ss_NoDeed,
    kt_TooLong_NoTrial := DX.kit_own is_NoTrial ty_NoTrial kt_TooLong_NoTrial ss_NoTrial,
    kt_TooLong_Overlap := DX.kit_own is_Overlap ty_Overlap kt_TooLong_Overlap ss_Overlap,
    kt_TooLong_TooMany := DX.kit_own is_TooMany ty_TooMany kt_TooLong_TooMany ss_TooMany,
    kt_TooLong_Unknown := DX.kit_own is_Unknown ty_Unknown kt_TooLong_Unknown ss_Unknown,
    kt_TooLong_Unfit := DX.kit_own is_Unfit ty_Unfit kt_TooLong_Unfit ss_Unfit,
    kt_TooLong_TooLong := DX.kit_own is_TooLong ty_TooLong kt_TooLong_TooLong ss_TooLong,
    kt_Unfit_ValueError := DX.kit_blt (by decide +kernel) ve_Unfit,
    kt_Unfit_BadLine := DX.kit_own is_BadLine ty_BadLine kt_Unfit_BadLine ss_BadLine,
    kt_Unfit_NoDeed := DX.kit_own is_NoDeed ty_NoDeed kt_Unfit_NoDeed ss_NoDeed,
    kt_Unfit_NoTrial := DX.kit_own is_NoTrial ty_NoTrial kt_Unfit_NoTrial ss_NoTrial,
    kt_Unfit_Overlap := DX.kit_own is_Overlap ty_Overlap kt_Unfit_Overlap ss_Overlap,
    kt_Unfit_TooMany := DX.kit_own is_TooMany ty_TooMany kt_Unfit_TooMany ss_TooMany,
    kt_Unfit_Unknown := DX.kit_own is_Unknown ty_Unknown kt_Unfit_Unknown ss_Unknown,
    kt_Unfit_Unfit := DX.kit_own is_Unfit ty_Unfit kt_Unfit_Unfit ss_Unfit,
    kt_Unfit_TooLong := DX.kit_own is_TooLong ty_TooLong kt_Unfit_TooLong ss_TooLong,
    g_is_over := PySem.W.mg_of X G a_is_over,
    F_is_over := F_is_over,
    b_is_over := F_is_over.binds (ps := ["signs", "text"]) fun _ _ _ _ _ _ us hl => match us, hl with | [_, _], _ => rfl,
    g_in_order := PySem.W.mg_of X G a_in_order,
    F_in_order := F_in_order,
    b_in_order := F_in_order.binds (ps := ["signs", "chars"]) fun _ _ _ _ _ _ us hl => match us, hl with | [_, _], _ => rfl,
    g_is_lot := PySem.W.mg_of X G a_is_lot,
    F_is_lot := F_is_lot,
    b_is_lot := F_is_lot.binds (ps := ["signs", "thing"]) fun _ _ _ _ _ _ us hl => match us, hl with | [_, _], _ => rfl,
    g_check_text := PySem.W.mg_of X G a_check_text,
    F_check_text := F_check_text,
    b_check_text := F_check_text.binds1 2 0 (by simp) (by rfl) fun T kV doc pm an cdv ct us its hu hi => match us, its, hu, hi with | [_, _], [_], _, _ => ⟨_, rfl, rfl⟩,
    g_walk := PySem.W.mg_of X G a_walk,
    F_walk := F_walk,
    b_walk := F_walk.binds (ps := ["machine", "standing", "text"]) fun _ _ _ _ _ _ us hl => match us, hl with | [_, _, _], _ => rfl,
    g_is_int := PySem.W.mg_of X G a_is_int,
    F_is_int := F_is_int,
    b_is_int := F_is_int.binds (ps := ["thing"]) fun _ _ _ _ _ _ us hl => match us, hl with | [_], _ => rfl,
    g_is_from := PySem.W.mg_of X G a_is_from,
    F_is_from := F_is_from,
    b_is_from := F_is_from.binds (ps := ["thing", "least", "most"]) fun _ _ _ _ _ _ us hl => match us, hl with | [_, _, _], _ => rfl,
    g_is_row := PySem.W.mg_of X G a_is_row,
    F_is_row := F_is_row,
    b_is_row := F_is_row.binds (ps := ["thing", "many"]) fun _ _ _ _ _ _ us hl => match us, hl with | [_, _], _ => rfl,
    g_are_numbers := PySem.W.mg_of X G a_are_numbers,
    F_are_numbers := F_are_numbers,
    b_are_numbers := F_are_numbers.binds (ps := ["thing", "below"]) fun _ _ _ _ _ _ us hl => match us, hl with | [_, _], _ => rfl,
    g_is_cut := PySem.W.mg_of X G a_is_cut,
    F_is_cut := F_is_cut,
    b_is_cut := F_is_cut.binds (ps := ["machine", "thing"]) fun _ _ _ _ _ _ us hl => match us, hl with | [_, _], _ => rfl,
    g_cut_text := PySem.W.mg_of X G a_cut_text,
    F_cut_text := F_cut_text,
    b_cut_text := F_cut_text.binds (ps := ["rule", "text"]) fun _ _ _ _ _ _ us hl => match us, hl with | [_, _], _ => rfl,
    g_read_apart := PySem.W.mg_of X G a_read_apart,
    F_read_apart := F_read_apart,
    b_read_apart := F_read_apart.binds (ps := ["machine", "rule", "text"]) fun _ _ _ _ _ _ us hl => match us, hl with | [_, _, _], _ => rfl,
    g_law_cell := PySem.W.mg_of X G a_law_cell,
    F_law_cell := F_law_cell,
    b_law_cell := F_law_cell.binds (ps := ["script", "k"]) fun _ _ _ _ _ _ us hl => match us, hl with | [_, _], _ => rfl,
    g_law_pool := PySem.W.mg_of X G a_law_pool,
    F_law_pool := F_law_pool,
    b_law_pool := F_law_pool.binds (ps := ["script", "k", "many"]) fun _ _ _ _ _ _ us hl => match us, hl with | [_, _, _], _ => rfl,
    g_law_take := PySem.W.mg_of X G a_law_take,
    F_law_take := F_law_take,
    b_law_take := F_law_take.binds (ps := ["pool", "many"]) fun _ _ _ _ _ _ us hl => match us, hl with | [_, _], _ => rfl,
    g_law_signs := PySem.W.mg_of X G a_law_signs,
    F_law_signs := F_law_signs,
    b_law_signs := F_law_signs.binds (ps := ["pool", "many"]) fun _ _ _ _ _ _ us hl => match us, hl with | [_, _], _ => rfl,
    g_law_lot := PySem.W.mg_of X G a_law_lot,
    F_law_lot := F_law_lot,
    b_law_lot := F_law_lot.binds (ps := ["pool", "signs"]) fun _ _ _ _ _ _ us hl => match us, hl with | [_, _], _ => rfl,
    g_law_text := PySem.W.mg_of X G a_law_text,
    F_law_text := F_law_text,
    b_law_text := F_law_text.binds (ps := ["pool", "signs", "most"]) fun _ _ _ _ _ _ us hl => match us, hl with | [_, _, _], _ => rfl,
    g_law_row := PySem.W.mg_of X G a_law_row,
    F_law_row := F_law_row,
    b_law_row := F_law_row.binds (ps := ["pool", "way", "standing", "many", "wide"]) fun _ _ _ _ _ _ us hl => match us, hl with | [_, _, _, _, _], _ => rfl,
    g_law_mark := PySem.W.mg_of X G a_law_mark,
    F_law_mark := F_law_mark,
    b_law_mark := F_law_mark.binds (ps := ["pool", "kinds"]) fun _ _ _ _ _ _ us hl => match us, hl with | [_, _], _ => rfl,
    g_law_machine := PySem.W.mg_of X G a_law_machine,
    F_law_machine := F_law_machine,
    b_law_machine := F_law_machine.binds (ps := ["pool", "signs", "many"]) fun _ _ _ _ _ _ us hl => match us, hl with | [_, _, _], _ => rfl,
    g_law_same := PySem.W.mg_of X G a_law_same,
    F_law_same := F_law_same,
    b_law_same := F_law_same.binds (ps := ["told", "due"]) fun _ _ _ _ _ _ us hl => match us, hl with | [_, _], _ => rfl,
    g_law_offered := PySem.W.mg_of X G a_law_offered,
    F_law_offered := F_law_offered,
    b_law_offered := F_law_offered.binds (ps := ["script", "pool"]) fun _ _ _ _ _ _ us hl => match us, hl with | [_, _], _ => rfl,
    g_law_spare := PySem.W.mg_of X G a_law_spare,
    F_law_spare := F_law_spare,
    b_law_spare := F_law_spare.binds (ps := ["signs"]) fun _ _ _ _ _ _ us hl => match us, hl with | [_], _ => rfl,
    g_law_no_rules := PySem.W.mg_of X G a_law_no_rules,
    F_law_no_rules := F_law_no_rules,
    b_law_no_rules := F_law_no_rules.binds (ps := ["pool", "machine", "rule"]) fun _ _ _ _ _ _ us hl => match us, hl with | [_, _, _], _ => rfl,
    g_law_pieces := PySem.W.mg_of X G a_law_pieces,
    F_law_pieces := F_law_pieces,
    b_law_pieces := F_law_pieces.binds (ps := ["cuts", "text"]) fun _ _ _ _ _ _ us hl => match us, hl with | [_, _], _ => rfl,
    g_law_apart := PySem.W.mg_of X G a_law_apart,
    F_law_apart := F_law_apart,
    b_law_apart := F_law_apart.binds (ps := ["machine", "rule", "text"]) fun _ _ _ _ _ _ us hl => match us, hl with | [_, _, _], _ => rfl,
    g_law_read := PySem.W.mg_of X G a_law_read,
    F_law_read := F_law_read,
    b_law_read := F_law_read.binds (ps := ["machine", "rule", "text"]) fun _ _ _ _ _ _ us hl => match us, hl with | [_, _, _], _ => rfl,
    g_law_any_text := PySem.W.mg_of X G a_law_any_text,
    F_law_any_text := F_law_any_text,
    b_law_any_text := F_law_any_text.binds (ps := ["pool", "signs"]) fun _ _ _ _ _ _ us hl => match us, hl with | [_, _], _ => rfl,
    g_law_error := PySem.W.mg_of X G a_law_error,
    F_law_error := F_law_error,
    b_law_error := F_law_error.binds (ps := ["machine", "rule", "text"]) fun _ _ _ _ _ _ us hl => match us, hl with | [_, _, _], _ => rfl,
    g_law_refused := PySem.W.mg_of X G a_law_refused,
    F_law_refused := F_law_refused,
    b_law_refused := F_law_refused.binds (ps := ["pool", "machine", "rule"]) fun _ _ _ _ _ _ us hl => match us, hl with | [_, _, _], _ => rfl,
    g_law := PySem.W.mg_of X G a_law,
    F_law := F_law,
    b_law := F_law.binds (ps := ["script"]) fun _ _ _ _ _ _ us hl => match us, hl with | [_], _ => rfl }
  exact ⟨_, fun s v => .of_eq rfl, fun base _ _ => (ok_law T).imp fun vs H Q E h => DX.sp_imp law_true h⟩
end L71
open PySem PySem.W PyProof.Rows
set_option maxHeartbeats 0 in
theorem PySem.Challenge.cw_staleornot_k71_cut_texts_read_apart_holds : PySem.Challenge.rw_staleornot_k71_cut_texts_read_apart.Holds := by
  w_on; o_law; k_head; (case hw => w_witness2)
  k_fill
  refine L2.walk_ofB (l := PySem.Challenge.rw_staleornot_k71_cut_texts_read_apart) (n := 63) (k := 44) (x := "script") (CX := fun w => L2.CX L71.PW w) (sp := fun w => DX.spTop _) rfl (by decide) rfl ⟨rfl, by decide, by decide⟩ (fun w h Y => PySem.W.kIn_of Y) ?F (fun w H a ns hl hb hO hS => ⟨a, ns, rfl, hl, hb, hO, hS, fun _ => rfl⟩) (fun w H s e s' h => DX.no_out h)
  case F =>
    intro w mg fa h KX G hmg
    refine' L71.all_mk KX G hmg ?n_BadLine ?is_BadLine ?ty_BadLine ?ss_BadLine ?n_NoDeed ?is_NoDeed ?ty_NoDeed ?ss_NoDeed ?n_NoTrial ?is_NoTrial ?ty_NoTrial ?ss_NoTrial ?n_Overlap ?is_Overlap ?ty_Overlap ?ss_Overlap ?n_StaleError ?is_StaleError ?ty_StaleError ?ss_StaleError ?x_StaleError ?ic_StaleError ?eb_StaleError ?hd_StaleError ?n_TooLong ?is_TooLong ?ty_TooLong ?ss_TooLong ?n_TooMany ?is_TooMany ?ty_TooMany ?ss_TooMany ?n_Unfit ?is_Unfit ?ty_Unfit ?ss_Unfit ?n_Unknown ?is_Unknown ?ty_Unknown ?ss_Unknown ?x_TooLong ?rf_TooLong ?sa_TooLong ?ga_TooLong ?gg_TooLong ?nf_TooLong ?ic_TooLong ?ti_TooLong ?li_TooLong ?ci_TooLong ?lo_TooLong ?v2_TooLong ?mf_TooLong ?lq_TooLong ?mr_TooLong ?ve_TooLong ?ow_TooLong ?kc_TooLong ?eb_TooLong ?hd_TooLong ?fc_TooLong ?mo_TooLong ?em_TooLong ?x_Unfit ?rf_Unfit ?sa_Unfit ?ga_Unfit ?gg_Unfit ?nf_Unfit ?ic_Unfit ?ti_Unfit ?li_Unfit ?ci_Unfit ?lo_Unfit ?v2_Unfit ?mf_Unfit ?lq_Unfit ?mr_Unfit ?ve_Unfit ?ow_Unfit ?kc_Unfit ?eb_Unfit ?hd_Unfit ?fc_Unfit ?mo_Unfit ?em_Unfit ?opq ?z_super ?sg ?tk ?kt_TooLong_BadLine ?kt_TooLong_NoDeed ?kt_TooLong_NoTrial ?kt_TooLong_Overlap ?kt_TooLong_TooMany ?kt_TooLong_Unknown ?kt_TooLong_Unfit ?kt_TooLong_TooLong ?kt_Unfit_BadLine ?kt_Unfit_NoDeed ?kt_Unfit_NoTrial ?kt_Unfit_Overlap ?kt_Unfit_TooMany ?kt_Unfit_Unknown ?kt_Unfit_Unfit ?kt_Unfit_TooLong ?a_is_over ?l_is_over ?c_is_over ?k_is_over ?a_in_order ?l_in_order ?c_in_order ?k_in_order ?a_is_lot ?l_is_lot ?c_is_lot ?k_is_lot ?a_check_text ?l_check_text ?c_check_text ?k_check_text ?t_check_text ?a_walk ?l_walk ?c_walk ?k_walk ?a_is_int ?l_is_int ?c_is_int ?k_is_int ?a_is_from ?l_is_from ?c_is_from ?k_is_from ?a_is_row ?l_is_row ?c_is_row ?k_is_row ?a_are_numbers ?l_are_numbers ?c_are_numbers ?k_are_numbers ?a_is_cut ?l_is_cut ?c_is_cut ?k_is_cut ?a_cut_text ?l_cut_text ?c_cut_text ?k_cut_text ?a_read_apart ?l_read_apart ?c_read_apart ?k_read_apart ?a_law_cell ?l_law_cell ?c_law_cell ?k_law_cell ?a_law_pool ?l_law_pool ?c_law_pool ?k_law_pool ?a_law_take ?l_law_take ?c_law_take ?k_law_take ?a_law_signs ?l_law_signs ?c_law_signs ?k_law_signs ?a_law_lot ?l_law_lot ?c_law_lot ?k_law_lot ?a_law_text ?l_law_text ?c_law_text ?k_law_text ?a_law_row ?l_law_row ?c_law_row ?k_law_row ?a_law_mark ?l_law_mark ?c_law_mark ?k_law_mark ?a_law_machine ?l_law_machine ?c_law_machine ?k_law_machine ?a_law_same ?l_law_same ?c_law_same ?k_law_same ?a_law_offered ?l_law_offered ?c_law_offered ?k_law_offered ?a_law_spare ?l_law_spare ?c_law_spare ?k_law_spare ?a_law_no_rules ?l_law_no_rules ?c_law_no_rules ?k_law_no_rules ?a_law_pieces ?l_law_pieces ?c_law_pieces ?k_law_pieces ?a_law_apart ?l_law_apart ?c_law_apart ?k_law_apart ?a_law_read ?l_law_read ?c_law_read ?k_law_read ?a_law_any_text ?l_law_any_text ?c_law_any_text ?k_law_any_text ?a_law_error ?l_law_error ?c_law_error ?k_law_error ?a_law_refused ?l_law_refused ?c_law_refused ?k_law_refused ?a_law ?l_law ?c_law ?k_law ?z_ValueError ?z_abs ?z_all ?z_bool ?z_int ?z_isinstance ?z_len ?z_list ?z_min ?z_range ?z_str ?z_tuple
    (case n_BadLine => k_is)
    (case is_BadLine => k_is)
    (case ty_BadLine => k_is)
    (case ss_BadLine => k_is)
    (case n_NoDeed => k_is)
    (case is_NoDeed => k_is)
    (case ty_NoDeed => k_is)
    (case ss_NoDeed => k_is)
    (case n_NoTrial => k_is)
    (case is_NoTrial => k_is)
    (case ty_NoTrial => k_is)
    (case ss_NoTrial => k_is)
    (case n_Overlap => k_is)
    (case is_Overlap => k_is)
    (case ty_Overlap => k_is)
    (case ss_Overlap => k_is)
    (case n_StaleError => k_is)
    (case is_StaleError => k_is)
    (case ty_StaleError => k_is)
    (case ss_StaleError => k_is)
    (case x_StaleError => k_is)
    (case ic_StaleError => k_is)
    (case eb_StaleError => k_is)
    (case hd_StaleError => k_is)
    (case n_TooLong => k_is)
    (case is_TooLong => k_is)
    (case ty_TooLong => k_is)
    (case ss_TooLong => k_is)
    (case n_TooMany => k_is)
    (case is_TooMany => k_is)
    (case ty_TooMany => k_is)
    (case ss_TooMany => k_is)
    (case n_Unfit => k_is)
    (case is_Unfit => k_is)
    (case ty_Unfit => k_is)
    (case ss_Unfit => k_is)
    (case n_Unknown => k_is)
    (case is_Unknown => k_is)
    (case ty_Unknown => k_is)
    (case ss_Unknown => k_is)
    (case x_TooLong => k_is)
    (case rf_TooLong => first | rfl | decide +kernel | k_is)
    (case sa_TooLong => k_is)
    (case ga_TooLong => k_is)
    (case gg_TooLong => k_is)
    (case nf_TooLong => k_is)
    (case ic_TooLong => k_is)
    (case ti_TooLong => k_is)
    (case li_TooLong => k_is)
    (case ci_TooLong => k_is)
    (case lo_TooLong => k_is)
    (case v2_TooLong => first | rfl | decide +kernel | k_is)
    (case mf_TooLong => first | rfl | decide +kernel | k_is)
    (case lq_TooLong => k_is)
    (case mr_TooLong => first | rfl | decide +kernel | k_is)
    (case ve_TooLong => k_is)
    (case ow_TooLong => k_is)
    (case kc_TooLong => k_is)
    (case eb_TooLong => k_is)
    (case hd_TooLong => k_is)
    (case fc_TooLong => k_is)
    (case mo_TooLong => k_is)
    (case em_TooLong => k_is)
    (case x_Unfit => k_is)
    (case rf_Unfit => first | rfl | decide +kernel | k_is)
    (case sa_Unfit => k_is)
    (case ga_Unfit => k_is)
    (case gg_Unfit => k_is)
    (case nf_Unfit => k_is)
    (case ic_Unfit => k_is)
    (case ti_Unfit => k_is)
    (case li_Unfit => k_is)
    (case ci_Unfit => k_is)
    (case lo_Unfit => k_is)
    (case v2_Unfit => first | rfl | decide +kernel | k_is)
    (case mf_Unfit => first | rfl | decide +kernel | k_is)
    (case lq_Unfit => k_is)
    (case mr_Unfit => first | rfl | decide +kernel | k_is)
    (case ve_Unfit => k_is)
    (case ow_Unfit => k_is)
    (case kc_Unfit => k_is)
    (case eb_Unfit => k_is)
    (case hd_Unfit => k_is)
    (case fc_Unfit => k_is)
    (case mo_Unfit => k_is)
    (case em_Unfit => k_is)
    (case opq => k_is)
    (case z_super => k_is)
    (case sg => k_is)
    (case tk => k_is)
    (case kt_TooLong_BadLine => k_is)
    (case kt_TooLong_NoDeed => k_is)
    (case kt_TooLong_NoTrial => k_is)
    (case kt_TooLong_Overlap => k_is)
    (case kt_TooLong_TooMany => k_is)
    (case kt_TooLong_Unknown => k_is)
    (case kt_TooLong_Unfit => k_is)
    (case kt_TooLong_TooLong => k_is)
    (case kt_Unfit_BadLine => k_is)
    (case kt_Unfit_NoDeed => k_is)
    (case kt_Unfit_NoTrial => k_is)
    (case kt_Unfit_Overlap => k_is)
    (case kt_Unfit_TooMany => k_is)
    (case kt_Unfit_Unknown => k_is)
    (case kt_Unfit_Unfit => k_is)
    (case kt_Unfit_TooLong => k_is)
    (case a_is_over => k_is)
    (case l_is_over => k_is)
    (case c_is_over => k_is)
    (case k_is_over => k_is)
    (case a_in_order => k_is)
    (case l_in_order => k_is)
    (case c_in_order => k_is)
    (case k_in_order => k_is)
    (case a_is_lot => k_is)
    (case l_is_lot => k_is)
    (case c_is_lot => k_is)
    (case k_is_lot => k_is)
    (case a_check_text => k_is)
    (case l_check_text => k_is)
    (case c_check_text => k_is)
    (case k_check_text => k_is)
    (case t_check_text => k_is)
    (case a_walk => k_is)
    (case l_walk => k_is)
    (case c_walk => k_is)
    (case k_walk => k_is)
    (case a_is_int => k_is)
    (case l_is_int => k_is)
    (case c_is_int => k_is)
    (case k_is_int => k_is)
    (case a_is_from => k_is)
    (case l_is_from => k_is)
    (case c_is_from => k_is)
    (case k_is_from => k_is)
    (case a_is_row => k_is)
    (case l_is_row => k_is)
    (case c_is_row => k_is)
    (case k_is_row => k_is)
    (case a_are_numbers => k_is)
    (case l_are_numbers => k_is)
    (case c_are_numbers => k_is)
    (case k_are_numbers => k_is)
    (case a_is_cut => k_is)
    (case l_is_cut => k_is)
    (case c_is_cut => k_is)
    (case k_is_cut => k_is)
    (case a_cut_text => k_is)
    (case l_cut_text => k_is)
    (case c_cut_text => k_is)
    (case k_cut_text => k_is)
    (case a_read_apart => k_is)
    (case l_read_apart => k_is)
    (case c_read_apart => k_is)
    (case k_read_apart => k_is)
    (case a_law_cell => k_is)
    (case l_law_cell => k_is)
    (case c_law_cell => k_is)
    (case k_law_cell => k_is)
    (case a_law_pool => k_is)
    (case l_law_pool => k_is)
    (case c_law_pool => k_is)
    (case k_law_pool => k_is)
    (case a_law_take => k_is)
    (case l_law_take => k_is)
    (case c_law_take => k_is)
    (case k_law_take => k_is)
    (case a_law_signs => k_is)
    (case l_law_signs => k_is)
    (case c_law_signs => k_is)
    (case k_law_signs => k_is)
    (case a_law_lot => k_is)
    (case l_law_lot => k_is)
    (case c_law_lot => k_is)
    (case k_law_lot => k_is)
    (case a_law_text => k_is)
    (case l_law_text => k_is)
    (case c_law_text => k_is)
    (case k_law_text => k_is)
    (case a_law_row => k_is)
    (case l_law_row => k_is)
    (case c_law_row => k_is)
    (case k_law_row => k_is)
    (case a_law_mark => k_is)
    (case l_law_mark => k_is)
    (case c_law_mark => k_is)
    (case k_law_mark => k_is)
    (case a_law_machine => k_is)
    (case l_law_machine => k_is)
    (case c_law_machine => k_is)
    (case k_law_machine => k_is)
    (case a_law_same => k_is)
    (case l_law_same => k_is)
    (case c_law_same => k_is)
    (case k_law_same => k_is)
    (case a_law_offered => k_is)
    (case l_law_offered => k_is)
    (case c_law_offered => k_is)
    (case k_law_offered => k_is)
    (case a_law_spare => k_is)
    (case l_law_spare => k_is)
    (case c_law_spare => k_is)
    (case k_law_spare => k_is)
    (case a_law_no_rules => k_is)
    (case l_law_no_rules => k_is)
    (case c_law_no_rules => k_is)
    (case k_law_no_rules => k_is)
    (case a_law_pieces => k_is)
    (case l_law_pieces => k_is)
    (case c_law_pieces => k_is)
    (case k_law_pieces => k_is)
    (case a_law_apart => k_is)
    (case l_law_apart => k_is)
    (case c_law_apart => k_is)
    (case k_law_apart => k_is)
    (case a_law_read => k_is)
    (case l_law_read => k_is)
    (case c_law_read => k_is)
    (case k_law_read => k_is)
    (case a_law_any_text => k_is)
    (case l_law_any_text => k_is)
    (case c_law_any_text => k_is)
    (case k_law_any_text => k_is)
    (case a_law_error => k_is)
    (case l_law_error => k_is)
    (case c_law_error => k_is)
    (case k_law_error => k_is)
    (case a_law_refused => k_is)
    (case l_law_refused => k_is)
    (case c_law_refused => k_is)
    (case k_law_refused => k_is)
    (case a_law => k_is)
    (case l_law => k_is)
    (case c_law => k_is)
    (case k_law => k_is)
    (case z_ValueError => k_is)
    (case z_abs => k_is)
    (case z_all => k_is)
    (case z_bool => k_is)
    (case z_int => k_is)
    (case z_isinstance => k_is)
    (case z_len => k_is)
    (case z_list => k_is)
    (case z_min => k_is)
    (case z_range => k_is)
    (case z_str => k_is)
    (case z_tuple => k_is)
end
