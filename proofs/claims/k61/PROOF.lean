import PyProof.Rows.All
import Wide.All
import OpenK.AllK
import Wide.FinOn
import KE.KStateDown
import Lean
import HandS.ForSpec
import HandS.ExcCtx
import HandS.HotCalls
import HandS.ExcIs
import HandS.More
import HandS.Defaults
import HandS.Wide
import HandS.WideBits
import HandS.IsInst
import HandS.NoneIn
import HandS.DeepEq
import HandS.Walk
import HandS.Head0
import HandS.Head1
import HandS.Head2
import HandS.HeadEnd
import HandS.HeadHook1
import HandS.HeadHook2
import HandS.SetFor
import HandS.StrMore
import HandS.TupAny
import HandS.TupLe
import HandS.Zip
import HandS.Style
import HandS.EndBits
import HandS.HeadHook4
import PySem.Challenge.RW_seatclocks_k61_own_times
set_option Elab.async false
set_option linter.all false
set_option maxRecDepth 100000
set_option maxHeartbeats 2000000
/-! Plain values over the hand layer's heap: what a def computes, as a plain function. -/
namespace Z
open PySem PySem.Spec PyProof.Rows L2

/-! ### values -/
inductive PV where
  | non | bl (b : Bool) | int (i : Int) | str (s : Str)
  | tup (xs : List PV) | lst (xs : List PV) | dct (kvs : List (Key × PV)) | exc (a : Addr) | ref (k : Nat) | ty (n : String) | cls (c : Str)

/-- a mutable object -/
inductive SO where
  | lst (xs : List PV) | dK (kvs : List (Key × PV))

/-- F: frozen for good; R: not to be touched now; adr: the mutable objects' places -/
structure Wd where
  F : Hp
  R : Hp
  adr : List Addr

mutual
def Rep (K : PySem.W.Frag) (w : Wd) : PV → V → Prop
  | .non, v => v = .non
  | .bl b, v => v = .bl b
  | .int i, v => v = .int i
  | .str s, v => v = .str s
  | .tup xs, v => ∃ a vs, v = .ref a ∧ SqT K w.F a vs ∧ RepL K w xs vs
  | .lst xs, v => ∃ a vs, v = .ref a ∧ SqL K w.F a vs ∧ RepL K w xs vs
  | .dct kvs, v => ∃ a vs, v = .ref a ∧ w.F a = some (.dK vs) ∧ RepD K w kvs vs
  | .exc a, v => v = .ref a
  | .ref k, v => ∃ a, v = .ref a ∧ w.adr[k]? = some a
  | .ty n, v => v = .ty n
  | .cls c, v => v = .ref (He.ga K c)
def RepL (K : PySem.W.Frag) (w : Wd) : List PV → List V → Prop
  | [], vs => vs = []
  | x :: xs, vs => ∃ v r, vs = v :: r ∧ Rep K w x v ∧ RepL K w xs r
def RepD (K : PySem.W.Frag) (w : Wd) : List (Key × PV) → List (Key × V) → Prop
  | [], vs => vs = []
  | (k, x) :: xs, vs => ∃ v r, vs = (k, v) :: r ∧ Rep K w x v ∧ RepD K w xs r
end

def RepO (K : PySem.W.Frag) (w : Wd) : SO → HO → Prop
  | .lst xs, o => ∃ vs, o = .lst vs ∧ RepL K w xs vs
  | .dK kvs, o => ∃ vs, o = .dK vs ∧ RepD K w kvs vs

structure LeF (w w' : Wd) : Prop where
  F : ∀ a o, w.F a = some o → w'.F a = some o
  adr : ∃ l, w'.adr = w.adr ++ l
structure Le (w w' : Wd) : Prop extends LeF w w' where
  R : w'.R = w.R
theorem LeF.refl (w : Wd) : LeF w w := ⟨fun _ _ h => h, [], by simp⟩
theorem Le.refl (w : Wd) : Le w w := ⟨LeF.refl w, rfl⟩
theorem LeF.trans {a b c : Wd} (x : LeF a b) (y : LeF b c) : LeF a c := by
  obtain ⟨l, e⟩ := x.adr
  obtain ⟨m, e2⟩ := y.adr
  exact ⟨fun p o h => y.F p o (x.F p o h), l ++ m, by rw [e2, e, List.append_assoc]⟩
theorem Le.trans {a b c : Wd} (x : Le a b) (y : Le b c) : Le a c := ⟨x.toLeF.trans y.toLeF, y.R.trans x.R⟩
theorem LeF.at {w w' : Wd} (x : LeF w w') {k : Nat} {a : Addr} (h : w.adr[k]? = some a) : w'.adr[k]? = some a := by
  obtain ⟨l, e⟩ := x.adr
  rw [e, List.getElem?_append_left (List.getElem?_eq_some_iff.mp h).1]
  exact h

structure WOk (K : PySem.W.Frag) (w : Wd) (H : Hp) (st : List SO) : Prop where
  fz : ∀ a o, w.F a = some o → H a = some o
  fr : ∀ a o, w.R a = some o → H a = some o
  dj : ∀ a o, w.R a = some o → w.F a = none
  nd : w.adr.Nodup
  len : w.adr.length = st.length
  ad : ∀ (k : Nat) (a : Addr), w.adr[k]? = some a → w.F a = none ∧ w.R a = none
  ob : ∀ (k : Nat) (a : Addr) (c : SO), w.adr[k]? = some a → st[k]? = some c → ∃ o, H a = some o ∧ RepO K w c o

theorem rd_mono {F G : Hp} (h : ∀ a o, F a = some o → G a = some o) {a : Addr} {u : HO} (r : Rd F a u) : Rd G a u := by
  rcases r with r | ⟨o, r⟩
  · exact .inl (h _ _ r)
  · exact .inr ⟨o, h _ _ r⟩
theorem sqt_mono {K : PySem.W.Frag} {F G : Hp} (h : ∀ a o, F a = some o → G a = some o) {a : Addr} {vs : List V} (r : SqT K F a vs) : SqT K G a vs := by
  rcases r with r | r
  · exact .inl (rd_mono h r)
  · exact .inr r
theorem sql_mono {K : PySem.W.Frag} {F G : Hp} (h : ∀ a o, F a = some o → G a = some o) {a : Addr} {vs : List V} (r : SqL K F a vs) : SqL K G a vs := by
  rcases r with r | r
  · exact .inl (rd_mono h r)
  · exact .inr r

section
variable {K : PySem.W.Frag} {w w' : Wd}
mutual
theorem Rep.mono' (hF : ∀ a o, w.F a = some o → w'.F a = some o) (hA : ∀ (k : Nat) (a : Addr), w.adr[k]? = some a → w'.adr[k]? = some a) : ∀ (x : PV) (v : V), Rep K w x v → Rep K w' x v
  | .non, v, h => h
  | .bl b, v, h => h
  | .int i, v, h => h
  | .str s, v, h => h
  | .tup xs, v, ⟨a, vs, e, q, r⟩ => ⟨a, vs, e, sqt_mono hF q, RepL.mono' hF hA xs vs r⟩
  | .lst xs, v, ⟨a, vs, e, q, r⟩ => ⟨a, vs, e, sql_mono hF q, RepL.mono' hF hA xs vs r⟩
  | .dct kvs, v, ⟨a, vs, e, q, r⟩ => ⟨a, vs, e, hF _ _ q, RepD.mono' hF hA kvs vs r⟩
  | .exc _, v, h => h
  | .ref k, v, ⟨a, e, q⟩ => ⟨a, e, hA k a q⟩
  | .ty n, v, h => h
  | .cls c, v, h => h
theorem RepL.mono' (hF : ∀ a o, w.F a = some o → w'.F a = some o) (hA : ∀ (k : Nat) (a : Addr), w.adr[k]? = some a → w'.adr[k]? = some a) : ∀ (xs : List PV) (vs : List V), RepL K w xs vs → RepL K w' xs vs
  | [], vs, h => h
  | x :: xs, vs, ⟨v, r, e, h1, h2⟩ => ⟨v, r, e, Rep.mono' hF hA x v h1, RepL.mono' hF hA xs r h2⟩
theorem RepD.mono' (hF : ∀ a o, w.F a = some o → w'.F a = some o) (hA : ∀ (k : Nat) (a : Addr), w.adr[k]? = some a → w'.adr[k]? = some a) : ∀ (xs : List (Key × PV)) (vs : List (Key × V)), RepD K w xs vs → RepD K w' xs vs
  | [], vs, h => h
  | (k, x) :: xs, vs, ⟨v, r, e, h1, h2⟩ => ⟨v, r, e, Rep.mono' hF hA x v h1, RepD.mono' hF hA xs r h2⟩
end
theorem Rep.monoF (l : LeF w w') {x : PV} {v : V} (h : Rep K w x v) : Rep K w' x v := Rep.mono' l.F (fun _ _ => l.at) x v h
theorem RepL.monoF (l : LeF w w') {x : List PV} {v : List V} (h : RepL K w x v) : RepL K w' x v := RepL.mono' l.F (fun _ _ => l.at) x v h
theorem Rep.mono (l : Le w w') {x : PV} {v : V} (h : Rep K w x v) : Rep K w' x v := Rep.mono' l.F (fun _ _ => l.at) x v h
theorem RepL.mono (l : Le w w') {x : List PV} {v : List V} (h : RepL K w x v) : RepL K w' x v := RepL.mono' l.F (fun _ _ => l.at) x v h
theorem RepD.mono (l : Le w w') {x : List (Key × PV)} {v : List (Key × V)} (h : RepD K w x v) : RepD K w' x v := RepD.mono' l.F (fun _ _ => l.at) x v h
theorem RepO.mono' (hF : ∀ a o, w.F a = some o → w'.F a = some o) (hA : ∀ (k : Nat) (a : Addr), w.adr[k]? = some a → w'.adr[k]? = some a) {c : SO} {o : HO} (h : RepO K w c o) : RepO K w' c o := by
  cases c with
  | lst xs => obtain ⟨vs, e, r⟩ := h; exact ⟨vs, e, RepL.mono' hF hA xs vs r⟩
  | dK kvs => obtain ⟨vs, e, r⟩ := h; exact ⟨vs, e, RepD.mono' hF hA kvs vs r⟩
theorem RepO.mono (l : Le w w') {c : SO} {o : HO} (h : RepO K w c o) : RepO K w' c o := h.mono' l.F fun _ _ => l.at
theorem RepL.length : ∀ {xs : List PV} {vs : List V}, RepL K w xs vs → vs.length = xs.length
  | [], _, h => by rw [show _ = [] from h]; rfl
  | x :: xs, _, ⟨v, r, e, _, h⟩ => by rw [e]; simp [RepL.length h]
theorem RepL.get : ∀ {xs : List PV} {vs : List V} {i : Nat} {x : PV}, RepL K w xs vs → xs[i]? = some x → ∃ v, vs[i]? = some v ∧ Rep K w x v
  | [], _, i, x, _, e => by simp at e
  | y :: xs, _, 0, x, ⟨v, r, e, h1, _⟩, q => by simp at q; subst q; exact ⟨v, by rw [e]; rfl, h1⟩
  | y :: xs, _, i + 1, x, ⟨v, r, e, _, h2⟩, q => by
    obtain ⟨u, e2, h3⟩ := RepL.get (i := i) (x := x) h2 (by simpa using q)
    exact ⟨u, by rw [e]; simpa using e2, h3⟩
theorem RepL.append : ∀ {xs ys : List PV} {vs us : List V}, RepL K w xs vs → RepL K w ys us → RepL K w (xs ++ ys) (vs ++ us)
  | [], _, _, _, h, g => by rw [show _ = [] from h]; exact g
  | x :: xs, _, _, _, ⟨v, r, e, h1, h2⟩, g => ⟨v, r ++ _, by rw [e]; rfl, h1, RepL.append h2 g⟩
theorem RepL.one {x : PV} {v : V} (h : Rep K w x v) : RepL K w [x] [v] := ⟨v, [], rfl, h, rfl⟩
theorem RepL.set : ∀ {xs : List PV} {vs : List V} {i : Nat} {x : PV} {v : V}, RepL K w xs vs → Rep K w x v → RepL K w (xs.set i x) (vs.set i v)
  | [], _, _, _, _, h, _ => by rw [show _ = [] from h]; exact (rfl : _ = _)
  | y :: xs, _, 0, x, v, ⟨u, r, e, h1, h2⟩, g => by rw [e]; exact ⟨v, r, rfl, g, h2⟩
  | y :: xs, _, i + 1, x, v, ⟨u, r, e, h1, h2⟩, g => by rw [e]; exact ⟨u, r.set i v, rfl, h1, RepL.set h2 g⟩
theorem RepL.drop : ∀ {xs : List PV} {vs : List V} (n : Nat), RepL K w xs vs → RepL K w (xs.drop n) (vs.drop n)
  | _, _, 0, h => h
  | [], _, n + 1, h => by rw [show _ = [] from h]; exact (rfl : _ = _)
  | x :: xs, _, n + 1, ⟨v, r, e, h1, h2⟩ => by rw [e]; exact RepL.drop n h2
theorem RepL.take : ∀ {xs : List PV} {vs : List V} (n : Nat), RepL K w xs vs → RepL K w (xs.take n) (vs.take n)
  | _, _, 0, h => by rw [List.take_zero, List.take_zero]; exact (rfl : _ = _)
  | [], _, n + 1, h => by rw [show _ = [] from h]; exact (rfl : _ = _)
  | x :: xs, _, n + 1, ⟨v, r, e, h1, h2⟩ => by rw [e]; exact ⟨v, r.take n, rfl, h1, RepL.take n h2⟩
end

/-! ### results -/
inductive Res (α : Type) where
  | ok (a : α) (st : List SO) | exc (c : Str) (st : List SO) | bad
abbrev REnv := List (Option PV)
abbrev G := REnv → List SO → Res PV
abbrev GT := REnv → List SO → Res Bool
abbrev GL := REnv → List SO → Res (List PV)
def bnd {α β : Type} : Res α → (α → List SO → Res β) → Res β
  | .ok a st, k => k a st
  | .exc c st, _ => .exc c st
  | .bad, _ => .bad
inductive SRes where
  | nx (ρ : REnv) (st : List SO) | ret (v : PV) (st : List SO) | exc (c : Str) (ρ : REnv) (st : List SO) | bad
abbrev GS := REnv → List SO → SRes

structure Slots (K : PySem.W.Frag) (w : Wd) (ρ : REnv) (σ : L2.St) : Prop where
  len : ρ.length = σ.length
  get : ∀ (i : Nat) (x : PV), ρ[i]? = some (some x) → ∃ v, σ[i]? = some (some v) ∧ Rep K w x v
theorem Slots.mono {K : PySem.W.Frag} {w w' : Wd} {ρ : REnv} {σ : L2.St} (l : Le w w') (h : Slots K w ρ σ) : Slots K w' ρ σ :=
  ⟨h.len, fun i x e => let ⟨v, e2, r⟩ := h.get i x e; ⟨v, e2, r.mono l⟩⟩
theorem Slots.set {K : PySem.W.Frag} {w : Wd} {ρ : REnv} {σ : L2.St} {i : Nat} {x : PV} {v : V} (h : Slots K w ρ σ) (r : Rep K w x v) : Slots K w (ρ.set i (some x)) (σ.set i (some v)) := by
  refine ⟨by rw [List.length_set, List.length_set, h.len], fun j y e => ?_⟩
  by_cases hj : i = j
  · subst hj
    by_cases hl : i < ρ.length
    · rw [List.getElem?_set_self hl] at e
      cases e
      exact ⟨v, by rw [List.getElem?_set_self (by rw [← h.len]; exact hl)], r⟩
    · rw [List.getElem?_eq_none (by simpa using hl)] at e
      cases e
  · rw [List.getElem?_set_ne hj] at e ⊢
    exact h.get j y e

/-- where a result lands -/
def Post {α β : Type} (K : PySem.W.Frag) (W : WX) (rel : Wd → α → β → Prop) (w : Wd) (σ : L2.St) (r : Res α) (Q : β → Hp → Prop) : Prop := match r with
  | .ok a st' => ∀ w' H' x, Le w w' → WOk K w' H' st' → rel w' a x → Q x H'
  | .exc c st' => ∀ w' H', Le w w' → WOk K w' H' st' → W (.ref (He.ga K c)) none σ H'
  | .bad => False
abbrev rlB : Wd → Bool → Bool → Prop := fun _ a b => a = b
def tG (K : PySem.W.Frag) (W : WX) (g : G) : TE := fun σ H Q => ∃ w ρ st, WOk K w H st ∧ Slots K w ρ σ ∧ Post K W (Rep K) w σ (g ρ st) Q
def tGT (K : PySem.W.Frag) (W : WX) (g : GT) : TT := fun σ H Q => ∃ w ρ st, WOk K w H st ∧ Slots K w ρ σ ∧ Post K W rlB w σ (g ρ st) Q
def tGA (K : PySem.W.Frag) (W : WX) (g : GL) : TA := fun σ H Q => ∃ w ρ st, WOk K w H st ∧ Slots K w ρ σ ∧ Post K W (RepL K) w σ (g ρ st) Q
def PostS (K : PySem.W.Frag) (W : WX) (w : Wd) (r : SRes) (D : Ends) : Prop := match r with
  | .nx ρ' st' => ∀ w' σ' H', Le w w' → WOk K w' H' st' → Slots K w' ρ' σ' → D.nx σ' H'
  | .ret v st' => ∀ w' H' x, Le w w' → WOk K w' H' st' → Rep K w' v x → D.rt x H'
  | .exc c ρ' st' => ∀ w' σ' H', Le w w' → WOk K w' H' st' → Slots K w' ρ' σ' → W (.ref (He.ga K c)) none σ' H'
  | .bad => False
def tS (K : PySem.W.Frag) (W : WX) (g : GS) : TS := fun D σ H => ∃ w ρ st, WOk K w H st ∧ Slots K w ρ σ ∧ PostS K W w (g ρ st) D

theorem pe_imp {X : Cx} {e : Expr} {t t' : TE} (h : PE X e t) (i : ∀ σ H Q, t' σ H Q → t σ H Q) : PE X e t' := ⟨fun pins s σ H Q I q => h.run pins s σ H Q I (i σ H Q q)⟩
theorem pt_imp {X : Cx} {e : Expr} {t t' : TT} (h : PT X e t) (i : ∀ σ H Q, t' σ H Q → t σ H Q) : PT X e t' := ⟨fun pins s σ H Q I q => h.run pins s σ H Q I (i σ H Q q)⟩
theorem pw_imp {X : Cx} {e : Expr} {t t' : TT} (h : PW X e t) (i : ∀ σ H Q, t' σ H Q → t σ H Q) : PW X e t' := ⟨fun wh pins s σ H Q I q => h.run wh pins s σ H Q I (i σ H Q q)⟩
theorem pa_imp {X : Cx} {e : List Expr} {t t' : TA} (h : PA X e t) (i : ∀ σ H Q, t' σ H Q → t σ H Q) : PA X e t' := ⟨fun pos pins s σ H Q I q => h.run pos pins s σ H Q I (i σ H Q q)⟩
theorem ps_imp {X : Cx} {e : Stmt} {t t' : TS} (h : PS X e t) (i : ∀ D σ H, t' D σ H → t D σ H) : PS X e t' := ⟨fun pins s σ H D I q => h.run pins s σ H D I (i D σ H q)⟩
theorem pss_imp {X : Cx} {e : List Stmt} {t t' : TS} (h : PSs X e t) (i : ∀ D σ H, t' D σ H → t D σ H) : PSs X e t' := ⟨fun pins s σ H D I q => h.run pins s σ H D I (i D σ H q)⟩

section
variable {K : PySem.W.Frag} {W : WX} {w w1 : Wd} {σ : L2.St}
theorem Post.mono {α β : Type} {rel : Wd → α → β → Prop} {r : Res α} {Q : β → Hp → Prop} (l : Le w w1) (h : Post K W rel w σ r Q) : Post K W rel w1 σ r Q := by
  cases r with
  | ok a st => exact fun w' H' x l' => h w' H' x (l.trans l')
  | exc c st => exact fun w' H' l' => h w' H' (l.trans l')
  | bad => exact h
theorem PostS.mono {r : SRes} {D : Ends} (l : Le w w1) (h : PostS K W w r D) : PostS K W w1 r D := by
  cases r with
  | nx a st => exact fun w' H' x l' => h w' H' x (l.trans l')
  | ret a st => exact fun w' H' x l' => h w' H' x (l.trans l')
  | exc c ρ st => exact fun w' H' x l' => h w' H' x (l.trans l')
  | bad => exact h
/-- the one thing behind another -/
theorem post_bind {α β γ δ : Type} {rel : Wd → α → β → Prop} {rel2 : Wd → γ → δ → Prop} {r : Res α} {k : α → List SO → Res γ} {Q : δ → Hp → Prop} (h : Post K W rel2 w σ (bnd r k) Q) {R : β → Hp → Prop}
    (i : ∀ a st' w' H' x, Le w w' → WOk K w' H' st' → rel w' a x → Post K W rel2 w' σ (k a st') Q → R x H') : Post K W rel w σ r R := by
  cases r with
  | ok a st => exact fun w' H' x l o q => i a st w' H' x l o q (Post.mono l h)
  | exc c st => exact h
  | bad => exact h
end
end Z
/-! Expressions. -/
namespace Z
open PySem PySem.Spec PyProof.Rows L2

/-! ### new objects -/
section
variable {K : PySem.W.Frag} {w : Wd} {H : Hp} {st : List SO} {p : Addr}
theorem WOk.fF (ok : WOk K w H st) (h : H p = none) : w.F p = none := by
  cases e : w.F p with
  | none => rfl
  | some o => have := ok.fz p o e; rw [h] at this; cases this
theorem WOk.fR (ok : WOk K w H st) (h : H p = none) : w.R p = none := by
  cases e : w.R p with
  | none => rfl
  | some o => have := ok.fr p o e; rw [h] at this; cases this
theorem WOk.obj (ok : WOk K w H st) {k : Nat} {a : Addr} (h : w.adr[k]? = some a) : ∃ c o, st[k]? = some c ∧ H a = some o ∧ RepO K w c o := by
  have hk : k < st.length := by rw [← ok.len]; exact (List.getElem?_eq_some_iff.mp h).1
  obtain ⟨o, h1, h2⟩ := ok.ob k a st[k] h (by simp [hk])
  exact ⟨st[k], o, by simp [hk], h1, h2⟩
theorem WOk.nadr (ok : WOk K w H st) (h : H p = none) : p ∉ w.adr := fun hm => by
  obtain ⟨k, hk, e⟩ := List.getElem_of_mem hm
  obtain ⟨_, _, _, h2, _⟩ := ok.obj (k := k) (a := p) (by rw [List.getElem?_eq_getElem hk, e])
  rw [h] at h2; cases h2
def Wd.frz (w : Wd) (p : Addr) (o : HO) : Wd := { w with F := upd w.F p o }
def Wd.new (w : Wd) (p : Addr) : Wd := { w with adr := w.adr ++ [p] }
theorem le_frz (ok : WOk K w H st) (h : H p = none) (o : HO) : Le w (w.frz p o) :=
  ⟨⟨fun a u e => by
    show upd w.F p o a = some u
    rw [upd_ne (ne_of_none e (ok.fF h))]; exact e, [], by simp [Wd.frz]⟩, rfl⟩
theorem le_new (w : Wd) (p : Addr) : Le w (w.new p) := ⟨⟨fun _ _ e => e, [p], rfl⟩, rfl⟩
/-- a place of nobody -/
structure Free (w : Wd) (p : Addr) : Prop where
  F : w.F p = none
  R : w.R p = none
  A : p ∉ w.adr
theorem WOk.free (ok : WOk K w H st) (h : H p = none) : Free w p := ⟨ok.fF h, ok.fR h, ok.nadr h⟩
theorem WOk.updF (ok : WOk K w H st) (f : Free w p) (o : HO) : WOk K w (upd H p o) st := by
  have hne : ∀ {b : Addr} {F : Hp} {u : HO}, F b = some u → F p = none → b ≠ p := fun h1 h2 z => by subst z; rw [h2] at h1; cases h1
  refine ⟨fun b u q => ?_, fun b u q => ?_, ok.dj, ok.nd, ok.len, ok.ad, fun j b d e1 e2 => ?_⟩
  · rw [upd_ne (hne q f.F)]; exact ok.fz b u q
  · rw [upd_ne (hne q f.R)]; exact ok.fr b u q
  · obtain ⟨u, h1, h2⟩ := ok.ob j b d e1 e2
    have hb : b ≠ p := fun z => f.A (z ▸ List.mem_of_getElem? e1)
    exact ⟨u, by rw [upd_ne hb]; exact h1, h2⟩
theorem le_frz' (f : Free w p) (o : HO) : Le w (w.frz p o) :=
  ⟨⟨fun a u e => by
    show L2.upd w.F p o a = some u
    rw [upd_ne (ne_of_none e f.F)]; exact e, [], by simp [Wd.frz]⟩, rfl⟩
theorem WOk.frz' (ok : WOk K w H st) (f : Free w p) {o : HO} (h : H p = some o) : WOk K (w.frz p o) H st := by
  refine ⟨fun a u e => ?_, ok.fr, fun a u e => ?_, ok.nd, ok.len, fun k a e => ?_, fun k a c e1 e2 => ?_⟩
  · have e' : L2.upd w.F p o a = some u := e
    by_cases ha : a = p
    · subst ha; rw [upd_same] at e'; cases e'; exact h
    · rw [upd_ne ha] at e'; exact ok.fz a u e'
  · have e' : w.R a = some u := e
    show L2.upd w.F p o a = none
    rw [upd_ne (ne_of_none e' f.R)]; exact ok.dj a u e'
  · have e' : w.adr[k]? = some a := e
    have hne : a ≠ p := fun z => f.A (z ▸ List.mem_of_getElem? e')
    refine ⟨?_, (ok.ad k a e').2⟩
    show L2.upd w.F p o a = none
    rw [upd_ne hne]; exact (ok.ad k a e').1
  · obtain ⟨u, h1, h2⟩ := ok.ob k a c e1 e2
    exact ⟨u, h1, h2.mono (le_frz' f o)⟩
/-- what stands at p is not to be touched -/
def Wd.hold (w : Wd) (p : Addr) (o : HO) : Wd := { w with R := L2.upd w.R p o }
theorem WOk.hold (ok : WOk K w H st) (f : Free w p) {o : HO} (h : H p = some o) : WOk K (w.hold p o) H st := by
  refine ⟨ok.fz, fun a u e => ?_, fun a u e => ?_, ok.nd, ok.len, fun k a e => ?_, fun k a c e1 e2 => ?_⟩
  · have e' : L2.upd w.R p o a = some u := e
    by_cases ha : a = p
    · subst ha; rw [upd_same] at e'; cases e'; exact h
    · rw [upd_ne ha] at e'; exact ok.fr a u e'
  · have e' : L2.upd w.R p o a = some u := e
    by_cases ha : a = p
    · subst ha; exact f.F
    · rw [upd_ne ha] at e'; exact ok.dj a u e'
  · have e' : w.adr[k]? = some a := e
    have hne : a ≠ p := fun z => f.A (z ▸ List.mem_of_getElem? e')
    refine ⟨(ok.ad k a e').1, ?_⟩
    show L2.upd w.R p o a = none
    rw [upd_ne hne]; exact (ok.ad k a e').2
  · obtain ⟨u, h1, h2⟩ := ok.ob k a c e1 e2
    exact ⟨u, h1, RepO.mono' (w := w) (w' := w.hold p o) (fun _ _ e => e) (fun _ _ e => e) h2⟩
/-- back from a world in which p was held -/
theorem WOk.unhold {w2 : Wd} {o : HO} (ok : WOk K w2 H st) (f : Free w p) (l : Le (w.hold p o) w2) : WOk K { w2 with R := w.R } H st ∧ Le w { w2 with R := w.R } ∧ H p = some o ∧ Free { w2 with R := w.R } p := by
  have hR : w2.R = L2.upd w.R p o := l.R
  have hp : w2.R p = some o := by rw [hR, upd_same]
  have sub : ∀ a u, w.R a = some u → w2.R a = some u := fun a u e => by rw [hR, upd_ne (ne_of_none e f.R)]; exact e
  refine ⟨⟨ok.fz, fun a u e => ok.fr a u (sub a u e), fun a u e => ok.dj a u (sub a u e), ok.nd, ok.len, fun k a e => ⟨(ok.ad k a e).1, ?_⟩, fun k a c e1 e2 => ?_⟩, ⟨⟨l.F, l.adr⟩, rfl⟩, ok.fr p o hp, ⟨ok.dj p o hp, f.R, fun hm => ?_⟩⟩
  · show w.R a = none
    cases e2 : w.R a with
    | none => rfl
    | some u => have := (ok.ad k a e).2; rw [sub a u e2] at this; cases this
  · obtain ⟨u, h1, h2⟩ := ok.ob k a c e1 e2
    exact ⟨u, h1, RepO.mono' (w := w2) (w' := { w2 with R := w.R }) (fun _ _ e => e) (fun _ _ e => e) h2⟩
  · obtain ⟨k, hk, e⟩ := List.getElem_of_mem hm
    have := (ok.ad k p (by rw [List.getElem?_eq_getElem hk, e])).2
    rw [hp] at this; cases this
theorem WOk.frz (ok : WOk K w H st) (h : H p = none) (o : HO) : WOk K (w.frz p o) (upd H p o) st := by
  have l := le_frz ok h o
  refine ⟨fun a u e => ?_, fun a u e => ?_, fun a u e => ?_, ok.nd, ok.len, fun k a e => ?_, fun k a c e1 e2 => ?_⟩
  · have e' : upd w.F p o a = some u := e
    by_cases ha : a = p
    · subst ha; rw [upd_same] at e' ⊢; exact e'
    · rw [upd_ne ha] at e' ⊢; exact ok.fz a u e'
  · have e' : w.R a = some u := e
    rw [upd_ne (ne_of_none e' (ok.fR h))]; exact ok.fr a u e'
  · have e' : w.R a = some u := e
    show upd w.F p o a = none
    rw [upd_ne (ne_of_none e' (ok.fR h))]; exact ok.dj a u e'
  · have e' : w.adr[k]? = some a := e
    have hne : a ≠ p := fun z => ok.nadr h (z ▸ List.mem_of_getElem? e')
    refine ⟨?_, (ok.ad k a e').2⟩
    show upd w.F p o a = none
    rw [upd_ne hne]; exact (ok.ad k a e').1
  · have e' : w.adr[k]? = some a := e1
    have hne : a ≠ p := fun z => ok.nadr h (z ▸ List.mem_of_getElem? e')
    obtain ⟨u, h1, h2⟩ := ok.ob k a c e' e2
    exact ⟨u, by rw [upd_ne hne]; exact h1, h2.mono l⟩
theorem WOk.new (ok : WOk K w H st) (h : H p = none) {c : SO} {o : HO} (r : RepO K w c o) : WOk K (w.new p) (upd H p o) (st ++ [c]) := by
  have l := le_new w p
  have hnew : ∀ (k : Nat) (a : Addr), (w.adr ++ [p])[k]? = some a → (k < w.adr.length ∧ w.adr[k]? = some a) ∨ (k = w.adr.length ∧ a = p) := fun k a e => by
    by_cases hk : k < w.adr.length
    · rw [List.getElem?_append_left hk] at e; exact .inl ⟨hk, e⟩
    · rw [List.getElem?_append_right (by omega)] at e
      have : k - w.adr.length < [p].length := (List.getElem?_eq_some_iff.mp e).1
      have hk2 : k = w.adr.length := by simp at this; omega
      subst hk2
      simp at e
      exact .inr ⟨rfl, e.symm⟩
  refine ⟨fun a u e => ?_, fun a u e => ?_, ok.dj, ?_, ?_, fun k a e => ?_, fun k a d e1 e2 => ?_⟩
  · rw [upd_ne (ne_of_none (show w.F a = some u from e) (ok.fF h))]; exact ok.fz a u e
  · rw [upd_ne (ne_of_none (show w.R a = some u from e) (ok.fR h))]; exact ok.fr a u e
  · show (w.adr ++ [p]).Nodup
    rw [List.nodup_append]
    refine ⟨ok.nd, by simp, fun a ha b hb => ?_⟩
    simp at hb
    subst hb
    exact fun z => ok.nadr h (z ▸ ha)
  · show (w.adr ++ [p]).length = _
    simp [ok.len]
  · rcases hnew k a e with ⟨_, e'⟩ | ⟨_, rfl⟩
    · exact ok.ad k a e'
    · exact ⟨ok.fF h, ok.fR h⟩
  · rcases hnew k a e1 with ⟨hk, e'⟩ | ⟨hk, rfl⟩
    · have e2' : st[k]? = some d := by rw [List.getElem?_append_left (by rw [← ok.len]; exact hk)] at e2; exact e2
      obtain ⟨u, h1, h2⟩ := ok.ob k a d e' e2'
      have hne : a ≠ p := fun z => ok.nadr h (z ▸ List.mem_of_getElem? e')
      exact ⟨u, by rw [upd_ne hne]; exact h1, h2.mono l⟩
    · rw [hk, ok.len] at e2
      simp at e2
      subst e2
      exact ⟨o, upd_same, r.mono l⟩
/-- a mutable object is written -/
theorem WOk.write (ok : WOk K w H st) {k : Nat} {a : Addr} (e : w.adr[k]? = some a) {c : SO} {o : HO} (r : RepO K w c o) : WOk K w (upd H a o) (st.set k c) := by
  have hne : ∀ {b : Addr} {F : Hp} {u : HO}, F b = some u → F a = none → b ≠ a := fun h1 h2 z => by subst z; rw [h2] at h1; cases h1
  have had := ok.ad k a e
  refine ⟨fun b u q => ?_, fun b u q => ?_, ok.dj, ok.nd, by rw [List.length_set]; exact ok.len, ok.ad, fun j b d e1 e2 => ?_⟩
  · rw [upd_ne (hne q had.1)]; exact ok.fz b u q
  · rw [upd_ne (hne q had.2)]; exact ok.fr b u q
  · by_cases hj : k = j
    · subst hj
      rw [e] at e1; cases e1
      have hl : k < st.length := by rw [← ok.len]; exact (List.getElem?_eq_some_iff.mp e).1
      rw [List.getElem?_set_self hl] at e2
      cases e2
      exact ⟨o, upd_same, r⟩
    · rw [List.getElem?_set_ne hj] at e2
      obtain ⟨u, h1, h2⟩ := ok.ob j b d e1 e2
      have : b ≠ a := fun z => by
        subst z
        exact hj (nd_ix ok.nd e e1)
      exact ⟨u, by rw [upd_ne this]; exact h1, h2⟩
end

/-! ### operators by values -/
abbrev F2 := List SO → PV → PV → Option PV
abbrev F1 := List SO → PV → Option PV
abbrev FL := List SO → List PV → Option PV
def oo (o : Option PV) (st : List SO) : Res PV := match o with
  | some v => .ok v st
  | none => .bad
/-- the rule r does what f says -/
def Snd2 (K : PySem.W.Frag) (f : F2) (r : R2) : Prop := ∀ (w : Wd) (H : Hp) (st : List SO) (x y z : PV) (vx vy : V) (Q : VK), WOk K w H st → Rep K w x vx → Rep K w y vy → f st x y = some z →
  (∀ w' H' vz, Le w w' → WOk K w' H' st → Rep K w' z vz → Q vz H') → r vx vy H Q
def Snd1 (K : PySem.W.Frag) (f : F1) (r : V → Hp → VK → Prop) : Prop := ∀ (w : Wd) (H : Hp) (st : List SO) (x z : PV) (vx : V) (Q : VK), WOk K w H st → Rep K w x vx → f st x = some z →
  (∀ w' H' vz, Le w w' → WOk K w' H' st → Rep K w' z vz → Q vz H') → r vx H Q
def SndL (K : PySem.W.Frag) (f : FL) (r : List V → Hp → VK → Prop) : Prop := ∀ (w : Wd) (H : Hp) (st : List SO) (xs : List PV) (z : PV) (vs : List V) (Q : VK), WOk K w H st → RepL K w xs vs → f st xs = some z →
  (∀ w' H' vz, Le w w' → WOk K w' H' st → Rep K w' z vz → Q vz H') → r vs H Q

def gVar (i : Nat) : G := fun ρ st => match ρ[i]? with
  | some (some v) => .ok v st
  | _ => .bad
def gC (v : PV) : G := fun _ st => .ok v st
def gBin (f : F2) (ga gb : G) : G := fun ρ st => bnd (ga ρ st) fun x st => bnd (gb ρ st) fun y st => oo (f st x y) st
def gUn (f : F1) (ga : G) : G := fun ρ st => bnd (ga ρ st) fun x st => oo (f st x) st
def gArgs : List G → GL
  | [] => fun _ st => .ok [] st
  | g :: gs => fun ρ st => bnd (g ρ st) fun x st => bnd (gArgs gs ρ st) fun xs st => .ok (x :: xs) st
def gTupE (gs : List G) : G := fun ρ st => bnd (gArgs gs ρ st) fun xs st => .ok (.tup xs) st
def gLstE (gs : List G) : G := fun ρ st => bnd (gArgs gs ρ st) fun xs st => .ok (.lst xs) st
def gNewE (gs : List G) : G := fun ρ st => bnd (gArgs gs ρ st) fun xs st => .ok (.ref st.length) (st ++ [.lst xs])
def gCall (F : List PV → List SO → Res PV) (gs : List G) : G := fun ρ st => bnd (gArgs gs ρ st) fun xs st => F xs st
def gBi (f : FL) (gs : List G) : G := fun ρ st => bnd (gArgs gs ρ st) fun xs st => oo (f st xs) st
def gB (g : G) : GT := fun ρ st => bnd (g ρ st) fun v st => match v with
  | .bl b => .ok b st
  | _ => .bad
def gAnd (a b : GT) : GT := fun ρ st => bnd (a ρ st) fun c st => if c = true then b ρ st else .ok false st
def gOr (a b : GT) : GT := fun ρ st => bnd (a ρ st) fun c st => if c = true then .ok true st else b ρ st
def gNot (a : GT) : GT := fun ρ st => bnd (a ρ st) fun c st => .ok (!c) st
def gVT (t : GT) : G := fun ρ st => bnd (t ρ st) fun c st => .ok (.bl c) st
def gIf (c : GT) (a b : G) : G := fun ρ st => bnd (c ρ st) fun c st => if c = true then a ρ st else b ρ st

theorem gArgs_len : ∀ {gs : List G} {ρ : REnv} {st st' : List SO} {xs : List PV}, gArgs gs ρ st = .ok xs st' → xs.length = gs.length
  | [], _, _, _, _, h => by cases h; rfl
  | g :: gs, ρ, st, st', xs, h => by
    have h' : bnd (g ρ st) (fun x st => bnd (gArgs gs ρ st) fun xs st => .ok (x :: xs) st) = .ok xs st' := h
    cases e : g ρ st with
    | ok x st1 =>
      rw [e] at h'
      have h2 : bnd (gArgs gs ρ st1) (fun xs st => .ok (x :: xs) st) = .ok xs st' := h'
      cases e2 : gArgs gs ρ st1 with
      | ok ys st2 => rw [e2] at h2; cases h2; simp [gArgs_len e2]
      | exc c st2 => rw [e2] at h2; cases h2
      | bad => rw [e2] at h2; cases h2
    | exc c st1 => rw [e] at h'; cases h'
    | bad => rw [e] at h'; cases h'

section
variable {X : Cx} {W : WX} {pos : Pos} {a b e : Expr} {es : List Expr} {ga gb g : G} {gs : List G}

theorem se_var {x : Str} (i : Nat) (hN : X.N[i]? = some x := by rfl) (hv : Vis X.env.scope x := by first | exact Or.inl rfl | exact Or.inr (Or.inl rfl) | exact Or.inr (Or.inr rfl))
    (hd : (x == ("__debug__" : Str)) = false := by decide) (hcd : (x == ("__classdict__" : Str)) = false := by decide) : PE X (.Name x pos) (tG X.K W (gVar i)) := by
  refine pe_imp (pe_var hN hv hd hcd) fun σ H Q ⟨w, ρ, st, ok, sl, po⟩ => ?_
  have po : Post X.K W (Rep X.K) w σ (gVar i ρ st) Q := po
  unfold gVar at po
  cases h : ρ[i]? with
  | none => rw [h] at po; exact po.elim
  | some o =>
    cases o with
    | none => rw [h] at po; exact po.elim
    | some v =>
      rw [h] at po
      obtain ⟨u, hu, r⟩ := sl.get i v h
      exact ⟨u, hu, po w H u (Le.refl w) ok r⟩
theorem se_c {v : PV} {u : V} (h : PE X e (tC u)) (r : ∀ w, Rep X.K w v u) : PE X e (tG X.K W (gC v)) := by
  refine pe_imp h fun σ H Q ⟨w, ρ, st, ok, sl, po⟩ => ?_
  exact po w H u (Le.refl w) ok (r w)
theorem se_int {i : Int} {j : Nat} : PE X (.Constant (.int i) j pos) (tG X.K W (gC (.int i))) := se_c pe_int fun _ => rfl
theorem se_bl {i : Bool} {j : Nat} : PE X (.Constant (.bool i) j pos) (tG X.K W (gC (.bl i))) := se_c pe_bl fun _ => rfl
theorem se_non {j : Nat} : PE X (.Constant .none j pos) (tG X.K W (gC .non)) := se_c pe_non fun _ => rfl
theorem se_str {i : Str} {j : Nat} : PE X (.Constant (.str i) j pos) (tG X.K W (gC (.str i))) := se_c pe_str fun _ => rfl
/-- a constant of the module -/
theorem se_glob {x : Str} {c : PV} {v : V} {u : Value} (hg : Gl X x) (hm : X.mg x = some u) (r : RelV v u) (rc : ∀ w, Rep X.K w c v) (hd : (x == ("__debug__" : Str)) = false := by decide) : PE X (.Name x pos) (tG X.K W (gC c)) :=
  se_c (pe_glob hg hm r hd) rc

theorem tOp_of {f : F2} {r : R2} (hs : Snd2 X.K f r) {σ : L2.St} {H : Hp} {Q : VK} (h : tG X.K W (gBin f ga gb) σ H Q) : tOp r (tG X.K W ga) (tG X.K W gb) σ H Q := by
  obtain ⟨w, ρ, st, ok, sl, po⟩ := h
  refine ⟨w, ρ, st, ok, sl, post_bind (rel2 := Rep X.K) po fun x st1 w1 H1 vx l1 ok1 rx po1 => ?_⟩
  refine ⟨w1, ρ, st1, ok1, sl.mono l1, post_bind (rel2 := Rep X.K) po1 fun y st2 w2 H2 vy l2 ok2 ry po2 => ?_⟩
  cases e : f st2 x y with
  | none => rw [e] at po2; exact po2.elim
  | some z =>
    rw [e] at po2
    exact hs w2 H2 st2 x y z vx vy Q ok2 (rx.mono l2) ry e fun w' H' vz l o q => po2 w' H' vz l o q
theorem se_bin {op : Operator} {f : F2} {r : R2} (ho : OpR X (binaryOp op) r) (hs : Snd2 X.K f r) (ha : PE X a (tG X.K W ga)) (hb : PE X b (tG X.K W gb)) : PE X (.BinOp a op b pos) (tG X.K W (gBin f ga gb)) :=
  pe_imp (pe_op ho ha hb) fun _ _ _ h => tOp_of hs h
theorem se_cmp {op : CmpOp} {f : F2} {r : R2} (ho : OpR X (compareOp op) r) (hs : Snd2 X.K f r) (ha : PE X a (tG X.K W ga)) (hb : PE X b (tG X.K W gb)) (hm : behindInMarks op b = false := by first | exact nomark _ | rfl) :
    PE X (.Compare a [op] [b] pos) (tG X.K W (gBin f ga gb)) :=
  pe_imp (pe_cmpR ho ha hb hm) fun _ _ _ h => tOp_of hs h
theorem se_ix {f : F2} {r : R2} (ho : IxR X r) (hs : Snd2 X.K f r) (ha : PE X a (tG X.K W ga)) (hb : PE X b (tG X.K W gb)) (hp : PlainIx b := by intro _ _; rfl) : PE X (.Subscript a b pos) (tG X.K W (gBin f ga gb)) :=
  pe_imp (pe_ix ho ha hb hp) fun _ _ _ h => tOp_of hs h
theorem se_un {op : UnaryOp} {f : F1} {r : V → Hp → VK → Prop} (ho : UnR X (unaryOp op) r) (hs : Snd1 X.K f r) (ha : PE X a (tG X.K W ga)) : PE X (.UnaryOp op a pos) (tG X.K W (gUn f ga)) := by
  refine pe_imp (pe_un ho ha) fun σ H Q ⟨w, ρ, st, ok, sl, po⟩ => ?_
  refine ⟨w, ρ, st, ok, sl, post_bind (rel2 := Rep X.K) po fun x st1 w1 H1 vx l1 ok1 rx po1 => ?_⟩
  cases e : f st1 x with
  | none => rw [e] at po1; exact po1.elim
  | some z =>
    rw [e] at po1
    exact hs w1 H1 st1 x z vx Q ok1 rx e fun w' H' vz l o q => po1 w' H' vz l o q

/-! ### tests -/
theorem tTest_of {t : TE} {σ : L2.St} {H : Hp} {Q : Bool → Hp → Prop} (i : ∀ Q', tG X.K W g σ H Q' → t σ H Q') (h : tGT X.K W (gB g) σ H Q) : tTest t σ H Q := by
  obtain ⟨w, ρ, st, ok, sl, po⟩ := h
  refine i _ ⟨w, ρ, st, ok, sl, post_bind (rel2 := rlB) po fun x st1 w1 H1 vx l1 ok1 rx po1 => ?_⟩
  cases x with
  | bl c =>
    have e : vx = .bl c := rx
    exact ⟨c, e, po1 w1 H1 c (Le.refl _) ok1 rfl⟩
  | _ => exact po1.elim
theorem st_cmp {op : CmpOp} {f : F2} {r : R2} (ho : OpR X (compareOp op) r) (hs : Snd2 X.K f r) (ha : PE X a (tG X.K W ga)) (hb : PE X b (tG X.K W gb)) (hm : behindInMarks op b = false := by first | exact nomark _ | rfl) :
    PT X (.Compare a [op] [b] pos) (tGT X.K W (gB (gBin f ga gb))) :=
  pt_imp (pt_cmpR ho ha hb hm) fun _ _ _ h => tTest_of (fun _ h' => tOp_of hs h') h
theorem st_val (he : PE X e (tG X.K W g)) (hp : ∀ whole, isTrue e X.env whole = (do let v ← whole; standAt e.pos; holding [v] (truthy v)) := by intro _; rfl) : PT X e (tGT X.K W (gB g)) :=
  pt_imp (pt_val he hp) fun _ _ _ h => tTest_of (fun _ h' => h') h
variable {ta tb : GT} {rest : List Expr}
theorem st_and1 (h : PT X a (tGT X.K W ta)) : PW X (.BoolOp .And [a] pos) (tGT X.K W ta) := pw_and1 h
theorem st_or1 (h : PT X a (tGT X.K W ta)) : PW X (.BoolOp .Or [a] pos) (tGT X.K W ta) := pw_or1 h
theorem st_and (ha : PT X a (tGT X.K W ta)) (hb : PW X (.BoolOp .And (b :: rest) pos) (tGT X.K W tb)) : PW X (.BoolOp .And (a :: b :: rest) pos) (tGT X.K W (gAnd ta tb)) := by
  refine pw_imp (pw_and ha hb) fun σ H Q ⟨w, ρ, st, ok, sl, po⟩ => ?_
  refine ⟨w, ρ, st, ok, sl, post_bind (rel2 := rlB) po fun c st1 w1 H1 c' l1 ok1 e po1 => ?_⟩
  subst e
  cases c with
  | true => exact ⟨w1, ρ, st1, ok1, sl.mono l1, po1⟩
  | false => exact po1 w1 H1 false (Le.refl _) ok1 rfl
theorem st_or (ha : PT X a (tGT X.K W ta)) (hb : PW X (.BoolOp .Or (b :: rest) pos) (tGT X.K W tb)) : PW X (.BoolOp .Or (a :: b :: rest) pos) (tGT X.K W (gOr ta tb)) := by
  refine pw_imp (pw_or ha hb) fun σ H Q ⟨w, ρ, st, ok, sl, po⟩ => ?_
  refine ⟨w, ρ, st, ok, sl, post_bind (rel2 := rlB) po fun c st1 w1 H1 c' l1 ok1 e po1 => ?_⟩
  subst e
  cases c with
  | false => exact ⟨w1, ρ, st1, ok1, sl.mono l1, po1⟩
  | true => exact po1 w1 H1 true (Le.refl _) ok1 rfl
theorem st_not (ha : PT X a (tGT X.K W ta)) : PT X (.UnaryOp .Not a pos) (tGT X.K W (gNot ta)) := by
  refine pt_imp (pt_not ha) fun σ H Q ⟨w, ρ, st, ok, sl, po⟩ => ?_
  refine ⟨w, ρ, st, ok, sl, post_bind (rel2 := rlB) po fun c st1 w1 H1 c' l1 ok1 e po1 => ?_⟩
  subst e
  exact po1 w1 H1 (!c) (Le.refl _) ok1 rfl
/-- and, or, not as values: of bools -/
theorem se_and1 {op : BoolOp} (h : PE X a (tG X.K W ga)) : PE X (.BoolOp op [a] pos) (tG X.K W ga) := pe_one h
theorem se_and (ha : PE X a (tG X.K W ga)) (hb : PE X (.BoolOp .And (b :: rest) pos) (tG X.K W (gVT tb))) : PE X (.BoolOp .And (a :: b :: rest) pos) (tG X.K W (gVT (gAnd (gB ga) tb))) := by
  refine pe_imp (pe_and ha hb) fun σ H Q ⟨w, ρ, st, ok, sl, po⟩ => ?_
  have po : Post X.K W (Rep X.K) w σ (bnd (bnd (bnd (ga ρ st) fun v st => match v with | .bl b => .ok b st | _ => .bad) fun c st => if c = true then tb ρ st else .ok false st) fun c st => .ok (.bl c) st) Q := po
  cases e : ga ρ st with
  | ok v st1 =>
    refine ⟨w, ρ, st, ok, sl, ?_⟩
    rw [e] at po ⊢
    intro w1 H1 vx l1 ok1 rx
    cases v with
    | bl c =>
      have ev : vx = .bl c := rx
      refine ⟨c, ev, ?_⟩
      cases c with
      | true => exact ⟨w1, ρ, st1, ok1, sl.mono l1, Post.mono l1 po⟩
      | false => exact po w1 H1 (.bl false) l1 ok1 rfl
    | _ => exact po.elim
  | exc c st1 => rw [e] at po; exact ⟨w, ρ, st, ok, sl, by rw [e]; exact po⟩
  | bad => rw [e] at po; exact po.elim
theorem se_or (ha : PE X a (tG X.K W ga)) (hb : PE X (.BoolOp .Or (b :: rest) pos) (tG X.K W (gVT tb))) : PE X (.BoolOp .Or (a :: b :: rest) pos) (tG X.K W (gVT (gOr (gB ga) tb))) := by
  refine pe_imp (pe_or ha hb) fun σ H Q ⟨w, ρ, st, ok, sl, po⟩ => ?_
  have po : Post X.K W (Rep X.K) w σ (bnd (bnd (bnd (ga ρ st) fun v st => match v with | .bl b => .ok b st | _ => .bad) fun c st => if c = true then .ok true st else tb ρ st) fun c st => .ok (.bl c) st) Q := po
  cases e : ga ρ st with
  | ok v st1 =>
    refine ⟨w, ρ, st, ok, sl, ?_⟩
    rw [e] at po ⊢
    intro w1 H1 vx l1 ok1 rx
    cases v with
    | bl c =>
      have ev : vx = .bl c := rx
      refine ⟨c, ev, ?_⟩
      cases c with
      | false => exact ⟨w1, ρ, st1, ok1, sl.mono l1, Post.mono l1 po⟩
      | true => exact po w1 H1 (.bl true) l1 ok1 rfl
    | _ => exact po.elim
  | exc c st1 => rw [e] at po; exact ⟨w, ρ, st, ok, sl, by rw [e]; exact po⟩
  | bad => rw [e] at po; exact po.elim
theorem se_not (ha : PE X a (tG X.K W ga)) : PE X (.UnaryOp .Not a pos) (tG X.K W (gVT (gNot (gB ga)))) := by
  refine pe_imp (pe_not ha) fun σ H Q ⟨w, ρ, st, ok, sl, po⟩ => ?_
  have po : Post X.K W (Rep X.K) w σ (bnd (bnd (bnd (ga ρ st) fun v st => match v with | .bl b => .ok b st | _ => .bad) fun c st => .ok (!c) st) fun c st => .ok (.bl c) st) Q := po
  cases e : ga ρ st with
  | ok v st1 =>
    refine ⟨w, ρ, st, ok, sl, ?_⟩
    rw [e] at po ⊢
    intro w1 H1 vx l1 ok1 rx
    cases v with
    | bl c => exact ⟨c, rx, po w1 H1 (.bl (!c)) l1 ok1 rfl⟩
    | _ => exact po.elim
  | exc c st1 => rw [e] at po; exact ⟨w, ρ, st, ok, sl, by rw [e]; exact po⟩
  | bad => rw [e] at po; exact po.elim
/-- a value, seen as a truth that is a value -/
theorem se_vt (ha : PE X a (tG X.K W ga)) : PE X a (tG X.K W (gVT (gB ga))) := by
  refine pe_imp ha fun σ H Q ⟨w, ρ, st, ok, sl, po⟩ => ⟨w, ρ, st, ok, sl, ?_⟩
  have po : Post X.K W (Rep X.K) w σ (bnd (bnd (ga ρ st) fun v st => match v with | .bl b => .ok b st | _ => .bad) fun c st => .ok (.bl c) st) Q := po
  cases e : ga ρ st with
  | ok v st1 =>
    rw [e] at po
    cases v with
    | bl c => exact po
    | _ => exact po.elim
  | exc c st1 => rw [e] at po; exact po
  | bad => rw [e] at po; exact po.elim
theorem se_if {c : Expr} {gc : GT} (hc : PT X c (tGT X.K W gc)) (ha : PE X a (tG X.K W ga)) (hb : PE X b (tG X.K W gb)) : PE X (.IfExp c a b pos) (tG X.K W (gIf gc ga gb)) := by
  refine pe_imp (pe_ifExp hc ha hb) fun σ H Q ⟨w, ρ, st, ok, sl, po⟩ => ?_
  refine ⟨w, ρ, st, ok, sl, post_bind (rel2 := Rep X.K) po fun c st1 w1 H1 c' l1 ok1 e po1 => ?_⟩
  subst e
  cases c with
  | true => exact ⟨w1, ρ, st1, ok1, sl.mono l1, po1⟩
  | false => exact ⟨w1, ρ, st1, ok1, sl.mono l1, po1⟩

/-! ### argument lists, displays -/
theorem sa_nil : PA X [] (tGA X.K W (gArgs [])) := by
  refine pa_imp pa_nil fun σ H Q ⟨w, ρ, st, ok, sl, po⟩ => ?_
  exact po w H [] (Le.refl _) ok rfl
theorem sa_cons (ha : PE X e (tG X.K W g)) (hr : PA X es (tGA X.K W (gArgs gs))) (hs : starEach (e :: es) X.env = (false, eval e X.env) :: starEach es X.env := by rfl) : PA X (e :: es) (tGA X.K W (gArgs (g :: gs))) := by
  refine pa_imp (pa_cons ha hr hs) fun σ H Q ⟨w, ρ, st, ok, sl, po⟩ => ?_
  refine ⟨w, ρ, st, ok, sl, post_bind (rel2 := RepL X.K) po fun x st1 w1 H1 vx l1 ok1 rx po1 => ?_⟩
  refine ⟨w1, ρ, st1, ok1, sl.mono l1, post_bind (rel2 := RepL X.K) po1 fun xs st2 w2 H2 vs l2 ok2 rs po2 => ?_⟩
  exact po2 w2 H2 (vx :: vs) (Le.refl _) ok2 ⟨vx, vs, rfl, rx.mono l2, rs⟩
theorem small_line {n : Nat} (h : n ≤ 1000) : n ≤ sizeLine := Nat.le_of_lt (small1000 h)
/-- an argument list, its length known -/
theorem tGA_len {σ : L2.St} {H : Hp} {rel : Wd → PV → V → Prop} {Q : VK} {k : List PV → List SO → Res PV} {w : Wd} {ρ : REnv} {st : List SO} (ok : WOk X.K w H st) (sl : Slots X.K w ρ σ)
    (po : Post X.K W rel w σ (bnd (gArgs gs ρ st) k) Q) {R : List V → Hp → Prop}
    (i : ∀ xs st' w' H' vs, xs.length = gs.length → Le w w' → WOk X.K w' H' st' → RepL X.K w' xs vs → Post X.K W rel w' σ (k xs st') Q → R vs H') : tGA X.K W (gArgs gs) σ H R := by
  refine ⟨w, ρ, st, ok, sl, ?_⟩
  cases e : gArgs gs ρ st with
  | ok xs st1 =>
    rw [e] at po
    exact fun w1 H1 vs l1 ok1 rs => i xs st1 w1 H1 vs (gArgs_len e) l1 ok1 rs (Post.mono l1 po)
  | exc c st1 => rw [e] at po; exact po
  | bad => rw [e] at po; exact po.elim
end
end Z
/-! Displays, calls, statements, loops, defs. -/
namespace Z
open PySem PySem.Spec PyProof.Rows L2
section
variable {X : Cx} {W : WX} {pos : Pos} {a b e : Expr} {es : List Expr} {ga gb g : G} {gs : List G}
theorem se_tup {k : Nat} (h : PA X es (tGA X.K W (gArgs gs))) (hl : gs.length ≤ 1000 := by first | decide | exact Nat.le_of_ble_eq_true rfl) : PE X (.Tuple es k pos) (tG X.K W (gTupE gs)) := by
  refine pe_imp (pe_tup h) fun σ H Q ⟨w, ρ, st, ok, sl, po⟩ => ?_
  refine tGA_len ok sl po fun xs st1 w1 H1 vs hx l1 ok1 rs po1 => ⟨by rw [rs.length, hx]; exact small_line hl, fun p hp => ?_⟩
  exact po1 (w1.frz p (.tup vs)) _ _ (le_frz ok1 hp _) (ok1.frz hp _) ⟨p, vs, rfl, .inl (.inl upd_same), rs.mono (le_frz ok1 hp _)⟩
/-- a list that nobody changes -/
theorem se_lst (h : PA X es (tGA X.K W (gArgs gs))) (hl : gs.length ≤ 1000 := by first | decide | exact Nat.le_of_ble_eq_true rfl) : PE X (.List es pos) (tG X.K W (gLstE gs)) := by
  refine pe_imp (pe_lst h) fun σ H Q ⟨w, ρ, st, ok, sl, po⟩ => ?_
  refine tGA_len ok sl po fun xs st1 w1 H1 vs hx l1 ok1 rs po1 => ⟨by rw [rs.length, hx]; exact small_line hl, fun p hp => ?_⟩
  exact po1 (w1.frz p (.lst vs)) _ _ (le_frz ok1 hp _) (ok1.frz hp _) ⟨p, vs, rfl, .inl (.inl upd_same), rs.mono (le_frz ok1 hp _)⟩
/-- a list that is to be changed -/
theorem se_new (h : PA X es (tGA X.K W (gArgs gs))) (hl : gs.length ≤ 1000 := by first | decide | exact Nat.le_of_ble_eq_true rfl) : PE X (.List es pos) (tG X.K W (gNewE gs)) := by
  refine pe_imp (pe_lst h) fun σ H Q ⟨w, ρ, st, ok, sl, po⟩ => ?_
  refine tGA_len ok sl po fun xs st1 w1 H1 vs hx l1 ok1 rs po1 => ⟨by rw [rs.length, hx]; exact small_line hl, fun p hp => ?_⟩
  have l := le_new w1 p
  refine po1 (w1.new p) _ _ l (ok1.new hp (c := .lst xs) ⟨vs, rfl, rs⟩) ⟨p, rfl, ?_⟩
  show (w1.adr ++ [p])[st1.length]? = some p
  rw [← ok1.len]; simp
/-! ### calls -/
theorem se_bi {id : String} {x : Str} {p : Pos} {f : FL} {r : List V → Hp → VK → Prop} (hc : CallR X (.builtin id) r) (hs : SndL X.K f r) (hv : bootBuiltins x = some (.builtin id)) (hm : X.mg x = none) (ha : PA X (e :: es) (tGA X.K W (gArgs gs))) (hg : Gl X x := by rfl) (hn : x ≠ "__name__" := by decide) (hdb : (x == ("__debug__" : Str)) = false := by decide)
    (he : starEach (e :: es) X.env = (false, eval e X.env) :: starEach es X.env := by rfl) (hpl : (backTo pos (starEach es X.env)).any (·.1) = false := by rfl) : PE X (.Call (.Name x p) (e :: es) [] pos) (tG X.K W (gBi f gs)) := by
  refine pe_imp (pe_callB hc hg hm hv ha hn hdb he hpl) fun σ H Q ⟨w, ρ, st, ok, sl, po⟩ => ?_
  refine ⟨w, ρ, st, ok, sl, post_bind (rel2 := Rep X.K) po fun xs st1 w1 H1 vs l1 ok1 rs po1 => ?_⟩
  cases q : f st1 xs with
  | none => rw [q] at po1; exact po1.elim
  | some z =>
    rw [q] at po1
    exact hs w1 H1 st1 xs z vs Q ok1 rs q fun w' H' vz l o r => po1 w' H' vz l o r
theorem se_bt {T : String} {x : Str} {p : Pos} {f : FL} {r : List V → Hp → VK → Prop} (hc : CallR X (.type T) r) (hs : SndL X.K f r) (hv : bootBuiltins x = some (.type T)) (hm : X.mg x = none) (ha : PA X (e :: es) (tGA X.K W (gArgs gs))) (hg : Gl X x := by rfl) (hn : x ≠ "__name__" := by decide) (hdb : (x == ("__debug__" : Str)) = false := by decide)
    (he : starEach (e :: es) X.env = (false, eval e X.env) :: starEach es X.env := by rfl) (hpl : (backTo pos (starEach es X.env)).any (·.1) = false := by rfl) : PE X (.Call (.Name x p) (e :: es) [] pos) (tG X.K W (gBi f gs)) := by
  refine pe_imp (pe_callTy hc hg hm hv ha hn hdb he hpl) fun σ H Q ⟨w, ρ, st, ok, sl, po⟩ => ?_
  refine ⟨w, ρ, st, ok, sl, post_bind (rel2 := Rep X.K) po fun xs st1 w1 H1 vs l1 ok1 rs po1 => ?_⟩
  cases q : f st1 xs with
  | none => rw [q] at po1; exact po1.elim
  | some z =>
    rw [q] at po1
    exact hs w1 H1 st1 xs z vs Q ok1 rs q fun w' H' vz l o r => po1 w' H' vz l o r

/-! ### what a def does -/
abbrev Fn := List PV → List SO → Res PV
/-- where a call lands -/
def PostF (K : PySem.W.Frag) (w : Wd) (r : Res PV) (Q : VK) (E : XK) : Prop := match r with
  | .ok v st' => ∀ w' H' x, Le w w' → WOk K w' H' st' → Rep K w' v x → Q x H'
  | .exc c st' => ∀ w' H', Le w w' → WOk K w' H' st' → E (.ref (He.ga K c)) none H'
  | .bad => False
def spF (K : PySem.W.Frag) (n : Nat) (F : Fn) : Sp := fun vs H Q E => ∃ w xs st, xs.length = n ∧ WOk K w H st ∧ RepL K w xs vs ∧ PostF K w (F xs st) Q E
/-- the def x of the module does F -/
def Def (P : Program) (w : World) (K : PySem.W.Frag) (mg : Str → Option Value) (base : Heap) (x : Str) (n k : Nat) (F : Fn) : Prop :=
  ∃ f fd ps, ps.length = n ∧ FnOk P w K mg base (L2N.CX P w) k f fd ps (spF K n F) ∧ mg x = some (.ref f) ∧ PySem.W.keepIn K (.ref f) = true ∧ Binds K fd ps []
theorem takes0N {X : Cx} : L2N.Takes X (fun _ _ _ _ => False) := fun _ _ ⟨_, _, _, _, _, _, _, _, _, _, _, _, _, _, _, _, no⟩ => no.elim
theorem se_call {x : Str} {n k : Nat} {F : Fn} {p : Pos} (D : Def X.prog X.w X.K X.mg X.base x n k F) (hr : Room k X.A) (tk : L2N.Takes X W) (ha : PA X (e :: es) (tGA X.K W (gArgs gs))) (hg : Gl X x := by rfl) (hn : gs.length = n := by rfl) (hdb : (x == ("__debug__" : Str)) = false := by decide)
    (he : starEach (e :: es) X.env = (false, eval e X.env) :: starEach es X.env := by rfl) (hpl : (backTo pos (starEach es X.env)).any (·.1) = false := by rfl) : PE X (.Call (.Name x p) (e :: es) [] pos) (tG X.K W (gCall F gs)) := by
  obtain ⟨f, fd, ps, hps, FO, hm, hk, hb⟩ := D
  refine pe_imp (pe_callS FO hr hg hm hk hb (fun σ => L2N.passAt tk σ) ha hdb he hpl) fun σ H Q ⟨w, ρ, st, ok, sl, po⟩ => ?_
  refine tGA_len ok sl po fun xs st1 w1 H1 vs hx l1 ok1 rs po1 => ⟨w1, xs, st1, by rw [hx, hn], ok1, rs, ?_⟩
  cases q : F xs st1 with
  | ok v st2 => rw [q] at po1; exact po1
  | exc c st2 => rw [q] at po1; exact po1
  | bad => rw [q] at po1; exact po1.elim

/-! ### statements -/
def gSkip : GS := fun ρ st => .nx ρ st
def gSeq (a b : GS) : GS := fun ρ st => match a ρ st with
  | .nx ρ' st' => b ρ' st'
  | r => r
def toS (ρ : REnv) (r : Res PV) (k : PV → List SO → SRes) : SRes := match r with
  | .ok v st => k v st
  | .exc c st => .exc c ρ st
  | .bad => .bad
def toST (ρ : REnv) (r : Res Bool) (k : Bool → List SO → SRes) : SRes := match r with
  | .ok v st => k v st
  | .exc c st => .exc c ρ st
  | .bad => .bad
def gRet (g : G) : GS := fun ρ st => toS ρ (g ρ st) fun v st => .ret v st
def gAsg (g : G) (t : PV → GS) : GS := fun ρ st => toS ρ (g ρ st) fun v st => t v ρ st
def gSet (i : Nat) (g : G) : GS := fun ρ st => toS ρ (g ρ st) fun v st => .nx (ρ.set i (some v)) st
def gExpr (g : G) : GS := fun ρ st => toS ρ (g ρ st) fun _ st => .nx ρ st
def gIfS (c : GT) (a b : GS) : GS := fun ρ st => toST ρ (c ρ st) fun c st => if c = true then a ρ st else b ρ st
def gRaise (c : Str) : GS := fun ρ st => .exc c ρ st
def whl (c : GT) (b : GS) : Nat → GS
  | 0 => fun _ _ => .bad
  | n + 1 => fun ρ st => toST ρ (c ρ st) fun t st => if t = true then (match b ρ st with
    | .nx ρ' st' => whl c b n ρ' st'
    | r => r) else .nx ρ st
/-- μ: turns enough -/
def gWhile (μ : REnv → Nat) (c : GT) (b : GS) : GS := fun ρ st => whl c b (μ ρ) ρ st

variable {K : PySem.W.Frag} {w : Wd} {σ : L2.St} {H : Hp} {ρ : REnv} {st : List SO} {D : Ends}
theorem post_toS {r : Res PV} {k : PV → List SO → SRes} (sl : Slots K w ρ σ) (h : PostS K W w (toS ρ r k) D) {R : VK}
    (i : ∀ v st' w' H' x, Le w w' → WOk K w' H' st' → Rep K w' v x → PostS K W w' (k v st') D → R x H') : Post K W (Rep K) w σ r R := by
  cases r with
  | ok v st => exact fun w' H' x l o q => i v st w' H' x l o q (PostS.mono l h)
  | exc c st => exact fun w' H' l o => h w' σ H' l o (sl.mono l)
  | bad => exact h
theorem post_toST {r : Res Bool} {k : Bool → List SO → SRes} (sl : Slots K w ρ σ) (h : PostS K W w (toST ρ r k) D) {R : Bool → Hp → Prop}
    (i : ∀ v st' w' H', Le w w' → WOk K w' H' st' → PostS K W w' (k v st') D → R v H') : Post K W rlB w σ r R := by
  cases r with
  | ok v st => exact fun w' H' x l o q => by subst q; exact i v st w' H' l o (PostS.mono l h)
  | exc c st => exact fun w' H' l o => h w' σ H' l o (sl.mono l)
  | bad => exact h
variable {sa sb : GS} {s1 : Stmt} {rest : List Stmt}
theorem ss_nil : PSs X [] (tS X.K W gSkip) := pss_imp pss_nil fun D σ H ⟨w, ρ, st, ok, sl, po⟩ => po w σ H (Le.refl w) ok sl
theorem ss_one (h : PS X s1 (tS X.K W sa)) : PSs X [s1] (tS X.K W sa) := pss_one h
theorem ss_cons (h : PS X s1 (tS X.K W sa)) (hr : PSs X rest (tS X.K W sb)) : PSs X (s1 :: rest) (tS X.K W (gSeq sa sb)) := by
  refine pss_imp (pss_cons h hr) fun D σ H ⟨w, ρ, st, ok, sl, po⟩ => ⟨w, ρ, st, ok, sl, ?_⟩
  have po : PostS X.K W w (match sa ρ st with | .nx ρ' st' => sb ρ' st' | r => r) D := po
  cases e : sa ρ st with
  | nx ρ' st' => rw [e] at po; exact fun w' σ' H' l o s => ⟨w', ρ', st', o, s, PostS.mono l po⟩
  | ret v st' => rw [e] at po; exact po
  | exc c ρ' st' => rw [e] at po; exact po
  | bad => rw [e] at po; exact po.elim
theorem ss_pass : PS X (.Pass pos) (tS X.K W gSkip) := ps_imp ps_pass fun D σ H ⟨w, ρ, st, ok, sl, po⟩ => po w σ H (Le.refl w) ok sl
theorem ss_ret (he : PE X e (tG X.K W g)) : PS X (.Return (some e) pos) (tS X.K W (gRet g)) := by
  refine ps_imp (ps_ret he) fun D σ H ⟨w, ρ, st, ok, sl, po⟩ => ⟨w, ρ, st, ok, sl, post_toS sl po fun v st' w' H' x l o r q => ?_⟩
  exact q w' H' x (Le.refl _) o r
theorem ss_expr (he : PE X e (tG X.K W g)) (hs : swapsWith e none pos.line X.env = pure false := by rfl) : PS X (.Expr e pos) (tS X.K W (gExpr g)) := by
  refine ps_imp (ps_expr he hs) fun D σ H ⟨w, ρ, st, ok, sl, po⟩ => ⟨w, ρ, st, ok, sl, post_toS sl po fun v st' w' H' x l o r q => ?_⟩
  exact q w' σ H' (Le.refl _) o (sl.mono l)
theorem ss_set {x : Str} {pos' : Pos} (i : Nat) (hN : X.N.Nodup) (he : PE X e (tG X.K W g)) (hi : X.N[i]? = some x := by rfl) (hx : Loc X.env.scope x := by first | exact Or.inl rfl | exact Or.inr rfl) (hs : swapsWith e (some (.Name x pos')) pos.line X.env = pure false := by rfl)
    (hf : X.fn x = true ∨ X.env.scope.names.lookup x = some .local := by first | exact .inl rfl | exact .inr rfl) : PS X (.Assign [.Name x pos'] e pos) (tS X.K W (gSet i g)) := by
  refine ps_imp (ps_set hN hi hx he hs hf) fun D σ H ⟨w, ρ, st, ok, sl, po⟩ => ⟨w, ρ, st, ok, sl, post_toS sl po fun v st' w' H' y l o r q => ?_⟩
  exact q w' _ H' (Le.refl _) o ((sl.mono l).set r)
theorem ss_if {c : Expr} {as bs : List Stmt} {gc : GT} (hc : PT X c (tGT X.K W gc)) (ha : PSs X as (tS X.K W sa)) (hb : PSs X bs (tS X.K W sb)) : PS X (.If c as bs pos) (tS X.K W (gIfS gc sa sb)) := by
  refine ps_imp (ps_if hc ha hb) fun D σ H ⟨w, ρ, st, ok, sl, po⟩ => ⟨w, ρ, st, ok, sl, post_toST sl po fun c st' w' H' l o q => ?_⟩
  cases c with
  | true => exact ⟨w', ρ, st', o, sl.mono l, q⟩
  | false => exact ⟨w', ρ, st', o, sl.mono l, q⟩

/-! ### targets -/
/-- a target takes a value -/
def tTg (K : PySem.W.Frag) (is : List Nat) (t : PV → REnv → Option REnv) : TG := fun v σ H Q => ∃ w ρ st x ρ', WOk K w H st ∧ Slots K w ρ σ ∧ Rep K w x v ∧ t x ρ = some ρ' ∧ ∀ w' σ' H', Le w w' → WOk K w' H' st → Slots K w' ρ' σ' → wipe σ' is = wipe σ is → Q σ' H'
def tTgs (K : PySem.W.Frag) (is : List Nat) (t : List PV → REnv → Option REnv) : TGs := fun vs σ H Q => ∃ w ρ st xs ρ', WOk K w H st ∧ Slots K w ρ σ ∧ RepL K w xs vs ∧ t xs ρ = some ρ' ∧ ∀ w' σ' H', Le w w' → WOk K w' H' st → Slots K w' ρ' σ' → wipe σ' is = wipe σ is → Q σ' H'
theorem wipe_set1 (σ : L2.St) (i : Nat) (x : Option V) : ∀ is : List Nat, (wipe (σ.set i x) is).set i none = (wipe σ is).set i none
  | [] => by simp [wipe]
  | j :: is => by
    show ((wipe (σ.set i x) is).set j none).set i none = ((wipe σ is).set j none).set i none
    by_cases h : j = i
    · subst h; rw [wipe_set1 σ j x is]
    · rw [List.set_comm _ _ h, wipe_set1 σ i x is, List.set_comm _ _ (Ne.symm h)]
theorem wipe_set {σ : L2.St} {i : Nat} {x : Option V} : ∀ {is : List Nat}, i ∈ is → wipe (σ.set i x) is = wipe σ is
  | [], h => by cases h
  | j :: is, h => by
    show (wipe (σ.set i x) is).set j none = (wipe σ is).set j none
    by_cases e : i = j
    · subst e; exact wipe_set1 σ i x is
    · rw [wipe_set (is := is) (by cases h with | head => exact absurd rfl e | tail _ h => exact h)]
def tgName (i : Nat) : PV → REnv → Option REnv := fun v ρ => some (ρ.set i (some v))
def tgNil : List PV → REnv → Option REnv
  | [], ρ => some ρ
  | _ :: _, _ => none
def tgCons (t : PV → REnv → Option REnv) (u : List PV → REnv → Option REnv) : List PV → REnv → Option REnv
  | [], _ => none
  | x :: xs, ρ => (t x ρ).bind (u xs)
def tgTup (n : Nat) (u : List PV → REnv → Option REnv) : PV → REnv → Option REnv
  | .tup xs, ρ => if xs.length = n then u xs ρ else none
  | _, _ => none
theorem pg_imp {tg : Expr} {t t' : TG} (h : PG X tg t) (i : ∀ v σ H Q, t' v σ H Q → t v σ H Q) : PG X tg t' := ⟨fun pins s σ H v u Q I r q => h.run pins s σ H v u Q I r (i v σ H Q q)⟩
theorem pgs_imp {tg : List Expr} {t t' : TGs} (h : PGs X tg t) (i : ∀ v σ H Q, t' v σ H Q → t v σ H Q) : PGs X tg t' := ⟨fun pins s σ H v u Q I r q => h.run pins s σ H v u Q I r (i v σ H Q q)⟩
variable {is : List Nat}
theorem sg_name {x : Str} (i : Nat) (hN : X.N.Nodup) (hi : X.N[i]? = some x := by rfl) (hx : Loc X.env.scope x := by first | exact Or.inl rfl | exact Or.inr rfl)
    (hf : X.fn x = true ∨ X.env.scope.names.lookup x = some .local := by first | exact .inl rfl | exact .inr rfl) (him : i ∈ is := by decide) : PG X (.Name x pos) (tTg X.K is (tgName i)) := by
  refine pg_imp (pg_name hN hi hx hf) fun v σ H Q ⟨w, ρ, st, x, ρ', ok, sl, r, e, q⟩ => ?_
  cases e
  exact q w _ H (Le.refl _) ok (sl.set r) (wipe_set him)
theorem sgs_nil : PGs X [] (tTgs X.K is tgNil) := by
  refine pgs_imp pgs_nil fun v σ H Q ⟨w, ρ, st, xs, ρ', ok, sl, r, e, q⟩ => ?_
  cases xs with
  | nil => cases e; exact ⟨r, q w σ H (Le.refl _) ok sl rfl⟩
  | cons x xs => cases e
theorem sgs_cons {t : PV → REnv → Option REnv} {u : List PV → REnv → Option REnv} (h1 : PG X e (tTg X.K is t)) (h2 : PGs X es (tTgs X.K is u))
    (hs : (assignEach (e :: es) X.env).map (·.2) = assign e X.env :: (assignEach es X.env).map (·.2) := by rfl) : PGs X (e :: es) (tTgs X.K is (tgCons t u)) := by
  refine pgs_imp (pgs_cons h1 h2 hs) fun v σ H Q ⟨w, ρ, st, xs, ρ', ok, sl, r, e, q⟩ => ?_
  cases xs with
  | nil => cases e
  | cons x xs =>
    obtain ⟨vx, vr, ev, rx, rr⟩ := r
    have e' : (t x ρ).bind (u xs) = some ρ' := e
    cases e1 : t x ρ with
    | none => rw [e1] at e'; cases e'
    | some ρ1 =>
      rw [e1] at e'
      refine ⟨vx, vr, ev, w, ρ, st, x, ρ1, ok, sl, rx, e1, fun w1 σ1 H1 l1 o1 s1 z1 => ?_⟩
      exact ⟨w1, ρ1, st, xs, ρ', o1, s1, rr.mono l1, e', fun w2 σ2 H2 l2 o2 s2 z2 => q w2 σ2 H2 (l1.trans l2) o2 s2 (z2.trans z1)⟩
theorem sg_tup {k n : Nat} {u : List PV → REnv → Option REnv} (hc : X.calm = true) (h : PGs X es (tTgs X.K is u))
    (hn : (assignEach es X.env).length = n := by rfl) (hst : (assignEach es X.env).findIdx? (·.1) = none := by rfl) : PG X (.Tuple es k pos) (tTg X.K is (tgTup n u)) := by
  refine pg_imp (pg_tup hc h hn hst) fun v σ H Q ⟨w, ρ, st, x, ρ', ok, sl, r, e, q⟩ => ?_
  cases x with
  | tup xs =>
    obtain ⟨a, vs, ev, hq, rs⟩ := r
    have e' : (if xs.length = n then u xs ρ else none) = some ρ' := e
    by_cases hx : xs.length = n
    · rw [if_pos hx] at e'
      exact ⟨a, vs, ev, sqt_mono ok.fz hq, by rw [rs.length]; exact hx, w, ρ, st, xs, ρ', ok, sl, rs, e', q⟩
    · rw [if_neg hx] at e'; cases e'
  | _ => cases e
def gTo (t : PV → REnv → Option REnv) : PV → GS := fun v ρ st => match t v ρ with
  | some ρ' => .nx ρ' st
  | none => .bad
theorem ss_asg {tg : Expr} {t : PV → REnv → Option REnv} (he : PE X e (tG X.K W g)) (hg : PG X tg (tTg X.K is t)) (hs : swapsWithSole [tg] e pos.line X.env = pure false := by rfl) (hw : swappedStores [tg] e X.env = pure none := by rfl)
    (h1 : (assignEach [tg] X.env).map (·.2) = [assign tg X.env] := by rfl) : PS X (.Assign [tg] e pos) (tS X.K W (gAsg g (gTo t))) := by
  refine ps_imp (ps_asg he hg hs hw h1) fun D σ H ⟨w, ρ, st, ok, sl, po⟩ => ⟨w, ρ, st, ok, sl, post_toS sl po fun v st' w' H' y l o r q => ?_⟩
  have q : PostS X.K W w' (match t v ρ with | some ρ' => .nx ρ' st' | none => .bad) D := q
  cases e1 : t v ρ with
  | none => rw [e1] at q; exact q.elim
  | some ρ1 =>
    rw [e1] at q
    exact ⟨w', ρ, st', v, ρ1, o, sl.mono l, r, e1, fun w2 σ2 H2 l2 o2 s2 _ => q w2 σ2 H2 l2 o2 s2⟩
/-- a, b = x, y of plain local names -/
def gPar (i j : Nat) (a b : G) : GS := fun ρ st => match gArgs [a, b] ρ st with
  | .ok [x, y] st' => .nx ((ρ.set i (some x)).set j (some y)) st'
  | .ok _ _ => .bad
  | .exc c st' => .exc c ρ st'
  | .bad => .bad
/-! ### while -/
theorem ss_while {c : Expr} {body : List Stmt} {gc : GT} (μ : REnv → Nat) (hp : PassesOwn (model X.prog X.w) X.A X.env X.xe) (hc : PT X c (tGT X.K W gc)) (hb : PSs X body (tS X.K W sb)) : PS X (.While c body [] pos) (tS X.K W (gWhile μ gc sb)) := by
  refine ps_imp (ps_while hp hc hb) fun D σ H ⟨w, ρ, st, ok, sl, po⟩ => ?_
  refine ⟨fun m σ H => ∃ w ρ st, WOk X.K w H st ∧ Slots X.K w ρ σ ∧ PostS X.K W w (whl gc sb m ρ st) D, ⟨μ ρ, w, ρ, st, ok, sl, po⟩, ?_⟩
  rintro m σ H ⟨w, ρ, st, ok, sl, po⟩
  cases m with
  | zero => exact po.elim
  | succ m =>
    refine ⟨w, ρ, st, ok, sl, post_toST sl po fun t st' w' H' l o q => ?_⟩
    cases t with
    | false => exact q w' σ H' (Le.refl _) o (sl.mono l)
    | true =>
      refine ⟨fun σ H => ∃ w ρ st, WOk X.K w H st ∧ Slots X.K w ρ σ ∧ PostS X.K W w (whl gc sb m ρ st) D, fun σ' H' h => ⟨m, Nat.lt_succ_self m, h⟩, w', ρ, st', o, sl.mono l, ?_⟩
      have q : PostS X.K W w' (match sb ρ st' with | .nx ρ' st' => whl gc sb m ρ' st' | r => r) D := q
      cases e : sb ρ st' with
      | nx ρ' st2 => rw [e] at q; exact fun w2 σ2 H2 l2 o2 s2 => ⟨w2, ρ', st2, o2, s2, PostS.mono l2 q⟩
      | ret v st2 => rw [e] at q; exact q
      | exc c ρ' st2 => rw [e] at q; exact q
      | bad => rw [e] at q; exact q.elim
end
end Z
/-! Loops over items, comprehensions, raising, methods, defs. -/
namespace Z
open PySem PySem.Spec PyProof.Rows L2

/-! ### what is walked -/
/-- J walks the items xs (from the world w on) -/
structure Itm (K : PySem.W.Frag) (w : Wd) (J : It) (xs : List PV) : Prop where
  go : ∀ i w1 H st, LeF w w1 → WOk K w1 H st → i < xs.length → J.go i H
  yld : ∀ i w1 H st x H', LeF w w1 → WOk K w1 H st → i < xs.length → J.yld i H x H' → ∃ w2 pv, Le w1 w2 ∧ WOk K w2 H' st ∧ xs[i]? = some pv ∧ Rep K w2 pv x
  stop : ∀ w1 H st, LeF w w1 → WOk K w1 H st → J.stop xs.length H
theorem Itm.mono {K : PySem.W.Frag} {w w' : Wd} {J : It} {xs : List PV} (l : LeF w w') (h : Itm K w J xs) : Itm K w' J xs :=
  ⟨fun i w1 H st l1 => h.go i w1 H st (l.trans l1), fun i w1 H st x H' l1 => h.yld i w1 H st x H' (l.trans l1), fun w1 H st l1 => h.stop w1 H st (l.trans l1)⟩
def tI (K : PySem.W.Frag) (W : WX) (g : GL) : TI := fun σ H R => ∃ w ρ st, WOk K w H st ∧ Slots K w ρ σ ∧ Post K W (fun w xs J => Itm K w J xs) w σ (g ρ st) R
theorem pi_imp {X : Cx} {tg e : Expr} {t t' : TI} (h : PI X tg e t) (i : ∀ σ H Q, t' σ H Q → t σ H Q) : PI X tg e t' := ⟨fun pins s σ H Q I q => h.run pins s σ H Q I (i σ H Q q)⟩

theorem itm_list {K : PySem.W.Frag} {w : Wd} {a : Addr} {vs : List V} {xs : List PV} (h : SqL K w.F a vs) (r : RepL K w xs vs) : Itm K w (Itl K a) xs := by
  have len := r.length
  have sq : ∀ {w1 : Wd} {H : Hp} {st : List SO}, LeF w w1 → WOk K w1 H st → SqL K H a vs := fun l ok => sql_mono ok.fz (sql_mono l.F h)
  refine ⟨fun i w1 H st l ok hi => ⟨vs, vs[i]'(by omega), sq l ok, by simp⟩, fun i w1 H st x H' l ok hi y => ?_, fun w1 H st l ok => ⟨vs, sq l ok, by omega⟩⟩
  obtain ⟨e, y⟩ := y
  subst e
  have hx := y vs (sq l ok)
  obtain ⟨v, hv, rv⟩ := (r.monoF l).get (i := i) (x := xs[i]) (by simp)
  rw [hx] at hv
  cases hv
  exact ⟨w1, xs[i], Le.refl _, ok, by simp, rv⟩
theorem itm_tup {K : PySem.W.Frag} {w : Wd} {a : Addr} {vs : List V} {xs : List PV} (h : SqT K w.F a vs) (r : RepL K w xs vs) : Itm K w (Itt K a) xs := by
  have len := r.length
  have sq : ∀ {w1 : Wd} {H : Hp} {st : List SO}, LeF w w1 → WOk K w1 H st → SqT K H a vs := fun l ok => sqt_mono ok.fz (sqt_mono l.F h)
  refine ⟨fun i w1 H st l ok hi => ⟨vs, vs[i]'(by omega), sq l ok, by simp⟩, fun i w1 H st x H' l ok hi y => ?_, fun w1 H st l ok => ⟨vs, sq l ok, by omega⟩⟩
  obtain ⟨e, y⟩ := y
  subst e
  have hx := y vs (sq l ok)
  obtain ⟨v, hv, rv⟩ := (r.monoF l).get (i := i) (x := xs[i]) (by simp)
  rw [hx] at hv
  cases hv
  exact ⟨w1, xs[i], Le.refl _, ok, by simp, rv⟩
/-- the ints lo, lo + 1, .. -/
def rng (lo : Int) (n : Nat) : List PV := (List.range n).map fun i => .int (lo + (i : Nat))
theorem rng_len (lo : Int) (n : Nat) : (rng lo n).length = n := by simp [rng]
theorem itm_rng {K : PySem.W.Frag} {w : Wd} {lo : Int} {n : Nat} : Itm K w (Itr lo n) (rng lo n) := by
  refine ⟨fun i w1 H st l ok hi => by rw [rng_len] at hi; exact hi, fun i w1 H st x H' l ok hi y => ?_, fun w1 H st l ok => by rw [rng_len]; exact Nat.le_refl n⟩
  obtain ⟨e, y⟩ := y
  subst e
  rw [rng_len] at hi
  exact ⟨w1, .int (lo + i), Le.refl _, ok, by simp [rng, hi], y⟩

/-- the items of a list or tuple that stands -/
def seqOf : PV → Option (List PV)
  | .lst xs => some xs
  | .tup xs => some xs
  | _ => none
def gItL (g : G) : GL := fun ρ st => bnd (g ρ st) fun v st => match v with
  | .lst xs => .ok xs st
  | _ => .bad
def gItT (g : G) : GL := fun ρ st => bnd (g ρ st) fun v st => match v with
  | .tup xs => .ok xs st
  | _ => .bad
/-- bounds that a range takes -/
def RngOk (j : Int) : Prop := -(2 ^ 62) ≤ j ∧ j < 2 ^ 62
def LenOk (n : Nat) : Prop := n < sizeLine
open Classical in
noncomputable def gRng1 (g : G) : GL := fun ρ st => bnd (g ρ st) fun v st => match v with
  | .int j => if RngOk j then .ok (rng 0 j.toNat) st else .bad
  | _ => .bad
open Classical in
noncomputable def gRng2 (g h : G) : GL := fun ρ st => bnd (gArgs [g, h] ρ st) fun v st => match v with
  | [.int i, .int j] => if RngOk i ∧ RngOk j then .ok (rng i (j - i).toNat) st else .bad
  | _ => .bad
/-- run over items -/
def forg (t : PV → REnv → Option REnv) (b : GS) : List PV → GS
  | [] => fun ρ st => .nx ρ st
  | x :: xs => fun ρ st => match t x ρ with
    | some ρ1 => (match b ρ1 st with
      | .nx ρ2 st2 => forg t b xs ρ2 st2
      | r => r)
    | none => .bad
def toSL (ρ : REnv) (r : Res (List PV)) (k : List PV → List SO → SRes) : SRes := match r with
  | .ok v st => k v st
  | .exc c st => .exc c ρ st
  | .bad => .bad
def gFor (it : GL) (t : PV → REnv → Option REnv) (b : GS) : GS := fun ρ st => toSL ρ (it ρ st) fun xs st => forg t b xs ρ st
/-- what a comprehension makes of the items -/
def compg (t : PV → REnv → Option REnv) (c : GT) (e : G) (ρ : REnv) : List PV → List SO → Res (List PV)
  | [], st => .ok [] st
  | x :: xs, st => match t x ρ with
    | some ρ1 => bnd (c ρ1 st) fun b st1 => if b = true then bnd (e ρ1 st1) fun y st2 => bnd (compg t c e ρ xs st2) fun ys st3 => .ok (y :: ys) st3 else compg t c e ρ xs st1
    | none => .bad
def gYes : GT := fun _ st => .ok true st
def wipeR (ρ : REnv) : List Nat → REnv
  | [] => ρ
  | v :: vs => (wipeR ρ vs).set v none
open Classical in
noncomputable def gComp (it : GL) (t : PV → REnv → Option REnv) (c : GT) (e : G) (vs : List Nat) : G := fun ρ st => bnd (it ρ st) fun xs st => match compg t c e (wipeR ρ vs) xs st with
  | .ok ys st' => if LenOk ys.length then .ok (.lst ys) st' else .bad
  | _ => .bad

section
variable {X : Cx} {W : WX} {pos : Pos} {a b e tg : Expr} {es : List Expr} {ga gb g : G} {gs : List G}
theorem si_list (h : PE X e (tG X.K W g)) : PI X tg e (tI X.K W (gItL g)) := by
  refine pi_imp (pi_list h) fun σ H R ⟨w, ρ, st, ok, sl, po⟩ => ⟨w, ρ, st, ok, sl, post_bind (rel2 := fun w xs J => Itm X.K w J xs) po fun v st' w' H' x l o r q => ?_⟩
  cases v with
  | lst xs =>
    obtain ⟨a, vs, ev, sq, rs⟩ := r
    exact ⟨a, ev, ⟨vs, sql_mono o.fz sq⟩, q w' H' _ (Le.refl _) o (itm_list sq rs)⟩
  | _ => exact q.elim
theorem si_tup (h : PE X e (tG X.K W g)) : PI X tg e (tI X.K W (gItT g)) := by
  refine pi_imp (pi_tup h) fun σ H R ⟨w, ρ, st, ok, sl, po⟩ => ⟨w, ρ, st, ok, sl, post_bind (rel2 := fun w xs J => Itm X.K w J xs) po fun v st' w' H' x l o r q => ?_⟩
  cases v with
  | tup xs =>
    obtain ⟨a, vs, ev, sq, rs⟩ := r
    exact ⟨a, ev, ⟨vs, sqt_mono o.fz sq⟩, q w' H' _ (Le.refl _) o (itm_tup sq rs)⟩
  | _ => exact q.elim
open Classical in
theorem si_rng1 {p : Pos} (hm : X.mg "range" = none) (ha : PE X a (tG X.K W ga)) (hg : Gl X "range" := by rfl) (hs : starEach [a] X.env = [(false, eval a X.env)] := by rfl) : PI X tg (.Call (.Name "range" p) [a] [] pos) (tI X.K W (gRng1 ga)) := by
  refine pi_imp (pi_range1 hg hm (pa_cons ha pa_nil hs) hs) fun σ H R ⟨w, ρ, st, ok, sl, po⟩ => ⟨w, ρ, st, ok, sl, post_bind (rel2 := fun w xs J => Itm X.K w J xs) po fun v st' w' H' x l o r q => ?_⟩
  cases v with
  | int j =>
    have ex : x = .int j := r
    subst ex
    have q : Post X.K W (fun w xs J => Itm X.K w J xs) w' σ (if RngOk j then .ok (rng 0 j.toNat) st' else .bad) R := q
    by_cases h1 : RngOk j
    · rw [if_pos h1] at q
      exact ⟨j, rfl, h1.1, h1.2, q w' H' _ (Le.refl _) o itm_rng⟩
    · rw [if_neg h1] at q; exact q.elim
  | _ => exact q.elim
open Classical in
theorem si_rng2 {p : Pos} (hm : X.mg "range" = none) (ha : PA X [a, b] (tGA X.K W (gArgs [ga, gb]))) (hg : Gl X "range" := by rfl) (hs : starEach [a, b] X.env = [(false, eval a X.env), (false, eval b X.env)] := by rfl) (hs2 : starEach [b] X.env = [(false, eval b X.env)] := by rfl) : PI X tg (.Call (.Name "range" p) [a, b] [] pos) (tI X.K W (gRng2 ga gb)) := by
  refine pi_imp (pi_range2 hg hm ha hs hs2) fun σ H R ⟨w, ρ, st, ok, sl, po⟩ => ⟨w, ρ, st, ok, sl, post_bind (rel2 := fun w xs J => Itm X.K w J xs) po fun v st' w' H' vs l o r q => ?_⟩
  have key : ∃ i j, v = [.int i, .int j] := by
    rcases v with _ | ⟨v1, _ | ⟨v2, _ | ⟨v3, v4⟩⟩⟩
    · exact q.elim
    · cases v1 <;> exact q.elim
    · cases v1 with
      | int i => cases v2 with
        | int j => exact ⟨i, j, rfl⟩
        | _ => exact q.elim
      | _ => exact q.elim
    · cases v1 with
      | int i => cases v2 <;> exact q.elim
      | _ => exact q.elim
  obtain ⟨i, j, rfl⟩ := key
  obtain ⟨v1, r1, e1, h1, v2, r2, e2, h2, e3⟩ := r
  have ex : vs = [.int i, .int j] := by
    rw [e1, e2, show r2 = [] from e3, show v1 = .int i from h1, show v2 = .int j from h2]
  have q : Post X.K W (fun w xs J => Itm X.K w J xs) w' σ (if RngOk i ∧ RngOk j then .ok (rng i (j - i).toNat) st' else .bad) R := q
  by_cases hc : RngOk i ∧ RngOk j
  · rw [if_pos hc] at q
    exact ⟨i, j, ex, ⟨hc.1.1, hc.1.2, hc.2.1, hc.2.2⟩, q w' H' _ (Le.refl _) o itm_rng⟩
  · rw [if_neg hc] at q; exact q.elim

theorem PostS.ends {w : Wd} {r : SRes} {D D' : Ends} (h : PostS X.K W w r D) (hn : ∀ σ H, D.nx σ H → D'.nx σ H) (hr : D'.rt = D.rt) : PostS X.K W w r D' := by
  cases r with
  | nx a st => exact fun w' H' x l o s => hn _ _ (h w' H' x l o s)
  | ret a st => exact fun w' H' x l o s => by rw [hr]; exact h w' H' x l o s
  | exc c ρ st => exact h
  | bad => exact h
theorem ss_for {iter : Expr} {body : List Stmt} {gi : GL} {t : PV → REnv → Option REnv} {sb : GS} {is : List Nat} (hp : PassesOwn (model X.prog X.w) X.A X.env X.xe) (hc : X.calm = true) (hi : PI X tg iter (tI X.K W gi)) (hg : PG X tg (tTg X.K is t)) (hb : PSs X body (tS X.K W sb))
    (hs : ∀ x, foldedSetIterable iter X.env x = pure x := by intro _; rfl) : PS X (.For tg iter body [] pos) (tS X.K W (gFor gi t sb)) := by
  refine ps_imp (ps_for hp hc hi hg hb hs) fun D σ H ⟨w, ρ, st, ok, sl, po⟩ => ⟨w, ρ, st, ok, sl, ?_⟩
  have po : PostS X.K W w (toSL ρ (gi ρ st) fun xs st => forg t sb xs ρ st) D := po
  cases e : gi ρ st with
  | exc c st1 => rw [e] at po; exact fun w' H' l o => po w' σ H' l o (sl.mono l)
  | bad => rw [e] at po; exact po.elim
  | ok xs st1 =>
    rw [e] at po
    intro w1 H1 J l1 ok1 it
    have po1 : PostS X.K W w1 (forg t sb xs ρ st1) D := PostS.mono l1 po
    refine ⟨fun i m σ H => ∃ w2 ρ st, m = xs.length - i ∧ i ≤ xs.length ∧ Le w1 w2 ∧ WOk X.K w2 H st ∧ Slots X.K w2 ρ σ ∧ PostS X.K W w2 (forg t sb (xs.drop i) ρ st) D, ⟨_, w1, ρ, st1, rfl, Nat.zero_le _, Le.refl _, ok1, sl.mono l1, by simpa using po1⟩, ?_⟩
    rintro i m σ2 H2 ⟨w2, ρ2, st2, rfl, hi2, l2, ok2, sl2, po2⟩
    by_cases hlt : i < xs.length
    · right
      refine ⟨it.go i w2 H2 st2 l2.toLeF ok2 hlt, fun σ H => ∃ w2 ρ st, Le w1 w2 ∧ WOk X.K w2 H st ∧ Slots X.K w2 ρ σ ∧ PostS X.K W w2 (forg t sb (xs.drop (i + 1)) ρ st) D, ?_, ?_⟩
      · rintro σ' H' ⟨w3, ρ3, st3, l3, ok3, sl3, po3⟩
        exact ⟨xs.length - (i + 1), by omega, w3, ρ3, st3, rfl, hlt, l3, ok3, sl3, po3⟩
      · intro x H' y
        obtain ⟨w3, pv, l3, ok3, hx, rx⟩ := it.yld i w2 H2 st2 x H' l2.toLeF ok2 hlt y
        rw [List.drop_eq_getElem_cons hlt] at po2
        have epv : xs[i] = pv := by rw [List.getElem?_eq_getElem hlt] at hx; exact Option.some.inj hx
        rw [epv] at po2
        have po2 : PostS X.K W w2 (match t pv ρ2 with | some ρ1 => (match sb ρ1 st2 with | .nx ρ2 st2 => forg t sb (xs.drop (i + 1)) ρ2 st2 | r => r) | none => .bad) D := po2
        cases e1 : t pv ρ2 with
        | none => rw [e1] at po2; exact po2.elim
        | some ρ3 =>
          rw [e1] at po2
          refine ⟨w3, ρ2, st2, pv, ρ3, ok3, sl2.mono l3, rx, e1, fun w4 σ4 H4 l4 ok4 sl4 _ => ⟨w4, ρ3, st2, ok4, sl4, ?_⟩⟩
          have l24 := l3.trans l4
          have po2 : PostS X.K W w2 (match sb ρ3 st2 with | .nx ρ2 st2 => forg t sb (xs.drop (i + 1)) ρ2 st2 | r => r) D := po2
          cases e2 : sb ρ3 st2 with
          | nx ρ5 st5 => rw [e2] at po2; exact fun w5 σ5 H5 l5 ok5 sl5 => ⟨w5, ρ5, st5, (l2.trans l24).trans l5, ok5, sl5, PostS.mono (l24.trans l5) po2⟩
          | ret v st5 => rw [e2] at po2; exact PostS.mono l24 po2
          | exc c ρ5 st5 => rw [e2] at po2; exact PostS.mono l24 po2
          | bad => rw [e2] at po2; exact po2.elim
    · left
      have hi3 : i = xs.length := by omega
      subst hi3
      refine ⟨it.stop w2 H2 st2 l2.toLeF ok2, ?_⟩
      rw [List.drop_length] at po2
      exact po2 w2 σ2 H2 (Le.refl _) ok2 sl2
end
end Z
/-! Comprehensions, methods, stores, raising, defs. -/
namespace Z
open PySem PySem.Spec PyProof.Rows L2
abbrev W0 : WX := fun _ _ _ _ => False
theorem Slots.wipe {K : PySem.W.Frag} {w : Wd} {ρ : REnv} {σ : L2.St} (h : Slots K w ρ σ) : ∀ vs : List Nat, Slots K w (wipeR ρ vs) (L2.wipe σ vs)
  | [] => h
  | v :: vs => by
    have ih := Slots.wipe h vs
    refine ⟨by show ((wipeR ρ vs).set v none).length = ((L2.wipe σ vs).set v none).length; rw [List.length_set, List.length_set, ih.len], fun i x e => ?_⟩
    have e' : ((wipeR ρ vs).set v none)[i]? = some (some x) := e
    show ∃ u, ((L2.wipe σ vs).set v none)[i]? = some (some u) ∧ _
    by_cases hv : v = i
    · subst hv
      by_cases hl : v < (wipeR ρ vs).length
      · rw [List.getElem?_set_self hl] at e'; cases e'
      · rw [List.getElem?_eq_none (by simpa using hl)] at e'; cases e'
    · rw [List.getElem?_set_ne hv] at e' ⊢
      exact ih.get i x e'
theorem compg_cons {t : PV → REnv → Option REnv} {c : GT} {e : G} {ρ : REnv} {x : PV} {xs ys : List PV} {st st' : List SO} (h : compg t c e ρ (x :: xs) st = .ok ys st') :
    ∃ ρ1 b st1, t x ρ = some ρ1 ∧ c ρ1 st = .ok b st1 ∧ ((b = true ∧ ∃ y st2 zs, e ρ1 st1 = .ok y st2 ∧ compg t c e ρ xs st2 = .ok zs st' ∧ ys = y :: zs) ∨ (b = false ∧ compg t c e ρ xs st1 = .ok ys st')) := by
  have h : (match t x ρ with
    | some ρ1 => bnd (c ρ1 st) fun b st1 => if b = true then bnd (e ρ1 st1) fun y st2 => bnd (compg t c e ρ xs st2) fun ys st3 => .ok (y :: ys) st3 else compg t c e ρ xs st1
    | none => .bad) = .ok ys st' := h
  cases e1 : t x ρ with
  | none => rw [e1] at h; cases h
  | some ρ1 =>
    rw [e1] at h
    have h : bnd (c ρ1 st) (fun b st1 => if b = true then bnd (e ρ1 st1) fun y st2 => bnd (compg t c e ρ xs st2) fun ys st3 => .ok (y :: ys) st3 else compg t c e ρ xs st1) = .ok ys st' := h
    cases e2 : c ρ1 st with
    | exc _ _ => rw [e2] at h; cases h
    | bad => rw [e2] at h; cases h
    | ok b st1 =>
      rw [e2] at h
      refine ⟨ρ1, b, st1, rfl, e2, ?_⟩
      cases b with
      | false => exact .inr ⟨rfl, h⟩
      | true =>
        have h : bnd (e ρ1 st1) (fun y st2 => bnd (compg t c e ρ xs st2) fun ys st3 => .ok (y :: ys) st3) = .ok ys st' := h
        cases e3 : e ρ1 st1 with
        | exc _ _ => rw [e3] at h; cases h
        | bad => rw [e3] at h; cases h
        | ok y st2 =>
          rw [e3] at h
          have h : bnd (compg t c e ρ xs st2) (fun ys st3 => .ok (y :: ys) st3) = .ok ys st' := h
          cases e4 : compg t c e ρ xs st2 with
          | exc _ _ => rw [e4] at h; cases h
          | bad => rw [e4] at h; cases h
          | ok zs st3 => rw [e4] at h; cases h; exact .inl ⟨rfl, y, st2, zs, by first | exact e3 | rfl, by first | exact e4 | rfl, rfl⟩

/-- in the midst of a comprehension: the list at D so far, what is still to come -/
structure Mid (K : PySem.W.Frag) (w1 : Wd) (t : PV → REnv → Option REnv) (c : GT) (e : G) (ρ : REnv) (D : Addr) (xs fin : List PV) (stf : List SO) (H : Hp) : Prop where
  ex : ∃ w2 st2 vs ys zs, Le w1 w2 ∧ WOk K w2 H st2 ∧ Free w2 D ∧ H D = some (.lst vs) ∧ RepL K w2 ys vs ∧ compg t c e ρ xs st2 = .ok zs stf ∧ fin = ys ++ zs

section
variable {X : Cx} {W : WX} {pos : Pos} {a b e tg : Expr} {es : List Expr} {ga gb g : G} {gs : List G}
open Classical in
theorem tLc_of {K : PySem.W.Frag} {gi : GL} {t : PV → REnv → Option REnv} {gc : GT} {ge : G} {vs : List Nat} {σ : L2.St} {H : Hp} {Q : VK} (h : tG K W (gComp gi t gc ge vs) σ H Q) :
    tLc (tI K W gi) (tTg K vs t) (tGT K W0 gc) (tG K W0 ge) vs σ H Q := by
  obtain ⟨w, ρ, st, ok, sl, po⟩ := h
  refine ⟨w, ρ, st, ok, sl, post_bind (rel2 := Rep K) po fun xs st1 w1 H1 J l1 ok1 it po1 => ?_⟩
  have po1 : Post K W (Rep K) w1 σ (match compg t gc ge (wipeR ρ vs) xs st1 with | .ok ys st' => if LenOk ys.length then .ok (.lst ys) st' else .bad | _ => .bad) Q := po1
  cases e1 : compg t gc ge (wipeR ρ vs) xs st1 with
  | exc _ _ => rw [e1] at po1; exact po1.elim
  | bad => rw [e1] at po1; exact po1.elim
  | ok fin stf =>
    rw [e1] at po1
    by_cases hz : LenOk fin.length
    · have po1 : Post K W (Rep K) w1 σ (if LenOk fin.length then .ok (.lst fin) stf else .bad) Q := po1
      rw [if_pos hz] at po1
      intro D hD
      refine ⟨fun i m H => m = xs.length - i ∧ i ≤ xs.length ∧ Mid K w1 t gc ge (wipeR ρ vs) D (xs.drop i) fin stf H, ⟨_, rfl, Nat.zero_le _, ⟨w1, st1, [], [], fin, Le.refl _, ok1.updF (ok1.free hD) _, ok1.free hD, upd_same, rfl, by simpa using e1, rfl⟩⟩, ?_⟩
      rintro i m H2 ⟨rfl, hi, ⟨w2, st2, acc, ys, zs, l2, ok2, fr2, hD2, rs2, cm2, ef⟩⟩
      by_cases hlt : i < xs.length
      · right
        have okh := ok2.hold fr2 hD2
        have lh : LeF w1 (w2.hold D (.lst acc)) := l2.toLeF.trans ⟨fun _ _ z => z, [], by simp [Wd.hold]⟩
        refine ⟨it.go i _ H2 st2 lh okh hlt, fun H => Mid K w1 t gc ge (wipeR ρ vs) D (xs.drop (i + 1)) fin stf H, fun H' h' => ⟨xs.length - (i + 1), by omega, rfl, hlt, h'⟩, ?_⟩
        intro x H3 y
        obtain ⟨w3, pv, l3, ok3, hx, rx⟩ := it.yld i _ H2 st2 x H3 lh okh hlt y
        have epv : xs[i] = pv := by rw [List.getElem?_eq_getElem hlt] at hx; exact Option.some.inj hx
        rw [List.drop_eq_getElem_cons hlt, epv] at cm2
        obtain ⟨ρ1, bb, st3, et, ec, rest⟩ := compg_cons cm2
        have slw : Slots K w3 (wipeR ρ vs) (L2.wipe σ vs) := by
          have s0 : Slots K w1 (wipeR ρ vs) (L2.wipe σ vs) := (sl.mono l1).wipe vs
          have lf : LeF w1 w3 := lh.trans l3.toLeF
          exact ⟨s0.len, fun i x e => let ⟨v, e2, r⟩ := s0.get i x e; ⟨v, e2, r.monoF lf⟩⟩
        refine ⟨w3, wipeR ρ vs, st2, pv, ρ1, ok3, slw, rx, et, fun w4 σ4 H4 l4 ok4 sl4 hw4 => ⟨?_, ?_⟩⟩
        · have ww : ∀ σ : L2.St, ∀ us : List Nat, L2.wipe (L2.wipe σ us) us = L2.wipe σ us := fun σ us => by
            have : ∀ vs : List Nat, (∀ i ∈ vs, i ∈ us) → L2.wipe (L2.wipe σ vs) us = L2.wipe σ us := fun vs => by
              induction vs with
              | nil => intro _; rfl
              | cons v vs ih =>
                intro h
                show L2.wipe ((L2.wipe σ vs).set v none) us = _
                rw [wipe_set (h v List.mem_cons_self), ih fun i hi => h i (List.mem_cons_of_mem _ hi)]
            exact this us fun i hi => hi
          rw [hw4, ww]
        · refine ⟨w4, ρ1, st2, ok4, sl4, ?_⟩
          rw [ec]
          intro w5 H5 b5 l5 ok5 eb
          subst eb
          rcases rest with ⟨rfl, yv, st4, zs', ee, ecm, ez⟩ | ⟨rfl, ecm⟩
          · rw [if_pos rfl]
            refine ⟨w5, ρ1, st3, ok5, sl4.mono l5, ?_⟩
            rw [ee]
            intro w6 H6 vy l6 ok6 ry
            have l26 : Le (w2.hold D (.lst acc)) w6 := ((l3.trans l4).trans l5).trans l6
            obtain ⟨okU, leU, hDU, frU⟩ := ok6.unhold fr2 l26
            have rsU : RepL K { w6 with R := w2.R } ys acc := rs2.mono leU
            have ryU : Rep K { w6 with R := w2.R } yv vy := Rep.mono' (w := w6) (w' := { w6 with R := w2.R }) (fun _ _ z => z) (fun _ _ z => z) yv vy ry
            have len : acc.length < sizeLine := by
              have hz : fin.length < sizeLine := hz
              rw [ef, ez] at hz
              rw [rs2.length]
              simp at hz
              omega
            refine ⟨acc, hDU, len, ⟨{ w6 with R := w2.R }, st4, acc ++ [vy], ys ++ [yv], zs', l2.trans leU, okU.updF frU _, frU, upd_same, rsU.append (RepL.one ryU), ecm, by rw [ef, ez]; simp⟩⟩
          · rw [if_neg Bool.false_ne_true]
            have l26 : Le (w2.hold D (.lst acc)) w5 := (l3.trans l4).trans l5
            obtain ⟨okU, leU, hDU, frU⟩ := ok5.unhold fr2 l26
            exact ⟨_, st3, acc, ys, zs, l2.trans leU, okU, frU, hDU, rs2.mono leU, ecm, ef⟩
      · left
        have hi3 : i = xs.length := by omega
        subst hi3
        refine ⟨it.stop w2 H2 st2 l2.toLeF ok2, ?_⟩
        rw [List.drop_length] at cm2
        cases cm2
        rw [List.append_nil] at ef
        subst ef
        refine po1 (w2.frz D (.lst acc)) H2 (.ref D) (l2.trans (le_frz' fr2 _)) (ok2.frz' fr2 hD2) ⟨D, acc, rfl, .inl (.inl upd_same), rs2.mono (le_frz' fr2 _)⟩
    · have po1 : Post K W (Rep K) w1 σ (if LenOk fin.length then .ok (.lst fin) stf else .bad) Q := po1
      rw [if_neg hz] at po1; exact po1.elim
theorem se_comp {iter elt : Expr} {ifs : List Expr} {scope : Scope} {gi : GL} {t : PV → REnv → Option REnv} {gc : GT} {ge : G} (own : List (Str × Nat)) (hc : X.calm = true) (hN : X.N.Nodup) (hi : PI X tg iter (tI X.K W gi)) (ok : BlkOk X.N X.env.scope scope own)
    (hg : ∀ (s : Shared) (H : Hp) (C : Addr) (cl : List (Str × Addr)) (fp : List Addr), PG (X.blk s H scope (compEnvC scope cl C X.env) fp) tg (tTg X.K (own.map (·.2)) t))
    (ht : ∀ (s : Shared) (H : Hp) (C : Addr) (cl : List (Str × Addr)) (fp : List Addr), PTs (X.blk s H scope (compEnvC scope cl C X.env) fp) ifs (tGT X.K W0 gc))
    (he : ∀ (s : Shared) (H : Hp) (C : Addr) (cl : List (Str × Addr)) (fp : List Addr), PE (X.blk s H scope (compEnvC scope cl C X.env) fp) elt (tG X.K W0 ge)) (hs : ∀ x, foldedSetIterable iter X.env x = pure x := by intro _; rfl) :
    PE X (.ListComp elt [⟨tg, iter, ifs, 0⟩] scope pos) (tG X.K W (gComp gi t gc ge (own.map (·.2)))) :=
  pe_imp (pe_lc hc hN hi ok hg ht he hs) fun _ _ _ h => tLc_of h
theorem ss_setC {i : Nat} {y : Str} {py spos : Pos} {iter elt : Expr} {ifs : List Expr} {scope : Scope} {gi : GL} {t : PV → REnv → Option REnv} {gc : GT} {ge : G} (own : List (Str × Nat)) (hc : X.calm = true) (hN : X.N.Nodup) (hy : X.N[i]? = some y) (hyl : X.env.scope.names.lookup y = some .local)
    (hsw : swapsWith (.ListComp elt [⟨tg, iter, ifs, 0⟩] scope pos) (some (.Name y py)) spos.line X.env = pure true) (hi : PI X tg iter (tI X.K W gi)) (ok : BlkOk X.N X.env.scope scope own)
    (hg : ∀ (s : Shared) (H : Hp) (C : Addr) (cl : List (Str × Addr)) (fp : List Addr), PG (X.blk s H scope (compEnvC scope cl C X.env) fp) tg (tTg X.K (own.map (·.2)) t))
    (ht : ∀ (s : Shared) (H : Hp) (C : Addr) (cl : List (Str × Addr)) (fp : List Addr), PTs (X.blk s H scope (compEnvC scope cl C X.env) fp) ifs (tGT X.K W0 gc))
    (he : ∀ (s : Shared) (H : Hp) (C : Addr) (cl : List (Str × Addr)) (fp : List Addr), PE (X.blk s H scope (compEnvC scope cl C X.env) fp) elt (tG X.K W0 ge)) (hs : ∀ x, foldedSetIterable iter X.env x = pure x := by intro _; rfl) :
    PS X (.Assign [.Name y py] (.ListComp elt [⟨tg, iter, ifs, 0⟩] scope pos) spos) (tS X.K W (gSet i (gComp gi t gc ge (own.map (·.2))))) := by
  refine ps_imp (ps_setLc hc hN hy hyl hsw hi ok hg ht he hs) fun D σ H ⟨w, ρ, st, ok, sl, po⟩ => ?_
  show tLc _ _ _ _ _ σ H fun x H1 => gName i x σ H1 D.nx
  refine tLc_of ⟨w, ρ, st, ok, sl, post_toS sl po fun v st' w' H' y l o r q => ?_⟩
  exact q w' _ H' (Le.refl _) o ((sl.mono l).set r)
theorem tt_nil : PTs X [] (tGT X.K W gYes) := ⟨fun pins s σ H Q I ⟨w, ρ, st, ok, sl, po⟩ => pts_nil.run pins s σ H Q I (po w H true (Le.refl _) ok rfl)⟩
theorem tt_one {c : Expr} {gc : GT} (h : PT X c (tGT X.K W gc)) : PTs X [c] (tGT X.K W gc) := pts_one h

/-! ### methods of built-in types -/
abbrev FM := List SO → PV → List PV → Res PV
def SndM (K : PySem.W.Frag) (f : FM) (r : V → List V → Hp → VK → Prop) : Prop :=
  ∀ (w : Wd) (H : Hp) (st st' : List SO) (x z : PV) (xs : List PV) (vx : V) (vs : List V) (Q : VK), WOk K w H st → Rep K w x vx → RepL K w xs vs → f st x xs = .ok z st' →
    (∀ w' H' vz, Le w w' → WOk K w' H' st' → Rep K w' z vz → Q vz H') → r vx vs H Q
def NoExc (f : FM) : Prop := ∀ st x xs c st', f st x xs ≠ .exc c st'
def isT (T : String) (st : List SO) : PV → Bool
  | .str _ => T == "str"
  | .int _ => T == "int"
  | .lst _ => T == "list"
  | .dct _ => T == "dict"
  | .ref k => match st[k]? with
    | some (.lst _) => T == "list"
    | some (.dK _) => T == "dict"
    | none => false
  | _ => false
theorem isT_tyV {K : PySem.W.Frag} {T : String} {st : List SO} {w : Wd} {H : Hp} {x : PV} {vx : V} (ok : WOk K w H st) (r : Rep K w x vx) (h : isT T st x = true) : tyV K T vx H := by
  cases x with
  | str s => rw [show vx = .str s from r]; exact beq_iff_eq.mp h
  | int s => rw [show vx = .int s from r]; exact beq_iff_eq.mp h
  | lst xs => obtain ⟨a, vs, e, q, _⟩ := r; rw [e]; exact .inl ⟨beq_iff_eq.mp h, vs, sql_mono ok.fz q⟩
  | dct xs => obtain ⟨a, vs, e, q, _⟩ := r; rw [e]; exact .inr (.inr (.inl ⟨beq_iff_eq.mp h, .inl ⟨vs, ok.fz _ _ q⟩⟩))
  | ref k =>
    obtain ⟨a, e, q⟩ := r
    obtain ⟨c, o, h1, h2, h3⟩ := ok.obj q
    have h : (match st[k]? with | some (.lst _) => T == "list" | some (.dK _) => T == "dict" | none => false) = true := h
    rw [h1] at h
    rw [e]
    cases c with
    | lst xs => obtain ⟨vs, e2, _⟩ := h3; rw [e2] at h2; exact .inl ⟨beq_iff_eq.mp h, vs, .inl (.inl h2)⟩
    | dK xs => obtain ⟨vs, e2, _⟩ := h3; rw [e2] at h2; exact .inr (.inr (.inl ⟨beq_iff_eq.mp h, .inl ⟨vs, h2⟩⟩))
  | _ => cases h
def gMeth (T : String) (f : FM) (go : G) (gs : List G) : G := fun ρ st => bnd (go ρ st) fun x st1 => if isT T st1 x = true then bnd (gArgs gs ρ st1) fun xs st2 => f st2 x xs else .bad
variable {o : Expr} {go : G} {name : Str} {apos cpos : Pos} {T id : String} {r : V → List V → Hp → VK → Prop} {f : FM}
theorem se_m (pa : PlainAttrs T) (slot : Slot T name id) (hty : typeOf (.builtin id) = pure (.type "method_descriptor")) (hm : MtR X id r) (hs : SndM X.K f r) (hne : NoExc f) (ho : PE X o (tG X.K W go)) (ha : PA X (e :: es) (tGA X.K W (gArgs gs)))
    (hbase : attributeBase o name X.env (eval o X.env) = eval o X.env := by rfl)
    (hfew : ((backTo cpos (starEach (e :: es) X.env)).all (fun x => !x.1) && (backToKw cpos (keywordEach [] X.env)).all (fun x => x.1.isSome)
      && decide ((e :: es).length + ([] : List Keyword).length + (if ([] : List Keyword).isEmpty then 0 else 1) < 30)) = true := by rfl)
    (hline : (apos.endLine == cpos.line) = true := by rfl) (hst : starEach (e :: es) X.env = (false, eval e X.env) :: starEach es X.env := by rfl) (hplain : (backTo cpos (starEach es X.env)).any (·.1) = false := by rfl) :
    PE X (.Call (.Attribute o name apos) (e :: es) [] cpos) (tG X.K W (gMeth T f go gs)) := by
  refine pe_imp (pe_bm pa slot hty hm ho ha hbase hfew hline hst hplain) fun σ H Q ⟨w, ρ, st, ok, sl, po⟩ => ?_
  refine ⟨w, ρ, st, ok, sl, post_bind (rel2 := Rep X.K) po fun x st1 w1 H1 vx l1 ok1 rx po1 => ?_⟩
  have po1 : Post X.K W (Rep X.K) w1 σ (if isT T st1 x = true then bnd (gArgs gs ρ st1) fun xs st2 => f st2 x xs else .bad) Q := po1
  by_cases ht : isT T st1 x = true
  · rw [if_pos ht] at po1
    refine ⟨isT_tyV ok1 rx ht, w1, ρ, st1, ok1, sl.mono l1, post_bind (rel2 := Rep X.K) po1 fun xs st2 w2 H2 vs l2 ok2 rs po2 => ?_⟩
    cases e1 : f st2 x xs with
    | ok z st3 => rw [e1] at po2; exact hs w2 H2 st2 st3 x z xs vx vs Q ok2 (rx.mono l2) rs e1 po2
    | exc c st3 => exact (hne _ _ _ _ _ e1).elim
    | bad => rw [e1] at po2; exact po2.elim
  · rw [if_neg ht] at po1; exact po1.elim
theorem se_m0 (pa : PlainAttrs T) (slot : Slot T name id) (hty : typeOf (.builtin id) = pure (.type "method_descriptor")) (hm : MtR X id r) (hs : SndM X.K f r) (hne : NoExc f) (ho : PE X o (tG X.K W go))
    (hbase : attributeBase o name X.env (eval o X.env) = eval o X.env := by rfl) (hline : (apos.endLine == cpos.line) = true := by rfl) : PE X (.Call (.Attribute o name apos) [] [] cpos) (tG X.K W (gMeth T f go [])) := by
  refine pe_imp (pe_bm0 pa slot hty hm ho hbase hline) fun σ H Q ⟨w, ρ, st, ok, sl, po⟩ => ?_
  refine ⟨w, ρ, st, ok, sl, post_bind (rel2 := Rep X.K) po fun x st1 w1 H1 vx l1 ok1 rx po1 => ?_⟩
  have po1 : Post X.K W (Rep X.K) w1 σ (if isT T st1 x = true then f st1 x [] else .bad) Q := po1
  by_cases ht : isT T st1 x = true
  · rw [if_pos ht] at po1
    refine ⟨isT_tyV ok1 rx ht, ?_⟩
    cases e1 : f st1 x [] with
    | ok z st3 => rw [e1] at po1; exact hs w1 H1 st1 st3 x z [] vx [] Q ok1 rx rfl e1 po1
    | exc c st3 => exact (hne _ _ _ _ _ e1).elim
    | bad => rw [e1] at po1; exact po1.elim
  · rw [if_neg ht] at po1; exact po1.elim

/-! ### stores -/
/-- o[i] = v -/
def SndSet (K : PySem.W.Frag) (f : List SO → PV → PV → PV → Option (List SO)) (t : TSet) : Prop :=
  ∀ (w : Wd) (H : Hp) (st st' : List SO) (o i v : PV) (vo vi vv : V) (Q : Hp → Prop), WOk K w H st → Rep K w o vo → Rep K w i vi → Rep K w v vv → f st o i v = some st' →
    (∀ w' H', Le w w' → WOk K w' H' st' → Q H') → t vo vi vv H Q
def gStore (f : List SO → PV → PV → PV → Option (List SO)) (ge go gi : G) : GS := fun ρ st => toS ρ (ge ρ st) fun v st1 => toS ρ (go ρ st1) fun o st2 => toS ρ (gi ρ st2) fun i st3 => match f st3 o i v with
  | some st4 => .nx ρ st4
  | none => .bad
theorem ss_store {i : Expr} {f : List SO → PV → PV → PV → Option (List SO)} {t : TSet} {gi : G} {tpos : Pos} (hset : PSet X t) (hs : SndSet X.K f t) (he : PE X e (tG X.K W g)) (ho : PE X o (tG X.K W go)) (hi : PE X i (tG X.K W gi))
    (ha : ∀ v, assign (.Subscript o i tpos) X.env v = (do
      let ov ← holding [v] (eval o X.env)
      let iv ← holding [v, ov] (eval i X.env)
      standAt tpos
      holding [v, ov, iv] (setItem ov iv v)
      release [v, ov, iv] []) := by intro _; rfl) (hsw : swapsWithSole [.Subscript o i tpos] e pos.line X.env = pure false := by rfl) (hw : swappedStores [.Subscript o i tpos] e X.env = pure none := by rfl)
    (h1 : (assignEach [.Subscript o i tpos] X.env).map (·.2) = [assign (.Subscript o i tpos) X.env] := by rfl) : PS X (.Assign [.Subscript o i tpos] e pos) (tS X.K W (gStore f g go gi)) := by
  refine ps_imp (ps_asg he (pg_sub ho hi hset ha) hsw hw h1) fun D σ H ⟨w, ρ, st, ok, sl, po⟩ => ⟨w, ρ, st, ok, sl, post_toS sl po fun v st1 w1 H1 vv l1 ok1 rv po1 => ?_⟩
  refine ⟨w1, ρ, st1, ok1, sl.mono l1, post_toS (sl.mono l1) po1 fun ov st2 w2 H2 vo l2 ok2 ro po2 => ?_⟩
  have sl2 := (sl.mono l1).mono l2
  refine ⟨w2, ρ, st2, ok2, sl2, post_toS sl2 po2 fun iv st3 w3 H3 vi l3 ok3 ri po3 => ?_⟩
  cases e1 : f st3 ov iv v with
  | none => rw [e1] at po3; exact po3.elim
  | some st4 =>
    rw [e1] at po3
    exact hs w3 H3 st3 st4 ov iv v vo vi vv _ ok3 (ro.mono l3) ri ((rv.mono l2).mono l3) e1 fun w4 H4 l4 ok4 => po3 w4 σ H4 l4 ok4 ((sl2.mono l3).mono l4)

/-! ### raising -/
theorem ss_raise {x m : Str} {j : Nat} {p p2 : Pos} (hc : X.calm = true) (tk : L2N.Takes X W) (q : PySem.W.excIn X.K (He.ga X.K x) He.veBase "ValueError.__new__" = true) (gC : X.mg x = some (.ref (He.ga X.K x))) (kC : PySem.W.keepIn X.K (.ref (He.ga X.K x)) = true)
    (s1 : PySem.W.subIn X.K (.ref (He.ga X.K x)) (.type "BaseException") = some true) (s2 : PySem.W.typeIn X.K (.ref (He.ga X.K x)) = some (.type "type")) (hg : Gl X x := by rfl) (hdb : (x == ("__debug__" : Str)) = false := by decide) :
    PS X (.Raise (some (.Call (.Name x p) [.Constant (.str m) j p2] [] cpos)) none pos) (tS X.K W (gRaise x)) := by
  refine ps_imp (L2N.ps_raise hc tk (L2N.pmk_own PySem.F.excBase_ValueError q gC kC (raises_own s1 s2) hg hdb)) fun D σ H ⟨w, ρ, st, ok, sl, po⟩ => ?_
  exact po w σ H (Le.refl _) ok sl
end

/-! ### a def by its body -/
/-- what is left behind a call: as much as was there -/
def keepR (n : Nat) (r : SRes) : Res PV := match r with
  | .nx _ st => if st.length = n then .ok .non st else .bad
  | .ret v st => if st.length = n then .ok v st else .bad
  | .exc c _ st => if st.length = n then .exc c st else .bad
  | .bad => .bad
/-- all that was made goes on -/
def allR (r : SRes) : Res PV := match r with
  | .nx _ st => .ok .non st
  | .ret v st => .ok v st
  | .exc c _ st => .exc c st
  | .bad => .bad
def begin (N n : Nat) (xs : List PV) : REnv := xs.map some ++ List.replicate (N - n) none
section
variable {P : Program} {w : World} {K : PySem.W.Frag} {mg : Str → Option Value} {base : Heap}
theorem slots_start {K : PySem.W.Frag} {wd : Wd} {N : List Str} {xs : List PV} {vs : List V} {n : Nat} (r : RepL K wd xs vs) (hn : xs.length = n) : Slots K wd (begin N.length n xs) (L2.start N vs) := by
  have hl := r.length
  refine ⟨by unfold begin L2.start; simp only [List.length_append, List.length_map, List.length_replicate]; omega, fun i x e => ?_⟩
  unfold begin at e
  by_cases hi : i < xs.length
  · rw [List.getElem?_append_left (by simpa using hi), List.getElem?_map] at e
    cases q : xs[i]? with
    | none => rw [q] at e; cases e
    | some y =>
      rw [q] at e
      cases e
      obtain ⟨v, hv, rv⟩ := r.get q
      refine ⟨v, ?_, rv⟩
      unfold L2.start
      rw [List.getElem?_append_left (by simp; omega), List.getElem?_map, hv]
      rfl
  · rw [List.getElem?_append_right (by simpa using hi), List.getElem?_replicate] at e
    split at e <;> cases e
/-- THE RULE: F says no more than the body does -/
theorem def_of {x : Str} {params : Arguments} {body : List Stmt} {scope : Scope} {fd : FuncData} {f : Addr} {N ps : List Str} {k n : Nat} {F : Fn} {g : GS} (FD : FunD K x x params body scope [] [] f fd) (S : FnScope N ps scope) (hps : ps.length = n) (hm : mg x = some (.ref f))
    (hb : Binds K fd ps [])
    (hbody : ∀ (cdv : Value) (A : Around) (outer : List PySem.Env) (s : Shared) (H : Hp) (E : XK), Room k (A.deeper (envOfC x scope s.heap.objs.size f cdv)) →
      PSs (cxOf (L2N.CX P w) P w K mg base N x scope f cdv A outer s H E) body (tS K (fun cls d _ H => E cls d H) g))
    (hF : ∀ xs st, xs.length = n → F xs st = .bad ∨ F xs st = allR (g (begin N.length n xs) st)) : Def P w K mg base x n (k + 1) F := by
  refine ⟨f, fd, ps, hps, ?_, hm, FD.kp, hb⟩
  refine FD.ok S (fun vs H Q E h => ?_) fun cdv A outer s H vs Q E hr h => ⟨tS K (fun cls d _ H => E cls d H) g, hbody cdv A outer s H E hr, ?_⟩
  · obtain ⟨wd, xs, st, hn, _, r, _⟩ := h
    rw [r.length, hn, hps]
  · obtain ⟨wd, xs, st, hn, ok, r, po⟩ := h
    refine ⟨wd, begin N.length n xs, st, ok, slots_start r hn, ?_⟩
    rcases hF xs st hn with e | e
    · rw [e] at po; exact po.elim
    · rw [e] at po
      cases q : g (begin N.length n xs) st with
      | nx ρ' st' => rw [q] at po; exact fun w' σ' H' l o _ => po w' H' .non l o rfl
      | ret v st' => rw [q] at po; exact po
      | exc c ρ' st' => rw [q] at po; exact fun w' σ' H' l o _ => po w' H' l o
      | bad => rw [q] at po; exact po.elim
end
end Z
/-! Operators. -/
namespace Z
open PySem PySem.Spec PyProof.Rows L2
section
variable {K : PySem.W.Frag} {X : Cx}
/-! ### ints -/
def MulOk (i j : Int) : Prop := i.natAbs.log2 + j.natAbs.log2 < 1000000
noncomputable instance (i j : Int) : Decidable (MulOk i j) := Classical.propDecidable _
def DivOk (i j : Int) : Prop := Builtin.divisionGoesByPylong i j = false
noncomputable instance (i j : Int) : Decidable (DivOk i j) := Classical.propDecidable _
noncomputable instance (n : Nat) : Decidable (LenOk n) := Classical.propDecidable _
def LineOk (n : Nat) : Prop := n ≤ sizeLine
noncomputable instance (n : Nat) : Decidable (LineOk n) := Classical.propDecidable _
theorem op_fdivG : OpR X (binaryOp .FloorDiv) (rI (fun i j => j ≠ 0 ∧ DivOk i j) fun i j => .int (i.fdiv j)) := opI fun i j _ _ _ _ _ hc q => floordiv_int hc.1 q (.inl hc.2)
noncomputable def addV : F2 := fun _ x y => match x, y with
  | .int i, .int j => some (.int (i + j))
  | .str a, .str b => if LineOk (a.length + b.length) then some (.str (a ++ b)) else none
  | _, _ => none
def subV : F2 := fun _ x y => match x, y with
  | .int i, .int j => some (.int (i - j))
  | _, _ => none
noncomputable def mulV : F2 := fun _ x y => match x, y with
  | .int i, .int j => if MulOk i j then some (.int (i * j)) else none
  | _, _ => none
noncomputable def fdivV : F2 := fun _ x y => match x, y with
  | .int i, .int j => if j ≠ 0 ∧ DivOk i j then some (.int (i.fdiv j)) else none
  | _, _ => none
def modV : F2 := fun _ x y => match x, y with
  | .int i, .int j => if j ≠ 0 then some (.int (i.fmod j)) else none
  | _, _ => none
def powV : F2 := fun _ x y => match x, y with
  | .int i, .int j => if 0 ≤ j ∧ j ≤ 1000000 ∧ i.natAbs < 2 ^ 64 then some (.int (i ^ j.toNat)) else none
  | _, _ => none
def ShlOk (i j : Int) : Prop := 0 ≤ j ∧ (Builtin.Int.intBits i : Int) + j ≤ 134217728
noncomputable instance (i j : Int) : Decidable (ShlOk i j) := Classical.propDecidable _
noncomputable def shlV : F2 := fun _ x y => match x, y with
  | .int i, .int j => if ShlOk i j then some (.int (i * 2 ^ j.toNat)) else none
  | _, _ => none
def ltV : F2 := fun _ x y => match x, y with
  | .int i, .int j => some (.bl (decide (i < j)))
  | _, _ => none
def leV : F2 := fun _ x y => match x, y with
  | .int i, .int j => some (.bl (decide (i ≤ j)))
  | _, _ => none
def gtV : F2 := fun _ x y => match x, y with
  | .int i, .int j => some (.bl (decide (j < i)))
  | _, _ => none
def geV : F2 := fun _ x y => match x, y with
  | .int i, .int j => some (.bl (decide (j ≤ i)))
  | _, _ => none
def negV : F1 := fun _ x => match x with
  | .int i => some (.int (-i))
  | _ => none
/-- two ints, by a rule over ints -/
theorem snd_ii {f : F2} {C : Int → Int → Prop} {h : Int → Int → V} {h' : Int → Int → PV} (hr : ∀ w i j, Rep K w (h' i j) (h i j)) (hf : ∀ st x y z, f st x y = some z → ∃ i j, x = .int i ∧ y = .int j ∧ C i j ∧ z = h' i j) : Snd2 K f (rI C h) := by
  intro w H st x y z vx vy Q ok rx ry e q
  obtain ⟨i, j, rfl, rfl, c, rfl⟩ := hf st x y z e
  exact ⟨i, j, rx, ry, c, q w H _ (Le.refl _) ok (hr w i j)⟩
theorem snd_i0 {f : F2} {h : Int → Int → V} {h' : Int → Int → PV} (hr : ∀ w i j, Rep K w (h' i j) (h i j)) (hf : ∀ st x y z, f st x y = some z → ∃ i j, x = .int i ∧ y = .int j ∧ z = h' i j) : Snd2 K f (rI0 h) := by
  intro w H st x y z vx vy Q ok rx ry e q
  obtain ⟨i, j, rfl, rfl, rfl⟩ := hf st x y z e
  exact ⟨i, j, rx, ry, q w H _ (Le.refl _) ok (hr w i j)⟩
theorem snd_or {f : F2} {r r' : R2} (h : ∀ w H st x y z vx vy Q, WOk K w H st → Rep K w x vx → Rep K w y vy → f st x y = some z → (∀ w' H' vz, Le w w' → WOk K w' H' st → Rep K w' z vz → Q vz H') → r vx vy H Q ∨ r' vx vy H Q) :
    Snd2 K f (fun x y H Q => r x y H Q ∨ r' x y H Q) := fun w H st x y z vx vy Q ok rx ry e q => h w H st x y z vx vy Q ok rx ry e q
theorem ex_int2 {α : Type} {x y : PV} {k : Int → Int → Option α} {z : α} (h : (match x, y with | .int i, .int j => k i j | _, _ => none) = some z) : ∃ i j, x = .int i ∧ y = .int j ∧ k i j = some z := by
  cases x <;> cases y <;> first | exact ⟨_, _, rfl, rfl, h⟩ | cases h
theorem o_add : OpR X (binaryOp .Add) (fun x y H Q => rI0 (fun i j => .int (i + j)) x y H Q ∨ ∃ i j, x = .str i ∧ y = .str j ∧ i.length + j.length ≤ sizeLine ∧ Q (.str (i ++ j)) H) := op_add.or op_add_str
theorem s_add : Snd2 K addV (fun x y H Q => rI0 (fun i j => .int (i + j)) x y H Q ∨ ∃ i j, x = .str i ∧ y = .str j ∧ i.length + j.length ≤ sizeLine ∧ Q (.str (i ++ j)) H) := by
  intro w H st x y z vx vy Q ok rx ry e q
  cases x with
  | int i => cases y with
    | int j => cases e; exact .inl ⟨i, j, rx, ry, q w H _ (Le.refl _) ok rfl⟩
    | _ => cases e
  | str i => cases y with
    | str j =>
      have e : (if LineOk (i.length + j.length) then some (PV.str (i ++ j)) else none) = some z := e
      by_cases hc : LineOk (i.length + j.length)
      · rw [if_pos hc] at e; cases e; exact .inr ⟨i, j, rx, ry, hc, q w H _ (Le.refl _) ok rfl⟩
      · rw [if_neg hc] at e; cases e
    | _ => cases e
  | _ => cases e
theorem s_sub : Snd2 K subV (rI0 fun i j => .int (i - j)) := snd_i0 (h' := fun i j => .int (i - j)) (fun _ _ _ => rfl) fun st x y z e => by
  obtain ⟨i, j, e1, e2, e3⟩ := ex_int2 e
  exact ⟨i, j, e1, e2, (Option.some.inj e3).symm⟩
theorem s_mul : Snd2 K mulV (rI CMulW fun i j => .int (i * j)) := snd_ii (h' := fun i j => .int (i * j)) (fun _ _ _ => rfl) fun st x y z e => by
  obtain ⟨i, j, e1, e2, e3⟩ := ex_int2 e
  by_cases hc : MulOk i j
  · rw [if_pos hc] at e3; exact ⟨i, j, e1, e2, hc, (Option.some.inj e3).symm⟩
  · rw [if_neg hc] at e3; cases e3
theorem s_fdiv : Snd2 K fdivV (rI (fun i j => j ≠ 0 ∧ DivOk i j) fun i j => .int (i.fdiv j)) := snd_ii (h' := fun i j => .int (i.fdiv j)) (fun _ _ _ => rfl) fun st x y z e => by
  obtain ⟨i, j, e1, e2, e3⟩ := ex_int2 e
  by_cases hc : j ≠ 0 ∧ DivOk i j
  · rw [if_pos hc] at e3; exact ⟨i, j, e1, e2, hc, (Option.some.inj e3).symm⟩
  · rw [if_neg hc] at e3; cases e3
theorem s_mod : Snd2 K modV (rI (fun _ j => j ≠ 0) fun i j => .int (i.fmod j)) := snd_ii (h' := fun i j => .int (i.fmod j)) (fun _ _ _ => rfl) fun st x y z e => by
  obtain ⟨i, j, e1, e2, e3⟩ := ex_int2 e
  by_cases hc : j ≠ 0
  · rw [if_pos hc] at e3; exact ⟨i, j, e1, e2, hc, (Option.some.inj e3).symm⟩
  · rw [if_neg hc] at e3; cases e3
theorem s_pow : Snd2 K powV (rI CPow fun i j => .int (i ^ j.toNat)) := snd_ii (h' := fun i j => .int (i ^ j.toNat)) (fun _ _ _ => rfl) fun st x y z e => by
  obtain ⟨i, j, e1, e2, e3⟩ := ex_int2 e
  by_cases hc : 0 ≤ j ∧ j ≤ 1000000 ∧ i.natAbs < 2 ^ 64
  · rw [if_pos hc] at e3; exact ⟨i, j, e1, e2, hc, (Option.some.inj e3).symm⟩
  · rw [if_neg hc] at e3; cases e3
theorem s_shl : Snd2 K shlV (rI CShl fun i j => .int (i * 2 ^ j.toNat)) := snd_ii (h' := fun i j => .int (i * 2 ^ j.toNat)) (fun _ _ _ => rfl) fun st x y z e => by
  obtain ⟨i, j, e1, e2, e3⟩ := ex_int2 e
  by_cases hc : ShlOk i j
  · rw [if_pos hc] at e3
    refine ⟨i, j, e1, e2, ⟨hc.1, ?_⟩, (Option.some.inj e3).symm⟩
    rw [show (2 : Int) ^ 27 = 134217728 by decide]; exact hc.2
  · rw [if_neg hc] at e3; cases e3
theorem s_lt : Snd2 K ltV (rI0 fun i j => .bl (decide (i < j))) := snd_i0 (h' := fun i j => .bl (decide (i < j))) (fun _ _ _ => rfl) fun st x y z e => by
  obtain ⟨i, j, e1, e2, e3⟩ := ex_int2 e; exact ⟨i, j, e1, e2, (Option.some.inj e3).symm⟩
theorem s_le : Snd2 K leV (rI0 fun i j => .bl (decide (i ≤ j))) := snd_i0 (h' := fun i j => .bl (decide (i ≤ j))) (fun _ _ _ => rfl) fun st x y z e => by
  obtain ⟨i, j, e1, e2, e3⟩ := ex_int2 e; exact ⟨i, j, e1, e2, (Option.some.inj e3).symm⟩
theorem s_gt : Snd2 K gtV (rI0 fun i j => .bl (decide (j < i))) := snd_i0 (h' := fun i j => .bl (decide (j < i))) (fun _ _ _ => rfl) fun st x y z e => by
  obtain ⟨i, j, e1, e2, e3⟩ := ex_int2 e; exact ⟨i, j, e1, e2, (Option.some.inj e3).symm⟩
theorem s_ge : Snd2 K geV (rI0 fun i j => .bl (decide (j ≤ i))) := snd_i0 (h' := fun i j => .bl (decide (j ≤ i))) (fun _ _ _ => rfl) fun st x y z e => by
  obtain ⟨i, j, e1, e2, e3⟩ := ex_int2 e; exact ⟨i, j, e1, e2, (Option.some.inj e3).symm⟩
theorem s_neg : Snd1 K negV (rU fun i => .int (-i)) := by
  intro w H st x z vx Q ok rx e q
  cases x with
  | int i => cases e; exact ⟨i, rx, q w H _ (Le.refl _) ok rfl⟩
  | _ => cases e
/-! ### None -/
def isNV : F2 := fun _ x y => match y with
  | .non => (match x with
    | .non => some (.bl true)
    | _ => some (.bl false))
  | _ => none
def notNV : F2 := fun _ x y => match y with
  | .non => (match x with
    | .non => some (.bl false)
    | _ => some (.bl true))
  | _ => none
theorem rep_non {w : Wd} {x : PV} {v : V} (r : Rep K w x v) (h : ∀ y, x = y → y ≠ .non) : v ≠ .non := by
  cases x with
  | non => exact absurd rfl (h _ rfl)
  | bl b => rw [show v = .bl b from r]; intro z; cases z
  | int b => rw [show v = .int b from r]; intro z; cases z
  | str b => rw [show v = .str b from r]; intro z; cases z
  | tup xs => obtain ⟨a, _, e, _⟩ := r; rw [e]; intro z; cases z
  | lst xs => obtain ⟨a, _, e, _⟩ := r; rw [e]; intro z; cases z
  | dct xs => obtain ⟨a, _, e, _⟩ := r; rw [e]; intro z; cases z
  | exc c => rw [show v = .ref c from r]; intro z; cases z
  | ref k => obtain ⟨a, e, _⟩ := r; rw [e]; intro z; cases z
  | ty n => rw [show v = .ty n from r]; intro z; cases z
  | cls n => rw [show v = .ref (He.ga K n) from r]; intro z; cases z
theorem s_isN : Snd2 K isNV (fun x y H Q => y = .non ∧ Q (.bl (decide (x = .non))) H) := by
  intro w H st x y z vx vy Q ok rx ry e q
  cases y with
  | non =>
    refine ⟨ry, ?_⟩
    by_cases hx : x = .non
    · subst hx; cases e
      rw [show vx = .non from rx]
      exact q w H _ (Le.refl _) ok rfl
    · have hv : vx ≠ .non := rep_non rx fun y hy z => hx (hy.trans z)
      rw [decide_eq_false hv]
      have ez : z = .bl false := by cases x <;> first | exact absurd rfl hx | (cases e; rfl)
      rw [ez] at q
      exact q w H _ (Le.refl _) ok rfl
  | _ => cases e
theorem s_notN : Snd2 K notNV (fun x y H Q => y = .non ∧ Q (.bl (!decide (x = .non))) H) := by
  intro w H st x y z vx vy Q ok rx ry e q
  cases y with
  | non =>
    refine ⟨ry, ?_⟩
    by_cases hx : x = .non
    · subst hx; cases e
      rw [show vx = .non from rx]
      exact q w H _ (Le.refl _) ok rfl
    · have hv : vx ≠ .non := rep_non rx fun y hy z => hx (hy.trans z)
      rw [decide_eq_false hv]
      have ez : z = .bl true := by cases x <;> first | exact absurd rfl hx | (cases e; rfl)
      rw [ez] at q
      exact q w H _ (Le.refl _) ok rfl
  | _ => cases e
/-! ### equality of data -/
mutual
def toD : PV → Option PyData
  | .non => some .none
  | .bl b => some (.bool b)
  | .int i => some (.int i)
  | .str s => some (.str s)
  | .tup xs => match toDL xs with
    | some ds => some (.tuple ds)
    | none => none
  | .lst xs => match toDL xs with
    | some ds => some (.list ds)
    | none => none
  | .dct _ => none
  | .exc _ => none
  | .ref _ => none
  | .ty _ => none
  | .cls _ => none
def toDL : List PV → Option (List PyData)
  | [] => some []
  | x :: xs => match toD x with
    | some d => (match toDL xs with
      | some ds => some (d :: ds)
      | none => none)
    | none => none
end
mutual
theorem toD_dp {w : Wd} : ∀ (x : PV) (d : PyData) (v : V), toD x = some d → Rep K w x v → Dp K w.F v d
  | .non, d, v, e, r => by cases e; rw [show v = .non from r]; exact .non
  | .bl b, d, v, e, r => by cases e; rw [show v = .bl b from r]; exact .bl b
  | .int b, d, v, e, r => by cases e; rw [show v = .int b from r]; exact .int b
  | .str b, d, v, e, r => by cases e; rw [show v = .str b from r]; exact .str b
  | .tup xs, d, v, e, ⟨a, vs, ev, sq, rs⟩ => by
    unfold toD at e
    cases q : toDL xs with
    | none => rw [q] at e; cases e
    | some ds => rw [q] at e; cases e; rw [ev]; exact .tup sq (toDL_dp xs ds vs q rs)
  | .lst xs, d, v, e, ⟨a, vs, ev, sq, rs⟩ => by
    unfold toD at e
    cases q : toDL xs with
    | none => rw [q] at e; cases e
    | some ds => rw [q] at e; cases e; rw [ev]; exact .lst sq (toDL_dp xs ds vs q rs)
  | .dct _, d, v, e, r => by cases e
  | .exc _, d, v, e, r => by cases e
  | .ref _, d, v, e, r => by cases e
  | .ty _, d, v, e, r => by cases e
  | .cls _, d, v, e, r => by cases e
theorem toDL_dp {w : Wd} : ∀ (xs : List PV) (ds : List PyData) (vs : List V), toDL xs = some ds → RepL K w xs vs → DpAll K w.F vs ds
  | [], ds, vs, e, r => by cases e; rw [show vs = [] from r]; exact .nil
  | x :: xs, ds, vs, e, ⟨v, vr, ev, rx, rr⟩ => by
    unfold toDL at e
    cases q : toD x with
    | none => rw [q] at e; cases e
    | some d =>
      rw [q] at e
      cases q2 : toDL xs with
      | none => rw [q2] at e; cases e
      | some dr => rw [q2] at e; cases e; rw [ev]; exact .cons (toD_dp x d v q rx) (toDL_dp xs dr vr q2 rr)
end
mutual
theorem dp_mono {F H : Hp} (hF : ∀ a o, F a = some o → H a = some o) : ∀ {v : V} {d : PyData}, Dp K F v d → Dp K H v d
  | _, _, .non => .non
  | _, _, .bl b => .bl b
  | _, _, .int b => .int b
  | _, _, .str b => .str b
  | _, _, .lst s d => .lst (sql_mono hF s) (dpa_mono hF d)
  | _, _, .tup s d => .tup (sqt_mono hF s) (dpa_mono hF d)
theorem dpa_mono {F H : Hp} (hF : ∀ a o, F a = some o → H a = some o) : ∀ {v : List V} {d : List PyData}, DpAll K F v d → DpAll K H v d
  | _, _, .nil => .nil
  | _, _, .cons a b => .cons (dp_mono hF a) (dpa_mono hF b)
end
/-- a mutable list as it stands -/
def de (st : List SO) : PV → PV
  | .ref k => match st[k]? with
    | some (.lst xs) => .lst xs
    | _ => .ref k
  | x => x
theorem de_dp {w : Wd} {H : Hp} {st : List SO} {x : PV} {v : V} {d : PyData} (ok : WOk K w H st) (r : Rep K w x v) (e : toD (de st x) = some d) : Dp K H v d := by
  have plain : ∀ y, toD y = some d → Rep K w y v → Dp K H v d := fun y e r => dp_mono ok.fz (toD_dp y d v e r)
  cases x with
  | ref k =>
    obtain ⟨a, ev, q⟩ := r
    obtain ⟨c, o, h1, h2, h3⟩ := ok.obj q
    cases c with
    | lst xs =>
      have e2 : de st (.ref k) = .lst xs := by simp [de, h1]
      rw [e2] at e
      unfold toD at e
      obtain ⟨vs, e3, rs⟩ := h3
      rw [e3] at h2
      cases q2 : toDL xs with
      | none => rw [q2] at e; cases e
      | some ds => rw [q2] at e; cases e; rw [ev]; exact .lst (.inl (.inl h2)) (dpa_mono ok.fz (toDL_dp xs ds vs q2 rs))
    | dK kvs =>
      have e2 : de st (.ref k) = .ref k := by simp [de, h1]
      rw [e2] at e; cases e
  | _ => exact plain _ e r
def eqD (st : List SO) (x y : PV) : Option Bool := match toD (de st x), toD (de st y) with
  | some d, some e => if SeqAt.shaped d = true ∧ SeqAt.shaped e = true then some (PyData.eqv d e) else none
  | _, _ => none
def eqV : F2 := fun st x y => (eqD st x y).map fun b => .bl b
def neV : F2 := fun st x y => (eqD st x y).map fun b => .bl (!b)
theorem eqD_some {st : List SO} {x y : PV} {b : Bool} (h : eqD st x y = some b) : ∃ d e, toD (de st x) = some d ∧ toD (de st y) = some e ∧ SeqAt.shaped d = true ∧ SeqAt.shaped e = true ∧ PyData.eqv d e = b := by
  unfold eqD at h
  cases e1 : toD (de st x) with
  | none => rw [e1] at h; cases h
  | some d =>
    cases e2 : toD (de st y) with
    | none => rw [e1, e2] at h; cases h
    | some e =>
      rw [e1, e2] at h
      have h : (if SeqAt.shaped d = true ∧ SeqAt.shaped e = true then some (PyData.eqv d e) else none) = some b := h
      by_cases hc : SeqAt.shaped d = true ∧ SeqAt.shaped e = true
      · rw [if_pos hc] at h; exact ⟨d, e, rfl, rfl, hc.1, hc.2, Option.some.inj h⟩
      · rw [if_neg hc] at h; cases h
theorem s_eq : Snd2 K eqV (rEqD K) := by
  intro w H st x y z vx vy Q ok rx ry e q
  obtain ⟨b, hb, rfl⟩ := Option.map_eq_some_iff.mp (show (eqD st x y).map (fun b => PV.bl b) = some z from e)
  obtain ⟨d, d', e1, e2, s1, s2, rfl⟩ := eqD_some hb
  exact ⟨d, d', de_dp ok rx e1, de_dp ok ry e2, s1, s2, q w H _ (Le.refl _) ok rfl⟩
theorem s_ne : Snd2 K neV (rNeD K) := by
  intro w H st x y z vx vy Q ok rx ry e q
  obtain ⟨b, hb, rfl⟩ := Option.map_eq_some_iff.mp (show (eqD st x y).map (fun b => PV.bl (!b)) = some z from e)
  obtain ⟨d, d', e1, e2, s1, s2, rfl⟩ := eqD_some hb
  exact ⟨d, d', de_dp ok rx e1, de_dp ok ry e2, s1, s2, q w H _ (Le.refl _) ok rfl⟩

/-! ### items -/
noncomputable def ixV : F2 := fun st x y => match x, y with
  | .tup xs, .int i => atI xs i
  | .lst xs, .int i => atI xs i
  | .ref k, .int i => (match st[k]? with
    | some (.lst xs) => atI xs i
    | _ => none)
  | .str z, .int i => if LineOk z.length then (match atI z.cps.toList i with
    | some c => some (.str ⟨#[c]⟩)
    | none => none) else none
  | _, _ => none
theorem atI_rep {w : Wd} {xs : List PV} {vs : List V} {i : Int} {z : PV} (r : RepL K w xs vs) (h : atI xs i = some z) : ∃ v, atI vs i = some v ∧ Rep K w z v := by
  unfold atI at h ⊢
  cases e : ixN xs.length i with
  | none => rw [e] at h; cases h
  | some j =>
    rw [e] at h
    obtain ⟨v, hv, rv⟩ := r.get (i := j) (x := z) h
    rw [r.length, e]
    exact ⟨v, hv, rv⟩
theorem s_ix : Snd2 K ixV (rIx K) := by
  intro w H st x y z vx vy Q ok rx ry e q
  cases x with
  | tup xs => cases y with
    | int i =>
      obtain ⟨a, vs, ev, sq, rs⟩ := rx
      obtain ⟨v, hv, rv⟩ := atI_rep rs e
      exact .inr (.inl ⟨a, vs, i, v, ev, ry, sqt_mono ok.fz sq, hv, q w H v (Le.refl _) ok rv⟩)
    | _ => cases e
  | lst xs => cases y with
    | int i =>
      obtain ⟨a, vs, ev, sq, rs⟩ := rx
      obtain ⟨v, hv, rv⟩ := atI_rep rs e
      exact .inl ⟨a, vs, i, v, ev, ry, sql_mono ok.fz sq, hv, q w H v (Le.refl _) ok rv⟩
    | _ => cases e
  | ref k => cases y with
    | int i =>
      obtain ⟨a, ev, qa⟩ := rx
      obtain ⟨c, o, h1, h2, h3⟩ := ok.obj qa
      have e : (match st[k]? with | some (.lst xs) => atI xs i | _ => none) = some z := e
      rw [h1] at e
      cases c with
      | lst xs =>
        obtain ⟨vs, e3, rs⟩ := h3
        rw [e3] at h2
        obtain ⟨v, hv, rv⟩ := atI_rep rs e
        exact .inl ⟨a, vs, i, v, ev, ry, .inl (.inl h2), hv, q w H v (Le.refl _) ok rv⟩
      | dK kvs => cases e
    | _ => cases e
  | str s => cases y with
    | int i =>
      have e : (if LineOk s.length then (match atI s.cps.toList i with | some c => some (PV.str ⟨#[c]⟩) | none => none) else none) = some z := e
      by_cases hc : LineOk s.length
      · rw [if_pos hc] at e
        cases e2 : atI s.cps.toList i with
        | none => rw [e2] at e; cases e
        | some c => rw [e2] at e; cases e; exact .inr (.inr ⟨s, i, c, rx, ry, hc, e2, q w H _ (Le.refl _) ok rfl⟩)
      · rw [if_neg hc] at e; cases e
    | _ => cases e
  | _ => cases e
/-! ### built-ins -/
noncomputable def lenV : FL := fun st xs => match xs with
  | [.tup xs] => some (.int xs.length)
  | [.lst xs] => some (.int xs.length)
  | [.ref k] => (match st[k]? with
    | some (.lst xs) => some (.int xs.length)
    | _ => none)
  | [.str z] => if LineOk z.length then some (.int z.length) else none
  | _ => none
theorem repl1 {w : Wd} {x : PV} {vs : List V} (r : RepL K w [x] vs) : ∃ v, vs = [v] ∧ Rep K w x v := by
  obtain ⟨v, r, e, h, z⟩ := r
  exact ⟨v, by rw [e, show r = [] from z], h⟩
theorem repl2 {w : Wd} {x y : PV} {vs : List V} (r : RepL K w [x, y] vs) : ∃ v u, vs = [v, u] ∧ Rep K w x v ∧ Rep K w y u := by
  obtain ⟨v, r, e, h, u, r2, e2, h2, z⟩ := r
  exact ⟨v, u, by rw [e, e2, show r2 = [] from z], h, h2⟩
theorem s_len : SndL K lenV (fun xs H Q => ∃ x n, xs = [x] ∧ LenV K x H n ∧ Q (.int n) H) := by
  intro w H st xs z vs Q ok rs e q
  rcases xs with _ | ⟨x, _ | ⟨y, ys⟩⟩
  · cases e
  · obtain ⟨v, ev, rx⟩ := repl1 rs
    cases x with
    | tup xs =>
      obtain ⟨a, us, e2, sq, rr⟩ := rx
      cases e
      exact ⟨v, us.length, ev, by rw [e2]; exact .inr ⟨us, sqt_mono ok.fz sq, rfl⟩, by rw [rr.length]; exact q w H _ (Le.refl _) ok rfl⟩
    | lst xs =>
      obtain ⟨a, us, e2, sq, rr⟩ := rx
      cases e
      exact ⟨v, us.length, ev, by rw [e2]; exact .inl ⟨us, sql_mono ok.fz sq, rfl⟩, by rw [rr.length]; exact q w H _ (Le.refl _) ok rfl⟩
    | ref k =>
      obtain ⟨a, e2, qa⟩ := rx
      obtain ⟨c, o, h1, h2, h3⟩ := ok.obj qa
      have e : (match st[k]? with | some (.lst xs) => some (PV.int xs.length) | _ => none) = some z := e
      rw [h1] at e
      cases c with
      | lst xs =>
        obtain ⟨us, e3, rr⟩ := h3
        rw [e3] at h2
        cases e
        exact ⟨v, us.length, ev, by rw [e2]; exact .inl ⟨us, .inl (.inl h2), rfl⟩, by rw [rr.length]; exact q w H _ (Le.refl _) ok rfl⟩
      | dK kvs => cases e
    | str s =>
      have e : (if LineOk s.length then some (PV.int s.length) else none) = some z := e
      by_cases hc : LineOk s.length
      · rw [if_pos hc] at e; cases e
        exact ⟨v, s.length, ev, by rw [show v = .str s from rx]; exact ⟨hc, rfl⟩, q w H _ (Le.refl _) ok rfl⟩
      · rw [if_neg hc] at e; cases e
    | _ => cases e
  · cases x <;> cases e
def absV : FL := fun _ xs => match xs with
  | [.int i] => some (.int i.natAbs)
  | _ => none
theorem s_abs : SndL K absV (fun xs H Q => ∃ i, xs = [.int i] ∧ Q (.int (if i < 0 then -i else i)) H) := by
  intro w H st xs z vs Q ok rs e q
  rcases xs with _ | ⟨x, _ | ⟨y, ys⟩⟩
  · cases e
  · obtain ⟨v, ev, rx⟩ := repl1 rs
    cases x with
    | int i =>
      cases e
      refine ⟨i, by rw [ev, show v = .int i from rx], ?_⟩
      have : (if i < 0 then -i else i) = (i.natAbs : Int) := by split <;> omega
      rw [this]
      exact q w H _ (Le.refl _) ok rfl
    | _ => cases e
  · cases x <;> cases e
def max2V : FL := fun _ xs => match xs with
  | [.int i, .int j] => some (.int (if j > i then j else i))
  | _ => none
def min2V : FL := fun _ xs => match xs with
  | [.int i, .int j] => some (.int (if j < i then j else i))
  | _ => none
theorem ex_l2 {α : Type} {xs : List PV} {k : Int → Int → Option α} {z : α} (h : (match xs with | [.int i, .int j] => k i j | _ => none) = some z) : ∃ i j, xs = [.int i, .int j] ∧ k i j = some z := by
  rcases xs with _ | ⟨x, _ | ⟨y, _ | ⟨u, ys⟩⟩⟩
  · cases h
  · cases x <;> cases h
  · cases x with
    | int i => cases y with
      | int j => exact ⟨i, j, rfl, h⟩
      | _ => cases h
    | _ => cases h
  · cases x with
    | int i => cases y <;> cases h
    | _ => cases h
theorem s_max2 : SndL K max2V (fun xs H Q => ∃ i j, xs = [.int i, .int j] ∧ Q (.int (if j > i then j else i)) H) := by
  intro w H st xs z vs Q ok rs e q
  obtain ⟨i, j, rfl, e⟩ := ex_l2 e
  cases e
  obtain ⟨v, u, ev, rv, ru⟩ := repl2 rs
  exact ⟨i, j, by rw [ev, show v = .int i from rv, show u = .int j from ru], q w H _ (Le.refl _) ok rfl⟩
theorem s_min2 : SndL K min2V (fun xs H Q => ∃ i j, xs = [.int i, .int j] ∧ Q (.int (if j < i then j else i)) H) := by
  intro w H st xs z vs Q ok rs e q
  obtain ⟨i, j, rfl, e⟩ := ex_l2 e
  cases e
  obtain ⟨v, u, ev, rv, ru⟩ := repl2 rs
  exact ⟨i, j, by rw [ev, show v = .int i from rv, show u = .int j from ru], q w H _ (Le.refl _) ok rfl⟩
/-! ### isinstance -/
def tyN (st : List SO) : PV → Option String
  | .non => some "NoneType"
  | .bl _ => some "bool"
  | .int _ => some "int"
  | .str _ => some "str"
  | .tup _ => some "tuple"
  | .lst _ => some "list"
  | .dct _ => some "dict"
  | .ref k => match st[k]? with
    | some (.lst _) => some "list"
    | some (.dK _) => some "dict"
    | none => none
  | _ => none
def isiV : FL := fun st xs => match xs with
  | [x, .ty n] => (match tyN st x with
    | some t => (kitB t n).map fun b => .bl b
    | none => none)
  | _ => none
theorem tyN_x {w : Wd} {H : Hp} {st : List SO} {x : PV} {v : V} {t : String} (ok : WOk K w H st) (r : Rep K w x v) (e : tyN st x = some t) : TyX K H v (.type t) := by
  cases x with
  | non => cases e; rw [show v = .non from r]; exact .base .non
  | bl b => cases e; rw [show v = .bl b from r]; exact .base (.bl b)
  | int b => cases e; rw [show v = .int b from r]; exact .base (.int b)
  | str b => cases e; rw [show v = .str b from r]; exact .base (.str b)
  | tup xs =>
    cases e
    obtain ⟨a, vs, ev, sq, _⟩ := r
    rw [ev]
    rcases sqt_mono ok.fz sq with (h | ⟨o, h⟩) | ⟨o, its, n, h, hc, _⟩
    · exact .base (.tup h)
    · exact .fTuple h
    · exact .kTuple h hc
  | lst xs =>
    cases e
    obtain ⟨a, vs, ev, sq, _⟩ := r
    rw [ev]
    rcases sql_mono ok.fz sq with (h | ⟨o, h⟩) | ⟨o, its, n, h, hc, _⟩
    · exact .base (.lst h)
    · exact .base (.frz h)
    · exact .kList h hc
  | dct kvs =>
    cases e
    obtain ⟨a, vs, ev, sq, _⟩ := r
    rw [ev]
    exact .base (.dK (ok.fz _ _ sq))
  | ref k =>
    obtain ⟨a, ev, qa⟩ := r
    obtain ⟨c, o, h1, h2, h3⟩ := ok.obj qa
    have e : (match st[k]? with | some (.lst _) => some "list" | some (.dK _) => some "dict" | none => none) = some t := e
    rw [h1] at e
    rw [ev]
    cases c with
    | lst xs => cases e; obtain ⟨vs, e3, _⟩ := h3; rw [e3] at h2; exact .base (.lst h2)
    | dK xs => cases e; obtain ⟨vs, e3, _⟩ := h3; rw [e3] at h2; exact .base (.dK h2)
  | _ => cases e
theorem s_isi : SndL K isiV (rIsi K) := by
  intro w H st xs z vs Q ok rs e q
  rcases xs with _ | ⟨x, _ | ⟨y, _ | ⟨u, ys⟩⟩⟩
  · cases e
  · cases e
  · obtain ⟨v, u, ev, rx, ry⟩ := repl2 rs
    cases y with
    | ty n =>
      have e : (match tyN st x with | some t => (kitB t n).map fun b => PV.bl b | none => none) = some z := e
      cases e1 : tyN st x with
      | none => rw [e1] at e; cases e
      | some t =>
        rw [e1] at e
        obtain ⟨b, hb, rfl⟩ := Option.map_eq_some_iff.mp (show (kitB t n).map (fun b => PV.bl b) = some z from e)
        exact ⟨v, u, .type t, .type n, b, ev, by rw [show u = .ty n from ry]; exact .ty n, tyN_x ok rx e1, kit_ty hb, q w H _ (Le.refl _) ok rfl⟩
    | _ => cases e
  · cases y <;> cases e
/-! ### stores and methods of lists -/
def setIV : List SO → PV → PV → PV → Option (List SO) := fun st o i v => match o, i with
  | .ref k, .int j => (match st[k]? with
    | some (.lst xs) => (match ixN xs.length j with
      | some m => some (st.set k (.lst (xs.set m v)))
      | none => none)
    | _ => none)
  | _, _ => none
theorem s_setI : SndSet K setIV rSetL := by
  intro w H st st' o i v vo vi vv Q ok ro ri rv e q
  cases o with
  | ref k => cases i with
    | int j =>
      obtain ⟨a, ev, qa⟩ := ro
      obtain ⟨c, ho, h1, h2, h3⟩ := ok.obj qa
      have e : (match st[k]? with | some (.lst xs) => (match ixN xs.length j with | some m => some (st.set k (.lst (xs.set m v))) | none => none) | _ => none) = some st' := e
      rw [h1] at e
      cases c with
      | lst xs =>
        obtain ⟨vs, e3, rs⟩ := h3
        rw [e3] at h2
        have e : (match ixN xs.length j with | some m => some (st.set k (.lst (xs.set m v))) | none => none) = some st' := e
        cases e4 : ixN xs.length j with
        | none => rw [e4] at e; cases e
        | some m =>
          rw [e4] at e
          cases e
          exact ⟨a, vs, j, m, ev, ri, h2, by rw [rs.length]; exact e4, q w _ (Le.refl _) (ok.write qa ⟨_, rfl, rs.set rv⟩)⟩
      | dK _ => cases e
    | _ => cases e
  | _ => cases e
noncomputable def appendM : FM := fun st x xs => match x, xs with
  | .ref k, [v] => (match st[k]? with
    | some (.lst ys) => if LenOk ys.length then .ok .non (st.set k (.lst (ys ++ [v]))) else .bad
    | _ => .bad)
  | _, _ => .bad
theorem n_append : NoExc appendM := by
  intro st x xs c st' h
  unfold appendM at h
  split at h
  · split at h
    · split at h <;> cases h
    · cases h
  · cases h
theorem s_append : SndM K appendM rAppend := by
  intro w H st st' x z xs vx vs Q ok rx rs e q
  unfold appendM at e
  split at e
  · rename_i k v
    split at e
    · rename_i ys hk
      split at e
      · rename_i hz
        cases e
        obtain ⟨u, ev, ru⟩ := repl1 rs
        obtain ⟨a, ea, qa⟩ := rx
        obtain ⟨c, o, h1, h2, h3⟩ := ok.obj qa
        rw [hk] at h1
        cases h1
        obtain ⟨us, e3, rr⟩ := h3
        rw [e3] at h2
        exact ⟨a, us, u, ea, ev, h2, by rw [rr.length]; exact hz, q w _ .non (Le.refl _) (ok.write qa ⟨_, rfl, rr.append (RepL.one ru)⟩) rfl⟩
      · cases e
    · cases e
  · cases e
end
end Z
/-! More rules. -/
namespace Z
open PySem PySem.Spec PyProof.Rows L2
theorem zb_len : bootBuiltins "len" = some (.builtin "len") := by decide +kernel
theorem zb_abs : bootBuiltins "abs" = some (.builtin "abs") := by decide +kernel
theorem zb_isinstance : bootBuiltins "isinstance" = some (.builtin "isinstance") := by decide +kernel
theorem zb_max : bootBuiltins "max" = some (.builtin "max") := by decide +kernel
theorem zb_min : bootBuiltins "min" = some (.builtin "min") := by decide +kernel
theorem zb_all : bootBuiltins "all" = some (.builtin "all") := by decide +kernel
theorem zb_any : bootBuiltins "any" = some (.builtin "any") := by decide +kernel
theorem zb_sorted : bootBuiltins "sorted" = some (.builtin "sorted") := by decide +kernel
theorem zb_repr : bootBuiltins "repr" = some (.builtin "repr") := by decide +kernel
theorem zb_int : bootBuiltins "int" = some (.type "int") := by decide +kernel
theorem zb_bool : bootBuiltins "bool" = some (.type "bool") := by decide +kernel
theorem zb_str : bootBuiltins "str" = some (.type "str") := by decide +kernel
theorem zb_tuple : bootBuiltins "tuple" = some (.type "tuple") := by decide +kernel
theorem zb_list : bootBuiltins "list" = some (.type "list") := by decide +kernel
theorem zb_dict : bootBuiltins "dict" = some (.type "dict") := by decide +kernel
theorem zb_set : bootBuiltins "set" = some (.type "set") := by decide +kernel
theorem zb_ValueError : bootBuiltins "ValueError" = some (.type "ValueError") := by decide +kernel
/-- a constant of the module -/
def Con (K : PySem.W.Frag) (mg : Str → Option Value) (x : Str) (c : PV) : Prop := ∃ (u : Value) (v : V), mg x = some u ∧ RelV v u ∧ ∀ w, Rep K w c v
section
variable {X : Cx} {W : WX} {pos : Pos} {a b e tg : Expr} {es : List Expr} {ga gb g : G} {gs : List G}
theorem se_con {x : Str} {c : PV} (h : Con X.K X.mg x c) (hg : Gl X x := by rfl) (hd : (x == ("__debug__" : Str)) = false := by decide) : PE X (.Name x pos) (tG X.K W (gC c)) := by
  obtain ⟨u, v, hm, r, rc⟩ := h
  exact se_glob hg hm r rc hd
theorem se_ty {x : Str} {n : String} (hv : bootBuiltins x = some (.type n)) (hm : X.mg x = none) (hg : Gl X x := by rfl) (hn : x ≠ "__name__" := by decide) (hd : (x == ("__debug__" : Str)) = false := by decide) : PE X (.Name x pos) (tG X.K W (gC (.ty n))) :=
  se_c (pe_bltn (v := .ty n) hg hm hv rfl hn hd) fun _ => rfl
theorem se_cls {x : Str} (hm : X.mg x = some (.ref (He.ga X.K x))) (hg : Gl X x := by rfl) (hd : (x == ("__debug__" : Str)) = false := by decide) : PE X (.Name x pos) (tG X.K W (gC (.cls x))) :=
  se_c (pe_glob (v := .ref (He.ga X.K x)) hg hm rfl hd) fun _ => rfl
theorem ss_retN : PS X (.Return none pos) (tS X.K W (gRet (gC .non))) := ps_imp ps_retN fun D σ H ⟨w, ρ, st, ok, sl, po⟩ => po w H .non (Le.refl _) ok rfl
theorem ss_par {x y : Str} {px py pt : Pos} {kt k2 : Nat} {pt2 : Pos} (i j : Nat) (hc : X.calm = true) (hN : X.N.Nodup) (ha : PA X [a, b] (tGA X.K W (gArgs [ga, gb]))) (hi : X.N[i]? = some x := by rfl) (hj : X.N[j]? = some y := by rfl) (hij : i ≠ j := by decide)
    (hx : X.env.scope.names.lookup x = some .local := by rfl) (hy : X.env.scope.names.lookup y = some .local := by rfl)
    (hw : swappedStores [.Tuple [.Name x px, .Name y py] kt pt] (.Tuple [a, b] k2 pt2) X.env = pure (some [x, y]) := by rfl)
    (hs : swapsWithSole [.Tuple [.Name x px, .Name y py] kt pt] (.Tuple [a, b] k2 pt2) pos.line X.env = pure false := by rfl) :
    PS X (.Assign [.Tuple [.Name x px, .Name y py] kt pt] (.Tuple [a, b] k2 pt2) pos) (tS X.K W (gPar i j ga gb)) := by
  refine ps_imp (ps_par hc hN hi hj hij hx hy ha hw hs) fun D σ H ⟨w, ρ, st, ok, sl, po⟩ => ⟨w, ρ, st, ok, sl, ?_⟩
  have po : PostS X.K W w (match gArgs [ga, gb] ρ st with | .ok [x, y] st' => .nx ((ρ.set i (some x)).set j (some y)) st' | .ok _ _ => .bad | .exc c st' => .exc c ρ st' | .bad => .bad) D := po
  cases e : gArgs [ga, gb] ρ st with
  | exc c st1 => rw [e] at po; exact fun w' H' l o => po w' σ H' l o (sl.mono l)
  | bad => rw [e] at po; exact po.elim
  | ok xs st1 =>
    rw [e] at po
    have hl := gArgs_len e
    rcases xs with _ | ⟨u, _ | ⟨v, _ | ⟨z, zs⟩⟩⟩
    · simp at hl
    · simp at hl
    · intro w1 H1 vs l1 ok1 rs
      obtain ⟨vu, vv, ev, ru, rv⟩ := repl2 rs
      exact ⟨vu, vv, ev, po w1 _ H1 l1 ok1 (((sl.mono l1).set ru).set rv)⟩
    · simp at hl
/-- x.bit_length() -/
def bitsV : F1 := fun _ x => match x with
  | .int i => some (.int (Builtin.Int.intBits i : Nat))
  | _ => none
theorem se_bits {apos : Pos} (h : PE X e (tG X.K W g)) (hbase : attributeBase e "bit_length" X.env (eval e X.env) = eval e X.env := by rfl) (hline : (apos.endLine == pos.line) = true := by rfl) : PE X (.Call (.Attribute e "bit_length" apos) [] [] pos) (tG X.K W (gUn bitsV g)) := by
  refine pe_imp (pe_bits h hbase hline) fun σ H Q ⟨w, ρ, st, ok, sl, po⟩ => ⟨w, ρ, st, ok, sl, post_bind (rel2 := Rep X.K) po fun x st1 w1 H1 vx l1 ok1 rx po1 => ?_⟩
  cases x with
  | int i => exact ⟨i, rx, po1 w1 H1 _ (Le.refl _) ok1 rfl⟩
  | _ => exact po1.elim
/-- a < b < c -/
def gChain (f f' : F2) (ga gb gc : G) : G := fun ρ st => bnd (ga ρ st) fun x st => bnd (gb ρ st) fun y st => match f st x y with
  | some (.bl true) => bnd (gc ρ st) fun z st => oo (f' st y z) st
  | some (.bl false) => .ok (.bl false) st
  | _ => .bad
theorem tChain_of {f f' : F2} {r r' : R2} {gc : G} (hs : Snd2 X.K f r) (hs' : Snd2 X.K f' r') {σ : L2.St} {H : Hp} {Q : VK} (h : tG X.K W (gChain f f' ga gb gc) σ H Q) :
    tG X.K W ga σ H fun x H1 => tG X.K W gb σ H1 fun y H2 => r x y H2 fun z H3 => ∃ k, z = .bl k ∧ (if k = true then tG X.K W gc σ H3 fun u H4 => r' y u H4 Q else Q (.bl false) H3) := by
  obtain ⟨w, ρ, st, ok, sl, po⟩ := h
  refine ⟨w, ρ, st, ok, sl, post_bind (rel2 := Rep X.K) po fun x st1 w1 H1 vx l1 ok1 rx po1 => ?_⟩
  refine ⟨w1, ρ, st1, ok1, sl.mono l1, post_bind (rel2 := Rep X.K) po1 fun y st2 w2 H2 vy l2 ok2 ry po2 => ?_⟩
  have po2 : Post X.K W (Rep X.K) w2 σ (match f st2 x y with | some (.bl true) => bnd (gc ρ st2) fun z st => oo (f' st y z) st | some (.bl false) => .ok (.bl false) st2 | _ => .bad) Q := po2
  cases e : f st2 x y with
  | none => rw [e] at po2; exact po2.elim
  | some z =>
    rw [e] at po2
    refine hs w2 H2 st2 x y z vx vy _ ok2 (rx.mono l2) ry e fun w3 H3 vz l3 ok3 rz => ?_
    cases z with
    | bl k =>
      refine ⟨k, rz, ?_⟩
      cases k with
      | false => rw [if_neg Bool.false_ne_true]; exact po2 w3 H3 _ l3 ok3 rfl
      | true =>
        rw [if_pos rfl]
        refine ⟨w3, ρ, st2, ok3, ((sl.mono l1).mono l2).mono l3, post_bind (rel2 := Rep X.K) (Post.mono l3 po2) fun u st4 w4 H4 vu l4 ok4 ru po4 => ?_⟩
        cases e2 : f' st4 y u with
        | none => rw [e2] at po4; exact po4.elim
        | some z => rw [e2] at po4; exact hs' w4 H4 st4 y u z vy vu Q ok4 ((ry.mono l3).mono l4) ru e2 fun w' H' vz l o r => po4 w' H' vz l o r
    | _ => exact po2.elim
end
end Z
/-! What a call leaves: its own mutable objects are frozen. -/
namespace Z
open PySem PySem.Spec PyProof.Rows L2
def mapO {α β : Type} (f : α → Option β) : List α → Option (List β)
  | [] => some []
  | x :: xs => match f x with
    | some y => (match mapO f xs with
      | some ys => some (y :: ys)
      | none => none)
    | none => none
def frzV (st : List SO) (n : Nat) : Nat → PV → Option PV
  | 0, _ => none
  | d + 1, .ref k => if k < n then some (.ref k) else (match st[k]? with
    | some (.lst xs) => (mapO (frzV st n d) xs).map .lst
    | some (.dK kvs) => (mapO (fun p : Key × PV => (frzV st n d p.2).map fun v => (p.1, v)) kvs).map .dct
    | none => none)
  | d + 1, .tup xs => (mapO (frzV st n d) xs).map .tup
  | d + 1, .lst xs => (mapO (frzV st n d) xs).map .lst
  | d + 1, .dct kvs => (mapO (fun p : Key × PV => (frzV st n d p.2).map fun v => (p.1, v)) kvs).map .dct
  | _ + 1, x => some x
mutual
/-- no mutable object within -/
def flat : PV → Bool
  | .ref _ => false
  | .tup xs => flatL xs
  | .lst xs => flatL xs
  | .dct kvs => flatD kvs
  | .non => true
  | .bl _ => true
  | .int _ => true
  | .str _ => true
  | .exc _ => true
  | .ty _ => true
  | .cls _ => true
def flatL : List PV → Bool
  | [] => true
  | x :: xs => flat x && flatL xs
def flatD : List (Key × PV) → Bool
  | [] => true
  | (_, x) :: xs => flat x && flatD xs
end
def flatO : SO → Bool
  | .lst xs => flatL xs
  | .dK kvs => flatD kvs
/-- what was there is as it was, or flat -/
def OldOk (st st' : List SO) : Prop := st.length ≤ st'.length ∧ ∀ k : Nat, k < st.length → st'[k]? = st[k]? ∨ ∃ c, st'[k]? = some c ∧ flatO c = true
theorem OldOk.refl (st : List SO) : OldOk st st := ⟨Nat.le_refl _, fun _ _ => .inl rfl⟩
theorem OldOk.app {st st' new : List SO} (h : OldOk st st') : OldOk st (st' ++ new) :=
  ⟨by rw [List.length_append]; exact Nat.le_trans h.1 (Nat.le_add_right _ _), fun k hk => by rw [List.getElem?_append_left (Nat.lt_of_lt_of_le hk h.1)]; exact h.2 k hk⟩
theorem OldOk.set {st st' : List SO} {k : Nat} {c : SO} (h : OldOk st st') (hc : flatO c = true ∨ st.length ≤ k) : OldOk st (st'.set k c) := by
  refine ⟨by rw [List.length_set]; exact h.1, fun j hj => ?_⟩
  by_cases e : k = j
  · subst e
    rcases hc with hc | hc
    · rw [List.getElem?_set_self (Nat.lt_of_lt_of_le hj h.1)]; exact .inr ⟨c, rfl, hc⟩
    · exact absurd hj (Nat.not_lt.mpr hc)
  · rw [List.getElem?_set_ne e]; exact h.2 j hj
open Classical in
/-- a def's end: what it made itself is frozen -/
noncomputable def leave (st : List SO) (r : SRes) : Res PV := match r with
  | .ret v st' => (match frzV st' st.length 9 v with
    | some v' => if OldOk st st' then .ok v' (st'.take st.length) else .bad
    | none => .bad)
  | .nx _ st' => if OldOk st st' then .ok .non (st'.take st.length) else .bad
  | .exc c _ st' => if OldOk st st' then .exc c (st'.take st.length) else .bad
  | .bad => .bad
theorem leave_ret {st st' : List SO} {v v' : PV} (h : OldOk st st') (hv : frzV st' st.length 9 v = some v') : leave st (.ret v st') = .ok v' (st'.take st.length) := by
  unfold leave
  simp only [hv, if_pos h]
theorem leave_exc {st st' : List SO} {c : Str} {ρ : REnv} (h : OldOk st st') : leave st (.exc c ρ st') = .exc c (st'.take st.length) := by
  unfold leave
  simp only [if_pos h]

section
variable {K : PySem.W.Frag}
mutual
theorem flat_rep {w w' : Wd} (hF : ∀ a o, w.F a = some o → w'.F a = some o) : ∀ (x : PV) (v : V), flat x = true → Rep K w x v → Rep K w' x v
  | .non, v, _, h => h
  | .bl b, v, _, h => h
  | .int i, v, _, h => h
  | .str s, v, _, h => h
  | .tup xs, v, f, ⟨a, vs, e, q, r⟩ => ⟨a, vs, e, sqt_mono hF q, flatL_rep hF xs vs f r⟩
  | .lst xs, v, f, ⟨a, vs, e, q, r⟩ => ⟨a, vs, e, sql_mono hF q, flatL_rep hF xs vs f r⟩
  | .dct kvs, v, f, ⟨a, vs, e, q, r⟩ => ⟨a, vs, e, hF _ _ q, flatD_rep hF kvs vs f r⟩
  | .exc _, v, _, h => h
  | .ref k, v, f, _ => by cases f
  | .ty n, v, _, h => h
  | .cls n, v, _, h => h
theorem flatL_rep {w w' : Wd} (hF : ∀ a o, w.F a = some o → w'.F a = some o) : ∀ (x : List PV) (v : List V), flatL x = true → RepL K w x v → RepL K w' x v
  | [], vs, _, h => h
  | x :: xs, vs, f, ⟨v, r, e, h1, h2⟩ => by
    have f' : (flat x && flatL xs) = true := f
    rw [Bool.and_eq_true] at f'
    exact ⟨v, r, e, flat_rep hF x v f'.1 h1, flatL_rep hF xs r f'.2 h2⟩
theorem flatD_rep {w w' : Wd} (hF : ∀ a o, w.F a = some o → w'.F a = some o) : ∀ (x : List (Key × PV)) (v : List (Key × V)), flatD x = true → RepD K w x v → RepD K w' x v
  | [], vs, _, h => h
  | (k, x) :: xs, vs, f, ⟨v, r, e, h1, h2⟩ => by
    have f' : (flat x && flatD xs) = true := f
    rw [Bool.and_eq_true] at f'
    exact ⟨v, r, e, flat_rep hF x v f'.1 h1, flatD_rep hF xs r f'.2 h2⟩
end
theorem flatO_rep {w w' : Wd} (hF : ∀ a o, w.F a = some o → w'.F a = some o) {c : SO} {o : HO} (f : flatO c = true) (h : RepO K w c o) : RepO K w' c o := by
  cases c with
  | lst xs => obtain ⟨vs, e, r⟩ := h; exact ⟨vs, e, flatL_rep hF xs vs f r⟩
  | dK xs => obtain ⟨vs, e, r⟩ := h; exact ⟨vs, e, flatD_rep hF xs vs f r⟩
mutual
theorem sameV {w0 w w' : Wd} (hF : ∀ a o, w.F a = some o → w'.F a = some o) (hA : ∀ (k : Nat) (a0 a : Addr), w0.adr[k]? = some a0 → w.adr[k]? = some a → w'.adr[k]? = some a) : ∀ (x : PV) (v0 v : V), Rep K w0 x v0 → Rep K w x v → Rep K w' x v
  | .non, _, v, _, h => h
  | .bl b, _, v, _, h => h
  | .int i, _, v, _, h => h
  | .str s, _, v, _, h => h
  | .tup xs, _, v, ⟨_, vs0, _, _, r0⟩, ⟨a, vs, e, q, r⟩ => ⟨a, vs, e, sqt_mono hF q, sameL hF hA xs vs0 vs r0 r⟩
  | .lst xs, _, v, ⟨_, vs0, _, _, r0⟩, ⟨a, vs, e, q, r⟩ => ⟨a, vs, e, sql_mono hF q, sameL hF hA xs vs0 vs r0 r⟩
  | .dct kvs, _, v, ⟨_, vs0, _, _, r0⟩, ⟨a, vs, e, q, r⟩ => ⟨a, vs, e, hF _ _ q, sameD hF hA kvs vs0 vs r0 r⟩
  | .exc _, _, v, _, h => h
  | .ref k, _, v, ⟨a0, _, q0⟩, ⟨a, e, q⟩ => ⟨a, e, hA k a0 a q0 q⟩
  | .ty n, _, v, _, h => h
  | .cls n, _, v, _, h => h
theorem sameL {w0 w w' : Wd} (hF : ∀ a o, w.F a = some o → w'.F a = some o) (hA : ∀ (k : Nat) (a0 a : Addr), w0.adr[k]? = some a0 → w.adr[k]? = some a → w'.adr[k]? = some a) : ∀ (x : List PV) (v0 v : List V), RepL K w0 x v0 → RepL K w x v → RepL K w' x v
  | [], _, vs, _, h => h
  | x :: xs, _, vs, ⟨v0, r0, _, g1, g2⟩, ⟨v, r, e, h1, h2⟩ => ⟨v, r, e, sameV hF hA x v0 v g1 h1, sameL hF hA xs r0 r g2 h2⟩
theorem sameD {w0 w w' : Wd} (hF : ∀ a o, w.F a = some o → w'.F a = some o) (hA : ∀ (k : Nat) (a0 a : Addr), w0.adr[k]? = some a0 → w.adr[k]? = some a → w'.adr[k]? = some a) : ∀ (x : List (Key × PV)) (v0 v : List (Key × V)), RepD K w0 x v0 → RepD K w x v → RepD K w' x v
  | [], _, vs, _, h => h
  | (k, x) :: xs, _, vs, ⟨v0, r0, _, g1, g2⟩, ⟨v, r, e, h1, h2⟩ => ⟨v, r, e, sameV hF hA x v0 v g1 h1, sameD hF hA xs r0 r g2 h2⟩
end
/-- the world behind a call -/
def Wd.left (w : Wd) (n : Nat) (H : Hp) : Wd := { F := fun a => match w.F a with
  | some o => some o
  | none => if a ∈ w.adr.drop n then H a else none, R := w.R, adr := w.adr.take n }
theorem left_F {w : Wd} {n : Nat} {H : Hp} : ∀ a o, w.F a = some o → (w.left n H).F a = some o := fun a o e => by
  show (match w.F a with | some o => some o | none => if a ∈ w.adr.drop n then H a else none) = some o
  rw [e]
theorem left_new {w : Wd} {n : Nat} {H : Hp} {st : List SO} (ok : WOk K w H st) {k : Nat} {a : Addr} (e : w.adr[k]? = some a) (hk : n ≤ k) : (w.left n H).F a = H a := by
  show (match w.F a with | some o => some o | none => if a ∈ w.adr.drop n then H a else none) = H a
  rw [(ok.ad k a e).1]
  show (if a ∈ w.adr.drop n then H a else none) = H a
  rw [if_pos]
  refine List.mem_of_getElem? (i := k - n) ?_
  rw [List.getElem?_drop, show n + (k - n) = k by omega]
  exact e
theorem mapO_rep {w w' : Wd} {f : PV → Option PV} (hf : ∀ x x' v, f x = some x' → Rep K w x v → Rep K w' x' v) : ∀ (xs ys : List PV) (vs : List V), mapO f xs = some ys → RepL K w xs vs → RepL K w' ys vs
  | [], ys, vs, e, r => by cases e; exact r
  | x :: xs, ys, vs, e, ⟨v, r, ev, h1, h2⟩ => by
    unfold mapO at e
    cases q : f x with
    | none => rw [q] at e; cases e
    | some y =>
      rw [q] at e
      cases q2 : mapO f xs with
      | none => rw [q2] at e; cases e
      | some zs => rw [q2] at e; cases e; exact ⟨v, r, ev, hf x y v q h1, mapO_rep hf xs zs r q2 h2⟩
theorem mapO_repD {w w' : Wd} {f : PV → Option PV} (hf : ∀ x x' v, f x = some x' → Rep K w x v → Rep K w' x' v) : ∀ (xs ys : List (Key × PV)) (vs : List (Key × V)), mapO (fun p : Key × PV => (f p.2).map fun v => (p.1, v)) xs = some ys → RepD K w xs vs → RepD K w' ys vs
  | [], ys, vs, e, r => by cases e; exact r
  | (k, x) :: xs, ys, vs, e, ⟨v, r, ev, h1, h2⟩ => by
    unfold mapO at e
    cases q : f x with
    | none => simp only [q] at e; cases e
    | some y =>
      simp only [q] at e
      cases q2 : mapO (fun p : Key × PV => (f p.2).map fun v => (p.1, v)) xs with
      | none => rw [q2] at e; cases e
      | some zs => rw [q2] at e; cases e; exact ⟨v, r, ev, hf x y v q h1, mapO_repD hf xs zs r q2 h2⟩
theorem frz_rep {w : Wd} {H : Hp} {st : List SO} {n : Nat} (ok : WOk K w H st) : ∀ (d : Nat) (x x' : PV) (v : V), frzV st n d x = some x' → Rep K w x v → Rep K (w.left n H) x' v
  | 0, x, x', v, e, r => by cases e
  | d + 1, x, x', v, e, r => by
    cases x with
    | ref k =>
      obtain ⟨a, ev, qa⟩ := r
      have e : (if k < n then some (PV.ref k) else (match st[k]? with
        | some (.lst xs) => (mapO (frzV st n d) xs).map .lst
        | some (.dK kvs) => (mapO (fun p : Key × PV => (frzV st n d p.2).map fun v => (p.1, v)) kvs).map .dct
        | none => none)) = some x' := e
      by_cases hk : k < n
      · rw [if_pos hk] at e
        cases e
        refine ⟨a, ev, ?_⟩
        show (w.adr.take n)[k]? = some a
        rw [List.getElem?_take_of_lt hk]; exact qa
      · rw [if_neg hk] at e
        obtain ⟨c, o, h1, h2, h3⟩ := ok.obj qa
        rw [h1] at e
        have hF := left_new ok qa (show n ≤ k by omega)
        cases c with
        | lst xs =>
          obtain ⟨vs, eo, rs⟩ := h3
          obtain ⟨ys, ey, rfl⟩ := Option.map_eq_some_iff.mp (show (mapO (frzV st n d) xs).map PV.lst = some x' from e)
          exact ⟨a, vs, ev, .inl (.inl (by rw [hF, h2, eo])), mapO_rep (fun x x' v => frz_rep ok d x x' v) xs ys vs ey rs⟩
        | dK kvs =>
          obtain ⟨vs, eo, rs⟩ := h3
          obtain ⟨ys, ey, rfl⟩ := Option.map_eq_some_iff.mp (show (mapO (fun p : Key × PV => (frzV st n d p.2).map fun v => (p.1, v)) kvs).map PV.dct = some x' from e)
          exact ⟨a, vs, ev, by rw [hF, h2, eo], mapO_repD (fun x x' v => frz_rep ok d x x' v) kvs ys vs ey rs⟩
    | tup xs =>
      obtain ⟨a, vs, ev, sq, rs⟩ := r
      obtain ⟨ys, ey, rfl⟩ := Option.map_eq_some_iff.mp (show (mapO (frzV st n d) xs).map PV.tup = some x' from e)
      exact ⟨a, vs, ev, sqt_mono left_F sq, mapO_rep (fun x x' v => frz_rep ok d x x' v) xs ys vs ey rs⟩
    | lst xs =>
      obtain ⟨a, vs, ev, sq, rs⟩ := r
      obtain ⟨ys, ey, rfl⟩ := Option.map_eq_some_iff.mp (show (mapO (frzV st n d) xs).map PV.lst = some x' from e)
      exact ⟨a, vs, ev, sql_mono left_F sq, mapO_rep (fun x x' v => frz_rep ok d x x' v) xs ys vs ey rs⟩
    | dct xs =>
      obtain ⟨a, vs, ev, sq, rs⟩ := r
      obtain ⟨ys, ey, rfl⟩ := Option.map_eq_some_iff.mp (show (mapO (fun p : Key × PV => (frzV st n d p.2).map fun v => (p.1, v)) xs).map PV.dct = some x' from e)
      exact ⟨a, vs, ev, left_F _ _ sq, mapO_repD (fun x x' v => frz_rep ok d x x' v) xs ys vs ey rs⟩
    | non => cases e; exact r
    | bl b => cases e; exact r
    | int b => cases e; exact r
    | str b => cases e; exact r
    | exc b => cases e; exact r
    | ty b => cases e; exact r
    | cls b => cases e; exact r
theorem left_ok {w0 w : Wd} {H H0 : Hp} {st st' : List SO} (ok0 : WOk K w0 H0 st) (l : Le w0 w) (ok : WOk K w H st') (old : OldOk st st') : WOk K (w.left st.length H) H (st'.take st.length) ∧ Le w0 (w.left st.length H) := by
  have hadr : w.adr.take st.length = w0.adr := by
    obtain ⟨m, e⟩ := l.adr
    rw [e, ← ok0.len, List.take_left]
  have le : Le w0 (w.left st.length H) := ⟨⟨fun a o e => left_F a o (l.F a o e), [], by rw [List.append_nil]; exact hadr⟩, l.R⟩
  have newIn : ∀ a, a ∈ w.adr.drop st.length → ∃ k, st.length ≤ k ∧ w.adr[k]? = some a := fun a hm => by
    obtain ⟨j, hj, e⟩ := List.getElem_of_mem hm
    refine ⟨st.length + j, Nat.le_add_right _ _, ?_⟩
    rw [← List.getElem?_drop, List.getElem?_eq_getElem hj, e]
  have oldAdr : ∀ (k : Nat) (a : Addr), w0.adr[k]? = some a → k < st.length ∧ w.adr[k]? = some a := fun k a e => ⟨by rw [← ok0.len]; exact (List.getElem?_eq_some_iff.mp e).1, l.at e⟩
  have notNew : ∀ (k : Nat) (a : Addr), w0.adr[k]? = some a → a ∉ w.adr.drop st.length := fun k a e hm => by
    obtain ⟨j, hj, e2⟩ := newIn a hm
    obtain ⟨hk, e1⟩ := oldAdr k a e
    have := nd_ix ok.nd e1 e2
    omega
  refine ⟨⟨fun a o e => ?_, ok.fr, fun a o e => ?_, ?_, ?_, fun k a e => ?_, fun k a c e1 e2 => ?_⟩, le⟩
  · have e : (match w.F a with | some o => some o | none => if a ∈ w.adr.drop st.length then H a else none) = some o := e
    cases q : w.F a with
    | some u => rw [q] at e; cases e; exact ok.fz a _ q
    | none =>
      rw [q] at e
      by_cases hm : a ∈ w.adr.drop st.length
      · have e : (if a ∈ w.adr.drop st.length then H a else none) = some o := e
        rw [if_pos hm] at e; exact e
      · have e : (if a ∈ w.adr.drop st.length then H a else none) = some o := e
        rw [if_neg hm] at e; cases e
  · show (match w.F a with | some o => some o | none => if a ∈ w.adr.drop st.length then H a else none) = none
    rw [ok.dj a o e]
    show (if a ∈ w.adr.drop st.length then H a else none) = none
    rw [if_neg]
    intro hm
    obtain ⟨k, _, e2⟩ := newIn a hm
    have := (ok.ad k a e2).2
    rw [show w.R a = some o from e] at this; cases this
  · show (w.adr.take st.length).Nodup
    rw [hadr]; exact ok0.nd
  · show (w.adr.take st.length).length = (st'.take st.length).length
    rw [hadr, ok0.len, List.length_take]
    have := old.1
    omega
  · have e : (w.adr.take st.length)[k]? = some a := e
    rw [hadr] at e
    obtain ⟨hk, e1⟩ := oldAdr k a e
    refine ⟨?_, (ok.ad k a e1).2⟩
    show (match w.F a with | some o => some o | none => if a ∈ w.adr.drop st.length then H a else none) = none
    rw [(ok.ad k a e1).1]
    exact if_neg (notNew k a e)
  · have e1 : (w.adr.take st.length)[k]? = some a := e1
    rw [hadr] at e1
    obtain ⟨hk, e3⟩ := oldAdr k a e1
    rw [List.getElem?_take_of_lt hk] at e2
    obtain ⟨o, h1, h2⟩ := ok.ob k a c e3 e2
    refine ⟨o, h1, ?_⟩
    have hA : ∀ (k : Nat) (a0 a : Addr), w0.adr[k]? = some a0 → w.adr[k]? = some a → (w.left st.length H).adr[k]? = some a := fun k a0 a q0 q => by
      show (w.adr.take st.length)[k]? = some a
      rw [List.getElem?_take_of_lt (oldAdr k a0 q0).1]; exact q
    rcases old.2 k hk with q | ⟨c', q, fl⟩
    · rw [e2] at q
      obtain ⟨o0, g1, g2⟩ := ok0.ob k a c e1 q.symm
      -- the content is one that the earlier world knew: its values are told again by that world
      cases c with
      | lst xs =>
        obtain ⟨vs, rfl, rs⟩ := h2
        obtain ⟨vs0, rfl, rs0⟩ := g2
        exact ⟨vs, rfl, sameL left_F hA xs vs0 vs rs0 rs⟩
      | dK xs =>
        obtain ⟨vs, rfl, rs⟩ := h2
        obtain ⟨vs0, rfl, rs0⟩ := g2
        exact ⟨vs, rfl, sameD left_F hA xs vs0 vs rs0 rs⟩
    · rw [e2] at q
      cases q
      exact flatO_rep left_F fl h2
end
section
variable {P : Program} {w : World} {K : PySem.W.Frag} {mg : Str → Option Value} {base : Heap}
open Classical in
theorem def_leave {x : Str} {params : Arguments} {body : List Stmt} {scope : Scope} {fd : FuncData} {f : Addr} {N ps : List Str} {k n : Nat} {F : Fn} {g : GS} (FD : FunD K x x params body scope [] [] f fd) (S : FnScope N ps scope) (hps : ps.length = n) (hm : mg x = some (.ref f))
    (hb : Binds K fd ps [])
    (hbody : ∀ (cdv : Value) (A : Around) (outer : List PySem.Env) (s : Shared) (H : Hp) (E : XK), Room k (A.deeper (envOfC x scope s.heap.objs.size f cdv)) →
      PSs (cxOf (L2N.CX P w) P w K mg base N x scope f cdv A outer s H E) body (tS K (fun cls d _ H => E cls d H) g))
    (hF : ∀ xs st, xs.length = n → F xs st = .bad ∨ F xs st = leave st (g (begin N.length n xs) st)) : Def P w K mg base x n (k + 1) F := by
  refine ⟨f, fd, ps, hps, ?_, hm, FD.kp, hb⟩
  refine FD.ok S (fun vs H Q E h => ?_) fun cdv A outer s H vs Q E hr h => ⟨tS K (fun cls d _ H => E cls d H) g, hbody cdv A outer s H E hr, ?_⟩
  · obtain ⟨wd, xs, st, hn, _, r, _⟩ := h
    rw [r.length, hn, hps]
  · obtain ⟨wd, xs, st, hn, ok, r, po⟩ := h
    refine ⟨wd, begin N.length n xs, st, ok, slots_start r hn, ?_⟩
    rcases hF xs st hn with e | e
    · rw [e] at po; exact po.elim
    · rw [e] at po
      cases q : g (begin N.length n xs) st with
      | nx ρ' st' =>
        rw [q] at po
        by_cases old : OldOk st st'
        · have po : PostF K wd (if OldOk st st' then .ok .non (st'.take st.length) else .bad) Q E := po
          rw [if_pos old] at po
          intro w' σ' H' l o _
          obtain ⟨ok2, le2⟩ := left_ok ok l o old
          exact po _ H' .non le2 ok2 rfl
        · have po : PostF K wd (if OldOk st st' then .ok .non (st'.take st.length) else .bad) Q E := po
          rw [if_neg old] at po; exact po.elim
      | ret v st' =>
        rw [q] at po
        have po : PostF K wd (match frzV st' st.length 9 v with | some v' => if OldOk st st' then .ok v' (st'.take st.length) else .bad | none => .bad) Q E := po
        cases e2 : frzV st' st.length 9 v with
        | none => rw [e2] at po; exact po.elim
        | some v' =>
          rw [e2] at po
          by_cases old : OldOk st st'
          · have po : PostF K wd (if OldOk st st' then .ok v' (st'.take st.length) else .bad) Q E := po
            rw [if_pos old] at po
            intro w' H' x l o rx
            obtain ⟨ok2, le2⟩ := left_ok ok l o old
            exact po _ H' x le2 ok2 (frz_rep o 9 v v' x e2 rx)
          · have po : PostF K wd (if OldOk st st' then .ok v' (st'.take st.length) else .bad) Q E := po
            rw [if_neg old] at po; exact po.elim
      | exc c ρ' st' =>
        rw [q] at po
        by_cases old : OldOk st st'
        · have po : PostF K wd (if OldOk st st' then .exc c (st'.take st.length) else .bad) Q E := po
          rw [if_pos old] at po
          intro w' σ' H' l o _
          obtain ⟨ok2, le2⟩ := left_ok ok l o old
          exact po _ H' le2 ok2
        · have po : PostF K wd (if OldOk st st' then .exc c (st'.take st.length) else .bad) Q E := po
          rw [if_neg old] at po; exact po.elim
      | bad => rw [q] at po; exact po.elim
end
end Z
/-! The codes' equations, for reckoning. -/
namespace Z
open PySem PySem.Spec PyProof.Rows L2
section
variable {α β : Type} {ρ ρ' : REnv} {st st' : List SO} {v x y : PV} {c : Str} {b : Bool}
theorem bnd_ok {a : α} {k : α → List SO → Res β} : bnd (.ok a st) k = k a st := rfl
theorem bnd_exc {k : α → List SO → Res β} : bnd (.exc c st) k = .exc c st := rfl
theorem bnd_bad {k : α → List SO → Res β} : bnd .bad k = .bad := rfl
theorem toS_ok {k : PV → List SO → SRes} : toS ρ (.ok v st) k = k v st := rfl
theorem toS_exc {k : PV → List SO → SRes} : toS ρ (.exc c st) k = .exc c ρ st := rfl
theorem toST_ok {k : Bool → List SO → SRes} : toST ρ (.ok b st) k = k b st := rfl
theorem toST_exc {k : Bool → List SO → SRes} : toST ρ (.exc c st) k = .exc c ρ st := rfl
theorem toSL_ok {l : List PV} {k : List PV → List SO → SRes} : toSL ρ (.ok l st) k = k l st := rfl
theorem toSL_exc {k : List PV → List SO → SRes} : toSL ρ (.exc c st) k = .exc c ρ st := rfl
theorem oo_some : oo (some v) st = .ok v st := rfl
theorem oo_none : oo none st = .bad := rfl
def slotR : Option (Option PV) → List SO → Res PV
  | some (some v), st => .ok v st
  | _, _ => .bad
theorem gVar_eq {i : Nat} : gVar i ρ st = slotR ρ[i]? st := by
  unfold gVar slotR
  rcases ρ[i]? with _ | _ | _ <;> rfl
theorem slotR_some : slotR (some (some v)) st = .ok v st := rfl
theorem gC_eq : gC v ρ st = .ok v st := rfl
theorem gBin_eq {f : F2} {ga gb : G} : gBin f ga gb ρ st = bnd (ga ρ st) fun x st => bnd (gb ρ st) fun y st => oo (f st x y) st := rfl
theorem gUn_eq {f : F1} {ga : G} : gUn f ga ρ st = bnd (ga ρ st) fun x st => oo (f st x) st := rfl
theorem gArgs_nil : gArgs [] ρ st = .ok [] st := rfl
theorem gArgs_cons {g : G} {gs : List G} : gArgs (g :: gs) ρ st = bnd (g ρ st) fun x st => bnd (gArgs gs ρ st) fun xs st => .ok (x :: xs) st := rfl
theorem gTupE_eq {gs : List G} : gTupE gs ρ st = bnd (gArgs gs ρ st) fun xs st => .ok (.tup xs) st := rfl
theorem gLstE_eq {gs : List G} : gLstE gs ρ st = bnd (gArgs gs ρ st) fun xs st => .ok (.lst xs) st := rfl
theorem gNewE_eq {gs : List G} : gNewE gs ρ st = bnd (gArgs gs ρ st) fun xs st => .ok (.ref st.length) (st ++ [.lst xs]) := rfl
theorem gCall_eq {F : List PV → List SO → Res PV} {gs : List G} : gCall F gs ρ st = bnd (gArgs gs ρ st) fun xs st => F xs st := rfl
theorem gBi_eq {f : FL} {gs : List G} : gBi f gs ρ st = bnd (gArgs gs ρ st) fun xs st => oo (f st xs) st := rfl
def asB : PV → List SO → Res Bool
  | .bl b, st => .ok b st
  | _, _ => .bad
theorem gB_eq {g : G} : gB g ρ st = bnd (g ρ st) asB := by
  unfold gB
  cases g ρ st with
  | ok v st => cases v <;> rfl
  | _ => rfl
theorem asB_bl : asB (.bl b) st = .ok b st := rfl
theorem gAnd_eq {p q : GT} : gAnd p q ρ st = bnd (p ρ st) fun c st => if c = true then q ρ st else .ok false st := rfl
theorem gOr_eq {p q : GT} : gOr p q ρ st = bnd (p ρ st) fun c st => if c = true then .ok true st else q ρ st := rfl
theorem gNot_eq {p : GT} : gNot p ρ st = bnd (p ρ st) fun c st => .ok (!c) st := rfl
theorem gVT_eq {p : GT} : gVT p ρ st = bnd (p ρ st) fun c st => .ok (.bl c) st := rfl
theorem gIf_eq {p : GT} {g h : G} : gIf p g h ρ st = bnd (p ρ st) fun c st => if c = true then g ρ st else h ρ st := rfl
def chK (o : Option PV) (st : List SO) (k : List SO → Res PV) : Res PV := match o with
  | some (.bl true) => k st
  | some (.bl false) => .ok (.bl false) st
  | _ => .bad
theorem gChain_eq {f f' : F2} {ga gb gc : G} : gChain f f' ga gb gc ρ st = bnd (ga ρ st) fun x st => bnd (gb ρ st) fun y st => chK (f st x y) st fun st => bnd (gc ρ st) fun z st => oo (f' st y z) st := by
  unfold gChain chK
  rfl
theorem chK_t {k : List SO → Res PV} : chK (some (.bl true)) st k = k st := rfl
theorem chK_f {k : List SO → Res PV} : chK (some (.bl false)) st k = .ok (.bl false) st := rfl
theorem chK_b {k : List SO → Res PV} : chK (some (.bl b)) st k = if b = true then k st else .ok (.bl false) st := by cases b <;> rfl
def seqK : SRes → GS → SRes
  | .nx ρ' st', b => b ρ' st'
  | r, _ => r
theorem gSeq_eq {p q : GS} : gSeq p q ρ st = seqK (p ρ st) q := by unfold gSeq seqK; cases p ρ st <;> rfl
theorem seqK_nx {q : GS} : seqK (.nx ρ st) q = q ρ st := rfl
theorem seqK_ret {q : GS} : seqK (.ret v st) q = .ret v st := rfl
theorem seqK_exc {q : GS} : seqK (.exc c ρ st) q = .exc c ρ st := rfl
theorem seqK_ite {p : Prop} [Decidable p] {r s : SRes} {q : GS} : seqK (if p then r else s) q = if p then seqK r q else seqK s q := by split <;> rfl
theorem gRet_eq {g : G} : gRet g ρ st = toS ρ (g ρ st) fun v st => .ret v st := rfl
theorem gSet_eq {i : Nat} {g : G} : gSet i g ρ st = toS ρ (g ρ st) fun v st => .nx (ρ.set i (some v)) st := rfl
theorem gExpr_eq {g : G} : gExpr g ρ st = toS ρ (g ρ st) fun _ st => .nx ρ st := rfl
theorem gIfS_eq {p : GT} {s t : GS} : gIfS p s t ρ st = toST ρ (p ρ st) fun c st => if c = true then s ρ st else t ρ st := rfl
theorem gRaise_eq : gRaise c ρ st = .exc c ρ st := rfl
theorem gSkip_eq : gSkip ρ st = .nx ρ st := rfl
theorem gAsg_eq {g : G} {t : PV → GS} : gAsg g t ρ st = toS ρ (g ρ st) fun v st => t v ρ st := rfl
def toK : Option REnv → List SO → SRes
  | some ρ', st => .nx ρ' st
  | none, _ => .bad
theorem gTo_eq {t : PV → REnv → Option REnv} : gTo t v ρ st = toK (t v ρ) st := by unfold gTo toK; cases t v ρ <;> rfl
theorem toK_some : toK (some ρ') st = .nx ρ' st := rfl
theorem tgName_eq {i : Nat} : tgName i v ρ = some (ρ.set i (some v)) := rfl
theorem tgNil_eq : tgNil [] ρ = some ρ := rfl
theorem tgCons_eq {t : PV → REnv → Option REnv} {u : List PV → REnv → Option REnv} {xs : List PV} : tgCons t u (x :: xs) ρ = (t x ρ).bind (u xs) := rfl
theorem tgTup_eq {n : Nat} {u : List PV → REnv → Option REnv} {xs : List PV} : tgTup n u (.tup xs) ρ = if xs.length = n then u xs ρ else none := rfl
theorem bind_some {f : REnv → Option REnv} : (some ρ).bind f = f ρ := rfl
def parK (i j : Nat) (ρ : REnv) : Res (List PV) → SRes
  | .ok [x, y] st' => .nx ((ρ.set i (some x)).set j (some y)) st'
  | .ok _ _ => .bad
  | .exc c st' => .exc c ρ st'
  | .bad => .bad
theorem gPar_eq {i j : Nat} {g h : G} : gPar i j g h ρ st = parK i j ρ (gArgs [g, h] ρ st) := by
  unfold gPar parK
  cases gArgs [g, h] ρ st <;> rfl
theorem parK_ok {i j : Nat} : parK i j ρ (.ok [x, y] st) = .nx ((ρ.set i (some x)).set j (some y)) st := rfl
theorem parK_exc {i j : Nat} : parK i j ρ (.exc c st) = .exc c ρ st := rfl
def stK (ρ : REnv) : Option (List SO) → SRes
  | some st4 => .nx ρ st4
  | none => .bad
theorem gStore_eq {f : List SO → PV → PV → PV → Option (List SO)} {ge go gi : G} : gStore f ge go gi ρ st = toS ρ (ge ρ st) fun v st1 => toS ρ (go ρ st1) fun o st2 => toS ρ (gi ρ st2) fun i st3 => stK ρ (f st3 o i v) := by
  unfold gStore stK
  rfl
theorem stK_some : stK ρ (some st) = .nx ρ st := rfl
theorem gMeth_eq {T : String} {f : FM} {go : G} {gs : List G} : gMeth T f go gs ρ st = bnd (go ρ st) fun x st1 => if isT T st1 x = true then bnd (gArgs gs ρ st1) fun xs st2 => f st2 x xs else .bad := rfl
theorem allR_nx : allR (.nx ρ st) = .ok .non st := rfl
theorem allR_ret : allR (.ret v st) = .ok v st := rfl
theorem allR_exc : allR (.exc c ρ st) = .exc c st := rfl
theorem allR_ite {p : Prop} [Decidable p] {r s : SRes} : allR (if p then r else s) = if p then allR r else allR s := by split <;> rfl
theorem begin_eq {N n : Nat} {xs : List PV} : begin N n xs = xs.map some ++ List.replicate (N - n) none := rfl
/-! values -/
variable {i j : Int} {s t : Str} {k : Nat} {xs : List PV}
theorem addV_ii : addV st (.int i) (.int j) = some (.int (i + j)) := rfl
theorem addV_ss (h : LineOk (s.length + t.length)) : addV st (.str s) (.str t) = some (.str (s ++ t)) := if_pos h
theorem subV_ii : subV st (.int i) (.int j) = some (.int (i - j)) := rfl
theorem mulV_ii (h : MulOk i j) : mulV st (.int i) (.int j) = some (.int (i * j)) := if_pos h
theorem fdivV_ii (h0 : j ≠ 0) (h : DivOk i j) : fdivV st (.int i) (.int j) = some (.int (i.fdiv j)) := if_pos ⟨h0, h⟩
theorem modV_ii (h0 : j ≠ 0) : modV st (.int i) (.int j) = some (.int (i.fmod j)) := if_pos h0
theorem shlV_ii (h : ShlOk i j) : shlV st (.int i) (.int j) = some (.int (i * 2 ^ j.toNat)) := if_pos h
theorem ltV_ii : ltV st (.int i) (.int j) = some (.bl (decide (i < j))) := rfl
theorem leV_ii : leV st (.int i) (.int j) = some (.bl (decide (i ≤ j))) := rfl
theorem gtV_ii : gtV st (.int i) (.int j) = some (.bl (decide (j < i))) := rfl
theorem geV_ii : geV st (.int i) (.int j) = some (.bl (decide (j ≤ i))) := rfl
theorem negV_i : negV st (.int i) = some (.int (-i)) := rfl
theorem isNV_n : isNV st .non .non = some (.bl true) := rfl
theorem isNV_t : isNV st (.tup xs) .non = some (.bl false) := rfl
theorem isNV_l : isNV st (.lst xs) .non = some (.bl false) := rfl
theorem isNV_i : isNV st (.int i) .non = some (.bl false) := rfl
theorem isNV_s : isNV st (.str s) .non = some (.bl false) := rfl
theorem isNV_r : isNV st (.ref k) .non = some (.bl false) := rfl
theorem isNV_b : isNV st (.bl b) .non = some (.bl false) := rfl
theorem notNV_n : notNV st .non .non = some (.bl false) := rfl
theorem notNV_t : notNV st (.tup xs) .non = some (.bl true) := rfl
theorem notNV_l : notNV st (.lst xs) .non = some (.bl true) := rfl
theorem notNV_i : notNV st (.int i) .non = some (.bl true) := rfl
theorem notNV_s : notNV st (.str s) .non = some (.bl true) := rfl
theorem notNV_r : notNV st (.ref k) .non = some (.bl true) := rfl
theorem notNV_b : notNV st (.bl b) .non = some (.bl true) := rfl
theorem ixV_t : ixV st (.tup xs) (.int i) = atI xs i := rfl
theorem ixV_l : ixV st (.lst xs) (.int i) = atI xs i := rfl
def lstK (o : Option SO) (f : List PV → Option PV) : Option PV := match o with
  | some (.lst xs) => f xs
  | _ => none
theorem lstK_some {f : List PV → Option PV} : lstK (some (.lst xs)) f = f xs := rfl
theorem ixV_r : ixV st (.ref k) (.int i) = lstK st[k]? fun xs => atI xs i := rfl
theorem lenV_t : lenV st [.tup xs] = some (.int xs.length) := rfl
theorem lenV_l : lenV st [.lst xs] = some (.int xs.length) := rfl
theorem lenV_r : lenV st [.ref k] = lstK st[k]? fun xs => some (.int xs.length) := rfl
theorem lenV_s (h : LineOk s.length) : lenV st [.str s] = some (.int s.length) := if_pos h
theorem absV_i : absV st [.int i] = some (.int i.natAbs) := rfl
theorem max2V_ii : max2V st [.int i, .int j] = some (.int (if j > i then j else i)) := rfl
theorem min2V_ii : min2V st [.int i, .int j] = some (.int (if j < i then j else i)) := rfl
theorem bitsV_i : bitsV st (.int i) = some (.int (Builtin.Int.intBits i : Nat)) := rfl
noncomputable def appN (ys : List PV) (st : List SO) (k : Nat) (v : PV) : Res PV := if LenOk ys.length then .ok .non (st.set k (.lst (ys ++ [v]))) else .bad
theorem appN_ok (h : LenOk xs.length) : appN xs st k v = .ok .non (st.set k (.lst (xs ++ [v]))) := if_pos h
def setK (st : List SO) (k : Nat) (xs : List PV) (v : PV) : Option Nat → Option (List SO)
  | some m => some (st.set k (.lst (xs.set m v)))
  | none => none
def setL (o : Option SO) (st : List SO) (k : Nat) (i : Int) (v : PV) : Option (List SO) := match o with
  | some (.lst xs) => setK st k xs v (ixN xs.length i)
  | _ => none
theorem setL_some : setL (some (.lst xs)) st k i v = setK st k xs v (ixN xs.length i) := rfl
theorem setIV_r : setIV st (.ref k) (.int i) v = setL st[k]? st k i v := by
  show (match st[k]? with | some (.lst xs) => (match ixN xs.length i with | some m => some (st.set k (.lst (xs.set m v))) | none => none) | _ => none) = _
  unfold setL
  split
  · rename_i xs h
    show _ = setK st k xs v (ixN xs.length i)
    cases ixN xs.length i <;> rfl
  · rfl
theorem setK_some {m : Nat} : setK st k xs v (some m) = some (st.set k (.lst (xs.set m v))) := rfl
noncomputable def appK (o : Option SO) (st : List SO) (k : Nat) (v : PV) : Res PV := match o with
  | some (.lst ys) => appN ys st k v
  | _ => .bad
theorem appK_some : appK (some (.lst xs)) st k v = appN xs st k v := rfl
theorem appendM_r : appendM st (.ref k) [v] = appK st[k]? st k v := rfl
def isK (T : String) (o : Option SO) : Bool := match o with
  | some (.lst _) => T == "list"
  | some (.dK _) => T == "dict"
  | none => false
theorem isT_r {T : String} : isT T st (.ref k) = isK T st[k]? := rfl
theorem isK_l : isK "list" (some (.lst xs)) = true := rfl
theorem isT_s : isT "str" st (.str s) = true := rfl
/-! isinstance -/
def kitK (n : String) : Option String → Option PV
  | some t => (kitB t n).map fun b => .bl b
  | none => none
theorem isiV_eq {n : String} : isiV st [x, .ty n] = kitK n (tyN st x) := by
  show (match tyN st x with | some t => (kitB t n).map fun b => PV.bl b | none => none) = _
  unfold kitK
  cases tyN st x <;> rfl
theorem tyN_int : tyN st (.int i) = some "int" := rfl
theorem tyN_bl : tyN st (.bl b) = some "bool" := rfl
theorem tyN_non : tyN st .non = some "NoneType" := rfl
theorem tyN_str : tyN st (.str s) = some "str" := rfl
theorem tyN_tup : tyN st (.tup xs) = some "tuple" := rfl
theorem tyN_lst : tyN st (.lst xs) = some "list" := rfl
theorem tyN_dct {kvs : List (Key × PV)} : tyN st (.dct kvs) = some "dict" := rfl
def tyK (o : Option SO) : Option String := match o with
  | some (.lst _) => some "list"
  | some (.dK _) => some "dict"
  | none => none
theorem tyN_r : tyN st (.ref k) = tyK st[k]? := rfl
theorem tyK_l : tyK (some (.lst xs)) = some "list" := rfl
end
theorem kk_int_int : kitK "int" (some "int") = some (.bl true) := rfl
theorem kk_int_bool : kitK "int" (some "bool") = some (.bl true) := by
  show (kitB "bool" "int").map (fun b => PV.bl b) = _
  rw [show kitB "bool" "int" = some true by decide +kernel]; rfl
theorem kk_bool_bool : kitK "bool" (some "bool") = some (.bl true) := rfl
theorem kitK_f {n t : String} (h : kitB t n = some false) : kitK n (some t) = some (.bl false) := by
  show (kitB t n).map (fun b => PV.bl b) = _
  rw [h]; rfl
theorem kitK_t {n : String} : kitK n (some n) = some (.bl true) := by
  show (kitB n n).map (fun b => PV.bl b) = _
  have : kitB n n = some true := by unfold kitB; rw [if_pos (by simp)]
  rw [this]; rfl
theorem kk_int_str : kitK "int" (some "str") = some (.bl false) := kitK_f (by decide +kernel)
theorem kk_int_tuple : kitK "int" (some "tuple") = some (.bl false) := kitK_f (by decide +kernel)
theorem kk_int_list : kitK "int" (some "list") = some (.bl false) := kitK_f (by decide +kernel)
theorem kk_int_dict : kitK "int" (some "dict") = some (.bl false) := kitK_f (by decide +kernel)
theorem kk_int_NoneType : kitK "int" (some "NoneType") = some (.bl false) := kitK_f (by decide +kernel)
theorem kk_bool_int : kitK "bool" (some "int") = some (.bl false) := kitK_f (by decide +kernel)
theorem kk_bool_str : kitK "bool" (some "str") = some (.bl false) := kitK_f (by decide +kernel)
theorem kk_bool_tuple : kitK "bool" (some "tuple") = some (.bl false) := kitK_f (by decide +kernel)
theorem kk_bool_list : kitK "bool" (some "list") = some (.bl false) := kitK_f (by decide +kernel)
theorem kk_bool_dict : kitK "bool" (some "dict") = some (.bl false) := kitK_f (by decide +kernel)
theorem kk_bool_NoneType : kitK "bool" (some "NoneType") = some (.bl false) := kitK_f (by decide +kernel)
theorem kk_str_int : kitK "str" (some "int") = some (.bl false) := kitK_f (by decide +kernel)
theorem kk_str_bool : kitK "str" (some "bool") = some (.bl false) := kitK_f (by decide +kernel)
theorem kk_str_tuple : kitK "str" (some "tuple") = some (.bl false) := kitK_f (by decide +kernel)
theorem kk_str_list : kitK "str" (some "list") = some (.bl false) := kitK_f (by decide +kernel)
theorem kk_str_dict : kitK "str" (some "dict") = some (.bl false) := kitK_f (by decide +kernel)
theorem kk_str_NoneType : kitK "str" (some "NoneType") = some (.bl false) := kitK_f (by decide +kernel)
theorem kk_tuple_int : kitK "tuple" (some "int") = some (.bl false) := kitK_f (by decide +kernel)
theorem kk_tuple_bool : kitK "tuple" (some "bool") = some (.bl false) := kitK_f (by decide +kernel)
theorem kk_tuple_str : kitK "tuple" (some "str") = some (.bl false) := kitK_f (by decide +kernel)
theorem kk_tuple_list : kitK "tuple" (some "list") = some (.bl false) := kitK_f (by decide +kernel)
theorem kk_tuple_dict : kitK "tuple" (some "dict") = some (.bl false) := kitK_f (by decide +kernel)
theorem kk_tuple_NoneType : kitK "tuple" (some "NoneType") = some (.bl false) := kitK_f (by decide +kernel)
theorem kk_list_int : kitK "list" (some "int") = some (.bl false) := kitK_f (by decide +kernel)
theorem kk_list_bool : kitK "list" (some "bool") = some (.bl false) := kitK_f (by decide +kernel)
theorem kk_list_str : kitK "list" (some "str") = some (.bl false) := kitK_f (by decide +kernel)
theorem kk_list_tuple : kitK "list" (some "tuple") = some (.bl false) := kitK_f (by decide +kernel)
theorem kk_list_dict : kitK "list" (some "dict") = some (.bl false) := kitK_f (by decide +kernel)
theorem kk_list_NoneType : kitK "list" (some "NoneType") = some (.bl false) := kitK_f (by decide +kernel)
theorem kk_dict_int : kitK "dict" (some "int") = some (.bl false) := kitK_f (by decide +kernel)
theorem kk_dict_bool : kitK "dict" (some "bool") = some (.bl false) := kitK_f (by decide +kernel)
theorem kk_dict_str : kitK "dict" (some "str") = some (.bl false) := kitK_f (by decide +kernel)
theorem kk_dict_tuple : kitK "dict" (some "tuple") = some (.bl false) := kitK_f (by decide +kernel)
theorem kk_dict_list : kitK "dict" (some "list") = some (.bl false) := kitK_f (by decide +kernel)
theorem kk_dict_NoneType : kitK "dict" (some "NoneType") = some (.bl false) := kitK_f (by decide +kernel)
end Z
namespace Z
open PySem PySem.Spec PyProof.Rows L2
open Classical in
noncomputable def asI (v : PV) (st : List SO) : Res (List PV) := match v with
  | .int j => if RngOk j then .ok (rng 0 j.toNat) st else .bad
  | _ => .bad
theorem gRng1_eq {g : G} {ρ : REnv} {st : List SO} : gRng1 g ρ st = bnd (g ρ st) asI := by
  unfold gRng1
  cases g ρ st with
  | ok v st => cases v <;> rfl
  | _ => rfl
theorem asI_i {j : Int} {st : List SO} (h : RngOk j) : asI (.int j) st = .ok (rng 0 j.toNat) st := if_pos h
theorem gFor_eq {it : GL} {t : PV → REnv → Option REnv} {b : GS} {ρ : REnv} {st : List SO} : gFor it t b ρ st = toSL ρ (it ρ st) fun xs st => forg t b xs ρ st := rfl
def asLst (v : PV) (st : List SO) : Res (List PV) := match v with
  | .lst xs => .ok xs st
  | _ => .bad
def asTup (v : PV) (st : List SO) : Res (List PV) := match v with
  | .tup xs => .ok xs st
  | _ => .bad
theorem gItL_eq {g : G} {ρ : REnv} {st : List SO} : gItL g ρ st = bnd (g ρ st) asLst := by
  unfold gItL
  cases g ρ st with
  | ok v st => cases v <;> rfl
  | _ => rfl
theorem gItT_eq {g : G} {ρ : REnv} {st : List SO} : gItT g ρ st = bnd (g ρ st) asTup := by
  unfold gItT
  cases g ρ st with
  | ok v st => cases v <;> rfl
  | _ => rfl
theorem asLst_l {xs : List PV} {st : List SO} : asLst (.lst xs) st = .ok xs st := rfl
theorem asTup_t {xs : List PV} {st : List SO} : asTup (.tup xs) st = .ok xs st := rfl
/-- one turn of a for -/
theorem forg_nil {t : PV → REnv → Option REnv} {b : GS} {ρ : REnv} {st : List SO} : forg t b [] ρ st = .nx ρ st := rfl
def forK (t : PV → REnv → Option REnv) (b : GS) (xs : List PV) : SRes → SRes
  | .nx ρ st => forg t b xs ρ st
  | r => r
def forT (t : PV → REnv → Option REnv) (b : GS) (xs : List PV) (st : List SO) : Option REnv → SRes
  | some ρ1 => forK t b xs (b ρ1 st)
  | none => .bad
theorem forg_cons {t : PV → REnv → Option REnv} {b : GS} {x : PV} {xs : List PV} {ρ : REnv} {st : List SO} : forg t b (x :: xs) ρ st = forT t b xs st (t x ρ) := by
  show (match t x ρ with | some ρ1 => (match b ρ1 st with | .nx ρ2 st2 => forg t b xs ρ2 st2 | r => r) | none => .bad) = _
  unfold forT forK
  cases t x ρ with
  | none => rfl
  | some ρ1 => cases b ρ1 st <;> rfl
theorem forT_some {t : PV → REnv → Option REnv} {b : GS} {xs : List PV} {ρ : REnv} {st : List SO} : forT t b xs st (some ρ) = forK t b xs (b ρ st) := rfl
theorem forK_nx {t : PV → REnv → Option REnv} {b : GS} {xs : List PV} {ρ : REnv} {st : List SO} : forK t b xs (.nx ρ st) = forg t b xs ρ st := rfl
theorem forK_ret {t : PV → REnv → Option REnv} {b : GS} {xs : List PV} {v : PV} {st : List SO} : forK t b xs (.ret v st) = .ret v st := rfl
/-- a for that goes on at each turn, whatever its state -/
theorem forg_inv {t : PV → REnv → Option REnv} {b : GS} (I : REnv → List SO → Prop) : ∀ (xs : List PV) (ρ : REnv) (st : List SO), I ρ st →
    (∀ x ∈ xs, ∀ ρ st, I ρ st → ∃ ρ1 ρ2 st2, t x ρ = some ρ1 ∧ b ρ1 st = .nx ρ2 st2 ∧ I ρ2 st2) → ∃ ρ' st', forg t b xs ρ st = .nx ρ' st' ∧ I ρ' st'
  | [], ρ, st, h, _ => ⟨ρ, st, rfl, h⟩
  | x :: xs, ρ, st, h, hs => by
    obtain ⟨ρ1, ρ2, st2, e1, e2, h2⟩ := hs x List.mem_cons_self ρ st h
    obtain ⟨ρ3, st3, e3, h3⟩ := forg_inv I xs ρ2 st2 h2 fun y hy => hs y (List.mem_cons_of_mem _ hy)
    exact ⟨ρ3, st3, by rw [forg_cons, e1, forT_some, e2, forK_nx, e3], h3⟩
end Z
/-! Reckoning with the codes. -/
namespace Z
open PySem PySem.Spec PyProof.Rows L2
theorem seq_nx {a b : GS} {ρ ρ' : REnv} {st st' : List SO} {r : SRes} (h : a ρ st = .nx ρ' st') (h2 : b ρ' st' = r) : gSeq a b ρ st = r := by unfold gSeq; rw [h]; exact h2
theorem seq_ret {a b : GS} {ρ : REnv} {st st' : List SO} {v : PV} (h : a ρ st = .ret v st') : gSeq a b ρ st = .ret v st' := by unfold gSeq; rw [h]
theorem seq_exc {a b : GS} {ρ ρ' : REnv} {st st' : List SO} {c : Str} (h : a ρ st = .exc c ρ' st') : gSeq a b ρ st = .exc c ρ' st' := by unfold gSeq; rw [h]
section
variable {α : Type} {a b c d e f : α} {xs : List α}
theorem at0 : atI (a :: xs) 0 = some a := by simp [atI, ixN]
theorem at1 : atI (a :: b :: xs) 1 = some b := atI_nat (j := 1) rfl
theorem at2 : atI (a :: b :: c :: xs) 2 = some c := atI_nat (j := 2) rfl
theorem at3 : atI (a :: b :: c :: d :: xs) 3 = some d := atI_nat (j := 3) rfl
theorem at4 : atI (a :: b :: c :: d :: e :: xs) 4 = some e := atI_nat (j := 4) rfl
theorem at5 : atI (a :: b :: c :: d :: e :: f :: xs) 5 = some f := atI_nat (j := 5) rfl
theorem atN {n : Nat} (h : xs[n]? = some a) : atI xs (n : Int) = some a := atI_nat h
theorem ixN0 {n : Nat} : ixN (n + 1) 0 = some 0 := by simp [ixN]
theorem ixN1 {n : Nat} : ixN (n + 1 + 1) 1 = some 1 := by
  unfold ixN
  rw [if_pos (by decide), if_pos (by omega)]
  rfl
end
/-! ### powers of ten -/
theorem pw6 {st : List SO} : powV st (.int 10) (.int 6) = some (.int 1000000) := rfl
theorem pw9 {st : List SO} : powV st (.int 10) (.int 9) = some (.int 1000000000) := rfl
theorem pw18 {st : List SO} : powV st (.int 10) (.int 18) = some (.int 1000000000000000000) := rfl
theorem pw19 {st : List SO} : powV st (.int 10) (.int 19) = some (.int 10000000000000000000) := rfl
theorem pw20 {st : List SO} : powV st (.int 10) (.int 20) = some (.int 100000000000000000000) := rfl
theorem pw25 {st : List SO} : powV st (.int 10) (.int 25) = some (.int 10000000000000000000000000) := rfl
theorem pw30 {st : List SO} : powV st (.int 10) (.int 30) = some (.int 1000000000000000000000000000000) := rfl
theorem pw39 {st : List SO} : powV st (.int 10) (.int 39) = some (.int 1000000000000000000000000000000000000000) := rfl
/-! ### sizes -/
theorem two_big : (2 : Nat) ≤ sizeLine := by decide
theorem mulOk_of {i j : Int} {a b : Nat} (ha : i.natAbs < 2 ^ a) (hb : j.natAbs < 2 ^ b) (h : a + b ≤ 900000) : MulOk i j := by
  have ha' : i.natAbs < 2 ^ (a + 1) := Nat.lt_of_lt_of_le ha (Nat.pow_le_pow_right (by omega) (by omega))
  have hb' : j.natAbs < 2 ^ (b + 1) := Nat.lt_of_lt_of_le hb (Nat.pow_le_pow_right (by omega) (by omega))
  exact wide_mul ha' hb' (by omega) (by omega) (by omega)
theorem divOk_of {i j : Int} {b : Nat} (hb : j.natAbs < 2 ^ b) (h : b ≤ 9000) : DivOk i j := by
  by_cases h0 : b = 0
  · subst h0
    have : j = 0 := by omega
    subst this
    exact PyProof.noPylong_of_log2 (by decide)
  · exact PyProof.noPylong_of_log2 (Nat.lt_of_lt_of_le (PySem.Flt.log2_lt_of (by omega) hb) h)
/-! ### data that are equal -/
theorem sh_int (i : Int) : SeqAt.shaped (.int i) = true := rfl
theorem eqD_int {st : List SO} {i j : Int} : eqD st (.int i) (.int j) = some (i == j) := by
  unfold eqD
  simp only [de, toD, sh_int, and_self, if_true, PyData.eqv]
theorem eqV_int {st : List SO} {i j : Int} : eqV st (.int i) (.int j) = some (.bl (i == j)) := by unfold eqV; rw [eqD_int]; rfl
theorem neV_int {st : List SO} {i j : Int} : neV st (.int i) (.int j) = some (.bl (!(i == j))) := by unfold neV; rw [eqD_int]; rfl
theorem sh_ii (i j : Int) : SeqAt.shaped (.tuple [.int i, .int j]) = true := rfl
theorem eqD_ii {st : List SO} {i j k l : Int} : eqD st (.tup [.int i, .int j]) (.tup [.int k, .int l]) = some (i == k && j == l) := by
  unfold eqD
  simp only [de, toD, toDL, sh_ii, and_self, if_true, PyData.eqv, PyData.eqvAll, Bool.and_true]
theorem eqV_ii {st : List SO} {i j k l : Int} : eqV st (.tup [.int i, .int j]) (.tup [.int k, .int l]) = some (.bl (i == k && j == l)) := by unfold eqV; rw [eqD_ii]; rfl
theorem neV_ii {st : List SO} {i j k l : Int} : neV st (.tup [.int i, .int j]) (.tup [.int k, .int l]) = some (.bl (!(i == k && j == l))) := by unfold neV; rw [eqD_ii]; rfl
end Z
/-! Plain mathematics: fractions as rationals, sizes. -/
namespace Z
open PySem PySem.Spec PyProof.Rows L2
/-- a measure: the int in a slot -/
def muI (i : Nat) : REnv → Nat := fun r => match r[i]? with
  | some (some (.int b)) => b.natAbs + 1
  | _ => 0
/-- a fraction -/
def fr (q : Rat) : PV := .tup [.int q.num, .int (q.den : Int)]
/-- below 2 ^ n in size -/
def Sz (n : Nat) (i : Int) : Prop := i.natAbs < 2 ^ n
theorem Sz.mono {n m : Nat} {i : Int} (h : Sz n i) (l : n ≤ m) : Sz m i := Nat.lt_of_lt_of_le h (Nat.pow_le_pow_right (by omega) l)
theorem Sz.mul {n m : Nat} {i j : Int} (h : Sz n i) (k : Sz m j) : Sz (n + m) (i * j) := wide_lt h k
theorem Sz.add {n m : Nat} {i j : Int} (h : Sz n i) (k : Sz m j) : Sz (n + m + 1) (i + j) := by
  have h' := h.mono (show n ≤ n + m by omega)
  have k' := k.mono (show m ≤ n + m by omega)
  unfold Sz at *
  have : (i + j).natAbs ≤ i.natAbs + j.natAbs := Int.natAbs_add_le i j
  rw [Nat.pow_succ]
  omega
theorem Sz.addm {n : Nat} {i j : Int} (h : Sz n i) (k : Sz n j) : Sz (n + 1) (i + j) := by
  unfold Sz at *
  have : (i + j).natAbs ≤ i.natAbs + j.natAbs := Int.natAbs_add_le i j
  rw [Nat.pow_succ]
  omega
theorem Sz.neg {n : Nat} {i : Int} (h : Sz n i) : Sz n (-i) := by unfold Sz at *; rw [Int.natAbs_neg]; exact h
theorem Sz.sub {n : Nat} {i j : Int} (h : Sz n i) (k : Sz n j) : Sz (n + 1) (i - j) := by rw [Int.sub_eq_add_neg]; exact h.addm k.neg
theorem Sz.mulOk {n m : Nat} {i j : Int} (h : Sz n i) (k : Sz m j) (l : n + m ≤ 900000) : MulOk i j := mulOk_of h k l
theorem Sz.divOk {n : Nat} {i j : Int} (k : Sz n j) (l : n ≤ 9000) : DivOk i j := divOk_of k l
theorem Sz.le {n : Nat} {i j : Int} (k : Sz n j) (l : i.natAbs ≤ j.natAbs) : Sz n i := Nat.lt_of_le_of_lt l k
/-- both parts of a fraction -/
def RS (n : Nat) (q : Rat) : Prop := Sz n q.num ∧ q.den < 2 ^ n
theorem RS.mono {n m : Nat} {q : Rat} (h : RS n q) (l : n ≤ m) : RS m q := ⟨h.1.mono l, Nat.lt_of_lt_of_le h.2 (Nat.pow_le_pow_right (by omega) l)⟩
theorem RS.den {n : Nat} {q : Rat} (h : RS n q) : Sz n (q.den : Int) := by unfold Sz; rw [Int.natAbs_natCast]; exact h.2
/-! ### a slot -/
theorem set_id {ρ : REnv} {i : Nat} {x : Option PV} (h : ρ[i]? = some x) : ρ.set i x = ρ := by
  apply List.ext_getElem?
  intro j
  by_cases e : i = j
  · subst e
    rw [List.getElem?_set_self (List.getElem?_eq_some_iff.mp h).1, h]
  · rw [List.getElem?_set_ne e]
theorem lt_of_slot {ρ : REnv} {i : Nat} {x : Option PV} (h : ρ[i]? = some x) : i < ρ.length := (List.getElem?_eq_some_iff.mp h).1
theorem gVar_of {ρ : REnv} {i : Nat} {x : PV} {st : List SO} (h : ρ[i]? = some (some x)) : gVar i ρ st = .ok x st := by unfold gVar; rw [h]
/-- while b > 0: a, b = b, a % b -/
theorem whl_gcd {i j : Nat} (hij : i ≠ j) : ∀ (n : Nat) (ρ : REnv) (a b : Nat) (st : List SO), ρ[i]? = some (some (.int a)) → ρ[j]? = some (some (.int b)) → b < n →
    whl (gB (gBin gtV (gVar j) (gC (.int 0)))) (gPar i j (gVar j) (gBin modV (gVar i) (gVar j))) n ρ st = .nx ((ρ.set i (some (.int (Nat.gcd a b)))).set j (some (.int 0))) st
  | 0, ρ, a, b, st, hi, hj, h => by omega
  | n + 1, ρ, a, b, st, hi, hj, h => by
    have hb0 : (decide ((0 : Int) < (b : Int))) = decide (0 < b) := by
      by_cases q : 0 < b
      · rw [decide_eq_true q, decide_eq_true (by omega)]
      · rw [decide_eq_false q, decide_eq_false (by omega)]
    unfold whl
    simp only [gB, gBin, gVar_of hj, bnd, gC, oo, gtV, toST, hb0, decide_eq_true_eq]
    by_cases hb : 0 < b
    · rw [if_pos hb]
      have e : gPar i j (gVar j) (gBin modV (gVar i) (gVar j)) ρ st = .nx ((ρ.set i (some (.int b))).set j (some (.int ((a % b : Nat) : Int)))) st := by
        have hne : ¬ ((b : Int) = 0) := by omega
        have em : Int.fmod (a : Int) (b : Int) = ((a % b : Nat) : Int) := by rw [Int.fmod_eq_emod_of_nonneg _ (by omega)]; exact (Int.natCast_emod a b).symm
        simp only [gPar, gArgs, gBin, gVar_of hj, gVar_of hi, bnd, oo, modV, ne_eq, hne, not_false_eq_true, if_true, em]
      rw [e]
      have li := lt_of_slot hi
      have lj := lt_of_slot hj
      have ih := whl_gcd hij n ((ρ.set i (some (.int b))).set j (some (.int ((a % b : Nat) : Int)))) b (a % b) st
        (by rw [List.getElem?_set_ne (Ne.symm hij), List.getElem?_set_self li]) (by rw [List.getElem?_set_self (by rw [List.length_set]; exact lj)]) (by have := Nat.mod_lt a hb; omega)
      show whl _ _ n ((ρ.set i (some (.int b))).set j (some (.int ((a % b : Nat) : Int)))) st = _
      rw [ih]
      have eg : Nat.gcd b (a % b) = Nat.gcd a b := by rw [Nat.gcd_comm b, ← Nat.gcd_rec, Nat.gcd_comm]
      rw [eg]
      have : ((((ρ.set i (some (.int b))).set j (some (.int ((a % b : Nat) : Int)))).set i (some (.int (Nat.gcd a b)))).set j (some (.int 0))) = ((ρ.set i (some (.int (Nat.gcd a b)))).set j (some (.int 0))) := by
        rw [List.set_comm _ _ (Ne.symm hij), List.set_set, List.set_set]
      rw [this]
    · rw [if_neg hb]
      have b0 : b = 0 := by omega
      subst b0
      rw [Nat.gcd_zero_right, set_id hi]
      have hj' : ρ[j]? = some (some (PV.int 0)) := hj
      rw [set_id hj']
/-! ### a pot: one int in a list -/
def PS (st : List SO) (k : Nat) (n : Int) : List SO := st.set k (.lst [.int n])
theorem PS_at {st : List SO} {k : Nat} {n : Int} (hk : k < st.length) : (PS st k n)[k]? = some (.lst [.int n]) := List.getElem?_set_self hk
theorem PS_set {st : List SO} {k : Nat} {n m : Int} : (PS st k n).set k (.lst [.int m]) = PS st k m := List.set_set ..
theorem PS_len {st : List SO} {k : Nat} {n : Int} : (PS st k n).length = st.length := List.length_set ..
theorem PS_new {st : List SO} {n : Int} : st ++ [SO.lst [.int n]] = PS (st ++ [.lst []]) st.length n := by
  unfold PS
  rw [List.set_append_right _ _ (Nat.le_refl _), Nat.sub_self]
  rfl
theorem new_lt {st : List SO} {c : SO} : st.length < (st ++ [c]).length := by simp
/-! ### lowest terms -/
theorem fdiv_exact {g k : Int} (hg : g ≠ 0) : (g * k).fdiv g = k := Int.mul_fdiv_cancel_left _ hg
theorem gcd_pos_of {t b : Int} (hb : b ≠ 0) : (0 : Int) < (Int.gcd t b : Int) := by
  have : 0 < Int.gcd t b := Int.gcd_pos_of_ne_zero_right t hb
  omega
/-- t and b by the gcd, the bottom above 0: as the program and as the laws reckon it -/
theorem low_num {t b : Int} (hb : b ≠ 0) : t.fdiv (if b < 0 then -(Int.gcd t b : Int) else Int.gcd t b) = (Rat.divInt t b).num := by
  have hg := gcd_pos_of (t := t) hb
  obtain ⟨k, hk⟩ := Int.gcd_dvd_left t b
  rw [Rat.num_divInt, Int.gcd_comm b t]
  by_cases h : b < 0
  · rw [if_pos h, Int.sign_eq_neg_one_of_neg h]
    generalize (Int.gcd t b : Int) = g at hg hk
    subst hk
    have e1 : (g * k).fdiv (-g) = -k := by
      have : g * k = (-g) * (-k) := by rw [Int.neg_mul_neg]
      rw [this]; exact fdiv_exact (by omega)
    have e2 : -1 * (g * k) / g = -k := by
      have : -1 * (g * k) = g * (-k) := by rw [Int.neg_mul, Int.one_mul, Int.mul_neg]
      rw [this]; exact Int.mul_ediv_cancel_left _ (by omega)
    rw [e1, e2]
  · rw [if_neg h, Int.sign_eq_one_of_pos (by omega)]
    generalize (Int.gcd t b : Int) = g at hg hk
    subst hk
    rw [fdiv_exact (by omega), Int.one_mul]
    exact (Int.mul_ediv_cancel_left _ (by omega)).symm
theorem low_den {t b : Int} (hb : b ≠ 0) : b.fdiv (if b < 0 then -(Int.gcd t b : Int) else Int.gcd t b) = ((Rat.divInt t b).den : Int) := by
  have hg := gcd_pos_of (t := t) hb
  obtain ⟨k, hk⟩ := Int.gcd_dvd_right t b
  rw [Rat.den_divInt, if_neg hb, Int.gcd_comm b t, Int.natCast_ediv]
  by_cases h : b < 0
  · rw [if_pos h]
    have hn : (b.natAbs : Int) = -b := by omega
    rw [hn]
    generalize (Int.gcd t b : Int) = g at hg hk
    subst hk
    have e1 : (g * k).fdiv (-g) = -k := by
      have : g * k = (-g) * (-k) := by rw [Int.neg_mul_neg]
      rw [this]; exact fdiv_exact (by omega)
    have e2 : -(g * k) / g = -k := by
      have : -(g * k) = g * (-k) := by rw [Int.mul_neg]
      rw [this]; exact Int.mul_ediv_cancel_left _ (by omega)
    rw [e1, e2]
  · rw [if_neg h]
    have hn : (b.natAbs : Int) = b := by omega
    rw [hn]
    generalize (Int.gcd t b : Int) = g at hg hk
    subst hk
    rw [fdiv_exact (by omega)]
    exact (Int.mul_ediv_cancel_left _ (by omega)).symm
theorem gcd_neg2 (t b : Int) : Int.gcd (-t) (-b) = Int.gcd t b := by rw [Int.gcd_neg, Int.neg_gcd]
theorem low_num' {t b : Int} (hb : b ≠ 0) : (if b < 0 then 0 - t else t).fdiv (Int.gcd t b : Int) = (Rat.divInt t b).num := by
  rw [← low_num hb]
  have hg := gcd_pos_of (t := t) hb
  obtain ⟨k, hk⟩ := Int.gcd_dvd_left t b
  by_cases h : b < 0
  · rw [if_pos h, if_pos h]
    generalize (Int.gcd t b : Int) = g at hg hk
    subst hk
    have e1 : (g * k).fdiv (-g) = -k := by
      have : g * k = (-g) * (-k) := by rw [Int.neg_mul_neg]
      rw [this]; exact fdiv_exact (by omega)
    have e2 : (0 - g * k).fdiv g = -k := by
      have : 0 - g * k = g * (-k) := by rw [Int.mul_neg]; omega
      rw [this]; exact fdiv_exact (by omega)
    rw [e1, e2]
  · rw [if_neg h, if_neg h]
theorem low_den' {t b : Int} (hb : b ≠ 0) : (if b < 0 then 0 - b else b).fdiv (Int.gcd t b : Int) = ((Rat.divInt t b).den : Int) := by
  rw [← low_den hb]
  have hg := gcd_pos_of (t := t) hb
  obtain ⟨k, hk⟩ := Int.gcd_dvd_right t b
  by_cases h : b < 0
  · rw [if_pos h, if_pos h]
    generalize (Int.gcd t b : Int) = g at hg hk
    subst hk
    have e1 : (g * k).fdiv (-g) = -k := by
      have : g * k = (-g) * (-k) := by rw [Int.neg_mul_neg]
      rw [this]; exact fdiv_exact (by omega)
    have e2 : (0 - g * k).fdiv g = -k := by
      have : 0 - g * k = g * (-k) := by rw [Int.mul_neg]; omega
      rw [this]; exact fdiv_exact (by omega)
    rw [e1, e2]
  · rw [if_neg h, if_neg h]
/-- what is told of a fraction of two ints -/
theorem RS.divInt {n : Nat} {t b : Int} (ht : Sz n t) (hb : Sz n b) (h0 : b ≠ 0) : RS n (Rat.divInt t b) := by
  have hg := gcd_pos_of (t := t) h0
  constructor
  · rw [Rat.num_divInt]
    refine Sz.le ht ?_
    have : (b.sign * t / (b.gcd t : Int)).natAbs ≤ (b.sign * t).natAbs := Int.natAbs_ediv_le_natAbs _ _
    have h2 : (b.sign * t).natAbs ≤ t.natAbs := by
      rw [Int.natAbs_mul, Int.natAbs_sign_of_ne_zero h0, Nat.one_mul]; exact Nat.le_refl _
    omega
  · rw [Rat.den_divInt, if_neg h0]
    exact Nat.lt_of_le_of_lt (Nat.div_le_self _ _) hb
/-! ### the four operations over numerators and denominators -/
theorem den0 (q : Rat) : ((q.den : Int)) ≠ 0 := by have := q.den_pos; omega
theorem dpos (q : Rat) : (0 : Int) < (q.den : Int) := by have := q.den_pos; omega
theorem add_eq (q r : Rat) : Rat.divInt (q.num * r.den + r.num * q.den) (q.den * r.den) = q + r := by
  rw [← Rat.divInt_add_divInt _ _ (den0 q) (den0 r), Rat.num_divInt_den, Rat.num_divInt_den]
theorem sub_eq (q r : Rat) : Rat.divInt (q.num * r.den - r.num * q.den) (q.den * r.den) = q - r := by
  rw [← Rat.divInt_sub_divInt _ _ (den0 q) (den0 r), Rat.num_divInt_den, Rat.num_divInt_den]
theorem mul_eq (q r : Rat) : Rat.divInt (q.num * r.num) (q.den * r.den) = q * r := by
  rw [← Rat.divInt_mul_divInt, Rat.num_divInt_den, Rat.num_divInt_den]
theorem div_eq (q r : Rat) : Rat.divInt (q.num * r.den) (q.den * r.num) = q / r := by
  rw [Rat.div_def, ← Rat.divInt_mul_divInt, Rat.num_divInt_den, ← Rat.inv_divInt, Rat.num_divInt_den]
theorem lt_eq (q r : Rat) : (decide (q.num * r.den < r.num * q.den)) = decide (q < r) := by
  have := Rat.lt_iff q r
  by_cases h : q < r
  · rw [decide_eq_true h, decide_eq_true (this.mp h)]
  · rw [decide_eq_false h, decide_eq_false (fun z => h (this.mpr z))]
theorem num_ne {q : Rat} (h : q ≠ 0) : q.num ≠ 0 := fun e => h (Rat.num_eq_zero.mp e)
theorem RS.add {n m : Nat} {q r : Rat} (h : RS n q) (k : RS m r) : RS (n + m + 1) (q + r) := by
  rw [← add_eq]
  have d0 : (q.den * r.den : Int) ≠ 0 := Int.mul_ne_zero (den0 q) (den0 r)
  exact RS.divInt ((h.1.mul k.den).addm (by rw [Nat.add_comm]; exact k.1.mul h.den)) ((h.den.mul k.den).mono (by omega)) d0
theorem RS.sub {n m : Nat} {q r : Rat} (h : RS n q) (k : RS m r) : RS (n + m + 1) (q - r) := by
  rw [← sub_eq]
  have d0 : (q.den * r.den : Int) ≠ 0 := Int.mul_ne_zero (den0 q) (den0 r)
  exact RS.divInt ((h.1.mul k.den).sub (by rw [Nat.add_comm]; exact k.1.mul h.den)) ((h.den.mul k.den).mono (by omega)) d0
theorem RS.mul {n m : Nat} {q r : Rat} (h : RS n q) (k : RS m r) : RS (n + m) (q * r) := by
  rw [← mul_eq]
  exact RS.divInt (h.1.mul k.1) (h.den.mul k.den) (Int.mul_ne_zero (den0 q) (den0 r))
theorem RS.div {n m : Nat} {q r : Rat} (h : RS n q) (k : RS m r) (hr : r ≠ 0) : RS (n + m) (q / r) := by
  rw [← div_eq]
  exact RS.divInt (h.1.mul k.den) (h.den.mul k.1) (Int.mul_ne_zero (den0 q) (num_ne hr))
theorem RS.neg {n : Nat} {q : Rat} (h : RS n q) : RS n (-q) := ⟨by rw [Rat.neg_num]; exact h.1.neg, h.2⟩
theorem gcd_sz {n : Nat} {t b : Int} (h : Sz n b) (hb : b ≠ 0) : Sz n (Int.gcd t b) := by
  refine Sz.le h ?_
  rw [Int.natAbs_natCast]
  exact Nat.le_of_dvd (by omega) (Int.natAbs_dvd_natAbs.mpr (Int.gcd_dvd_right t b) |> fun z => by simpa using z)
theorem fr_inj {q r : Rat} : (q.num == r.num && (q.den : Int) == (r.den : Int)) = decide (q = r) := by
  by_cases h : q = r
  · subst h; simp
  · rw [decide_eq_false h]
    by_cases h1 : q.num = r.num
    · have h2 : q.den ≠ r.den := fun e => h (Rat.ext h1 e)
      have h3 : ¬ ((q.den : Int) = (r.den : Int)) := by omega
      simp [h1, h3]
    · simp [h1]
end Z
namespace Z
open PySem PySem.Spec PyProof.Rows L2
/-! ### whole roots -/
theorem exists_sqrt : ∀ N : Nat, ∃ r : Nat, r * r ≤ N ∧ N < (r + 1) * (r + 1)
  | 0 => ⟨0, by omega, by omega⟩
  | N + 1 => by
    obtain ⟨r, h1, h2⟩ := exists_sqrt N
    by_cases h : (r + 1) * (r + 1) ≤ N + 1
    · refine ⟨r + 1, h, ?_⟩
      have : (r + 1 + 1) * (r + 1 + 1) = (r + 1) * (r + 1) + (r + 1) + (r + 1) + 1 := by
        rw [Nat.add_mul, Nat.mul_add]; omega
      omega
    · exact ⟨r, by omega, by omega⟩
noncomputable def isq (N : Nat) : Nat := Classical.choose (exists_sqrt N)
theorem isq_le (N : Nat) : isq N * isq N ≤ N := (Classical.choose_spec (exists_sqrt N)).1
theorem isq_lt (N : Nat) : N < (isq N + 1) * (isq N + 1) := (Classical.choose_spec (exists_sqrt N)).2
theorem isq_of {N r : Nat} (h1 : r * r ≤ N) (h2 : N < (r + 1) * (r + 1)) : isq N = r := by
  have a := isq_le N
  have b := isq_lt N
  by_cases h : isq N < r
  · have : (isq N + 1) * (isq N + 1) ≤ r * r := Nat.mul_le_mul (by omega) (by omega)
    omega
  · by_cases h' : r < isq N
    · have : (r + 1) * (r + 1) ≤ isq N * isq N := Nat.mul_le_mul (by omega) (by omega)
      omega
    · omega
theorem isq_sq (r : Nat) : isq (r * r) = r := isq_of (Nat.le_refl _) (by rw [Nat.add_mul, Nat.mul_add]; omega)
theorem isq_self_le (N : Nat) : isq N ≤ N := by
  have h := isq_le N
  by_cases z : isq N = 0
  · omega
  · have : isq N * 1 ≤ isq N * isq N := Nat.mul_le_mul_left _ (by omega)
    omega
theorem newton_ge {f N : Nat} (hf : 0 < f) : N < ((f + N / f) / 2 + 1) * ((f + N / f) / 2 + 1) := by
  have h1 : N < f * (N / f + 1) := by
    have := Nat.div_add_mod N f
    have := Nat.mod_lt N hf
    rw [Nat.mul_add]; omega
  generalize N / f = q at *
  have h2 : f + q ≤ 2 * ((f + q) / 2) + 1 := by omega
  generalize (f + q) / 2 = m at *
  have h3 : (f + q + 1) * (f + q + 1) ≤ (2 * (m + 1)) * (2 * (m + 1)) := Nat.mul_le_mul (by omega) (by omega)
  have h4 : 4 * (f * (q + 1)) ≤ (f + q + 1) * (f + q + 1) := by
    have e : ((f : Int) + q + 1) * (f + q + 1) - 4 * (f * (q + 1)) = ((f : Int) - (q + 1)) * (f - (q + 1)) := by grind
    have p : 0 ≤ ((f : Int) - (q + 1)) * (f - (q + 1)) := by
      by_cases s : (0 : Int) ≤ (f : Int) - (q + 1)
      · exact Int.mul_nonneg s s
      · have : ((f : Int) - (q + 1)) * (f - (q + 1)) = (-((f : Int) - (q + 1))) * (-((f : Int) - (q + 1))) := by rw [Int.neg_mul_neg]
        rw [this]; exact Int.mul_nonneg (by omega) (by omega)
    have : (4 * ((f : Int) * (q + 1))) ≤ ((f : Int) + q + 1) * (f + q + 1) := by omega
    exact_mod_cast this
  have h5 : (2 * (m + 1)) * (2 * (m + 1)) = 4 * ((m + 1) * (m + 1)) := by grind
  omega
theorem newton_lt {f N : Nat} (h : N < f * f) : (f + N / f) / 2 < f := by
  have hf : 0 < f := by
    by_cases z : f = 0
    · subst z; omega
    · omega
  have : N / f < f := (Nat.div_lt_iff_lt_mul hf).mpr h
  omega
end Z
namespace Z
open PySem PySem.Spec PyProof.Rows L2
/-! ### the root of a fraction -/
theorem sq_num (r : Rat) : (r * r).num = r.num * r.num := by
  have := Rat.num_pow r 2
  rw [show r ^ 2 = r * r by grind] at this
  rw [this]; grind
theorem sq_den (r : Rat) : (r * r).den = r.den * r.den := by
  have := Rat.den_pow r 2
  rw [show r ^ 2 = r * r by grind] at this
  rw [this]; grind
def isSq (q : Rat) : Prop := 0 ≤ q.num ∧ isq q.num.toNat * isq q.num.toNat = q.num.toNat ∧ isq q.den * isq q.den = q.den
open Classical in
noncomputable def rootQ (q : Rat) : Option Rat := if isSq q then some (Rat.divInt (isq q.num.toNat) (isq q.den)) else none
/-- a root told, or None -/
noncomputable def frO (o : Option Rat) : PV := match o with
  | some r => fr r
  | none => .non
theorem isSq_parts {q : Rat} (h : isSq q) : (Rat.divInt (isq q.num.toNat) (isq q.den)).num = isq q.num.toNat ∧ (Rat.divInt (isq q.num.toNat) (isq q.den)).den = isq q.den := by
  obtain ⟨h0, h1, h2⟩ := h
  have d0 : isq q.den ≠ 0 := fun z => by rw [z] at h2; have := q.den_pos; omega
  have cop : Int.gcd (isq q.den : Int) (isq q.num.toNat : Int) = 1 := by
    have hc : Nat.gcd q.num.natAbs q.den = 1 := q.reduced
    have hn : q.num.natAbs = q.num.toNat := by omega
    rw [hn, ← h1, ← h2] at hc
    have hd : Nat.gcd (isq q.den) (isq q.num.toNat) ∣ 1 := by
      rw [← hc]
      exact Nat.dvd_gcd (Nat.dvd_trans (Nat.gcd_dvd_right _ _) (Nat.dvd_mul_left _ _)) (Nat.dvd_trans (Nat.gcd_dvd_left _ _) (Nat.dvd_mul_left _ _))
    exact Nat.dvd_one.mp hd
  constructor
  · rw [Rat.num_divInt, cop, Int.sign_eq_one_of_pos (by omega)]; simp
  · rw [Rat.den_divInt, cop, if_neg (by omega)]; simp
theorem rootQ_sq (r : Rat) : rootQ (r * r) = some (if 0 ≤ r then r else -r) := by
  have hs : isSq (r * r) := by
    refine ⟨?_, ?_, ?_⟩
    · rw [sq_num]
      by_cases s : 0 ≤ r.num
      · exact Int.mul_nonneg s s
      · have : r.num * r.num = (-r.num) * (-r.num) := by rw [Int.neg_mul_neg]
        rw [this]; exact Int.mul_nonneg (by omega) (by omega)
    · rw [sq_num]
      have : (r.num * r.num).toNat = r.num.natAbs * r.num.natAbs := by
        have : r.num * r.num = ((r.num.natAbs * r.num.natAbs : Nat) : Int) := (Int.natAbs_mul_self).symm
        rw [this, Int.toNat_natCast]
      rw [this, isq_sq]
    · rw [sq_den, isq_sq]
  unfold rootQ
  rw [if_pos hs]
  congr 1
  obtain ⟨e1, e2⟩ := isSq_parts hs
  have en : isq (r * r).num.toNat = r.num.natAbs := by
    rw [sq_num]
    have : (r.num * r.num).toNat = r.num.natAbs * r.num.natAbs := by
      have : r.num * r.num = ((r.num.natAbs * r.num.natAbs : Nat) : Int) := (Int.natAbs_mul_self).symm
      rw [this, Int.toNat_natCast]
    rw [this, isq_sq]
  have ed : isq (r * r).den = r.den := by rw [sq_den, isq_sq]
  rw [en, ed] at e1 e2
  rw [en, ed]
  by_cases s : 0 ≤ r
  · rw [if_pos s]
    have sn := Rat.num_nonneg.mpr s
    refine Rat.ext ?_ ?_
    · rw [e1]; omega
    · exact e2
  · rw [if_neg s]
    have sn : ¬ 0 ≤ r.num := fun z => s (Rat.num_nonneg.mp z)
    refine Rat.ext ?_ ?_
    · rw [e1, Rat.neg_num]; omega
    · rw [Rat.neg_den]; exact e2
theorem rootQ_some {q r : Rat} (h : rootQ q = some r) : 0 ≤ r ∧ r * r = q := by
  unfold rootQ at h
  by_cases hs : isSq q
  · rw [if_pos hs] at h
    cases h
    obtain ⟨e1, e2⟩ := isSq_parts hs
    refine ⟨Rat.num_nonneg.mp (by rw [e1]; omega), Rat.ext ?_ ?_⟩
    · rw [sq_num, e1]
      have := hs.2.1
      have h0 := hs.1
      have : ((isq q.num.toNat * isq q.num.toNat : Nat) : Int) = (q.num.toNat : Int) := by rw [this]
      rw [Int.natCast_mul] at this
      omega
    · rw [sq_den, e2]; exact hs.2.2
  · rw [if_neg hs] at h; cases h
theorem rootQ_none {q : Rat} (h : rootQ q = none) (r : Rat) : r * r ≠ q := fun e => by
  rw [← e, rootQ_sq] at h; cases h
theorem RS.root {n : Nat} {q r : Rat} (hq : RS n q) (h : rootQ q = some r) : RS n r := by
  unfold rootQ at h
  by_cases hs : isSq q
  · rw [if_pos hs] at h
    cases h
    obtain ⟨e1, e2⟩ := isSq_parts hs
    constructor
    · rw [e1]; refine Sz.le hq.1 ?_; have := isq_self_le q.num.toNat; omega
    · rw [e2]; exact Nat.lt_of_le_of_lt (isq_self_le _) hq.2
  · rw [if_neg hs] at h; cases h
end Z
namespace Z
open PySem PySem.Spec PyProof.Rows L2
section
variable {st : List SO} {q r : Rat}
theorem isNV_fr : isNV st (fr q) .non = some (.bl false) := rfl
theorem notNV_fr : notNV st (fr q) .non = some (.bl true) := rfl
theorem ixV_fr0 : ixV st (fr q) (.int 0) = some (.int q.num) := at0
theorem ixV_fr1 : ixV st (fr q) (.int 1) = some (.int (q.den : Int)) := at1
theorem eqV_fr : eqV st (fr q) (fr r) = some (.bl (decide (q = r))) := by unfold fr; rw [eqV_ii, fr_inj]
theorem neV_fr : neV st (fr q) (fr r) = some (.bl (!decide (q = r))) := by unfold fr; rw [neV_ii, fr_inj]
theorem tyN_fr : tyN st (fr q) = some "tuple" := rfl
theorem lenV_fr : lenV st [fr q] = some (.int 2) := rfl
end
end Z
namespace Z
open PySem PySem.Spec PyProof.Rows L2
/-- a for that goes on at each turn -/
theorem for_of {t : PV → REnv → Option REnv} {b : GS} {xs : List PV} {ρ : REnv} {st : List SO} {r : SRes} (e : forg t b xs ρ st = r) (I : REnv → List SO → Prop) (h : I ρ st)
    (hs : ∀ x ∈ xs, ∀ ρ st, I ρ st → ∃ ρ1 ρ2 st2, t x ρ = some ρ1 ∧ b ρ1 st = .nx ρ2 st2 ∧ I ρ2 st2) : ∃ ρ' st', r = .nx ρ' st' ∧ I ρ' st' := by
  obtain ⟨ρ', st', e', h'⟩ := forg_inv I xs ρ st h hs
  exact ⟨ρ', st', by rw [← e, e'], h'⟩
theorem mem_rng {x : PV} {n : Nat} (h : x ∈ rng 0 n) : ∃ k : Nat, x = .int k ∧ k < n := by
  unfold rng at h
  obtain ⟨k, hk, e⟩ := List.mem_map.mp h
  exact ⟨k, by rw [← e, Int.zero_add], List.mem_range.mp hk⟩
theorem turn_name {b : GS} {i : Nat} {x : PV} {ρ : REnv} {st : List SO} {I : REnv → List SO → Prop} (h : ∃ ρ2 st2, b (ρ.set i (some x)) st = .nx ρ2 st2 ∧ I ρ2 st2) :
    ∃ ρ1 ρ2 st2, tgName i x ρ = some ρ1 ∧ b ρ1 st = .nx ρ2 st2 ∧ I ρ2 st2 := by
  obtain ⟨a, c, d, e⟩ := h
  exact ⟨_, a, c, rfl, d, e⟩
end Z
/-! Haps, words, refusals. -/
namespace Z
open PySem PySem.Spec PyProof.Rows L2
/-- int(x) of an int, a truth -/
def int1V : FL := fun _ xs => match xs with
  | [.int i] => some (.int i)
  | [.bl b] => some (.int (if b then 1 else 0))
  | _ => none
theorem s_int1 {K : PySem.W.Frag} : SndL K int1V (fun xs H Q => (∃ i, xs = [.int i] ∧ Q (.int i) H) ∨ ∃ k, xs = [.bl k] ∧ Q (.int (if k then 1 else 0)) H) := by
  intro w H st xs z vs Q ok rs e q
  rcases xs with _ | ⟨x, _ | ⟨y, ys⟩⟩
  · cases e
  · obtain ⟨v, ev, rx⟩ := repl1 rs
    cases x with
    | int i => cases e; exact .inl ⟨i, by rw [ev, show v = .int i from rx], q w H _ (Le.refl _) ok rfl⟩
    | bl b => cases e; exact .inr ⟨b, by rw [ev, show v = .bl b from rx], q w H _ (Le.refl _) ok rfl⟩
    | _ => cases e
  · cases x <;> cases e
theorem int1V_b {st : List SO} {b : Bool} : int1V st [.bl b] = some (.int (if b then 1 else 0)) := rfl
theorem int1V_i {st : List SO} {i : Int} : int1V st [.int i] = some (.int i) := rfl
/-- a class of refusals -/
def ExcF (K : PySem.W.Frag) (mg : Str → Option Value) (x : Str) : Prop :=
  PySem.W.excIn K (He.ga K x) He.veBase "ValueError.__new__" = true ∧ mg x = some (.ref (He.ga K x)) ∧ PySem.W.keepIn K (.ref (He.ga K x)) = true ∧ PySem.W.subIn K (.ref (He.ga K x)) (.type "BaseException") = some true ∧ PySem.W.typeIn K (.ref (He.ga K x)) = some (.type "type")
theorem excF_of {K : PySem.W.Frag} {mg : Str → Option Value} {x : Str} (h : mg x = some (.ref (He.ga K x))) (c : (He.Fa.exc x).ok K = true) : ExcF K mg x := by
  obtain ⟨c1, c2⟩ := He.ba (show (PySem.W.excIn K (He.ga K x) He.veBase "ValueError.__new__" && (PySem.W.keepIn K (.ref (He.ga K x)) && (decide (PySem.W.subIn K (.ref (He.ga K x)) (.type "BaseException") = some true) && decide (PySem.W.typeIn K (.ref (He.ga K x)) = some (.type "type"))))) = true from c)
  obtain ⟨c3, c4⟩ := He.ba c2
  obtain ⟨c5, c6⟩ := He.ba c4
  exact ⟨c1, h, c3, of_decide_eq_true c5, of_decide_eq_true c6⟩
theorem con_int {K : PySem.W.Frag} {mg : Str → Option Value} {x : Str} {i : Int} (h : ∃ t, mg x = some (.int i t)) : Con K mg x (.int i) := by
  obtain ⟨t, e⟩ := h
  exact ⟨_, .int i, e, ⟨t, rfl⟩, fun _ => rfl⟩
theorem con_str {K : PySem.W.Frag} {mg : Str → Option Value} {x z : Str} (h : ∃ t, mg x = some (.str z t)) : Con K mg x (.str z) := by
  obtain ⟨t, e⟩ := h
  exact ⟨_, .str z, e, ⟨t, rfl⟩, fun _ => rfl⟩
/-! a hap -/
def hp (t x : Rat) : PV := .tup [fr t, fr x]
section
variable {st : List SO} {t x u y q : Rat} {s z : Str} {xs : List PV} {i : Int}
/-- a text that may be compared -/
def StO (s : Str) : Prop := SeqAt.shaped (.str s) = true
theorem sh_hp (a b c d : Int) : SeqAt.shaped (.tuple [.tuple [.int a, .int b], .tuple [.int c, .int d]]) = true := rfl
theorem ixV_hp0 : ixV st (hp t x) (.int 0) = some (fr t) := at0
theorem ixV_hp1 : ixV st (hp t x) (.int 1) = some (fr x) := at1
theorem isNV_hp : isNV st (hp t x) .non = some (.bl false) := rfl
theorem eqD_hp : eqD st (hp t x) (hp u y) = some (decide (t = u ∧ x = y)) := by
  unfold eqD hp fr
  simp only [de, toD, toDL, sh_hp, and_self, if_true, PyData.eqv, PyData.eqvAll, Bool.and_true]
  rw [fr_inj, fr_inj, Bool.decide_and]
theorem eqV_hp : eqV st (hp t x) (hp u y) = some (.bl (decide (t = u ∧ x = y))) := by unfold eqV; rw [eqD_hp]; rfl
theorem neV_hp : neV st (hp t x) (hp u y) = some (.bl (!decide (t = u ∧ x = y))) := by unfold neV; rw [eqD_hp]; rfl
theorem eqD_str (hs : StO s) (hz : StO z) : eqD st (.str s) (.str z) = some (s == z) := by
  unfold StO at *
  unfold eqD
  simp only [de, toD, hs, hz, and_self, if_true, PyData.eqv]
theorem eqV_str (hs : StO s) (hz : StO z) : eqV st (.str s) (.str z) = some (.bl (s == z)) := by unfold eqV; rw [eqD_str hs hz]; rfl
theorem neV_str (hs : StO s) (hz : StO z) : neV st (.str s) (.str z) = some (.bl (!(s == z))) := by unfold neV; rw [eqD_str hs hz]; rfl
theorem eqD_frs (hs : StO s) : eqD st (fr q) (.str s) = some false := by
  unfold StO at *
  unfold eqD fr
  simp only [de, toD, toDL, sh_ii, hs, and_self, if_true, PyData.eqv]
theorem eqV_frs (hs : StO s) : eqV st (fr q) (.str s) = some (.bl false) := by unfold eqV; rw [eqD_frs hs]; rfl
theorem neV_frs (hs : StO s) : neV st (fr q) (.str s) = some (.bl true) := by unfold neV; rw [eqD_frs hs]; rfl
end
/-! the size of a fraction -/
def ab (q : Rat) : Rat := if 0 ≤ q then q else -q
theorem ab_fr (q : Rat) : PV.tup [.int (q.num.natAbs : Int), .int (q.den : Int)] = fr (ab q) := by
  unfold ab
  by_cases h : 0 ≤ q
  · rw [if_pos h]
    have : 0 ≤ q.num := Rat.num_nonneg.mpr h
    unfold fr
    rw [Int.natAbs_of_nonneg this]
  · rw [if_neg h]
    have : ¬ 0 ≤ q.num := fun z => h (Rat.num_nonneg.mp z)
    unfold fr
    rw [Rat.neg_num, Rat.neg_den]
    have e : (q.num.natAbs : Int) = -q.num := by omega
    rw [e]
theorem ab_num (q : Rat) : (ab q).num = (q.num.natAbs : Int) := by
  have := ab_fr q
  unfold fr at this
  injection this with h
  injection h with h1 h2
  injection h1 with h3
  exact h3.symm
theorem ab_den (q : Rat) : (ab q).den = q.den := by
  unfold ab; split
  · rfl
  · rw [Rat.neg_den]
theorem RS.ab {n : Nat} {q : Rat} (h : RS n q) : RS n (ab q) := by
  unfold Z.ab
  by_cases z : 0 ≤ q
  · rw [if_pos z]; exact h
  · rw [if_neg z]; exact h.neg
theorem neg_fr (q : Rat) : PV.tup [.int (0 - q.num), .int (q.den : Int)] = fr (-q) := by
  unfold fr
  rw [Rat.neg_num, Rat.neg_den, Int.zero_sub]
/-- below, by sizes -/
theorem lt_ab (a g : Rat) : (decide (((a.num * g.den).natAbs : Int) < ((g.num * a.den).natAbs : Int))) = decide (ab a < ab g) := by
  rw [← lt_eq, ab_num, ab_num, ab_den, ab_den, Int.natAbs_mul, Int.natAbs_mul, Int.natCast_mul, Int.natCast_mul, Int.natAbs_natCast, Int.natAbs_natCast]
theorem num0 (q : Rat) : (q.num == 0) = decide (q = 0) := by
  by_cases h : q = 0
  · subst h; rfl
  · rw [decide_eq_false h]
    exact beq_eq_false_iff_ne.mpr (num_ne h)
theorem num_pos (q r : Rat) : decide (0 < q.num * (r.den : Int)) = decide (0 < q) := by
  have h := lt_eq 0 q
  rw [Rat.zero_num, Rat.zero_den, Int.zero_mul] at h
  by_cases p : 0 < q
  · rw [decide_eq_true p] at h ⊢
    have p1 : 0 < q.num := by simpa using h
    exact decide_eq_true (Int.mul_pos p1 (dpos r))
  · rw [decide_eq_false p] at h ⊢
    have p1 : ¬ 0 < q.num := by simpa using h
    refine decide_eq_false fun z => p1 ?_
    exact Int.pos_of_mul_pos_left z (dpos r) |> fun y => y
end Z
/-! More rules: sums of tuples and lists, {}, list(), str(), all(), any(), a < b < c. -/
namespace Z
open PySem PySem.Spec PyProof.Rows L2
section
variable {K : PySem.W.Frag} {X : Cx} {W : WX} {pos : Pos} {a b c e tg : Expr} {es : List Expr} {ga gb gc g : G} {gs : List G}
/-- both lists of two slots -/
noncomputable def catL (st : List SO) : Option SO → Option SO → Res PV
  | some (.lst xs), some (.lst ys) => if LineOk (xs.length + ys.length) then .ok (.ref st.length) (st ++ [.lst (xs ++ ys)]) else .bad
  | _, _ => .bad
/-- one behind the other: two tuples, two lists that may be changed -/
noncomputable def catR (st : List SO) (x y : PV) : Res PV := match x, y with
  | .tup xs, .tup ys => if LineOk (xs.length + ys.length) then .ok (.tup (xs ++ ys)) st else .bad
  | .ref k, .ref j => catL st st[k]? st[j]?
  | _, _ => .bad
noncomputable def gCat (ga gb : G) : G := fun ρ st => bnd (ga ρ st) fun x st => bnd (gb ρ st) fun y st => catR st x y
theorem se_cat (ha : PE X a (tG X.K W ga)) (hb : PE X b (tG X.K W gb)) : PE X (.BinOp a .Add b pos) (tG X.K W (gCat ga gb)) := by
  refine pe_imp (pe_op (op_cat.or op_catA) ha hb) fun σ H Q ⟨w, ρ, st, ok, sl, po⟩ => ?_
  refine ⟨w, ρ, st, ok, sl, post_bind (rel2 := Rep X.K) po fun x st1 w1 H1 vx l1 ok1 rx po1 => ?_⟩
  refine ⟨w1, ρ, st1, ok1, sl.mono l1, post_bind (rel2 := Rep X.K) po1 fun y st2 w2 H2 vy l2 ok2 ry po2 => ?_⟩
  have rx := rx.mono l2
  cases x with
  | tup xs => cases y with
    | tup ys =>
      have po3 : Post X.K W (Rep X.K) w2 σ (if LineOk (xs.length + ys.length) then .ok (.tup (xs ++ ys)) st2 else .bad) Q := po2
      by_cases hl : LineOk (xs.length + ys.length)
      · rw [if_pos hl] at po3
        obtain ⟨p, us, e1, s1, r1⟩ := rx
        obtain ⟨q, zs, e2, s2, r2⟩ := ry
        refine .inr ⟨p, q, us, zs, e1, e2, sqt_mono ok2.fz s1, sqt_mono ok2.fz s2, by rw [r1.length, r2.length]; exact hl, fun hx => ?_, fun hx hy => ?_, fun hx hy r hr => ?_⟩
        · subst hx
          have : xs = [] := by cases xs with | nil => rfl | cons _ _ => obtain ⟨_, _, e, _⟩ := r1; cases e
          subst this
          exact po3 w2 H2 _ (Le.refl _) ok2 ⟨q, zs, rfl, s2, r2⟩
        · subst hy
          have : ys = [] := by cases ys with | nil => rfl | cons _ _ => obtain ⟨_, _, e, _⟩ := r2; cases e
          subst this
          rw [List.append_nil] at po3
          exact po3 w2 H2 _ (Le.refl _) ok2 ⟨p, us, rfl, s1, r1⟩
        · exact po3 (w2.frz r (.tup (us ++ zs))) _ _ (le_frz ok2 hr _) (ok2.frz hr _) ⟨r, _, rfl, .inl (.inl upd_same), (r1.append r2).mono (le_frz ok2 hr _)⟩
      · rw [if_neg hl] at po3; exact po3.elim
    | _ => exact po2.elim
  | ref k => cases y with
    | ref j =>
      have po3 : Post X.K W (Rep X.K) w2 σ (catL st2 st2[k]? st2[j]?) Q := po2
      obtain ⟨p, e1, q1⟩ := rx
      obtain ⟨q, e2, q2⟩ := ry
      obtain ⟨c1, o1, h1, h2, h3⟩ := ok2.obj q1
      obtain ⟨c2, o2, g1, g2, g3⟩ := ok2.obj q2
      rw [h1, g1] at po3
      cases c1 with
      | lst xs => cases c2 with
        | lst ys =>
          obtain ⟨us, f1, r1⟩ := h3
          obtain ⟨zs, f2, r2⟩ := g3
          subst f1 f2
          have po3 : Post X.K W (Rep X.K) w2 σ (if LineOk (xs.length + ys.length) then .ok (.ref st2.length) (st2 ++ [.lst (xs ++ ys)]) else .bad) Q := po3
          by_cases hl : LineOk (xs.length + ys.length)
          · rw [if_pos hl] at po3
            refine .inl ⟨p, q, us, zs, e1, e2, h2, g2, by rw [r1.length, r2.length]; exact hl, fun r hr => ?_⟩
            refine po3 (w2.new r) _ _ (le_new w2 r) (ok2.new hr (c := .lst (xs ++ ys)) ⟨_, rfl, r1.append r2⟩) ⟨r, rfl, ?_⟩
            show (w2.adr ++ [r])[st2.length]? = some r
            rw [← ok2.len]; simp
          · rw [if_neg hl] at po3; exact po3.elim
        | dK _ => exact po3.elim
      | dK _ => exact po3.elim
    | _ => exact po2.elim
  | _ => exact po2.elim
/-- {} -/
theorem se_dnew : PE X (.Dict [] [] pos) (tG X.K W (gC (.dct []))) := by
  refine pe_imp pe_dnewK fun σ H Q ⟨w, ρ, st, ok, sl, po⟩ p hp => ?_
  exact po (w.frz p (.dK [])) _ _ (le_frz ok hp _) (ok.frz hp _) ⟨p, [], rfl, upd_same, rfl⟩
/-- list(x) -/
def listV : FL := fun st xs => match xs with
  | [.tup ys] => some (.lst ys)
  | [.lst ys] => some (.lst ys)
  | [.ref k] => lstK st[k]? fun ys => some (.lst ys)
  | _ => none
theorem s_listof : SndL K listV (fun xs H Q => ∃ p ys, xs = [.ref p] ∧ (SqL K H p ys ∨ SqT K H p ys) ∧ ∀ l, H l = none → Q (.ref l) (upd H l (.lst ys))) := by
  intro w H st xs z vs Q ok rs e q
  rcases xs with _ | ⟨x, _ | ⟨y, ys⟩⟩
  · cases e
  · obtain ⟨v, ev, rx⟩ := repl1 rs
    cases x with
    | tup ys =>
      cases e
      obtain ⟨p, us, e2, sq, rr⟩ := rx
      exact ⟨p, us, by rw [ev, e2], .inr (sqt_mono ok.fz sq), fun l hl => q (w.frz l (.lst us)) _ _ (le_frz ok hl _) (ok.frz hl _) ⟨l, us, rfl, .inl (.inl upd_same), rr.mono (le_frz ok hl _)⟩⟩
    | lst ys =>
      cases e
      obtain ⟨p, us, e2, sq, rr⟩ := rx
      exact ⟨p, us, by rw [ev, e2], .inl (sql_mono ok.fz sq), fun l hl => q (w.frz l (.lst us)) _ _ (le_frz ok hl _) (ok.frz hl _) ⟨l, us, rfl, .inl (.inl upd_same), rr.mono (le_frz ok hl _)⟩⟩
    | ref k =>
      obtain ⟨p, e2, q1⟩ := rx
      obtain ⟨c1, o1, h1, h2, h3⟩ := ok.obj q1
      have e : lstK st[k]? (fun ys => some (PV.lst ys)) = some z := e
      rw [h1] at e
      cases c1 with
      | lst ys =>
        cases e
        obtain ⟨us, f1, rr⟩ := h3
        subst f1
        exact ⟨p, us, by rw [ev, e2], .inl (.inl (.inl h2)), fun l hl => q (w.frz l (.lst us)) _ _ (le_frz ok hl _) (ok.frz hl _) ⟨l, us, rfl, .inl (.inl upd_same), rr.mono (le_frz ok hl _)⟩⟩
      | dK _ => cases e
    | _ => cases e
  · cases x <;> cases e
/-- an int that str() writes -/
def StrOk (i : Int) : Prop := i.natAbs.log2 < 1920
noncomputable instance (i : Int) : Decidable (StrOk i) := Classical.propDecidable _
noncomputable def strV : FL := fun _ xs => match xs with
  | [.int i] => if StrOk i then some (.str (toString i)) else none
  | _ => none
theorem s_str : SndL K strV (fun xs H Q => ∃ i, xs = [.int i] ∧ i.natAbs.log2 < 1920 ∧ Q (.str (toString i)) H) := by
  intro w H st xs z vs Q ok rs e q
  rcases xs with _ | ⟨x, _ | ⟨y, ys⟩⟩
  · cases e
  · obtain ⟨v, ev, rx⟩ := repl1 rs
    cases x with
    | int i =>
      have e : (if StrOk i then some (PV.str (toString i)) else none) = some z := e
      by_cases h : StrOk i
      · rw [if_pos h] at e; cases e
        exact ⟨i, by rw [ev, show v = .int i from rx], h, q w H _ (Le.refl _) ok rfl⟩
      · rw [if_neg h] at e; cases e
    | _ => cases e
  · cases x <;> cases e
/-- truths of a list -/
def blsOf : List PV → Option (List Bool)
  | [] => some []
  | .bl b :: xs => (blsOf xs).map fun bs => b :: bs
  | _ => none
theorem blsOf_rep {w : Wd} : ∀ (xs : List PV) (bs : List Bool) (vs : List V), blsOf xs = some bs → RepL K w xs vs → vs = bs.map V.bl
  | [], bs, vs, e, r => by cases e; exact r
  | x :: xs, bs, vs, e, ⟨v, us, ev, rx, rr⟩ => by
    cases x with
    | bl b =>
      have e : (blsOf xs).map (fun bs => b :: bs) = some bs := e
      cases q : blsOf xs with
      | none => rw [q] at e; cases e
      | some ds =>
        rw [q] at e; cases e
        rw [ev, blsOf_rep xs ds us q rr, show v = .bl b from rx]; rfl
    | _ => cases e
def allV : FL := fun _ xs => match xs with
  | [.lst ys] => (blsOf ys).map fun bs => .bl (bs.all id)
  | _ => none
theorem s_all : SndL K allV (rAll K) := by
  intro w H st xs z vs Q ok rs e q
  rcases xs with _ | ⟨x, _ | ⟨y, ys⟩⟩
  · cases e
  · obtain ⟨v, ev, rx⟩ := repl1 rs
    cases x with
    | lst ys =>
      have e : (blsOf ys).map (fun bs => PV.bl (bs.all id)) = some z := e
      cases h : blsOf ys with
      | none => rw [h] at e; cases e
      | some bs =>
        rw [h] at e; cases e
        obtain ⟨p, us, e2, sq, rr⟩ := rx
        rw [blsOf_rep ys bs us h rr] at sq
        exact ⟨p, bs, by rw [ev, e2], sql_mono ok.fz sq, q w H _ (Le.refl _) ok rfl⟩
    | _ => cases e
  · cases x <;> cases e
theorem se_chain {op op' : CmpOp} {f f' : F2} {r r' : R2} (ho : OpR X (compareOp op) r) (ho' : OpR X (compareOp op') r') (hs : Snd2 X.K f r) (hs' : Snd2 X.K f' r') (ha : PE X a (tG X.K W ga)) (hb : PE X b (tG X.K W gb)) (hc : PE X c (tG X.K W gc))
    (hm : lastMarks [op, op'] [b, c] = false := by with_unfolding_all rfl) : PE X (.Compare a [op, op'] [b, c] pos) (tG X.K W (gChain f f' ga gb gc)) :=
  pe_imp (pe_chain ho ho' ha hb hc hm) fun _ _ _ h => tChain_of hs hs' h
end
/-! the equations -/
section
variable {ρ : REnv} {st : List SO} {xs ys : List PV} {i : Int} {k j : Nat} {ga gb : G} {b : Bool} {kvs : List (Key × PV)}
theorem gCat_eq : gCat ga gb ρ st = bnd (ga ρ st) fun x st => bnd (gb ρ st) fun y st => catR st x y := rfl
theorem catR_t (h : LineOk (xs.length + ys.length)) : catR st (.tup xs) (.tup ys) = .ok (.tup (xs ++ ys)) st := if_pos h
theorem catR_r : catR st (.ref k) (.ref j) = catL st st[k]? st[j]? := rfl
theorem catL_s (h : LineOk (xs.length + ys.length)) : catL st (some (.lst xs)) (some (.lst ys)) = .ok (.ref st.length) (st ++ [.lst (xs ++ ys)]) := if_pos h
theorem listV_t : listV st [.tup xs] = some (.lst xs) := rfl
theorem listV_l : listV st [.lst xs] = some (.lst xs) := rfl
theorem strV_i (h : StrOk i) : strV st [.int i] = some (.str (toString i)) := if_pos h
theorem blsOf_nil : blsOf [] = some [] := rfl
theorem blsOf_cons : blsOf (.bl b :: xs) = (blsOf xs).map fun bs => b :: bs := rfl
theorem allV_l : allV st [.lst xs] = (blsOf xs).map fun bs => .bl (bs.all id) := rfl
theorem isNV_d : isNV st (.dct kvs) .non = some (.bl false) := rfl
theorem notNV_d : notNV st (.dct kvs) .non = some (.bl true) := rfl
end
end Z
namespace Z
open PySem PySem.Spec PyProof.Rows L2
/-- a plain value, its kind known -/
def P0 : PV → Prop
  | .int i => Sz 300 i
  | .ty _ | .cls _ | .exc _ | .ref _ => False
  | _ => True
def P1 (x : PV) : Prop := P0 x ∧ ∀ ys, x = .tup ys → ∀ y ∈ ys, P0 y
def P2 (x : PV) : Prop := P0 x ∧ ∀ ys, x = .tup ys → ∀ y ∈ ys, P1 y
def whB : PV → Bool
  | .int _ => true
  | _ => false
/-- whether it is a fraction -/
def frB : PV → Bool
  | .tup [.int a, .int b] => decide (0 < b) && (Int.gcd a b : Int) == 1
  | _ => false
theorem len3 (n : Nat) : (((n + 1 + 1 + 1 : Nat) : Int) == 2) = false := beq_eq_false_iff_ne.mpr (by omega)

/-- whether it is a hap -/
def hapB : PV → Bool
  | .tup [a, b] => frB a && frB b
  | _ => false
theorem gcd_one {a b : Int} (hb : 0 < b) : ((Rat.divInt a b).num == a && ((Rat.divInt a b).den : Int) == b) = ((Int.gcd a b : Int) == 1) := by
  have hg := gcd_pos_of (t := a) (show b ≠ 0 by omega)
  have hs : b.sign = 1 := Int.sign_eq_one_of_pos hb
  by_cases h : Int.gcd a b = 1
  · have h2 : Int.gcd b a = 1 := by rw [Int.gcd_comm]; exact h
    rw [Rat.num_divInt, Rat.den_divInt, if_neg (by omega), hs, h2, h]
    have : ((b.natAbs / 1 : Nat) : Int) = b := by rw [Nat.div_one]; omega
    rw [this]
    simp
  · have : ((Int.gcd a b : Int) == 1) = false := beq_eq_false_iff_ne.mpr (by omega)
    rw [this]
    have hd : (((Rat.divInt a b).den : Int) == b) = false := by
      refine beq_eq_false_iff_ne.mpr fun e => h ?_
      rw [Rat.den_divInt, if_neg (by omega), Int.gcd_comm] at e
      obtain ⟨k, hk⟩ := Int.gcd_dvd_right a b
      have hk2 : b.natAbs = Int.gcd a b * k.natAbs := by
        have := congrArg Int.natAbs hk
        rwa [Int.natAbs_mul, Int.natAbs_natCast] at this
      have hb2 : b.natAbs / Int.gcd a b = k.natAbs := by rw [hk2]; exact Nat.mul_div_cancel_left _ (by omega)
      rw [hb2] at e
      have e2 : b.natAbs = k.natAbs := by omega
      rw [e2] at hk2
      have k0 : 0 < k.natAbs := by omega
      have : Int.gcd a b * k.natAbs = 1 * k.natAbs := by omega
      exact Nat.eq_of_mul_eq_mul_right k0 this
    rw [hd, Bool.and_false]
theorem eqV_bl {st : List SO} {a b : Bool} : eqV st (.bl a) (.bl b) = some (.bl (a == b)) := by
  have h : ∀ c : Bool, SeqAt.shaped (.bool c) = true := fun _ => rfl
  unfold eqV eqD
  simp only [de, toD, h, and_self, if_true, PyData.eqv]
  rfl
end Z
namespace Z
open PySem PySem.Spec PyProof.Rows L2
/-! comprehensions -/
theorem comp_map {t : PV → REnv → Option REnv} {e : G} {ρ : REnv} {st : List SO} (f : PV → PV) : ∀ xs : List PV, (∀ x ∈ xs, ∃ ρ1, t x ρ = some ρ1 ∧ e ρ1 st = .ok (f x) st) → compg t gYes e ρ xs st = .ok (xs.map f) st
  | [], _ => rfl
  | x :: xs, h => by
    obtain ⟨ρ1, h1, h2⟩ := h x (by simp)
    have ih := comp_map f xs fun y hy => h y (by simp [hy])
    unfold compg
    rw [h1]
    show bnd (e ρ1 st) (fun y st2 => bnd (compg t gYes e ρ xs st2) fun ys st3 => .ok (y :: ys) st3) = _
    rw [h2, bnd_ok, ih, bnd_ok]
    rfl
theorem gComp_ok {it : GL} {t : PV → REnv → Option REnv} {c : GT} {e : G} {vs : List Nat} {ρ : REnv} {st st1 st2 : List SO} {xs ys : List PV} (h1 : it ρ st = .ok xs st1) (h2 : compg t c e (wipeR ρ vs) xs st1 = .ok ys st2) (h3 : LenOk ys.length) :
    gComp it t c e vs ρ st = .ok (.lst ys) st2 := by
  unfold gComp
  rw [h1, bnd_ok]
  simp only [h2]
  exact if_pos h3
theorem blsOf_true : ∀ xs : List PV, blsOf (xs.map fun _ => PV.bl true) = some (xs.map fun _ => true)
  | [] => rfl
  | x :: xs => by rw [List.map_cons, blsOf_cons, blsOf_true xs]; rfl
theorem allV_true {xs : List PV} {st : List SO} : allV st [.lst (xs.map fun _ => PV.bl true)] = some (.bl true) := by
  rw [allV_l, blsOf_true]
  show some (PV.bl ((xs.map fun _ => true).all id)) = _
  have : (xs.map fun _ => true).all id = true := by simp
  rw [this]
theorem lenOk_small {n : Nat} (h : n ≤ 1000) : LenOk n := small1000 h
theorem lineOk_small {n : Nat} (h : n ≤ 1000) : LineOk n := small_line h
/-! a pot beneath new objects -/
theorem PS_app {st l : List SO} {k : Nat} {n : Int} (hk : k < st.length) : PS st k n ++ l = PS (st ++ l) k n := by
  unfold PS
  rw [List.set_append_left _ _ hk]
theorem PS_ne {st : List SO} {k j : Nat} {n : Int} (h : k ≠ j) : (PS st k n)[j]? = st[j]? := List.getElem?_set_ne h
theorem PS_take {st l : List SO} {k : Nat} {n : Int} (hk : k < st.length) : (PS (st ++ l) k n).take st.length = PS st k n := by
  rw [← PS_app hk]
  have : (PS st k n).length = st.length := PS_len
  rw [← this, List.take_left]
theorem PS_old {st l : List SO} {k : Nat} {n m : Int} (hk : k < st.length) : OldOk (PS st k n) (PS (st ++ l) k m) := by
  have fl : flatO (SO.lst [PV.int m]) = true := rfl
  have h : OldOk (PS st k n) (PS st k m) := by
    have := (OldOk.refl (PS st k n)).set (k := k) (.inl fl)
    rwa [PS_set] at this
  rw [← PS_app hk]
  exact h.app
theorem leave_ps {st l : List SO} {k : Nat} {n m : Int} {x : PV} (hk : k < st.length) (h : ∀ st n, frzV st n 9 x = some x) : leave (PS st k n) (.ret x (PS (st ++ l) k m)) = .ok x (PS st k m) := by
  rw [leave_ret (PS_old hk) (h _ _), PS_len, PS_take hk]
theorem atI_mem {xs : List PV} {r : Int} (h0 : 0 ≤ r) (h : r < xs.length) : ∃ x ∈ xs, atI xs r = some x := by
  obtain ⟨k, rfl⟩ := Int.eq_ofNat_of_zero_le h0
  have hk : k < xs.length := by omega
  exact ⟨xs[k], List.getElem_mem hk, atN (by simp [hk])⟩
theorem P1_tup {xs : List PV} (h : ∀ y ∈ xs, P0 y) : P1 (.tup xs) := ⟨trivial, fun ys e => by cases e; exact h⟩
theorem P2_tup {xs : List PV} (h : ∀ y ∈ xs, P1 y) : P2 (.tup xs) := ⟨trivial, fun ys e => by cases e; exact h⟩
theorem P1_of {x : PV} (h : P0 x) (n : ∀ ys, x ≠ .tup ys) : P1 x := ⟨h, fun ys e => absurd e (n ys)⟩
theorem P2_of {x : PV} (h : P0 x) (n : ∀ ys, x ≠ .tup ys) : P2 x := ⟨h, fun ys e => absurd e (n ys)⟩
theorem P1.up {x : PV} (h : P1 x) (hs : ∀ y, P0 y → (∀ ys, y ≠ .tup ys) ∨ y = .tup []) : P2 x := ⟨h.1, fun ys e y hy => by
  have hp := h.2 ys e y hy
  rcases hs y hp with z | z
  · exact P1_of hp z
  · subst z; exact P1_tup (by simp)⟩
theorem P0_s {n : Nat} {i : Int} (h : Sz n i) (l : n ≤ 300) : P0 (.int i) := h.mono l
theorem P1_fr {n : Nat} {q : Rat} (h : RS n q) (l : n ≤ 300) : P1 (fr q) := P1_tup (by
  intro y hy
  simp only [List.mem_cons, List.not_mem_nil, or_false] at hy
  rcases hy with rfl | rfl
  · exact P0_s h.1 l
  · exact P0_s h.den l)
/-- plain and no tuple -/
def PA (x : PV) : Prop := P0 x ∧ ∀ ys, x ≠ .tup ys
theorem PA_s {n : Nat} {i : Int} (h : Sz n i) (l : n ≤ 300) : PA (.int i) := ⟨h.mono l, fun _ e => by cases e⟩
theorem PA_bl (b : Bool) : PA (.bl b) := ⟨trivial, fun _ e => by cases e⟩
theorem PA_str (s : Str) : PA (.str s) := ⟨trivial, fun _ e => by cases e⟩
theorem PA_non : PA .non := ⟨trivial, fun _ e => by cases e⟩
theorem P2a {xs : List PV} (h : ∀ y ∈ xs, PA y) : P2 (.tup xs) := P2_tup fun y hy => P1_of (h y hy).1 (h y hy).2
theorem P2.p1 {x : PV} (h : P2 x) : P1 x := ⟨h.1, fun ys e y hy => (h.2 ys e y hy).1⟩
theorem P2_fr {n : Nat} {q : Rat} (h : RS n q) (l : n ≤ 300) : P2 (fr q) := P2a (by
  intro y hy
  simp only [List.mem_cons, List.not_mem_nil, or_false] at hy
  rcases hy with rfl | rfl
  · exact PA_s h.1 l
  · exact PA_s h.den l)
end Z
namespace Z
open PySem PySem.Spec PyProof.Rows L2
/-- while b != 0: a, b = b, a % b -/
theorem whl_gcdN {i j : Nat} (hij : i ≠ j) : ∀ (n : Nat) (ρ : REnv) (a b : Nat) (st : List SO), ρ[i]? = some (some (.int a)) → ρ[j]? = some (some (.int b)) → b < n →
    whl (gB (gBin neV (gVar j) (gC (.int 0)))) (gPar i j (gVar j) (gBin modV (gVar i) (gVar j))) n ρ st = .nx ((ρ.set i (some (.int (Nat.gcd a b)))).set j (some (.int 0))) st
  | 0, ρ, a, b, st, hi, hj, h => by omega
  | n + 1, ρ, a, b, st, hi, hj, h => by
    have hb0 : (!((b : Int) == 0)) = decide (0 < b) := by
      by_cases q : 0 < b
      · have : ((b : Int) == 0) = false := beq_eq_false_iff_ne.mpr (by omega)
        rw [decide_eq_true q, this]; rfl
      · have : ((b : Int) == 0) = true := beq_iff_eq.mpr (by omega)
        rw [decide_eq_false q, this]; rfl
    unfold whl
    simp only [gB, gBin, gVar_of hj, bnd, gC, oo, neV_int, toST, hb0, decide_eq_true_eq]
    by_cases hb : 0 < b
    · rw [if_pos hb]
      have e : gPar i j (gVar j) (gBin modV (gVar i) (gVar j)) ρ st = .nx ((ρ.set i (some (.int b))).set j (some (.int ((a % b : Nat) : Int)))) st := by
        have hne : ¬ ((b : Int) = 0) := by omega
        have em : Int.fmod (a : Int) (b : Int) = ((a % b : Nat) : Int) := by rw [Int.fmod_eq_emod_of_nonneg _ (by omega)]; exact (Int.natCast_emod a b).symm
        simp only [gPar, gArgs, gBin, gVar_of hj, gVar_of hi, bnd, oo, modV, ne_eq, hne, not_false_eq_true, if_true, em]
      rw [e]
      have li := lt_of_slot hi
      have lj := lt_of_slot hj
      have ih := whl_gcdN hij n ((ρ.set i (some (.int b))).set j (some (.int ((a % b : Nat) : Int)))) b (a % b) st
        (by rw [List.getElem?_set_ne (Ne.symm hij), List.getElem?_set_self li]) (by rw [List.getElem?_set_self (by rw [List.length_set]; exact lj)]) (by have := Nat.mod_lt a hb; omega)
      show whl _ _ n ((ρ.set i (some (.int b))).set j (some (.int ((a % b : Nat) : Int)))) st = _
      rw [ih]
      have eg : Nat.gcd b (a % b) = Nat.gcd a b := by rw [Nat.gcd_comm b, ← Nat.gcd_rec, Nat.gcd_comm]
      rw [eg, List.set_comm _ _ (Ne.symm hij), List.set_set, List.set_set]
    · rw [if_neg hb]
      have b0 : b = 0 := by omega
      subst b0
      rw [Nat.gcd_zero_right, set_id hi]
      have hj' : ρ[j]? = some (some (PV.int 0)) := hj
      rw [set_id hj']
end Z
namespace Z
open PySem PySem.Spec PyProof.Rows L2
/-- a measure: how far apart two slots are -/
def muGap (i j : Nat) : REnv → Nat := fun r => match r[i]?, r[j]? with
  | some (some (.int a)), some (some (.int b)) => (b - a).natAbs + 1
  | _, _ => 0
/-- a measure: two turns -/
def muEq (i j : Nat) : REnv → Nat := fun _ => 3
theorem frB_ii {x : PV} (h : frB x = true) : ∃ a b, x = .tup [.int a, .int b] := by
  unfold frB at h
  split at h
  · exact ⟨_, _, rfl⟩
  · cases h
/-- whether it is a speed -/
def spB (x : PV) : Bool := frB x && (match x with
  | .tup [.int a, .int b] => decide ((a.natAbs : Int) < b)
  | _ => false)
end Z
namespace Z
open PySem PySem.Spec PyProof.Rows L2
/-- x is True, x is False -/
def isBV : F2 := fun _ x y => match x, y with
  | .bl a, .bl b => some (.bl (decide (a = b)))
  | _, _ => none
theorem s_isB {K : PySem.W.Frag} : Snd2 K isBV (fun x y H Q => ∃ a b, x = .bl a ∧ y = .bl b ∧ Q (.bl (decide (a = b))) H) := by
  intro w H st x y z vx vy Q ok rx ry e q
  cases x with
  | bl a => cases y with
    | bl b => cases e; exact ⟨a, b, rx, ry, q w H _ (Le.refl _) ok rfl⟩
    | _ => cases e
  | _ => cases y <;> cases e
theorem isBV_b {st : List SO} {a b : Bool} : isBV st (.bl a) (.bl b) = some (.bl (decide (a = b))) := rfl
theorem neV_bl {st : List SO} {a b : Bool} : neV st (.bl a) (.bl b) = some (.bl (!(a == b))) := by
  have h : ∀ c : Bool, SeqAt.shaped (.bool c) = true := fun _ => rfl
  unfold neV eqD
  simp only [de, toD, h, and_self, if_true, PyData.eqv]
  rfl
/-! values that a def's end leaves as they are -/
def FZ (k : Nat) (x : PV) : Prop := ∀ (d : Nat) (st : List SO) (n : Nat), frzV st n (d + k) x = some x
theorem FZ.up {k : Nat} {x : PV} (h : FZ k x) : FZ (k + 1) x := fun d st n => by
  have := h (d + 1) st n
  rwa [Nat.add_assoc, Nat.add_comm 1 k] at this
theorem FZ.mono {k m : Nat} {x : PV} (h : FZ k x) (l : k ≤ m) : FZ m x := by
  obtain ⟨j, rfl⟩ := Nat.exists_eq_add_of_le l
  clear l
  induction j with
  | zero => exact h
  | succ j ih => exact ih.up
theorem mapO_id {α : Type} {f : α → Option α} : ∀ xs : List α, (∀ x ∈ xs, f x = some x) → mapO f xs = some xs
  | [], _ => rfl
  | x :: xs, h => by
    have ih := mapO_id xs fun y hy => h y (by simp [hy])
    unfold mapO
    simp only [h x (by simp), ih]
    try rfl
theorem FZ_tup {k : Nat} {xs : List PV} (h : ∀ y ∈ xs, FZ k y) : FZ (k + 1) (.tup xs) := fun d st n => by
  show (mapO (frzV st n (d + k)) xs).map PV.tup = _
  rw [mapO_id xs fun y hy => h y hy d st n]; rfl
theorem FZ_lst {k : Nat} {xs : List PV} (h : ∀ y ∈ xs, FZ k y) : FZ (k + 1) (.lst xs) := fun d st n => by
  show (mapO (frzV st n (d + k)) xs).map PV.lst = _
  rw [mapO_id xs fun y hy => h y hy d st n]; rfl
theorem FZ_fr (q : Rat) : FZ 2 (fr q) := fun _ _ _ => rfl
theorem FZ_hp (t x : Rat) : FZ 3 (hp t x) := fun _ _ _ => rfl
theorem FZ.at9 {k : Nat} {x : PV} (h : FZ k x) (l : k ≤ 9) : ∀ st n, frzV st n 9 x = some x := fun st n => (h.mono l) 0 st n
def P3 (x : PV) : Prop := P0 x ∧ ∀ ys, x = .tup ys → ∀ y ∈ ys, P2 y
theorem P3_tup {xs : List PV} (h : ∀ y ∈ xs, P2 y) : P3 (.tup xs) := ⟨trivial, fun ys e => by cases e; exact h⟩
theorem P3_of {x : PV} (h : P0 x) (n : ∀ ys, x ≠ .tup ys) : P3 x := ⟨h, fun ys e => absurd e (n ys)⟩
theorem PA.p2 {x : PV} (h : PA x) : P2 x := P2_of h.1 h.2
theorem PA.p1 {x : PV} (h : PA x) : P1 x := P1_of h.1 h.2
theorem P2_hp {n : Nat} {t x : Rat} (h1 : RS n t) (h2 : RS n x) (l : n ≤ 300) : P2 (hp t x) := P2_tup (by
  intro y hy
  simp only [List.mem_cons, List.not_mem_nil, or_false] at hy
  rcases hy with rfl | rfl
  · exact P1_fr h1 l
  · exact P1_fr h2 l)
/-- a fraction told is one -/
theorem frB_fr (q : Rat) : frB (fr q) = true := by
  have h := gcd_one (a := q.num) (dpos q)
  rw [Rat.num_divInt_den] at h
  simp only [beq_self_eq_true, Bool.and_self] at h
  unfold frB fr
  have d := dpos q
  simp only [← h, d, decide_true, Bool.and_self]
theorem fr_of {x : PV} (h : P1 x) (hf : frB x = true) : ∃ q, x = fr q ∧ RS 300 q := by
  obtain ⟨a, b, rfl⟩ := frB_ii hf
  have hf2 : (decide (0 < b) && (Int.gcd a b : Int) == 1) = true := hf
  obtain ⟨h1, h2⟩ := Bool.and_eq_true_iff.mp hf2
  have hb : 0 < b := of_decide_eq_true h1
  have g := gcd_one (a := a) hb
  rw [h2] at g
  obtain ⟨g1, g2⟩ := Bool.and_eq_true_iff.mp g
  have e1 := beq_iff_eq.mp g1
  have e2 := beq_iff_eq.mp g2
  have ha : P0 (.int a) := h.2 _ rfl _ (by simp)
  have hb' : P0 (.int b) := h.2 _ rfl _ (by simp)
  refine ⟨Rat.divInt a b, ?_, ?_, ?_⟩
  · unfold fr; rw [e1, e2]
  · rw [e1]; exact ha
  · have : Sz 300 b := hb'
    unfold Sz at this
    have e3 : (Rat.divInt a b).den = b.natAbs := by omega
    rw [e3]; exact this
/-! the beat of a speed -/
theorem sp_num {q : Rat} (h : (q.num.natAbs : Int) < q.den) : (1 - q * q).num = (q.den : Int) * q.den - q.num * q.num ∧ ((1 - q * q).den : Int) = (q.den : Int) * q.den ∧ 0 < (q.den : Int) * q.den - q.num * q.num := by
  have hd : 0 < (q.den : Int) * q.den := Int.mul_pos (dpos q) (dpos q)
  have e : Rat.divInt ((q.den : Int) * q.den - q.num * q.num) ((q.den : Int) * q.den) = 1 - q * q := by
    have s := sub_eq 1 (q * q)
    rw [sq_num, sq_den] at s
    rw [← s]
    show _ = Rat.divInt (1 * ((q.den * q.den : Nat) : Int) - q.num * q.num * ((1 : Nat) : Int)) (((1 : Nat) : Int) * ((q.den * q.den : Nat) : Int))
    rw [Int.natCast_mul, Int.one_mul, Int.natCast_one, Int.mul_one, Int.one_mul]
  have g : (Int.gcd ((q.den : Int) * q.den - q.num * q.num) ((q.den : Int) * q.den) : Int) = 1 := by
    have r := (q * q).reduced
    rw [sq_num, sq_den] at r
    have : Int.gcd (q.num * q.num) ((q.den : Int) * q.den) = 1 := by
      have e : ((q.den : Int) * q.den) = ((q.den * q.den : Nat) : Int) := (Int.natCast_mul _ _).symm
      rw [e]; exact r
    have e2 : Int.gcd ((q.den : Int) * q.den - q.num * q.num) ((q.den : Int) * q.den) = Int.gcd (q.num * q.num) ((q.den : Int) * q.den) := by
      exact Int.gcd_self_sub_left _ _
    rw [e2, this]; rfl
  have k := gcd_one (a := (q.den : Int) * q.den - q.num * q.num) hd
  rw [g, e] at k
  obtain ⟨k1, k2⟩ := Bool.and_eq_true_iff.mp k
  refine ⟨beq_iff_eq.mp k1, beq_iff_eq.mp k2, ?_⟩
  have h2 : q.num.natAbs * q.num.natAbs < q.den * q.den := Nat.mul_lt_mul'' (by omega) (by omega)
  have h3 : ((q.num.natAbs * q.num.natAbs : Nat) : Int) = q.num * q.num := by rw [Int.natCast_mul]; exact Int.natAbs_mul_self' q.num |> fun z => by simpa using z
  have h4 : ((q.den * q.den : Nat) : Int) = (q.den : Int) * q.den := Int.natCast_mul _ _
  omega
end Z
namespace Z
open PySem PySem.Spec PyProof.Rows L2
theorem PS_get {st l : List SO} {k : Nat} {n : Int} (hk : k < st.length) (i : Nat) : (PS (st ++ l) k n)[st.length + i]? = l[i]? := by
  rw [PS_ne (by omega), List.getElem?_append_right (by omega)]
  congr 1
  omega
theorem PS_get0 {st l : List SO} {k : Nat} {n : Int} (hk : k < st.length) : (PS (st ++ l) k n)[st.length]? = l[0]? := PS_get hk 0
/-- plain, left as it is -/
def G2 (x : PV) : Prop := P2 x ∧ FZ 7 x
def G3 (x : PV) : Prop := P3 x ∧ FZ 9 x
theorem G3_tup {xs : List PV} (h : ∀ y ∈ xs, G2 y) : G3 (.tup xs) := ⟨P3_tup fun y hy => (h y hy).1, (FZ_tup fun y hy => (h y hy).2).mono (by omega)⟩
theorem G3_lst {xs : List PV} (h : ∀ y ∈ xs, FZ 7 y) : G3 (.lst xs) := ⟨P3_of trivial (by intro ys e; cases e), (FZ_lst h).mono (by omega)⟩
theorem G2_lst {xs : List PV} (h : ∀ y ∈ xs, FZ 6 y) : G2 (.lst xs) := ⟨P2_of trivial (by intro ys e; cases e), FZ_lst h⟩
theorem G2_tup {xs : List PV} (h : ∀ y ∈ xs, P1 y ∧ FZ 6 y) : G2 (.tup xs) := ⟨P2_tup fun y hy => (h y hy).1, FZ_tup fun y hy => (h y hy).2⟩
theorem G2_fr {n : Nat} {q : Rat} (h : RS n q) (l : n ≤ 300) : G2 (fr q) := ⟨P2_fr h l, (FZ_fr q).mono (by omega)⟩
theorem G2_hp {n : Nat} {t x : Rat} (h1 : RS n t) (h2 : RS n x) (l : n ≤ 300) : G2 (hp t x) := ⟨P2_hp h1 h2 l, (FZ_hp t x).mono (by omega)⟩
theorem P2.p3 {x : PV} (h : P2 x) (z : ∀ ys, x = .tup ys → ∀ y ∈ ys, P2 y) : P3 x := ⟨h.1, z⟩
end Z
/-! Plain speeds: a speed q and its beat b. -/
namespace Z
open PySem PySem.Spec PyProof.Rows L2
structure Pl (q b : Rat) : Prop where
  pos : 0 < b
  sq : b * b = 1 - q * q
theorem Pl.root {q b : Rat} (h : Pl q b) : rootQ (1 - q * q) = some b := by
  have p := h.pos
  rw [← h.sq, rootQ_sq, if_pos (by grind)]
theorem Pl.ne {q b : Rat} (h : Pl q b) : b ≠ 0 := by have := h.pos; grind
theorem sq_pos {b : Rat} (h : 0 < b) : 0 < b * b := Rat.mul_pos h h
theorem Pl.lt1 {q b : Rat} (h : Pl q b) : q < 1 := by
  have s := h.sq
  have p := sq_pos h.pos
  by_cases c : q < 1
  · exact c
  · have h1 : 0 ≤ (q - 1) * (q + 1) := Rat.mul_nonneg (by grind) (by grind)
    grind
theorem Pl.gt1 {q b : Rat} (h : Pl q b) : -1 < q := by
  have s := h.sq
  have p := sq_pos h.pos
  by_cases c : -1 < q
  · exact c
  · have h1 : 0 ≤ (-1 - q) * (1 - q) := Rat.mul_nonneg (by grind) (by grind)
    grind
theorem num_lt {q : Rat} (h1 : -1 < q) (h2 : q < 1) : (q.num.natAbs : Int) < q.den := by
  have a := (Rat.lt_iff q 1).mp h2
  have b := (Rat.lt_iff (-1) q).mp h1
  have a' : q.num * ((1 : Nat) : Int) < 1 * (q.den : Int) := a
  have b' : -1 * (q.den : Int) < q.num * ((1 : Nat) : Int) := b
  omega
theorem Pl.num {q b : Rat} (h : Pl q b) : (q.num.natAbs : Int) < q.den := num_lt h.gt1 h.lt1
theorem RS_1 {n : Nat} (h : 0 < n) : RS n 1 := by
  have : 1 < 2 ^ n := Nat.one_lt_two_pow (by omega)
  exact ⟨by show Sz n 1; unfold Sz; exact this, this⟩
theorem Pl.rs {n : Nat} {q b : Rat} (h : Pl q b) (hq : RS n q) (hn : 0 < n) : RS (3 * n + 1) b := by
  have r := ((RS_1 hn).sub (hq.mul hq)).root h.root
  exact r.mono (by omega)
/-- one less two speeds multiplied is above nought -/
theorem Pl.one_sub {p b q c : Rat} (h : Pl p b) (k : Pl q c) : 0 < 1 - p * q := by
  have h1 := h.lt1; have h2 := h.gt1; have k1 := k.lt1; have k2 := k.gt1
  have a : 0 < (1 - p) * (1 + q) := Rat.mul_pos (by grind) (by grind)
  have b' : 0 < (1 + p) * (1 - q) := Rat.mul_pos (by grind) (by grind)
  grind
theorem Pl.neg {q b : Rat} (h : Pl q b) : Pl (-q) b := ⟨h.pos, by have := h.sq; grind⟩
theorem div_pos' {a b : Rat} (h : 0 < a) (k : 0 < b) : 0 < a / b := by
  rw [Rat.div_def]; exact Rat.mul_pos h (Rat.inv_pos.mpr k)
/-- the one speed from the other -/
theorem Pl.sub {p b q c : Rat} (h : Pl p b) (k : Pl q c) : Pl ((p - q) / (1 - p * q)) (b * c / (1 - p * q)) := by
  have d := h.one_sub k
  have hs := h.sq; have ks := k.sq
  have n0 : 1 - p * q ≠ 0 := by grind
  refine ⟨div_pos' (Rat.mul_pos h.pos k.pos) d, ?_⟩
  grind
/-- the speed of two numbers, and its beat -/
theorem Pl_two {a b : Int} (ha : 0 < a) (hb : 0 < b) : ∃ c, Pl (Rat.divInt (a * a - b * b) (a * a + b * b)) c := by
  have p1 : 0 < a * a := Int.mul_pos ha ha
  have p2 : 0 < b * b := Int.mul_pos hb hb
  have s : (0 : Rat) < ((a * a + b * b : Int) : Rat) := Rat.intCast_pos.mpr (by omega)
  refine ⟨((2 * a * b : Int) : Rat) / ((a * a + b * b : Int) : Rat), div_pos' (Rat.intCast_pos.mpr (Int.mul_pos (Int.mul_pos (by decide) ha) hb)) s, ?_⟩
  rw [Rat.divInt_eq_div]
  have n0 : ((a * a + b * b : Int) : Rat) ≠ 0 := by grind
  have e1 : ((2 * a * b : Int) : Rat) = 2 * (a : Rat) * (b : Rat) := by simp [Rat.intCast_mul]
  have e2 : ((a * a + b * b : Int) : Rat) = (a : Rat) * a + (b : Rat) * b := by simp [Rat.intCast_mul, Rat.intCast_add]
  have e3 : ((a * a - b * b : Int) : Rat) = (a : Rat) * a - (b : Rat) * b := by simp [Rat.intCast_mul, Rat.intCast_sub]
  rw [e2] at n0
  rw [e1, e2, e3]
  grind
end Z
namespace Z
open PySem PySem.Spec PyProof.Rows L2
theorem num_gt0 (q : Rat) : decide (0 < q.num) = decide (0 < q) := by
  have h := lt_eq 0 q
  rw [Rat.zero_num, Rat.zero_den, Int.zero_mul] at h
  rw [← h]
  exact decide_eq_decide.mpr (by omega)
theorem num_lt' (q : Rat) : decide ((q.num.natAbs : Int) < q.den) = decide (-1 < q ∧ q < 1) := by
  have a := Rat.lt_iff q 1
  have b := Rat.lt_iff (-1) q
  have a' : q < 1 ↔ q.num * ((1 : Nat) : Int) < 1 * (q.den : Int) := a
  have b' : -1 < q ↔ -1 * (q.den : Int) < q.num * ((1 : Nat) : Int) := b
  refine decide_eq_decide.mpr ?_
  rw [a', b']
  omega
end Z
namespace Z
open PySem PySem.Spec PyProof.Rows L2
def whlK (c : GT) (b : GS) (n : Nat) : SRes → SRes
  | .nx ρ st => whl c b n ρ st
  | r => r
theorem whl_succ {c : GT} {b : GS} {n : Nat} {ρ : REnv} {st : List SO} : whl c b (n + 1) ρ st = toST ρ (c ρ st) fun t st => if t = true then whlK c b n (b ρ st) else .nx ρ st := by
  unfold whlK
  show toST ρ (c ρ st) (fun t st => if t = true then (match b ρ st with | .nx ρ' st' => whl c b n ρ' st' | r => r) else .nx ρ st) = _
  congr 1
theorem whlK_nx {c : GT} {b : GS} {n : Nat} {ρ : REnv} {st : List SO} : whlK c b n (.nx ρ st) = whl c b n ρ st := rfl
end Z
/-! zip; a def that calls itself; try. -/
namespace Z
open PySem PySem.Spec PyProof.Rows L2

/-! ### zip of two tuples, or of two lists -/
def zipP : List PV → List PV → List PV
  | x :: xs, y :: ys => .tup [x, y] :: zipP xs ys
  | _, _ => []
theorem zipP_len : ∀ xs ys : List PV, (zipP xs ys).length = min xs.length ys.length
  | [], ys => by simp [zipP]
  | x :: xs, [] => by simp [zipP]
  | x :: xs, y :: ys => by simp [zipP, zipP_len xs ys]
theorem zipP_get : ∀ {xs ys : List PV} {i : Nat} {x y : PV}, xs[i]? = some x → ys[i]? = some y → (zipP xs ys)[i]? = some (.tup [x, y])
  | [], _, _, _, _, h, _ => by simp at h
  | _ :: _, [], _, _, _, _, h => by simp at h
  | a :: xs, b :: ys, 0, x, y, h, k => by
    simp at h k
    subst h k
    rfl
  | a :: xs, b :: ys, i + 1, x, y, h, k => by
    simp only [List.getElem?_cons_succ] at h k
    show (zipP xs ys)[i]? = _
    exact zipP_get h k
def gZip (ga gb : G) : GL := fun ρ st => bnd (gArgs [ga, gb] ρ st) fun v st => match v with
  | [.tup xs, .tup ys] => .ok (zipP xs ys) st
  | [.lst xs, .lst ys] => .ok (zipP xs ys) st
  | _ => .bad
theorem itm_zipT {K : PySem.W.Frag} {w : Wd} {a b : Addr} {vs us : List V} {xs ys : List PV} (ha : SqT K w.F a vs) (hb : SqT K w.F b us) (ra : RepL K w xs vs) (rb : RepL K w ys us) : Itm K w (RZ.ItzT K a b) (zipP xs ys) := by
  have la := ra.length
  have lb := rb.length
  have lz := zipP_len xs ys
  have sq : ∀ {w1 : Wd} {H : Hp} {st : List SO} {c : Addr} {vs : List V}, LeF w w1 → WOk K w1 H st → SqT K w.F c vs → SqT K H c vs := fun l ok h => sqt_mono ok.fz (sqt_mono l.F h)
  refine ⟨fun i w1 H st l ok hi => ⟨vs, us, vs[i]'(by omega), us[i]'(by omega), sq l ok ha, sq l ok hb, by simp, by simp⟩, fun i w1 H st v H' l ok hi y => ?_, fun w1 H st l ok => ⟨vs, us, sq l ok ha, sq l ok hb, by omega⟩⟩
  obtain ⟨T, x, y, rfl, hT, rfl, f1, f2⟩ := y
  obtain ⟨v1, e1, r1⟩ := (ra.monoF l).get (i := i) (x := xs[i]'(by omega)) (by simp)
  obtain ⟨v2, e2, r2⟩ := (rb.monoF l).get (i := i) (x := ys[i]'(by omega)) (by simp)
  rw [f1 vs (sq l ok ha)] at e1
  rw [f2 us (sq l ok hb)] at e2
  cases e1
  cases e2
  have le := le_frz ok hT (.tup [x, y])
  exact ⟨w1.frz T (.tup [x, y]), .tup [xs[i]'(by omega), ys[i]'(by omega)], le, ok.frz hT _, zipP_get (by simp) (by simp), T, [x, y], rfl, .inl (.inl upd_same), x, [y], rfl, r1.mono le, y, [], rfl, r2.mono le, rfl⟩
theorem itm_zipL {K : PySem.W.Frag} {w : Wd} {a b : Addr} {vs us : List V} {xs ys : List PV} (ha : SqL K w.F a vs) (hb : SqL K w.F b us) (ra : RepL K w xs vs) (rb : RepL K w ys us) : Itm K w (Itz K a b) (zipP xs ys) := by
  have la := ra.length
  have lb := rb.length
  have lz := zipP_len xs ys
  have sq : ∀ {w1 : Wd} {H : Hp} {st : List SO} {c : Addr} {vs : List V}, LeF w w1 → WOk K w1 H st → SqL K w.F c vs → SqL K H c vs := fun l ok h => sql_mono ok.fz (sql_mono l.F h)
  refine ⟨fun i w1 H st l ok hi => ⟨vs, us, vs[i]'(by omega), us[i]'(by omega), sq l ok ha, sq l ok hb, by simp, by simp⟩, fun i w1 H st v H' l ok hi y => ?_, fun w1 H st l ok => ⟨vs, us, sq l ok ha, sq l ok hb, by omega⟩⟩
  obtain ⟨T, x, y, rfl, hT, rfl, f1, f2⟩ := y
  obtain ⟨v1, e1, r1⟩ := (ra.monoF l).get (i := i) (x := xs[i]'(by omega)) (by simp)
  obtain ⟨v2, e2, r2⟩ := (rb.monoF l).get (i := i) (x := ys[i]'(by omega)) (by simp)
  rw [f1 vs (sq l ok ha)] at e1
  rw [f2 us (sq l ok hb)] at e2
  cases e1
  cases e2
  have le := le_frz ok hT (.tup [x, y])
  exact ⟨w1.frz T (.tup [x, y]), .tup [xs[i]'(by omega), ys[i]'(by omega)], le, ok.frz hT _, zipP_get (by simp) (by simp), T, [x, y], rfl, .inl (.inl upd_same), x, [y], rfl, r1.mono le, y, [], rfl, r2.mono le, rfl⟩
theorem si_zip {X : Cx} {W : WX} {pos p tpos : Pos} {a b : Expr} {ga gb : G} {elts : List Expr} {kk : Nat} (hm : X.mg "zip" = none) (ha : L2.PA X [a, b] (tGA X.K W (gArgs [ga, gb]))) (hg : Gl X "zip" := by rfl)
    (hs : starEach [a, b] X.env = (false, eval a X.env) :: starEach [b] X.env := by rfl) (hpl : (backTo pos (starEach [b] X.env)).any (·.1) = false := by rfl) : PI X (.Tuple elts kk tpos) (.Call (.Name "zip" p) [a, b] [] pos) (tI X.K W (gZip ga gb)) := by
  refine pi_imp (RZ.pi_zipA hg hm ha hs hpl) fun σ H R ⟨w, ρ, st, ok, sl, po⟩ => ⟨w, ρ, st, ok, sl, post_bind (rel2 := fun w xs J => Itm X.K w J xs) po fun v st' w' H' vs l o r q => ?_⟩
  have key : (∃ xs ys, v = [.tup xs, .tup ys]) ∨ ∃ xs ys, v = [.lst xs, .lst ys] := by
    rcases v with _ | ⟨v1, _ | ⟨v2, _ | ⟨v3, v4⟩⟩⟩
    · exact q.elim
    · cases v1 <;> exact q.elim
    · cases v1 with
      | tup i => cases v2 with
        | tup j => exact .inl ⟨i, j, rfl⟩
        | _ => exact q.elim
      | lst i => cases v2 with
        | lst j => exact .inr ⟨i, j, rfl⟩
        | _ => exact q.elim
      | _ => exact q.elim
    · cases v1 with
      | tup i => cases v2 <;> exact q.elim
      | lst i => cases v2 <;> exact q.elim
      | _ => exact q.elim
  rcases key with ⟨xs, ys, rfl⟩ | ⟨xs, ys, rfl⟩
  · obtain ⟨v1, r1, e1, ⟨a, as, rfl, s1, h1⟩, v2, r2, e2, ⟨b, bs, rfl, s2, h2⟩, e3⟩ := r
    have ex : vs = [.ref a, .ref b] := by rw [e1, e2, show r2 = [] from e3]
    exact ⟨a, b, as, bs, ex, .inr ⟨sqt_mono o.fz s1, sqt_mono o.fz s2, q w' H' _ (Le.refl _) o (itm_zipT s1 s2 h1 h2)⟩⟩
  · obtain ⟨v1, r1, e1, ⟨a, as, rfl, s1, h1⟩, v2, r2, e2, ⟨b, bs, rfl, s2, h2⟩, e3⟩ := r
    have ex : vs = [.ref a, .ref b] := by rw [e1, e2, show r2 = [] from e3]
    exact ⟨a, b, as, bs, ex, .inl ⟨sql_mono o.fz s1, sql_mono o.fz s2, q w' H' _ (Le.refl _) o (itm_zipL s1 s2 h1 h2)⟩⟩
/-- what zip is given -/
def zipR (st : List SO) : List PV → Res (List PV)
  | [.tup xs, .tup ys] => .ok (zipP xs ys) st
  | [.lst xs, .lst ys] => .ok (zipP xs ys) st
  | _ => .bad
theorem gZip_eq {ga gb : G} {ρ : REnv} {st : List SO} : gZip ga gb ρ st = bnd (gArgs [ga, gb] ρ st) fun v st => zipR st v := by
  unfold gZip
  congr 1
theorem zipR_t {st : List SO} {xs ys : List PV} : zipR st [.tup xs, .tup ys] = .ok (zipP xs ys) st := rfl
theorem zipR_l {st : List SO} {xs ys : List PV} : zipR st [.lst xs, .lst ys] = .ok (zipP xs ys) st := rfl

/-! ### a def that calls itself: so deep -/
def recF (f : Fn → Fn) : Nat → Fn
  | 0 => fun _ _ => .bad
  | n + 1 => f (recF f n)
section
variable {P : Program} {w : World} {K : PySem.W.Frag} {mg : Str → Option Value} {base : Heap}
theorem def_none {x : Str} {params : Arguments} {body : List Stmt} {scope : Scope} {fd : FuncData} {f : Addr} {N ps : List Str} {k n : Nat} (FD : FunD K x x params body scope [] [] f fd) (S : FnScope N ps scope) (hps : ps.length = n) (hm : mg x = some (.ref f))
    (hb : Binds K fd ps []) : Def P w K mg base x n (k + 1) (fun _ _ => .bad) :=
  def_of (g := fun _ _ => .bad) FD S hps hm hb (fun cdv A outer s H E hr => ⟨fun pins s' σ H' D I ⟨w, ρ, st, ok, sl, po⟩ => po.elim⟩) fun _ _ _ => .inl rfl
theorem def_rec {x : Str} {n k : Nat} {f : Fn → Fn} (h0 : Def P w K mg base x n k (fun _ _ => .bad)) (hs : ∀ j F, Def P w K mg base x n (j + k) F → Def P w K mg base x n (j + k + 1) (f F)) : ∀ m, Def P w K mg base x n (m + k) (recF f m)
  | 0 => by rw [Nat.zero_add]; exact h0
  | m + 1 => by rw [Nat.add_right_comm]; exact hs m _ (def_rec h0 hs m)
end

/-! ### try: body, except the program's own errors: the word for the kind -/
def kinds : List (Str × Str) := [("NoDeed", "deed"), ("NoFlash", "flash"), ("NoFraction", "fraction"), ("NoHap", "hap"), ("NoHaps", "haps"), ("NoName", "name"), ("NoNumber", "number"), ("NoOrder", "order"), ("NoRod", "rod"), ("NoRow", "row"), ("NoSeat", "seat"), ("NoSpeed", "speed"), ("NoStep", "step"), ("NoStretch", "stretch"), ("NoText", "text"), ("NotPlain", "plain"), ("NoWay", "way"), ("TooMany", "many")]
def kdOf (c : Str) : Option Str := kinds.lookup c
def tryK : SRes → SRes
  | .exc c ρ st => (match kdOf c with
    | some s => .ret (.str s) st
    | none => .bad)
  | r => r
def gTry (g : GS) : GS := fun ρ st => tryK (g ρ st)
theorem gTry_eq {g : GS} {ρ : REnv} {st : List SO} : gTry g ρ st = tryK (g ρ st) := rfl
theorem tryK_nx {ρ : REnv} {st : List SO} : tryK (.nx ρ st) = .nx ρ st := rfl
theorem tryK_ret {v : PV} {st : List SO} : tryK (.ret v st) = .ret v st := rfl
theorem tryK_exc {c s : Str} {ρ : REnv} {st : List SO} (h : kdOf c = some s) : tryK (.exc c ρ st) = .ret (.str s) st := by
  show (match kdOf c with
    | some s => SRes.ret (.str s) st
    | none => .bad) = _
  rw [h]

theorem kk_tuple_tuple : kitK "tuple" (some "tuple") = some (.bl true) := rfl
theorem kk_list_list : kitK "list" (some "list") = some (.bl true) := rfl
theorem kk_str_str : kitK "str" (some "str") = some (.bl true) := rfl
/-! ### values that are compared with themselves -/
def Sm : Nat → PV → Prop
  | 0, _ => False
  | n + 1, .tup xs => xs.length ≤ 900 ∧ ∀ x ∈ xs, Sm n x
  | n + 1, .lst xs => xs.length ≤ 900 ∧ ∀ x ∈ xs, Sm n x
  | _ + 1, .non => True
  | _ + 1, .bl _ => True
  | _ + 1, .int _ => True
  | _ + 1, .str s => StO s
  | _ + 1, _ => False
theorem Sm_up : ∀ {n : Nat} {x : PV}, Sm n x → Sm (n + 1) x
  | 0, _, h => h.elim
  | n + 1, .tup xs, h => ⟨h.1, fun x hx => Sm_up (h.2 x hx)⟩
  | n + 1, .lst xs, h => ⟨h.1, fun x hx => Sm_up (h.2 x hx)⟩
  | n + 1, .non, _ => trivial
  | n + 1, .bl _, _ => trivial
  | n + 1, .int _, _ => trivial
  | n + 1, .str s, h => h
  | n + 1, .dct _, h => h.elim
  | n + 1, .exc _, h => h.elim
  | n + 1, .ref _, h => h.elim
  | n + 1, .ty _, h => h.elim
  | n + 1, .cls _, h => h.elim
theorem Sm_le {n m : Nat} {x : PV} (h : Sm n x) (l : n ≤ m) : Sm m x := by
  induction l with
  | refl => exact h
  | step _ ih => exact Sm_up ih
theorem Sm_tup {n : Nat} {xs : List PV} (l : xs.length ≤ 900) (h : ∀ x ∈ xs, Sm n x) : Sm (n + 1) (.tup xs) := ⟨l, h⟩
theorem Sm_lst {n : Nat} {xs : List PV} (l : xs.length ≤ 900) (h : ∀ x ∈ xs, Sm n x) : Sm (n + 1) (.lst xs) := ⟨l, h⟩
theorem Sm_fr (q : Rat) : Sm 2 (fr q) := by
  refine Sm_tup (by simp) fun x hx => ?_
  simp at hx
  rcases hx with rfl | rfl <;> exact trivial
theorem Sm_hp (t x : Rat) : Sm 3 (hp t x) := by
  refine Sm_tup (by simp) fun y hy => ?_
  simp at hy
  rcases hy with rfl | rfl <;> exact Sm_fr _
theorem Sm_st (q t x : Rat) : Sm 4 (.tup [fr q, hp t x]) := by
  refine Sm_tup (by simp) fun y hy => ?_
  simp at hy
  rcases hy with rfl | rfl
  · exact Sm_up (Sm_fr _)
  · exact Sm_hp _ _
theorem zipP_self : ∀ {xs : List PV} {z : PV}, z ∈ zipP xs xs → ∃ x ∈ xs, z = .tup [x, x]
  | [], _, h => by cases h
  | x :: xs, z, h => by
    rcases List.mem_cons.mp h with rfl | h
    · exact ⟨x, by simp, rfl⟩
    · obtain ⟨y, hy, e⟩ := zipP_self h
      exact ⟨y, by simp [hy], e⟩
end Z
/-! A list made in an expression is left as it is; a list so often. -/
namespace Z
open PySem PySem.Spec PyProof.Rows L2
open Classical in
/-- what an expression made itself is frozen -/
noncomputable def leaveE (st : List SO) (r : Res PV) : Res PV := match r with
  | .ok v st' => (match frzV st' st.length 9 v with
    | some v' => if OldOk st st' then .ok v' (st'.take st.length) else .bad
    | none => .bad)
  | .exc c st' => if OldOk st st' then .exc c (st'.take st.length) else .bad
  | .bad => .bad
noncomputable def gFz (g : G) : G := fun ρ st => leaveE st (g ρ st)
theorem gFz_eq {g : G} {ρ : REnv} {st : List SO} : gFz g ρ st = leaveE st (g ρ st) := rfl
theorem leaveE_ok {st st' : List SO} {v v' : PV} (h : OldOk st st') (hv : frzV st' st.length 9 v = some v') : leaveE st (.ok v st') = .ok v' (st'.take st.length) := by
  unfold leaveE
  simp only [hv, if_pos h]
open Classical in
theorem se_fz {X : Cx} {W : WX} {e : Expr} {g : G} (he : PE X e (tG X.K W g)) : PE X e (tG X.K W (gFz g)) := by
  refine pe_imp he fun σ H Q ⟨w, ρ, st, ok, sl, po⟩ => ⟨w, ρ, st, ok, sl, ?_⟩
  have po : Post X.K W (Rep X.K) w σ (leaveE st (g ρ st)) Q := po
  cases q : g ρ st with
  | ok v st' =>
    rw [q] at po
    have po : Post X.K W (Rep X.K) w σ (match frzV st' st.length 9 v with | some v' => if OldOk st st' then .ok v' (st'.take st.length) else .bad | none => .bad) Q := po
    cases e2 : frzV st' st.length 9 v with
    | none => rw [e2] at po; exact po.elim
    | some v' =>
      rw [e2] at po
      by_cases old : OldOk st st'
      · have po : Post X.K W (Rep X.K) w σ (if OldOk st st' then .ok v' (st'.take st.length) else .bad) Q := po
        rw [if_pos old] at po
        intro w' H' x l o rx
        obtain ⟨ok2, le2⟩ := left_ok ok l o old
        exact po _ H' x le2 ok2 (frz_rep o 9 v v' x e2 rx)
      · have po : Post X.K W (Rep X.K) w σ (if OldOk st st' then .ok v' (st'.take st.length) else .bad) Q := po
        rw [if_neg old] at po; exact po.elim
  | exc c st' =>
    rw [q] at po
    by_cases old : OldOk st st'
    · have po : Post X.K W (Rep X.K) w σ (if OldOk st st' then .exc c (st'.take st.length) else .bad) Q := po
      rw [if_pos old] at po
      intro w' H' l o
      obtain ⟨ok2, le2⟩ := left_ok ok l o old
      exact po _ H' le2 ok2
    · have po : Post X.K W (Rep X.K) w σ (if OldOk st st' then .exc c (st'.take st.length) else .bad) Q := po
      rw [if_neg old] at po; exact po.elim
  | bad => rw [q] at po; exact po.elim
/-! ### a list so often -/
def RepOk (n : Nat) (j : Int) : Prop := -(2 ^ 63) ≤ j ∧ j < 2 ^ 63 ∧ n * j.toNat ≤ sizeLine
theorem repOk1 {n : Nat} {j : Int} (h0 : -5 ≤ j) (h1 : j ≤ 5) (hn : n ≤ 100) : RepOk n j := by
  refine ⟨by omega, by omega, ?_⟩
  have : n * j.toNat ≤ 100 * 5 := Nat.mul_le_mul hn (by omega)
  exact small_line (by omega)
theorem RepL.times {K : PySem.W.Frag} {w : Wd} {xs : List PV} {vs : List V} (r : RepL K w xs vs) : ∀ n : Nat, RepL K w (List.replicate n xs).flatten (List.replicate n vs).flatten
  | 0 => rfl
  | n + 1 => by
    rw [List.replicate_succ, List.replicate_succ, List.flatten_cons, List.flatten_cons]
    exact r.append (RepL.times r n)
open Classical in
noncomputable def repL (st : List SO) : Option SO → PV → Res PV
  | some (.lst xs), .int j => if RepOk xs.length j then .ok (.ref st.length) (st ++ [.lst (List.replicate j.toNat xs).flatten]) else .bad
  | _, _ => .bad
noncomputable def repR (st : List SO) (x y : PV) : Res PV := match x with
  | .ref k => repL st st[k]? y
  | _ => .bad
noncomputable def gRep (ga gb : G) : G := fun ρ st => bnd (ga ρ st) fun x st => bnd (gb ρ st) fun y st => repR st x y
theorem gRep_eq {ga gb : G} {ρ : REnv} {st : List SO} : gRep ga gb ρ st = bnd (ga ρ st) fun x st => bnd (gb ρ st) fun y st => repR st x y := rfl
theorem repR_r {st : List SO} {k : Nat} {y : PV} : repR st (.ref k) y = repL st st[k]? y := rfl
theorem repL_ok {st : List SO} {xs : List PV} {j : Int} (h : RepOk xs.length j) : repL st (some (.lst xs)) (.int j) = .ok (.ref st.length) (st ++ [.lst (List.replicate j.toNat xs).flatten]) := if_pos h
open Classical in
theorem se_rep {X : Cx} {W : WX} {pos : Pos} {a b : Expr} {ga gb : G} (ha : PE X a (tG X.K W ga)) (hb : PE X b (tG X.K W gb)) : PE X (.BinOp a .Mult b pos) (tG X.K W (gRep ga gb)) := by
  refine pe_imp (pe_op op_rep ha hb) fun σ H Q ⟨w, ρ, st, ok, sl, po⟩ => ?_
  refine ⟨w, ρ, st, ok, sl, post_bind (rel2 := Rep X.K) po fun x st1 w1 H1 vx l1 ok1 rx po1 => ?_⟩
  refine ⟨w1, ρ, st1, ok1, sl.mono l1, post_bind (rel2 := Rep X.K) po1 fun y st2 w2 H2 vy l2 ok2 ry po2 => ?_⟩
  have rx := rx.mono l2
  cases x with
  | ref k =>
    have po2 : Post X.K W (Rep X.K) w2 σ (repL st2 st2[k]? y) Q := po2
    obtain ⟨p, e1, q1⟩ := rx
    obtain ⟨c1, o1, h1, h2, h3⟩ := ok2.obj q1
    rw [h1] at po2
    cases c1 with
    | dK _ => exact po2.elim
    | lst xs =>
      cases y with
      | int j =>
        obtain ⟨us, f1, r1⟩ := h3
        subst f1
        have po2 : Post X.K W (Rep X.K) w2 σ (if RepOk xs.length j then .ok (.ref st2.length) (st2 ++ [.lst (List.replicate j.toNat xs).flatten]) else .bad) Q := po2
        by_cases hc : RepOk xs.length j
        · rw [if_pos hc] at po2
          refine ⟨p, j, us, e1, ry, h2, hc.1, hc.2.1, by rw [r1.length]; exact hc.2.2, fun r hr => ?_⟩
          refine po2 (w2.new r) _ _ (le_new w2 r) (ok2.new hr (c := .lst (List.replicate j.toNat xs).flatten) ⟨_, rfl, r1.times _⟩) ⟨r, rfl, ?_⟩
          show (w2.adr ++ [r])[st2.length]? = some r
          rw [← ok2.len]; simp
        · rw [if_neg hc] at po2; exact po2.elim
      | _ => exact po2.elim
  | _ => exact po2.elim
/-! ### sizes, speeds -/
theorem one_rs {n : Nat} {q : Rat} (h : RS n q) : RS n 1 := by
  have : 1 < 2 ^ n := Nat.lt_of_le_of_lt q.den_pos h.2
  exact ⟨by show Sz n 1; unfold Sz; exact this, this⟩
theorem one_sub2 {p q : Rat} (h1 : -1 < p) (h2 : p < 1) (k1 : -1 < q) (k2 : q < 1) : 0 < 1 - p * q := by
  have a : 0 < (1 - p) * (1 + q) := Rat.mul_pos (by grind) (by grind)
  have b' : 0 < (1 + p) * (1 - q) := Rat.mul_pos (by grind) (by grind)
  grind
theorem rs0 {m : Nat} {t : Rat} (ht : RS m t) : RS m 0 := by
  have : 1 < 2 ^ m := Nat.lt_of_le_of_lt t.den_pos ht.2
  exact ⟨by show Sz m 0; unfold Sz; show 0 < 2 ^ m; omega, this⟩
theorem rootQ_sp {q : Rat} (h : (q.num.natAbs : Int) < q.den) : rootQ (1 - q * q) = if isq ((q.den : Int) * q.den - q.num * q.num).toNat * isq ((q.den : Int) * q.den - q.num * q.num).toNat = ((q.den : Int) * q.den - q.num * q.num).toNat then some (Rat.divInt (isq ((q.den : Int) * q.den - q.num * q.num).toNat) q.den) else none := by
  obtain ⟨h1, h2, h3⟩ := sp_num h
  have d : (1 - q * q).den = q.den * q.den := by
    have e : ((q.den * q.den : Nat) : Int) = (q.den : Int) * q.den := Int.natCast_mul _ _
    omega
  unfold rootQ
  have k : isSq (1 - q * q) ↔ isq ((q.den : Int) * q.den - q.num * q.num).toNat * isq ((q.den : Int) * q.den - q.num * q.num).toNat = ((q.den : Int) * q.den - q.num * q.num).toNat := by
    unfold isSq
    rw [h1, d, isq_sq]
    exact ⟨fun z => z.2.1, fun z => ⟨by omega, z, rfl⟩⟩
  by_cases c : isSq (1 - q * q)
  · rw [if_pos c, if_pos (k.mp c), h1, d, isq_sq]
  · rw [if_neg c, if_neg (fun z => c (k.mpr z))]
theorem mpos {d v : Rat} (h : 0 < v) : 0 < d * v ↔ 0 < d := by
  refine ⟨fun p => ?_, fun c => Rat.mul_pos c h⟩
  by_cases c : 0 < d
  · exact c
  · have := Rat.mul_nonneg (a := -d) (b := v) (by grind) (by grind)
    grind
theorem Pl_of {q c : Rat} (h1 : -1 < q) (h2 : q < 1) (h : rootQ (1 - q * q) = some c) : Pl q c := by
  obtain ⟨a, b⟩ := rootQ_some h
  have p := one_sub2 h1 h2 h1 h2
  refine ⟨?_, b⟩
  by_cases z : c = 0
  · subst z; grind
  · grind
/-! ### a def picked out of a list of defs -/
def callI (Fs : List Fn) : PV → Option Fn
  | .int j => if 0 ≤ j then Fs[j.toNat]? else none
  | _ => none
def callK (o : Option Fn) (r : Res (List PV)) : Res PV := match o with
  | some F => bnd r F
  | none => .bad
def gCallI (Fs : List Fn) (gi : G) (gs : List G) : G := fun ρ st => bnd (gi ρ st) fun v st1 => callK (callI Fs v) (gArgs gs ρ st1)
theorem gCallI_eq {Fs : List Fn} {gi : G} {gs : List G} {ρ : REnv} {st : List SO} : gCallI Fs gi gs ρ st = bnd (gi ρ st) fun v st1 => callK (callI Fs v) (gArgs gs ρ st1) := rfl
theorem callK_some {F : Fn} {r : Res (List PV)} : callK (some F) r = bnd r F := rfl
theorem callI0 {F : Fn} {l : List Fn} : callI (F :: l) (.int 0) = some F := rfl
theorem callI1 {a F : Fn} {l : List Fn} : callI (a :: F :: l) (.int 1) = some F := rfl
theorem callI2 {a b F : Fn} {l : List Fn} : callI (a :: b :: F :: l) (.int 2) = some F := rfl
theorem callI3 {a b c F : Fn} {l : List Fn} : callI (a :: b :: c :: F :: l) (.int 3) = some F := rfl
/-! ### lists that are compared -/
theorem eqD_self {st : List SO} {x : PV} {d : PyData} (h : toD (de st x) = some d) (hs : SeqAt.shaped d = true) : eqD st x x = some true := by
  unfold eqD
  simp only [h, hs, and_self, if_true]
  rw [SeqAt.eqv_refl d (SeqAt.canLay_of_shaped hs)]
theorem neV_self {st : List SO} {x : PV} {d : PyData} (h : toD (de st x) = some d) (hs : SeqAt.shaped d = true) : neV st x x = some (.bl false) := by
  unfold neV
  rw [eqD_self h hs]
  rfl
theorem frz_str {st : List SO} {n d : Nat} {s : Str} : frzV st n (d + 1) (.str s) = some (.str s) := rfl
theorem mapO_strs {st : List SO} {n d : Nat} {s : Str} : ∀ k : Nat, mapO (frzV st n (d + 1)) (List.replicate k (.str s)) = some (List.replicate k (.str s))
  | 0 => rfl
  | k + 1 => by
    rw [List.replicate_succ]
    unfold mapO
    rw [frz_str]
    simp only [mapO_strs k]
theorem frz_at {st : List SO} {k n : Nat} {xs ys : List PV} (hk : n ≤ k) (h : st[k]? = some (.lst xs)) (e : mapO (frzV st n 8) xs = some ys) : frzV st n 9 (.ref k) = some (.lst ys) := by
  have z : frzV st n 9 (.ref k) = if k < n then some (PV.ref k) else (match st[k]? with
    | some (.lst xs) => (mapO (frzV st n 8) xs).map .lst
    | some (.dK kvs) => (mapO (fun p : Key × PV => (frzV st n 8 p.2).map fun v => (p.1, v)) kvs).map .dct
    | none => none) := rfl
  rw [z, if_neg (by omega), h]
  show (mapO (frzV st n 8) xs).map PV.lst = _
  rw [e]
  rfl
/-- ['word'] * n, compared -/
theorem fz_rep {ρ : REnv} {st : List SO} {s : Str} {n : Nat} (hn : n ≤ 100) : gFz (gRep (gNewE [gC (.str s)]) (gC (.int n))) ρ st = .ok (.lst (List.replicate n (.str s))) st := by
  have ro : RepOk ([PV.str s] : List PV).length (n : Int) := by
    refine ⟨by omega, by omega, ?_⟩
    have : ([PV.str s] : List PV).length * ((n : Int)).toNat = n := by simp
    rw [this]
    exact small_line (by omega)
  have fl : ∀ k : Nat, (List.replicate k [PV.str s]).flatten = List.replicate k (PV.str s) := fun k => by
    induction k with
    | zero => rfl
    | succ k ih => rw [List.replicate_succ, List.flatten_cons, ih, List.replicate_succ]; rfl
  have e : gRep (gNewE [gC (.str s)]) (gC (.int n)) ρ st = .ok (.ref (st.length + 1)) (st ++ [.lst [.str s], .lst (List.replicate n (.str s))]) := by
    show repL (st ++ [SO.lst [PV.str s]]) (st ++ [SO.lst [PV.str s]])[st.length]? (.int n) = _
    rw [List.getElem?_append_right (Nat.le_refl _), Nat.sub_self]
    show repL (st ++ [SO.lst [PV.str s]]) (some (.lst [PV.str s])) (.int n) = _
    rw [repL_ok ro, Int.toNat_natCast, fl]
    simp
  rw [gFz_eq, e]
  have g : (st ++ [SO.lst [PV.str s], .lst (List.replicate n (PV.str s))])[st.length + 1]? = some (.lst (List.replicate n (.str s))) := by
    rw [List.getElem?_append_right (by omega)]
    simp
  rw [leaveE_ok (OldOk.refl st).app (frz_at (by omega) g (mapO_strs n)), List.take_left]
theorem map_const (f : PV → PV) (c : PV) : ∀ xs : List PV, (∀ x ∈ xs, f x = c) → xs.map f = List.replicate xs.length c
  | [], _ => rfl
  | x :: xs, h => by rw [List.map_cons, h x (by simp), map_const f c xs fun y hy => h y (by simp [hy])]; rfl
/-- a comprehension that tells the same for all -/
theorem comp_same {it : GL} {t : PV → REnv → Option REnv} {e : G} {vs : List Nat} {ρ : REnv} {st : List SO} {xs : List PV} {c : PV} (h1 : it ρ st = .ok xs st) (hl : xs.length ≤ 900) (h : ∀ x ∈ xs, ∃ ρ1, t x (wipeR ρ vs) = some ρ1 ∧ e ρ1 st = .ok c st) :
    gComp it t gYes e vs ρ st = .ok (.lst (List.replicate xs.length c)) st := by
  have m := comp_map (t := t) (e := e) (ρ := wipeR ρ vs) (st := st) (fun _ => c) xs h
  rw [map_const _ c xs fun _ _ => rfl] at m
  exact gComp_ok h1 m (lenOk_small (by rw [List.length_replicate]; omega))
/-! ### a part of a tuple or list, by numbers written there -/
def cutP (xs : List PV) (lo hi : Option Int) : List PV := (xs.drop (HT.sIx xs.length 0 lo)).take (HT.sIx xs.length xs.length hi - HT.sIx xs.length 0 lo)
def slR (lo hi : Option Int) (st : List SO) : PV → Res PV
  | .tup xs => if HT.sIx xs.length 0 lo = 0 ∧ HT.sIx xs.length xs.length hi = xs.length then .bad else .ok (.tup (cutP xs lo hi)) st
  | .lst xs => .ok (.lst (cutP xs lo hi)) st
  | _ => .bad
def gSl (g : G) (lo hi : Option Int) : G := fun ρ st => bnd (g ρ st) fun v st => slR lo hi st v
theorem gSl_eq {g : G} {lo hi : Option Int} {ρ : REnv} {st : List SO} : gSl g lo hi ρ st = bnd (g ρ st) fun v st => slR lo hi st v := rfl
theorem slR_t {xs : List PV} {lo hi : Option Int} {st : List SO} (h : ¬ (HT.sIx xs.length 0 lo = 0 ∧ HT.sIx xs.length xs.length hi = xs.length)) : slR lo hi st (.tup xs) = .ok (.tup (cutP xs lo hi)) st := if_neg h
def tOI : Option Int → TO
  | none => tNoPart
  | some i => tPart (tC (.int i))
theorem po_nil {X : Cx} : PO X none (tOI none) := po_none
theorem po_one {X : Cx} {i : Int} {j : Nat} {pos : Pos} : PO X (some (.Constant (.int i) j pos)) (tOI (some i)) := po_some pe_int
theorem se_sl {X : Cx} {W : WX} {pos p2 : Pos} {e : Expr} {elo ehi : Option Expr} {lo hi : Option Int} {g : G} (he : PE X e (tG X.K W g)) (hl : PO X elo (tOI lo)) (hh : PO X ehi (tOI hi)) : PE X (.Subscript e (.Slice elo ehi none p2) pos) (tG X.K W (gSl g lo hi)) := by
  refine pe_imp (pe_slice (SlR.or sl_tup sl_list) he hl hh) fun σ H Q ⟨w, ρ, st, ok, sl, po⟩ => ⟨w, ρ, st, ok, sl, post_bind (rel2 := Rep X.K) po fun v st1 w1 H1 vx l1 ok1 rx po1 => ?_⟩
  have pick : ∀ {o : Option Int} {H : Hp} {Q : Option Int → Hp → Prop}, Q o H → tOI o σ H Q := fun {o H Q} q => by
    cases o with
    | none => exact q
    | some i => exact ⟨i, rfl, q⟩
  refine pick (pick ?_)
  cases v with
  | tup xs =>
    obtain ⟨a, vs, ev, sq, rs⟩ := rx
    have len := rs.length
    have po1 : Post X.K W (Rep X.K) w1 σ (if HT.sIx xs.length 0 lo = 0 ∧ HT.sIx xs.length xs.length hi = xs.length then .bad else .ok (.tup (cutP xs lo hi)) st1) Q := po1
    by_cases hc : HT.sIx xs.length 0 lo = 0 ∧ HT.sIx xs.length xs.length hi = xs.length
    · rw [if_pos hc] at po1; exact po1.elim
    · rw [if_neg hc] at po1
      refine .inl ⟨a, vs, ev, sqt_mono ok1.fz sq, by rw [len]; exact hc, fun p hp => ?_⟩
      refine po1 (w1.frz p (.tup (cutV vs lo hi))) _ _ (le_frz ok1 hp _) (ok1.frz hp _) ⟨p, _, rfl, .inl (.inl upd_same), ?_⟩
      unfold cutV cutP
      rw [len]
      exact ((rs.drop _).take _).mono (le_frz ok1 hp _)
  | lst xs =>
    obtain ⟨a, vs, ev, sq, rs⟩ := rx
    have len := rs.length
    refine .inr ⟨a, vs, ev, sql_mono ok1.fz sq, fun p hp => ?_⟩
    refine po1 (w1.frz p (.lst (cutV vs lo hi))) _ _ (le_frz ok1 hp _) (ok1.frz hp _) ⟨p, _, rfl, .inl (.inl upd_same), ?_⟩
    unfold cutV cutP
    rw [len]
    exact ((rs.drop _).take _).mono (le_frz ok1 hp _)
  | _ => exact po1.elim
/-! ### x is not True, x is not False -/
def isNotBV : F2 := fun _ x y => match x, y with
  | .bl a, .bl b => some (.bl (!decide (a = b)))
  | _, _ => none
theorem isNotBV_b {st : List SO} {a b : Bool} : isNotBV st (.bl a) (.bl b) = some (.bl (!decide (a = b))) := rfl
theorem divInt_lt1 {t b : Int} (hb : 0 < b) (h : (t.natAbs : Int) < b) : -1 < Rat.divInt t b ∧ Rat.divInt t b < 1 := by
  have bp : (0 : Rat) < ((b : Int) : Rat) := Rat.intCast_pos.mpr hb
  constructor
  · rw [Rat.divInt_eq_div, Rat.lt_div_iff bp]
    have : ((-b : Int) : Rat) < ((t : Int) : Rat) := Rat.intCast_lt_intCast.mpr (by omega)
    have e : ((-b : Int) : Rat) = -1 * ((b : Int) : Rat) := by rw [Rat.intCast_neg]; grind
    rw [← e]; exact this
  · rw [Rat.divInt_eq_div, Rat.div_lt_iff bp, Rat.one_mul]
    exact Rat.intCast_lt_intCast.mpr (by omega)
/-! ### t[::-1] of a tuple -/
def gRevT (g : G) : G := fun ρ st => bnd (g ρ st) fun v st => match v with
  | .tup xs => .ok (.tup xs.reverse) st
  | _ => .bad
def revR (st : List SO) : PV → Res PV
  | .tup xs => .ok (.tup xs.reverse) st
  | _ => .bad
theorem gRevT_eq {g : G} {ρ : REnv} {st : List SO} : gRevT g ρ st = bnd (g ρ st) fun v st => revR st v := rfl
theorem revR_t {st : List SO} {xs : List PV} : revR st (.tup xs) = .ok (.tup xs.reverse) st := rfl
/-! ### speeds put together -/
theorem join_lt {p q : Rat} (h1 : -1 < p) (h2 : p < 1) (k1 : -1 < q) (k2 : q < 1) : 0 < 1 + p * q ∧ -1 < (p + q) / (1 + p * q) ∧ (p + q) / (1 + p * q) < 1 := by
  have d := one_sub2 h1 h2 (q := -q) (by grind) (by grind)
  have d' : 0 < 1 + p * q := by grind
  have a : 0 < (1 - p) * (1 - q) := Rat.mul_pos (by grind) (by grind)
  have b : 0 < (1 + p) * (1 + q) := Rat.mul_pos (by grind) (by grind)
  refine ⟨d', ?_, ?_⟩
  · rw [Rat.lt_div_iff d']; grind
  · rw [Rat.div_lt_iff d']; grind
theorem join_off {p q : Rat} (h1 : -1 < p) (h2 : p < 1) (k1 : -1 < q) (k2 : q < 1) : ((p + q) / (1 + p * q) - q) / (1 - (p + q) / (1 + p * q) * q) = p := by
  obtain ⟨d, j1, j2⟩ := join_lt h1 h2 k1 k2
  have y : (p + q) / (1 + p * q) * (1 + p * q) = p + q := by grind
  generalize (p + q) / (1 + p * q) = j at *
  have e := one_sub2 j1 j2 k1 k2
  have n : 1 - j * q ≠ 0 := by grind
  have k : j - q = p * (1 - j * q) := by
    have z : (j - q - p * (1 - j * q)) = 0 := by grind
    grind
  rw [k]
  grind
theorem join_rs {n m : Nat} {p q : Rat} (hp : RS n p) (hq : RS m q) (h0 : 1 + p * q ≠ 0) : RS (n + m + 1) ((p + q) / (1 + p * q)) := by
  have bn : ((p.den : Int) : Rat) ≠ 0 := by have := Rat.intCast_pos.mpr (dpos p); grind
  have dn : ((q.den : Int) : Rat) ≠ 0 := by have := Rat.intCast_pos.mpr (dpos q); grind
  have e1 : p * ((p.den : Int) : Rat) = (p.num : Rat) := by
    have e : p = (p.num : Rat) / ((p.den : Int) : Rat) := by rw [← Rat.divInt_eq_div, Rat.num_divInt_den]
    rw [Rat.div_def] at e
    grind
  have e2 : q * ((q.den : Int) : Rat) = (q.num : Rat) := by
    have e : q = (q.num : Rat) / ((q.den : Int) : Rat) := by rw [← Rat.divInt_eq_div, Rat.num_divInt_den]
    rw [Rat.div_def] at e
    grind
  have e3 : (((p.num * q.den + q.num * p.den : Int)) : Rat) = (p + q) * (((p.den : Int) : Rat) * ((q.den : Int) : Rat)) := by
    rw [Rat.intCast_add, Rat.intCast_mul, Rat.intCast_mul, ← e1, ← e2]; grind
  have e4 : (((p.den * q.den + p.num * q.num : Int)) : Rat) = (1 + p * q) * (((p.den : Int) : Rat) * ((q.den : Int) : Rat)) := by
    rw [Rat.intCast_add, Rat.intCast_mul, Rat.intCast_mul, ← e1, ← e2]; grind
  have n0 : (p.den * q.den + p.num * q.num : Int) ≠ 0 := fun z => by
    have z' : (((p.den * q.den + p.num * q.num : Int)) : Rat) = 0 := by rw [z]; rfl
    rw [e4] at z'
    rcases Rat.mul_eq_zero.mp z' with y | y
    · exact h0 y
    · rcases Rat.mul_eq_zero.mp y with y | y
      · exact bn y
      · exact dn y
  have e : (p + q) / (1 + p * q) = Rat.divInt (p.num * q.den + q.num * p.den) (p.den * q.den + p.num * q.num) := by
    rw [Rat.divInt_eq_div, e3, e4]
    have b : ((p.den : Int) : Rat) * ((q.den : Int) : Rat) ≠ 0 := fun z => by
      rcases Rat.mul_eq_zero.mp z with y | y
      · exact bn y
      · exact dn y
    generalize ((p.den : Int) : Rat) * ((q.den : Int) : Rat) = B at *
    clear e1 e2 e3 e4 n0
    grind
  rw [e]
  have s2 : Sz (n + m) (q.num * p.den) := by rw [Nat.add_comm]; exact hq.1.mul hp.den
  exact RS.divInt ((hp.1.mul hq.den).addm s2) ((hp.den.mul hq.den).addm (hp.1.mul hq.1)) n0
/-- a speed so often -/
def jn (q : Rat) : Nat → Rat
  | 0 => 0
  | k + 1 => (jn q k + q) / (1 + jn q k * q)
theorem jn_ok {m : Nat} {q : Rat} (h1 : -1 < q) (h2 : q < 1) (hq : RS m q) : ∀ k : Nat, -1 < jn q k ∧ jn q k < 1 ∧ RS (1 + k * (m + 1)) (jn q k)
  | 0 => ⟨by show (-1 : Rat) < 0; grind, by show (0 : Rat) < 1; grind, rs0 (RS_1 (n := 1 + 0 * (m + 1)) (by omega))⟩
  | k + 1 => by
    obtain ⟨a, b, c⟩ := jn_ok h1 h2 hq k
    obtain ⟨d, e, f⟩ := join_lt a b h1 h2
    exact ⟨e, f, (join_rs c hq (by grind)).mono (by rw [Nat.add_mul]; omega)⟩
/-- a loop, turn by turn -/
theorem forg_idx {t : PV → REnv → Option REnv} {b : GS} : ∀ (xs : List PV) (I : Nat → REnv → List SO → Prop) (ρ : REnv) (st : List SO), I 0 ρ st →
    (∀ (i : Nat) (x : PV) ρ st, xs[i]? = some x → I i ρ st → ∃ ρ1 ρ2 st2, t x ρ = some ρ1 ∧ b ρ1 st = .nx ρ2 st2 ∧ I (i + 1) ρ2 st2) → ∃ ρ' st', forg t b xs ρ st = .nx ρ' st' ∧ I xs.length ρ' st'
  | [], I, ρ, st, h, _ => ⟨ρ, st, rfl, h⟩
  | x :: xs, I, ρ, st, h, hs => by
    obtain ⟨ρ1, ρ2, st2, e1, e2, h2⟩ := hs 0 x ρ st rfl h
    obtain ⟨ρ', st', e3, h3⟩ := forg_idx xs (fun i => I (i + 1)) ρ2 st2 h2 fun i y ρ st hy => hs (i + 1) y ρ st (by simpa using hy)
    refine ⟨ρ', st', ?_, h3⟩
    show (match t x ρ with | some ρ1 => (match b ρ1 st with | .nx ρ2 st2 => forg t b xs ρ2 st2 | r => r) | none => .bad) = _
    rw [e1]
    show (match b ρ1 st with | .nx ρ2 st2 => forg t b xs ρ2 st2 | r => r) = _
    rw [e2]
    exact e3
end Z
/-! The refusal that is handled: its kind; try. -/
namespace Z
open PySem PySem.Spec PyProof.Rows L2
/-! ### what the classes say -/
def kindNames : List Str := kinds.map Prod.fst
def excCB (K : PySem.W.Frag) (D : Addr) : Bool :=
  He.eqO (PySem.W.findIn K (.ref D) "__getattribute__") (some (some (.builtin "BaseException.__getattribute__"))) && (He.eqO (PySem.W.findIn K (.ref D) "__getattr__") (some none) && (decide (PySem.W.subIn K (.ref D) (.type "BaseException") = some true) &&
    (PySem.W.hasDictIn K D && (He.eqO (PySem.W.findIn K (.ref D) "__class__") (some (some (.builtin "object.__class__"))) && (decide (PySem.W.mroIn K D (.type "object") = some true) && (decide (PySem.W.exmOne K (.ref D) (.ref (He.ga K "MotionError")) = some true) && decide (PySem.W.kitOne K (.ref D) (.type "ValueError") = some true)))))))
def kindB (K : PySem.W.Frag) : Bool := He.eqO (PySem.W.specialIn K (.builtin "object.__class__") "__get__") (some (some (.builtin "getset_descriptor.__get__"))) && (decide (PySem.W.takesIn K (.builtin "object.__class__") = some true) &&
  (kindNames.all (fun d => excCB K (He.ga K d)) && kindNames.all fun d => kindNames.all fun c => decide (PySem.W.kitOne K (.ref (He.ga K d)) (.ref (He.ga K c)) = some (decide (c = d)))))
structure KindF (K : PySem.W.Frag) (d : Str) : Prop where
  exc : ExcC K (He.ga K d)
  exm : PySem.W.exmOne K (.ref (He.ga K d)) (.ref (He.ga K "MotionError")) = some true
  val : PySem.W.kitOne K (.ref (He.ga K d)) (.type "ValueError") = some true
  kit : ∀ c ∈ kindNames, PySem.W.kitOne K (.ref (He.ga K d)) (.ref (He.ga K c)) = some (decide (c = d))
theorem kindF_of {K : PySem.W.Frag} (h : kindB K = true) {d : Str} (hd : d ∈ kindNames) : KindF K d := by
  unfold kindB at h
  simp only [Bool.and_eq_true, List.all_eq_true, decide_eq_true_eq] at h
  obtain ⟨h1, h2, h3, h4⟩ := h
  have e := h3 d hd
  unfold excCB at e
  simp only [Bool.and_eq_true, decide_eq_true_eq] at e
  obtain ⟨e1, e2, e3, e4, e5, e6, e7, e8⟩ := e
  exact ⟨⟨He.eqO_ok e1, He.eqO_ok e2, e3, e4, He.eqO_ok e5, He.eqO_ok h1, h2, e6⟩, e7, e8, fun c hc => h4 d hd c hc⟩
theorem kind_mem {d s : Str} (h : kdOf d = some s) : d ∈ kindNames := by
  unfold kdOf at h
  exact List.mem_map.mpr ⟨(d, s), PySem.mem_of_lookup h, rfl⟩

/-! ### isinstance of the one that is handled -/
section
variable {X : Cx}
theorem call_isX {p : Addr × Obj} {D : Addr} (C : ExcC X.K D) (hp : p ∈ X.pn) (hz : Zc (.ref D) none p.2) (hf : ∃ fs, p.2.data = .fields fs) : CallR X (.builtin "isinstance") (rIsE X.K D p.1) := by
  intro pins sh sg Hh ys ws Q I rel ⟨c, cv, b, ey, look, kit, q⟩
  subst ey
  obtain ⟨w1, rel1, ews⟩ : ∃ w1, RelV c w1 ∧ ws = [Value.ref p.1, w1] := by
    cases rel with
    | cons ra rb => cases rb with
      | cons rc rd => cases rd; cases ra; exact ⟨_, rc, rfl⟩
  subst ews
  cases look w1 rel1
  obtain ⟨there, -⟩ := I.pin p (List.mem_append_left _ hp)
  have at1 : PySem.W.InstAt sh.heap p.1 p.2 D none := by
    obtain ⟨a, oc, od, oda, osl⟩ := p
    obtain ⟨fs, z0⟩ := hf
    obtain ⟨z1, z2⟩ := hz
    dsimp only at z0 z1 z2 there
    subst z0 z1 z2
    exact ⟨there, rfl, rfl, trivial⟩
  refine PySem.W.kia_one (PySem.W.handS_kitx_exc C.hg C.hk C.hs C.hd C.ha C.hn C.ht C.hm) I.kIn at1 kit (fun z => nomatch z) fun tk => ?_
  exact ⟨.bl b, Hh, I.kept (t' := tk) fun _ _ z => z, rfl, q⟩
end
/-- the exception at a, of the class d: whether it is one of a class -/
def isE (a : Addr) (d : Str) : FL := fun _ xs => match xs with
  | [.exc b, .cls c] => if b = a ∧ c ∈ kindNames then some (.bl (decide (c = d))) else none
  | [.exc b, .ty n] => if b = a ∧ n = "ValueError" then some (.bl true) else none
  | _ => none
theorem s_isE {K : PySem.W.Frag} {a : Addr} {d : Str} (k : KindF K d) : SndL K (isE a d) (rIsE K (He.ga K d) a) := by
  intro w H st xs z vs Q ok rs e q
  rcases xs with _ | ⟨x, _ | ⟨y, _ | ⟨u, us⟩⟩⟩
  · cases e
  · cases x <;> cases e
  · obtain ⟨v1, r1, e1, h1, v2, r2, e2, h2, e3⟩ := rs
    have e3 : r2 = [] := e3
    subst e3
    cases x with
    | exc b =>
      have h1 : v1 = .ref b := h1
      cases y with
      | cls c =>
        have h2 : v2 = .ref (He.ga K c) := h2
        have e : (if b = a ∧ c ∈ kindNames then some (PV.bl (decide (c = d))) else none) = some z := e
        by_cases hc : b = a ∧ c ∈ kindNames
        · rw [if_pos hc] at e
          cases e
          exact ⟨v2, .ref (He.ga K c), decide (c = d), by rw [e1, e2, h1, hc.1], fun u r => by rw [h2] at r; exact r, k.kit c hc.2, q w H _ (Le.refl _) ok rfl⟩
        · rw [if_neg hc] at e; cases e
      | ty n =>
        have h2 : v2 = .ty n := h2
        have e : (if b = a ∧ n = "ValueError" then some (PV.bl true) else none) = some z := e
        by_cases hc : b = a ∧ n = "ValueError"
        · rw [if_pos hc] at e
          cases e
          exact ⟨v2, .type "ValueError", true, by rw [e1, e2, h1, hc.1], fun u r => by rw [h2, hc.2] at r; exact r, k.val, q w H _ (Le.refl _) ok rfl⟩
        · rw [if_neg hc] at e; cases e
      | _ => cases e
    | _ => cases e
  · cases x <;> cases y <;> cases e
/-! ### how often, where: truths in a list -/
section
variable {X : Cx}
def rCntB (K : PySem.W.Frag) : V → List V → Hp → VK → Prop := fun x xs H Q => ∃ (p : Addr) (bs : List Bool) (b : Bool), x = .ref p ∧ xs = [.bl b] ∧ SqL K H p (bs.map V.bl) ∧ Q (.int (bs.count b : Nat)) H
theorem flat_bls (bs : List Bool) : (bs.map V.bl).all flatV = true := by simp [flatV]
theorem cntB {b : Bool} : ∀ {bs : List Bool} {us : List Value}, Vals (bs.map V.bl) us → us.countP (eqU (.bl b)) = bs.count b
  | [], _, r => by cases r; rfl
  | c :: bs, _, r => by
    cases r with
    | cons ra rb =>
      cases ra
      rw [List.countP_cons, List.count_cons, cntB rb]
      rfl
theorem mt_countB : MtR X "list.count" (rCntB X.K) := by
  intro pins sh sg Hh x xs v ws Q I rx rl ⟨p, bs, b, e1, e2, sq, q⟩
  subst e1 e2
  cases rx
  obtain ⟨its, rv, ⟨⟨oc, od, odata, osl⟩, n, there, z1, z2, z3⟩, -⟩ := I.list sq
  simp only at z1 z3
  subst z1 z3
  have fin : Q (.int (its.toArray.toList.countP (eqU (.bl b)) : Nat)) Hh := by rw [cntB rv]; exact q
  cases rl with
  | cons ry rt =>
    cases rt
    refine call_meets PySem.F.slot_list_count ⟨_, there, rfl⟩ PySem.F.entry_list_count (PySem.F.args_list_count_2 _ _) (SeqAt.list_countAt p its.toArray n od osl _ (eqU (.bl b))) ?_
    exact ⟨there, fun u hu => mem_eqAt ry rfl rv (flat_bls bs) u (by simpa using hu), .int (its.toArray.toList.countP (eqU (.bl b)) : Nat), Hh, I.tok _, ⟨_, rfl⟩, fin⟩
end
/-- x.count(b), x.index(b) of a changeable list of truths -/
def bsK (st : List SO) (k : Nat) (f : List Bool → Res PV) : Res PV := match st[k]? with
  | some (.lst ys) => (match blsOf ys with
    | some bs => f bs
    | none => .bad)
  | _ => .bad
def countM : FM := fun st x xs => match x, xs with
  | .ref k, [.bl b] => bsK st k fun bs => .ok (.int (bs.count b : Nat)) st
  | _, _ => .bad
def indexM : FM := fun st x xs => match x, xs with
  | .ref k, [.bl b] => bsK st k fun bs => if b ∈ bs then .ok (.int (bs.idxOf b : Nat)) st else .bad
  | _, _ => .bad
theorem bsK_ok {K : PySem.W.Frag} {w : Wd} {H : Hp} {st st' : List SO} {k : Nat} {f : List Bool → Res PV} {z : PV} {vx : V} (ok : WOk K w H st) (rx : Rep K w (.ref k) vx) (e : bsK st k f = .ok z st') : ∃ p bs, vx = .ref p ∧ SqL K H p (bs.map V.bl) ∧ f bs = .ok z st' := by
  obtain ⟨p, e1, q1⟩ := rx
  obtain ⟨c1, o1, h1, h2, h3⟩ := ok.obj q1
  unfold bsK at e
  rw [h1] at e
  cases c1 with
  | dK _ => cases e
  | lst ys =>
    have e : (match blsOf ys with | some bs => f bs | none => .bad) = .ok z st' := e
    cases q : blsOf ys with
    | none => rw [q] at e; cases e
    | some bs =>
      rw [q] at e
      obtain ⟨us, f1, r1⟩ := h3
      rw [blsOf_rep ys bs us q r1] at f1
      subst f1
      exact ⟨p, bs, e1, .inl (.inl h2), e⟩
theorem repl_bl {K : PySem.W.Frag} {w : Wd} {b : Bool} {vs : List V} (r : RepL K w [.bl b] vs) : vs = [.bl b] := by
  obtain ⟨v, r', e, h1, h2⟩ := r
  rw [e, show v = .bl b from h1, show r' = [] from h2]
theorem s_countM {K : PySem.W.Frag} : SndM K countM (rCntB K) := by
  intro w H st st' x z xs vx vs Q ok rx rs e q
  cases x with
  | ref k =>
    rcases xs with _ | ⟨y, _ | ⟨u, us⟩⟩
    · cases e
    · cases y with
      | bl b =>
        obtain ⟨p, bs, e1, sq, e2⟩ := bsK_ok ok rx (show bsK st k (fun bs => .ok (.int (bs.count b : Nat)) st) = .ok z st' from e)
        cases e2
        exact ⟨p, bs, b, e1, repl_bl rs, sq, q w H _ (Le.refl _) ok rfl⟩
      | _ => cases e
    · cases y <;> cases e
  | _ => cases e
theorem s_indexM {K : PySem.W.Frag} : SndM K indexM (rIndex K) := by
  intro w H st st' x z xs vx vs Q ok rx rs e q
  cases x with
  | ref k =>
    rcases xs with _ | ⟨y, _ | ⟨u, us⟩⟩
    · cases e
    · cases y with
      | bl b =>
        obtain ⟨p, bs, e1, sq, e2⟩ := bsK_ok ok rx (show bsK st k (fun bs => if b ∈ bs then .ok (.int (bs.idxOf b : Nat)) st else .bad) = .ok z st' from e)
        by_cases hb : b ∈ bs
        · rw [if_pos hb] at e2
          cases e2
          have hl := List.idxOf_lt_length_of_mem hb
          refine ⟨p, bs.map V.bl, .bl b, bs.idxOf b, .bl b, e1, repl_bl rs, sq, rfl, flat_bls bs, ?_, ?_, ?_, q w H _ (Le.refl _) ok rfl⟩
          · rw [List.getElem?_map, List.getElem?_eq_getElem hl, List.getElem_idxOf hl]; rfl
          · show (b == b) = true; exact beq_self_eq_true b
          · intro m z' hm hz
            rw [List.getElem?_map] at hz
            obtain ⟨c, hc, rfl⟩ := Option.map_eq_some_iff.mp hz
            show (c == b) = false
            have nt := List.not_of_lt_findIdx (p := (· == b)) hm
            obtain ⟨hm2, ec⟩ := List.getElem?_eq_some_iff.mp hc
            rw [ec] at nt
            simpa using nt
        · rw [if_neg hb] at e2; cases e2
      | _ => cases e
    · cases y <;> cases e
  | _ => cases e
theorem bsK_exc {st : List SO} {k : Nat} {f : List Bool → Res PV} (h : ∀ bs c st', f bs ≠ .exc c st') (c : Str) (st' : List SO) : bsK st k f ≠ .exc c st' := by
  intro e
  unfold bsK at e
  cases q : st[k]? with
  | none => rw [q] at e; cases e
  | some o =>
    rw [q] at e
    cases o with
    | dK _ => cases e
    | lst ys =>
      have e : (match blsOf ys with | some bs => f bs | none => .bad) = .exc c st' := e
      cases q2 : blsOf ys with
      | none => rw [q2] at e; cases e
      | some bs => rw [q2] at e; exact h bs c st' e
theorem n_countM : NoExc countM := by
  intro st x xs c st' e
  cases x with
  | ref k =>
    rcases xs with _ | ⟨y, _ | ⟨u, us⟩⟩
    · cases e
    · cases y with
      | bl b => exact bsK_exc (fun bs c st' h => by cases h) c st' e
      | _ => cases e
    · cases y <;> cases e
  | _ => cases e
theorem n_indexM : NoExc indexM := by
  intro st x xs c st' e
  cases x with
  | ref k =>
    rcases xs with _ | ⟨y, _ | ⟨u, us⟩⟩
    · cases e
    · cases y with
      | bl b => exact bsK_exc (fun bs c st' h => by split at h <;> cases h) c st' e
      | _ => cases e
    · cases y <;> cases e
  | _ => cases e
theorem isE_c {a : Addr} {d x : Str} {st : List SO} (h : x ∈ kindNames) : isE a d st [.exc a, .cls x] = some (.bl (decide (x = d))) := if_pos ⟨rfl, h⟩
theorem isE_v {a : Addr} {d : Str} {st : List SO} : isE a d st [.exc a, .ty "ValueError"] = some (.bl true) := if_pos ⟨rfl, rfl⟩
theorem catL_ok {st : List SO} {xs ys : List PV} (h : LineOk (xs.length + ys.length)) : catL st (some (.lst xs)) (some (.lst ys)) = .ok (.ref st.length) (st ++ [.lst (xs ++ ys)]) := if_pos h
theorem countM_ok {st : List SO} {k : Nat} {b : Bool} : countM st (.ref k) [.bl b] = bsK st k fun bs => .ok (.int (bs.count b : Nat)) st := rfl
theorem indexM_ok {st : List SO} {k : Nat} {b : Bool} : indexM st (.ref k) [.bl b] = bsK st k fun bs => if b ∈ bs then .ok (.int (bs.idxOf b : Nat)) st else .bad := rfl
theorem bsK_at {st : List SO} {k : Nat} {f : List Bool → Res PV} {ys : List PV} {bs : List Bool} (h : st[k]? = some (.lst ys)) (e : blsOf ys = some bs) : bsK st k f = f bs := by
  unfold bsK
  rw [h]
  simp only [e]
theorem new_at {st l : List SO} {i : Nat} : (st ++ l)[st.length + i]? = l[i]? := by
  rw [List.getElem?_append_right (by omega)]
  congr 1
  omega
theorem new_at0 {st l : List SO} : (st ++ l)[st.length]? = l[0]? := new_at (i := 0)
theorem blsOf_map : ∀ bs : List Bool, blsOf (bs.map .bl) = some bs
  | [] => rfl
  | b :: bs => by rw [List.map_cons, blsOf_cons, blsOf_map bs]; rfl
theorem leave_new {st l : List SO} {v v' : PV} (h : frzV (st ++ l) st.length 9 v = some v') : leave st (.ret v (st ++ l)) = .ok v' st := by
  rw [leave_ret (OldOk.refl st).app h, List.take_left]
def bsO (o : Option SO) (f : List Bool → Res PV) : Res PV := match o with
  | some (.lst ys) => (match blsOf ys with
    | some bs => f bs
    | none => .bad)
  | _ => .bad
theorem bsK_eq {st : List SO} {k : Nat} {f : List Bool → Res PV} : bsK st k f = bsO st[k]? f := rfl
theorem bsO_some {ys : List PV} {bs : List Bool} {f : List Bool → Res PV} (h : blsOf ys = some bs) : bsO (some (.lst ys)) f = f bs := by
  unfold bsO
  simp only [h]
end Z
/-! A def that is told the refusal that is handled; try. -/
namespace Z
open PySem PySem.Spec PyProof.Rows L2
/-- a def that is told the exception that is handled, one of the class C -/
structure FnE (P : Program) (w : World) (K : PySem.W.Frag) (mg : Str → Option Value) (base : Heap) (k : Nat) (f : Addr) (fd : FuncData) (ps : List Str) (C : Value) (sp : Addr → Sp) : Prop where
  len : ∀ a vs H Q E, sp a vs H Q E → vs.length = ps.length
  run : ∀ (A : Around) (out : List PySem.Env) (sh : Shared) (H : Hp) (args : Args) (us : List Value) (vs : List V) (Q : VK) (E : XK) (p : Addr × Obj), L2H.RoomH k A → L2H.Hot1 A p → Zc C none p.2 → L2H.PinOk out H sh p → Env0 P w K mg base A out sh H →
    BindsTo sh fd args (ps.zip us) → Vals vs us → sp p.1 vs H Q E → codeAny (model P w) A (.call (.ref f) args) (CR (L2N.CX P w) out P w H sh Q E) sh
theorem fnE_of {P : Program} {w : World} {K : PySem.W.Frag} {mg : Str → Option Value} {base : Heap} {x : Str} {params : Arguments} {body : List Stmt} {scope : Scope} {fd : FuncData} {f : Addr} {N ps : List Str} {k : Nat} {C : Value} {sp : Addr → Sp}
    (FD : FunD K x x params body scope [] [] f fd) (S : FnScope N ps scope) (len : ∀ a vs H Q E, sp a vs H Q E → vs.length = ps.length)
    (walk : ∀ (cdv : Value) (A : Around) (out : List PySem.Env) (sh : Shared) (H : Hp) (vs : List V) (Q : VK) (E : XK) (p : Addr × Obj), L2H.Hot1 A p → Zc C none p.2 → L2H.RoomH k (A.deeper (envOfC x scope sh.heap.objs.size f cdv)) → sp p.1 vs H Q E →
      ∃ t, PSs (L2H.cxH (L2N.CX P w) P w K mg base N x scope f cdv A out sh H E p) body t ∧ t { nx := fun _ H' => Q .non H', rt := Q } (L2.start N vs) H) :
    FnE P w K mg base (k + 1) f fd ps C sp := by
  obtain ⟨oc, od, dV, kV, doc, pm, an, cdv, ct, osl, rfl, lk, hcd, -, -⟩ := FD.ex
  refine ⟨len, fun A out sh H args us vs Q E p room hot hz pin e0 bd rv here => ?_⟩
  have same := len _ _ _ _ _ here
  have inK : K.In sh.heap := e0.mod.kin.keeps fun b o e => (e0.bs b o e).1
  have noLimit : sh.heap.NoLimit := e0.mod.nolimit.keeps fun b o e => (e0.bs b o e).1
  have kinds : ∀ y ∈ ps.zip us, scope.names.lookup y.1 = some .local ∨ (scope.names.lookup y.1 = some .cell ∧ ((cellsFrom (sh.heap.objs.size + 1) scope.names []).lookup y.1).isSome = true) := by
    rintro ⟨nm, val⟩ hy
    exact (S.par nm (List.of_mem_zip hy).1).imp id fun q => ⟨q, PySem.W.cellsFrom_some _ _ _ (.inl q)⟩
  refine codeAny_call_function room.depth (inK _ _ lk) rfl S.co S.gen rfl (PySem.W.codeRec_of inK hcd) (bd _ _ _ _ (wpAny_newFunctionEnv_cells S.kind kinds fun env he s1 began => ?_))
  cases he
  refine ⟨noLimit.keeps began.toInCall.keep, codeAny_func ?_⟩
  obtain ⟨t, goes, wish⟩ := walk cdv A out sh H vs Q E p hot hz (room.deeper _) here
  refine wpAny_mono (goes.run [] s1 (L2.start N vs) H _ (L2H.inv_startH S pin e0 same rv began) wish) (fun fl s' done => ?_) fun _ _ z => z
  cases fl with
  | ret u => obtain ⟨v, σ', H', J, ru, q⟩ := done; exact ⟨v, H', J.os, J.bare, J.base, J.hok, ru, q⟩
  | next => obtain ⟨σ', H', J, q⟩ := done; exact ⟨V.non, H', J.os, J.bare, J.base, J.hok, rfl, q⟩
  | brk => obtain ⟨_, _, _, no⟩ := done; exact no.elim
  | cont => obtain ⟨_, _, _, no⟩ := done; exact no.elim
theorem _root_.L2H.RoomH.units {k : Nat} {A : Around} (r : L2H.RoomH k A) : A.units + 64 < cLine := by have := r.un; omega
/-- such a def called in the suite -/
theorem pe_callE {X : Cx} {k : Nat} {f : Addr} {fd : FuncData} {ps : List Str} {C : Value} {sp : Addr → Sp} {p : Addr × Obj} {x : Str} {q pos : Pos} {e : Expr} {es : List Expr} {t : TA} (F : FnE X.prog X.w X.K X.mg X.base k f fd ps C sp) (room : L2H.RoomH k X.A) (hot : L2H.Hot1 X.A p) (hp : p ∈ X.pn) (hz : Zc C none p.2)
    (hg : Gl X x) (hm : X.mg x = some (.ref f)) (hk : PySem.W.keepIn X.K (.ref f) = true) (hb : Binds X.K fd ps []) (ha : L2.PA X (e :: es) t) (hdb : (x == ("__debug__" : Str)) = false := by decide)
    (he : starEach (e :: es) X.env = (false, eval e X.env) :: starEach es X.env := by rfl) (hpl : (backTo pos (starEach es X.env)).any (·.1) = false := by rfl) : PE X (.Call (.Name x q) (e :: es) [] pos) (tCallS (sp p.1) (fun _ _ _ _ => False) t) := by
  refine ⟨fun pins sh sg Hh Q I h => wpAny_Call_Name_kw (ld_glob I hg hm ?_ hdb)⟩
  refine PySem.W.callWith_K (h₀ := X.base) I.ok.mod.kin hk (thn (ha.run pos pins sh sg Hh _ I h) ?_) he hpl
  rintro us s1 ⟨vs, H1, I1, rv, here⟩
  refine ⟨I1.kIn, ?_⟩
  have there := I1.pin p (List.mem_append_left _ hp)
  have pin : L2H.PinOk X.stack H1 s1 p := by
    refine ⟨there.1, there.2.1, fun hin => ?_, there.2.2.2.2⟩
    rcases List.mem_cons.mp (I1.stkSub p.1 hin) with z | z
    · exact there.2.2.1 z
    · exact there.2.2.2.1 z
  have bd := hb s1 us I1.kIn (by rw [List.append_nil, ← rv.length]; exact F.len _ _ _ _ _ here)
  rw [List.append_nil] at bd
  refine wpAny_call (codeAny_mono (F.run X.A X.stack s1 H1 ⟨us, []⟩ us vs Q _ p room hot hz pin I1.env0 bd rv here) fun r s' done => ?_)
  cases r with
  | error _ => obtain ⟨_, _, _, _, _, _, _, _, _, _, _, _, no⟩ := done; exact no.elim
  | ok fl => cases fl with
    | ret u => exact I1.after done
    | next => exact done.elim
    | brk => exact done.elim
    | cont => exact done.elim
/-! ### the def that tells the kind -/
def spE (K : PySem.W.Frag) (s : Str) (a : Addr) : Sp := fun vs H Q _ => ∃ w st, vs = [.ref a] ∧ WOk K w H st ∧ ∀ w' H', Le w w' → WOk K w' H' st → Q (.str s) H'
def DefE (P : Program) (w : World) (K : PySem.W.Frag) (mg : Str → Option Value) (base : Heap) (x : Str) (k : Nat) : Prop :=
  ∃ f fd ps, ps.length = 1 ∧ mg x = some (.ref f) ∧ PySem.W.keepIn K (.ref f) = true ∧ Binds K fd ps [] ∧ ∀ c s, kdOf c = some s → FnE P w K mg base k f fd ps (.ref (He.ga K c)) (spE K s)
open Classical in
theorem defE_of {P : Program} {w : World} {K : PySem.W.Frag} {mg : Str → Option Value} {base : Heap} {x : Str} {params : Arguments} {body : List Stmt} {scope : Scope} {fd : FuncData} {f : Addr} {N ps : List Str} {k : Nat} {g : Addr → Str → GS}
    (FD : FunD K x x params body scope [] [] f fd) (S : FnScope N ps scope) (hps : ps.length = 1) (hm : mg x = some (.ref f)) (hb : Binds K fd ps []) (B : kindB K = true)
    (hbody : ∀ (cdv : Value) (A : Around) (out : List PySem.Env) (sh : Shared) (H : Hp) (E : XK) (p : Addr × Obj) (c : Str), L2H.Hot1 A p → Zc (.ref (He.ga K c)) none p.2 → (∃ fs, p.2.data = .fields fs) → KindF K c → L2H.RoomH k (A.deeper (envOfC x scope sh.heap.objs.size f cdv)) →
      PSs (L2H.cxH (L2N.CX P w) P w K mg base N x scope f cdv A out sh H E p) body (tS K W0 (g p.1 c)))
    (hg : ∀ a c s st, kdOf c = some s → leave st (g a c (begin N.length 1 [.exc a]) st) = .ok (.str s) st) : DefE P w K mg base x (k + 1) := by
  refine ⟨f, fd, ps, hps, hm, FD.kp, hb, fun c s hc => fnE_of FD S (fun a vs H Q E ⟨_, _, ev, _⟩ => by rw [ev, hps]; rfl) fun cdv A out sh H vs Q E p hot hz room ⟨wd, st, ev, ok, wish⟩ => ?_⟩
  obtain ⟨-, fs, hfs, -⟩ := id hot
  refine ⟨tS K W0 (g p.1 c), hbody cdv A out sh H E p c hot hz ⟨fs, hfs⟩ (kindF_of B (kind_mem hc)) room, wd, begin N.length 1 [.exc p.1], st, ok, slots_start (ev ▸ (⟨V.ref p.1, [], rfl, rfl, rfl⟩ : RepL K wd [.exc p.1] [V.ref p.1])) rfl, ?_⟩
  have e := hg p.1 c s st hc
  cases q : g p.1 c (begin N.length 1 [.exc p.1]) st with
  | ret v st' =>
    rw [q] at e
    have e : (match frzV st' st.length 9 v with | some v' => if OldOk st st' then Res.ok v' (st'.take st.length) else .bad | none => .bad) = .ok (.str s) st := e
    cases e2 : frzV st' st.length 9 v with
    | none => rw [e2] at e; cases e
    | some v' =>
      rw [e2] at e
      by_cases old : OldOk st st'
      · have e : (if OldOk st st' then Res.ok v' (st'.take st.length) else .bad) = .ok (.str s) st := e
        rw [if_pos old] at e
        injection e with ea eb
        subst ea
        intro w' H' x l o rx
        obtain ⟨ok2, le2⟩ := left_ok ok l o old
        rw [eb] at ok2
        have rs : x = V.str s := frz_rep o 9 v _ x e2 rx
        rw [rs]
        exact wish _ H' le2 ok2
      · have e : (if OldOk st st' then Res.ok v' (st'.take st.length) else .bad) = .ok (.str s) st := e
        rw [if_neg old] at e; cases e
  | nx ρ' st' =>
    rw [q] at e
    have e : (if OldOk st st' then Res.ok PV.non (st'.take st.length) else .bad) = .ok (.str s) st := e
    split at e <;> cases e
  | exc c' ρ' st' =>
    rw [q] at e
    have e : (if OldOk st st' then Res.exc (α := PV) c' (st'.take st.length) else .bad) = .ok (PV.str s) st := e
    split at e <;> cases e
  | bad => rw [q] at e; cases e

/-! ### try: body, except MotionError as n: return kind(n) -/
def tsK (K : PySem.W.Frag) (i : Nat) (a : Addr) (cls : Value) (d : Option Addr) : TS := fun D σ H =>
  ∃ (c s : Str) (w : Wd) (st : List SO) (σ0 : L2.St), cls = .ref (He.ga K c) ∧ d = none ∧ kdOf c = some s ∧ σ = σ0.set i (some (.ref a)) ∧ WOk K w H st ∧ ∀ w' H', Le w w' → WOk K w' H' st → D.rt (V.str s) H'
theorem ss_try {X : Cx} {W : WX} {g : GS} {n nk : Str} {k : Nat} {body : List Stmt} {np pos pos' rp cp p1 p2 : Pos} (i : Nat) (B : kindB X.K = true) (hME : X.mg "MotionError" = some (.ref (He.ga X.K "MotionError"))) (D : DefE X.prog X.w X.K X.mg X.base nk k) (hr : Room k X.A) (hN : X.N.Nodup) (tk : L2N.Takes X W)
    (hb : ∀ (W : WX) (pn : List (Addr × Obj)) (xe : Value → Shared → Prop), L2N.Takes (X.tr pn xe) W → PassesOwn (model X.prog X.w) X.A X.env xe → PSs (X.tr pn xe) body (tS X.K W g))
    (hs : X.stack = X.env :: X.outer := by rfl) (hf : X.env.frame = some X.env.locals := by rfl) (hi : X.N[i]? = some n := by rfl) (hln : X.env.kindOf n = some .local := by rfl) (hGl : Gl X "MotionError" := by rfl) (hg : Gl X nk := by rfl)
    (hv : Vis X.env.scope n := by first | exact Or.inl rfl | exact Or.inr (Or.inl rfl) | exact Or.inr (Or.inr rfl)) (hd1 : (n == ("__debug__" : Str)) = false := by decide) (hd2 : (n == ("__classdict__" : Str)) = false := by decide) (hd3 : (nk == ("__debug__" : Str)) = false := by decide)
    (hq : ∀ a pn, starEach [Expr.Name n p2] (X.suite a pn).env = [(false, eval (.Name n p2) (X.suite a pn).env)] := by intro _ _; rfl) :
    L2.PS X (.Try body [.ExceptHandler (some (.Name "MotionError" np)) (some n) [.Return (some (.Call (.Name nk p1) [.Name n p2] [] cp)) rp] pos'] [] [] pos) (tS X.K W (gTry g)) := by
  refine ps_imp (L2N.ps_try_as (i := i) (c := .ref (He.ga X.K "MotionError")) (ts := tsK X.K i) (tb := fun W => tS X.K W g) hs hf hN hi hln ⟨hGl, by decide, .inl hME⟩ tk hb fun a oe cls d pn hz hfs => ⟨fun pins sh σ H Dn I ⟨c, s, wd, st, σ0, e1, e2, hc, eσ, ok, wish⟩ => ?_⟩) fun Dn σ H ⟨wd, ρ, st, ok, sl, po⟩ => ⟨wd, ρ, st, ok, sl, ?_⟩
  · subst e1 e2
    obtain ⟨f, fd, ps, hps, hm, hk, hbd, FE⟩ := D
    obtain ⟨fs, hfs⟩ := hfs
    have hot : L2H.Hot1 (X.suite a ((a, oe) :: pn)).A (a, oe) := ⟨rfl, fs, hfs, hz.2.2 fs hfs⟩
    have arg : PE (X.suite a ((a, oe) :: pn)) (.Name n p2) _ := pe_var (i := i) hi hv hd1 hd2
    have call := pe_callE (q := p1) (pos := cp) (X := X.suite a ((a, oe) :: pn)) (FE c s hc) ⟨hr.dp, hr.un⟩ hot List.mem_cons_self hz.zc hg hm hk hbd (pa_cons arg pa_nil (hq _ _)) hd3 (hq _ _) rfl
    refine (pss_one (ps_ret (pos := rp) call)).run pins sh σ H Dn I ?_
    have hl : i < σ0.length := by
      have h1 : σ.length = X.N.length := I.len
      have h2 := (List.getElem?_eq_some_iff.mp hi).1
      rw [eσ, List.length_set] at h1
      omega
    refine ⟨.ref a, by rw [eσ, List.getElem?_set_self hl], wd, st, rfl, ok, wish⟩
  · have po : PostS X.K W wd (tryK (g ρ st)) Dn := po
    cases e : g ρ st with
    | nx ρ' st' => rw [e] at po; exact po
    | ret v st' => rw [e] at po; exact po
    | bad => rw [e] at po; exact po.elim
    | exc c ρ' st' =>
      rw [e] at po
      have po : PostS X.K W wd (match kdOf c with | some s => .ret (.str s) st' | none => .bad) Dn := po
      cases hc : kdOf c with
      | none => rw [hc] at po; exact po.elim
      | some s =>
        rw [hc] at po
        intro w' σ' H' l o sl'
        exact ⟨true, (kindF_of B (kind_mem hc)).exm, fun _ a ha => ⟨c, s, w', st', σ', rfl, rfl, hc, rfl, o, fun w2 H2 l2 o2 => po w2 H2 (V.str s) (l.trans l2) o2 rfl⟩, fun z => nomatch z⟩
/-! ### a def picked out of a list of defs -/
/-- the defs of these names, one by one, at their own places -/
def DefsAt (P : Program) (w : World) (K : PySem.W.Frag) (mg : Str → Option Value) (base : Heap) (n k : Nat) : List Str → List Fn → Prop
  | [], [] => True
  | x :: xs, F :: Fs => (∃ j fd ps, j ≤ k ∧ ps.length = n ∧ FnOk P w K mg base (L2N.CX P w) j (He.ga K x) fd ps (spF K n F) ∧ PySem.W.keepIn K (.ref (He.ga K x)) = true ∧ Binds K fd ps []) ∧ DefsAt P w K mg base n k xs Fs
  | _, _ => False
theorem defsAt_get {P : Program} {w : World} {K : PySem.W.Frag} {mg : Str → Option Value} {base : Heap} {n k : Nat} : ∀ {xs : List Str} {Fs : List Fn} {i : Nat} {F : Fn}, DefsAt P w K mg base n k xs Fs → Fs[i]? = some F →
    ∃ x, xs[i]? = some x ∧ ∃ j fd ps, j ≤ k ∧ ps.length = n ∧ FnOk P w K mg base (L2N.CX P w) j (He.ga K x) fd ps (spF K n F) ∧ PySem.W.keepIn K (.ref (He.ga K x)) = true ∧ Binds K fd ps []
  | [], [], _, _, _, h => by simp at h
  | [], _ :: _, _, _, d, _ => d.elim
  | _ :: _, [], _, _, d, _ => d.elim
  | x :: xs, F :: Fs, 0, G, d, h => by simp at h; subst h; exact ⟨x, rfl, d.1⟩
  | x :: xs, F :: Fs, i + 1, G, d, h => by
    obtain ⟨y, h1, h2⟩ := defsAt_get (i := i) d.2 (by simpa using h)
    exact ⟨y, by simpa using h1, h2⟩
theorem defsAt_cons {P : Program} {w : World} {K : PySem.W.Frag} {mg : Str → Option Value} {base : Heap} {n j k : Nat} {x : Str} {xs : List Str} {F : Fn} {Fs : List Fn} (m : mg x = some (.ref (He.ga K x))) (D : Def P w K mg base x n j F) (h : j ≤ k) (r : DefsAt P w K mg base n k xs Fs) : DefsAt P w K mg base n k (x :: xs) (F :: Fs) := by
  obtain ⟨f, fd, ps, hps, FO, hm, hk, hb⟩ := D
  rw [m] at hm
  cases hm
  exact ⟨⟨j, fd, ps, h, hps, FO, hk, hb⟩, r⟩
theorem defsAt_nil {P : Program} {w : World} {K : PySem.W.Frag} {mg : Str → Option Value} {base : Heap} {n k : Nat} : DefsAt P w K mg base n k [] [] := trivial
theorem gLst_cls (ρ : REnv) (st : List SO) : ∀ xs : List Str, gArgs (xs.map fun x => gC (.cls x)) ρ st = .ok (xs.map .cls) st
  | [] => rfl
  | x :: xs => by
    show bnd (gC (.cls x) ρ st) (fun y st => bnd (gArgs (xs.map fun x => gC (.cls x)) ρ st) fun ys st => .ok (y :: ys) st) = _
    show bnd (gArgs (xs.map fun x => gC (.cls x)) ρ st) (fun ys st => .ok (PV.cls x :: ys) st) = _
    rw [gLst_cls ρ st xs]
    rfl
theorem se_callI {X : Cx} {W : WX} {pos : Pos} {fe e : Expr} {es : List Expr} {n k : Nat} {xs : List Str} {Fs : List Fn} {gi : G} {gs : List G} (D : DefsAt X.prog X.w X.K X.mg X.base n k xs Fs) (hr : Room k X.A) (tk : L2N.Takes X W)
    (hf : PE X fe (tG X.K W (gBin ixV (gLstE (xs.map fun x => gC (.cls x))) gi))) (ha : L2.PA X (e :: es) (tGA X.K W (gArgs gs))) (hn : gs.length = n := by rfl)
    (ht : eval (.Call fe (e :: es) [] pos) X.env = (do callWith pos (← eval fe X.env) [] (backTo pos (starEach (e :: es) X.env)) (backToKw pos (keywordEach [] X.env))) := by rfl)
    (he : starEach (e :: es) X.env = (false, eval e X.env) :: starEach es X.env := by rfl) (hpl : (backTo pos (starEach es X.env)).any (·.1) = false := by rfl) : PE X (.Call fe (e :: es) [] pos) (tG X.K W (gCallI Fs gi gs)) := by
  refine ⟨fun pins sh σ H Q I ⟨w, ρ, st, ok, sl, po⟩ => ?_⟩
  have po : Post X.K W (Rep X.K) w σ (bnd (gi ρ st) fun v st1 => callK (callI Fs v) (gArgs gs ρ st1)) Q := po
  have body : tG X.K W (gBin ixV (gLstE (xs.map fun x => gC (.cls x))) gi) σ H (fun y H1 => ∃ (x : Str) (F : Fn) (i : Nat), y = V.ref (He.ga X.K x) ∧ xs[i]? = some x ∧ Fs[i]? = some F ∧ tGA X.K W (gArgs gs) σ H1 fun vs H2 => spF X.K n F vs H2 Q (WE W σ)) := by
    refine ⟨w, ρ, st, ok, sl, ?_⟩
    show Post X.K W (Rep X.K) w σ (bnd (bnd (gArgs (xs.map fun x => gC (.cls x)) ρ st) fun ys st => .ok (.lst ys) st) fun x st => bnd (gi ρ st) fun y st => oo (ixV st x y) st) _
    rw [gLst_cls]
    show Post X.K W (Rep X.K) w σ (bnd (gi ρ st) fun y st => oo (ixV st (.lst (xs.map .cls)) y) st) _
    cases eg : gi ρ st with
    | exc c st1 => rw [eg] at po; exact po
    | bad => rw [eg] at po; exact po.elim
    | ok v st1 =>
      rw [eg] at po
      have po : Post X.K W (Rep X.K) w σ (callK (callI Fs v) (gArgs gs ρ st1)) Q := po
      cases ec : callI Fs v with
      | none => rw [ec] at po; exact po.elim
      | some F =>
        rw [ec] at po
        have po3 : Post X.K W (Rep X.K) w σ (bnd (gArgs gs ρ st1) F) Q := po
        obtain ⟨i, rfl, hF⟩ : ∃ i : Nat, v = .int i ∧ Fs[i]? = some F := by
          cases v with
          | int j =>
            have ec : (if 0 ≤ j then Fs[j.toNat]? else none) = some F := ec
            by_cases hj : 0 ≤ j
            · rw [if_pos hj] at ec
              exact ⟨j.toNat, by rw [Int.toNat_of_nonneg hj], ec⟩
            · rw [if_neg hj] at ec; cases ec
          | _ => cases ec
        obtain ⟨x, hx, -⟩ := defsAt_get D hF
        have at1 : ixV st1 (.lst (xs.map .cls)) (.int (i : Int)) = some (.cls x) := by
          show atI (xs.map PV.cls) (i : Int) = some (.cls x)
          exact atN (by rw [List.getElem?_map, hx]; rfl)
        show Post X.K W (Rep X.K) w σ (oo (ixV st1 (.lst (xs.map .cls)) (.int (i : Int))) st1) _
        rw [at1]
        intro w' H' y l o ry
        refine ⟨x, F, i, ry, hx, hF, ?_⟩
        refine tGA_len o (sl.mono l) (Post.mono l po3) fun ys st2 w2 H2 vs hl l2 ok2 rs po2 => ⟨w2, ys, st2, by rw [hl, hn], ok2, rs, ?_⟩
        cases q : F ys st2 with
        | ok v st3 => rw [q] at po2; exact po2
        | exc c st3 => rw [q] at po2; exact po2
        | bad => rw [q] at po2; exact po2.elim
  refine Call_ (thn (hf.run pins sh σ H _ I body) ?_) ht
  rintro u s1 ⟨y, H1, I1, ry, x, F, i, ey, hx, hF, q⟩
  subst ey
  cases ry
  obtain ⟨x', hx', j, fd, ps, hj, hps, FO, hk, hb⟩ := defsAt_get D hF
  rw [hx] at hx'
  cases hx'
  refine PySem.W.callWith_K (first := []) (h₀ := X.base) I1.ok.mod.kin hk (thn (ha.run pos pins s1 σ H1 _ I1 q) ?_) he hpl
  rintro us s2 ⟨vs, H2, I2, rv, here⟩
  exact ⟨I2.kIn, run_fnS FO (hr.mono hj) hb (L2N.passAt tk σ) I2 rv here⟩
theorem s_isNotB {K : PySem.W.Frag} : Snd2 K isNotBV (fun x y H Q => ∃ a b : Bool, x = .bl a ∧ y = .bl b ∧ Q (.bl (!decide (a = b))) H) := by
  intro w H st x y z vx vy Q ok rx ry e q
  cases x with
  | bl a => cases y with
    | bl b => cases e; exact ⟨a, b, rx, ry, q w H _ (Le.refl _) ok rfl⟩
    | _ => cases e
  | _ => cases y <;> cases e
end Z
/-! Speeds put together: the law of it in plain Lean. -/
namespace Z
open PySem PySem.Spec PyProof.Rows L2
theorem div_cross {a b c d : Rat} (hb : b ≠ 0) (hd : d ≠ 0) (h : a * d = c * b) : a / b = c / d := by
  have e1 : a / b * b = a := Rat.div_mul_cancel hb
  have e2 : c / d * d = c := Rat.div_mul_cancel hd
  generalize a / b = x at *
  generalize c / d = y at *
  have : (x - y) * (b * d) = 0 := by grind
  rcases Rat.mul_eq_zero.mp this with z | z
  · grind
  · rcases Rat.mul_eq_zero.mp z with z | z
    · exact absurd z hb
    · exact absurd z hd
theorem jq_comm (p q : Rat) : (p + q) / (1 + p * q) = (q + p) / (1 + q * p) := by rw [Rat.add_comm p q, Rat.mul_comm p q]
theorem jq3 {p q r : Rat} (h1 : -1 < p) (h2 : p < 1) (k1 : -1 < q) (k2 : q < 1) (r1 : -1 < r) (r2 : r < 1) :
    1 + p * q + p * r + q * r ≠ 0 ∧ ((p + q) / (1 + p * q) + r) / (1 + (p + q) / (1 + p * q) * r) = (p + q + r + p * q * r) / (1 + p * q + p * r + q * r) := by
  obtain ⟨d, a, b⟩ := join_lt h1 h2 k1 k2
  obtain ⟨e, -, -⟩ := join_lt a b r1 r2
  have y : (p + q) / (1 + p * q) * (1 + p * q) = p + q := Rat.div_mul_cancel (by grind)
  generalize (p + q) / (1 + p * q) = s at *
  have m : 0 < (1 + p * q) * (1 + s * r) := Rat.mul_pos d e
  have m' : (1 + p * q) * (1 + s * r) = 1 + p * q + p * r + q * r := by grind
  have n0 : 1 + p * q + p * r + q * r ≠ 0 := by grind
  refine ⟨n0, div_cross (by grind) n0 ?_⟩
  rw [← m']
  have : (s + r) * (1 + p * q) = p + q + r + p * q * r := by grind
  grind
theorem jq_assoc {p q r : Rat} (h1 : -1 < p) (h2 : p < 1) (k1 : -1 < q) (k2 : q < 1) (r1 : -1 < r) (r2 : r < 1) :
    ((p + q) / (1 + p * q) + r) / (1 + (p + q) / (1 + p * q) * r) = (p + (q + r) / (1 + q * r)) / (1 + p * ((q + r) / (1 + q * r))) := by
  rw [(jq3 h1 h2 k1 k2 r1 r2).2, jq_comm p, (jq3 k1 k2 r1 r2 h1 h2).2]
  congr 1 <;> grind
theorem jq_neg (p q : Rat) : (-p + -q) / (1 + -p * -q) = -((p + q) / (1 + p * q)) := by
  have : -p * -q = p * q := by grind
  rw [this, Rat.div_def, Rat.div_def]
  grind
theorem jq_zero (q : Rat) : (0 + q) / (1 + 0 * q) = q := by
  rw [Rat.zero_add, Rat.zero_mul, Rat.add_zero, Rat.div_def]; grind
theorem jq_self (q : Rat) (h1 : -1 < q) (h2 : q < 1) : (q + -q) / (1 + q * -q) = 0 := by
  have : q + -q = 0 := by grind
  rw [this, Rat.div_def]; grind
theorem jq_off {p q : Rat} (h1 : -1 < p) (h2 : p < 1) (k1 : -1 < q) (k2 : q < 1) : ((p + q) / (1 + p * q) + -q) / (1 + (p + q) / (1 + p * q) * -q) = p := by
  rw [jq_assoc h1 h2 k1 k2 (by grind) (by grind), jq_self q k1 k2, jq_comm, jq_zero]
theorem jn_lt {q : Rat} (h1 : -1 < q) (h2 : q < 1) : ∀ k, -1 < jn q k ∧ jn q k < 1
  | 0 => ⟨by show (-1 : Rat) < 0; grind, by show (0 : Rat) < 1; grind⟩
  | k + 1 => by
    obtain ⟨a, b⟩ := jn_lt h1 h2 k
    exact (join_lt a b h1 h2).2
theorem jn_add {q : Rat} (h1 : -1 < q) (h2 : q < 1) (i : Nat) : ∀ k, (jn q i + jn q k) / (1 + jn q i * jn q k) = jn q (i + k)
  | 0 => by show (jn q i + 0) / (1 + jn q i * 0) = jn q i; rw [jq_comm, jq_zero]
  | k + 1 => by
    obtain ⟨a, b⟩ := jn_lt h1 h2 i
    obtain ⟨c, d⟩ := jn_lt h1 h2 k
    show (jn q i + (jn q k + q) / (1 + jn q k * q)) / (1 + jn q i * ((jn q k + q) / (1 + jn q k * q))) = (jn q (i + k) + q) / (1 + jn q (i + k) * q)
    rw [← jq_assoc a b c d h1 h2, jn_add h1 h2 i k]
theorem jn_sub {q : Rat} (h1 : -1 < q) (h2 : q < 1) {i k : Nat} (l : k ≤ i) : (jn q i + -jn q k) / (1 + jn q i * -jn q k) = jn q (i - k) := by
  obtain ⟨a, b⟩ := jn_lt h1 h2 (i - k)
  obtain ⟨c, d⟩ := jn_lt h1 h2 k
  have e := jn_add h1 h2 (i - k) k
  rw [Nat.sub_add_cancel l] at e
  rw [← e]
  exact jq_off a b c d
theorem jq_mono {p r q s : Rat} (h1 : -1 < p) (h2 : p ≤ r) (h3 : r < 1) (k1 : -1 < q) (k2 : q ≤ s) (k3 : s < 1) : (p + q) / (1 + p * q) ≤ (r + s) / (1 + r * s) := by
  have one : ∀ {p r q : Rat}, -1 < p → p ≤ r → r < 1 → -1 < q → q < 1 → (p + q) / (1 + p * q) ≤ (r + q) / (1 + r * q) := by
    intro p r q h1 h2 h3 k1 k3
    have d1 := (join_lt h1 (by grind) k1 k3).1
    have d2 := (join_lt (show -1 < r by grind) h3 k1 k3).1
    have y1 : (p + q) / (1 + p * q) * (1 + p * q) = p + q := Rat.div_mul_cancel (by grind)
    have y2 : (r + q) / (1 + r * q) * (1 + r * q) = r + q := Rat.div_mul_cancel (by grind)
    generalize (p + q) / (1 + p * q) = x at *
    generalize (r + q) / (1 + r * q) = y at *
    by_cases l : x ≤ y
    · exact l
    · exfalso
      have a : 0 < (x - y) * ((1 + p * q) * (1 + r * q)) := Rat.mul_pos (by grind) (Rat.mul_pos d1 d2)
      have b : (x - y) * ((1 + p * q) * (1 + r * q)) = (p - r) * (1 - q * q) := by grind
      have c : 0 ≤ (r - p) * ((1 - q) * (1 + q)) := Rat.mul_nonneg (by grind) (Rat.mul_nonneg (by grind) (by grind))
      grind
  have a := one h1 h2 h3 k1 (show q < 1 by grind)
  have b := one k1 k2 k3 (show -1 < r by grind) h3
  rw [jq_comm q r, jq_comm s r] at b
  exact Rat.le_trans a b
theorem jn_mono {p q : Rat} (h1 : -1 < p) (h2 : p ≤ q) (h3 : q < 1) : ∀ k, jn p k ≤ jn q k
  | 0 => by show (0 : Rat) ≤ 0; grind
  | k + 1 => by
    have a := jn_lt h1 (show p < 1 by grind) k
    have b := jn_lt (show -1 < q by grind) h3 k
    exact jq_mono a.1 (jn_mono h1 h2 h3 k) b.2 h1 h2 h3
/-- plain ones put together -/
theorem Pl.add {p b q c : Rat} (h : Pl p b) (k : Pl q c) : Pl ((p + q) / (1 + p * q)) (b * c / (1 + p * q)) := by
  have e := Pl.sub h k.neg
  have y1 : p - -q = p + q := by grind
  have y2 : 1 - p * -q = 1 + p * q := by grind
  rwa [y1, y2] at e
theorem Pl.add0 {p b q c : Rat} (h : Pl p b) (k : Pl q c) : 0 < 1 + p * q := (join_lt h.gt1 h.lt1 k.gt1 k.lt1).1
/-- the stretch -/
theorem Pl.str_sq {p b : Rat} (h : Pl p b) : (1 + p) / b * ((1 + p) / b) = (1 + p) / (1 - p) := by
  have s := h.sq; have n := h.ne; have l := h.lt1; have g := h.gt1
  have y : (1 + p) / b * b = 1 + p := Rat.div_mul_cancel n
  have z : (1 + p) / (1 - p) * (1 - p) = 1 + p := Rat.div_mul_cancel (by grind)
  generalize (1 + p) / b = x at *
  generalize (1 + p) / (1 - p) = w at *
  have : (x * x - w) * (b * b) = 0 := by grind
  rcases Rat.mul_eq_zero.mp this with u | u
  · grind
  · have := sq_pos h.pos; grind
theorem Pl.str_pos {p b : Rat} (h : Pl p b) : 0 < (1 + p) / b := div_pos' (by have := h.gt1; grind) h.pos
theorem Pl.str_root {p b : Rat} (h : Pl p b) : rootQ ((1 + p) / (1 - p)) = some ((1 + p) / b) := by
  have := h.str_pos
  rw [← h.str_sq, rootQ_sq, if_pos (by grind)]
theorem Pl.str_mul {p b q c : Rat} (h : Pl p b) (k : Pl q c) : (1 + (p + q) / (1 + p * q)) / (b * c / (1 + p * q)) = (1 + p) / b * ((1 + q) / c) := by
  have d := h.add0 k
  have n1 := h.ne; have n2 := k.ne
  have y : (p + q) / (1 + p * q) * (1 + p * q) = p + q := Rat.div_mul_cancel (by grind)
  have n3 : b * c ≠ 0 := fun z => by rcases Rat.mul_eq_zero.mp z with u | u <;> contradiction
  have n4 := (h.add k).ne
  have y2 : b * c / (1 + p * q) * (1 + p * q) = b * c := Rat.div_mul_cancel (by grind)
  have e : (1 + p) / b * ((1 + q) / c) = ((1 + p) * (1 + q)) / (b * c) := by
    have e1 : (1 + p) / b * b = 1 + p := Rat.div_mul_cancel n1
    have e2 : (1 + q) / c * c = 1 + q := Rat.div_mul_cancel n2
    have e3 : ((1 + p) * (1 + q)) / (b * c) * (b * c) = (1 + p) * (1 + q) := Rat.div_mul_cancel n3
    generalize (1 + p) / b = x at *
    generalize (1 + q) / c = z at *
    generalize ((1 + p) * (1 + q)) / (b * c) = w at *
    have : (x * z - w) * (b * c) = 0 := by grind
    rcases Rat.mul_eq_zero.mp this with u | u
    · grind
    · exact absurd u n3
  rw [e]
  refine div_cross n4 n3 ?_
  generalize (p + q) / (1 + p * q) = x at *
  generalize b * c / (1 + p * q) = w at *
  rw [← y2]
  grind
theorem Pl.str_neg {p b : Rat} (h : Pl p b) : (1 + -p) / b = ((1 + p) / b)⁻¹ := by
  have n1 := h.ne; have s := h.sq; have l := h.lt1; have g := h.gt1
  have e1 : (1 + p) / b * b = 1 + p := Rat.div_mul_cancel n1
  have e2 : (1 + -p) / b * b = 1 + -p := Rat.div_mul_cancel n1
  have sp := h.str_pos
  have e3 : (1 + p) / b * ((1 + p) / b)⁻¹ = 1 := Rat.mul_inv_cancel _ (by grind)
  generalize ((1 + p) / b)⁻¹ = v at *
  generalize (1 + p) / b = x at *
  generalize (1 + -p) / b = w at *
  have : (w - v) * (b * b * x) = 0 := by grind
  rcases Rat.mul_eq_zero.mp this with u | u
  · grind
  · rcases Rat.mul_eq_zero.mp u with u | u
    · rcases Rat.mul_eq_zero.mp u with u | u <;> contradiction
    · grind
/-- the speed of a stretch, back -/
theorem str_back {s : Rat} (h : 0 < s) : s * s + 1 ≠ 0 ∧ -1 < (s * s - 1) / (s * s + 1) ∧ (s * s - 1) / (s * s + 1) < 1 ∧ Pl ((s * s - 1) / (s * s + 1)) (2 * s / (s * s + 1)) := by
  have p := sq_pos h
  have n : s * s + 1 ≠ 0 := by grind
  have P : Pl ((s * s - 1) / (s * s + 1)) (2 * s / (s * s + 1)) := by
    refine ⟨div_pos' (by grind) (by grind), ?_⟩
    have e1 : 2 * s / (s * s + 1) * (s * s + 1) = 2 * s := Rat.div_mul_cancel n
    have e2 : (s * s - 1) / (s * s + 1) * (s * s + 1) = s * s - 1 := Rat.div_mul_cancel n
    generalize 2 * s / (s * s + 1) = x at *
    generalize (s * s - 1) / (s * s + 1) = y at *
    have : (x * x - (1 - y * y)) * ((s * s + 1) * (s * s + 1)) = 0 := by grind
    rcases Rat.mul_eq_zero.mp this with u | u
    · grind
    · rcases Rat.mul_eq_zero.mp u with u | u <;> contradiction
  exact ⟨n, P.gt1, P.lt1, P⟩
theorem Pl.back {p b : Rat} (h : Pl p b) : ((1 + p) / b * ((1 + p) / b) - 1) / ((1 + p) / b * ((1 + p) / b) + 1) = p := by
  obtain ⟨n, -, -, -⟩ := str_back h.str_pos
  rw [h.str_sq] at *
  have l := h.lt1
  have z : (1 + p) / (1 - p) * (1 - p) = 1 + p := Rat.div_mul_cancel (by grind)
  generalize (1 + p) / (1 - p) = w at *
  have e : (w - 1) / (w + 1) * (w + 1) = w - 1 := Rat.div_mul_cancel n
  generalize (w - 1) / (w + 1) = y at *
  have : (y - p) * ((w + 1) * (1 - p)) = 0 := by grind
  rcases Rat.mul_eq_zero.mp this with u | u
  · grind
  · rcases Rat.mul_eq_zero.mp u with u | u
    · contradiction
    · grind
theorem fr_inv {s : Rat} (h : 0 < s) : PV.tup [.int (s.den : Int), .int s.num] = fr s⁻¹ := by
  have a : 0 < s.num := by have := Rat.num_nonneg.mpr (Rat.le_of_lt h); have n : s.num ≠ 0 := num_ne (by grind); omega
  have e1 : s⁻¹.num = (s.den : Int) := by
    rw [Rat.num_inv, Int.sign_eq_one_of_pos a, Int.one_mul]
  have e2 : ((s⁻¹.den : Nat) : Int) = s.num := by
    rw [Rat.den_inv, if_neg (by omega)]
    omega
  unfold fr
  rw [e1, e2]
theorem sqs_rs {n : Nat} {q : Rat} (h2 : q < 1) (hq : RS n q) : RS (n + 1) ((1 + q) / (1 - q)) := by
  have dn : ((q.den : Int) : Rat) ≠ 0 := by have := Rat.intCast_pos.mpr (dpos q); grind
  have e2 : q * ((q.den : Int) : Rat) = (q.num : Rat) := by
    have e : q = (q.num : Rat) / ((q.den : Int) : Rat) := by rw [← Rat.divInt_eq_div, Rat.num_divInt_den]
    rw [Rat.div_def] at e
    grind
  have n0 : ((q.den : Int) - q.num) ≠ 0 := fun z => by
    have z' : (((q.den : Int) - q.num : Int) : Rat) = 0 := by rw [z]; rfl
    rw [Rat.intCast_sub, ← e2] at z'
    have : (1 - q) * ((q.den : Int) : Rat) = 0 := by grind
    rcases Rat.mul_eq_zero.mp this with y | y
    · grind
    · exact dn y
  have e : (1 + q) / (1 - q) = Rat.divInt ((q.den : Int) + q.num) ((q.den : Int) - q.num) := by
    rw [Rat.divInt_eq_div, Rat.intCast_add, Rat.intCast_sub, ← e2]
    generalize ((q.den : Int) : Rat) = B at *
    have b0 : B - q * B ≠ 0 := fun z => by
      have : (1 - q) * B = 0 := by grind
      rcases Rat.mul_eq_zero.mp this with y | y
      · grind
      · exact dn y
    have y1 : (1 + q) / (1 - q) * (1 - q) = 1 + q := Rat.div_mul_cancel (by grind)
    have y2 : (B + q * B) / (B - q * B) * (B - q * B) = B + q * B := Rat.div_mul_cancel b0
    generalize (1 + q) / (1 - q) = x at *
    generalize (B + q * B) / (B - q * B) = y at *
    have : (x - y) * (B - q * B) = 0 := by grind
    rcases Rat.mul_eq_zero.mp this with u | u
    · grind
    · exact absurd u b0
  rw [e]
  have a := hq.den.addm hq.1
  have b := hq.den.sub hq.1
  exact RS.divInt a b n0
end Z
/-! A call that is lent the mutable objects: it sees them frozen, and tells a plain thing. -/
namespace Z
open PySem PySem.Spec PyProof.Rows L2
def scal : PV → Bool
  | .non => true
  | .bl _ => true
  | .int _ => true
  | .str _ => true
  | _ => false
def lendK (F : Fn) (st : List SO) : Option (List PV) → Res PV
  | some ys => (match F ys [] with
    | .ok v _ => if scal v = true then .ok v st else .bad
    | .exc c _ => .exc c st
    | .bad => .bad)
  | none => .bad
def lendR (F : Fn) (xs : List PV) (st : List SO) : Res PV := lendK F st (mapO (frzV st 0 9) xs)
def gLend (F : Fn) (gs : List G) : G := fun ρ st => bnd (gArgs gs ρ st) (lendR F)
theorem gLend_eq {F : Fn} {gs : List G} {ρ : REnv} {st : List SO} : gLend F gs ρ st = bnd (gArgs gs ρ st) fun xs st => lendR F xs st := rfl
theorem lend_ok {F : Fn} {xs ys : List PV} {st s : List SO} {v : PV} (h : mapO (frzV st 0 9) xs = some ys) (e : F ys [] = .ok v s) (c : scal v = true := by rfl) : lendR F xs st = .ok v st := by
  unfold lendR
  rw [h]
  show (match F ys [] with
    | .ok v _ => if scal v = true then Res.ok v st else Res.bad
    | .exc c _ => Res.exc c st
    | .bad => Res.bad) = _
  rw [e]
  exact if_pos c
theorem scal_rep {K : PySem.W.Frag} {w w' : Wd} {v : PV} {x : V} (c : scal v = true) (r : Rep K w v x) : Rep K w' v x := by
  cases v <;> first | exact r | cases c
/-- the world behind such a call -/
def Wd.back (w w' : Wd) : Wd := { F := fun a => if a ∈ w.adr then none else w'.F a, R := w.R, adr := w.adr }
theorem wback_ok {K : PySem.W.Frag} {w w' : Wd} {H H' : Hp} {st st' : List SO} (ok : WOk K w H st) (l : Le (w.left 0 H) w') (ok' : WOk K w' H' st') : WOk K (w.back w') H' st ∧ Le w (w.back w') := by
  have out : ∀ a o, w.F a = some o → a ∉ w.adr := fun a o e hm => by
    obtain ⟨k, hk, ek⟩ := List.getElem_of_mem hm
    have := (ok.ad k a (by rw [List.getElem?_eq_getElem hk, ek])).1
    rw [this] at e
    cases e
  have le : Le w (w.back w') := by
    refine ⟨⟨fun a o e => ?_, [], by rw [List.append_nil]; rfl⟩, rfl⟩
    show (if a ∈ w.adr then none else w'.F a) = some o
    rw [if_neg (out a o e)]
    exact l.F a o (left_F a o e)
  have R' : w'.R = w.R := l.R
  refine ⟨⟨fun a o e => ?_, fun a o e => ok'.fr a o (by rw [R']; exact e), fun a o e => ?_, ok.nd, ok.len, fun k a e => ⟨?_, (ok.ad k a e).2⟩, fun k a c e1 e2 => ?_⟩, le⟩
  · have e : (if a ∈ w.adr then none else w'.F a) = some o := e
    by_cases h : a ∈ w.adr
    · rw [if_pos h] at e; cases e
    · rw [if_neg h] at e; exact ok'.fz a o e
  · show (if a ∈ w.adr then none else w'.F a) = none
    have := ok'.dj a o (by rw [R']; exact e)
    rw [this]
    split <;> rfl
  · show (if a ∈ w.adr then none else w'.F a) = none
    exact if_pos (List.mem_of_getElem? e)
  · obtain ⟨o, h1, h2⟩ := ok.ob k a c e1 e2
    have e3 := left_new (n := 0) ok e1 (Nat.zero_le _)
    rw [h1] at e3
    refine ⟨o, ok'.fz a o (l.F a o e3), ?_⟩
    cases c with
    | lst xs => obtain ⟨vs, e, r⟩ := h2; exact ⟨vs, e, r.mono le⟩
    | dK xs => obtain ⟨vs, e, r⟩ := h2; exact ⟨vs, e, r.mono le⟩
theorem se_lend {X : Cx} {W : WX} {pos : Pos} {e : Expr} {es : List Expr} {gs : List G} {x : Str} {n k : Nat} {F : Fn} {p : Pos} (D : Def X.prog X.w X.K X.mg X.base x n k F) (hr : Room k X.A) (tk : L2N.Takes X W) (ha : L2.PA X (e :: es) (tGA X.K W (gArgs gs))) (hg : Gl X x := by rfl) (hn : gs.length = n := by rfl) (hdb : (x == ("__debug__" : Str)) = false := by decide)
    (he : starEach (e :: es) X.env = (false, eval e X.env) :: starEach es X.env := by rfl) (hpl : (backTo pos (starEach es X.env)).any (·.1) = false := by rfl) : PE X (.Call (.Name x p) (e :: es) [] pos) (tG X.K W (gLend F gs)) := by
  obtain ⟨f, fd, ps, hps, FO, hm, hk, hb⟩ := D
  refine pe_imp (pe_callS FO hr hg hm hk hb (fun σ => L2N.passAt tk σ) ha hdb he hpl) fun σ H Q ⟨w, ρ, st, ok, sl, po⟩ => ?_
  refine tGA_len ok sl po fun xs st1 w1 H1 vs hx l1 ok1 rs po1 => ?_
  have po1 : Post X.K W (Rep X.K) w1 σ (lendK F st1 (mapO (frzV st1 0 9) xs)) Q := po1
  have ok0 : WOk X.K { F := fun _ => none, R := w1.R, adr := [] } H1 [] := ⟨(fun a o e => by cases e), ok1.fr, (fun a o e => rfl), List.nodup_nil, rfl, (fun k a e => by cases e), (fun k a c e => by cases e)⟩
  have le0 : Le { F := fun _ => none, R := w1.R, adr := [] } w1 := ⟨⟨(fun a o e => by cases e), w1.adr, rfl⟩, rfl⟩
  obtain ⟨okL, -⟩ := left_ok ok0 le0 ok1 ⟨Nat.zero_le _, fun k hk => absurd hk (Nat.not_lt_zero _)⟩
  have okL : WOk X.K (w1.left 0 H1) H1 [] := okL
  cases ey : mapO (frzV st1 0 9) xs with
  | none => rw [ey] at po1; exact po1.elim
  | some ys =>
    rw [ey] at po1
    have ry : RepL X.K (w1.left 0 H1) ys vs := mapO_rep (fun x x' v => frz_rep ok1 9 x x' v) xs ys vs ey rs
    have hl : ys.length = n := by have := ry.length; have := rs.length; omega
    refine ⟨w1.left 0 H1, ys, [], hl, okL, ry, ?_⟩
    have po1 : Post X.K W (Rep X.K) w1 σ (match F ys [] with
      | .ok v _ => if scal v = true then .ok v st1 else .bad
      | .exc c _ => .exc c st1
      | .bad => .bad) Q := po1
    cases q : F ys [] with
    | bad => rw [q] at po1; exact po1.elim
    | exc c st2 =>
      rw [q] at po1
      intro w' H' l o
      obtain ⟨okB, leB⟩ := wback_ok ok1 l o
      exact po1 _ H' leB okB
    | ok v st2 =>
      rw [q] at po1
      have po1 : Post X.K W (Rep X.K) w1 σ (if scal v = true then .ok v st1 else .bad) Q := po1
      by_cases c : scal v = true
      · rw [if_pos c] at po1
        intro w' H' y l o ryy
        obtain ⟨okB, leB⟩ := wback_ok ok1 l o
        exact po1 _ H' y leB okB (scal_rep c ryy)
      · rw [if_neg c] at po1; exact po1.elim
/-! ### x in xs, flat things -/
def flV : PV → Option V
  | .non => some .non
  | .bl b => some (.bl b)
  | .int i => some (.int i)
  | .str s => some (.str s)
  | _ => none
def flL : List PV → Option (List V)
  | [] => some []
  | x :: xs => match flV x, flL xs with
    | some v, some vs => some (v :: vs)
    | _, _ => none
def seqIn (st : List SO) : PV → Option (List PV)
  | .tup xs => some xs
  | .lst xs => some xs
  | .ref k => match st[k]? with
    | some (.lst xs) => some xs
    | _ => none
  | _ => none
def inK (neg : Bool) : Option (List V) → Option V → Option PV
  | some vs, some v => some (.bl (if neg = true then !L2.inV v vs else L2.inV v vs))
  | _, _ => none
def inQ (neg : Bool) : F2 := fun st x y => inK neg ((seqIn st y).bind flL) (flV x)
theorem flV_rep {K : PySem.W.Frag} {w : Wd} {x : PV} {v u : V} (r : Rep K w x v) (e : flV x = some u) : v = u ∧ flatV u = true := by
  cases x <;> cases e <;> exact ⟨r, rfl⟩
theorem flL_rep {K : PySem.W.Frag} {w : Wd} : ∀ {xs : List PV} {vs us : List V}, RepL K w xs vs → flL xs = some us → vs = us ∧ us.all flatV = true
  | [], vs, us, r, e => by cases e; exact ⟨r, rfl⟩
  | x :: xs, vs, us, ⟨v, r, e1, h1, h2⟩, e => by
    have e : (match flV x, flL xs with | some v, some vs => some (v :: vs) | _, _ => none) = some us := e
    cases q1 : flV x with
    | none => rw [q1] at e; cases e
    | some u =>
      cases q2 : flL xs with
      | none => rw [q1, q2] at e; cases e
      | some us' =>
        rw [q1, q2] at e
        cases e
        obtain ⟨a, b⟩ := flV_rep h1 q1
        obtain ⟨c, d⟩ := flL_rep h2 q2
        subst a c
        exact ⟨e1, by rw [List.all_cons, b, d]; rfl⟩
theorem s_inQ {K : PySem.W.Frag} {neg : Bool} : Snd2 K (inQ neg) (rIn K neg) := by
  intro w H st x y z vx vy Q ok rx ry e q
  have e : inK neg ((seqIn st y).bind flL) (flV x) = some z := e
  cases e1 : (seqIn st y).bind flL with
  | none => rw [e1] at e; cases e
  | some us =>
    cases e2 : flV x with
    | none => rw [e1, e2] at e; cases e
    | some u =>
      rw [e1, e2] at e
      have e : some (PV.bl (if neg = true then !L2.inV u us else L2.inV u us)) = some z := e
      obtain ⟨rfl, f1⟩ := flV_rep rx e2
      cases e
      have fin := q w H _ (Le.refl _) ok rfl
      cases y with
      | tup xs =>
        obtain ⟨a, vs, rfl, sq, rs⟩ := ry
        obtain ⟨rfl, f2⟩ := flL_rep rs e1
        exact ⟨a, vs, rfl, .inr (sqt_mono ok.fz sq), f1, f2, fin⟩
      | lst xs =>
        obtain ⟨a, vs, rfl, sq, rs⟩ := ry
        obtain ⟨rfl, f2⟩ := flL_rep rs e1
        exact ⟨a, vs, rfl, .inl (sql_mono ok.fz sq), f1, f2, fin⟩
      | ref k =>
        obtain ⟨a, rfl, qa⟩ := ry
        obtain ⟨c, o, h1, h2, h3⟩ := ok.obj qa
        have e1 : (match st[k]? with | some (.lst xs) => some xs | _ => none).bind flL = some us := e1
        rw [h1] at e1
        cases c with
        | lst xs =>
          obtain ⟨vs, e3, rs⟩ := h3
          rw [e3] at h2
          obtain ⟨rfl, f2⟩ := flL_rep rs e1
          exact ⟨a, vs, rfl, .inl (.inl (.inl h2)), f1, f2, fin⟩
        | dK kvs => cases e1
      | _ => cases e1
/-- a number in a row of numbers -/
theorem flL_int : ∀ ns : List Int, flL (ns.map PV.int) = some (ns.map V.int)
  | [] => rfl
  | n :: ns => by
    show (match flV (PV.int n), flL (ns.map PV.int) with | some v, some vs => some (v :: vs) | _, _ => none) = _
    rw [flL_int ns]
    rfl
theorem inQ_int {neg : Bool} {st : List SO} {i : Int} {y : PV} {ns : List Int} (h : seqIn st y = some (ns.map .int)) : inQ neg st (.int i) y = some (.bl (if neg = true then !(ns.any fun y => y == i) else ns.any fun y => y == i)) := by
  unfold inQ
  rw [h]
  show inK neg (flL (ns.map PV.int)) (some (.int i)) = _
  rw [flL_int]
  show some (PV.bl (if neg = true then !L2.inV (.int i) (ns.map V.int) else L2.inV (.int i) (ns.map V.int))) = _
  have : L2.inV (.int i) (ns.map V.int) = ns.any fun y => y == i := by
    unfold L2.inV
    rw [List.any_map]
    rfl
  rw [this]
/-! ### an object that is new, grown -/
theorem set_new {st : List SO} {c d : SO} : (st ++ [c]).set st.length d = st ++ [d] := by
  rw [List.set_append_right _ _ (Nat.le_refl _), Nat.sub_self]
  rfl
theorem get_new {st : List SO} {c : SO} : (st ++ [c])[st.length]? = some c := by
  rw [List.getElem?_append_right (Nat.le_refl _), Nat.sub_self]
  rfl
theorem get_old {st l : List SO} {k : Nat} (h : k < st.length) : (st ++ l)[k]? = st[k]? := List.getElem?_append_left h
theorem set_old {st l : List SO} {k : Nat} {c : SO} (h : k < st.length) : (st ++ l).set k c = st.set k c ++ l := List.set_append_left _ _ h
theorem frz_list {st : List SO} {k : Nat} {xs : List PV} (h : st[k]? = some (.lst xs)) (hf : ∀ x ∈ xs, FZ 8 x) : frzV st 0 9 (.ref k) = some (.lst xs) := by
  have e : frzV st 0 9 (.ref k) = (match st[k]? with
    | some (.lst xs) => (mapO (frzV st 0 8) xs).map .lst
    | some (.dK kvs) => (mapO (fun p : Key × PV => (frzV st 0 8 p.2).map fun v => (p.1, v)) kvs).map .dct
    | none => none) := rfl
  rw [e, h]
  show (mapO (frzV st 0 8) xs).map PV.lst = _
  rw [mapO_id xs fun x hx => hf x hx 0 st 0]
  rfl
theorem lend2 {F : Fn} {x y x' y' : PV} {st s : List SO} {v : PV} (h1 : frzV st 0 9 x = some x') (h2 : frzV st 0 9 y = some y') (e : F [x', y'] [] = .ok v s) (c : scal v = true := by rfl) : lendR F [x, y] st = .ok v st := by
  refine lend_ok (ys := [x', y']) ?_ e c
  simp only [mapO, h1, h2]
theorem map_succ {α : Type} (f : Nat → α) (k : Nat) : (List.range (k + 1)).map f = (List.range k).map f ++ [f k] := by
  rw [List.range_succ, List.map_append]
  rfl
theorem st_chain {X : Cx} {W : WX} {pos : Pos} {a b c : Expr} {ga gb gc : G} {op op' : CmpOp} {f f' : F2} {r r' : R2} (ho : OpR X (compareOp op) r) (ho' : OpR X (compareOp op') r') (hs : Snd2 X.K f r) (hs' : Snd2 X.K f' r') (ha : PE X a (tG X.K W ga)) (hb : PE X b (tG X.K W gb)) (hc : PE X c (tG X.K W gc))
    (hm : lastMarks [op, op'] [b, c] = false := by with_unfolding_all rfl) : PT X (.Compare a [op, op'] [b, c] pos) (tGT X.K W (gB (gChain f f' ga gb gc))) :=
  pt_imp (pt_chain ho ho' ha hb hc hm) fun _ _ _ h => tTest_of (fun _ h' => tChain_of hs hs' h') h
end Z
/-! Parts of a list as new lists; tuple(); a def handed in. -/
namespace Z
open PySem PySem.Spec PyProof.Rows L2
/-! ### xs[lo:hi] of a list, a new list -/
def slNK (lo hi : Option Int) (st : List SO) : Option SO → Res PV
  | some (.lst xs) => .ok (.ref st.length) (st ++ [.lst (cutP xs lo hi)])
  | _ => .bad
def slN (lo hi : Option Int) (st : List SO) : PV → Res PV
  | .lst xs => .ok (.ref st.length) (st ++ [.lst (cutP xs lo hi)])
  | .ref k => slNK lo hi st st[k]?
  | _ => .bad
def gSlN (g : G) (lo hi : Option Int) : G := fun ρ st => bnd (g ρ st) fun v st => slN lo hi st v
theorem gSlN_eq {g : G} {lo hi : Option Int} {ρ : REnv} {st : List SO} : gSlN g lo hi ρ st = bnd (g ρ st) fun v st => slN lo hi st v := rfl
theorem slN_r {st : List SO} {k : Nat} {lo hi : Option Int} : slN lo hi st (.ref k) = slNK lo hi st st[k]? := rfl
theorem slN_l {st : List SO} {xs : List PV} {lo hi : Option Int} : slN lo hi st (.lst xs) = .ok (.ref st.length) (st ++ [.lst (cutP xs lo hi)]) := rfl
theorem slNK_s {st : List SO} {xs : List PV} {lo hi : Option Int} : slNK lo hi st (some (.lst xs)) = .ok (.ref st.length) (st ++ [.lst (cutP xs lo hi)]) := rfl
theorem se_slN {X : Cx} {W : WX} {pos p2 : Pos} {e : Expr} {elo ehi : Option Expr} {lo hi : Option Int} {g : G} (he : PE X e (tG X.K W g)) (hl : PO X elo (tOI lo)) (hh : PO X ehi (tOI hi)) : PE X (.Subscript e (.Slice elo ehi none p2) pos) (tG X.K W (gSlN g lo hi)) := by
  refine pe_imp (pe_slice (SlR.or sl_tup sl_list) he hl hh) fun σ H Q ⟨w, ρ, st, ok, sl, po⟩ => ⟨w, ρ, st, ok, sl, post_bind (rel2 := Rep X.K) po fun v st1 w1 H1 vx l1 ok1 rx po1 => ?_⟩
  have pick : ∀ {o : Option Int} {H : Hp} {Q : Option Int → Hp → Prop}, Q o H → tOI o σ H Q := fun {o H Q} q => by
    cases o with
    | none => exact q
    | some i => exact ⟨i, rfl, q⟩
  refine pick (pick ?_)
  have fin : ∀ (a : Addr) (xs : List PV) (vs : List V), RepL X.K w1 xs vs → Post X.K W (Rep X.K) w1 σ (.ok (.ref st1.length) (st1 ++ [.lst (cutP xs lo hi)])) Q → ∀ p, H1 p = none → Q (.ref p) (upd H1 p (.lst (cutV vs lo hi))) := fun a xs vs rs po p hp => by
    refine po (w1.new p) _ _ (le_new w1 p) (ok1.new hp (c := .lst (cutP xs lo hi)) ⟨_, rfl, ?_⟩) ⟨p, rfl, ?_⟩
    · unfold cutV cutP
      rw [rs.length]
      exact ((rs.drop _).take _)
    · show (w1.adr ++ [p])[st1.length]? = some p
      rw [← ok1.len]; simp
  cases v with
  | lst xs =>
    obtain ⟨a, vs, ev, sq, rs⟩ := rx
    exact .inr ⟨a, vs, ev, sql_mono ok1.fz sq, fin a xs vs rs po1⟩
  | ref k =>
    obtain ⟨a, ev, qa⟩ := rx
    obtain ⟨c, o, h1, h2, h3⟩ := ok1.obj qa
    have po1 : Post X.K W (Rep X.K) w1 σ (slNK lo hi st1 st1[k]?) Q := po1
    rw [h1] at po1
    cases c with
    | lst xs =>
      obtain ⟨vs, f1, rs⟩ := h3
      subst f1
      exact .inr ⟨a, vs, ev, .inl (.inl h2), fin a xs vs rs po1⟩
    | dK _ => exact po1.elim
  | _ => exact po1.elim
/-! ### xs[::-1] of a list, a new list -/
def revNK (st : List SO) : Option SO → Res PV
  | some (.lst xs) => .ok (.ref st.length) (st ++ [.lst xs.reverse])
  | _ => .bad
def revN (st : List SO) : PV → Res PV
  | .lst xs => .ok (.ref st.length) (st ++ [.lst xs.reverse])
  | .ref k => revNK st st[k]?
  | _ => .bad
def gRevN (g : G) : G := fun ρ st => bnd (g ρ st) fun v st => revN st v
theorem gRevN_eq {g : G} {ρ : REnv} {st : List SO} : gRevN g ρ st = bnd (g ρ st) fun v st => revN st v := rfl
theorem revN_r {st : List SO} {k : Nat} : revN st (.ref k) = revNK st st[k]? := rfl
theorem revNK_s {st : List SO} {xs : List PV} : revNK st (some (.lst xs)) = .ok (.ref st.length) (st ++ [.lst xs.reverse]) := rfl
theorem repL_rev {K : PySem.W.Frag} {w : Wd} : ∀ {xs : List PV} {vs : List V}, RepL K w xs vs → RepL K w xs.reverse vs.reverse
  | [], vs, r => by cases r; rfl
  | x :: xs, vs, ⟨v, r, e, h1, h2⟩ => by
    rw [e, List.reverse_cons, List.reverse_cons]
    exact (repL_rev h2).append ⟨v, [], rfl, h1, rfl⟩
theorem se_revN {X : Cx} {W : WX} {e : Expr} {g : G} {k : Nat} {p1 p2 p3 pos : Pos} (he : PE X e (tG X.K W g)) : PE X (.Subscript e (.Slice none none (some (.UnaryOp .USub (.Constant (.int 1) k p1) p2)) p3) pos) (tG X.K W (gRevN g)) := by
  refine pe_imp (pe_revL he) fun σ H Q ⟨w, ρ, st, ok, sl, po⟩ => ⟨w, ρ, st, ok, sl, post_bind (rel2 := Rep X.K) po fun v st1 w1 H1 vx l1 ok1 rx po1 => ?_⟩
  have fin : ∀ (xs : List PV) (vs : List V), RepL X.K w1 xs vs → Post X.K W (Rep X.K) w1 σ (.ok (.ref st1.length) (st1 ++ [.lst xs.reverse])) Q → ∀ p, H1 p = none → Q (.ref p) (upd H1 p (.lst vs.reverse)) := fun xs vs rs po p hp => by
    refine po (w1.new p) _ _ (le_new w1 p) (ok1.new hp (c := .lst xs.reverse) ⟨_, rfl, repL_rev rs⟩) ⟨p, rfl, ?_⟩
    show (w1.adr ++ [p])[st1.length]? = some p
    rw [← ok1.len]; simp
  cases v with
  | lst xs =>
    obtain ⟨a, vs, ev, sq, rs⟩ := rx
    exact ⟨a, vs, ev, sql_mono ok1.fz sq, fin xs vs rs po1⟩
  | ref k =>
    obtain ⟨a, ev, qa⟩ := rx
    obtain ⟨c, o, h1, h2, h3⟩ := ok1.obj qa
    have po1 : Post X.K W (Rep X.K) w1 σ (revNK st1 st1[k]?) Q := po1
    rw [h1] at po1
    cases c with
    | lst xs =>
      obtain ⟨vs, f1, rs⟩ := h3
      subst f1
      exact ⟨a, vs, ev, .inl (.inl h2), fin xs vs rs po1⟩
    | dK _ => exact po1.elim
  | _ => exact po1.elim
/-! ### tuple() -/
def tupleV : FL := fun st xs => match xs with
  | [.tup ys] => some (.tup ys)
  | [.lst ys] => some (.tup ys)
  | [.ref k] => lstK st[k]? fun ys => some (.tup ys)
  | _ => none
theorem tupleV_r {st : List SO} {k : Nat} : tupleV st [.ref k] = lstK st[k]? fun ys => some (.tup ys) := rfl
theorem tupleV_l {st : List SO} {xs : List PV} : tupleV st [.lst xs] = some (.tup xs) := rfl
theorem s_tupleof {K : PySem.W.Frag} : SndL K tupleV (fun xs H Q => ∃ p ys, xs = [.ref p] ∧ ((SqL K H p ys ∧ ∀ l, H l = none → Q (.ref l) (upd H l (.tup ys))) ∨ (SqT K H p ys ∧ Q (.ref p) H))) := by
  intro w H st xs z vs Q ok rs e q
  rcases xs with _ | ⟨x, _ | ⟨y, ys⟩⟩
  · cases e
  · obtain ⟨v, ev, rx⟩ := repl1 rs
    cases x with
    | tup ys =>
      cases e
      obtain ⟨p, us, e2, sq, rr⟩ := rx
      exact ⟨p, us, by rw [ev, e2], .inr ⟨sqt_mono ok.fz sq, q w H _ (Le.refl _) ok ⟨p, us, rfl, sq, rr⟩⟩⟩
    | lst ys =>
      cases e
      obtain ⟨p, us, e2, sq, rr⟩ := rx
      exact ⟨p, us, by rw [ev, e2], .inl ⟨sql_mono ok.fz sq, fun l hl => q (w.frz l (.tup us)) _ _ (le_frz ok hl _) (ok.frz hl _) ⟨l, us, rfl, .inl (.inl upd_same), rr.mono (le_frz ok hl _)⟩⟩⟩
    | ref k =>
      obtain ⟨p, e2, q1⟩ := rx
      obtain ⟨c1, o1, h1, h2, h3⟩ := ok.obj q1
      have e : lstK st[k]? (fun ys => some (PV.tup ys)) = some z := e
      rw [h1] at e
      cases c1 with
      | lst ys =>
        cases e
        obtain ⟨us, f1, rr⟩ := h3
        subst f1
        exact ⟨p, us, by rw [ev, e2], .inl ⟨.inl (.inl h2), fun l hl => q (w.frz l (.tup us)) _ _ (le_frz ok hl _) (ok.frz hl _) ⟨l, us, rfl, .inl (.inl upd_same), rr.mono (le_frz ok hl _)⟩⟩⟩
      | dK _ => cases e
    | _ => cases e
  · cases x <;> cases e
/-! ### a def that was handed in -/
def callV : List Str → List Fn → PV → Option Fn
  | x :: xs, F :: Fs, .cls c => if c = x then some F else callV xs Fs (.cls c)
  | _, _, _ => none
def gCallV (xs : List Str) (Fs : List Fn) (gv : G) (gs : List G) : G := fun ρ st => bnd (gv ρ st) fun v st1 => callK (callV xs Fs v) (gArgs gs ρ st1)
theorem gCallV_eq {xs : List Str} {Fs : List Fn} {gv : G} {gs : List G} {ρ : REnv} {st : List SO} : gCallV xs Fs gv gs ρ st = bnd (gv ρ st) fun v st1 => callK (callV xs Fs v) (gArgs gs ρ st1) := rfl
theorem callV_get : ∀ {xs : List Str} {Fs : List Fn} {v : PV} {F : Fn}, callV xs Fs v = some F → ∃ (c : Str) (i : Nat), v = .cls c ∧ xs[i]? = some c ∧ Fs[i]? = some F
  | [], [], _, _, e => by cases e
  | [], _ :: _, _, _, e => by cases e
  | _ :: _, [], _, _, e => by cases e
  | x :: xs, F :: Fs, v, G, e => by
    cases v with
    | cls c =>
      have e : (if c = x then some F else callV xs Fs (.cls c)) = some G := e
      by_cases h : c = x
      · rw [if_pos h] at e
        cases e
        exact ⟨c, 0, rfl, by rw [h]; rfl, rfl⟩
      · rw [if_neg h] at e
        obtain ⟨c', i, e1, e2, e3⟩ := callV_get e
        exact ⟨c', i + 1, e1, by simpa using e2, by simpa using e3⟩
    | _ => cases e
theorem se_callV {X : Cx} {W : WX} {pos : Pos} {fe e : Expr} {es : List Expr} {n k : Nat} {xs : List Str} {Fs : List Fn} {gv : G} {gs : List G} (D : DefsAt X.prog X.w X.K X.mg X.base n k xs Fs) (hr : Room k X.A) (tk : L2N.Takes X W)
    (hf : PE X fe (tG X.K W gv)) (ha : L2.PA X (e :: es) (tGA X.K W (gArgs gs))) (hn : gs.length = n := by rfl)
    (ht : eval (.Call fe (e :: es) [] pos) X.env = (do callWith pos (← eval fe X.env) [] (backTo pos (starEach (e :: es) X.env)) (backToKw pos (keywordEach [] X.env))) := by rfl)
    (he : starEach (e :: es) X.env = (false, eval e X.env) :: starEach es X.env := by rfl) (hpl : (backTo pos (starEach es X.env)).any (·.1) = false := by rfl) : PE X (.Call fe (e :: es) [] pos) (tG X.K W (gCallV xs Fs gv gs)) := by
  refine ⟨fun pins sh σ H Q I ⟨w, ρ, st, ok, sl, po⟩ => ?_⟩
  have po : Post X.K W (Rep X.K) w σ (bnd (gv ρ st) fun v st1 => callK (callV xs Fs v) (gArgs gs ρ st1)) Q := po
  have body : tG X.K W gv σ H (fun y H1 => ∃ (x : Str) (F : Fn) (i : Nat), y = V.ref (He.ga X.K x) ∧ xs[i]? = some x ∧ Fs[i]? = some F ∧ tGA X.K W (gArgs gs) σ H1 fun vs H2 => spF X.K n F vs H2 Q (WE W σ)) := by
    refine ⟨w, ρ, st, ok, sl, ?_⟩
    cases eg : gv ρ st with
    | exc c st1 => rw [eg] at po; exact po
    | bad => rw [eg] at po; exact po.elim
    | ok v st1 =>
      rw [eg] at po
      have po : Post X.K W (Rep X.K) w σ (callK (callV xs Fs v) (gArgs gs ρ st1)) Q := po
      cases ec : callV xs Fs v with
      | none => rw [ec] at po; exact po.elim
      | some F =>
        rw [ec] at po
        have po3 : Post X.K W (Rep X.K) w σ (bnd (gArgs gs ρ st1) F) Q := po
        obtain ⟨x, i, rfl, hx, hF⟩ := callV_get ec
        intro w' H' y l o ry
        refine ⟨x, F, i, ry, hx, hF, ?_⟩
        refine tGA_len o (sl.mono l) (Post.mono l po3) fun ys st2 w2 H2 vs hl l2 ok2 rs po2 => ⟨w2, ys, st2, by rw [hl, hn], ok2, rs, ?_⟩
        cases q : F ys st2 with
        | ok v st3 => rw [q] at po2; exact po2
        | exc c st3 => rw [q] at po2; exact po2
        | bad => rw [q] at po2; exact po2.elim
  refine Call_ (thn (hf.run pins sh σ H _ I body) ?_) ht
  rintro u s1 ⟨y, H1, I1, ry, x, F, i, ey, hx, hF, q⟩
  subst ey
  cases ry
  obtain ⟨x', hx', j, fd, ps, hj, hps, FO, hk, hb⟩ := defsAt_get D hF
  rw [hx] at hx'
  cases hx'
  refine PySem.W.callWith_K (first := []) (h₀ := X.base) I1.ok.mod.kin hk (thn (ha.run pos pins s1 σ H1 _ I1 q) ?_) he hpl
  rintro us s2 ⟨vs, H2, I2, rv, here⟩
  exact ⟨I2.kIn, run_fnS FO (hr.mono hj) hb (L2N.passAt tk σ) I2 rv here⟩
end Z
/-! A tuple turned about: t[::-1]. -/
namespace HT
open PySem PyProof.Rows
section
variable {prog : Program} {w : World} {A : Around} {E : Value → Shared → Prop} {s : Shared}
theorem zAdjust (n : Nat) : Builtin.Slice.sliceAdjust none none (-1) (n : Int) = ((n : Int) - 1, -1) := by
  unfold Builtin.Slice.sliceAdjust
  simp
theorem zPlaces (n : Nat) : Builtin.Slice.slicePlaces ((n : Int) - 1) (-1) (-1) = n := by
  unfold Builtin.Slice.slicePlaces
  simp only [show ¬ ((-1 : Int) > 0) by decide, if_false, Int.neg_neg, Int.ediv_one]
  split <;> omega
theorem zPick (xs : Array Value) : ((List.range xs.size).filterMap fun (k : Nat) => xs[((xs.size : Int) - 1 + (k : Int) * -1).toNat]?).toArray = xs.toList.reverse.toArray := by
  have e : ((List.range xs.size).filterMap fun (k : Nat) => xs[((xs.size : Int) - 1 + (k : Int) * -1).toNat]?) = xs.toList.reverse := by
    have h : ∀ l : List Nat, (∀ k ∈ l, k < xs.size) → (l.filterMap fun (k : Nat) => xs[((xs.size : Int) - 1 + (k : Int) * -1).toNat]?) = l.filterMap fun k => xs.toList.reverse[k]? := fun l hl => by
      induction l with
      | nil => rfl
      | cons a l ih =>
        have ha := hl a (by simp)
        have e1 : ((xs.size : Int) - 1 + (a : Int) * -1).toNat = xs.size - 1 - a := by omega
        have e2 : xs[((xs.size : Int) - 1 + (a : Int) * -1).toNat]? = xs.toList.reverse[a]? := by
          rw [e1, List.getElem?_reverse (by simpa using ha)]
          simp
        rw [List.filterMap_cons, List.filterMap_cons, e2, ih fun k hk => hl k (by simp [hk])]
    rw [h _ fun k hk => List.mem_range.mp hk]
    have all : ∀ ys : List Value, ((List.range ys.length).filterMap fun (k : Nat) => ys[k]?) = ys := fun ys => by
      induction ys with
      | nil => rfl
      | cons y ys ih =>
        rw [List.length_cons, List.range_succ_eq_map, List.filterMap_cons]
        show y :: ((List.range ys.length).map Nat.succ).filterMap (fun (k : Nat) => (y :: ys)[k]?) = y :: ys
        rw [List.filterMap_map]
        have c : ((fun (k : Nat) => (y :: ys)[k]?) ∘ Nat.succ) = fun (k : Nat) => ys[k]? := by funext k; simp
        rw [c, ih]
    have q := all xs.toList.reverse
    rw [List.length_reverse, Array.length_toList] at q
    exact q
  rw [e]
theorem zRev {t sl : Addr} {items : Array Value} {vl vu vs : Value} {Q : Value → Shared → Prop} (ht : IsTup s.heap t items) (hs : s.heap.IsSliceOf sl vl vu vs) (pl : IsPart vl none) (pu : IsPart vu none) (ps : IsPart vs (some (-1)))
    (h : Q (.ref s.heap.objs.size) { s with heap := s.heap.push { cls := .type "tuple", data := .seq items.toList.reverse.toArray } }) (room : items.size ≤ sizeLine) : wpAny (model prog w) A (getItem (.ref t) (.ref sl)) Q E s := by
  have fits : sizeOk (.seq items.toList.reverse.toArray) := by
    show items.toList.reverse.toArray.size ≤ sizeLine
    simpa using room
  obtain ⟨o1, there, z1, z2⟩ := id hs
  have isSl : s.TypeIs (.ref sl) "slice" := ⟨o1, there, z1⟩
  unfold getItem
  try with_reducible refine wpAny_holding ?_
  first
    | refine wpAny_bind (wpAny_pure ?_)
    | skip
  refine wpAny_bind (wpAny_sequenceKey ht.typeIs (by decide) (wpAny_bind (wpAny_callSpecial?_slot (name := Str.ofString "__getitem__") ht.typeIs PyProof.Rows.slot_tuple_getitem (wpAny_call_entry PyProof.Rows.slot_tuple_getitem ht.typeIs entry_tuple_getitem ?_ (args_tuple_getitem _ _)))))
  show wpAny _ _ (Builtin.Tuple.tupleItemsOf (.ref t) >>= _) _ _ s
  refine wpAny_bind (tupleItemsOf_ ht (wpAny_bind (wpAny_typeOf isSl ?_)))
  rw [if_pos (by decide)]
  refine wpAny_bind (?_ : wpAny _ _ (Builtin.Slice.sliceApplied (.ref sl) (pure (items.size : Int))) _ _ s)
  unfold Builtin.Slice.sliceApplied Builtin.Slice.sliceFields
  refine wpAny_bind (wpAny_bind (wpAny_field there z2 (x := vl) rfl (wpAny_bind (wpAny_field there z2 (x := vu) rfl (wpAny_bind (wpAny_field there z2 (x := vs) rfl (wpAny_pure (wpAny_bind (slicePart_ ps ?_)))))))))
  show wpAny _ _ (if ((-1 : Int) == 0) = true then _ else _) _ _ s
  rw [if_neg (by decide)]
  refine wpAny_bind (slicePart_ pl (wpAny_bind (slicePart_ pu (wpAny_bind (wpAny_pure ?_)))))
  show wpAny _ _ (match Builtin.Slice.sliceAdjust none none (-1) (items.size : Int) with | (a, b) => pure (a, (-1 : Int), Builtin.Slice.slicePlaces a b (-1))) _ _ s
  rw [zAdjust]
  show wpAny _ _ (pure ((items.size : Int) - 1, (-1 : Int), Builtin.Slice.slicePlaces ((items.size : Int) - 1) (-1) (-1))) _ _ s
  rw [zPlaces]
  refine wpAny_pure ?_
  show wpAny _ _ (if (((items.size : Int) - 1 == 0) && ((-1 : Int) == 1) && (items.size == items.size)) = true then _ else _) _ _ s
  rw [if_neg (by simp), zPick]
  first
    | exact wpAny_bind (m := Builtin.Tuple.tupleExact _) (wpAny_newObj_type (wpAny_pure ⟨_, rfl, wpAny_pure h⟩) fits)
    | exact wpAny_bind (m := Builtin.Tuple.tupleExact _) (wpAny_newObj_type (wpAny_bind (wpAny_pure (wpAny_pure ⟨_, rfl, wpAny_pure h⟩))) fits)
    | exact wpAny_bind (wpAny_bind (m := Builtin.Tuple.tupleExact _) (wpAny_newObj_type (wpAny_pure (wpAny_pure ⟨_, rfl, wpAny_pure h⟩)) fits))
    | exact wpAny_bind (wpAny_bind (m := Builtin.Tuple.tupleExact _) (wpAny_newObj_type (wpAny_pure ⟨_, rfl, wpAny_pure h⟩) fits))
end
end HT
namespace Z
open PySem PySem.Spec PyProof.Rows L2
theorem RepL.rev {K : PySem.W.Frag} {w : Wd} : ∀ {xs : List PV} {vs : List V}, RepL K w xs vs → RepL K w xs.reverse vs.reverse
  | [], _, h => by rw [show _ = [] from h]; exact (rfl : _ = _)
  | x :: xs, _, ⟨v, r, e, h1, h2⟩ => by
    rw [e, List.reverse_cons, List.reverse_cons]
    exact (RepL.rev h2).append (RepL.one h1)
theorem se_revT {X : Cx} {W : WX} {e : Expr} {g : G} {k : Nat} {p1 p2 p3 pos : Pos} (he : PE X e (tG X.K W g)) : PE X (.Subscript e (.Slice none none (some (.UnaryOp .USub (.Constant (.int 1) k p1) p2)) p3) pos) (tG X.K W (gRevT g)) := by
  refine ⟨fun pins sh σ H Q I ⟨w, ρ, st, ok, sl, po⟩ => Subscript_ (thn (he.run pins sh σ H (fun x H1 => ∃ a vs, x = .ref a ∧ SqT X.K H1 a vs ∧ ∀ p, H1 p = none → Q (.ref p) (upd H1 p (.tup vs.reverse))) I ⟨w, ρ, st, ok, sl, post_bind (rel2 := Rep X.K) po fun v st1 w1 H1 vx l1 ok1 rx po1 => ?_⟩) ?_)⟩
  · cases v with
    | tup xs =>
      obtain ⟨a, vs, ev, sq, rs⟩ := rx
      exact ⟨a, vs, ev, sqt_mono ok1.fz sq, fun p hp => po1 (w1.frz p (.tup vs.reverse)) _ _ (le_frz ok1 hp _) (ok1.frz hp _) ⟨p, _, rfl, .inl (.inl upd_same), rs.rev.mono (le_frz ok1 hp _)⟩⟩
    | _ => exact po1.elim
  · rintro v s1 ⟨x, H1, I1, rx, a, vs, ex, sq, q⟩
    subst ex
    cases rx
    have minus : PO X (some (.UnaryOp .USub (.Constant (.int 1) k p1) p2)) (tPart (tUn (rU fun i => .int (-i)) (tC (.int 1)))) := po_some (pe_un un_neg pe_int)
    refine wpAny_Slice (thn (po_none.run pins s1 σ H1 (fun o H2 => o = none ∧ H2 = H1) I1 ⟨rfl, rfl⟩) ?_)
    rintro vl s2 ⟨o2, H2, I2, part2, rfl, rfl⟩
    refine thn (po_none.run pins s2 σ H2 (fun o H3 => o = none ∧ H3 = H2) I2 ⟨rfl, rfl⟩) ?_
    rintro vu s3 ⟨o3, H3, I3, part3, rfl, rfl⟩
    refine thn (minus.run pins s3 σ H3 (fun o H4 => o = some (-1) ∧ H4 = H3) I3 ⟨1, rfl, -1, rfl, rfl, rfl⟩) ?_
    rintro vst s4 ⟨o4, H4, I4, part4, rfl, rfl⟩
    have I5 : Inv X pins σ H4 { s4 with heap := s4.heap.push { cls := .type "slice", data := .fields #[vl, vu, vst] } } := I4.kept (t' := s4.toks) fun b ob z => Heap.get?_push_of_some _ z
    obtain ⟨its, rv, isT, room⟩ := I5.tuple sq
    show wpAny (model X.prog X.w) X.A (subscriptTail e (.Slice none none (some (.UnaryOp .USub (.Constant (.int 1) k p1) p2)) p3) (.ref a) (.ref s4.heap.objs.size)) _ _ _
    refine tail_any (ops := [.ref a, .ref s4.heap.objs.size]) isT.typeIs (PyProof.Rows.slot_tuple_getitem.lookup) (HT.zRev isT (Heap.IsSliceOf.new _ vl vu vst) part2 part3 part4 ?_ (by rw [List.size_toArray, ← rv.length]; exact room)) (by with_unfolding_all rfl)
    refine ⟨.ref _, _, I5.laid (t' := s4.toks) (o := .tup vs.reverse) (fun b ob z => Heap.get?_push_of_some _ z) (Nat.le_refl _) ⟨by rw [List.length_reverse]; exact room, _, rv.reverse, IsTup.new _ _⟩, rfl, q _ (I5.hok.fresh (Nat.le_refl _))⟩
end Z
/-! The law's end. -/
namespace Z
open PySem PySem.Spec PyProof.Rows L2
/-- a def keeps what its function says, at its own object -/
theorem fnok_of {P : Program} {w : World} {K : PySem.W.Frag} {mg : Str → Option Value} {base : Heap} {x : Str} {params : Arguments} {body : List Stmt} {scope : Scope} {fd : FuncData} {f : Addr} {N ps : List Str} {k n : Nat} {F : Fn} {g : GS}
    (FD : FunD K x x params body scope [] [] f fd) (S : FnScope N ps scope) (hps : ps.length = n) (hm : mg x = some (.ref f)) (hb : Binds K fd ps [])
    (hbody : ∀ (cdv : Value) (A : Around) (outer : List PySem.Env) (s : Shared) (H : Hp) (E : XK), Room k (A.deeper (envOfC x scope s.heap.objs.size f cdv)) →
      PSs (cxOf (L2N.CX P w) P w K mg base N x scope f cdv A outer s H E) body (tS K (fun cls d _ H => E cls d H) g))
    (hF : ∀ xs st, xs.length = n → F xs st = .bad ∨ F xs st = allR (g (begin N.length n xs) st)) : FnOk P w K mg base (L2N.CX P w) (k + 1) f fd ps (spF K n F) := by
  refine FD.ok S (fun vs H Q E h => ?_) fun cdv A outer s H vs Q E hr h => ⟨tS K (fun cls d _ H => E cls d H) g, hbody cdv A outer s H E hr, ?_⟩
  · obtain ⟨wd, xs, st, hn, _, r, _⟩ := h
    rw [r.length, hn, hps]
  · obtain ⟨wd, xs, st, hn, ok, r, po⟩ := h
    refine ⟨wd, begin N.length n xs, st, ok, slots_start r hn, ?_⟩
    rcases hF xs st hn with e | e
    · rw [e] at po; exact po.elim
    · rw [e] at po
      cases q : g (begin N.length n xs) st with
      | nx ρ' st' => rw [q] at po; exact fun w' σ' H' l o _ => po w' H' .non l o rfl
      | ret v st' => rw [q] at po; exact po
      | exc c ρ' st' => rw [q] at po; exact fun w' σ' H' l o _ => po w' H' l o
      | bad => rw [q] at po; exact po.elim
theorem repL_ints {K : PySem.W.Frag} {w : Wd} : ∀ ns : List Int, RepL K w (ns.map .int) (ns.map V.int)
  | [] => rfl
  | n :: ns => ⟨_, _, rfl, rfl, repL_ints ns⟩
/-- from the law's function to the law's row -/
theorem walkZ {l : PySem.W.OpenLaw} {n k : Nat} {q : Program} {loose : List Str} {XP : (Str → Option Value) → Heap → Prop} {YP : World → Heap → Prop} {d : DefRec} {x : Str} {F : Fn}
    (h1 : l.most = some n) (h2 : n ≤ sizeLine) (h3 : d.params.defaults = []) (h4 : Room k callerA)
    (law : ∀ (ns : List Int) (st : List SO), ns.length ≤ n → (∀ z ∈ ns, Builtin.Int.intBits z ≤ 1048576) → ∃ st', F [.lst (ns.map .int)] st = .ok (.bl true) st')
    (G : ∀ (w : World) (mg : Str → Option Value) (fa : Addr) (h : Heap), YP w h → h.Ns mainGlobals mg → mg d.name = some (.ref fa) → ∃ (K : PySem.W.Frag) (fd : FuncData), K.In h ∧
      (∀ (s : Shared) (u : Value), BindsTo s fd ⟨[u], []⟩ [(x, u)]) ∧ ∀ base : Heap, K.In base → base.Ns mainGlobals mg → FnOk l.prog w K mg base (L2N.CX l.prog w) k fa fd [x] (spF K 1 F)) :
    PySem.W.WalkO q loose XP YP l.row.toRowW d [] (fun f vs => PySem.call f vs) := by
  refine Att.attach_callB h1 h3 fun w s0 s mg mb fa o pm cd doc a vs ns T Y ho hd hcd hmg hobj hints hlen hbits hg => ?_
  obtain ⟨K, fd, KX, hb, hF⟩ := G w mg fa _ Y T.T.g hmg
  refine law_call KX T.T.g T.T.b T.T.builtins T.T.nolimit hg hobj hints (Nat.le_trans hlen h2) h4 hF hb (fun H hO hS => ?_) fun H e s' ⟨_, _, _, _, _, _, _, _, _, _, _, _, no⟩ => no
  obtain ⟨st', e⟩ := law ns [] hlen hbits
  refine ⟨⟨H, fun _ => none, []⟩, [.lst (ns.map .int)], [], rfl, ?_, ⟨_, _, rfl, ⟨a, _, rfl, hS, repL_ints ns⟩, rfl⟩, ?_⟩
  · exact ⟨fun _ _ h => h, fun _ _ h => (nomatch h), fun _ _ h => (nomatch h), List.nodup_nil, rfl, fun _ _ h => (nomatch h), fun _ _ _ h => (nomatch h)⟩
  · rw [e]
    exact fun _ _ _ _ _ r => r
/-- a module's tuple of ints -/
theorem con_tup {K : PySem.W.Frag} {mg : Str → Option Value} {x : Str} (l : List Int) (h : mg x = some (.ref (He.ga K x))) (t : He.tupB K x (l.map .int) = true) : Con K mg x (.tup (l.map .int)) := by
  refine ⟨_, .ref (He.ga K x), h, rfl, fun w => ⟨_, _, rfl, He.tupB_ok t w.F, ?_⟩⟩
  have e : (l.map He.Dv.int).map (He.Dv.v K) = l.map V.int := by rw [List.map_map]; rfl
  rw [e]
  exact repL_ints l
theorem saysD_of {fa : List He.Fa} {fn : List He.DefD} {ex : PySem.W.Frag → Bool} {w : World} {h : Heap} {K : PySem.W.Frag} (c : He.SaysX fa fn [] [] ex w h K) : He.SaysD fa fn K := congrArg Prod.fst c.t
end Z
namespace Z
open PySem PySem.Spec PyProof.Rows L2
noncomputable def g__law_pot : GS :=
  (gSeq (gIfS (gB (gBin geV (gVar 0) (gBin powV (gC (.int 10)) (gC (.int 18))))) (gRet (gNewE [(gBin subV (gVar 0) (gBin powV (gC (.int 10)) (gC (.int 18))))])) gSkip)
  (gSeq (gSet 1 (gC (.int 0)))
  (gSeq (gFor (gRng1 (gC (.int 64))) (tgName 2) (gSeq (gSet 3 (gBin modV (gBin mulV (gBin addV (gBin addV (gBin modV (gVar 0) (gC (.int 2147483629))) (gBin mulV (gC (.int 7919)) (gVar 2))) (gC (.int 1))) (gC (.int 48271))) (gC (.int 2147483647))))
  (gSeq (gSet 3 (gBin modV (gBin addV (gBin addV (gBin mulV (gVar 3) (gVar 3)) (gBin mulV (gC (.int 69621)) (gVar 2))) (gC (.int 7))) (gC (.int 2147483587))))
  (gSet 1 (gBin addV (gBin mulV (gVar 1) (gC (.int 2147483587))) (gVar 3))))))
  (gRet (gNewE [(gVar 1)])))))
noncomputable def F__law_pot : Fn := fun xs st => allR (g__law_pot (begin 4 1 xs) st)
theorem fmod_pos {a b : Int} (h : 0 < b) : a.fmod b = a % b := Int.fmod_eq_emod_of_nonneg _ (by omega)
theorem fmod_sz {a b : Int} {n : Nat} (h : 0 < b) (hb : Sz n b) : Sz n (a.fmod b) := by
  rw [fmod_pos h]
  have h1 := Int.emod_nonneg a (show b ≠ 0 by omega)
  have h2 := Int.emod_lt_of_pos a h
  exact Sz.le hb (by omega)
noncomputable abbrev potTurn : GS := (gSeq (gSet 3 (gBin modV (gBin mulV (gBin addV (gBin addV (gBin modV (gVar 0) (gC (.int 2147483629))) (gBin mulV (gC (.int 7919)) (gVar 2))) (gC (.int 1))) (gC (.int 48271))) (gC (.int 2147483647))))
  (gSeq (gSet 3 (gBin modV (gBin addV (gBin addV (gBin mulV (gVar 3) (gVar 3)) (gBin mulV (gC (.int 69621)) (gVar 2))) (gC (.int 7))) (gC (.int 2147483587))))
  (gSet 1 (gBin addV (gBin mulV (gVar 1) (gC (.int 2147483587))) (gVar 3)))))
theorem sz_lit {n : Nat} {i : Int} (h : i.natAbs < 2 ^ n) : Sz n i := h
theorem pot_turn {c x : Int} {k a : Nat} {m : Option PV} {st : List SO} (hk : k < 64) (hx : Sz a x) (ha : a ≤ 100000) :
    ∃ y z, potTurn [some (.int c), some (.int x), some (.int (0 + (k : Nat))), m] st = .nx [some (.int c), some (.int y), some (.int (0 + (k : Nat))), some (.int z)] st ∧ Sz (a + 32) y := by
  have k7 : Sz 7 (0 + (k : Nat) : Int) := by unfold Sz; omega
  have q1 : Sz 31 (c.fmod 2147483629) := fmod_sz (by decide) (sz_lit (by decide))
  have m1 : MulOk 7919 (0 + (k : Nat)) := (sz_lit (n := 13) (by decide)).mulOk k7 (by omega)
  have q2 : Sz 34 (c.fmod 2147483629 + 7919 * (0 + (k : Nat)) + 1) := (((q1.mono (show 31 ≤ 32 by omega)).addm (((sz_lit (n := 13) (by decide)).mul k7).mono (by omega))).addm (sz_lit (by decide)))
  have m2 : MulOk (c.fmod 2147483629 + 7919 * (0 + (k : Nat)) + 1) 48271 := q2.mulOk (m := 16) (sz_lit (by decide)) (by omega)
  have q3 : Sz 31 (((c.fmod 2147483629 + 7919 * (0 + (k : Nat)) + 1) * 48271).fmod 2147483647) := fmod_sz (by decide) (sz_lit (by decide))
  have m3 := q3.mulOk q3 (by omega)
  have m4 : MulOk 69621 (0 + (k : Nat)) := (sz_lit (n := 17) (by decide)).mulOk k7 (by omega)
  have m5 : MulOk x 2147483587 := hx.mulOk (m := 31) (sz_lit (by decide)) (by omega)
  refine ⟨x * 2147483587 + (((c.fmod 2147483629 + 7919 * (0 + (k : Nat)) + 1) * 48271).fmod 2147483647 * ((c.fmod 2147483629 + 7919 * (0 + (k : Nat)) + 1) * 48271).fmod 2147483647 + 69621 * (0 + (k : Nat)) + 7).fmod 2147483587,
    (((c.fmod 2147483629 + 7919 * (0 + (k : Nat)) + 1) * 48271).fmod 2147483647 * ((c.fmod 2147483629 + 7919 * (0 + (k : Nat)) + 1) * 48271).fmod 2147483647 + 69621 * (0 + (k : Nat)) + 7).fmod 2147483587, ?_, ?_⟩
  · simp only [potTurn, gSlN_eq, slN_r, slN_l, slNK_s, gRevN_eq, revN_r, revNK_s, tupleV_r, tupleV_l, gCallV_eq, gLend_eq, isNotBV_b, gRep_eq, repR_r, gZip_eq, zipR_t, zipR_l, gTry_eq, tryK_nx, tryK_ret, begin_eq, allR_nx, allR_ret, allR_exc, gSkip_eq, gSeq_eq, seqK_nx, seqK_ret, seqK_exc, toS_ok, toS_exc, toST_ok, toST_exc, toSL_ok, toSL_exc, gRet_eq, gAsg_eq, gSet_eq, gExpr_eq, gIfS_eq, gRaise_eq, gBin_eq, gUn_eq, gVar_eq, slotR_some, gC_eq, gArgs_nil, gArgs_cons, gTupE_eq, gLstE_eq, gNewE_eq, gCall_eq, gBi_eq, gB_eq, asB_bl, gAnd_eq, gOr_eq, gNot_eq, gVT_eq, gIf_eq, gChain_eq, chK_t, chK_f, chK_b, bnd_ok, bnd_exc, oo_some, gTo_eq, toK_some, tgName_eq, tgNil_eq, tgCons_eq, tgTup_eq, bind_some, gPar_eq, gCat_eq, catR_r, listV_t, listV_l, blsOf_nil, blsOf_cons, allV_l, isNV_d, notNV_d, parK_ok, parK_exc, gStore_eq, stK_some, gMeth_eq, gFor_eq, gRng1_eq, asI_i, gItL_eq, gItT_eq, asLst_l, asTup_t, addV_ii, subV_ii, mulV_ii, fdivV_ii, modV_ii, shlV_ii, pw6, pw9, pw18, pw19, pw20, pw25, pw30, pw39, ltV_ii, leV_ii, gtV_ii, geV_ii, negV_i, isNV_n, isNV_t, isNV_l, isNV_i, isNV_s, isNV_r, isNV_b, notNV_n, notNV_t, notNV_l, notNV_i, notNV_s, notNV_r, notNV_b, ixV_t, ixV_l, ixV_r, lenV_t, lenV_l, lenV_r, absV_i, max2V_ii, min2V_ii, bitsV_i, setIV_r, setK_some, setL_some, appendM_r, appK_some, appN_ok, isT_r, isK_l, lstK_some, tyK_l, isT_s, isiV_eq, tyN_int, tyN_bl, tyN_non, tyN_str, tyN_tup, tyN_lst, tyN_dct, tyN_r, kk_int_bool, kitK_t, kk_int_str, kk_int_tuple, kk_int_list, kk_int_dict, kk_int_NoneType, kk_bool_int, kk_bool_str, kk_bool_tuple, kk_bool_list, kk_bool_dict, kk_bool_NoneType, kk_str_int, kk_str_bool, kk_str_tuple, kk_str_list, kk_str_dict, kk_str_NoneType, kk_tuple_int, kk_tuple_bool, kk_tuple_str, kk_tuple_list, kk_tuple_dict, kk_tuple_NoneType, kk_list_int, kk_list_bool, kk_list_str, kk_list_tuple, kk_list_dict, kk_list_NoneType, kk_dict_int, kk_dict_bool, kk_dict_str, kk_dict_tuple, kk_dict_list, kk_dict_NoneType, eqV_int, neV_int, isBV_b, neV_bl, eqV_bl, eqV_ii, neV_ii, isNV_fr, notNV_fr, ixV_fr0, ixV_fr1, eqV_fr, neV_fr, int1V_b, int1V_i, ixV_hp0, ixV_hp1, isNV_hp, eqV_hp, neV_hp, tyN_fr, lenV_fr, at0, at1, at2, at3, at4, at5, ixN0, ixN1, List.map_cons, List.map_nil, List.replicate, List.cons_append, List.nil_append, List.getElem?_cons_zero, List.getElem?_cons_succ, List.set_cons_zero, List.set_cons_succ, Bool.not_true, Bool.not_false, Bool.false_eq_true, if_true, if_false, ite_true, ite_false, reduceIte, Nat.reduceSub, Nat.reduceAdd, ne_eq, Int.cast_ofNat_Int, Int.reduceBEq, Int.reduceLT, Int.reduceLE, Int.reduceEq, Int.reduceNeg, Int.reduceMul, Int.reduceAdd, Int.reduceSub, decide_true, decide_false, List.length_cons, List.length_nil, beq_self_eq_true, not_false_eq_true, not_true_eq_false, m1, m2, m3, m4, m5]
  · exact ((hx.mul (sz_lit (n := 31) (by decide))).addm ((fmod_sz (n := 31) (by decide) (sz_lit (by decide))).mono (by omega)))
theorem pot_loop {c : Int} : ∀ (ks : List Nat) (x : Int) (a : Nat) (m j : Option PV) (st : List SO), (∀ k ∈ ks, k < 64) → Sz a x → a + 32 * ks.length ≤ 100000 →
    ∃ (y : Int) (j' m' : Option PV), forg (tgName 2) potTurn (ks.map fun i => .int (0 + (i : Nat))) [some (.int c), some (.int x), j, m] st = .nx [some (.int c), some (.int y), j', m'] st
  | [], x, a, m, j, st, _, _, _ => ⟨x, j, m, rfl⟩
  | k :: ks, x, a, m, j, st, hk, hx, ha => by
    have ha' : a + 32 * (ks.length + 1) ≤ 100000 := ha
    obtain ⟨y, z, e, hy⟩ := pot_turn (c := c) (m := m) (st := st) (hk k List.mem_cons_self) hx (by omega)
    obtain ⟨y2, j2, m2, e2⟩ := pot_loop (c := c) ks y (a + 32) (some (.int z)) (some (.int (0 + (k : Nat)))) st (fun i hi => hk i (List.mem_cons_of_mem _ hi)) hy (by omega)
    refine ⟨y2, j2, m2, ?_⟩
    show (match tgName 2 (PV.int (0 + (k : Nat))) [some (.int c), some (.int x), j, m] with | some ρ1 => (match potTurn ρ1 st with | .nx ρ2 st2 => forg (tgName 2) potTurn (ks.map fun i => .int (0 + (i : Nat))) ρ2 st2 | r => r) | none => .bad) = _
    have e0 : tgName 2 (PV.int (0 + (k : Nat))) [some (.int c), some (.int x), j, m] = some [some (.int c), some (.int x), some (.int (0 + (k : Nat))), m] := rfl
    rw [e0]
    show (match potTurn [some (.int c), some (.int x), some (.int (0 + (k : Nat))), m] st with | .nx ρ2 st2 => forg (tgName 2) potTurn (ks.map fun i => .int (0 + (i : Nat))) ρ2 st2 | r => r) = _
    rw [e]
    exact e2
theorem pot_ok' {c : Int} {st : List SO} : ∃ n, F__law_pot [.int c] st = .ok (.ref st.length) (st ++ [.lst [.int n]]) := by
  obtain ⟨y, j', m', e⟩ := pot_loop (c := c) (List.range 64) 0 1 none none st (fun k hk => List.mem_range.mp hk) (sz_lit (by decide)) (by decide)
  have er : rng 0 64 = (List.range 64).map fun i => PV.int (0 + (i : Nat)) := rfl
  by_cases h : 1000000000000000000 ≤ c
  · exact ⟨c - 1000000000000000000, by simp only [F__law_pot, g__law_pot, gSlN_eq, slN_r, slN_l, slNK_s, gRevN_eq, revN_r, revNK_s, tupleV_r, tupleV_l, gCallV_eq, gLend_eq, isNotBV_b, gRep_eq, repR_r, gZip_eq, zipR_t, zipR_l, gTry_eq, tryK_nx, tryK_ret, begin_eq, allR_nx, allR_ret, allR_exc, gSkip_eq, gSeq_eq, seqK_nx, seqK_ret, seqK_exc, toS_ok, toS_exc, toST_ok, toST_exc, toSL_ok, toSL_exc, gRet_eq, gAsg_eq, gSet_eq, gExpr_eq, gIfS_eq, gRaise_eq, gBin_eq, gUn_eq, gVar_eq, slotR_some, gC_eq, gArgs_nil, gArgs_cons, gTupE_eq, gLstE_eq, gNewE_eq, gCall_eq, gBi_eq, gB_eq, asB_bl, gAnd_eq, gOr_eq, gNot_eq, gVT_eq, gIf_eq, gChain_eq, chK_t, chK_f, chK_b, bnd_ok, bnd_exc, oo_some, gTo_eq, toK_some, tgName_eq, tgNil_eq, tgCons_eq, tgTup_eq, bind_some, gPar_eq, gCat_eq, catR_r, listV_t, listV_l, blsOf_nil, blsOf_cons, allV_l, isNV_d, notNV_d, parK_ok, parK_exc, gStore_eq, stK_some, gMeth_eq, gFor_eq, gRng1_eq, asI_i, gItL_eq, gItT_eq, asLst_l, asTup_t, addV_ii, subV_ii, mulV_ii, fdivV_ii, modV_ii, shlV_ii, pw6, pw9, pw18, pw19, pw20, pw25, pw30, pw39, ltV_ii, leV_ii, gtV_ii, geV_ii, negV_i, isNV_n, isNV_t, isNV_l, isNV_i, isNV_s, isNV_r, isNV_b, notNV_n, notNV_t, notNV_l, notNV_i, notNV_s, notNV_r, notNV_b, ixV_t, ixV_l, ixV_r, lenV_t, lenV_l, lenV_r, absV_i, max2V_ii, min2V_ii, bitsV_i, setIV_r, setK_some, setL_some, appendM_r, appK_some, appN_ok, isT_r, isK_l, lstK_some, tyK_l, isT_s, isiV_eq, tyN_int, tyN_bl, tyN_non, tyN_str, tyN_tup, tyN_lst, tyN_dct, tyN_r, kk_int_bool, kitK_t, kk_int_str, kk_int_tuple, kk_int_list, kk_int_dict, kk_int_NoneType, kk_bool_int, kk_bool_str, kk_bool_tuple, kk_bool_list, kk_bool_dict, kk_bool_NoneType, kk_str_int, kk_str_bool, kk_str_tuple, kk_str_list, kk_str_dict, kk_str_NoneType, kk_tuple_int, kk_tuple_bool, kk_tuple_str, kk_tuple_list, kk_tuple_dict, kk_tuple_NoneType, kk_list_int, kk_list_bool, kk_list_str, kk_list_tuple, kk_list_dict, kk_list_NoneType, kk_dict_int, kk_dict_bool, kk_dict_str, kk_dict_tuple, kk_dict_list, kk_dict_NoneType, eqV_int, neV_int, isBV_b, neV_bl, eqV_bl, eqV_ii, neV_ii, isNV_fr, notNV_fr, ixV_fr0, ixV_fr1, eqV_fr, neV_fr, int1V_b, int1V_i, ixV_hp0, ixV_hp1, isNV_hp, eqV_hp, neV_hp, tyN_fr, lenV_fr, at0, at1, at2, at3, at4, at5, ixN0, ixN1, List.map_cons, List.map_nil, List.replicate, List.cons_append, List.nil_append, List.getElem?_cons_zero, List.getElem?_cons_succ, List.set_cons_zero, List.set_cons_succ, Bool.not_true, Bool.not_false, Bool.false_eq_true, if_true, if_false, ite_true, ite_false, reduceIte, Nat.reduceSub, Nat.reduceAdd, ne_eq, Int.cast_ofNat_Int, Int.reduceBEq, Int.reduceLT, Int.reduceLE, Int.reduceEq, Int.reduceNeg, Int.reduceMul, Int.reduceAdd, Int.reduceSub, decide_true, decide_false, List.length_cons, List.length_nil, beq_self_eq_true, not_false_eq_true, not_true_eq_false, h]⟩
  · refine ⟨y, ?_⟩
    have r1 : RngOk 64 := ⟨by decide, by decide⟩
    have r3 : (64 : Int).toNat = 64 := rfl
    simp only [F__law_pot, g__law_pot, gSlN_eq, slN_r, slN_l, slNK_s, gRevN_eq, revN_r, revNK_s, tupleV_r, tupleV_l, gCallV_eq, gLend_eq, isNotBV_b, gRep_eq, repR_r, gZip_eq, zipR_t, zipR_l, gTry_eq, tryK_nx, tryK_ret, begin_eq, allR_nx, allR_ret, allR_exc, gSkip_eq, gSeq_eq, seqK_nx, seqK_ret, seqK_exc, toS_ok, toS_exc, toST_ok, toST_exc, toSL_ok, toSL_exc, gRet_eq, gAsg_eq, gSet_eq, gExpr_eq, gIfS_eq, gRaise_eq, gBin_eq, gUn_eq, gVar_eq, slotR_some, gC_eq, gArgs_nil, gArgs_cons, gTupE_eq, gLstE_eq, gNewE_eq, gCall_eq, gBi_eq, gB_eq, asB_bl, gAnd_eq, gOr_eq, gNot_eq, gVT_eq, gIf_eq, gChain_eq, chK_t, chK_f, chK_b, bnd_ok, bnd_exc, oo_some, gTo_eq, toK_some, tgName_eq, tgNil_eq, tgCons_eq, tgTup_eq, bind_some, gPar_eq, gCat_eq, catR_r, listV_t, listV_l, blsOf_nil, blsOf_cons, allV_l, isNV_d, notNV_d, parK_ok, parK_exc, gStore_eq, stK_some, gMeth_eq, gFor_eq, gRng1_eq, asI_i, gItL_eq, gItT_eq, asLst_l, asTup_t, addV_ii, subV_ii, mulV_ii, fdivV_ii, modV_ii, shlV_ii, pw6, pw9, pw18, pw19, pw20, pw25, pw30, pw39, ltV_ii, leV_ii, gtV_ii, geV_ii, negV_i, isNV_n, isNV_t, isNV_l, isNV_i, isNV_s, isNV_r, isNV_b, notNV_n, notNV_t, notNV_l, notNV_i, notNV_s, notNV_r, notNV_b, ixV_t, ixV_l, ixV_r, lenV_t, lenV_l, lenV_r, absV_i, max2V_ii, min2V_ii, bitsV_i, setIV_r, setK_some, setL_some, appendM_r, appK_some, appN_ok, isT_r, isK_l, lstK_some, tyK_l, isT_s, isiV_eq, tyN_int, tyN_bl, tyN_non, tyN_str, tyN_tup, tyN_lst, tyN_dct, tyN_r, kk_int_bool, kitK_t, kk_int_str, kk_int_tuple, kk_int_list, kk_int_dict, kk_int_NoneType, kk_bool_int, kk_bool_str, kk_bool_tuple, kk_bool_list, kk_bool_dict, kk_bool_NoneType, kk_str_int, kk_str_bool, kk_str_tuple, kk_str_list, kk_str_dict, kk_str_NoneType, kk_tuple_int, kk_tuple_bool, kk_tuple_str, kk_tuple_list, kk_tuple_dict, kk_tuple_NoneType, kk_list_int, kk_list_bool, kk_list_str, kk_list_tuple, kk_list_dict, kk_list_NoneType, kk_dict_int, kk_dict_bool, kk_dict_str, kk_dict_tuple, kk_dict_list, kk_dict_NoneType, eqV_int, neV_int, isBV_b, neV_bl, eqV_bl, eqV_ii, neV_ii, isNV_fr, notNV_fr, ixV_fr0, ixV_fr1, eqV_fr, neV_fr, int1V_b, int1V_i, ixV_hp0, ixV_hp1, isNV_hp, eqV_hp, neV_hp, tyN_fr, lenV_fr, at0, at1, at2, at3, at4, at5, ixN0, ixN1, List.map_cons, List.map_nil, List.replicate, List.cons_append, List.nil_append, List.getElem?_cons_zero, List.getElem?_cons_succ, List.set_cons_zero, List.set_cons_succ, Bool.not_true, Bool.not_false, Bool.false_eq_true, if_true, if_false, ite_true, ite_false, reduceIte, Nat.reduceSub, Nat.reduceAdd, ne_eq, Int.cast_ofNat_Int, Int.reduceBEq, Int.reduceLT, Int.reduceLE, Int.reduceEq, Int.reduceNeg, Int.reduceMul, Int.reduceAdd, Int.reduceSub, decide_true, decide_false, List.length_cons, List.length_nil, beq_self_eq_true, not_false_eq_true, not_true_eq_false, h, gFor, gRng1_eq, asI_i, r1, r3, er]
    simp only [e, gSlN_eq, slN_r, slN_l, slNK_s, gRevN_eq, revN_r, revNK_s, tupleV_r, tupleV_l, gCallV_eq, gLend_eq, isNotBV_b, gRep_eq, repR_r, gZip_eq, zipR_t, zipR_l, gTry_eq, tryK_nx, tryK_ret, begin_eq, allR_nx, allR_ret, allR_exc, gSkip_eq, gSeq_eq, seqK_nx, seqK_ret, seqK_exc, toS_ok, toS_exc, toST_ok, toST_exc, toSL_ok, toSL_exc, gRet_eq, gAsg_eq, gSet_eq, gExpr_eq, gIfS_eq, gRaise_eq, gBin_eq, gUn_eq, gVar_eq, slotR_some, gC_eq, gArgs_nil, gArgs_cons, gTupE_eq, gLstE_eq, gNewE_eq, gCall_eq, gBi_eq, gB_eq, asB_bl, gAnd_eq, gOr_eq, gNot_eq, gVT_eq, gIf_eq, gChain_eq, chK_t, chK_f, chK_b, bnd_ok, bnd_exc, oo_some, gTo_eq, toK_some, tgName_eq, tgNil_eq, tgCons_eq, tgTup_eq, bind_some, gPar_eq, gCat_eq, catR_r, listV_t, listV_l, blsOf_nil, blsOf_cons, allV_l, isNV_d, notNV_d, parK_ok, parK_exc, gStore_eq, stK_some, gMeth_eq, gFor_eq, gRng1_eq, asI_i, gItL_eq, gItT_eq, asLst_l, asTup_t, addV_ii, subV_ii, mulV_ii, fdivV_ii, modV_ii, shlV_ii, pw6, pw9, pw18, pw19, pw20, pw25, pw30, pw39, ltV_ii, leV_ii, gtV_ii, geV_ii, negV_i, isNV_n, isNV_t, isNV_l, isNV_i, isNV_s, isNV_r, isNV_b, notNV_n, notNV_t, notNV_l, notNV_i, notNV_s, notNV_r, notNV_b, ixV_t, ixV_l, ixV_r, lenV_t, lenV_l, lenV_r, absV_i, max2V_ii, min2V_ii, bitsV_i, setIV_r, setK_some, setL_some, appendM_r, appK_some, appN_ok, isT_r, isK_l, lstK_some, tyK_l, isT_s, isiV_eq, tyN_int, tyN_bl, tyN_non, tyN_str, tyN_tup, tyN_lst, tyN_dct, tyN_r, kk_int_bool, kitK_t, kk_int_str, kk_int_tuple, kk_int_list, kk_int_dict, kk_int_NoneType, kk_bool_int, kk_bool_str, kk_bool_tuple, kk_bool_list, kk_bool_dict, kk_bool_NoneType, kk_str_int, kk_str_bool, kk_str_tuple, kk_str_list, kk_str_dict, kk_str_NoneType, kk_tuple_int, kk_tuple_bool, kk_tuple_str, kk_tuple_list, kk_tuple_dict, kk_tuple_NoneType, kk_list_int, kk_list_bool, kk_list_str, kk_list_tuple, kk_list_dict, kk_list_NoneType, kk_dict_int, kk_dict_bool, kk_dict_str, kk_dict_tuple, kk_dict_list, kk_dict_NoneType, eqV_int, neV_int, isBV_b, neV_bl, eqV_bl, eqV_ii, neV_ii, isNV_fr, notNV_fr, ixV_fr0, ixV_fr1, eqV_fr, neV_fr, int1V_b, int1V_i, ixV_hp0, ixV_hp1, isNV_hp, eqV_hp, neV_hp, tyN_fr, lenV_fr, at0, at1, at2, at3, at4, at5, ixN0, ixN1, List.map_cons, List.map_nil, List.replicate, List.cons_append, List.nil_append, List.getElem?_cons_zero, List.getElem?_cons_succ, List.set_cons_zero, List.set_cons_succ, Bool.not_true, Bool.not_false, Bool.false_eq_true, if_true, if_false, ite_true, ite_false, reduceIte, Nat.reduceSub, Nat.reduceAdd, ne_eq, Int.cast_ofNat_Int, Int.reduceBEq, Int.reduceLT, Int.reduceLE, Int.reduceEq, Int.reduceNeg, Int.reduceMul, Int.reduceAdd, Int.reduceSub, decide_true, decide_false, List.length_cons, List.length_nil, beq_self_eq_true, not_false_eq_true, not_true_eq_false]
theorem pot_ok (c : Int) (st : List SO) : ∃ n, F__law_pot [.int c] st = .ok (.ref st.length) (PS (st ++ [.lst []]) st.length n) := by
  obtain ⟨n, e⟩ := pot_ok' (c := c) (st := st)
  exact ⟨n, by rw [e, PS_new]⟩

noncomputable def g__law_cell_at : GS :=
  (gSeq (gIfS (gB (gBin ltV (gVar 1) (gBi lenV [(gVar 0)]))) (gRet (gBin ixV (gVar 0) (gVar 1))) gSkip)
  (gRet (gC (.int 0))))
noncomputable def F__law_cell_at : Fn := fun xs st => allR (g__law_cell_at (begin 2 2 xs) st)
theorem cell_ok {ns : List Int} {k : Nat} {st : List SO} : ∃ z, F__law_cell_at [.lst (ns.map .int), .int k] st = .ok (.int z) st := by
  by_cases h : k < ns.length
  · refine ⟨ns[k], ?_⟩
    have hk : (k : Int) < ((ns.map PV.int).length : Nat) := by rw [List.length_map]; omega
    have e : atI (ns.map PV.int) (k : Int) = some (.int ns[k]) := atN (by rw [List.getElem?_map]; simp [h])
    simp only [F__law_cell_at, g__law_cell_at, gSlN_eq, slN_r, slN_l, slNK_s, gRevN_eq, revN_r, revNK_s, tupleV_r, tupleV_l, gCallV_eq, gLend_eq, isNotBV_b, gRep_eq, repR_r, gZip_eq, zipR_t, zipR_l, gTry_eq, tryK_nx, tryK_ret, begin_eq, allR_nx, allR_ret, allR_exc, gSkip_eq, gSeq_eq, seqK_nx, seqK_ret, seqK_exc, toS_ok, toS_exc, toST_ok, toST_exc, toSL_ok, toSL_exc, gRet_eq, gAsg_eq, gSet_eq, gExpr_eq, gIfS_eq, gRaise_eq, gBin_eq, gUn_eq, gVar_eq, slotR_some, gC_eq, gArgs_nil, gArgs_cons, gTupE_eq, gLstE_eq, gNewE_eq, gCall_eq, gBi_eq, gB_eq, asB_bl, gAnd_eq, gOr_eq, gNot_eq, gVT_eq, gIf_eq, gChain_eq, chK_t, chK_f, chK_b, bnd_ok, bnd_exc, oo_some, gTo_eq, toK_some, tgName_eq, tgNil_eq, tgCons_eq, tgTup_eq, bind_some, gPar_eq, gCat_eq, catR_r, listV_t, listV_l, blsOf_nil, blsOf_cons, allV_l, isNV_d, notNV_d, parK_ok, parK_exc, gStore_eq, stK_some, gMeth_eq, gFor_eq, gRng1_eq, asI_i, gItL_eq, gItT_eq, asLst_l, asTup_t, addV_ii, subV_ii, mulV_ii, fdivV_ii, modV_ii, shlV_ii, pw6, pw9, pw18, pw19, pw20, pw25, pw30, pw39, ltV_ii, leV_ii, gtV_ii, geV_ii, negV_i, isNV_n, isNV_t, isNV_l, isNV_i, isNV_s, isNV_r, isNV_b, notNV_n, notNV_t, notNV_l, notNV_i, notNV_s, notNV_r, notNV_b, ixV_t, ixV_l, ixV_r, lenV_t, lenV_l, lenV_r, absV_i, max2V_ii, min2V_ii, bitsV_i, setIV_r, setK_some, setL_some, appendM_r, appK_some, appN_ok, isT_r, isK_l, lstK_some, tyK_l, isT_s, isiV_eq, tyN_int, tyN_bl, tyN_non, tyN_str, tyN_tup, tyN_lst, tyN_dct, tyN_r, kk_int_bool, kitK_t, kk_int_str, kk_int_tuple, kk_int_list, kk_int_dict, kk_int_NoneType, kk_bool_int, kk_bool_str, kk_bool_tuple, kk_bool_list, kk_bool_dict, kk_bool_NoneType, kk_str_int, kk_str_bool, kk_str_tuple, kk_str_list, kk_str_dict, kk_str_NoneType, kk_tuple_int, kk_tuple_bool, kk_tuple_str, kk_tuple_list, kk_tuple_dict, kk_tuple_NoneType, kk_list_int, kk_list_bool, kk_list_str, kk_list_tuple, kk_list_dict, kk_list_NoneType, kk_dict_int, kk_dict_bool, kk_dict_str, kk_dict_tuple, kk_dict_list, kk_dict_NoneType, eqV_int, neV_int, isBV_b, neV_bl, eqV_bl, eqV_ii, neV_ii, isNV_fr, notNV_fr, ixV_fr0, ixV_fr1, eqV_fr, neV_fr, int1V_b, int1V_i, ixV_hp0, ixV_hp1, isNV_hp, eqV_hp, neV_hp, tyN_fr, lenV_fr, at0, at1, at2, at3, at4, at5, ixN0, ixN1, List.map_cons, List.map_nil, List.replicate, List.cons_append, List.nil_append, List.getElem?_cons_zero, List.getElem?_cons_succ, List.set_cons_zero, List.set_cons_succ, Bool.not_true, Bool.not_false, Bool.false_eq_true, if_true, if_false, ite_true, ite_false, reduceIte, Nat.reduceSub, Nat.reduceAdd, ne_eq, Int.cast_ofNat_Int, Int.reduceBEq, Int.reduceLT, Int.reduceLE, Int.reduceEq, Int.reduceNeg, Int.reduceMul, Int.reduceAdd, Int.reduceSub, decide_true, decide_false, List.length_cons, List.length_nil, beq_self_eq_true, not_false_eq_true, not_true_eq_false, hk, decide_true, e]
  · refine ⟨0, ?_⟩
    have hk : ¬ (k : Int) < ((ns.map PV.int).length : Nat) := by rw [List.length_map]; omega
    simp only [F__law_cell_at, g__law_cell_at, gSlN_eq, slN_r, slN_l, slNK_s, gRevN_eq, revN_r, revNK_s, tupleV_r, tupleV_l, gCallV_eq, gLend_eq, isNotBV_b, gRep_eq, repR_r, gZip_eq, zipR_t, zipR_l, gTry_eq, tryK_nx, tryK_ret, begin_eq, allR_nx, allR_ret, allR_exc, gSkip_eq, gSeq_eq, seqK_nx, seqK_ret, seqK_exc, toS_ok, toS_exc, toST_ok, toST_exc, toSL_ok, toSL_exc, gRet_eq, gAsg_eq, gSet_eq, gExpr_eq, gIfS_eq, gRaise_eq, gBin_eq, gUn_eq, gVar_eq, slotR_some, gC_eq, gArgs_nil, gArgs_cons, gTupE_eq, gLstE_eq, gNewE_eq, gCall_eq, gBi_eq, gB_eq, asB_bl, gAnd_eq, gOr_eq, gNot_eq, gVT_eq, gIf_eq, gChain_eq, chK_t, chK_f, chK_b, bnd_ok, bnd_exc, oo_some, gTo_eq, toK_some, tgName_eq, tgNil_eq, tgCons_eq, tgTup_eq, bind_some, gPar_eq, gCat_eq, catR_r, listV_t, listV_l, blsOf_nil, blsOf_cons, allV_l, isNV_d, notNV_d, parK_ok, parK_exc, gStore_eq, stK_some, gMeth_eq, gFor_eq, gRng1_eq, asI_i, gItL_eq, gItT_eq, asLst_l, asTup_t, addV_ii, subV_ii, mulV_ii, fdivV_ii, modV_ii, shlV_ii, pw6, pw9, pw18, pw19, pw20, pw25, pw30, pw39, ltV_ii, leV_ii, gtV_ii, geV_ii, negV_i, isNV_n, isNV_t, isNV_l, isNV_i, isNV_s, isNV_r, isNV_b, notNV_n, notNV_t, notNV_l, notNV_i, notNV_s, notNV_r, notNV_b, ixV_t, ixV_l, ixV_r, lenV_t, lenV_l, lenV_r, absV_i, max2V_ii, min2V_ii, bitsV_i, setIV_r, setK_some, setL_some, appendM_r, appK_some, appN_ok, isT_r, isK_l, lstK_some, tyK_l, isT_s, isiV_eq, tyN_int, tyN_bl, tyN_non, tyN_str, tyN_tup, tyN_lst, tyN_dct, tyN_r, kk_int_bool, kitK_t, kk_int_str, kk_int_tuple, kk_int_list, kk_int_dict, kk_int_NoneType, kk_bool_int, kk_bool_str, kk_bool_tuple, kk_bool_list, kk_bool_dict, kk_bool_NoneType, kk_str_int, kk_str_bool, kk_str_tuple, kk_str_list, kk_str_dict, kk_str_NoneType, kk_tuple_int, kk_tuple_bool, kk_tuple_str, kk_tuple_list, kk_tuple_dict, kk_tuple_NoneType, kk_list_int, kk_list_bool, kk_list_str, kk_list_tuple, kk_list_dict, kk_list_NoneType, kk_dict_int, kk_dict_bool, kk_dict_str, kk_dict_tuple, kk_dict_list, kk_dict_NoneType, eqV_int, neV_int, isBV_b, neV_bl, eqV_bl, eqV_ii, neV_ii, isNV_fr, notNV_fr, ixV_fr0, ixV_fr1, eqV_fr, neV_fr, int1V_b, int1V_i, ixV_hp0, ixV_hp1, isNV_hp, eqV_hp, neV_hp, tyN_fr, lenV_fr, at0, at1, at2, at3, at4, at5, ixN0, ixN1, List.map_cons, List.map_nil, List.replicate, List.cons_append, List.nil_append, List.getElem?_cons_zero, List.getElem?_cons_succ, List.set_cons_zero, List.set_cons_succ, Bool.not_true, Bool.not_false, Bool.false_eq_true, if_true, if_false, ite_true, ite_false, reduceIte, Nat.reduceSub, Nat.reduceAdd, ne_eq, Int.cast_ofNat_Int, Int.reduceBEq, Int.reduceLT, Int.reduceLE, Int.reduceEq, Int.reduceNeg, Int.reduceMul, Int.reduceAdd, Int.reduceSub, decide_true, decide_false, List.length_cons, List.length_nil, beq_self_eq_true, not_false_eq_true, not_true_eq_false, hk, decide_false]

noncomputable def g__law_take : GS :=
  (gSeq (gSet 2 (gBin modV (gBin ixV (gVar 0) (gC (.int 0))) (gVar 1)))
  (gSeq (gStore setIV (gBin fdivV (gBin ixV (gVar 0) (gC (.int 0))) (gVar 1)) (gVar 0) (gC (.int 0)))
  (gRet (gVar 2))))
noncomputable def F__law_take : Fn := fun xs st => allR (g__law_take (begin 3 2 xs) st)
theorem take_ok {st : List SO} {k : Nat} {n far : Int} (hk : st[k]? = some (.lst [.int n])) (hf : 0 < far) (hd : far < 2 ^ 8000) : F__law_take [.ref k, .int far] st = .ok (.int (n % far)) (st.set k (.lst [.int (n / far)])) := by
  have d : DivOk n far := divOk_of (b := 8000) (by omega) (by decide)
  have hne : ¬ far = 0 := by omega
  have e1 : n.fmod far = n % far := Int.fmod_eq_emod_of_nonneg _ (by omega)
  have e2 : n.fdiv far = n / far := Int.fdiv_eq_ediv_of_nonneg _ (by omega)
  simp only [F__law_take, g__law_take, gSlN_eq, slN_r, slN_l, slNK_s, gRevN_eq, revN_r, revNK_s, tupleV_r, tupleV_l, gCallV_eq, gLend_eq, isNotBV_b, gRep_eq, repR_r, gZip_eq, zipR_t, zipR_l, gTry_eq, tryK_nx, tryK_ret, begin_eq, allR_nx, allR_ret, allR_exc, gSkip_eq, gSeq_eq, seqK_nx, seqK_ret, seqK_exc, toS_ok, toS_exc, toST_ok, toST_exc, toSL_ok, toSL_exc, gRet_eq, gAsg_eq, gSet_eq, gExpr_eq, gIfS_eq, gRaise_eq, gBin_eq, gUn_eq, gVar_eq, slotR_some, gC_eq, gArgs_nil, gArgs_cons, gTupE_eq, gLstE_eq, gNewE_eq, gCall_eq, gBi_eq, gB_eq, asB_bl, gAnd_eq, gOr_eq, gNot_eq, gVT_eq, gIf_eq, gChain_eq, chK_t, chK_f, chK_b, bnd_ok, bnd_exc, oo_some, gTo_eq, toK_some, tgName_eq, tgNil_eq, tgCons_eq, tgTup_eq, bind_some, gPar_eq, gCat_eq, catR_r, listV_t, listV_l, blsOf_nil, blsOf_cons, allV_l, isNV_d, notNV_d, parK_ok, parK_exc, gStore_eq, stK_some, gMeth_eq, gFor_eq, gRng1_eq, asI_i, gItL_eq, gItT_eq, asLst_l, asTup_t, addV_ii, subV_ii, mulV_ii, fdivV_ii, modV_ii, shlV_ii, pw6, pw9, pw18, pw19, pw20, pw25, pw30, pw39, ltV_ii, leV_ii, gtV_ii, geV_ii, negV_i, isNV_n, isNV_t, isNV_l, isNV_i, isNV_s, isNV_r, isNV_b, notNV_n, notNV_t, notNV_l, notNV_i, notNV_s, notNV_r, notNV_b, ixV_t, ixV_l, ixV_r, lenV_t, lenV_l, lenV_r, absV_i, max2V_ii, min2V_ii, bitsV_i, setIV_r, setK_some, setL_some, appendM_r, appK_some, appN_ok, isT_r, isK_l, lstK_some, tyK_l, isT_s, isiV_eq, tyN_int, tyN_bl, tyN_non, tyN_str, tyN_tup, tyN_lst, tyN_dct, tyN_r, kk_int_bool, kitK_t, kk_int_str, kk_int_tuple, kk_int_list, kk_int_dict, kk_int_NoneType, kk_bool_int, kk_bool_str, kk_bool_tuple, kk_bool_list, kk_bool_dict, kk_bool_NoneType, kk_str_int, kk_str_bool, kk_str_tuple, kk_str_list, kk_str_dict, kk_str_NoneType, kk_tuple_int, kk_tuple_bool, kk_tuple_str, kk_tuple_list, kk_tuple_dict, kk_tuple_NoneType, kk_list_int, kk_list_bool, kk_list_str, kk_list_tuple, kk_list_dict, kk_list_NoneType, kk_dict_int, kk_dict_bool, kk_dict_str, kk_dict_tuple, kk_dict_list, kk_dict_NoneType, eqV_int, neV_int, isBV_b, neV_bl, eqV_bl, eqV_ii, neV_ii, isNV_fr, notNV_fr, ixV_fr0, ixV_fr1, eqV_fr, neV_fr, int1V_b, int1V_i, ixV_hp0, ixV_hp1, isNV_hp, eqV_hp, neV_hp, tyN_fr, lenV_fr, at0, at1, at2, at3, at4, at5, ixN0, ixN1, List.map_cons, List.map_nil, List.replicate, List.cons_append, List.nil_append, List.getElem?_cons_zero, List.getElem?_cons_succ, List.set_cons_zero, List.set_cons_succ, Bool.not_true, Bool.not_false, Bool.false_eq_true, if_true, if_false, ite_true, ite_false, reduceIte, Nat.reduceSub, Nat.reduceAdd, ne_eq, Int.cast_ofNat_Int, Int.reduceBEq, Int.reduceLT, Int.reduceLE, Int.reduceEq, Int.reduceNeg, Int.reduceMul, Int.reduceAdd, Int.reduceSub, decide_true, decide_false, List.length_cons, List.length_nil, beq_self_eq_true, not_false_eq_true, not_true_eq_false, hk, hne, not_false_eq_true, d, and_self, e1, e2, List.length_cons, List.length_nil]
theorem take_ps {st : List SO} {k : Nat} {n far : Int} (hk : k < st.length) (hf : 0 < far) (hd : far < 2 ^ 8000) : F__law_take [.ref k, .int far] (PS st k n) = .ok (.int (n % far)) (PS st k (n / far)) := by
  rw [take_ok (PS_at hk) hf hd, PS_set]
theorem mod_lt' {n far : Int} (h : 0 < far) : n % far < far := Int.emod_lt_of_pos n h
theorem mod_nn {n far : Int} (h : 0 < far) : 0 ≤ n % far := Int.emod_nonneg n (by omega)
theorem lit8000 {i : Int} (h : i < 2 ^ 200) : i < 2 ^ 8000 := Int.lt_of_lt_of_le h (by decide +kernel)

noncomputable def g__law_low : GS :=
  (gSeq (gPar 2 3 (gBi absV [(gVar 0)]) (gBi absV [(gVar 1)]))
  (gSeq (gWhile (muI 3) (gB (gBin gtV (gVar 3) (gC (.int 0)))) (gPar 2 3 (gVar 3) (gBin modV (gVar 2) (gVar 3))))
  (gSeq (gIfS (gB (gBin ltV (gVar 1) (gC (.int 0)))) (gSet 2 (gBin subV (gC (.int 0)) (gVar 2))) gSkip)
  (gRet (gTupE [(gBin fdivV (gVar 0) (gVar 2)), (gBin fdivV (gVar 1) (gVar 2))])))))
noncomputable def F__law_low : Fn := fun xs st => allR (g__law_low (begin 4 2 xs) st)
theorem llow_of {t b : Int} {st : List SO} (hb : b ≠ 0) (hd : DivOk t (Int.gcd t b)) (hd2 : DivOk b (Int.gcd t b)) (hd3 : DivOk t (-(Int.gcd t b : Int))) (hd4 : DivOk b (-(Int.gcd t b : Int))) : F__law_low [.int t, .int b] st = .ok (fr (Rat.divInt t b)) st := by
  have w := whl_gcd (i := 2) (j := 3) (by decide) (b.natAbs + 1) [some (.int t), some (.int b), some (.int t.natAbs), some (.int b.natAbs)] t.natAbs b.natAbs st rfl rfl (by omega)
  have e : Nat.gcd t.natAbs b.natAbs = Int.gcd t b := rfl
  have hg := gcd_pos_of (t := t) hb
  rw [e] at w
  simp only [F__law_low, g__law_low, gWhile, muI, gSlN_eq, slN_r, slN_l, slNK_s, gRevN_eq, revN_r, revNK_s, tupleV_r, tupleV_l, gCallV_eq, gLend_eq, isNotBV_b, gRep_eq, repR_r, gZip_eq, zipR_t, zipR_l, gTry_eq, tryK_nx, tryK_ret, begin_eq, allR_nx, allR_ret, allR_exc, gSkip_eq, gSeq_eq, seqK_nx, seqK_ret, seqK_exc, toS_ok, toS_exc, toST_ok, toST_exc, toSL_ok, toSL_exc, gRet_eq, gAsg_eq, gSet_eq, gExpr_eq, gIfS_eq, gRaise_eq, gBin_eq, gUn_eq, gVar_eq, slotR_some, gC_eq, gArgs_nil, gArgs_cons, gTupE_eq, gLstE_eq, gNewE_eq, gCall_eq, gBi_eq, gB_eq, asB_bl, gAnd_eq, gOr_eq, gNot_eq, gVT_eq, gIf_eq, gChain_eq, chK_t, chK_f, chK_b, bnd_ok, bnd_exc, oo_some, gTo_eq, toK_some, tgName_eq, tgNil_eq, tgCons_eq, tgTup_eq, bind_some, gPar_eq, gCat_eq, catR_r, listV_t, listV_l, blsOf_nil, blsOf_cons, allV_l, isNV_d, notNV_d, parK_ok, parK_exc, gStore_eq, stK_some, gMeth_eq, gFor_eq, gRng1_eq, asI_i, gItL_eq, gItT_eq, asLst_l, asTup_t, addV_ii, subV_ii, mulV_ii, fdivV_ii, modV_ii, shlV_ii, pw6, pw9, pw18, pw19, pw20, pw25, pw30, pw39, ltV_ii, leV_ii, gtV_ii, geV_ii, negV_i, isNV_n, isNV_t, isNV_l, isNV_i, isNV_s, isNV_r, isNV_b, notNV_n, notNV_t, notNV_l, notNV_i, notNV_s, notNV_r, notNV_b, ixV_t, ixV_l, ixV_r, lenV_t, lenV_l, lenV_r, absV_i, max2V_ii, min2V_ii, bitsV_i, setIV_r, setK_some, setL_some, appendM_r, appK_some, appN_ok, isT_r, isK_l, lstK_some, tyK_l, isT_s, isiV_eq, tyN_int, tyN_bl, tyN_non, tyN_str, tyN_tup, tyN_lst, tyN_dct, tyN_r, kk_int_bool, kitK_t, kk_int_str, kk_int_tuple, kk_int_list, kk_int_dict, kk_int_NoneType, kk_bool_int, kk_bool_str, kk_bool_tuple, kk_bool_list, kk_bool_dict, kk_bool_NoneType, kk_str_int, kk_str_bool, kk_str_tuple, kk_str_list, kk_str_dict, kk_str_NoneType, kk_tuple_int, kk_tuple_bool, kk_tuple_str, kk_tuple_list, kk_tuple_dict, kk_tuple_NoneType, kk_list_int, kk_list_bool, kk_list_str, kk_list_tuple, kk_list_dict, kk_list_NoneType, kk_dict_int, kk_dict_bool, kk_dict_str, kk_dict_tuple, kk_dict_list, kk_dict_NoneType, eqV_int, neV_int, isBV_b, neV_bl, eqV_bl, eqV_ii, neV_ii, isNV_fr, notNV_fr, ixV_fr0, ixV_fr1, eqV_fr, neV_fr, int1V_b, int1V_i, ixV_hp0, ixV_hp1, isNV_hp, eqV_hp, neV_hp, tyN_fr, lenV_fr, at0, at1, at2, at3, at4, at5, ixN0, ixN1, List.map_cons, List.map_nil, List.replicate, List.cons_append, List.nil_append, List.getElem?_cons_zero, List.getElem?_cons_succ, List.set_cons_zero, List.set_cons_succ, Bool.not_true, Bool.not_false, Bool.false_eq_true, if_true, if_false, ite_true, ite_false, reduceIte, Nat.reduceSub, Nat.reduceAdd, ne_eq, Int.cast_ofNat_Int, Int.reduceBEq, Int.reduceLT, Int.reduceLE, Int.reduceEq, Int.reduceNeg, Int.reduceMul, Int.reduceAdd, Int.reduceSub, decide_true, decide_false, List.length_cons, List.length_nil, beq_self_eq_true, not_false_eq_true, not_true_eq_false, Int.natAbs_natCast] at w ⊢
  simp only [w]
  have l1 := low_num (t := t) hb
  have l2 := low_den (t := t) hb
  by_cases h : b < 0
  · rw [if_pos h] at l1 l2
    have hne : ¬ (0 - (Int.gcd t b : Int)) = 0 := by omega
    have z : 0 - (Int.gcd t b : Int) = -(Int.gcd t b : Int) := by omega
    have hne' : ¬ (-(Int.gcd t b : Int)) = 0 := by omega
    simp only [gSlN_eq, slN_r, slN_l, slNK_s, gRevN_eq, revN_r, revNK_s, tupleV_r, tupleV_l, gCallV_eq, gLend_eq, isNotBV_b, gRep_eq, repR_r, gZip_eq, zipR_t, zipR_l, gTry_eq, tryK_nx, tryK_ret, begin_eq, allR_nx, allR_ret, allR_exc, gSkip_eq, gSeq_eq, seqK_nx, seqK_ret, seqK_exc, toS_ok, toS_exc, toST_ok, toST_exc, toSL_ok, toSL_exc, gRet_eq, gAsg_eq, gSet_eq, gExpr_eq, gIfS_eq, gRaise_eq, gBin_eq, gUn_eq, gVar_eq, slotR_some, gC_eq, gArgs_nil, gArgs_cons, gTupE_eq, gLstE_eq, gNewE_eq, gCall_eq, gBi_eq, gB_eq, asB_bl, gAnd_eq, gOr_eq, gNot_eq, gVT_eq, gIf_eq, gChain_eq, chK_t, chK_f, chK_b, bnd_ok, bnd_exc, oo_some, gTo_eq, toK_some, tgName_eq, tgNil_eq, tgCons_eq, tgTup_eq, bind_some, gPar_eq, gCat_eq, catR_r, listV_t, listV_l, blsOf_nil, blsOf_cons, allV_l, isNV_d, notNV_d, parK_ok, parK_exc, gStore_eq, stK_some, gMeth_eq, gFor_eq, gRng1_eq, asI_i, gItL_eq, gItT_eq, asLst_l, asTup_t, addV_ii, subV_ii, mulV_ii, fdivV_ii, modV_ii, shlV_ii, pw6, pw9, pw18, pw19, pw20, pw25, pw30, pw39, ltV_ii, leV_ii, gtV_ii, geV_ii, negV_i, isNV_n, isNV_t, isNV_l, isNV_i, isNV_s, isNV_r, isNV_b, notNV_n, notNV_t, notNV_l, notNV_i, notNV_s, notNV_r, notNV_b, ixV_t, ixV_l, ixV_r, lenV_t, lenV_l, lenV_r, absV_i, max2V_ii, min2V_ii, bitsV_i, setIV_r, setK_some, setL_some, appendM_r, appK_some, appN_ok, isT_r, isK_l, lstK_some, tyK_l, isT_s, isiV_eq, tyN_int, tyN_bl, tyN_non, tyN_str, tyN_tup, tyN_lst, tyN_dct, tyN_r, kk_int_bool, kitK_t, kk_int_str, kk_int_tuple, kk_int_list, kk_int_dict, kk_int_NoneType, kk_bool_int, kk_bool_str, kk_bool_tuple, kk_bool_list, kk_bool_dict, kk_bool_NoneType, kk_str_int, kk_str_bool, kk_str_tuple, kk_str_list, kk_str_dict, kk_str_NoneType, kk_tuple_int, kk_tuple_bool, kk_tuple_str, kk_tuple_list, kk_tuple_dict, kk_tuple_NoneType, kk_list_int, kk_list_bool, kk_list_str, kk_list_tuple, kk_list_dict, kk_list_NoneType, kk_dict_int, kk_dict_bool, kk_dict_str, kk_dict_tuple, kk_dict_list, kk_dict_NoneType, eqV_int, neV_int, isBV_b, neV_bl, eqV_bl, eqV_ii, neV_ii, isNV_fr, notNV_fr, ixV_fr0, ixV_fr1, eqV_fr, neV_fr, int1V_b, int1V_i, ixV_hp0, ixV_hp1, isNV_hp, eqV_hp, neV_hp, tyN_fr, lenV_fr, at0, at1, at2, at3, at4, at5, ixN0, ixN1, List.map_cons, List.map_nil, List.replicate, List.cons_append, List.nil_append, List.getElem?_cons_zero, List.getElem?_cons_succ, List.set_cons_zero, List.set_cons_succ, Bool.not_true, Bool.not_false, Bool.false_eq_true, if_true, if_false, ite_true, ite_false, reduceIte, Nat.reduceSub, Nat.reduceAdd, ne_eq, Int.cast_ofNat_Int, Int.reduceBEq, Int.reduceLT, Int.reduceLE, Int.reduceEq, Int.reduceNeg, Int.reduceMul, Int.reduceAdd, Int.reduceSub, decide_true, decide_false, List.length_cons, List.length_nil, beq_self_eq_true, not_false_eq_true, not_true_eq_false, h, decide_true, z, hne', not_false_eq_true, hd3, hd4, and_self, l1, l2, fr]
  · rw [if_neg h] at l1 l2
    have hne : ¬ ((Int.gcd t b : Int)) = 0 := by omega
    simp only [gSlN_eq, slN_r, slN_l, slNK_s, gRevN_eq, revN_r, revNK_s, tupleV_r, tupleV_l, gCallV_eq, gLend_eq, isNotBV_b, gRep_eq, repR_r, gZip_eq, zipR_t, zipR_l, gTry_eq, tryK_nx, tryK_ret, begin_eq, allR_nx, allR_ret, allR_exc, gSkip_eq, gSeq_eq, seqK_nx, seqK_ret, seqK_exc, toS_ok, toS_exc, toST_ok, toST_exc, toSL_ok, toSL_exc, gRet_eq, gAsg_eq, gSet_eq, gExpr_eq, gIfS_eq, gRaise_eq, gBin_eq, gUn_eq, gVar_eq, slotR_some, gC_eq, gArgs_nil, gArgs_cons, gTupE_eq, gLstE_eq, gNewE_eq, gCall_eq, gBi_eq, gB_eq, asB_bl, gAnd_eq, gOr_eq, gNot_eq, gVT_eq, gIf_eq, gChain_eq, chK_t, chK_f, chK_b, bnd_ok, bnd_exc, oo_some, gTo_eq, toK_some, tgName_eq, tgNil_eq, tgCons_eq, tgTup_eq, bind_some, gPar_eq, gCat_eq, catR_r, listV_t, listV_l, blsOf_nil, blsOf_cons, allV_l, isNV_d, notNV_d, parK_ok, parK_exc, gStore_eq, stK_some, gMeth_eq, gFor_eq, gRng1_eq, asI_i, gItL_eq, gItT_eq, asLst_l, asTup_t, addV_ii, subV_ii, mulV_ii, fdivV_ii, modV_ii, shlV_ii, pw6, pw9, pw18, pw19, pw20, pw25, pw30, pw39, ltV_ii, leV_ii, gtV_ii, geV_ii, negV_i, isNV_n, isNV_t, isNV_l, isNV_i, isNV_s, isNV_r, isNV_b, notNV_n, notNV_t, notNV_l, notNV_i, notNV_s, notNV_r, notNV_b, ixV_t, ixV_l, ixV_r, lenV_t, lenV_l, lenV_r, absV_i, max2V_ii, min2V_ii, bitsV_i, setIV_r, setK_some, setL_some, appendM_r, appK_some, appN_ok, isT_r, isK_l, lstK_some, tyK_l, isT_s, isiV_eq, tyN_int, tyN_bl, tyN_non, tyN_str, tyN_tup, tyN_lst, tyN_dct, tyN_r, kk_int_bool, kitK_t, kk_int_str, kk_int_tuple, kk_int_list, kk_int_dict, kk_int_NoneType, kk_bool_int, kk_bool_str, kk_bool_tuple, kk_bool_list, kk_bool_dict, kk_bool_NoneType, kk_str_int, kk_str_bool, kk_str_tuple, kk_str_list, kk_str_dict, kk_str_NoneType, kk_tuple_int, kk_tuple_bool, kk_tuple_str, kk_tuple_list, kk_tuple_dict, kk_tuple_NoneType, kk_list_int, kk_list_bool, kk_list_str, kk_list_tuple, kk_list_dict, kk_list_NoneType, kk_dict_int, kk_dict_bool, kk_dict_str, kk_dict_tuple, kk_dict_list, kk_dict_NoneType, eqV_int, neV_int, isBV_b, neV_bl, eqV_bl, eqV_ii, neV_ii, isNV_fr, notNV_fr, ixV_fr0, ixV_fr1, eqV_fr, neV_fr, int1V_b, int1V_i, ixV_hp0, ixV_hp1, isNV_hp, eqV_hp, neV_hp, tyN_fr, lenV_fr, at0, at1, at2, at3, at4, at5, ixN0, ixN1, List.map_cons, List.map_nil, List.replicate, List.cons_append, List.nil_append, List.getElem?_cons_zero, List.getElem?_cons_succ, List.set_cons_zero, List.set_cons_succ, Bool.not_true, Bool.not_false, Bool.false_eq_true, if_true, if_false, ite_true, ite_false, reduceIte, Nat.reduceSub, Nat.reduceAdd, ne_eq, Int.cast_ofNat_Int, Int.reduceBEq, Int.reduceLT, Int.reduceLE, Int.reduceEq, Int.reduceNeg, Int.reduceMul, Int.reduceAdd, Int.reduceSub, decide_true, decide_false, List.length_cons, List.length_nil, beq_self_eq_true, not_false_eq_true, not_true_eq_false, h, decide_false, hne, not_false_eq_true, hd, hd2, and_self, l1, l2, fr]
theorem llow_ok {n : Nat} {t b : Int} {st : List SO} (hb : b ≠ 0) (hs : Sz n b) (hn : n ≤ 9000) : F__law_low [.int t, .int b] st = .ok (fr (Rat.divInt t b)) st := by
  have g := gcd_sz (t := t) hs hb
  exact llow_of hb (g.divOk hn) (g.divOk hn) (g.neg.divOk hn) (g.neg.divOk hn)

noncomputable def g__law_hap (F__law_take : Fn) (F__law_low : Fn) : GS :=
  (gSeq (gSet 1 (gBin ixV (gLstE [(gC (.int 0)), (gBin powV (gC (.int 10)) (gC (.int 25)))]) (gBin fdivV (gCall F__law_take [(gVar 0), (gC (.int 12))]) (gC (.int 11)))))
  (gSeq (gSet 2 (gCall F__law_low [(gBin addV (gBin subV (gCall F__law_take [(gVar 0), (gC (.int 13))]) (gC (.int 6))) (gBin mulV (gC (.int 2)) (gVar 1))), (gBin addV (gC (.int 1)) (gCall F__law_take [(gVar 0), (gC (.int 2))]))]))
  (gRet (gTupE [(gVar 2), (gCall F__law_low [(gBin subV (gCall F__law_take [(gVar 0), (gC (.int 13))]) (gC (.int 6))), (gBin addV (gC (.int 1)) (gCall F__law_take [(gVar 0), (gC (.int 2))]))])]))))
noncomputable def F__law_hap : Fn := fun xs st => allR (g__law_hap F__law_take F__law_low (begin 3 1 xs) st)
theorem far2 (i : Int) (h0 : 0 ≤ i) (h : i < 12) : ∃ f : Int, atI [PV.int 0, .int 10000000000000000000000000] (i.fdiv 11) = some (.int f) ∧ (f = 0 ∨ f = 10000000000000000000000000) := by
  by_cases c : i < 11
  · have : i.fdiv 11 = 0 := by rw [Int.fdiv_eq_ediv_of_nonneg _ (by omega)]; omega
    rw [this]; exact ⟨0, at0, .inl rfl⟩
  · have : i.fdiv 11 = 1 := by rw [Int.fdiv_eq_ediv_of_nonneg _ (by omega)]; omega
    rw [this]; exact ⟨_, at1, .inr rfl⟩
theorem lhap_ok {st : List SO} {k : Nat} (hk : k < st.length) (n : Int) : ∃ t x n', F__law_hap [.ref k] (PS st k n) = .ok (hp t x) (PS st k n') ∧ RS 102 t ∧ RS 102 x := by
  have t1 := take_ps (n := n) hk (show (0 : Int) < 12 by decide) (lit8000 (by decide))
  have t2 := take_ps (n := n / 12) hk (show (0 : Int) < 13 by decide) (lit8000 (by decide))
  have t3 := take_ps (n := n / 12 / 13) hk (show (0 : Int) < 2 by decide) (lit8000 (by decide))
  have t4 := take_ps (n := n / 12 / 13 / 2) hk (show (0 : Int) < 13 by decide) (lit8000 (by decide))
  have t5 := take_ps (n := n / 12 / 13 / 2 / 13) hk (show (0 : Int) < 2 by decide) (lit8000 (by decide))
  have a1 := mod_lt' (n := n) (show (0 : Int) < 12 by decide)
  have a2 := mod_nn (n := n) (show (0 : Int) < 12 by decide)
  obtain ⟨f, ef, hf⟩ := far2 _ a2 a1
  have b1 := mod_lt' (n := n / 12) (show (0 : Int) < 13 by decide)
  have b2 := mod_nn (n := n / 12) (show (0 : Int) < 13 by decide)
  have c1 := mod_lt' (n := n / 12 / 13) (show (0 : Int) < 2 by decide)
  have c2 := mod_nn (n := n / 12 / 13) (show (0 : Int) < 2 by decide)
  have d1 := mod_lt' (n := n / 12 / 13 / 2) (show (0 : Int) < 13 by decide)
  have d2 := mod_nn (n := n / 12 / 13 / 2) (show (0 : Int) < 13 by decide)
  have e1 := mod_lt' (n := n / 12 / 13 / 2 / 13) (show (0 : Int) < 2 by decide)
  have e2 := mod_nn (n := n / 12 / 13 / 2 / 13) (show (0 : Int) < 2 by decide)
  generalize n % 12 = r1 at *
  generalize n / 12 % 13 = r2 at *
  generalize n / 12 / 13 % 2 = r3 at *
  generalize n / 12 / 13 / 2 % 13 = r4 at *
  generalize n / 12 / 13 / 2 / 13 % 2 = r5 at *
  have dk : DivOk r1 11 := divOk_of (b := 8) (by decide) (by omega)
  have sf : Sz 90 f := by rcases hf with rfl | rfl <;> (unfold Sz; decide)
  have mk : MulOk 2 f := (show Sz 2 2 by unfold Sz; decide).mulOk sf (by omega)
  have z1 : Sz 102 (r2 - 6 + 2 * f) := by unfold Sz; rcases hf with rfl | rfl <;> omega
  have z2 : Sz 102 (1 + r3) := by unfold Sz; omega
  have z3 : Sz 102 (r4 - 6) := by unfold Sz; omega
  have z4 : Sz 102 (1 + r5) := by unfold Sz; omega
  have n2 : 1 + r3 ≠ 0 := by omega
  have n4 : 1 + r5 ≠ 0 := by omega
  have n11 : ¬ (11 : Int) = 0 := by decide
  have l1 := fun st => llow_ok (st := st) (t := r2 - 6 + 2 * f) n2 z2 (by omega)
  have l2 := fun st => llow_ok (st := st) (t := r4 - 6) n4 z4 (by omega)
  refine ⟨_, _, n / 12 / 13 / 2 / 13 / 2, ?_, RS.divInt z1 z2 n2, RS.divInt z3 z4 n4⟩
  · simp only [F__law_hap, g__law_hap, gSlN_eq, slN_r, slN_l, slNK_s, gRevN_eq, revN_r, revNK_s, tupleV_r, tupleV_l, gCallV_eq, gLend_eq, isNotBV_b, gRep_eq, repR_r, gZip_eq, zipR_t, zipR_l, gTry_eq, tryK_nx, tryK_ret, begin_eq, allR_nx, allR_ret, allR_exc, gSkip_eq, gSeq_eq, seqK_nx, seqK_ret, seqK_exc, toS_ok, toS_exc, toST_ok, toST_exc, toSL_ok, toSL_exc, gRet_eq, gAsg_eq, gSet_eq, gExpr_eq, gIfS_eq, gRaise_eq, gBin_eq, gUn_eq, gVar_eq, slotR_some, gC_eq, gArgs_nil, gArgs_cons, gTupE_eq, gLstE_eq, gNewE_eq, gCall_eq, gBi_eq, gB_eq, asB_bl, gAnd_eq, gOr_eq, gNot_eq, gVT_eq, gIf_eq, gChain_eq, chK_t, chK_f, chK_b, bnd_ok, bnd_exc, oo_some, gTo_eq, toK_some, tgName_eq, tgNil_eq, tgCons_eq, tgTup_eq, bind_some, gPar_eq, gCat_eq, catR_r, listV_t, listV_l, blsOf_nil, blsOf_cons, allV_l, isNV_d, notNV_d, parK_ok, parK_exc, gStore_eq, stK_some, gMeth_eq, gFor_eq, gRng1_eq, asI_i, gItL_eq, gItT_eq, asLst_l, asTup_t, addV_ii, subV_ii, mulV_ii, fdivV_ii, modV_ii, shlV_ii, pw6, pw9, pw18, pw19, pw20, pw25, pw30, pw39, ltV_ii, leV_ii, gtV_ii, geV_ii, negV_i, isNV_n, isNV_t, isNV_l, isNV_i, isNV_s, isNV_r, isNV_b, notNV_n, notNV_t, notNV_l, notNV_i, notNV_s, notNV_r, notNV_b, ixV_t, ixV_l, ixV_r, lenV_t, lenV_l, lenV_r, absV_i, max2V_ii, min2V_ii, bitsV_i, setIV_r, setK_some, setL_some, appendM_r, appK_some, appN_ok, isT_r, isK_l, lstK_some, tyK_l, isT_s, isiV_eq, tyN_int, tyN_bl, tyN_non, tyN_str, tyN_tup, tyN_lst, tyN_dct, tyN_r, kk_int_bool, kitK_t, kk_int_str, kk_int_tuple, kk_int_list, kk_int_dict, kk_int_NoneType, kk_bool_int, kk_bool_str, kk_bool_tuple, kk_bool_list, kk_bool_dict, kk_bool_NoneType, kk_str_int, kk_str_bool, kk_str_tuple, kk_str_list, kk_str_dict, kk_str_NoneType, kk_tuple_int, kk_tuple_bool, kk_tuple_str, kk_tuple_list, kk_tuple_dict, kk_tuple_NoneType, kk_list_int, kk_list_bool, kk_list_str, kk_list_tuple, kk_list_dict, kk_list_NoneType, kk_dict_int, kk_dict_bool, kk_dict_str, kk_dict_tuple, kk_dict_list, kk_dict_NoneType, eqV_int, neV_int, isBV_b, neV_bl, eqV_bl, eqV_ii, neV_ii, isNV_fr, notNV_fr, ixV_fr0, ixV_fr1, eqV_fr, neV_fr, int1V_b, int1V_i, ixV_hp0, ixV_hp1, isNV_hp, eqV_hp, neV_hp, tyN_fr, lenV_fr, at0, at1, at2, at3, at4, at5, ixN0, ixN1, List.map_cons, List.map_nil, List.replicate, List.cons_append, List.nil_append, List.getElem?_cons_zero, List.getElem?_cons_succ, List.set_cons_zero, List.set_cons_succ, Bool.not_true, Bool.not_false, Bool.false_eq_true, if_true, if_false, ite_true, ite_false, reduceIte, Nat.reduceSub, Nat.reduceAdd, ne_eq, Int.cast_ofNat_Int, Int.reduceBEq, Int.reduceLT, Int.reduceLE, Int.reduceEq, Int.reduceNeg, Int.reduceMul, Int.reduceAdd, Int.reduceSub, decide_true, decide_false, List.length_cons, List.length_nil, beq_self_eq_true, not_false_eq_true, not_true_eq_false, t1, dk, n11, not_false_eq_true, and_self, ef, t2, mk, t3, l1, t4, t5, l2, pw25]
    rfl

noncomputable def g__law_sum (F__law_low : Fn) : GS :=
  (gRet (gCall F__law_low [(gBin addV (gBin mulV (gBin ixV (gVar 0) (gC (.int 0))) (gBin ixV (gVar 1) (gC (.int 1)))) (gBin mulV (gBin ixV (gVar 1) (gC (.int 0))) (gBin ixV (gVar 0) (gC (.int 1))))), (gBin mulV (gBin ixV (gVar 0) (gC (.int 1))) (gBin ixV (gVar 1) (gC (.int 1))))]))
noncomputable def F__law_sum : Fn := fun xs st => allR (g__law_sum F__law_low (begin 2 2 xs) st)
theorem lsum_ok {n : Nat} {q r : Rat} {st : List SO} (hq : RS n q) (hr : RS n r) (hn : n ≤ 4000) : F__law_sum [fr q, fr r] st = .ok (fr (q + r)) st := by
  have m1 : MulOk q.num r.den := hq.1.mulOk hr.den (by omega)
  have m2 : MulOk r.num q.den := hr.1.mulOk hq.den (by omega)
  have m3 : MulOk (q.den : Int) r.den := hq.den.mulOk hr.den (by omega)
  have d0 : (q.den * r.den : Int) ≠ 0 := Int.mul_ne_zero (den0 q) (den0 r)
  have e := llow_ok (st := st) (t := q.num * r.den + r.num * q.den) d0 (hq.den.mul hr.den) (by omega)
  rw [add_eq] at e
  simp only [fr] at e
  simp only [F__law_sum, g__law_sum, gSlN_eq, slN_r, slN_l, slNK_s, gRevN_eq, revN_r, revNK_s, tupleV_r, tupleV_l, gCallV_eq, gLend_eq, isNotBV_b, gRep_eq, repR_r, gZip_eq, zipR_t, zipR_l, gTry_eq, tryK_nx, tryK_ret, begin_eq, allR_nx, allR_ret, allR_exc, gSkip_eq, gSeq_eq, seqK_nx, seqK_ret, seqK_exc, toS_ok, toS_exc, toST_ok, toST_exc, toSL_ok, toSL_exc, gRet_eq, gAsg_eq, gSet_eq, gExpr_eq, gIfS_eq, gRaise_eq, gBin_eq, gUn_eq, gVar_eq, slotR_some, gC_eq, gArgs_nil, gArgs_cons, gTupE_eq, gLstE_eq, gNewE_eq, gCall_eq, gBi_eq, gB_eq, asB_bl, gAnd_eq, gOr_eq, gNot_eq, gVT_eq, gIf_eq, gChain_eq, chK_t, chK_f, chK_b, bnd_ok, bnd_exc, oo_some, gTo_eq, toK_some, tgName_eq, tgNil_eq, tgCons_eq, tgTup_eq, bind_some, gPar_eq, gCat_eq, catR_r, listV_t, listV_l, blsOf_nil, blsOf_cons, allV_l, isNV_d, notNV_d, parK_ok, parK_exc, gStore_eq, stK_some, gMeth_eq, gFor_eq, gRng1_eq, asI_i, gItL_eq, gItT_eq, asLst_l, asTup_t, addV_ii, subV_ii, mulV_ii, fdivV_ii, modV_ii, shlV_ii, pw6, pw9, pw18, pw19, pw20, pw25, pw30, pw39, ltV_ii, leV_ii, gtV_ii, geV_ii, negV_i, isNV_n, isNV_t, isNV_l, isNV_i, isNV_s, isNV_r, isNV_b, notNV_n, notNV_t, notNV_l, notNV_i, notNV_s, notNV_r, notNV_b, ixV_t, ixV_l, ixV_r, lenV_t, lenV_l, lenV_r, absV_i, max2V_ii, min2V_ii, bitsV_i, setIV_r, setK_some, setL_some, appendM_r, appK_some, appN_ok, isT_r, isK_l, lstK_some, tyK_l, isT_s, isiV_eq, tyN_int, tyN_bl, tyN_non, tyN_str, tyN_tup, tyN_lst, tyN_dct, tyN_r, kk_int_bool, kitK_t, kk_int_str, kk_int_tuple, kk_int_list, kk_int_dict, kk_int_NoneType, kk_bool_int, kk_bool_str, kk_bool_tuple, kk_bool_list, kk_bool_dict, kk_bool_NoneType, kk_str_int, kk_str_bool, kk_str_tuple, kk_str_list, kk_str_dict, kk_str_NoneType, kk_tuple_int, kk_tuple_bool, kk_tuple_str, kk_tuple_list, kk_tuple_dict, kk_tuple_NoneType, kk_list_int, kk_list_bool, kk_list_str, kk_list_tuple, kk_list_dict, kk_list_NoneType, kk_dict_int, kk_dict_bool, kk_dict_str, kk_dict_tuple, kk_dict_list, kk_dict_NoneType, eqV_int, neV_int, isBV_b, neV_bl, eqV_bl, eqV_ii, neV_ii, isNV_fr, notNV_fr, ixV_fr0, ixV_fr1, eqV_fr, neV_fr, int1V_b, int1V_i, ixV_hp0, ixV_hp1, isNV_hp, eqV_hp, neV_hp, tyN_fr, lenV_fr, at0, at1, at2, at3, at4, at5, ixN0, ixN1, List.map_cons, List.map_nil, List.replicate, List.cons_append, List.nil_append, List.getElem?_cons_zero, List.getElem?_cons_succ, List.set_cons_zero, List.set_cons_succ, Bool.not_true, Bool.not_false, Bool.false_eq_true, if_true, if_false, ite_true, ite_false, reduceIte, Nat.reduceSub, Nat.reduceAdd, ne_eq, Int.cast_ofNat_Int, Int.reduceBEq, Int.reduceLT, Int.reduceLE, Int.reduceEq, Int.reduceNeg, Int.reduceMul, Int.reduceAdd, Int.reduceSub, decide_true, decide_false, List.length_cons, List.length_nil, beq_self_eq_true, not_false_eq_true, not_true_eq_false, fr, m1, m2, m3, e]
theorem lsum_as {n m : Nat} {q r : Rat} {st : List SO} (hq : RS n q) (hr : RS m r) (hn : n + m ≤ 9000) : F__law_sum [fr q, fr r] st = .ok (fr (q + r)) st := by
  have m1 : MulOk q.num r.den := hq.1.mulOk hr.den (by omega)
  have m2 : MulOk r.num q.den := hr.1.mulOk hq.den (by omega)
  have m3 : MulOk (q.den : Int) r.den := hq.den.mulOk hr.den (by omega)
  have d0 : (q.den * r.den : Int) ≠ 0 := Int.mul_ne_zero (den0 q) (den0 r)
  have e := llow_ok (st := st) (t := q.num * r.den + r.num * q.den) d0 (hq.den.mul hr.den) (by omega)
  rw [add_eq] at e
  simp only [fr] at e
  simp only [F__law_sum, g__law_sum, gSlN_eq, slN_r, slN_l, slNK_s, gRevN_eq, revN_r, revNK_s, tupleV_r, tupleV_l, gCallV_eq, gLend_eq, isNotBV_b, gRep_eq, repR_r, gZip_eq, zipR_t, zipR_l, gTry_eq, tryK_nx, tryK_ret, begin_eq, allR_nx, allR_ret, allR_exc, gSkip_eq, gSeq_eq, seqK_nx, seqK_ret, seqK_exc, toS_ok, toS_exc, toST_ok, toST_exc, toSL_ok, toSL_exc, gRet_eq, gAsg_eq, gSet_eq, gExpr_eq, gIfS_eq, gRaise_eq, gBin_eq, gUn_eq, gVar_eq, slotR_some, gC_eq, gArgs_nil, gArgs_cons, gTupE_eq, gLstE_eq, gNewE_eq, gCall_eq, gBi_eq, gB_eq, asB_bl, gAnd_eq, gOr_eq, gNot_eq, gVT_eq, gIf_eq, gChain_eq, chK_t, chK_f, chK_b, bnd_ok, bnd_exc, oo_some, gTo_eq, toK_some, tgName_eq, tgNil_eq, tgCons_eq, tgTup_eq, bind_some, gPar_eq, gCat_eq, catR_r, listV_t, listV_l, blsOf_nil, blsOf_cons, allV_l, isNV_d, notNV_d, parK_ok, parK_exc, gStore_eq, stK_some, gMeth_eq, gFor_eq, gRng1_eq, asI_i, gItL_eq, gItT_eq, asLst_l, asTup_t, addV_ii, subV_ii, mulV_ii, fdivV_ii, modV_ii, shlV_ii, pw6, pw9, pw18, pw19, pw20, pw25, pw30, pw39, ltV_ii, leV_ii, gtV_ii, geV_ii, negV_i, isNV_n, isNV_t, isNV_l, isNV_i, isNV_s, isNV_r, isNV_b, notNV_n, notNV_t, notNV_l, notNV_i, notNV_s, notNV_r, notNV_b, ixV_t, ixV_l, ixV_r, lenV_t, lenV_l, lenV_r, absV_i, max2V_ii, min2V_ii, bitsV_i, setIV_r, setK_some, setL_some, appendM_r, appK_some, appN_ok, isT_r, isK_l, lstK_some, tyK_l, isT_s, isiV_eq, tyN_int, tyN_bl, tyN_non, tyN_str, tyN_tup, tyN_lst, tyN_dct, tyN_r, kk_int_bool, kitK_t, kk_int_str, kk_int_tuple, kk_int_list, kk_int_dict, kk_int_NoneType, kk_bool_int, kk_bool_str, kk_bool_tuple, kk_bool_list, kk_bool_dict, kk_bool_NoneType, kk_str_int, kk_str_bool, kk_str_tuple, kk_str_list, kk_str_dict, kk_str_NoneType, kk_tuple_int, kk_tuple_bool, kk_tuple_str, kk_tuple_list, kk_tuple_dict, kk_tuple_NoneType, kk_list_int, kk_list_bool, kk_list_str, kk_list_tuple, kk_list_dict, kk_list_NoneType, kk_dict_int, kk_dict_bool, kk_dict_str, kk_dict_tuple, kk_dict_list, kk_dict_NoneType, eqV_int, neV_int, isBV_b, neV_bl, eqV_bl, eqV_ii, neV_ii, isNV_fr, notNV_fr, ixV_fr0, ixV_fr1, eqV_fr, neV_fr, int1V_b, int1V_i, ixV_hp0, ixV_hp1, isNV_hp, eqV_hp, neV_hp, tyN_fr, lenV_fr, at0, at1, at2, at3, at4, at5, ixN0, ixN1, List.map_cons, List.map_nil, List.replicate, List.cons_append, List.nil_append, List.getElem?_cons_zero, List.getElem?_cons_succ, List.set_cons_zero, List.set_cons_succ, Bool.not_true, Bool.not_false, Bool.false_eq_true, if_true, if_false, ite_true, ite_false, reduceIte, Nat.reduceSub, Nat.reduceAdd, ne_eq, Int.cast_ofNat_Int, Int.reduceBEq, Int.reduceLT, Int.reduceLE, Int.reduceEq, Int.reduceNeg, Int.reduceMul, Int.reduceAdd, Int.reduceSub, decide_true, decide_false, List.length_cons, List.length_nil, beq_self_eq_true, not_false_eq_true, not_true_eq_false, fr, m1, m2, m3, e]

noncomputable def g_is_whole : GS :=
  (gRet (gVT (gAnd (gB (gBi isiV [(gVar 0), (gC (.ty "int"))])) (gB (gVT (gNot (gB (gBi isiV [(gVar 0), (gC (.ty "bool"))]))))))))
noncomputable def F_is_whole : Fn := fun xs st => allR (g_is_whole (begin 1 1 xs) st)
theorem whole_ok {x : PV} {st : List SO} (h : P0 x) : F_is_whole [x] st = .ok (.bl (whB x)) st := by
  cases x with
  | ty _ => exact h.elim
  | cls _ => exact h.elim
  | exc _ => exact h.elim
  | ref _ => exact h.elim
  | _ => simp only [F_is_whole, g_is_whole, gSlN_eq, slN_r, slN_l, slNK_s, gRevN_eq, revN_r, revNK_s, tupleV_r, tupleV_l, gCallV_eq, gLend_eq, isNotBV_b, gRep_eq, repR_r, gZip_eq, zipR_t, zipR_l, gTry_eq, tryK_nx, tryK_ret, begin_eq, allR_nx, allR_ret, allR_exc, gSkip_eq, gSeq_eq, seqK_nx, seqK_ret, seqK_exc, toS_ok, toS_exc, toST_ok, toST_exc, toSL_ok, toSL_exc, gRet_eq, gAsg_eq, gSet_eq, gExpr_eq, gIfS_eq, gRaise_eq, gBin_eq, gUn_eq, gVar_eq, slotR_some, gC_eq, gArgs_nil, gArgs_cons, gTupE_eq, gLstE_eq, gNewE_eq, gCall_eq, gBi_eq, gB_eq, asB_bl, gAnd_eq, gOr_eq, gNot_eq, gVT_eq, gIf_eq, gChain_eq, chK_t, chK_f, chK_b, bnd_ok, bnd_exc, oo_some, gTo_eq, toK_some, tgName_eq, tgNil_eq, tgCons_eq, tgTup_eq, bind_some, gPar_eq, gCat_eq, catR_r, listV_t, listV_l, blsOf_nil, blsOf_cons, allV_l, isNV_d, notNV_d, parK_ok, parK_exc, gStore_eq, stK_some, gMeth_eq, gFor_eq, gRng1_eq, asI_i, gItL_eq, gItT_eq, asLst_l, asTup_t, addV_ii, subV_ii, mulV_ii, fdivV_ii, modV_ii, shlV_ii, pw6, pw9, pw18, pw19, pw20, pw25, pw30, pw39, ltV_ii, leV_ii, gtV_ii, geV_ii, negV_i, isNV_n, isNV_t, isNV_l, isNV_i, isNV_s, isNV_r, isNV_b, notNV_n, notNV_t, notNV_l, notNV_i, notNV_s, notNV_r, notNV_b, ixV_t, ixV_l, ixV_r, lenV_t, lenV_l, lenV_r, absV_i, max2V_ii, min2V_ii, bitsV_i, setIV_r, setK_some, setL_some, appendM_r, appK_some, appN_ok, isT_r, isK_l, lstK_some, tyK_l, isT_s, isiV_eq, tyN_int, tyN_bl, tyN_non, tyN_str, tyN_tup, tyN_lst, tyN_dct, tyN_r, kk_int_bool, kitK_t, kk_int_str, kk_int_tuple, kk_int_list, kk_int_dict, kk_int_NoneType, kk_bool_int, kk_bool_str, kk_bool_tuple, kk_bool_list, kk_bool_dict, kk_bool_NoneType, kk_str_int, kk_str_bool, kk_str_tuple, kk_str_list, kk_str_dict, kk_str_NoneType, kk_tuple_int, kk_tuple_bool, kk_tuple_str, kk_tuple_list, kk_tuple_dict, kk_tuple_NoneType, kk_list_int, kk_list_bool, kk_list_str, kk_list_tuple, kk_list_dict, kk_list_NoneType, kk_dict_int, kk_dict_bool, kk_dict_str, kk_dict_tuple, kk_dict_list, kk_dict_NoneType, eqV_int, neV_int, isBV_b, neV_bl, eqV_bl, eqV_ii, neV_ii, isNV_fr, notNV_fr, ixV_fr0, ixV_fr1, eqV_fr, neV_fr, int1V_b, int1V_i, ixV_hp0, ixV_hp1, isNV_hp, eqV_hp, neV_hp, tyN_fr, lenV_fr, at0, at1, at2, at3, at4, at5, ixN0, ixN1, List.map_cons, List.map_nil, List.replicate, List.cons_append, List.nil_append, List.getElem?_cons_zero, List.getElem?_cons_succ, List.set_cons_zero, List.set_cons_succ, Bool.not_true, Bool.not_false, Bool.false_eq_true, if_true, if_false, ite_true, ite_false, reduceIte, Nat.reduceSub, Nat.reduceAdd, ne_eq, Int.cast_ofNat_Int, Int.reduceBEq, Int.reduceLT, Int.reduceLE, Int.reduceEq, Int.reduceNeg, Int.reduceMul, Int.reduceAdd, Int.reduceSub, decide_true, decide_false, List.length_cons, List.length_nil, beq_self_eq_true, not_false_eq_true, not_true_eq_false, kk_int_int, kk_int_bool, kk_bool_bool, whB]
theorem whole_i {i : Int} {st : List SO} : F_is_whole [.int i] st = .ok (.bl true) st := by
  simp only [F_is_whole, g_is_whole, gSlN_eq, slN_r, slN_l, slNK_s, gRevN_eq, revN_r, revNK_s, tupleV_r, tupleV_l, gCallV_eq, gLend_eq, isNotBV_b, gRep_eq, repR_r, gZip_eq, zipR_t, zipR_l, gTry_eq, tryK_nx, tryK_ret, begin_eq, allR_nx, allR_ret, allR_exc, gSkip_eq, gSeq_eq, seqK_nx, seqK_ret, seqK_exc, toS_ok, toS_exc, toST_ok, toST_exc, toSL_ok, toSL_exc, gRet_eq, gAsg_eq, gSet_eq, gExpr_eq, gIfS_eq, gRaise_eq, gBin_eq, gUn_eq, gVar_eq, slotR_some, gC_eq, gArgs_nil, gArgs_cons, gTupE_eq, gLstE_eq, gNewE_eq, gCall_eq, gBi_eq, gB_eq, asB_bl, gAnd_eq, gOr_eq, gNot_eq, gVT_eq, gIf_eq, gChain_eq, chK_t, chK_f, chK_b, bnd_ok, bnd_exc, oo_some, gTo_eq, toK_some, tgName_eq, tgNil_eq, tgCons_eq, tgTup_eq, bind_some, gPar_eq, gCat_eq, catR_r, listV_t, listV_l, blsOf_nil, blsOf_cons, allV_l, isNV_d, notNV_d, parK_ok, parK_exc, gStore_eq, stK_some, gMeth_eq, gFor_eq, gRng1_eq, asI_i, gItL_eq, gItT_eq, asLst_l, asTup_t, addV_ii, subV_ii, mulV_ii, fdivV_ii, modV_ii, shlV_ii, pw6, pw9, pw18, pw19, pw20, pw25, pw30, pw39, ltV_ii, leV_ii, gtV_ii, geV_ii, negV_i, isNV_n, isNV_t, isNV_l, isNV_i, isNV_s, isNV_r, isNV_b, notNV_n, notNV_t, notNV_l, notNV_i, notNV_s, notNV_r, notNV_b, ixV_t, ixV_l, ixV_r, lenV_t, lenV_l, lenV_r, absV_i, max2V_ii, min2V_ii, bitsV_i, setIV_r, setK_some, setL_some, appendM_r, appK_some, appN_ok, isT_r, isK_l, lstK_some, tyK_l, isT_s, isiV_eq, tyN_int, tyN_bl, tyN_non, tyN_str, tyN_tup, tyN_lst, tyN_dct, tyN_r, kk_int_bool, kitK_t, kk_int_str, kk_int_tuple, kk_int_list, kk_int_dict, kk_int_NoneType, kk_bool_int, kk_bool_str, kk_bool_tuple, kk_bool_list, kk_bool_dict, kk_bool_NoneType, kk_str_int, kk_str_bool, kk_str_tuple, kk_str_list, kk_str_dict, kk_str_NoneType, kk_tuple_int, kk_tuple_bool, kk_tuple_str, kk_tuple_list, kk_tuple_dict, kk_tuple_NoneType, kk_list_int, kk_list_bool, kk_list_str, kk_list_tuple, kk_list_dict, kk_list_NoneType, kk_dict_int, kk_dict_bool, kk_dict_str, kk_dict_tuple, kk_dict_list, kk_dict_NoneType, eqV_int, neV_int, isBV_b, neV_bl, eqV_bl, eqV_ii, neV_ii, isNV_fr, notNV_fr, ixV_fr0, ixV_fr1, eqV_fr, neV_fr, int1V_b, int1V_i, ixV_hp0, ixV_hp1, isNV_hp, eqV_hp, neV_hp, tyN_fr, lenV_fr, at0, at1, at2, at3, at4, at5, ixN0, ixN1, List.map_cons, List.map_nil, List.replicate, List.cons_append, List.nil_append, List.getElem?_cons_zero, List.getElem?_cons_succ, List.set_cons_zero, List.set_cons_succ, Bool.not_true, Bool.not_false, Bool.false_eq_true, if_true, if_false, ite_true, ite_false, reduceIte, Nat.reduceSub, Nat.reduceAdd, ne_eq, Int.cast_ofNat_Int, Int.reduceBEq, Int.reduceLT, Int.reduceLE, Int.reduceEq, Int.reduceNeg, Int.reduceMul, Int.reduceAdd, Int.reduceSub, decide_true, decide_false, List.length_cons, List.length_nil, beq_self_eq_true, not_false_eq_true, not_true_eq_false, kk_int_int]

noncomputable def g_common : GS :=
  (gSeq (gPar 0 1 (gBi absV [(gVar 0)]) (gBi absV [(gVar 1)]))
  (gSeq (gWhile (muI 1) (gB (gBin gtV (gVar 1) (gC (.int 0)))) (gPar 0 1 (gVar 1) (gBin modV (gVar 0) (gVar 1))))
  (gRet (gVar 0))))
noncomputable def F_common : Fn := fun xs st => allR (g_common (begin 2 2 xs) st)
theorem common_ok (a b : Int) (st : List SO) : F_common [.int a, .int b] st = .ok (.int (Int.gcd a b)) st := by
  have w := whl_gcd (i := 0) (j := 1) (by decide) (b.natAbs + 1) [some (.int a.natAbs), some (.int b.natAbs)] a.natAbs b.natAbs st rfl rfl (by omega)
  have e : Nat.gcd a.natAbs b.natAbs = Int.gcd a b := rfl
  simp only [F_common, g_common, gWhile, muI, gSlN_eq, slN_r, slN_l, slNK_s, gRevN_eq, revN_r, revNK_s, tupleV_r, tupleV_l, gCallV_eq, gLend_eq, isNotBV_b, gRep_eq, repR_r, gZip_eq, zipR_t, zipR_l, gTry_eq, tryK_nx, tryK_ret, begin_eq, allR_nx, allR_ret, allR_exc, gSkip_eq, gSeq_eq, seqK_nx, seqK_ret, seqK_exc, toS_ok, toS_exc, toST_ok, toST_exc, toSL_ok, toSL_exc, gRet_eq, gAsg_eq, gSet_eq, gExpr_eq, gIfS_eq, gRaise_eq, gBin_eq, gUn_eq, gVar_eq, slotR_some, gC_eq, gArgs_nil, gArgs_cons, gTupE_eq, gLstE_eq, gNewE_eq, gCall_eq, gBi_eq, gB_eq, asB_bl, gAnd_eq, gOr_eq, gNot_eq, gVT_eq, gIf_eq, gChain_eq, chK_t, chK_f, chK_b, bnd_ok, bnd_exc, oo_some, gTo_eq, toK_some, tgName_eq, tgNil_eq, tgCons_eq, tgTup_eq, bind_some, gPar_eq, gCat_eq, catR_r, listV_t, listV_l, blsOf_nil, blsOf_cons, allV_l, isNV_d, notNV_d, parK_ok, parK_exc, gStore_eq, stK_some, gMeth_eq, gFor_eq, gRng1_eq, asI_i, gItL_eq, gItT_eq, asLst_l, asTup_t, addV_ii, subV_ii, mulV_ii, fdivV_ii, modV_ii, shlV_ii, pw6, pw9, pw18, pw19, pw20, pw25, pw30, pw39, ltV_ii, leV_ii, gtV_ii, geV_ii, negV_i, isNV_n, isNV_t, isNV_l, isNV_i, isNV_s, isNV_r, isNV_b, notNV_n, notNV_t, notNV_l, notNV_i, notNV_s, notNV_r, notNV_b, ixV_t, ixV_l, ixV_r, lenV_t, lenV_l, lenV_r, absV_i, max2V_ii, min2V_ii, bitsV_i, setIV_r, setK_some, setL_some, appendM_r, appK_some, appN_ok, isT_r, isK_l, lstK_some, tyK_l, isT_s, isiV_eq, tyN_int, tyN_bl, tyN_non, tyN_str, tyN_tup, tyN_lst, tyN_dct, tyN_r, kk_int_bool, kitK_t, kk_int_str, kk_int_tuple, kk_int_list, kk_int_dict, kk_int_NoneType, kk_bool_int, kk_bool_str, kk_bool_tuple, kk_bool_list, kk_bool_dict, kk_bool_NoneType, kk_str_int, kk_str_bool, kk_str_tuple, kk_str_list, kk_str_dict, kk_str_NoneType, kk_tuple_int, kk_tuple_bool, kk_tuple_str, kk_tuple_list, kk_tuple_dict, kk_tuple_NoneType, kk_list_int, kk_list_bool, kk_list_str, kk_list_tuple, kk_list_dict, kk_list_NoneType, kk_dict_int, kk_dict_bool, kk_dict_str, kk_dict_tuple, kk_dict_list, kk_dict_NoneType, eqV_int, neV_int, isBV_b, neV_bl, eqV_bl, eqV_ii, neV_ii, isNV_fr, notNV_fr, ixV_fr0, ixV_fr1, eqV_fr, neV_fr, int1V_b, int1V_i, ixV_hp0, ixV_hp1, isNV_hp, eqV_hp, neV_hp, tyN_fr, lenV_fr, at0, at1, at2, at3, at4, at5, ixN0, ixN1, List.map_cons, List.map_nil, List.replicate, List.cons_append, List.nil_append, List.getElem?_cons_zero, List.getElem?_cons_succ, List.set_cons_zero, List.set_cons_succ, Bool.not_true, Bool.not_false, Bool.false_eq_true, if_true, if_false, ite_true, ite_false, reduceIte, Nat.reduceSub, Nat.reduceAdd, ne_eq, Int.cast_ofNat_Int, Int.reduceBEq, Int.reduceLT, Int.reduceLE, Int.reduceEq, Int.reduceNeg, Int.reduceMul, Int.reduceAdd, Int.reduceSub, decide_true, decide_false, List.length_cons, List.length_nil, beq_self_eq_true, not_false_eq_true, not_true_eq_false, Int.natAbs_natCast] at w ⊢
  simp only [w, e, gSlN_eq, slN_r, slN_l, slNK_s, gRevN_eq, revN_r, revNK_s, tupleV_r, tupleV_l, gCallV_eq, gLend_eq, isNotBV_b, gRep_eq, repR_r, gZip_eq, zipR_t, zipR_l, gTry_eq, tryK_nx, tryK_ret, begin_eq, allR_nx, allR_ret, allR_exc, gSkip_eq, gSeq_eq, seqK_nx, seqK_ret, seqK_exc, toS_ok, toS_exc, toST_ok, toST_exc, toSL_ok, toSL_exc, gRet_eq, gAsg_eq, gSet_eq, gExpr_eq, gIfS_eq, gRaise_eq, gBin_eq, gUn_eq, gVar_eq, slotR_some, gC_eq, gArgs_nil, gArgs_cons, gTupE_eq, gLstE_eq, gNewE_eq, gCall_eq, gBi_eq, gB_eq, asB_bl, gAnd_eq, gOr_eq, gNot_eq, gVT_eq, gIf_eq, gChain_eq, chK_t, chK_f, chK_b, bnd_ok, bnd_exc, oo_some, gTo_eq, toK_some, tgName_eq, tgNil_eq, tgCons_eq, tgTup_eq, bind_some, gPar_eq, gCat_eq, catR_r, listV_t, listV_l, blsOf_nil, blsOf_cons, allV_l, isNV_d, notNV_d, parK_ok, parK_exc, gStore_eq, stK_some, gMeth_eq, gFor_eq, gRng1_eq, asI_i, gItL_eq, gItT_eq, asLst_l, asTup_t, addV_ii, subV_ii, mulV_ii, fdivV_ii, modV_ii, shlV_ii, pw6, pw9, pw18, pw19, pw20, pw25, pw30, pw39, ltV_ii, leV_ii, gtV_ii, geV_ii, negV_i, isNV_n, isNV_t, isNV_l, isNV_i, isNV_s, isNV_r, isNV_b, notNV_n, notNV_t, notNV_l, notNV_i, notNV_s, notNV_r, notNV_b, ixV_t, ixV_l, ixV_r, lenV_t, lenV_l, lenV_r, absV_i, max2V_ii, min2V_ii, bitsV_i, setIV_r, setK_some, setL_some, appendM_r, appK_some, appN_ok, isT_r, isK_l, lstK_some, tyK_l, isT_s, isiV_eq, tyN_int, tyN_bl, tyN_non, tyN_str, tyN_tup, tyN_lst, tyN_dct, tyN_r, kk_int_bool, kitK_t, kk_int_str, kk_int_tuple, kk_int_list, kk_int_dict, kk_int_NoneType, kk_bool_int, kk_bool_str, kk_bool_tuple, kk_bool_list, kk_bool_dict, kk_bool_NoneType, kk_str_int, kk_str_bool, kk_str_tuple, kk_str_list, kk_str_dict, kk_str_NoneType, kk_tuple_int, kk_tuple_bool, kk_tuple_str, kk_tuple_list, kk_tuple_dict, kk_tuple_NoneType, kk_list_int, kk_list_bool, kk_list_str, kk_list_tuple, kk_list_dict, kk_list_NoneType, kk_dict_int, kk_dict_bool, kk_dict_str, kk_dict_tuple, kk_dict_list, kk_dict_NoneType, eqV_int, neV_int, isBV_b, neV_bl, eqV_bl, eqV_ii, neV_ii, isNV_fr, notNV_fr, ixV_fr0, ixV_fr1, eqV_fr, neV_fr, int1V_b, int1V_i, ixV_hp0, ixV_hp1, isNV_hp, eqV_hp, neV_hp, tyN_fr, lenV_fr, at0, at1, at2, at3, at4, at5, ixN0, ixN1, List.map_cons, List.map_nil, List.replicate, List.cons_append, List.nil_append, List.getElem?_cons_zero, List.getElem?_cons_succ, List.set_cons_zero, List.set_cons_succ, Bool.not_true, Bool.not_false, Bool.false_eq_true, if_true, if_false, ite_true, ite_false, reduceIte, Nat.reduceSub, Nat.reduceAdd, ne_eq, Int.cast_ofNat_Int, Int.reduceBEq, Int.reduceLT, Int.reduceLE, Int.reduceEq, Int.reduceNeg, Int.reduceMul, Int.reduceAdd, Int.reduceSub, decide_true, decide_false, List.length_cons, List.length_nil, beq_self_eq_true, not_false_eq_true, not_true_eq_false]

noncomputable def g_is_fraction (F_is_whole : Fn) (F_common : Fn) : GS :=
  (gSeq (gIfS (gOr (gNot (gB (gBi isiV [(gVar 0), (gC (.ty "tuple"))]))) (gOr (gB (gBin neV (gBi lenV [(gVar 0)]) (gC (.int 2)))) (gOr (gNot (gB (gCall F_is_whole [(gBin ixV (gVar 0) (gC (.int 0)))]))) (gNot (gB (gCall F_is_whole [(gBin ixV (gVar 0) (gC (.int 1)))])))))) (gRet (gC (.bl false))) gSkip)
  (gRet (gVT (gAnd (gB (gBin gtV (gBin ixV (gVar 0) (gC (.int 1))) (gC (.int 0)))) (gB (gBin eqV (gCall F_common [(gBin ixV (gVar 0) (gC (.int 0))), (gBin ixV (gVar 0) (gC (.int 1)))]) (gC (.int 1))))))))
noncomputable def F_is_fraction : Fn := fun xs st => allR (g_is_fraction F_is_whole F_common (begin 1 1 xs) st)
theorem isfr_ok {x : PV} {st : List SO} (h : P1 x) : F_is_fraction [x] st = .ok (.bl (frB x)) st := by
  cases x with
  | ty _ => exact h.1.elim
  | cls _ => exact h.1.elim
  | exc _ => exact h.1.elim
  | ref _ => exact h.1.elim
  | tup ys =>
    rcases ys with _ | ⟨a, _ | ⟨b, _ | ⟨c, l⟩⟩⟩
    · simp only [F_is_fraction, g_is_fraction, gSlN_eq, slN_r, slN_l, slNK_s, gRevN_eq, revN_r, revNK_s, tupleV_r, tupleV_l, gCallV_eq, gLend_eq, isNotBV_b, gRep_eq, repR_r, gZip_eq, zipR_t, zipR_l, gTry_eq, tryK_nx, tryK_ret, begin_eq, allR_nx, allR_ret, allR_exc, gSkip_eq, gSeq_eq, seqK_nx, seqK_ret, seqK_exc, toS_ok, toS_exc, toST_ok, toST_exc, toSL_ok, toSL_exc, gRet_eq, gAsg_eq, gSet_eq, gExpr_eq, gIfS_eq, gRaise_eq, gBin_eq, gUn_eq, gVar_eq, slotR_some, gC_eq, gArgs_nil, gArgs_cons, gTupE_eq, gLstE_eq, gNewE_eq, gCall_eq, gBi_eq, gB_eq, asB_bl, gAnd_eq, gOr_eq, gNot_eq, gVT_eq, gIf_eq, gChain_eq, chK_t, chK_f, chK_b, bnd_ok, bnd_exc, oo_some, gTo_eq, toK_some, tgName_eq, tgNil_eq, tgCons_eq, tgTup_eq, bind_some, gPar_eq, gCat_eq, catR_r, listV_t, listV_l, blsOf_nil, blsOf_cons, allV_l, isNV_d, notNV_d, parK_ok, parK_exc, gStore_eq, stK_some, gMeth_eq, gFor_eq, gRng1_eq, asI_i, gItL_eq, gItT_eq, asLst_l, asTup_t, addV_ii, subV_ii, mulV_ii, fdivV_ii, modV_ii, shlV_ii, pw6, pw9, pw18, pw19, pw20, pw25, pw30, pw39, ltV_ii, leV_ii, gtV_ii, geV_ii, negV_i, isNV_n, isNV_t, isNV_l, isNV_i, isNV_s, isNV_r, isNV_b, notNV_n, notNV_t, notNV_l, notNV_i, notNV_s, notNV_r, notNV_b, ixV_t, ixV_l, ixV_r, lenV_t, lenV_l, lenV_r, absV_i, max2V_ii, min2V_ii, bitsV_i, setIV_r, setK_some, setL_some, appendM_r, appK_some, appN_ok, isT_r, isK_l, lstK_some, tyK_l, isT_s, isiV_eq, tyN_int, tyN_bl, tyN_non, tyN_str, tyN_tup, tyN_lst, tyN_dct, tyN_r, kk_int_bool, kitK_t, kk_int_str, kk_int_tuple, kk_int_list, kk_int_dict, kk_int_NoneType, kk_bool_int, kk_bool_str, kk_bool_tuple, kk_bool_list, kk_bool_dict, kk_bool_NoneType, kk_str_int, kk_str_bool, kk_str_tuple, kk_str_list, kk_str_dict, kk_str_NoneType, kk_tuple_int, kk_tuple_bool, kk_tuple_str, kk_tuple_list, kk_tuple_dict, kk_tuple_NoneType, kk_list_int, kk_list_bool, kk_list_str, kk_list_tuple, kk_list_dict, kk_list_NoneType, kk_dict_int, kk_dict_bool, kk_dict_str, kk_dict_tuple, kk_dict_list, kk_dict_NoneType, eqV_int, neV_int, isBV_b, neV_bl, eqV_bl, eqV_ii, neV_ii, isNV_fr, notNV_fr, ixV_fr0, ixV_fr1, eqV_fr, neV_fr, int1V_b, int1V_i, ixV_hp0, ixV_hp1, isNV_hp, eqV_hp, neV_hp, tyN_fr, lenV_fr, at0, at1, at2, at3, at4, at5, ixN0, ixN1, List.map_cons, List.map_nil, List.replicate, List.cons_append, List.nil_append, List.getElem?_cons_zero, List.getElem?_cons_succ, List.set_cons_zero, List.set_cons_succ, Bool.not_true, Bool.not_false, Bool.false_eq_true, if_true, if_false, ite_true, ite_false, reduceIte, Nat.reduceSub, Nat.reduceAdd, ne_eq, Int.cast_ofNat_Int, Int.reduceBEq, Int.reduceLT, Int.reduceLE, Int.reduceEq, Int.reduceNeg, Int.reduceMul, Int.reduceAdd, Int.reduceSub, decide_true, decide_false, List.length_cons, List.length_nil, beq_self_eq_true, not_false_eq_true, not_true_eq_false, frB, Int.natCast_zero, List.length_nil, Int.reduceBEq, Int.reduceEq]
    · simp only [F_is_fraction, g_is_fraction, gSlN_eq, slN_r, slN_l, slNK_s, gRevN_eq, revN_r, revNK_s, tupleV_r, tupleV_l, gCallV_eq, gLend_eq, isNotBV_b, gRep_eq, repR_r, gZip_eq, zipR_t, zipR_l, gTry_eq, tryK_nx, tryK_ret, begin_eq, allR_nx, allR_ret, allR_exc, gSkip_eq, gSeq_eq, seqK_nx, seqK_ret, seqK_exc, toS_ok, toS_exc, toST_ok, toST_exc, toSL_ok, toSL_exc, gRet_eq, gAsg_eq, gSet_eq, gExpr_eq, gIfS_eq, gRaise_eq, gBin_eq, gUn_eq, gVar_eq, slotR_some, gC_eq, gArgs_nil, gArgs_cons, gTupE_eq, gLstE_eq, gNewE_eq, gCall_eq, gBi_eq, gB_eq, asB_bl, gAnd_eq, gOr_eq, gNot_eq, gVT_eq, gIf_eq, gChain_eq, chK_t, chK_f, chK_b, bnd_ok, bnd_exc, oo_some, gTo_eq, toK_some, tgName_eq, tgNil_eq, tgCons_eq, tgTup_eq, bind_some, gPar_eq, gCat_eq, catR_r, listV_t, listV_l, blsOf_nil, blsOf_cons, allV_l, isNV_d, notNV_d, parK_ok, parK_exc, gStore_eq, stK_some, gMeth_eq, gFor_eq, gRng1_eq, asI_i, gItL_eq, gItT_eq, asLst_l, asTup_t, addV_ii, subV_ii, mulV_ii, fdivV_ii, modV_ii, shlV_ii, pw6, pw9, pw18, pw19, pw20, pw25, pw30, pw39, ltV_ii, leV_ii, gtV_ii, geV_ii, negV_i, isNV_n, isNV_t, isNV_l, isNV_i, isNV_s, isNV_r, isNV_b, notNV_n, notNV_t, notNV_l, notNV_i, notNV_s, notNV_r, notNV_b, ixV_t, ixV_l, ixV_r, lenV_t, lenV_l, lenV_r, absV_i, max2V_ii, min2V_ii, bitsV_i, setIV_r, setK_some, setL_some, appendM_r, appK_some, appN_ok, isT_r, isK_l, lstK_some, tyK_l, isT_s, isiV_eq, tyN_int, tyN_bl, tyN_non, tyN_str, tyN_tup, tyN_lst, tyN_dct, tyN_r, kk_int_bool, kitK_t, kk_int_str, kk_int_tuple, kk_int_list, kk_int_dict, kk_int_NoneType, kk_bool_int, kk_bool_str, kk_bool_tuple, kk_bool_list, kk_bool_dict, kk_bool_NoneType, kk_str_int, kk_str_bool, kk_str_tuple, kk_str_list, kk_str_dict, kk_str_NoneType, kk_tuple_int, kk_tuple_bool, kk_tuple_str, kk_tuple_list, kk_tuple_dict, kk_tuple_NoneType, kk_list_int, kk_list_bool, kk_list_str, kk_list_tuple, kk_list_dict, kk_list_NoneType, kk_dict_int, kk_dict_bool, kk_dict_str, kk_dict_tuple, kk_dict_list, kk_dict_NoneType, eqV_int, neV_int, isBV_b, neV_bl, eqV_bl, eqV_ii, neV_ii, isNV_fr, notNV_fr, ixV_fr0, ixV_fr1, eqV_fr, neV_fr, int1V_b, int1V_i, ixV_hp0, ixV_hp1, isNV_hp, eqV_hp, neV_hp, tyN_fr, lenV_fr, at0, at1, at2, at3, at4, at5, ixN0, ixN1, List.map_cons, List.map_nil, List.replicate, List.cons_append, List.nil_append, List.getElem?_cons_zero, List.getElem?_cons_succ, List.set_cons_zero, List.set_cons_succ, Bool.not_true, Bool.not_false, Bool.false_eq_true, if_true, if_false, ite_true, ite_false, reduceIte, Nat.reduceSub, Nat.reduceAdd, ne_eq, Int.cast_ofNat_Int, Int.reduceBEq, Int.reduceLT, Int.reduceLE, Int.reduceEq, Int.reduceNeg, Int.reduceMul, Int.reduceAdd, Int.reduceSub, decide_true, decide_false, List.length_cons, List.length_nil, beq_self_eq_true, not_false_eq_true, not_true_eq_false, frB, List.length_cons, List.length_nil]
    · have ha := h.2 _ rfl a (by simp)
      have hb := h.2 _ rfl b (by simp)
      have e1 := whole_ok (st := st) ha
      have e2 := whole_ok (st := st) hb
      have i0 : atI [a, b] 0 = some a := at0
      have i1 : atI [a, b] 1 = some b := at1
      have l2 : ((([a, b] : List PV).length : Int) == 2) = true := rfl
      cases a with
      | int i => cases b with
        | int j =>
          simp only [whB] at e1 e2
          simp only [F_is_fraction, g_is_fraction, gSlN_eq, slN_r, slN_l, slNK_s, gRevN_eq, revN_r, revNK_s, tupleV_r, tupleV_l, gCallV_eq, gLend_eq, isNotBV_b, gRep_eq, repR_r, gZip_eq, zipR_t, zipR_l, gTry_eq, tryK_nx, tryK_ret, begin_eq, allR_nx, allR_ret, allR_exc, gSkip_eq, gSeq_eq, seqK_nx, seqK_ret, seqK_exc, toS_ok, toS_exc, toST_ok, toST_exc, toSL_ok, toSL_exc, gRet_eq, gAsg_eq, gSet_eq, gExpr_eq, gIfS_eq, gRaise_eq, gBin_eq, gUn_eq, gVar_eq, slotR_some, gC_eq, gArgs_nil, gArgs_cons, gTupE_eq, gLstE_eq, gNewE_eq, gCall_eq, gBi_eq, gB_eq, asB_bl, gAnd_eq, gOr_eq, gNot_eq, gVT_eq, gIf_eq, gChain_eq, chK_t, chK_f, chK_b, bnd_ok, bnd_exc, oo_some, gTo_eq, toK_some, tgName_eq, tgNil_eq, tgCons_eq, tgTup_eq, bind_some, gPar_eq, gCat_eq, catR_r, listV_t, listV_l, blsOf_nil, blsOf_cons, allV_l, isNV_d, notNV_d, parK_ok, parK_exc, gStore_eq, stK_some, gMeth_eq, gFor_eq, gRng1_eq, asI_i, gItL_eq, gItT_eq, asLst_l, asTup_t, addV_ii, subV_ii, mulV_ii, fdivV_ii, modV_ii, shlV_ii, pw6, pw9, pw18, pw19, pw20, pw25, pw30, pw39, ltV_ii, leV_ii, gtV_ii, geV_ii, negV_i, isNV_n, isNV_t, isNV_l, isNV_i, isNV_s, isNV_r, isNV_b, notNV_n, notNV_t, notNV_l, notNV_i, notNV_s, notNV_r, notNV_b, ixV_t, ixV_l, ixV_r, lenV_t, lenV_l, lenV_r, absV_i, max2V_ii, min2V_ii, bitsV_i, setIV_r, setK_some, setL_some, appendM_r, appK_some, appN_ok, isT_r, isK_l, lstK_some, tyK_l, isT_s, isiV_eq, tyN_int, tyN_bl, tyN_non, tyN_str, tyN_tup, tyN_lst, tyN_dct, tyN_r, kk_int_bool, kitK_t, kk_int_str, kk_int_tuple, kk_int_list, kk_int_dict, kk_int_NoneType, kk_bool_int, kk_bool_str, kk_bool_tuple, kk_bool_list, kk_bool_dict, kk_bool_NoneType, kk_str_int, kk_str_bool, kk_str_tuple, kk_str_list, kk_str_dict, kk_str_NoneType, kk_tuple_int, kk_tuple_bool, kk_tuple_str, kk_tuple_list, kk_tuple_dict, kk_tuple_NoneType, kk_list_int, kk_list_bool, kk_list_str, kk_list_tuple, kk_list_dict, kk_list_NoneType, kk_dict_int, kk_dict_bool, kk_dict_str, kk_dict_tuple, kk_dict_list, kk_dict_NoneType, eqV_int, neV_int, isBV_b, neV_bl, eqV_bl, eqV_ii, neV_ii, isNV_fr, notNV_fr, ixV_fr0, ixV_fr1, eqV_fr, neV_fr, int1V_b, int1V_i, ixV_hp0, ixV_hp1, isNV_hp, eqV_hp, neV_hp, tyN_fr, lenV_fr, at0, at1, at2, at3, at4, at5, ixN0, ixN1, List.map_cons, List.map_nil, List.replicate, List.cons_append, List.nil_append, List.getElem?_cons_zero, List.getElem?_cons_succ, List.set_cons_zero, List.set_cons_succ, Bool.not_true, Bool.not_false, Bool.false_eq_true, if_true, if_false, ite_true, ite_false, reduceIte, Nat.reduceSub, Nat.reduceAdd, ne_eq, Int.cast_ofNat_Int, Int.reduceBEq, Int.reduceLT, Int.reduceLE, Int.reduceEq, Int.reduceNeg, Int.reduceMul, Int.reduceAdd, Int.reduceSub, decide_true, decide_false, List.length_cons, List.length_nil, beq_self_eq_true, not_false_eq_true, not_true_eq_false, e1, e2, i0, i1, l2, frB, common_ok]
          cases decide (0 < j) <;> simp only [gSlN_eq, slN_r, slN_l, slNK_s, gRevN_eq, revN_r, revNK_s, tupleV_r, tupleV_l, gCallV_eq, gLend_eq, isNotBV_b, gRep_eq, repR_r, gZip_eq, zipR_t, zipR_l, gTry_eq, tryK_nx, tryK_ret, begin_eq, allR_nx, allR_ret, allR_exc, gSkip_eq, gSeq_eq, seqK_nx, seqK_ret, seqK_exc, toS_ok, toS_exc, toST_ok, toST_exc, toSL_ok, toSL_exc, gRet_eq, gAsg_eq, gSet_eq, gExpr_eq, gIfS_eq, gRaise_eq, gBin_eq, gUn_eq, gVar_eq, slotR_some, gC_eq, gArgs_nil, gArgs_cons, gTupE_eq, gLstE_eq, gNewE_eq, gCall_eq, gBi_eq, gB_eq, asB_bl, gAnd_eq, gOr_eq, gNot_eq, gVT_eq, gIf_eq, gChain_eq, chK_t, chK_f, chK_b, bnd_ok, bnd_exc, oo_some, gTo_eq, toK_some, tgName_eq, tgNil_eq, tgCons_eq, tgTup_eq, bind_some, gPar_eq, gCat_eq, catR_r, listV_t, listV_l, blsOf_nil, blsOf_cons, allV_l, isNV_d, notNV_d, parK_ok, parK_exc, gStore_eq, stK_some, gMeth_eq, gFor_eq, gRng1_eq, asI_i, gItL_eq, gItT_eq, asLst_l, asTup_t, addV_ii, subV_ii, mulV_ii, fdivV_ii, modV_ii, shlV_ii, pw6, pw9, pw18, pw19, pw20, pw25, pw30, pw39, ltV_ii, leV_ii, gtV_ii, geV_ii, negV_i, isNV_n, isNV_t, isNV_l, isNV_i, isNV_s, isNV_r, isNV_b, notNV_n, notNV_t, notNV_l, notNV_i, notNV_s, notNV_r, notNV_b, ixV_t, ixV_l, ixV_r, lenV_t, lenV_l, lenV_r, absV_i, max2V_ii, min2V_ii, bitsV_i, setIV_r, setK_some, setL_some, appendM_r, appK_some, appN_ok, isT_r, isK_l, lstK_some, tyK_l, isT_s, isiV_eq, tyN_int, tyN_bl, tyN_non, tyN_str, tyN_tup, tyN_lst, tyN_dct, tyN_r, kk_int_bool, kitK_t, kk_int_str, kk_int_tuple, kk_int_list, kk_int_dict, kk_int_NoneType, kk_bool_int, kk_bool_str, kk_bool_tuple, kk_bool_list, kk_bool_dict, kk_bool_NoneType, kk_str_int, kk_str_bool, kk_str_tuple, kk_str_list, kk_str_dict, kk_str_NoneType, kk_tuple_int, kk_tuple_bool, kk_tuple_str, kk_tuple_list, kk_tuple_dict, kk_tuple_NoneType, kk_list_int, kk_list_bool, kk_list_str, kk_list_tuple, kk_list_dict, kk_list_NoneType, kk_dict_int, kk_dict_bool, kk_dict_str, kk_dict_tuple, kk_dict_list, kk_dict_NoneType, eqV_int, neV_int, isBV_b, neV_bl, eqV_bl, eqV_ii, neV_ii, isNV_fr, notNV_fr, ixV_fr0, ixV_fr1, eqV_fr, neV_fr, int1V_b, int1V_i, ixV_hp0, ixV_hp1, isNV_hp, eqV_hp, neV_hp, tyN_fr, lenV_fr, at0, at1, at2, at3, at4, at5, ixN0, ixN1, List.map_cons, List.map_nil, List.replicate, List.cons_append, List.nil_append, List.getElem?_cons_zero, List.getElem?_cons_succ, List.set_cons_zero, List.set_cons_succ, Bool.not_true, Bool.not_false, Bool.false_eq_true, if_true, if_false, ite_true, ite_false, reduceIte, Nat.reduceSub, Nat.reduceAdd, ne_eq, Int.cast_ofNat_Int, Int.reduceBEq, Int.reduceLT, Int.reduceLE, Int.reduceEq, Int.reduceNeg, Int.reduceMul, Int.reduceAdd, Int.reduceSub, decide_true, decide_false, List.length_cons, List.length_nil, beq_self_eq_true, not_false_eq_true, not_true_eq_false, Bool.true_and, Bool.false_and]
        | _ =>
          simp only [whB] at e1 e2
          simp only [F_is_fraction, g_is_fraction, gSlN_eq, slN_r, slN_l, slNK_s, gRevN_eq, revN_r, revNK_s, tupleV_r, tupleV_l, gCallV_eq, gLend_eq, isNotBV_b, gRep_eq, repR_r, gZip_eq, zipR_t, zipR_l, gTry_eq, tryK_nx, tryK_ret, begin_eq, allR_nx, allR_ret, allR_exc, gSkip_eq, gSeq_eq, seqK_nx, seqK_ret, seqK_exc, toS_ok, toS_exc, toST_ok, toST_exc, toSL_ok, toSL_exc, gRet_eq, gAsg_eq, gSet_eq, gExpr_eq, gIfS_eq, gRaise_eq, gBin_eq, gUn_eq, gVar_eq, slotR_some, gC_eq, gArgs_nil, gArgs_cons, gTupE_eq, gLstE_eq, gNewE_eq, gCall_eq, gBi_eq, gB_eq, asB_bl, gAnd_eq, gOr_eq, gNot_eq, gVT_eq, gIf_eq, gChain_eq, chK_t, chK_f, chK_b, bnd_ok, bnd_exc, oo_some, gTo_eq, toK_some, tgName_eq, tgNil_eq, tgCons_eq, tgTup_eq, bind_some, gPar_eq, gCat_eq, catR_r, listV_t, listV_l, blsOf_nil, blsOf_cons, allV_l, isNV_d, notNV_d, parK_ok, parK_exc, gStore_eq, stK_some, gMeth_eq, gFor_eq, gRng1_eq, asI_i, gItL_eq, gItT_eq, asLst_l, asTup_t, addV_ii, subV_ii, mulV_ii, fdivV_ii, modV_ii, shlV_ii, pw6, pw9, pw18, pw19, pw20, pw25, pw30, pw39, ltV_ii, leV_ii, gtV_ii, geV_ii, negV_i, isNV_n, isNV_t, isNV_l, isNV_i, isNV_s, isNV_r, isNV_b, notNV_n, notNV_t, notNV_l, notNV_i, notNV_s, notNV_r, notNV_b, ixV_t, ixV_l, ixV_r, lenV_t, lenV_l, lenV_r, absV_i, max2V_ii, min2V_ii, bitsV_i, setIV_r, setK_some, setL_some, appendM_r, appK_some, appN_ok, isT_r, isK_l, lstK_some, tyK_l, isT_s, isiV_eq, tyN_int, tyN_bl, tyN_non, tyN_str, tyN_tup, tyN_lst, tyN_dct, tyN_r, kk_int_bool, kitK_t, kk_int_str, kk_int_tuple, kk_int_list, kk_int_dict, kk_int_NoneType, kk_bool_int, kk_bool_str, kk_bool_tuple, kk_bool_list, kk_bool_dict, kk_bool_NoneType, kk_str_int, kk_str_bool, kk_str_tuple, kk_str_list, kk_str_dict, kk_str_NoneType, kk_tuple_int, kk_tuple_bool, kk_tuple_str, kk_tuple_list, kk_tuple_dict, kk_tuple_NoneType, kk_list_int, kk_list_bool, kk_list_str, kk_list_tuple, kk_list_dict, kk_list_NoneType, kk_dict_int, kk_dict_bool, kk_dict_str, kk_dict_tuple, kk_dict_list, kk_dict_NoneType, eqV_int, neV_int, isBV_b, neV_bl, eqV_bl, eqV_ii, neV_ii, isNV_fr, notNV_fr, ixV_fr0, ixV_fr1, eqV_fr, neV_fr, int1V_b, int1V_i, ixV_hp0, ixV_hp1, isNV_hp, eqV_hp, neV_hp, tyN_fr, lenV_fr, at0, at1, at2, at3, at4, at5, ixN0, ixN1, List.map_cons, List.map_nil, List.replicate, List.cons_append, List.nil_append, List.getElem?_cons_zero, List.getElem?_cons_succ, List.set_cons_zero, List.set_cons_succ, Bool.not_true, Bool.not_false, Bool.false_eq_true, if_true, if_false, ite_true, ite_false, reduceIte, Nat.reduceSub, Nat.reduceAdd, ne_eq, Int.cast_ofNat_Int, Int.reduceBEq, Int.reduceLT, Int.reduceLE, Int.reduceEq, Int.reduceNeg, Int.reduceMul, Int.reduceAdd, Int.reduceSub, decide_true, decide_false, List.length_cons, List.length_nil, beq_self_eq_true, not_false_eq_true, not_true_eq_false, e1, e2, i0, i1, l2, frB]
      | _ =>
        simp only [whB] at e1 e2
        simp only [F_is_fraction, g_is_fraction, gSlN_eq, slN_r, slN_l, slNK_s, gRevN_eq, revN_r, revNK_s, tupleV_r, tupleV_l, gCallV_eq, gLend_eq, isNotBV_b, gRep_eq, repR_r, gZip_eq, zipR_t, zipR_l, gTry_eq, tryK_nx, tryK_ret, begin_eq, allR_nx, allR_ret, allR_exc, gSkip_eq, gSeq_eq, seqK_nx, seqK_ret, seqK_exc, toS_ok, toS_exc, toST_ok, toST_exc, toSL_ok, toSL_exc, gRet_eq, gAsg_eq, gSet_eq, gExpr_eq, gIfS_eq, gRaise_eq, gBin_eq, gUn_eq, gVar_eq, slotR_some, gC_eq, gArgs_nil, gArgs_cons, gTupE_eq, gLstE_eq, gNewE_eq, gCall_eq, gBi_eq, gB_eq, asB_bl, gAnd_eq, gOr_eq, gNot_eq, gVT_eq, gIf_eq, gChain_eq, chK_t, chK_f, chK_b, bnd_ok, bnd_exc, oo_some, gTo_eq, toK_some, tgName_eq, tgNil_eq, tgCons_eq, tgTup_eq, bind_some, gPar_eq, gCat_eq, catR_r, listV_t, listV_l, blsOf_nil, blsOf_cons, allV_l, isNV_d, notNV_d, parK_ok, parK_exc, gStore_eq, stK_some, gMeth_eq, gFor_eq, gRng1_eq, asI_i, gItL_eq, gItT_eq, asLst_l, asTup_t, addV_ii, subV_ii, mulV_ii, fdivV_ii, modV_ii, shlV_ii, pw6, pw9, pw18, pw19, pw20, pw25, pw30, pw39, ltV_ii, leV_ii, gtV_ii, geV_ii, negV_i, isNV_n, isNV_t, isNV_l, isNV_i, isNV_s, isNV_r, isNV_b, notNV_n, notNV_t, notNV_l, notNV_i, notNV_s, notNV_r, notNV_b, ixV_t, ixV_l, ixV_r, lenV_t, lenV_l, lenV_r, absV_i, max2V_ii, min2V_ii, bitsV_i, setIV_r, setK_some, setL_some, appendM_r, appK_some, appN_ok, isT_r, isK_l, lstK_some, tyK_l, isT_s, isiV_eq, tyN_int, tyN_bl, tyN_non, tyN_str, tyN_tup, tyN_lst, tyN_dct, tyN_r, kk_int_bool, kitK_t, kk_int_str, kk_int_tuple, kk_int_list, kk_int_dict, kk_int_NoneType, kk_bool_int, kk_bool_str, kk_bool_tuple, kk_bool_list, kk_bool_dict, kk_bool_NoneType, kk_str_int, kk_str_bool, kk_str_tuple, kk_str_list, kk_str_dict, kk_str_NoneType, kk_tuple_int, kk_tuple_bool, kk_tuple_str, kk_tuple_list, kk_tuple_dict, kk_tuple_NoneType, kk_list_int, kk_list_bool, kk_list_str, kk_list_tuple, kk_list_dict, kk_list_NoneType, kk_dict_int, kk_dict_bool, kk_dict_str, kk_dict_tuple, kk_dict_list, kk_dict_NoneType, eqV_int, neV_int, isBV_b, neV_bl, eqV_bl, eqV_ii, neV_ii, isNV_fr, notNV_fr, ixV_fr0, ixV_fr1, eqV_fr, neV_fr, int1V_b, int1V_i, ixV_hp0, ixV_hp1, isNV_hp, eqV_hp, neV_hp, tyN_fr, lenV_fr, at0, at1, at2, at3, at4, at5, ixN0, ixN1, List.map_cons, List.map_nil, List.replicate, List.cons_append, List.nil_append, List.getElem?_cons_zero, List.getElem?_cons_succ, List.set_cons_zero, List.set_cons_succ, Bool.not_true, Bool.not_false, Bool.false_eq_true, if_true, if_false, ite_true, ite_false, reduceIte, Nat.reduceSub, Nat.reduceAdd, ne_eq, Int.cast_ofNat_Int, Int.reduceBEq, Int.reduceLT, Int.reduceLE, Int.reduceEq, Int.reduceNeg, Int.reduceMul, Int.reduceAdd, Int.reduceSub, decide_true, decide_false, List.length_cons, List.length_nil, beq_self_eq_true, not_false_eq_true, not_true_eq_false, e1, e2, i0, i1, l2, frB]
    · have l3 := len3 l.length
      simp only [F_is_fraction, g_is_fraction, gSlN_eq, slN_r, slN_l, slNK_s, gRevN_eq, revN_r, revNK_s, tupleV_r, tupleV_l, gCallV_eq, gLend_eq, isNotBV_b, gRep_eq, repR_r, gZip_eq, zipR_t, zipR_l, gTry_eq, tryK_nx, tryK_ret, begin_eq, allR_nx, allR_ret, allR_exc, gSkip_eq, gSeq_eq, seqK_nx, seqK_ret, seqK_exc, toS_ok, toS_exc, toST_ok, toST_exc, toSL_ok, toSL_exc, gRet_eq, gAsg_eq, gSet_eq, gExpr_eq, gIfS_eq, gRaise_eq, gBin_eq, gUn_eq, gVar_eq, slotR_some, gC_eq, gArgs_nil, gArgs_cons, gTupE_eq, gLstE_eq, gNewE_eq, gCall_eq, gBi_eq, gB_eq, asB_bl, gAnd_eq, gOr_eq, gNot_eq, gVT_eq, gIf_eq, gChain_eq, chK_t, chK_f, chK_b, bnd_ok, bnd_exc, oo_some, gTo_eq, toK_some, tgName_eq, tgNil_eq, tgCons_eq, tgTup_eq, bind_some, gPar_eq, gCat_eq, catR_r, listV_t, listV_l, blsOf_nil, blsOf_cons, allV_l, isNV_d, notNV_d, parK_ok, parK_exc, gStore_eq, stK_some, gMeth_eq, gFor_eq, gRng1_eq, asI_i, gItL_eq, gItT_eq, asLst_l, asTup_t, addV_ii, subV_ii, mulV_ii, fdivV_ii, modV_ii, shlV_ii, pw6, pw9, pw18, pw19, pw20, pw25, pw30, pw39, ltV_ii, leV_ii, gtV_ii, geV_ii, negV_i, isNV_n, isNV_t, isNV_l, isNV_i, isNV_s, isNV_r, isNV_b, notNV_n, notNV_t, notNV_l, notNV_i, notNV_s, notNV_r, notNV_b, ixV_t, ixV_l, ixV_r, lenV_t, lenV_l, lenV_r, absV_i, max2V_ii, min2V_ii, bitsV_i, setIV_r, setK_some, setL_some, appendM_r, appK_some, appN_ok, isT_r, isK_l, lstK_some, tyK_l, isT_s, isiV_eq, tyN_int, tyN_bl, tyN_non, tyN_str, tyN_tup, tyN_lst, tyN_dct, tyN_r, kk_int_bool, kitK_t, kk_int_str, kk_int_tuple, kk_int_list, kk_int_dict, kk_int_NoneType, kk_bool_int, kk_bool_str, kk_bool_tuple, kk_bool_list, kk_bool_dict, kk_bool_NoneType, kk_str_int, kk_str_bool, kk_str_tuple, kk_str_list, kk_str_dict, kk_str_NoneType, kk_tuple_int, kk_tuple_bool, kk_tuple_str, kk_tuple_list, kk_tuple_dict, kk_tuple_NoneType, kk_list_int, kk_list_bool, kk_list_str, kk_list_tuple, kk_list_dict, kk_list_NoneType, kk_dict_int, kk_dict_bool, kk_dict_str, kk_dict_tuple, kk_dict_list, kk_dict_NoneType, eqV_int, neV_int, isBV_b, neV_bl, eqV_bl, eqV_ii, neV_ii, isNV_fr, notNV_fr, ixV_fr0, ixV_fr1, eqV_fr, neV_fr, int1V_b, int1V_i, ixV_hp0, ixV_hp1, isNV_hp, eqV_hp, neV_hp, tyN_fr, lenV_fr, at0, at1, at2, at3, at4, at5, ixN0, ixN1, List.map_cons, List.map_nil, List.replicate, List.cons_append, List.nil_append, List.getElem?_cons_zero, List.getElem?_cons_succ, List.set_cons_zero, List.set_cons_succ, Bool.not_true, Bool.not_false, Bool.false_eq_true, if_true, if_false, ite_true, ite_false, reduceIte, Nat.reduceSub, Nat.reduceAdd, ne_eq, Int.cast_ofNat_Int, Int.reduceBEq, Int.reduceLT, Int.reduceLE, Int.reduceEq, Int.reduceNeg, Int.reduceMul, Int.reduceAdd, Int.reduceSub, decide_true, decide_false, List.length_cons, List.length_nil, beq_self_eq_true, not_false_eq_true, not_true_eq_false, frB, l3]
  | _ => simp only [F_is_fraction, g_is_fraction, gSlN_eq, slN_r, slN_l, slNK_s, gRevN_eq, revN_r, revNK_s, tupleV_r, tupleV_l, gCallV_eq, gLend_eq, isNotBV_b, gRep_eq, repR_r, gZip_eq, zipR_t, zipR_l, gTry_eq, tryK_nx, tryK_ret, begin_eq, allR_nx, allR_ret, allR_exc, gSkip_eq, gSeq_eq, seqK_nx, seqK_ret, seqK_exc, toS_ok, toS_exc, toST_ok, toST_exc, toSL_ok, toSL_exc, gRet_eq, gAsg_eq, gSet_eq, gExpr_eq, gIfS_eq, gRaise_eq, gBin_eq, gUn_eq, gVar_eq, slotR_some, gC_eq, gArgs_nil, gArgs_cons, gTupE_eq, gLstE_eq, gNewE_eq, gCall_eq, gBi_eq, gB_eq, asB_bl, gAnd_eq, gOr_eq, gNot_eq, gVT_eq, gIf_eq, gChain_eq, chK_t, chK_f, chK_b, bnd_ok, bnd_exc, oo_some, gTo_eq, toK_some, tgName_eq, tgNil_eq, tgCons_eq, tgTup_eq, bind_some, gPar_eq, gCat_eq, catR_r, listV_t, listV_l, blsOf_nil, blsOf_cons, allV_l, isNV_d, notNV_d, parK_ok, parK_exc, gStore_eq, stK_some, gMeth_eq, gFor_eq, gRng1_eq, asI_i, gItL_eq, gItT_eq, asLst_l, asTup_t, addV_ii, subV_ii, mulV_ii, fdivV_ii, modV_ii, shlV_ii, pw6, pw9, pw18, pw19, pw20, pw25, pw30, pw39, ltV_ii, leV_ii, gtV_ii, geV_ii, negV_i, isNV_n, isNV_t, isNV_l, isNV_i, isNV_s, isNV_r, isNV_b, notNV_n, notNV_t, notNV_l, notNV_i, notNV_s, notNV_r, notNV_b, ixV_t, ixV_l, ixV_r, lenV_t, lenV_l, lenV_r, absV_i, max2V_ii, min2V_ii, bitsV_i, setIV_r, setK_some, setL_some, appendM_r, appK_some, appN_ok, isT_r, isK_l, lstK_some, tyK_l, isT_s, isiV_eq, tyN_int, tyN_bl, tyN_non, tyN_str, tyN_tup, tyN_lst, tyN_dct, tyN_r, kk_int_bool, kitK_t, kk_int_str, kk_int_tuple, kk_int_list, kk_int_dict, kk_int_NoneType, kk_bool_int, kk_bool_str, kk_bool_tuple, kk_bool_list, kk_bool_dict, kk_bool_NoneType, kk_str_int, kk_str_bool, kk_str_tuple, kk_str_list, kk_str_dict, kk_str_NoneType, kk_tuple_int, kk_tuple_bool, kk_tuple_str, kk_tuple_list, kk_tuple_dict, kk_tuple_NoneType, kk_list_int, kk_list_bool, kk_list_str, kk_list_tuple, kk_list_dict, kk_list_NoneType, kk_dict_int, kk_dict_bool, kk_dict_str, kk_dict_tuple, kk_dict_list, kk_dict_NoneType, eqV_int, neV_int, isBV_b, neV_bl, eqV_bl, eqV_ii, neV_ii, isNV_fr, notNV_fr, ixV_fr0, ixV_fr1, eqV_fr, neV_fr, int1V_b, int1V_i, ixV_hp0, ixV_hp1, isNV_hp, eqV_hp, neV_hp, tyN_fr, lenV_fr, at0, at1, at2, at3, at4, at5, ixN0, ixN1, List.map_cons, List.map_nil, List.replicate, List.cons_append, List.nil_append, List.getElem?_cons_zero, List.getElem?_cons_succ, List.set_cons_zero, List.set_cons_succ, Bool.not_true, Bool.not_false, Bool.false_eq_true, if_true, if_false, ite_true, ite_false, reduceIte, Nat.reduceSub, Nat.reduceAdd, ne_eq, Int.cast_ofNat_Int, Int.reduceBEq, Int.reduceLT, Int.reduceLE, Int.reduceEq, Int.reduceNeg, Int.reduceMul, Int.reduceAdd, Int.reduceSub, decide_true, decide_false, List.length_cons, List.length_nil, beq_self_eq_true, not_false_eq_true, not_true_eq_false, frB]
theorem isfr_fr (q : Rat) {st : List SO} : F_is_fraction [fr q] st = .ok (.bl true) st := by
  have h := frB_fr q
  unfold frB fr at h
  have d := dpos q
  simp only [d, decide_true, Bool.true_and] at h
  have l2 : ((([PV.int q.num, .int (q.den : Int)] : List PV).length : Int) == 2) = true := rfl
  simp only [F_is_fraction, g_is_fraction, gSlN_eq, slN_r, slN_l, slNK_s, gRevN_eq, revN_r, revNK_s, tupleV_r, tupleV_l, gCallV_eq, gLend_eq, isNotBV_b, gRep_eq, repR_r, gZip_eq, zipR_t, zipR_l, gTry_eq, tryK_nx, tryK_ret, begin_eq, allR_nx, allR_ret, allR_exc, gSkip_eq, gSeq_eq, seqK_nx, seqK_ret, seqK_exc, toS_ok, toS_exc, toST_ok, toST_exc, toSL_ok, toSL_exc, gRet_eq, gAsg_eq, gSet_eq, gExpr_eq, gIfS_eq, gRaise_eq, gBin_eq, gUn_eq, gVar_eq, slotR_some, gC_eq, gArgs_nil, gArgs_cons, gTupE_eq, gLstE_eq, gNewE_eq, gCall_eq, gBi_eq, gB_eq, asB_bl, gAnd_eq, gOr_eq, gNot_eq, gVT_eq, gIf_eq, gChain_eq, chK_t, chK_f, chK_b, bnd_ok, bnd_exc, oo_some, gTo_eq, toK_some, tgName_eq, tgNil_eq, tgCons_eq, tgTup_eq, bind_some, gPar_eq, gCat_eq, catR_r, listV_t, listV_l, blsOf_nil, blsOf_cons, allV_l, isNV_d, notNV_d, parK_ok, parK_exc, gStore_eq, stK_some, gMeth_eq, gFor_eq, gRng1_eq, asI_i, gItL_eq, gItT_eq, asLst_l, asTup_t, addV_ii, subV_ii, mulV_ii, fdivV_ii, modV_ii, shlV_ii, pw6, pw9, pw18, pw19, pw20, pw25, pw30, pw39, ltV_ii, leV_ii, gtV_ii, geV_ii, negV_i, isNV_n, isNV_t, isNV_l, isNV_i, isNV_s, isNV_r, isNV_b, notNV_n, notNV_t, notNV_l, notNV_i, notNV_s, notNV_r, notNV_b, ixV_t, ixV_l, ixV_r, lenV_t, lenV_l, lenV_r, absV_i, max2V_ii, min2V_ii, bitsV_i, setIV_r, setK_some, setL_some, appendM_r, appK_some, appN_ok, isT_r, isK_l, lstK_some, tyK_l, isT_s, isiV_eq, tyN_int, tyN_bl, tyN_non, tyN_str, tyN_tup, tyN_lst, tyN_dct, tyN_r, kk_int_bool, kitK_t, kk_int_str, kk_int_tuple, kk_int_list, kk_int_dict, kk_int_NoneType, kk_bool_int, kk_bool_str, kk_bool_tuple, kk_bool_list, kk_bool_dict, kk_bool_NoneType, kk_str_int, kk_str_bool, kk_str_tuple, kk_str_list, kk_str_dict, kk_str_NoneType, kk_tuple_int, kk_tuple_bool, kk_tuple_str, kk_tuple_list, kk_tuple_dict, kk_tuple_NoneType, kk_list_int, kk_list_bool, kk_list_str, kk_list_tuple, kk_list_dict, kk_list_NoneType, kk_dict_int, kk_dict_bool, kk_dict_str, kk_dict_tuple, kk_dict_list, kk_dict_NoneType, eqV_int, neV_int, isBV_b, neV_bl, eqV_bl, eqV_ii, neV_ii, isNV_fr, notNV_fr, ixV_fr0, ixV_fr1, eqV_fr, neV_fr, int1V_b, int1V_i, ixV_hp0, ixV_hp1, isNV_hp, eqV_hp, neV_hp, tyN_fr, lenV_fr, at0, at1, at2, at3, at4, at5, ixN0, ixN1, List.map_cons, List.map_nil, List.replicate, List.cons_append, List.nil_append, List.getElem?_cons_zero, List.getElem?_cons_succ, List.set_cons_zero, List.set_cons_succ, Bool.not_true, Bool.not_false, Bool.false_eq_true, if_true, if_false, ite_true, ite_false, reduceIte, Nat.reduceSub, Nat.reduceAdd, ne_eq, Int.cast_ofNat_Int, Int.reduceBEq, Int.reduceLT, Int.reduceLE, Int.reduceEq, Int.reduceNeg, Int.reduceMul, Int.reduceAdd, Int.reduceSub, decide_true, decide_false, List.length_cons, List.length_nil, beq_self_eq_true, not_false_eq_true, not_true_eq_false, fr, whole_i, common_ok, d, h]

noncomputable def g_is_hap (F_is_fraction : Fn) : GS :=
  (gRet (gVT (gAnd (gB (gBi isiV [(gVar 0), (gC (.ty "tuple"))])) (gAnd (gB (gBin eqV (gBi lenV [(gVar 0)]) (gC (.int 2)))) (gAnd (gB (gCall F_is_fraction [(gBin ixV (gVar 0) (gC (.int 0)))])) (gB (gCall F_is_fraction [(gBin ixV (gVar 0) (gC (.int 1)))])))))))
noncomputable def F_is_hap : Fn := fun xs st => allR (g_is_hap F_is_fraction (begin 1 1 xs) st)
theorem ishap_ok {x : PV} {st : List SO} (h : P2 x) : F_is_hap [x] st = .ok (.bl (hapB x)) st := by
  cases x with
  | ty _ => exact h.1.elim
  | cls _ => exact h.1.elim
  | exc _ => exact h.1.elim
  | ref _ => exact h.1.elim
  | tup ys =>
    rcases ys with _ | ⟨a, _ | ⟨b, _ | ⟨c, l⟩⟩⟩
    · simp only [F_is_hap, g_is_hap, gSlN_eq, slN_r, slN_l, slNK_s, gRevN_eq, revN_r, revNK_s, tupleV_r, tupleV_l, gCallV_eq, gLend_eq, isNotBV_b, gRep_eq, repR_r, gZip_eq, zipR_t, zipR_l, gTry_eq, tryK_nx, tryK_ret, begin_eq, allR_nx, allR_ret, allR_exc, gSkip_eq, gSeq_eq, seqK_nx, seqK_ret, seqK_exc, toS_ok, toS_exc, toST_ok, toST_exc, toSL_ok, toSL_exc, gRet_eq, gAsg_eq, gSet_eq, gExpr_eq, gIfS_eq, gRaise_eq, gBin_eq, gUn_eq, gVar_eq, slotR_some, gC_eq, gArgs_nil, gArgs_cons, gTupE_eq, gLstE_eq, gNewE_eq, gCall_eq, gBi_eq, gB_eq, asB_bl, gAnd_eq, gOr_eq, gNot_eq, gVT_eq, gIf_eq, gChain_eq, chK_t, chK_f, chK_b, bnd_ok, bnd_exc, oo_some, gTo_eq, toK_some, tgName_eq, tgNil_eq, tgCons_eq, tgTup_eq, bind_some, gPar_eq, gCat_eq, catR_r, listV_t, listV_l, blsOf_nil, blsOf_cons, allV_l, isNV_d, notNV_d, parK_ok, parK_exc, gStore_eq, stK_some, gMeth_eq, gFor_eq, gRng1_eq, asI_i, gItL_eq, gItT_eq, asLst_l, asTup_t, addV_ii, subV_ii, mulV_ii, fdivV_ii, modV_ii, shlV_ii, pw6, pw9, pw18, pw19, pw20, pw25, pw30, pw39, ltV_ii, leV_ii, gtV_ii, geV_ii, negV_i, isNV_n, isNV_t, isNV_l, isNV_i, isNV_s, isNV_r, isNV_b, notNV_n, notNV_t, notNV_l, notNV_i, notNV_s, notNV_r, notNV_b, ixV_t, ixV_l, ixV_r, lenV_t, lenV_l, lenV_r, absV_i, max2V_ii, min2V_ii, bitsV_i, setIV_r, setK_some, setL_some, appendM_r, appK_some, appN_ok, isT_r, isK_l, lstK_some, tyK_l, isT_s, isiV_eq, tyN_int, tyN_bl, tyN_non, tyN_str, tyN_tup, tyN_lst, tyN_dct, tyN_r, kk_int_bool, kitK_t, kk_int_str, kk_int_tuple, kk_int_list, kk_int_dict, kk_int_NoneType, kk_bool_int, kk_bool_str, kk_bool_tuple, kk_bool_list, kk_bool_dict, kk_bool_NoneType, kk_str_int, kk_str_bool, kk_str_tuple, kk_str_list, kk_str_dict, kk_str_NoneType, kk_tuple_int, kk_tuple_bool, kk_tuple_str, kk_tuple_list, kk_tuple_dict, kk_tuple_NoneType, kk_list_int, kk_list_bool, kk_list_str, kk_list_tuple, kk_list_dict, kk_list_NoneType, kk_dict_int, kk_dict_bool, kk_dict_str, kk_dict_tuple, kk_dict_list, kk_dict_NoneType, eqV_int, neV_int, isBV_b, neV_bl, eqV_bl, eqV_ii, neV_ii, isNV_fr, notNV_fr, ixV_fr0, ixV_fr1, eqV_fr, neV_fr, int1V_b, int1V_i, ixV_hp0, ixV_hp1, isNV_hp, eqV_hp, neV_hp, tyN_fr, lenV_fr, at0, at1, at2, at3, at4, at5, ixN0, ixN1, List.map_cons, List.map_nil, List.replicate, List.cons_append, List.nil_append, List.getElem?_cons_zero, List.getElem?_cons_succ, List.set_cons_zero, List.set_cons_succ, Bool.not_true, Bool.not_false, Bool.false_eq_true, if_true, if_false, ite_true, ite_false, reduceIte, Nat.reduceSub, Nat.reduceAdd, ne_eq, Int.cast_ofNat_Int, Int.reduceBEq, Int.reduceLT, Int.reduceLE, Int.reduceEq, Int.reduceNeg, Int.reduceMul, Int.reduceAdd, Int.reduceSub, decide_true, decide_false, List.length_cons, List.length_nil, beq_self_eq_true, not_false_eq_true, not_true_eq_false, hapB, Int.natCast_zero, List.length_nil, Int.reduceBEq, Int.reduceEq]
    · simp only [F_is_hap, g_is_hap, gSlN_eq, slN_r, slN_l, slNK_s, gRevN_eq, revN_r, revNK_s, tupleV_r, tupleV_l, gCallV_eq, gLend_eq, isNotBV_b, gRep_eq, repR_r, gZip_eq, zipR_t, zipR_l, gTry_eq, tryK_nx, tryK_ret, begin_eq, allR_nx, allR_ret, allR_exc, gSkip_eq, gSeq_eq, seqK_nx, seqK_ret, seqK_exc, toS_ok, toS_exc, toST_ok, toST_exc, toSL_ok, toSL_exc, gRet_eq, gAsg_eq, gSet_eq, gExpr_eq, gIfS_eq, gRaise_eq, gBin_eq, gUn_eq, gVar_eq, slotR_some, gC_eq, gArgs_nil, gArgs_cons, gTupE_eq, gLstE_eq, gNewE_eq, gCall_eq, gBi_eq, gB_eq, asB_bl, gAnd_eq, gOr_eq, gNot_eq, gVT_eq, gIf_eq, gChain_eq, chK_t, chK_f, chK_b, bnd_ok, bnd_exc, oo_some, gTo_eq, toK_some, tgName_eq, tgNil_eq, tgCons_eq, tgTup_eq, bind_some, gPar_eq, gCat_eq, catR_r, listV_t, listV_l, blsOf_nil, blsOf_cons, allV_l, isNV_d, notNV_d, parK_ok, parK_exc, gStore_eq, stK_some, gMeth_eq, gFor_eq, gRng1_eq, asI_i, gItL_eq, gItT_eq, asLst_l, asTup_t, addV_ii, subV_ii, mulV_ii, fdivV_ii, modV_ii, shlV_ii, pw6, pw9, pw18, pw19, pw20, pw25, pw30, pw39, ltV_ii, leV_ii, gtV_ii, geV_ii, negV_i, isNV_n, isNV_t, isNV_l, isNV_i, isNV_s, isNV_r, isNV_b, notNV_n, notNV_t, notNV_l, notNV_i, notNV_s, notNV_r, notNV_b, ixV_t, ixV_l, ixV_r, lenV_t, lenV_l, lenV_r, absV_i, max2V_ii, min2V_ii, bitsV_i, setIV_r, setK_some, setL_some, appendM_r, appK_some, appN_ok, isT_r, isK_l, lstK_some, tyK_l, isT_s, isiV_eq, tyN_int, tyN_bl, tyN_non, tyN_str, tyN_tup, tyN_lst, tyN_dct, tyN_r, kk_int_bool, kitK_t, kk_int_str, kk_int_tuple, kk_int_list, kk_int_dict, kk_int_NoneType, kk_bool_int, kk_bool_str, kk_bool_tuple, kk_bool_list, kk_bool_dict, kk_bool_NoneType, kk_str_int, kk_str_bool, kk_str_tuple, kk_str_list, kk_str_dict, kk_str_NoneType, kk_tuple_int, kk_tuple_bool, kk_tuple_str, kk_tuple_list, kk_tuple_dict, kk_tuple_NoneType, kk_list_int, kk_list_bool, kk_list_str, kk_list_tuple, kk_list_dict, kk_list_NoneType, kk_dict_int, kk_dict_bool, kk_dict_str, kk_dict_tuple, kk_dict_list, kk_dict_NoneType, eqV_int, neV_int, isBV_b, neV_bl, eqV_bl, eqV_ii, neV_ii, isNV_fr, notNV_fr, ixV_fr0, ixV_fr1, eqV_fr, neV_fr, int1V_b, int1V_i, ixV_hp0, ixV_hp1, isNV_hp, eqV_hp, neV_hp, tyN_fr, lenV_fr, at0, at1, at2, at3, at4, at5, ixN0, ixN1, List.map_cons, List.map_nil, List.replicate, List.cons_append, List.nil_append, List.getElem?_cons_zero, List.getElem?_cons_succ, List.set_cons_zero, List.set_cons_succ, Bool.not_true, Bool.not_false, Bool.false_eq_true, if_true, if_false, ite_true, ite_false, reduceIte, Nat.reduceSub, Nat.reduceAdd, ne_eq, Int.cast_ofNat_Int, Int.reduceBEq, Int.reduceLT, Int.reduceLE, Int.reduceEq, Int.reduceNeg, Int.reduceMul, Int.reduceAdd, Int.reduceSub, decide_true, decide_false, List.length_cons, List.length_nil, beq_self_eq_true, not_false_eq_true, not_true_eq_false, hapB, List.length_cons, List.length_nil]
    · have e1 := isfr_ok (st := st) (h.2 _ rfl a (by simp))
      have e2 := isfr_ok (st := st) (h.2 _ rfl b (by simp))
      have i0 : atI [a, b] 0 = some a := at0
      have i1 : atI [a, b] 1 = some b := at1
      have l2 : ((([a, b] : List PV).length : Int) == 2) = true := rfl
      simp only [F_is_hap, g_is_hap, gSlN_eq, slN_r, slN_l, slNK_s, gRevN_eq, revN_r, revNK_s, tupleV_r, tupleV_l, gCallV_eq, gLend_eq, isNotBV_b, gRep_eq, repR_r, gZip_eq, zipR_t, zipR_l, gTry_eq, tryK_nx, tryK_ret, begin_eq, allR_nx, allR_ret, allR_exc, gSkip_eq, gSeq_eq, seqK_nx, seqK_ret, seqK_exc, toS_ok, toS_exc, toST_ok, toST_exc, toSL_ok, toSL_exc, gRet_eq, gAsg_eq, gSet_eq, gExpr_eq, gIfS_eq, gRaise_eq, gBin_eq, gUn_eq, gVar_eq, slotR_some, gC_eq, gArgs_nil, gArgs_cons, gTupE_eq, gLstE_eq, gNewE_eq, gCall_eq, gBi_eq, gB_eq, asB_bl, gAnd_eq, gOr_eq, gNot_eq, gVT_eq, gIf_eq, gChain_eq, chK_t, chK_f, chK_b, bnd_ok, bnd_exc, oo_some, gTo_eq, toK_some, tgName_eq, tgNil_eq, tgCons_eq, tgTup_eq, bind_some, gPar_eq, gCat_eq, catR_r, listV_t, listV_l, blsOf_nil, blsOf_cons, allV_l, isNV_d, notNV_d, parK_ok, parK_exc, gStore_eq, stK_some, gMeth_eq, gFor_eq, gRng1_eq, asI_i, gItL_eq, gItT_eq, asLst_l, asTup_t, addV_ii, subV_ii, mulV_ii, fdivV_ii, modV_ii, shlV_ii, pw6, pw9, pw18, pw19, pw20, pw25, pw30, pw39, ltV_ii, leV_ii, gtV_ii, geV_ii, negV_i, isNV_n, isNV_t, isNV_l, isNV_i, isNV_s, isNV_r, isNV_b, notNV_n, notNV_t, notNV_l, notNV_i, notNV_s, notNV_r, notNV_b, ixV_t, ixV_l, ixV_r, lenV_t, lenV_l, lenV_r, absV_i, max2V_ii, min2V_ii, bitsV_i, setIV_r, setK_some, setL_some, appendM_r, appK_some, appN_ok, isT_r, isK_l, lstK_some, tyK_l, isT_s, isiV_eq, tyN_int, tyN_bl, tyN_non, tyN_str, tyN_tup, tyN_lst, tyN_dct, tyN_r, kk_int_bool, kitK_t, kk_int_str, kk_int_tuple, kk_int_list, kk_int_dict, kk_int_NoneType, kk_bool_int, kk_bool_str, kk_bool_tuple, kk_bool_list, kk_bool_dict, kk_bool_NoneType, kk_str_int, kk_str_bool, kk_str_tuple, kk_str_list, kk_str_dict, kk_str_NoneType, kk_tuple_int, kk_tuple_bool, kk_tuple_str, kk_tuple_list, kk_tuple_dict, kk_tuple_NoneType, kk_list_int, kk_list_bool, kk_list_str, kk_list_tuple, kk_list_dict, kk_list_NoneType, kk_dict_int, kk_dict_bool, kk_dict_str, kk_dict_tuple, kk_dict_list, kk_dict_NoneType, eqV_int, neV_int, isBV_b, neV_bl, eqV_bl, eqV_ii, neV_ii, isNV_fr, notNV_fr, ixV_fr0, ixV_fr1, eqV_fr, neV_fr, int1V_b, int1V_i, ixV_hp0, ixV_hp1, isNV_hp, eqV_hp, neV_hp, tyN_fr, lenV_fr, at0, at1, at2, at3, at4, at5, ixN0, ixN1, List.map_cons, List.map_nil, List.replicate, List.cons_append, List.nil_append, List.getElem?_cons_zero, List.getElem?_cons_succ, List.set_cons_zero, List.set_cons_succ, Bool.not_true, Bool.not_false, Bool.false_eq_true, if_true, if_false, ite_true, ite_false, reduceIte, Nat.reduceSub, Nat.reduceAdd, ne_eq, Int.cast_ofNat_Int, Int.reduceBEq, Int.reduceLT, Int.reduceLE, Int.reduceEq, Int.reduceNeg, Int.reduceMul, Int.reduceAdd, Int.reduceSub, decide_true, decide_false, List.length_cons, List.length_nil, beq_self_eq_true, not_false_eq_true, not_true_eq_false, e1, e2, i0, i1, l2, hapB]
      cases frB a <;> simp only [gSlN_eq, slN_r, slN_l, slNK_s, gRevN_eq, revN_r, revNK_s, tupleV_r, tupleV_l, gCallV_eq, gLend_eq, isNotBV_b, gRep_eq, repR_r, gZip_eq, zipR_t, zipR_l, gTry_eq, tryK_nx, tryK_ret, begin_eq, allR_nx, allR_ret, allR_exc, gSkip_eq, gSeq_eq, seqK_nx, seqK_ret, seqK_exc, toS_ok, toS_exc, toST_ok, toST_exc, toSL_ok, toSL_exc, gRet_eq, gAsg_eq, gSet_eq, gExpr_eq, gIfS_eq, gRaise_eq, gBin_eq, gUn_eq, gVar_eq, slotR_some, gC_eq, gArgs_nil, gArgs_cons, gTupE_eq, gLstE_eq, gNewE_eq, gCall_eq, gBi_eq, gB_eq, asB_bl, gAnd_eq, gOr_eq, gNot_eq, gVT_eq, gIf_eq, gChain_eq, chK_t, chK_f, chK_b, bnd_ok, bnd_exc, oo_some, gTo_eq, toK_some, tgName_eq, tgNil_eq, tgCons_eq, tgTup_eq, bind_some, gPar_eq, gCat_eq, catR_r, listV_t, listV_l, blsOf_nil, blsOf_cons, allV_l, isNV_d, notNV_d, parK_ok, parK_exc, gStore_eq, stK_some, gMeth_eq, gFor_eq, gRng1_eq, asI_i, gItL_eq, gItT_eq, asLst_l, asTup_t, addV_ii, subV_ii, mulV_ii, fdivV_ii, modV_ii, shlV_ii, pw6, pw9, pw18, pw19, pw20, pw25, pw30, pw39, ltV_ii, leV_ii, gtV_ii, geV_ii, negV_i, isNV_n, isNV_t, isNV_l, isNV_i, isNV_s, isNV_r, isNV_b, notNV_n, notNV_t, notNV_l, notNV_i, notNV_s, notNV_r, notNV_b, ixV_t, ixV_l, ixV_r, lenV_t, lenV_l, lenV_r, absV_i, max2V_ii, min2V_ii, bitsV_i, setIV_r, setK_some, setL_some, appendM_r, appK_some, appN_ok, isT_r, isK_l, lstK_some, tyK_l, isT_s, isiV_eq, tyN_int, tyN_bl, tyN_non, tyN_str, tyN_tup, tyN_lst, tyN_dct, tyN_r, kk_int_bool, kitK_t, kk_int_str, kk_int_tuple, kk_int_list, kk_int_dict, kk_int_NoneType, kk_bool_int, kk_bool_str, kk_bool_tuple, kk_bool_list, kk_bool_dict, kk_bool_NoneType, kk_str_int, kk_str_bool, kk_str_tuple, kk_str_list, kk_str_dict, kk_str_NoneType, kk_tuple_int, kk_tuple_bool, kk_tuple_str, kk_tuple_list, kk_tuple_dict, kk_tuple_NoneType, kk_list_int, kk_list_bool, kk_list_str, kk_list_tuple, kk_list_dict, kk_list_NoneType, kk_dict_int, kk_dict_bool, kk_dict_str, kk_dict_tuple, kk_dict_list, kk_dict_NoneType, eqV_int, neV_int, isBV_b, neV_bl, eqV_bl, eqV_ii, neV_ii, isNV_fr, notNV_fr, ixV_fr0, ixV_fr1, eqV_fr, neV_fr, int1V_b, int1V_i, ixV_hp0, ixV_hp1, isNV_hp, eqV_hp, neV_hp, tyN_fr, lenV_fr, at0, at1, at2, at3, at4, at5, ixN0, ixN1, List.map_cons, List.map_nil, List.replicate, List.cons_append, List.nil_append, List.getElem?_cons_zero, List.getElem?_cons_succ, List.set_cons_zero, List.set_cons_succ, Bool.not_true, Bool.not_false, Bool.false_eq_true, if_true, if_false, ite_true, ite_false, reduceIte, Nat.reduceSub, Nat.reduceAdd, ne_eq, Int.cast_ofNat_Int, Int.reduceBEq, Int.reduceLT, Int.reduceLE, Int.reduceEq, Int.reduceNeg, Int.reduceMul, Int.reduceAdd, Int.reduceSub, decide_true, decide_false, List.length_cons, List.length_nil, beq_self_eq_true, not_false_eq_true, not_true_eq_false, Bool.true_and, Bool.false_and]
    · have l3 := len3 l.length
      simp only [F_is_hap, g_is_hap, gSlN_eq, slN_r, slN_l, slNK_s, gRevN_eq, revN_r, revNK_s, tupleV_r, tupleV_l, gCallV_eq, gLend_eq, isNotBV_b, gRep_eq, repR_r, gZip_eq, zipR_t, zipR_l, gTry_eq, tryK_nx, tryK_ret, begin_eq, allR_nx, allR_ret, allR_exc, gSkip_eq, gSeq_eq, seqK_nx, seqK_ret, seqK_exc, toS_ok, toS_exc, toST_ok, toST_exc, toSL_ok, toSL_exc, gRet_eq, gAsg_eq, gSet_eq, gExpr_eq, gIfS_eq, gRaise_eq, gBin_eq, gUn_eq, gVar_eq, slotR_some, gC_eq, gArgs_nil, gArgs_cons, gTupE_eq, gLstE_eq, gNewE_eq, gCall_eq, gBi_eq, gB_eq, asB_bl, gAnd_eq, gOr_eq, gNot_eq, gVT_eq, gIf_eq, gChain_eq, chK_t, chK_f, chK_b, bnd_ok, bnd_exc, oo_some, gTo_eq, toK_some, tgName_eq, tgNil_eq, tgCons_eq, tgTup_eq, bind_some, gPar_eq, gCat_eq, catR_r, listV_t, listV_l, blsOf_nil, blsOf_cons, allV_l, isNV_d, notNV_d, parK_ok, parK_exc, gStore_eq, stK_some, gMeth_eq, gFor_eq, gRng1_eq, asI_i, gItL_eq, gItT_eq, asLst_l, asTup_t, addV_ii, subV_ii, mulV_ii, fdivV_ii, modV_ii, shlV_ii, pw6, pw9, pw18, pw19, pw20, pw25, pw30, pw39, ltV_ii, leV_ii, gtV_ii, geV_ii, negV_i, isNV_n, isNV_t, isNV_l, isNV_i, isNV_s, isNV_r, isNV_b, notNV_n, notNV_t, notNV_l, notNV_i, notNV_s, notNV_r, notNV_b, ixV_t, ixV_l, ixV_r, lenV_t, lenV_l, lenV_r, absV_i, max2V_ii, min2V_ii, bitsV_i, setIV_r, setK_some, setL_some, appendM_r, appK_some, appN_ok, isT_r, isK_l, lstK_some, tyK_l, isT_s, isiV_eq, tyN_int, tyN_bl, tyN_non, tyN_str, tyN_tup, tyN_lst, tyN_dct, tyN_r, kk_int_bool, kitK_t, kk_int_str, kk_int_tuple, kk_int_list, kk_int_dict, kk_int_NoneType, kk_bool_int, kk_bool_str, kk_bool_tuple, kk_bool_list, kk_bool_dict, kk_bool_NoneType, kk_str_int, kk_str_bool, kk_str_tuple, kk_str_list, kk_str_dict, kk_str_NoneType, kk_tuple_int, kk_tuple_bool, kk_tuple_str, kk_tuple_list, kk_tuple_dict, kk_tuple_NoneType, kk_list_int, kk_list_bool, kk_list_str, kk_list_tuple, kk_list_dict, kk_list_NoneType, kk_dict_int, kk_dict_bool, kk_dict_str, kk_dict_tuple, kk_dict_list, kk_dict_NoneType, eqV_int, neV_int, isBV_b, neV_bl, eqV_bl, eqV_ii, neV_ii, isNV_fr, notNV_fr, ixV_fr0, ixV_fr1, eqV_fr, neV_fr, int1V_b, int1V_i, ixV_hp0, ixV_hp1, isNV_hp, eqV_hp, neV_hp, tyN_fr, lenV_fr, at0, at1, at2, at3, at4, at5, ixN0, ixN1, List.map_cons, List.map_nil, List.replicate, List.cons_append, List.nil_append, List.getElem?_cons_zero, List.getElem?_cons_succ, List.set_cons_zero, List.set_cons_succ, Bool.not_true, Bool.not_false, Bool.false_eq_true, if_true, if_false, ite_true, ite_false, reduceIte, Nat.reduceSub, Nat.reduceAdd, ne_eq, Int.cast_ofNat_Int, Int.reduceBEq, Int.reduceLT, Int.reduceLE, Int.reduceEq, Int.reduceNeg, Int.reduceMul, Int.reduceAdd, Int.reduceSub, decide_true, decide_false, List.length_cons, List.length_nil, beq_self_eq_true, not_false_eq_true, not_true_eq_false, hapB, l3]
  | _ => simp only [F_is_hap, g_is_hap, gSlN_eq, slN_r, slN_l, slNK_s, gRevN_eq, revN_r, revNK_s, tupleV_r, tupleV_l, gCallV_eq, gLend_eq, isNotBV_b, gRep_eq, repR_r, gZip_eq, zipR_t, zipR_l, gTry_eq, tryK_nx, tryK_ret, begin_eq, allR_nx, allR_ret, allR_exc, gSkip_eq, gSeq_eq, seqK_nx, seqK_ret, seqK_exc, toS_ok, toS_exc, toST_ok, toST_exc, toSL_ok, toSL_exc, gRet_eq, gAsg_eq, gSet_eq, gExpr_eq, gIfS_eq, gRaise_eq, gBin_eq, gUn_eq, gVar_eq, slotR_some, gC_eq, gArgs_nil, gArgs_cons, gTupE_eq, gLstE_eq, gNewE_eq, gCall_eq, gBi_eq, gB_eq, asB_bl, gAnd_eq, gOr_eq, gNot_eq, gVT_eq, gIf_eq, gChain_eq, chK_t, chK_f, chK_b, bnd_ok, bnd_exc, oo_some, gTo_eq, toK_some, tgName_eq, tgNil_eq, tgCons_eq, tgTup_eq, bind_some, gPar_eq, gCat_eq, catR_r, listV_t, listV_l, blsOf_nil, blsOf_cons, allV_l, isNV_d, notNV_d, parK_ok, parK_exc, gStore_eq, stK_some, gMeth_eq, gFor_eq, gRng1_eq, asI_i, gItL_eq, gItT_eq, asLst_l, asTup_t, addV_ii, subV_ii, mulV_ii, fdivV_ii, modV_ii, shlV_ii, pw6, pw9, pw18, pw19, pw20, pw25, pw30, pw39, ltV_ii, leV_ii, gtV_ii, geV_ii, negV_i, isNV_n, isNV_t, isNV_l, isNV_i, isNV_s, isNV_r, isNV_b, notNV_n, notNV_t, notNV_l, notNV_i, notNV_s, notNV_r, notNV_b, ixV_t, ixV_l, ixV_r, lenV_t, lenV_l, lenV_r, absV_i, max2V_ii, min2V_ii, bitsV_i, setIV_r, setK_some, setL_some, appendM_r, appK_some, appN_ok, isT_r, isK_l, lstK_some, tyK_l, isT_s, isiV_eq, tyN_int, tyN_bl, tyN_non, tyN_str, tyN_tup, tyN_lst, tyN_dct, tyN_r, kk_int_bool, kitK_t, kk_int_str, kk_int_tuple, kk_int_list, kk_int_dict, kk_int_NoneType, kk_bool_int, kk_bool_str, kk_bool_tuple, kk_bool_list, kk_bool_dict, kk_bool_NoneType, kk_str_int, kk_str_bool, kk_str_tuple, kk_str_list, kk_str_dict, kk_str_NoneType, kk_tuple_int, kk_tuple_bool, kk_tuple_str, kk_tuple_list, kk_tuple_dict, kk_tuple_NoneType, kk_list_int, kk_list_bool, kk_list_str, kk_list_tuple, kk_list_dict, kk_list_NoneType, kk_dict_int, kk_dict_bool, kk_dict_str, kk_dict_tuple, kk_dict_list, kk_dict_NoneType, eqV_int, neV_int, isBV_b, neV_bl, eqV_bl, eqV_ii, neV_ii, isNV_fr, notNV_fr, ixV_fr0, ixV_fr1, eqV_fr, neV_fr, int1V_b, int1V_i, ixV_hp0, ixV_hp1, isNV_hp, eqV_hp, neV_hp, tyN_fr, lenV_fr, at0, at1, at2, at3, at4, at5, ixN0, ixN1, List.map_cons, List.map_nil, List.replicate, List.cons_append, List.nil_append, List.getElem?_cons_zero, List.getElem?_cons_succ, List.set_cons_zero, List.set_cons_succ, Bool.not_true, Bool.not_false, Bool.false_eq_true, if_true, if_false, ite_true, ite_false, reduceIte, Nat.reduceSub, Nat.reduceAdd, ne_eq, Int.cast_ofNat_Int, Int.reduceBEq, Int.reduceLT, Int.reduceLE, Int.reduceEq, Int.reduceNeg, Int.reduceMul, Int.reduceAdd, Int.reduceSub, decide_true, decide_false, List.length_cons, List.length_nil, beq_self_eq_true, not_false_eq_true, not_true_eq_false, hapB]
theorem ishap_hp (t x : Rat) {st : List SO} : F_is_hap [hp t x] st = .ok (.bl true) st := by
  have e1 := isfr_fr (st := st) t
  have e2 := isfr_fr (st := st) x
  have ty : tyN st (hp t x) = some "tuple" := rfl
  have ln : lenV st [hp t x] = some (.int 2) := rfl
  simp only [F_is_hap, g_is_hap, gSlN_eq, slN_r, slN_l, slNK_s, gRevN_eq, revN_r, revNK_s, tupleV_r, tupleV_l, gCallV_eq, gLend_eq, isNotBV_b, gRep_eq, repR_r, gZip_eq, zipR_t, zipR_l, gTry_eq, tryK_nx, tryK_ret, begin_eq, allR_nx, allR_ret, allR_exc, gSkip_eq, gSeq_eq, seqK_nx, seqK_ret, seqK_exc, toS_ok, toS_exc, toST_ok, toST_exc, toSL_ok, toSL_exc, gRet_eq, gAsg_eq, gSet_eq, gExpr_eq, gIfS_eq, gRaise_eq, gBin_eq, gUn_eq, gVar_eq, slotR_some, gC_eq, gArgs_nil, gArgs_cons, gTupE_eq, gLstE_eq, gNewE_eq, gCall_eq, gBi_eq, gB_eq, asB_bl, gAnd_eq, gOr_eq, gNot_eq, gVT_eq, gIf_eq, gChain_eq, chK_t, chK_f, chK_b, bnd_ok, bnd_exc, oo_some, gTo_eq, toK_some, tgName_eq, tgNil_eq, tgCons_eq, tgTup_eq, bind_some, gPar_eq, gCat_eq, catR_r, listV_t, listV_l, blsOf_nil, blsOf_cons, allV_l, isNV_d, notNV_d, parK_ok, parK_exc, gStore_eq, stK_some, gMeth_eq, gFor_eq, gRng1_eq, asI_i, gItL_eq, gItT_eq, asLst_l, asTup_t, addV_ii, subV_ii, mulV_ii, fdivV_ii, modV_ii, shlV_ii, pw6, pw9, pw18, pw19, pw20, pw25, pw30, pw39, ltV_ii, leV_ii, gtV_ii, geV_ii, negV_i, isNV_n, isNV_t, isNV_l, isNV_i, isNV_s, isNV_r, isNV_b, notNV_n, notNV_t, notNV_l, notNV_i, notNV_s, notNV_r, notNV_b, ixV_t, ixV_l, ixV_r, lenV_t, lenV_l, lenV_r, absV_i, max2V_ii, min2V_ii, bitsV_i, setIV_r, setK_some, setL_some, appendM_r, appK_some, appN_ok, isT_r, isK_l, lstK_some, tyK_l, isT_s, isiV_eq, tyN_int, tyN_bl, tyN_non, tyN_str, tyN_tup, tyN_lst, tyN_dct, tyN_r, kk_int_bool, kitK_t, kk_int_str, kk_int_tuple, kk_int_list, kk_int_dict, kk_int_NoneType, kk_bool_int, kk_bool_str, kk_bool_tuple, kk_bool_list, kk_bool_dict, kk_bool_NoneType, kk_str_int, kk_str_bool, kk_str_tuple, kk_str_list, kk_str_dict, kk_str_NoneType, kk_tuple_int, kk_tuple_bool, kk_tuple_str, kk_tuple_list, kk_tuple_dict, kk_tuple_NoneType, kk_list_int, kk_list_bool, kk_list_str, kk_list_tuple, kk_list_dict, kk_list_NoneType, kk_dict_int, kk_dict_bool, kk_dict_str, kk_dict_tuple, kk_dict_list, kk_dict_NoneType, eqV_int, neV_int, isBV_b, neV_bl, eqV_bl, eqV_ii, neV_ii, isNV_fr, notNV_fr, ixV_fr0, ixV_fr1, eqV_fr, neV_fr, int1V_b, int1V_i, ixV_hp0, ixV_hp1, isNV_hp, eqV_hp, neV_hp, tyN_fr, lenV_fr, at0, at1, at2, at3, at4, at5, ixN0, ixN1, List.map_cons, List.map_nil, List.replicate, List.cons_append, List.nil_append, List.getElem?_cons_zero, List.getElem?_cons_succ, List.set_cons_zero, List.set_cons_succ, Bool.not_true, Bool.not_false, Bool.false_eq_true, if_true, if_false, ite_true, ite_false, reduceIte, Nat.reduceSub, Nat.reduceAdd, ne_eq, Int.cast_ofNat_Int, Int.reduceBEq, Int.reduceLT, Int.reduceLE, Int.reduceEq, Int.reduceNeg, Int.reduceMul, Int.reduceAdd, Int.reduceSub, decide_true, decide_false, List.length_cons, List.length_nil, beq_self_eq_true, not_false_eq_true, not_true_eq_false, ty, ln, e1, e2]

noncomputable def g_fraction (F_common : Fn) : GS :=
  (gSeq (gIfS (gB (gBin eqV (gVar 1) (gC (.int 0)))) (gRaise "NoFraction") gSkip)
  (gSeq (gIfS (gB (gBin ltV (gVar 1) (gC (.int 0)))) (gPar 0 1 (gBin subV (gC (.int 0)) (gVar 0)) (gBin subV (gC (.int 0)) (gVar 1))) gSkip)
  (gSeq (gSet 2 (gCall F_common [(gVar 0), (gVar 1)]))
  (gRet (gTupE [(gBin fdivV (gVar 0) (gVar 2)), (gBin fdivV (gVar 1) (gVar 2))])))))
noncomputable def F_fraction : Fn := fun xs st => allR (g_fraction F_common (begin 3 2 xs) st)
theorem fraction_0 {t : Int} {st : List SO} : F_fraction [.int t, .int 0] st = .exc "NoFraction" st := by
  simp only [F_fraction, g_fraction, gSlN_eq, slN_r, slN_l, slNK_s, gRevN_eq, revN_r, revNK_s, tupleV_r, tupleV_l, gCallV_eq, gLend_eq, isNotBV_b, gRep_eq, repR_r, gZip_eq, zipR_t, zipR_l, gTry_eq, tryK_nx, tryK_ret, begin_eq, allR_nx, allR_ret, allR_exc, gSkip_eq, gSeq_eq, seqK_nx, seqK_ret, seqK_exc, toS_ok, toS_exc, toST_ok, toST_exc, toSL_ok, toSL_exc, gRet_eq, gAsg_eq, gSet_eq, gExpr_eq, gIfS_eq, gRaise_eq, gBin_eq, gUn_eq, gVar_eq, slotR_some, gC_eq, gArgs_nil, gArgs_cons, gTupE_eq, gLstE_eq, gNewE_eq, gCall_eq, gBi_eq, gB_eq, asB_bl, gAnd_eq, gOr_eq, gNot_eq, gVT_eq, gIf_eq, gChain_eq, chK_t, chK_f, chK_b, bnd_ok, bnd_exc, oo_some, gTo_eq, toK_some, tgName_eq, tgNil_eq, tgCons_eq, tgTup_eq, bind_some, gPar_eq, gCat_eq, catR_r, listV_t, listV_l, blsOf_nil, blsOf_cons, allV_l, isNV_d, notNV_d, parK_ok, parK_exc, gStore_eq, stK_some, gMeth_eq, gFor_eq, gRng1_eq, asI_i, gItL_eq, gItT_eq, asLst_l, asTup_t, addV_ii, subV_ii, mulV_ii, fdivV_ii, modV_ii, shlV_ii, pw6, pw9, pw18, pw19, pw20, pw25, pw30, pw39, ltV_ii, leV_ii, gtV_ii, geV_ii, negV_i, isNV_n, isNV_t, isNV_l, isNV_i, isNV_s, isNV_r, isNV_b, notNV_n, notNV_t, notNV_l, notNV_i, notNV_s, notNV_r, notNV_b, ixV_t, ixV_l, ixV_r, lenV_t, lenV_l, lenV_r, absV_i, max2V_ii, min2V_ii, bitsV_i, setIV_r, setK_some, setL_some, appendM_r, appK_some, appN_ok, isT_r, isK_l, lstK_some, tyK_l, isT_s, isiV_eq, tyN_int, tyN_bl, tyN_non, tyN_str, tyN_tup, tyN_lst, tyN_dct, tyN_r, kk_int_bool, kitK_t, kk_int_str, kk_int_tuple, kk_int_list, kk_int_dict, kk_int_NoneType, kk_bool_int, kk_bool_str, kk_bool_tuple, kk_bool_list, kk_bool_dict, kk_bool_NoneType, kk_str_int, kk_str_bool, kk_str_tuple, kk_str_list, kk_str_dict, kk_str_NoneType, kk_tuple_int, kk_tuple_bool, kk_tuple_str, kk_tuple_list, kk_tuple_dict, kk_tuple_NoneType, kk_list_int, kk_list_bool, kk_list_str, kk_list_tuple, kk_list_dict, kk_list_NoneType, kk_dict_int, kk_dict_bool, kk_dict_str, kk_dict_tuple, kk_dict_list, kk_dict_NoneType, eqV_int, neV_int, isBV_b, neV_bl, eqV_bl, eqV_ii, neV_ii, isNV_fr, notNV_fr, ixV_fr0, ixV_fr1, eqV_fr, neV_fr, int1V_b, int1V_i, ixV_hp0, ixV_hp1, isNV_hp, eqV_hp, neV_hp, tyN_fr, lenV_fr, at0, at1, at2, at3, at4, at5, ixN0, ixN1, List.map_cons, List.map_nil, List.replicate, List.cons_append, List.nil_append, List.getElem?_cons_zero, List.getElem?_cons_succ, List.set_cons_zero, List.set_cons_succ, Bool.not_true, Bool.not_false, Bool.false_eq_true, if_true, if_false, ite_true, ite_false, reduceIte, Nat.reduceSub, Nat.reduceAdd, ne_eq, Int.cast_ofNat_Int, Int.reduceBEq, Int.reduceLT, Int.reduceLE, Int.reduceEq, Int.reduceNeg, Int.reduceMul, Int.reduceAdd, Int.reduceSub, decide_true, decide_false, List.length_cons, List.length_nil, beq_self_eq_true, not_false_eq_true, not_true_eq_false, beq_self_eq_true]
theorem fraction_ok {n : Nat} {t b : Int} {st : List SO} (hb : b ≠ 0) (hs : Sz n b) (hn : n ≤ 9000) : F_fraction [.int t, .int b] st = .ok (fr (Rat.divInt t b)) st := by
  have g := gcd_sz (t := t) hs hb
  have hg := gcd_pos_of (t := t) hb
  have hb' : (b == 0) = false := by simpa using hb
  have l1 := low_num' (t := t) hb
  have l2 := low_den' (t := t) hb
  have d1 : ∀ i, DivOk i (Int.gcd t b) := fun i => g.divOk hn
  have hne : ¬ ((Int.gcd t b : Int)) = 0 := by omega
  by_cases h : b < 0
  · rw [if_pos h] at l1 l2
    have e : Int.gcd (0 - t) (0 - b) = Int.gcd t b := by rw [Int.zero_sub, Int.zero_sub, gcd_neg2]
    simp only [F_fraction, g_fraction, gSlN_eq, slN_r, slN_l, slNK_s, gRevN_eq, revN_r, revNK_s, tupleV_r, tupleV_l, gCallV_eq, gLend_eq, isNotBV_b, gRep_eq, repR_r, gZip_eq, zipR_t, zipR_l, gTry_eq, tryK_nx, tryK_ret, begin_eq, allR_nx, allR_ret, allR_exc, gSkip_eq, gSeq_eq, seqK_nx, seqK_ret, seqK_exc, toS_ok, toS_exc, toST_ok, toST_exc, toSL_ok, toSL_exc, gRet_eq, gAsg_eq, gSet_eq, gExpr_eq, gIfS_eq, gRaise_eq, gBin_eq, gUn_eq, gVar_eq, slotR_some, gC_eq, gArgs_nil, gArgs_cons, gTupE_eq, gLstE_eq, gNewE_eq, gCall_eq, gBi_eq, gB_eq, asB_bl, gAnd_eq, gOr_eq, gNot_eq, gVT_eq, gIf_eq, gChain_eq, chK_t, chK_f, chK_b, bnd_ok, bnd_exc, oo_some, gTo_eq, toK_some, tgName_eq, tgNil_eq, tgCons_eq, tgTup_eq, bind_some, gPar_eq, gCat_eq, catR_r, listV_t, listV_l, blsOf_nil, blsOf_cons, allV_l, isNV_d, notNV_d, parK_ok, parK_exc, gStore_eq, stK_some, gMeth_eq, gFor_eq, gRng1_eq, asI_i, gItL_eq, gItT_eq, asLst_l, asTup_t, addV_ii, subV_ii, mulV_ii, fdivV_ii, modV_ii, shlV_ii, pw6, pw9, pw18, pw19, pw20, pw25, pw30, pw39, ltV_ii, leV_ii, gtV_ii, geV_ii, negV_i, isNV_n, isNV_t, isNV_l, isNV_i, isNV_s, isNV_r, isNV_b, notNV_n, notNV_t, notNV_l, notNV_i, notNV_s, notNV_r, notNV_b, ixV_t, ixV_l, ixV_r, lenV_t, lenV_l, lenV_r, absV_i, max2V_ii, min2V_ii, bitsV_i, setIV_r, setK_some, setL_some, appendM_r, appK_some, appN_ok, isT_r, isK_l, lstK_some, tyK_l, isT_s, isiV_eq, tyN_int, tyN_bl, tyN_non, tyN_str, tyN_tup, tyN_lst, tyN_dct, tyN_r, kk_int_bool, kitK_t, kk_int_str, kk_int_tuple, kk_int_list, kk_int_dict, kk_int_NoneType, kk_bool_int, kk_bool_str, kk_bool_tuple, kk_bool_list, kk_bool_dict, kk_bool_NoneType, kk_str_int, kk_str_bool, kk_str_tuple, kk_str_list, kk_str_dict, kk_str_NoneType, kk_tuple_int, kk_tuple_bool, kk_tuple_str, kk_tuple_list, kk_tuple_dict, kk_tuple_NoneType, kk_list_int, kk_list_bool, kk_list_str, kk_list_tuple, kk_list_dict, kk_list_NoneType, kk_dict_int, kk_dict_bool, kk_dict_str, kk_dict_tuple, kk_dict_list, kk_dict_NoneType, eqV_int, neV_int, isBV_b, neV_bl, eqV_bl, eqV_ii, neV_ii, isNV_fr, notNV_fr, ixV_fr0, ixV_fr1, eqV_fr, neV_fr, int1V_b, int1V_i, ixV_hp0, ixV_hp1, isNV_hp, eqV_hp, neV_hp, tyN_fr, lenV_fr, at0, at1, at2, at3, at4, at5, ixN0, ixN1, List.map_cons, List.map_nil, List.replicate, List.cons_append, List.nil_append, List.getElem?_cons_zero, List.getElem?_cons_succ, List.set_cons_zero, List.set_cons_succ, Bool.not_true, Bool.not_false, Bool.false_eq_true, if_true, if_false, ite_true, ite_false, reduceIte, Nat.reduceSub, Nat.reduceAdd, ne_eq, Int.cast_ofNat_Int, Int.reduceBEq, Int.reduceLT, Int.reduceLE, Int.reduceEq, Int.reduceNeg, Int.reduceMul, Int.reduceAdd, Int.reduceSub, decide_true, decide_false, List.length_cons, List.length_nil, beq_self_eq_true, not_false_eq_true, not_true_eq_false, hb', h, decide_true, common_ok, e, hne, not_false_eq_true, d1, and_self, l1, l2, fr]
  · rw [if_neg h] at l1 l2
    simp only [F_fraction, g_fraction, gSlN_eq, slN_r, slN_l, slNK_s, gRevN_eq, revN_r, revNK_s, tupleV_r, tupleV_l, gCallV_eq, gLend_eq, isNotBV_b, gRep_eq, repR_r, gZip_eq, zipR_t, zipR_l, gTry_eq, tryK_nx, tryK_ret, begin_eq, allR_nx, allR_ret, allR_exc, gSkip_eq, gSeq_eq, seqK_nx, seqK_ret, seqK_exc, toS_ok, toS_exc, toST_ok, toST_exc, toSL_ok, toSL_exc, gRet_eq, gAsg_eq, gSet_eq, gExpr_eq, gIfS_eq, gRaise_eq, gBin_eq, gUn_eq, gVar_eq, slotR_some, gC_eq, gArgs_nil, gArgs_cons, gTupE_eq, gLstE_eq, gNewE_eq, gCall_eq, gBi_eq, gB_eq, asB_bl, gAnd_eq, gOr_eq, gNot_eq, gVT_eq, gIf_eq, gChain_eq, chK_t, chK_f, chK_b, bnd_ok, bnd_exc, oo_some, gTo_eq, toK_some, tgName_eq, tgNil_eq, tgCons_eq, tgTup_eq, bind_some, gPar_eq, gCat_eq, catR_r, listV_t, listV_l, blsOf_nil, blsOf_cons, allV_l, isNV_d, notNV_d, parK_ok, parK_exc, gStore_eq, stK_some, gMeth_eq, gFor_eq, gRng1_eq, asI_i, gItL_eq, gItT_eq, asLst_l, asTup_t, addV_ii, subV_ii, mulV_ii, fdivV_ii, modV_ii, shlV_ii, pw6, pw9, pw18, pw19, pw20, pw25, pw30, pw39, ltV_ii, leV_ii, gtV_ii, geV_ii, negV_i, isNV_n, isNV_t, isNV_l, isNV_i, isNV_s, isNV_r, isNV_b, notNV_n, notNV_t, notNV_l, notNV_i, notNV_s, notNV_r, notNV_b, ixV_t, ixV_l, ixV_r, lenV_t, lenV_l, lenV_r, absV_i, max2V_ii, min2V_ii, bitsV_i, setIV_r, setK_some, setL_some, appendM_r, appK_some, appN_ok, isT_r, isK_l, lstK_some, tyK_l, isT_s, isiV_eq, tyN_int, tyN_bl, tyN_non, tyN_str, tyN_tup, tyN_lst, tyN_dct, tyN_r, kk_int_bool, kitK_t, kk_int_str, kk_int_tuple, kk_int_list, kk_int_dict, kk_int_NoneType, kk_bool_int, kk_bool_str, kk_bool_tuple, kk_bool_list, kk_bool_dict, kk_bool_NoneType, kk_str_int, kk_str_bool, kk_str_tuple, kk_str_list, kk_str_dict, kk_str_NoneType, kk_tuple_int, kk_tuple_bool, kk_tuple_str, kk_tuple_list, kk_tuple_dict, kk_tuple_NoneType, kk_list_int, kk_list_bool, kk_list_str, kk_list_tuple, kk_list_dict, kk_list_NoneType, kk_dict_int, kk_dict_bool, kk_dict_str, kk_dict_tuple, kk_dict_list, kk_dict_NoneType, eqV_int, neV_int, isBV_b, neV_bl, eqV_bl, eqV_ii, neV_ii, isNV_fr, notNV_fr, ixV_fr0, ixV_fr1, eqV_fr, neV_fr, int1V_b, int1V_i, ixV_hp0, ixV_hp1, isNV_hp, eqV_hp, neV_hp, tyN_fr, lenV_fr, at0, at1, at2, at3, at4, at5, ixN0, ixN1, List.map_cons, List.map_nil, List.replicate, List.cons_append, List.nil_append, List.getElem?_cons_zero, List.getElem?_cons_succ, List.set_cons_zero, List.set_cons_succ, Bool.not_true, Bool.not_false, Bool.false_eq_true, if_true, if_false, ite_true, ite_false, reduceIte, Nat.reduceSub, Nat.reduceAdd, ne_eq, Int.cast_ofNat_Int, Int.reduceBEq, Int.reduceLT, Int.reduceLE, Int.reduceEq, Int.reduceNeg, Int.reduceMul, Int.reduceAdd, Int.reduceSub, decide_true, decide_false, List.length_cons, List.length_nil, beq_self_eq_true, not_false_eq_true, not_true_eq_false, hb', h, decide_false, common_ok, hne, not_false_eq_true, d1, and_self, l1, l2, fr]

noncomputable def g_less (F_fraction : Fn) : GS :=
  (gRet (gCall F_fraction [(gBin subV (gBin mulV (gBin ixV (gVar 0) (gC (.int 0))) (gBin ixV (gVar 1) (gC (.int 1)))) (gBin mulV (gBin ixV (gVar 1) (gC (.int 0))) (gBin ixV (gVar 0) (gC (.int 1))))), (gBin mulV (gBin ixV (gVar 0) (gC (.int 1))) (gBin ixV (gVar 1) (gC (.int 1))))]))
noncomputable def F_less : Fn := fun xs st => allR (g_less F_fraction (begin 2 2 xs) st)
theorem less_ok {n : Nat} {q r : Rat} {st : List SO} (hq : RS n q) (hr : RS n r) (hn : n ≤ 4000) : F_less [fr q, fr r] st = .ok (fr (q - r)) st := by
  have m1 : MulOk q.num r.den := hq.1.mulOk hr.den (by omega)
  have m2 : MulOk r.num q.den := hr.1.mulOk hq.den (by omega)
  have m3 : MulOk (q.den : Int) r.den := hq.den.mulOk hr.den (by omega)
  have d0 : (q.den * r.den : Int) ≠ 0 := Int.mul_ne_zero (den0 q) (den0 r)
  have e := fraction_ok (st := st) (t := q.num * r.den - r.num * q.den) d0 (hq.den.mul hr.den) (by omega)
  rw [sub_eq] at e
  simp only [fr] at e
  simp only [F_less, g_less, gSlN_eq, slN_r, slN_l, slNK_s, gRevN_eq, revN_r, revNK_s, tupleV_r, tupleV_l, gCallV_eq, gLend_eq, isNotBV_b, gRep_eq, repR_r, gZip_eq, zipR_t, zipR_l, gTry_eq, tryK_nx, tryK_ret, begin_eq, allR_nx, allR_ret, allR_exc, gSkip_eq, gSeq_eq, seqK_nx, seqK_ret, seqK_exc, toS_ok, toS_exc, toST_ok, toST_exc, toSL_ok, toSL_exc, gRet_eq, gAsg_eq, gSet_eq, gExpr_eq, gIfS_eq, gRaise_eq, gBin_eq, gUn_eq, gVar_eq, slotR_some, gC_eq, gArgs_nil, gArgs_cons, gTupE_eq, gLstE_eq, gNewE_eq, gCall_eq, gBi_eq, gB_eq, asB_bl, gAnd_eq, gOr_eq, gNot_eq, gVT_eq, gIf_eq, gChain_eq, chK_t, chK_f, chK_b, bnd_ok, bnd_exc, oo_some, gTo_eq, toK_some, tgName_eq, tgNil_eq, tgCons_eq, tgTup_eq, bind_some, gPar_eq, gCat_eq, catR_r, listV_t, listV_l, blsOf_nil, blsOf_cons, allV_l, isNV_d, notNV_d, parK_ok, parK_exc, gStore_eq, stK_some, gMeth_eq, gFor_eq, gRng1_eq, asI_i, gItL_eq, gItT_eq, asLst_l, asTup_t, addV_ii, subV_ii, mulV_ii, fdivV_ii, modV_ii, shlV_ii, pw6, pw9, pw18, pw19, pw20, pw25, pw30, pw39, ltV_ii, leV_ii, gtV_ii, geV_ii, negV_i, isNV_n, isNV_t, isNV_l, isNV_i, isNV_s, isNV_r, isNV_b, notNV_n, notNV_t, notNV_l, notNV_i, notNV_s, notNV_r, notNV_b, ixV_t, ixV_l, ixV_r, lenV_t, lenV_l, lenV_r, absV_i, max2V_ii, min2V_ii, bitsV_i, setIV_r, setK_some, setL_some, appendM_r, appK_some, appN_ok, isT_r, isK_l, lstK_some, tyK_l, isT_s, isiV_eq, tyN_int, tyN_bl, tyN_non, tyN_str, tyN_tup, tyN_lst, tyN_dct, tyN_r, kk_int_bool, kitK_t, kk_int_str, kk_int_tuple, kk_int_list, kk_int_dict, kk_int_NoneType, kk_bool_int, kk_bool_str, kk_bool_tuple, kk_bool_list, kk_bool_dict, kk_bool_NoneType, kk_str_int, kk_str_bool, kk_str_tuple, kk_str_list, kk_str_dict, kk_str_NoneType, kk_tuple_int, kk_tuple_bool, kk_tuple_str, kk_tuple_list, kk_tuple_dict, kk_tuple_NoneType, kk_list_int, kk_list_bool, kk_list_str, kk_list_tuple, kk_list_dict, kk_list_NoneType, kk_dict_int, kk_dict_bool, kk_dict_str, kk_dict_tuple, kk_dict_list, kk_dict_NoneType, eqV_int, neV_int, isBV_b, neV_bl, eqV_bl, eqV_ii, neV_ii, isNV_fr, notNV_fr, ixV_fr0, ixV_fr1, eqV_fr, neV_fr, int1V_b, int1V_i, ixV_hp0, ixV_hp1, isNV_hp, eqV_hp, neV_hp, tyN_fr, lenV_fr, at0, at1, at2, at3, at4, at5, ixN0, ixN1, List.map_cons, List.map_nil, List.replicate, List.cons_append, List.nil_append, List.getElem?_cons_zero, List.getElem?_cons_succ, List.set_cons_zero, List.set_cons_succ, Bool.not_true, Bool.not_false, Bool.false_eq_true, if_true, if_false, ite_true, ite_false, reduceIte, Nat.reduceSub, Nat.reduceAdd, ne_eq, Int.cast_ofNat_Int, Int.reduceBEq, Int.reduceLT, Int.reduceLE, Int.reduceEq, Int.reduceNeg, Int.reduceMul, Int.reduceAdd, Int.reduceSub, decide_true, decide_false, List.length_cons, List.length_nil, beq_self_eq_true, not_false_eq_true, not_true_eq_false, fr, m1, m2, m3, e]
theorem less_as {n m : Nat} {q r : Rat} {st : List SO} (hq : RS n q) (hr : RS m r) (hn : n + m ≤ 9000) : F_less [fr q, fr r] st = .ok (fr (q - r)) st := by
  have m1 : MulOk q.num r.den := hq.1.mulOk hr.den (by omega)
  have m2 : MulOk r.num q.den := hr.1.mulOk hq.den (by omega)
  have m3 : MulOk (q.den : Int) r.den := hq.den.mulOk hr.den (by omega)
  have d0 : (q.den * r.den : Int) ≠ 0 := Int.mul_ne_zero (den0 q) (den0 r)
  have e := fraction_ok (st := st) (t := q.num * r.den - r.num * q.den) d0 (hq.den.mul hr.den) (by omega)
  rw [sub_eq] at e
  simp only [fr] at e
  simp only [F_less, g_less, gSlN_eq, slN_r, slN_l, slNK_s, gRevN_eq, revN_r, revNK_s, tupleV_r, tupleV_l, gCallV_eq, gLend_eq, isNotBV_b, gRep_eq, repR_r, gZip_eq, zipR_t, zipR_l, gTry_eq, tryK_nx, tryK_ret, begin_eq, allR_nx, allR_ret, allR_exc, gSkip_eq, gSeq_eq, seqK_nx, seqK_ret, seqK_exc, toS_ok, toS_exc, toST_ok, toST_exc, toSL_ok, toSL_exc, gRet_eq, gAsg_eq, gSet_eq, gExpr_eq, gIfS_eq, gRaise_eq, gBin_eq, gUn_eq, gVar_eq, slotR_some, gC_eq, gArgs_nil, gArgs_cons, gTupE_eq, gLstE_eq, gNewE_eq, gCall_eq, gBi_eq, gB_eq, asB_bl, gAnd_eq, gOr_eq, gNot_eq, gVT_eq, gIf_eq, gChain_eq, chK_t, chK_f, chK_b, bnd_ok, bnd_exc, oo_some, gTo_eq, toK_some, tgName_eq, tgNil_eq, tgCons_eq, tgTup_eq, bind_some, gPar_eq, gCat_eq, catR_r, listV_t, listV_l, blsOf_nil, blsOf_cons, allV_l, isNV_d, notNV_d, parK_ok, parK_exc, gStore_eq, stK_some, gMeth_eq, gFor_eq, gRng1_eq, asI_i, gItL_eq, gItT_eq, asLst_l, asTup_t, addV_ii, subV_ii, mulV_ii, fdivV_ii, modV_ii, shlV_ii, pw6, pw9, pw18, pw19, pw20, pw25, pw30, pw39, ltV_ii, leV_ii, gtV_ii, geV_ii, negV_i, isNV_n, isNV_t, isNV_l, isNV_i, isNV_s, isNV_r, isNV_b, notNV_n, notNV_t, notNV_l, notNV_i, notNV_s, notNV_r, notNV_b, ixV_t, ixV_l, ixV_r, lenV_t, lenV_l, lenV_r, absV_i, max2V_ii, min2V_ii, bitsV_i, setIV_r, setK_some, setL_some, appendM_r, appK_some, appN_ok, isT_r, isK_l, lstK_some, tyK_l, isT_s, isiV_eq, tyN_int, tyN_bl, tyN_non, tyN_str, tyN_tup, tyN_lst, tyN_dct, tyN_r, kk_int_bool, kitK_t, kk_int_str, kk_int_tuple, kk_int_list, kk_int_dict, kk_int_NoneType, kk_bool_int, kk_bool_str, kk_bool_tuple, kk_bool_list, kk_bool_dict, kk_bool_NoneType, kk_str_int, kk_str_bool, kk_str_tuple, kk_str_list, kk_str_dict, kk_str_NoneType, kk_tuple_int, kk_tuple_bool, kk_tuple_str, kk_tuple_list, kk_tuple_dict, kk_tuple_NoneType, kk_list_int, kk_list_bool, kk_list_str, kk_list_tuple, kk_list_dict, kk_list_NoneType, kk_dict_int, kk_dict_bool, kk_dict_str, kk_dict_tuple, kk_dict_list, kk_dict_NoneType, eqV_int, neV_int, isBV_b, neV_bl, eqV_bl, eqV_ii, neV_ii, isNV_fr, notNV_fr, ixV_fr0, ixV_fr1, eqV_fr, neV_fr, int1V_b, int1V_i, ixV_hp0, ixV_hp1, isNV_hp, eqV_hp, neV_hp, tyN_fr, lenV_fr, at0, at1, at2, at3, at4, at5, ixN0, ixN1, List.map_cons, List.map_nil, List.replicate, List.cons_append, List.nil_append, List.getElem?_cons_zero, List.getElem?_cons_succ, List.set_cons_zero, List.set_cons_succ, Bool.not_true, Bool.not_false, Bool.false_eq_true, if_true, if_false, ite_true, ite_false, reduceIte, Nat.reduceSub, Nat.reduceAdd, ne_eq, Int.cast_ofNat_Int, Int.reduceBEq, Int.reduceLT, Int.reduceLE, Int.reduceEq, Int.reduceNeg, Int.reduceMul, Int.reduceAdd, Int.reduceSub, decide_true, decide_false, List.length_cons, List.length_nil, beq_self_eq_true, not_false_eq_true, not_true_eq_false, fr, m1, m2, m3, e]

noncomputable def g_lapse_and_gap (F_less : Fn) : GS :=
  (gRet (gTupE [(gCall F_less [(gBin ixV (gVar 1) (gC (.int 0))), (gBin ixV (gVar 0) (gC (.int 0)))]), (gCall F_less [(gBin ixV (gVar 1) (gC (.int 1))), (gBin ixV (gVar 0) (gC (.int 1)))])]))
noncomputable def F_lapse_and_gap : Fn := fun xs st => allR (g_lapse_and_gap F_less (begin 2 2 xs) st)
theorem lapgap_ok {n : Nat} {t x u y : Rat} {st : List SO} (h1 : RS n t) (h2 : RS n x) (h3 : RS n u) (h4 : RS n y) (hn : n ≤ 4000) : F_lapse_and_gap [hp t x, hp u y] st = .ok (.tup [fr (u - t), fr (y - x)]) st := by
  have e1 := less_ok (st := st) h3 h1 hn
  have e2 := less_ok (st := st) h4 h2 hn
  simp only [F_lapse_and_gap, g_lapse_and_gap, gSlN_eq, slN_r, slN_l, slNK_s, gRevN_eq, revN_r, revNK_s, tupleV_r, tupleV_l, gCallV_eq, gLend_eq, isNotBV_b, gRep_eq, repR_r, gZip_eq, zipR_t, zipR_l, gTry_eq, tryK_nx, tryK_ret, begin_eq, allR_nx, allR_ret, allR_exc, gSkip_eq, gSeq_eq, seqK_nx, seqK_ret, seqK_exc, toS_ok, toS_exc, toST_ok, toST_exc, toSL_ok, toSL_exc, gRet_eq, gAsg_eq, gSet_eq, gExpr_eq, gIfS_eq, gRaise_eq, gBin_eq, gUn_eq, gVar_eq, slotR_some, gC_eq, gArgs_nil, gArgs_cons, gTupE_eq, gLstE_eq, gNewE_eq, gCall_eq, gBi_eq, gB_eq, asB_bl, gAnd_eq, gOr_eq, gNot_eq, gVT_eq, gIf_eq, gChain_eq, chK_t, chK_f, chK_b, bnd_ok, bnd_exc, oo_some, gTo_eq, toK_some, tgName_eq, tgNil_eq, tgCons_eq, tgTup_eq, bind_some, gPar_eq, gCat_eq, catR_r, listV_t, listV_l, blsOf_nil, blsOf_cons, allV_l, isNV_d, notNV_d, parK_ok, parK_exc, gStore_eq, stK_some, gMeth_eq, gFor_eq, gRng1_eq, asI_i, gItL_eq, gItT_eq, asLst_l, asTup_t, addV_ii, subV_ii, mulV_ii, fdivV_ii, modV_ii, shlV_ii, pw6, pw9, pw18, pw19, pw20, pw25, pw30, pw39, ltV_ii, leV_ii, gtV_ii, geV_ii, negV_i, isNV_n, isNV_t, isNV_l, isNV_i, isNV_s, isNV_r, isNV_b, notNV_n, notNV_t, notNV_l, notNV_i, notNV_s, notNV_r, notNV_b, ixV_t, ixV_l, ixV_r, lenV_t, lenV_l, lenV_r, absV_i, max2V_ii, min2V_ii, bitsV_i, setIV_r, setK_some, setL_some, appendM_r, appK_some, appN_ok, isT_r, isK_l, lstK_some, tyK_l, isT_s, isiV_eq, tyN_int, tyN_bl, tyN_non, tyN_str, tyN_tup, tyN_lst, tyN_dct, tyN_r, kk_int_bool, kitK_t, kk_int_str, kk_int_tuple, kk_int_list, kk_int_dict, kk_int_NoneType, kk_bool_int, kk_bool_str, kk_bool_tuple, kk_bool_list, kk_bool_dict, kk_bool_NoneType, kk_str_int, kk_str_bool, kk_str_tuple, kk_str_list, kk_str_dict, kk_str_NoneType, kk_tuple_int, kk_tuple_bool, kk_tuple_str, kk_tuple_list, kk_tuple_dict, kk_tuple_NoneType, kk_list_int, kk_list_bool, kk_list_str, kk_list_tuple, kk_list_dict, kk_list_NoneType, kk_dict_int, kk_dict_bool, kk_dict_str, kk_dict_tuple, kk_dict_list, kk_dict_NoneType, eqV_int, neV_int, isBV_b, neV_bl, eqV_bl, eqV_ii, neV_ii, isNV_fr, notNV_fr, ixV_fr0, ixV_fr1, eqV_fr, neV_fr, int1V_b, int1V_i, ixV_hp0, ixV_hp1, isNV_hp, eqV_hp, neV_hp, tyN_fr, lenV_fr, at0, at1, at2, at3, at4, at5, ixN0, ixN1, List.map_cons, List.map_nil, List.replicate, List.cons_append, List.nil_append, List.getElem?_cons_zero, List.getElem?_cons_succ, List.set_cons_zero, List.set_cons_succ, Bool.not_true, Bool.not_false, Bool.false_eq_true, if_true, if_false, ite_true, ite_false, reduceIte, Nat.reduceSub, Nat.reduceAdd, ne_eq, Int.cast_ofNat_Int, Int.reduceBEq, Int.reduceLT, Int.reduceLE, Int.reduceEq, Int.reduceNeg, Int.reduceMul, Int.reduceAdd, Int.reduceSub, decide_true, decide_false, List.length_cons, List.length_nil, beq_self_eq_true, not_false_eq_true, not_true_eq_false, e1, e2]

noncomputable def g_is_less : GS :=
  (gRet (gBin ltV (gBin mulV (gBin ixV (gVar 0) (gC (.int 0))) (gBin ixV (gVar 1) (gC (.int 1)))) (gBin mulV (gBin ixV (gVar 1) (gC (.int 0))) (gBin ixV (gVar 0) (gC (.int 1))))))
noncomputable def F_is_less : Fn := fun xs st => allR (g_is_less (begin 2 2 xs) st)
theorem is_less_ok {n : Nat} {q r : Rat} {st : List SO} (hq : RS n q) (hr : RS n r) (hn : n ≤ 4000) : F_is_less [fr q, fr r] st = .ok (.bl (decide (q < r))) st := by
  have m1 : MulOk q.num r.den := hq.1.mulOk hr.den (by omega)
  have m2 : MulOk r.num q.den := hr.1.mulOk hq.den (by omega)
  simp only [F_is_less, g_is_less, gSlN_eq, slN_r, slN_l, slNK_s, gRevN_eq, revN_r, revNK_s, tupleV_r, tupleV_l, gCallV_eq, gLend_eq, isNotBV_b, gRep_eq, repR_r, gZip_eq, zipR_t, zipR_l, gTry_eq, tryK_nx, tryK_ret, begin_eq, allR_nx, allR_ret, allR_exc, gSkip_eq, gSeq_eq, seqK_nx, seqK_ret, seqK_exc, toS_ok, toS_exc, toST_ok, toST_exc, toSL_ok, toSL_exc, gRet_eq, gAsg_eq, gSet_eq, gExpr_eq, gIfS_eq, gRaise_eq, gBin_eq, gUn_eq, gVar_eq, slotR_some, gC_eq, gArgs_nil, gArgs_cons, gTupE_eq, gLstE_eq, gNewE_eq, gCall_eq, gBi_eq, gB_eq, asB_bl, gAnd_eq, gOr_eq, gNot_eq, gVT_eq, gIf_eq, gChain_eq, chK_t, chK_f, chK_b, bnd_ok, bnd_exc, oo_some, gTo_eq, toK_some, tgName_eq, tgNil_eq, tgCons_eq, tgTup_eq, bind_some, gPar_eq, gCat_eq, catR_r, listV_t, listV_l, blsOf_nil, blsOf_cons, allV_l, isNV_d, notNV_d, parK_ok, parK_exc, gStore_eq, stK_some, gMeth_eq, gFor_eq, gRng1_eq, asI_i, gItL_eq, gItT_eq, asLst_l, asTup_t, addV_ii, subV_ii, mulV_ii, fdivV_ii, modV_ii, shlV_ii, pw6, pw9, pw18, pw19, pw20, pw25, pw30, pw39, ltV_ii, leV_ii, gtV_ii, geV_ii, negV_i, isNV_n, isNV_t, isNV_l, isNV_i, isNV_s, isNV_r, isNV_b, notNV_n, notNV_t, notNV_l, notNV_i, notNV_s, notNV_r, notNV_b, ixV_t, ixV_l, ixV_r, lenV_t, lenV_l, lenV_r, absV_i, max2V_ii, min2V_ii, bitsV_i, setIV_r, setK_some, setL_some, appendM_r, appK_some, appN_ok, isT_r, isK_l, lstK_some, tyK_l, isT_s, isiV_eq, tyN_int, tyN_bl, tyN_non, tyN_str, tyN_tup, tyN_lst, tyN_dct, tyN_r, kk_int_bool, kitK_t, kk_int_str, kk_int_tuple, kk_int_list, kk_int_dict, kk_int_NoneType, kk_bool_int, kk_bool_str, kk_bool_tuple, kk_bool_list, kk_bool_dict, kk_bool_NoneType, kk_str_int, kk_str_bool, kk_str_tuple, kk_str_list, kk_str_dict, kk_str_NoneType, kk_tuple_int, kk_tuple_bool, kk_tuple_str, kk_tuple_list, kk_tuple_dict, kk_tuple_NoneType, kk_list_int, kk_list_bool, kk_list_str, kk_list_tuple, kk_list_dict, kk_list_NoneType, kk_dict_int, kk_dict_bool, kk_dict_str, kk_dict_tuple, kk_dict_list, kk_dict_NoneType, eqV_int, neV_int, isBV_b, neV_bl, eqV_bl, eqV_ii, neV_ii, isNV_fr, notNV_fr, ixV_fr0, ixV_fr1, eqV_fr, neV_fr, int1V_b, int1V_i, ixV_hp0, ixV_hp1, isNV_hp, eqV_hp, neV_hp, tyN_fr, lenV_fr, at0, at1, at2, at3, at4, at5, ixN0, ixN1, List.map_cons, List.map_nil, List.replicate, List.cons_append, List.nil_append, List.getElem?_cons_zero, List.getElem?_cons_succ, List.set_cons_zero, List.set_cons_succ, Bool.not_true, Bool.not_false, Bool.false_eq_true, if_true, if_false, ite_true, ite_false, reduceIte, Nat.reduceSub, Nat.reduceAdd, ne_eq, Int.cast_ofNat_Int, Int.reduceBEq, Int.reduceLT, Int.reduceLE, Int.reduceEq, Int.reduceNeg, Int.reduceMul, Int.reduceAdd, Int.reduceSub, decide_true, decide_false, List.length_cons, List.length_nil, beq_self_eq_true, not_false_eq_true, not_true_eq_false, fr, m1, m2, lt_eq]
theorem is_less_as {n m : Nat} {q r : Rat} {st : List SO} (hq : RS n q) (hr : RS m r) (hn : n + m ≤ 9000) : F_is_less [fr q, fr r] st = .ok (.bl (decide (q < r))) st := by
  have m1 : MulOk q.num r.den := hq.1.mulOk hr.den (by omega)
  have m2 : MulOk r.num q.den := hr.1.mulOk hq.den (by omega)
  simp only [F_is_less, g_is_less, gSlN_eq, slN_r, slN_l, slNK_s, gRevN_eq, revN_r, revNK_s, tupleV_r, tupleV_l, gCallV_eq, gLend_eq, isNotBV_b, gRep_eq, repR_r, gZip_eq, zipR_t, zipR_l, gTry_eq, tryK_nx, tryK_ret, begin_eq, allR_nx, allR_ret, allR_exc, gSkip_eq, gSeq_eq, seqK_nx, seqK_ret, seqK_exc, toS_ok, toS_exc, toST_ok, toST_exc, toSL_ok, toSL_exc, gRet_eq, gAsg_eq, gSet_eq, gExpr_eq, gIfS_eq, gRaise_eq, gBin_eq, gUn_eq, gVar_eq, slotR_some, gC_eq, gArgs_nil, gArgs_cons, gTupE_eq, gLstE_eq, gNewE_eq, gCall_eq, gBi_eq, gB_eq, asB_bl, gAnd_eq, gOr_eq, gNot_eq, gVT_eq, gIf_eq, gChain_eq, chK_t, chK_f, chK_b, bnd_ok, bnd_exc, oo_some, gTo_eq, toK_some, tgName_eq, tgNil_eq, tgCons_eq, tgTup_eq, bind_some, gPar_eq, gCat_eq, catR_r, listV_t, listV_l, blsOf_nil, blsOf_cons, allV_l, isNV_d, notNV_d, parK_ok, parK_exc, gStore_eq, stK_some, gMeth_eq, gFor_eq, gRng1_eq, asI_i, gItL_eq, gItT_eq, asLst_l, asTup_t, addV_ii, subV_ii, mulV_ii, fdivV_ii, modV_ii, shlV_ii, pw6, pw9, pw18, pw19, pw20, pw25, pw30, pw39, ltV_ii, leV_ii, gtV_ii, geV_ii, negV_i, isNV_n, isNV_t, isNV_l, isNV_i, isNV_s, isNV_r, isNV_b, notNV_n, notNV_t, notNV_l, notNV_i, notNV_s, notNV_r, notNV_b, ixV_t, ixV_l, ixV_r, lenV_t, lenV_l, lenV_r, absV_i, max2V_ii, min2V_ii, bitsV_i, setIV_r, setK_some, setL_some, appendM_r, appK_some, appN_ok, isT_r, isK_l, lstK_some, tyK_l, isT_s, isiV_eq, tyN_int, tyN_bl, tyN_non, tyN_str, tyN_tup, tyN_lst, tyN_dct, tyN_r, kk_int_bool, kitK_t, kk_int_str, kk_int_tuple, kk_int_list, kk_int_dict, kk_int_NoneType, kk_bool_int, kk_bool_str, kk_bool_tuple, kk_bool_list, kk_bool_dict, kk_bool_NoneType, kk_str_int, kk_str_bool, kk_str_tuple, kk_str_list, kk_str_dict, kk_str_NoneType, kk_tuple_int, kk_tuple_bool, kk_tuple_str, kk_tuple_list, kk_tuple_dict, kk_tuple_NoneType, kk_list_int, kk_list_bool, kk_list_str, kk_list_tuple, kk_list_dict, kk_list_NoneType, kk_dict_int, kk_dict_bool, kk_dict_str, kk_dict_tuple, kk_dict_list, kk_dict_NoneType, eqV_int, neV_int, isBV_b, neV_bl, eqV_bl, eqV_ii, neV_ii, isNV_fr, notNV_fr, ixV_fr0, ixV_fr1, eqV_fr, neV_fr, int1V_b, int1V_i, ixV_hp0, ixV_hp1, isNV_hp, eqV_hp, neV_hp, tyN_fr, lenV_fr, at0, at1, at2, at3, at4, at5, ixN0, ixN1, List.map_cons, List.map_nil, List.replicate, List.cons_append, List.nil_append, List.getElem?_cons_zero, List.getElem?_cons_succ, List.set_cons_zero, List.set_cons_succ, Bool.not_true, Bool.not_false, Bool.false_eq_true, if_true, if_false, ite_true, ite_false, reduceIte, Nat.reduceSub, Nat.reduceAdd, ne_eq, Int.cast_ofNat_Int, Int.reduceBEq, Int.reduceLT, Int.reduceLE, Int.reduceEq, Int.reduceNeg, Int.reduceMul, Int.reduceAdd, Int.reduceSub, decide_true, decide_false, List.length_cons, List.length_nil, beq_self_eq_true, not_false_eq_true, not_true_eq_false, fr, m1, m2, lt_eq]

noncomputable def g_kind_of (F_lapse_and_gap : Fn) (F_is_less : Fn) : GS :=
  (gSeq (gAsg (gCall F_lapse_and_gap [(gVar 0), (gVar 1)]) (gTo (tgTup 2 (tgCons (tgName 3) (tgCons (tgName 4) tgNil)))))
  (gSeq (gSet 2 (gTupE [(gBi absV [(gBin ixV (gVar 4) (gC (.int 0)))]), (gBin ixV (gVar 4) (gC (.int 1)))]))
  (gSeq (gIfS (gAnd (gB (gBin eqV (gBin ixV (gVar 3) (gC (.int 0))) (gC (.int 0)))) (gB (gBin eqV (gBin ixV (gVar 4) (gC (.int 0))) (gC (.int 0))))) (gRet (gC (.str "same"))) gSkip)
  (gSeq (gIfS (gNot (gB (gCall F_is_less [(gVar 3), (gVar 2)]))) (gRet (gC (.str "later"))) gSkip)
  (gSeq (gIfS (gNot (gB (gCall F_is_less [(gTupE [(gBin subV (gC (.int 0)) (gBin ixV (gVar 3) (gC (.int 0)))), (gBin ixV (gVar 3) (gC (.int 1)))]), (gVar 2)]))) (gRet (gC (.str "earlier"))) gSkip)
  (gRet (gC (.str "beside"))))))))
noncomputable def F_kind_of : Fn := fun xs st => allR (g_kind_of F_lapse_and_gap F_is_less (begin 5 2 xs) st)
/-- the word of a lapse and a gap -/
noncomputable def kwB (b1 b2 b3 b4 : Bool) : Str := if (b1 && b2) = true then "same" else if (!b3) = true then "later" else if (!b4) = true then "earlier" else "beside"
noncomputable def kw (a g : Rat) : Str := kwB (decide (a = 0)) (decide (g = 0)) (decide (a < ab g)) (decide (-a < ab g))
theorem kind_ok {n : Nat} {t x u y : Rat} {st : List SO} (h1 : RS n t) (h2 : RS n x) (h3 : RS n u) (h4 : RS n y) (hn : n ≤ 1000) : F_kind_of [hp t x, hp u y] st = .ok (.str (kw (u - t) (y - x))) st := by
  have e1 := lapgap_ok (st := st) h1 h2 h3 h4 (by omega)
  have ha := h3.sub h1
  have hg := h4.sub h2
  generalize u - t = a at *
  generalize y - x = g at *
  have e2 := is_less_ok (st := st) ha hg.ab (by omega)
  have e3 := is_less_ok (st := st) ha.neg hg.ab (by omega)
  have n1 := num0 a
  have n2 := num0 g
  simp only [F_kind_of, g_kind_of, gSlN_eq, slN_r, slN_l, slNK_s, gRevN_eq, revN_r, revNK_s, tupleV_r, tupleV_l, gCallV_eq, gLend_eq, isNotBV_b, gRep_eq, repR_r, gZip_eq, zipR_t, zipR_l, gTry_eq, tryK_nx, tryK_ret, begin_eq, allR_nx, allR_ret, allR_exc, gSkip_eq, gSeq_eq, seqK_nx, seqK_ret, seqK_exc, toS_ok, toS_exc, toST_ok, toST_exc, toSL_ok, toSL_exc, gRet_eq, gAsg_eq, gSet_eq, gExpr_eq, gIfS_eq, gRaise_eq, gBin_eq, gUn_eq, gVar_eq, slotR_some, gC_eq, gArgs_nil, gArgs_cons, gTupE_eq, gLstE_eq, gNewE_eq, gCall_eq, gBi_eq, gB_eq, asB_bl, gAnd_eq, gOr_eq, gNot_eq, gVT_eq, gIf_eq, gChain_eq, chK_t, chK_f, chK_b, bnd_ok, bnd_exc, oo_some, gTo_eq, toK_some, tgName_eq, tgNil_eq, tgCons_eq, tgTup_eq, bind_some, gPar_eq, gCat_eq, catR_r, listV_t, listV_l, blsOf_nil, blsOf_cons, allV_l, isNV_d, notNV_d, parK_ok, parK_exc, gStore_eq, stK_some, gMeth_eq, gFor_eq, gRng1_eq, asI_i, gItL_eq, gItT_eq, asLst_l, asTup_t, addV_ii, subV_ii, mulV_ii, fdivV_ii, modV_ii, shlV_ii, pw6, pw9, pw18, pw19, pw20, pw25, pw30, pw39, ltV_ii, leV_ii, gtV_ii, geV_ii, negV_i, isNV_n, isNV_t, isNV_l, isNV_i, isNV_s, isNV_r, isNV_b, notNV_n, notNV_t, notNV_l, notNV_i, notNV_s, notNV_r, notNV_b, ixV_t, ixV_l, ixV_r, lenV_t, lenV_l, lenV_r, absV_i, max2V_ii, min2V_ii, bitsV_i, setIV_r, setK_some, setL_some, appendM_r, appK_some, appN_ok, isT_r, isK_l, lstK_some, tyK_l, isT_s, isiV_eq, tyN_int, tyN_bl, tyN_non, tyN_str, tyN_tup, tyN_lst, tyN_dct, tyN_r, kk_int_bool, kitK_t, kk_int_str, kk_int_tuple, kk_int_list, kk_int_dict, kk_int_NoneType, kk_bool_int, kk_bool_str, kk_bool_tuple, kk_bool_list, kk_bool_dict, kk_bool_NoneType, kk_str_int, kk_str_bool, kk_str_tuple, kk_str_list, kk_str_dict, kk_str_NoneType, kk_tuple_int, kk_tuple_bool, kk_tuple_str, kk_tuple_list, kk_tuple_dict, kk_tuple_NoneType, kk_list_int, kk_list_bool, kk_list_str, kk_list_tuple, kk_list_dict, kk_list_NoneType, kk_dict_int, kk_dict_bool, kk_dict_str, kk_dict_tuple, kk_dict_list, kk_dict_NoneType, eqV_int, neV_int, isBV_b, neV_bl, eqV_bl, eqV_ii, neV_ii, isNV_fr, notNV_fr, ixV_fr0, ixV_fr1, eqV_fr, neV_fr, int1V_b, int1V_i, ixV_hp0, ixV_hp1, isNV_hp, eqV_hp, neV_hp, tyN_fr, lenV_fr, at0, at1, at2, at3, at4, at5, ixN0, ixN1, List.map_cons, List.map_nil, List.replicate, List.cons_append, List.nil_append, List.getElem?_cons_zero, List.getElem?_cons_succ, List.set_cons_zero, List.set_cons_succ, Bool.not_true, Bool.not_false, Bool.false_eq_true, if_true, if_false, ite_true, ite_false, reduceIte, Nat.reduceSub, Nat.reduceAdd, ne_eq, Int.cast_ofNat_Int, Int.reduceBEq, Int.reduceLT, Int.reduceLE, Int.reduceEq, Int.reduceNeg, Int.reduceMul, Int.reduceAdd, Int.reduceSub, decide_true, decide_false, List.length_cons, List.length_nil, beq_self_eq_true, not_false_eq_true, not_true_eq_false, e1, n1, n2, ab_fr, neg_fr]
  unfold kw
  generalize ab g = b at *
  generalize decide (a = 0) = b1 at *
  generalize decide (g = 0) = b2 at *
  generalize decide (a < b) = b3 at *
  generalize decide (-a < b) = b4 at *
  cases b1 <;> cases b2 <;> cases b3 <;> cases b4 <;> simp only [gSlN_eq, slN_r, slN_l, slNK_s, gRevN_eq, revN_r, revNK_s, tupleV_r, tupleV_l, gCallV_eq, gLend_eq, isNotBV_b, gRep_eq, repR_r, gZip_eq, zipR_t, zipR_l, gTry_eq, tryK_nx, tryK_ret, begin_eq, allR_nx, allR_ret, allR_exc, gSkip_eq, gSeq_eq, seqK_nx, seqK_ret, seqK_exc, toS_ok, toS_exc, toST_ok, toST_exc, toSL_ok, toSL_exc, gRet_eq, gAsg_eq, gSet_eq, gExpr_eq, gIfS_eq, gRaise_eq, gBin_eq, gUn_eq, gVar_eq, slotR_some, gC_eq, gArgs_nil, gArgs_cons, gTupE_eq, gLstE_eq, gNewE_eq, gCall_eq, gBi_eq, gB_eq, asB_bl, gAnd_eq, gOr_eq, gNot_eq, gVT_eq, gIf_eq, gChain_eq, chK_t, chK_f, chK_b, bnd_ok, bnd_exc, oo_some, gTo_eq, toK_some, tgName_eq, tgNil_eq, tgCons_eq, tgTup_eq, bind_some, gPar_eq, gCat_eq, catR_r, listV_t, listV_l, blsOf_nil, blsOf_cons, allV_l, isNV_d, notNV_d, parK_ok, parK_exc, gStore_eq, stK_some, gMeth_eq, gFor_eq, gRng1_eq, asI_i, gItL_eq, gItT_eq, asLst_l, asTup_t, addV_ii, subV_ii, mulV_ii, fdivV_ii, modV_ii, shlV_ii, pw6, pw9, pw18, pw19, pw20, pw25, pw30, pw39, ltV_ii, leV_ii, gtV_ii, geV_ii, negV_i, isNV_n, isNV_t, isNV_l, isNV_i, isNV_s, isNV_r, isNV_b, notNV_n, notNV_t, notNV_l, notNV_i, notNV_s, notNV_r, notNV_b, ixV_t, ixV_l, ixV_r, lenV_t, lenV_l, lenV_r, absV_i, max2V_ii, min2V_ii, bitsV_i, setIV_r, setK_some, setL_some, appendM_r, appK_some, appN_ok, isT_r, isK_l, lstK_some, tyK_l, isT_s, isiV_eq, tyN_int, tyN_bl, tyN_non, tyN_str, tyN_tup, tyN_lst, tyN_dct, tyN_r, kk_int_bool, kitK_t, kk_int_str, kk_int_tuple, kk_int_list, kk_int_dict, kk_int_NoneType, kk_bool_int, kk_bool_str, kk_bool_tuple, kk_bool_list, kk_bool_dict, kk_bool_NoneType, kk_str_int, kk_str_bool, kk_str_tuple, kk_str_list, kk_str_dict, kk_str_NoneType, kk_tuple_int, kk_tuple_bool, kk_tuple_str, kk_tuple_list, kk_tuple_dict, kk_tuple_NoneType, kk_list_int, kk_list_bool, kk_list_str, kk_list_tuple, kk_list_dict, kk_list_NoneType, kk_dict_int, kk_dict_bool, kk_dict_str, kk_dict_tuple, kk_dict_list, kk_dict_NoneType, eqV_int, neV_int, isBV_b, neV_bl, eqV_bl, eqV_ii, neV_ii, isNV_fr, notNV_fr, ixV_fr0, ixV_fr1, eqV_fr, neV_fr, int1V_b, int1V_i, ixV_hp0, ixV_hp1, isNV_hp, eqV_hp, neV_hp, tyN_fr, lenV_fr, at0, at1, at2, at3, at4, at5, ixN0, ixN1, List.map_cons, List.map_nil, List.replicate, List.cons_append, List.nil_append, List.getElem?_cons_zero, List.getElem?_cons_succ, List.set_cons_zero, List.set_cons_succ, Bool.not_true, Bool.not_false, Bool.false_eq_true, if_true, if_false, ite_true, ite_false, reduceIte, Nat.reduceSub, Nat.reduceAdd, ne_eq, Int.cast_ofNat_Int, Int.reduceBEq, Int.reduceLT, Int.reduceLE, Int.reduceEq, Int.reduceNeg, Int.reduceMul, Int.reduceAdd, Int.reduceSub, decide_true, decide_false, List.length_cons, List.length_nil, beq_self_eq_true, not_false_eq_true, not_true_eq_false, neg_fr, e2, e3, kwB, Bool.and_self, Bool.and_false, Bool.and_true]

noncomputable def g_root_below : GS :=
  (gSeq (gIfS (gB (gBin eqV (gVar 0) (gC (.int 0)))) (gRet (gC (.int 0))) gSkip)
  (gSeq (gSet 1 (gBin shlV (gC (.int 1)) (gBin fdivV (gBin addV (gUn bitsV (gVar 0)) (gC (.int 1))) (gC (.int 2)))))
  (gSeq (gWhile (muI 1) (gB (gBin gtV (gBin mulV (gVar 1) (gVar 1)) (gVar 0))) (gSet 1 (gBin fdivV (gBin addV (gVar 1) (gBin fdivV (gVar 0) (gVar 1))) (gC (.int 2)))))
  (gRet (gVar 1)))))
noncomputable def F_root_below : Fn := fun xs st => allR (g_root_below (begin 2 1 xs) st)
theorem rb_loop (N : Nat) (hz : 0 < N) : ∀ (m f : Nat) (st : List SO), f < m → 0 < f → Sz 8500 (f : Int) → N < (f + 1) * (f + 1) →
    whl (gB (gBin gtV (gBin mulV (gVar 1) (gVar 1)) (gVar 0))) (gSet 1 (gBin fdivV (gBin addV (gVar 1) (gBin fdivV (gVar 0) (gVar 1))) (gC (.int 2)))) m [some (.int N), some (.int f)] st = .nx [some (.int N), some (.int (isq N))] st
  | 0, f, st, h, _, _, _ => by omega
  | m + 1, f, st, h, h0, hf, hN1 => by
    have sf := hf
    have mo : MulOk (f : Int) f := sf.mulOk sf (by omega)
    have d1 : DivOk (N : Int) f := sf.divOk (by omega)
    have d2 : ∀ i, DivOk i 2 := fun i => divOk_of (b := 2) (by decide) (by decide)
    have hne : ¬ ((f : Int) = 0) := by clear hf; omega
    have ed : Int.fdiv (N : Int) (f : Int) = ((N / f : Nat) : Int) := by rw [Int.fdiv_eq_ediv_of_nonneg _ (by clear hf; omega)]; exact (Int.natCast_ediv N f).symm
    have ed2 : Int.fdiv ((f : Int) + ((N / f : Nat) : Int)) 2 = (((f + N / f) / 2 : Nat) : Int) := by
      rw [Int.fdiv_eq_ediv_of_nonneg _ (by omega), ← Int.natCast_add]; exact (Int.natCast_ediv (f + N / f) 2).symm
    have eb : (decide ((N : Int) < (f : Int) * f)) = decide (N < f * f) := by
      have : (f : Int) * f = ((f * f : Nat) : Int) := (Int.natCast_mul f f).symm
      rw [this]
      by_cases q : N < f * f
      · rw [decide_eq_true q, decide_eq_true (by clear hf; omega)]
      · rw [decide_eq_false q, decide_eq_false (by clear hf; omega)]
    unfold whl
    simp only [gSlN_eq, slN_r, slN_l, slNK_s, gRevN_eq, revN_r, revNK_s, tupleV_r, tupleV_l, gCallV_eq, gLend_eq, isNotBV_b, gRep_eq, repR_r, gZip_eq, zipR_t, zipR_l, gTry_eq, tryK_nx, tryK_ret, begin_eq, allR_nx, allR_ret, allR_exc, gSkip_eq, gSeq_eq, seqK_nx, seqK_ret, seqK_exc, toS_ok, toS_exc, toST_ok, toST_exc, toSL_ok, toSL_exc, gRet_eq, gAsg_eq, gSet_eq, gExpr_eq, gIfS_eq, gRaise_eq, gBin_eq, gUn_eq, gVar_eq, slotR_some, gC_eq, gArgs_nil, gArgs_cons, gTupE_eq, gLstE_eq, gNewE_eq, gCall_eq, gBi_eq, gB_eq, asB_bl, gAnd_eq, gOr_eq, gNot_eq, gVT_eq, gIf_eq, gChain_eq, chK_t, chK_f, chK_b, bnd_ok, bnd_exc, oo_some, gTo_eq, toK_some, tgName_eq, tgNil_eq, tgCons_eq, tgTup_eq, bind_some, gPar_eq, gCat_eq, catR_r, listV_t, listV_l, blsOf_nil, blsOf_cons, allV_l, isNV_d, notNV_d, parK_ok, parK_exc, gStore_eq, stK_some, gMeth_eq, gFor_eq, gRng1_eq, asI_i, gItL_eq, gItT_eq, asLst_l, asTup_t, addV_ii, subV_ii, mulV_ii, fdivV_ii, modV_ii, shlV_ii, pw6, pw9, pw18, pw19, pw20, pw25, pw30, pw39, ltV_ii, leV_ii, gtV_ii, geV_ii, negV_i, isNV_n, isNV_t, isNV_l, isNV_i, isNV_s, isNV_r, isNV_b, notNV_n, notNV_t, notNV_l, notNV_i, notNV_s, notNV_r, notNV_b, ixV_t, ixV_l, ixV_r, lenV_t, lenV_l, lenV_r, absV_i, max2V_ii, min2V_ii, bitsV_i, setIV_r, setK_some, setL_some, appendM_r, appK_some, appN_ok, isT_r, isK_l, lstK_some, tyK_l, isT_s, isiV_eq, tyN_int, tyN_bl, tyN_non, tyN_str, tyN_tup, tyN_lst, tyN_dct, tyN_r, kk_int_bool, kitK_t, kk_int_str, kk_int_tuple, kk_int_list, kk_int_dict, kk_int_NoneType, kk_bool_int, kk_bool_str, kk_bool_tuple, kk_bool_list, kk_bool_dict, kk_bool_NoneType, kk_str_int, kk_str_bool, kk_str_tuple, kk_str_list, kk_str_dict, kk_str_NoneType, kk_tuple_int, kk_tuple_bool, kk_tuple_str, kk_tuple_list, kk_tuple_dict, kk_tuple_NoneType, kk_list_int, kk_list_bool, kk_list_str, kk_list_tuple, kk_list_dict, kk_list_NoneType, kk_dict_int, kk_dict_bool, kk_dict_str, kk_dict_tuple, kk_dict_list, kk_dict_NoneType, eqV_int, neV_int, isBV_b, neV_bl, eqV_bl, eqV_ii, neV_ii, isNV_fr, notNV_fr, ixV_fr0, ixV_fr1, eqV_fr, neV_fr, int1V_b, int1V_i, ixV_hp0, ixV_hp1, isNV_hp, eqV_hp, neV_hp, tyN_fr, lenV_fr, at0, at1, at2, at3, at4, at5, ixN0, ixN1, List.map_cons, List.map_nil, List.replicate, List.cons_append, List.nil_append, List.getElem?_cons_zero, List.getElem?_cons_succ, List.set_cons_zero, List.set_cons_succ, Bool.not_true, Bool.not_false, Bool.false_eq_true, if_true, if_false, ite_true, ite_false, reduceIte, Nat.reduceSub, Nat.reduceAdd, ne_eq, Int.cast_ofNat_Int, Int.reduceBEq, Int.reduceLT, Int.reduceLE, Int.reduceEq, Int.reduceNeg, Int.reduceMul, Int.reduceAdd, Int.reduceSub, decide_true, decide_false, List.length_cons, List.length_nil, beq_self_eq_true, not_false_eq_true, not_true_eq_false, mo, eb, decide_eq_true_eq, hne, d1, d2, ed, ed2, and_self]
    by_cases q : N < f * f
    · rw [if_pos q]
      have lt := newton_lt q
      have ge := newton_ge (N := N) h0
      have pos : 0 < (f + N / f) / 2 := by
        generalize (f + N / f) / 2 = g at *
        clear hf
        by_cases y : g = 0
        · subst y; omega
        · omega
      have lt' : (f + N / f) / 2 < m := by clear hf; omega
      exact rb_loop N hz m ((f + N / f) / 2) st lt' pos (hf.le (by rw [Int.natAbs_natCast, Int.natAbs_natCast]; exact Nat.le_of_lt lt)) ge
    · rw [if_neg q]
      rw [isq_of (r := f) (by clear hf; omega) hN1]
theorem root_below_0 {st : List SO} : F_root_below [.int 0] st = .ok (.int 0) st := by
  simp only [F_root_below, g_root_below, gSlN_eq, slN_r, slN_l, slNK_s, gRevN_eq, revN_r, revNK_s, tupleV_r, tupleV_l, gCallV_eq, gLend_eq, isNotBV_b, gRep_eq, repR_r, gZip_eq, zipR_t, zipR_l, gTry_eq, tryK_nx, tryK_ret, begin_eq, allR_nx, allR_ret, allR_exc, gSkip_eq, gSeq_eq, seqK_nx, seqK_ret, seqK_exc, toS_ok, toS_exc, toST_ok, toST_exc, toSL_ok, toSL_exc, gRet_eq, gAsg_eq, gSet_eq, gExpr_eq, gIfS_eq, gRaise_eq, gBin_eq, gUn_eq, gVar_eq, slotR_some, gC_eq, gArgs_nil, gArgs_cons, gTupE_eq, gLstE_eq, gNewE_eq, gCall_eq, gBi_eq, gB_eq, asB_bl, gAnd_eq, gOr_eq, gNot_eq, gVT_eq, gIf_eq, gChain_eq, chK_t, chK_f, chK_b, bnd_ok, bnd_exc, oo_some, gTo_eq, toK_some, tgName_eq, tgNil_eq, tgCons_eq, tgTup_eq, bind_some, gPar_eq, gCat_eq, catR_r, listV_t, listV_l, blsOf_nil, blsOf_cons, allV_l, isNV_d, notNV_d, parK_ok, parK_exc, gStore_eq, stK_some, gMeth_eq, gFor_eq, gRng1_eq, asI_i, gItL_eq, gItT_eq, asLst_l, asTup_t, addV_ii, subV_ii, mulV_ii, fdivV_ii, modV_ii, shlV_ii, pw6, pw9, pw18, pw19, pw20, pw25, pw30, pw39, ltV_ii, leV_ii, gtV_ii, geV_ii, negV_i, isNV_n, isNV_t, isNV_l, isNV_i, isNV_s, isNV_r, isNV_b, notNV_n, notNV_t, notNV_l, notNV_i, notNV_s, notNV_r, notNV_b, ixV_t, ixV_l, ixV_r, lenV_t, lenV_l, lenV_r, absV_i, max2V_ii, min2V_ii, bitsV_i, setIV_r, setK_some, setL_some, appendM_r, appK_some, appN_ok, isT_r, isK_l, lstK_some, tyK_l, isT_s, isiV_eq, tyN_int, tyN_bl, tyN_non, tyN_str, tyN_tup, tyN_lst, tyN_dct, tyN_r, kk_int_bool, kitK_t, kk_int_str, kk_int_tuple, kk_int_list, kk_int_dict, kk_int_NoneType, kk_bool_int, kk_bool_str, kk_bool_tuple, kk_bool_list, kk_bool_dict, kk_bool_NoneType, kk_str_int, kk_str_bool, kk_str_tuple, kk_str_list, kk_str_dict, kk_str_NoneType, kk_tuple_int, kk_tuple_bool, kk_tuple_str, kk_tuple_list, kk_tuple_dict, kk_tuple_NoneType, kk_list_int, kk_list_bool, kk_list_str, kk_list_tuple, kk_list_dict, kk_list_NoneType, kk_dict_int, kk_dict_bool, kk_dict_str, kk_dict_tuple, kk_dict_list, kk_dict_NoneType, eqV_int, neV_int, isBV_b, neV_bl, eqV_bl, eqV_ii, neV_ii, isNV_fr, notNV_fr, ixV_fr0, ixV_fr1, eqV_fr, neV_fr, int1V_b, int1V_i, ixV_hp0, ixV_hp1, isNV_hp, eqV_hp, neV_hp, tyN_fr, lenV_fr, at0, at1, at2, at3, at4, at5, ixN0, ixN1, List.map_cons, List.map_nil, List.replicate, List.cons_append, List.nil_append, List.getElem?_cons_zero, List.getElem?_cons_succ, List.set_cons_zero, List.set_cons_succ, Bool.not_true, Bool.not_false, Bool.false_eq_true, if_true, if_false, ite_true, ite_false, reduceIte, Nat.reduceSub, Nat.reduceAdd, ne_eq, Int.cast_ofNat_Int, Int.reduceBEq, Int.reduceLT, Int.reduceLE, Int.reduceEq, Int.reduceNeg, Int.reduceMul, Int.reduceAdd, Int.reduceSub, decide_true, decide_false, List.length_cons, List.length_nil, beq_self_eq_true, not_false_eq_true, not_true_eq_false]
theorem sz_pow {a b : Nat} (h : a < b) : Sz b ((2 ^ a : Nat) : Int) := by
  unfold Sz; rw [Int.natAbs_natCast]; exact Nat.pow_lt_pow_right (by omega) h
theorem root_below_ok {N : Nat} {st : List SO} (hN : N < 2 ^ 8000) : F_root_below [.int N] st = .ok (.int (isq N)) st := by
  by_cases h0 : N = 0
  · subst h0
    have : isq 0 = 0 := isq_of (by omega) (by omega)
    rw [this]
    exact root_below_0
  · have hne : (((N : Nat) : Int) == 0) = false := by simpa using h0
    have hbits : Builtin.Int.intBits (N : Int) = N.log2 + 1 := by
      unfold Builtin.Int.intBits
      rw [if_neg (by simpa using h0), Int.natAbs_natCast]
    have hl : N < 2 ^ (N.log2 + 1) := Nat.lt_log2_self
    have hl8 : N.log2 < 8000 := (Nat.log2_lt h0).mpr hN
    clear hN
    generalize hb : N.log2 = b at *
    have ef : Int.fdiv (((b + 1 : Nat) : Int) + 1) 2 = (((b + 2) / 2 : Nat) : Int) := by
      rw [Int.fdiv_eq_ediv_of_nonneg _ (by omega)]
      have : (((b + 1 : Nat) : Int) + 1) = ((b + 2 : Nat) : Int) := by omega
      rw [this]; exact (Int.natCast_ediv (b + 2) 2).symm
    have d2 : ∀ i, DivOk i 2 := fun i => divOk_of (b := 2) (by decide) (by decide)
    have i1 : Builtin.Int.intBits 1 = 1 := by decide
    have sh : ShlOk 1 (((b + 2) / 2 : Nat) : Int) := by
      refine ⟨by omega, ?_⟩
      rw [i1]
      omega
    have es : (1 : Int) * 2 ^ ((((b + 2) / 2 : Nat) : Int)).toNat = ((2 ^ ((b + 2) / 2) : Nat) : Int) := by
      rw [Int.toNat_natCast, Int.one_mul]; exact (Int.natCast_pow 2 _).symm
    have big : N < (2 ^ ((b + 2) / 2) + 1) * (2 ^ ((b + 2) / 2) + 1) := by
      have : 2 ^ (b + 1) ≤ 2 ^ ((b + 2) / 2) * 2 ^ ((b + 2) / 2) := by
        rw [← Nat.pow_add]; exact Nat.pow_le_pow_right (by omega) (by omega)
      have : 2 ^ ((b + 2) / 2) * 2 ^ ((b + 2) / 2) ≤ (2 ^ ((b + 2) / 2) + 1) * (2 ^ ((b + 2) / 2) + 1) := Nat.mul_le_mul (by omega) (by omega)
      omega
    have small : Sz 8500 ((2 ^ ((b + 2) / 2) : Nat) : Int) := sz_pow (by omega)
    have pos : 0 < 2 ^ ((b + 2) / 2) := Nat.pow_pos (by omega)
    have L := rb_loop N (by omega) (2 ^ ((b + 2) / 2) + 1) (2 ^ ((b + 2) / 2)) st (by omega) pos small big
    have mu : muI 1 [some (.int N), some (.int ((2 ^ ((b + 2) / 2) : Nat) : Int))] = 2 ^ ((b + 2) / 2) + 1 := rfl
    generalize 2 ^ ((b + 2) / 2) = f0 at *
    have s1 : gIfS (gB (gBin eqV (gVar 0) (gC (.int 0)))) (gRet (gC (.int 0))) gSkip [some (.int N), none] st = .nx [some (.int N), none] st := by
      simp only [gSlN_eq, slN_r, slN_l, slNK_s, gRevN_eq, revN_r, revNK_s, tupleV_r, tupleV_l, gCallV_eq, gLend_eq, isNotBV_b, gRep_eq, repR_r, gZip_eq, zipR_t, zipR_l, gTry_eq, tryK_nx, tryK_ret, begin_eq, allR_nx, allR_ret, allR_exc, gSkip_eq, gSeq_eq, seqK_nx, seqK_ret, seqK_exc, toS_ok, toS_exc, toST_ok, toST_exc, toSL_ok, toSL_exc, gRet_eq, gAsg_eq, gSet_eq, gExpr_eq, gIfS_eq, gRaise_eq, gBin_eq, gUn_eq, gVar_eq, slotR_some, gC_eq, gArgs_nil, gArgs_cons, gTupE_eq, gLstE_eq, gNewE_eq, gCall_eq, gBi_eq, gB_eq, asB_bl, gAnd_eq, gOr_eq, gNot_eq, gVT_eq, gIf_eq, gChain_eq, chK_t, chK_f, chK_b, bnd_ok, bnd_exc, oo_some, gTo_eq, toK_some, tgName_eq, tgNil_eq, tgCons_eq, tgTup_eq, bind_some, gPar_eq, gCat_eq, catR_r, listV_t, listV_l, blsOf_nil, blsOf_cons, allV_l, isNV_d, notNV_d, parK_ok, parK_exc, gStore_eq, stK_some, gMeth_eq, gFor_eq, gRng1_eq, asI_i, gItL_eq, gItT_eq, asLst_l, asTup_t, addV_ii, subV_ii, mulV_ii, fdivV_ii, modV_ii, shlV_ii, pw6, pw9, pw18, pw19, pw20, pw25, pw30, pw39, ltV_ii, leV_ii, gtV_ii, geV_ii, negV_i, isNV_n, isNV_t, isNV_l, isNV_i, isNV_s, isNV_r, isNV_b, notNV_n, notNV_t, notNV_l, notNV_i, notNV_s, notNV_r, notNV_b, ixV_t, ixV_l, ixV_r, lenV_t, lenV_l, lenV_r, absV_i, max2V_ii, min2V_ii, bitsV_i, setIV_r, setK_some, setL_some, appendM_r, appK_some, appN_ok, isT_r, isK_l, lstK_some, tyK_l, isT_s, isiV_eq, tyN_int, tyN_bl, tyN_non, tyN_str, tyN_tup, tyN_lst, tyN_dct, tyN_r, kk_int_bool, kitK_t, kk_int_str, kk_int_tuple, kk_int_list, kk_int_dict, kk_int_NoneType, kk_bool_int, kk_bool_str, kk_bool_tuple, kk_bool_list, kk_bool_dict, kk_bool_NoneType, kk_str_int, kk_str_bool, kk_str_tuple, kk_str_list, kk_str_dict, kk_str_NoneType, kk_tuple_int, kk_tuple_bool, kk_tuple_str, kk_tuple_list, kk_tuple_dict, kk_tuple_NoneType, kk_list_int, kk_list_bool, kk_list_str, kk_list_tuple, kk_list_dict, kk_list_NoneType, kk_dict_int, kk_dict_bool, kk_dict_str, kk_dict_tuple, kk_dict_list, kk_dict_NoneType, eqV_int, neV_int, isBV_b, neV_bl, eqV_bl, eqV_ii, neV_ii, isNV_fr, notNV_fr, ixV_fr0, ixV_fr1, eqV_fr, neV_fr, int1V_b, int1V_i, ixV_hp0, ixV_hp1, isNV_hp, eqV_hp, neV_hp, tyN_fr, lenV_fr, at0, at1, at2, at3, at4, at5, ixN0, ixN1, List.map_cons, List.map_nil, List.replicate, List.cons_append, List.nil_append, List.getElem?_cons_zero, List.getElem?_cons_succ, List.set_cons_zero, List.set_cons_succ, Bool.not_true, Bool.not_false, Bool.false_eq_true, if_true, if_false, ite_true, ite_false, reduceIte, Nat.reduceSub, Nat.reduceAdd, ne_eq, Int.cast_ofNat_Int, Int.reduceBEq, Int.reduceLT, Int.reduceLE, Int.reduceEq, Int.reduceNeg, Int.reduceMul, Int.reduceAdd, Int.reduceSub, decide_true, decide_false, List.length_cons, List.length_nil, beq_self_eq_true, not_false_eq_true, not_true_eq_false, hne]
    have s2 : gSet 1 (gBin shlV (gC (.int 1)) (gBin fdivV (gBin addV (gUn bitsV (gVar 0)) (gC (.int 1))) (gC (.int 2)))) [some (.int N), none] st = .nx [some (.int N), some (.int f0)] st := by
      simp only [gSlN_eq, slN_r, slN_l, slNK_s, gRevN_eq, revN_r, revNK_s, tupleV_r, tupleV_l, gCallV_eq, gLend_eq, isNotBV_b, gRep_eq, repR_r, gZip_eq, zipR_t, zipR_l, gTry_eq, tryK_nx, tryK_ret, begin_eq, allR_nx, allR_ret, allR_exc, gSkip_eq, gSeq_eq, seqK_nx, seqK_ret, seqK_exc, toS_ok, toS_exc, toST_ok, toST_exc, toSL_ok, toSL_exc, gRet_eq, gAsg_eq, gSet_eq, gExpr_eq, gIfS_eq, gRaise_eq, gBin_eq, gUn_eq, gVar_eq, slotR_some, gC_eq, gArgs_nil, gArgs_cons, gTupE_eq, gLstE_eq, gNewE_eq, gCall_eq, gBi_eq, gB_eq, asB_bl, gAnd_eq, gOr_eq, gNot_eq, gVT_eq, gIf_eq, gChain_eq, chK_t, chK_f, chK_b, bnd_ok, bnd_exc, oo_some, gTo_eq, toK_some, tgName_eq, tgNil_eq, tgCons_eq, tgTup_eq, bind_some, gPar_eq, gCat_eq, catR_r, listV_t, listV_l, blsOf_nil, blsOf_cons, allV_l, isNV_d, notNV_d, parK_ok, parK_exc, gStore_eq, stK_some, gMeth_eq, gFor_eq, gRng1_eq, asI_i, gItL_eq, gItT_eq, asLst_l, asTup_t, addV_ii, subV_ii, mulV_ii, fdivV_ii, modV_ii, shlV_ii, pw6, pw9, pw18, pw19, pw20, pw25, pw30, pw39, ltV_ii, leV_ii, gtV_ii, geV_ii, negV_i, isNV_n, isNV_t, isNV_l, isNV_i, isNV_s, isNV_r, isNV_b, notNV_n, notNV_t, notNV_l, notNV_i, notNV_s, notNV_r, notNV_b, ixV_t, ixV_l, ixV_r, lenV_t, lenV_l, lenV_r, absV_i, max2V_ii, min2V_ii, bitsV_i, setIV_r, setK_some, setL_some, appendM_r, appK_some, appN_ok, isT_r, isK_l, lstK_some, tyK_l, isT_s, isiV_eq, tyN_int, tyN_bl, tyN_non, tyN_str, tyN_tup, tyN_lst, tyN_dct, tyN_r, kk_int_bool, kitK_t, kk_int_str, kk_int_tuple, kk_int_list, kk_int_dict, kk_int_NoneType, kk_bool_int, kk_bool_str, kk_bool_tuple, kk_bool_list, kk_bool_dict, kk_bool_NoneType, kk_str_int, kk_str_bool, kk_str_tuple, kk_str_list, kk_str_dict, kk_str_NoneType, kk_tuple_int, kk_tuple_bool, kk_tuple_str, kk_tuple_list, kk_tuple_dict, kk_tuple_NoneType, kk_list_int, kk_list_bool, kk_list_str, kk_list_tuple, kk_list_dict, kk_list_NoneType, kk_dict_int, kk_dict_bool, kk_dict_str, kk_dict_tuple, kk_dict_list, kk_dict_NoneType, eqV_int, neV_int, isBV_b, neV_bl, eqV_bl, eqV_ii, neV_ii, isNV_fr, notNV_fr, ixV_fr0, ixV_fr1, eqV_fr, neV_fr, int1V_b, int1V_i, ixV_hp0, ixV_hp1, isNV_hp, eqV_hp, neV_hp, tyN_fr, lenV_fr, at0, at1, at2, at3, at4, at5, ixN0, ixN1, List.map_cons, List.map_nil, List.replicate, List.cons_append, List.nil_append, List.getElem?_cons_zero, List.getElem?_cons_succ, List.set_cons_zero, List.set_cons_succ, Bool.not_true, Bool.not_false, Bool.false_eq_true, if_true, if_false, ite_true, ite_false, reduceIte, Nat.reduceSub, Nat.reduceAdd, ne_eq, Int.cast_ofNat_Int, Int.reduceBEq, Int.reduceLT, Int.reduceLE, Int.reduceEq, Int.reduceNeg, Int.reduceMul, Int.reduceAdd, Int.reduceSub, decide_true, decide_false, List.length_cons, List.length_nil, beq_self_eq_true, not_false_eq_true, not_true_eq_false, hbits, ef, d2, sh, es, and_self]
    have s3 : gWhile (muI 1) (gB (gBin gtV (gBin mulV (gVar 1) (gVar 1)) (gVar 0))) (gSet 1 (gBin fdivV (gBin addV (gVar 1) (gBin fdivV (gVar 0) (gVar 1))) (gC (.int 2)))) [some (.int N), some (.int f0)] st = .nx [some (.int N), some (.int (isq N))] st := by
      unfold gWhile; rw [mu]; exact L
    unfold F_root_below g_root_below
    rw [show begin 2 1 [PV.int N] = [some (.int N), none] from rfl, seq_nx s1 rfl, seq_nx s2 rfl, seq_nx s3 rfl]
    rfl

noncomputable def g_root_of (F_root_below : Fn) : GS :=
  (gSeq (gIfS (gB (gBin ltV (gBin ixV (gVar 0) (gC (.int 0))) (gC (.int 0)))) (gRet (gC .non)) gSkip)
  (gSeq (gSet 1 (gTupE [(gCall F_root_below [(gBin ixV (gVar 0) (gC (.int 0)))]), (gCall F_root_below [(gBin ixV (gVar 0) (gC (.int 1)))])]))
  (gSeq (gIfS (gOr (gB (gBin neV (gBin mulV (gBin ixV (gVar 1) (gC (.int 0))) (gBin ixV (gVar 1) (gC (.int 0)))) (gBin ixV (gVar 0) (gC (.int 0))))) (gB (gBin neV (gBin mulV (gBin ixV (gVar 1) (gC (.int 1))) (gBin ixV (gVar 1) (gC (.int 1)))) (gBin ixV (gVar 0) (gC (.int 1)))))) (gRet (gC .non)) gSkip)
  (gRet (gVar 1)))))
noncomputable def F_root_of : Fn := fun xs st => allR (g_root_of F_root_below (begin 2 1 xs) st)
theorem root_of_ok {q : Rat} {st : List SO} (hq : RS 8000 q) : F_root_of [fr q] st = .ok (frO (rootQ q)) st := by
  by_cases h0 : q.num < 0
  · have hs : ¬ isSq q := fun h => by have := h.1; omega
    have : rootQ q = none := if_neg hs
    simp only [F_root_of, g_root_of, gSlN_eq, slN_r, slN_l, slNK_s, gRevN_eq, revN_r, revNK_s, tupleV_r, tupleV_l, gCallV_eq, gLend_eq, isNotBV_b, gRep_eq, repR_r, gZip_eq, zipR_t, zipR_l, gTry_eq, tryK_nx, tryK_ret, begin_eq, allR_nx, allR_ret, allR_exc, gSkip_eq, gSeq_eq, seqK_nx, seqK_ret, seqK_exc, toS_ok, toS_exc, toST_ok, toST_exc, toSL_ok, toSL_exc, gRet_eq, gAsg_eq, gSet_eq, gExpr_eq, gIfS_eq, gRaise_eq, gBin_eq, gUn_eq, gVar_eq, slotR_some, gC_eq, gArgs_nil, gArgs_cons, gTupE_eq, gLstE_eq, gNewE_eq, gCall_eq, gBi_eq, gB_eq, asB_bl, gAnd_eq, gOr_eq, gNot_eq, gVT_eq, gIf_eq, gChain_eq, chK_t, chK_f, chK_b, bnd_ok, bnd_exc, oo_some, gTo_eq, toK_some, tgName_eq, tgNil_eq, tgCons_eq, tgTup_eq, bind_some, gPar_eq, gCat_eq, catR_r, listV_t, listV_l, blsOf_nil, blsOf_cons, allV_l, isNV_d, notNV_d, parK_ok, parK_exc, gStore_eq, stK_some, gMeth_eq, gFor_eq, gRng1_eq, asI_i, gItL_eq, gItT_eq, asLst_l, asTup_t, addV_ii, subV_ii, mulV_ii, fdivV_ii, modV_ii, shlV_ii, pw6, pw9, pw18, pw19, pw20, pw25, pw30, pw39, ltV_ii, leV_ii, gtV_ii, geV_ii, negV_i, isNV_n, isNV_t, isNV_l, isNV_i, isNV_s, isNV_r, isNV_b, notNV_n, notNV_t, notNV_l, notNV_i, notNV_s, notNV_r, notNV_b, ixV_t, ixV_l, ixV_r, lenV_t, lenV_l, lenV_r, absV_i, max2V_ii, min2V_ii, bitsV_i, setIV_r, setK_some, setL_some, appendM_r, appK_some, appN_ok, isT_r, isK_l, lstK_some, tyK_l, isT_s, isiV_eq, tyN_int, tyN_bl, tyN_non, tyN_str, tyN_tup, tyN_lst, tyN_dct, tyN_r, kk_int_bool, kitK_t, kk_int_str, kk_int_tuple, kk_int_list, kk_int_dict, kk_int_NoneType, kk_bool_int, kk_bool_str, kk_bool_tuple, kk_bool_list, kk_bool_dict, kk_bool_NoneType, kk_str_int, kk_str_bool, kk_str_tuple, kk_str_list, kk_str_dict, kk_str_NoneType, kk_tuple_int, kk_tuple_bool, kk_tuple_str, kk_tuple_list, kk_tuple_dict, kk_tuple_NoneType, kk_list_int, kk_list_bool, kk_list_str, kk_list_tuple, kk_list_dict, kk_list_NoneType, kk_dict_int, kk_dict_bool, kk_dict_str, kk_dict_tuple, kk_dict_list, kk_dict_NoneType, eqV_int, neV_int, isBV_b, neV_bl, eqV_bl, eqV_ii, neV_ii, isNV_fr, notNV_fr, ixV_fr0, ixV_fr1, eqV_fr, neV_fr, int1V_b, int1V_i, ixV_hp0, ixV_hp1, isNV_hp, eqV_hp, neV_hp, tyN_fr, lenV_fr, at0, at1, at2, at3, at4, at5, ixN0, ixN1, List.map_cons, List.map_nil, List.replicate, List.cons_append, List.nil_append, List.getElem?_cons_zero, List.getElem?_cons_succ, List.set_cons_zero, List.set_cons_succ, Bool.not_true, Bool.not_false, Bool.false_eq_true, if_true, if_false, ite_true, ite_false, reduceIte, Nat.reduceSub, Nat.reduceAdd, ne_eq, Int.cast_ofNat_Int, Int.reduceBEq, Int.reduceLT, Int.reduceLE, Int.reduceEq, Int.reduceNeg, Int.reduceMul, Int.reduceAdd, Int.reduceSub, decide_true, decide_false, List.length_cons, List.length_nil, beq_self_eq_true, not_false_eq_true, not_true_eq_false, fr, h0, this, frO]
  · obtain ⟨N, hN⟩ : ∃ N : Nat, q.num = (N : Int) := ⟨q.num.toNat, by omega⟩
    have sN : N < 2 ^ 8000 := by have := hq.1; unfold Sz at this; rw [hN, Int.natAbs_natCast] at this; exact this
    have tN : q.num.toNat = N := by omega
    have r1 := root_below_ok (st := st) sN
    have r2 := root_below_ok (st := st) hq.2
    have s1 : Sz 8000 (isq N : Int) := by unfold Sz; rw [Int.natAbs_natCast]; exact Nat.lt_of_le_of_lt (isq_self_le N) sN
    have s2 : Sz 8000 (isq q.den : Int) := by unfold Sz; rw [Int.natAbs_natCast]; exact Nat.lt_of_le_of_lt (isq_self_le q.den) hq.2
    have m1 := s1.mulOk s1 (by omega)
    have m2 := s2.mulOk s2 (by omega)
    have e1 : ((isq N : Int) * (isq N : Int) == (N : Int)) = decide (isq N * isq N = N) := by
      rw [← Int.natCast_mul]
      by_cases z : isq N * isq N = N
      · rw [decide_eq_true z, z]; simp
      · rw [decide_eq_false z]
        have : ¬ ((isq N * isq N : Nat) : Int) = (N : Int) := by omega
        simpa using this
    have e2 : ((isq q.den : Int) * (isq q.den : Int) == (q.den : Int)) = decide (isq q.den * isq q.den = q.den) := by
      rw [← Int.natCast_mul]
      by_cases z : isq q.den * isq q.den = q.den
      · rw [decide_eq_true z, z]; simp
      · rw [decide_eq_false z]
        have : ¬ ((isq q.den * isq q.den : Nat) : Int) = (q.den : Int) := by omega
        simpa using this
    have hN0 : ¬ ((N : Int) < 0) := by omega
    by_cases z1 : isq N * isq N = N
    · by_cases z2 : isq q.den * isq q.den = q.den
      · have hs : isSq q := ⟨by omega, by rw [tN]; exact z1, z2⟩
        obtain ⟨p1, p2⟩ := isSq_parts hs
        have : rootQ q = some (Rat.divInt (isq q.num.toNat) (isq q.den)) := if_pos hs
        rw [this]
        simp only [F_root_of, g_root_of, gSlN_eq, slN_r, slN_l, slNK_s, gRevN_eq, revN_r, revNK_s, tupleV_r, tupleV_l, gCallV_eq, gLend_eq, isNotBV_b, gRep_eq, repR_r, gZip_eq, zipR_t, zipR_l, gTry_eq, tryK_nx, tryK_ret, begin_eq, allR_nx, allR_ret, allR_exc, gSkip_eq, gSeq_eq, seqK_nx, seqK_ret, seqK_exc, toS_ok, toS_exc, toST_ok, toST_exc, toSL_ok, toSL_exc, gRet_eq, gAsg_eq, gSet_eq, gExpr_eq, gIfS_eq, gRaise_eq, gBin_eq, gUn_eq, gVar_eq, slotR_some, gC_eq, gArgs_nil, gArgs_cons, gTupE_eq, gLstE_eq, gNewE_eq, gCall_eq, gBi_eq, gB_eq, asB_bl, gAnd_eq, gOr_eq, gNot_eq, gVT_eq, gIf_eq, gChain_eq, chK_t, chK_f, chK_b, bnd_ok, bnd_exc, oo_some, gTo_eq, toK_some, tgName_eq, tgNil_eq, tgCons_eq, tgTup_eq, bind_some, gPar_eq, gCat_eq, catR_r, listV_t, listV_l, blsOf_nil, blsOf_cons, allV_l, isNV_d, notNV_d, parK_ok, parK_exc, gStore_eq, stK_some, gMeth_eq, gFor_eq, gRng1_eq, asI_i, gItL_eq, gItT_eq, asLst_l, asTup_t, addV_ii, subV_ii, mulV_ii, fdivV_ii, modV_ii, shlV_ii, pw6, pw9, pw18, pw19, pw20, pw25, pw30, pw39, ltV_ii, leV_ii, gtV_ii, geV_ii, negV_i, isNV_n, isNV_t, isNV_l, isNV_i, isNV_s, isNV_r, isNV_b, notNV_n, notNV_t, notNV_l, notNV_i, notNV_s, notNV_r, notNV_b, ixV_t, ixV_l, ixV_r, lenV_t, lenV_l, lenV_r, absV_i, max2V_ii, min2V_ii, bitsV_i, setIV_r, setK_some, setL_some, appendM_r, appK_some, appN_ok, isT_r, isK_l, lstK_some, tyK_l, isT_s, isiV_eq, tyN_int, tyN_bl, tyN_non, tyN_str, tyN_tup, tyN_lst, tyN_dct, tyN_r, kk_int_bool, kitK_t, kk_int_str, kk_int_tuple, kk_int_list, kk_int_dict, kk_int_NoneType, kk_bool_int, kk_bool_str, kk_bool_tuple, kk_bool_list, kk_bool_dict, kk_bool_NoneType, kk_str_int, kk_str_bool, kk_str_tuple, kk_str_list, kk_str_dict, kk_str_NoneType, kk_tuple_int, kk_tuple_bool, kk_tuple_str, kk_tuple_list, kk_tuple_dict, kk_tuple_NoneType, kk_list_int, kk_list_bool, kk_list_str, kk_list_tuple, kk_list_dict, kk_list_NoneType, kk_dict_int, kk_dict_bool, kk_dict_str, kk_dict_tuple, kk_dict_list, kk_dict_NoneType, eqV_int, neV_int, isBV_b, neV_bl, eqV_bl, eqV_ii, neV_ii, isNV_fr, notNV_fr, ixV_fr0, ixV_fr1, eqV_fr, neV_fr, int1V_b, int1V_i, ixV_hp0, ixV_hp1, isNV_hp, eqV_hp, neV_hp, tyN_fr, lenV_fr, at0, at1, at2, at3, at4, at5, ixN0, ixN1, List.map_cons, List.map_nil, List.replicate, List.cons_append, List.nil_append, List.getElem?_cons_zero, List.getElem?_cons_succ, List.set_cons_zero, List.set_cons_succ, Bool.not_true, Bool.not_false, Bool.false_eq_true, if_true, if_false, ite_true, ite_false, reduceIte, Nat.reduceSub, Nat.reduceAdd, ne_eq, Int.cast_ofNat_Int, Int.reduceBEq, Int.reduceLT, Int.reduceLE, Int.reduceEq, Int.reduceNeg, Int.reduceMul, Int.reduceAdd, Int.reduceSub, decide_true, decide_false, List.length_cons, List.length_nil, beq_self_eq_true, not_false_eq_true, not_true_eq_false, fr, frO, hN, hN0, r1, r2, m1, m2, e1, e2, z1, z2, p1, p2]
        rw [hN, Int.toNat_natCast] at p1 p2
        first
          | done
          | simp only [p1, p2, Int.toNat_natCast]
      · have hs : ¬ isSq q := fun h => z2 h.2.2
        have : rootQ q = none := if_neg hs
        simp only [F_root_of, g_root_of, gSlN_eq, slN_r, slN_l, slNK_s, gRevN_eq, revN_r, revNK_s, tupleV_r, tupleV_l, gCallV_eq, gLend_eq, isNotBV_b, gRep_eq, repR_r, gZip_eq, zipR_t, zipR_l, gTry_eq, tryK_nx, tryK_ret, begin_eq, allR_nx, allR_ret, allR_exc, gSkip_eq, gSeq_eq, seqK_nx, seqK_ret, seqK_exc, toS_ok, toS_exc, toST_ok, toST_exc, toSL_ok, toSL_exc, gRet_eq, gAsg_eq, gSet_eq, gExpr_eq, gIfS_eq, gRaise_eq, gBin_eq, gUn_eq, gVar_eq, slotR_some, gC_eq, gArgs_nil, gArgs_cons, gTupE_eq, gLstE_eq, gNewE_eq, gCall_eq, gBi_eq, gB_eq, asB_bl, gAnd_eq, gOr_eq, gNot_eq, gVT_eq, gIf_eq, gChain_eq, chK_t, chK_f, chK_b, bnd_ok, bnd_exc, oo_some, gTo_eq, toK_some, tgName_eq, tgNil_eq, tgCons_eq, tgTup_eq, bind_some, gPar_eq, gCat_eq, catR_r, listV_t, listV_l, blsOf_nil, blsOf_cons, allV_l, isNV_d, notNV_d, parK_ok, parK_exc, gStore_eq, stK_some, gMeth_eq, gFor_eq, gRng1_eq, asI_i, gItL_eq, gItT_eq, asLst_l, asTup_t, addV_ii, subV_ii, mulV_ii, fdivV_ii, modV_ii, shlV_ii, pw6, pw9, pw18, pw19, pw20, pw25, pw30, pw39, ltV_ii, leV_ii, gtV_ii, geV_ii, negV_i, isNV_n, isNV_t, isNV_l, isNV_i, isNV_s, isNV_r, isNV_b, notNV_n, notNV_t, notNV_l, notNV_i, notNV_s, notNV_r, notNV_b, ixV_t, ixV_l, ixV_r, lenV_t, lenV_l, lenV_r, absV_i, max2V_ii, min2V_ii, bitsV_i, setIV_r, setK_some, setL_some, appendM_r, appK_some, appN_ok, isT_r, isK_l, lstK_some, tyK_l, isT_s, isiV_eq, tyN_int, tyN_bl, tyN_non, tyN_str, tyN_tup, tyN_lst, tyN_dct, tyN_r, kk_int_bool, kitK_t, kk_int_str, kk_int_tuple, kk_int_list, kk_int_dict, kk_int_NoneType, kk_bool_int, kk_bool_str, kk_bool_tuple, kk_bool_list, kk_bool_dict, kk_bool_NoneType, kk_str_int, kk_str_bool, kk_str_tuple, kk_str_list, kk_str_dict, kk_str_NoneType, kk_tuple_int, kk_tuple_bool, kk_tuple_str, kk_tuple_list, kk_tuple_dict, kk_tuple_NoneType, kk_list_int, kk_list_bool, kk_list_str, kk_list_tuple, kk_list_dict, kk_list_NoneType, kk_dict_int, kk_dict_bool, kk_dict_str, kk_dict_tuple, kk_dict_list, kk_dict_NoneType, eqV_int, neV_int, isBV_b, neV_bl, eqV_bl, eqV_ii, neV_ii, isNV_fr, notNV_fr, ixV_fr0, ixV_fr1, eqV_fr, neV_fr, int1V_b, int1V_i, ixV_hp0, ixV_hp1, isNV_hp, eqV_hp, neV_hp, tyN_fr, lenV_fr, at0, at1, at2, at3, at4, at5, ixN0, ixN1, List.map_cons, List.map_nil, List.replicate, List.cons_append, List.nil_append, List.getElem?_cons_zero, List.getElem?_cons_succ, List.set_cons_zero, List.set_cons_succ, Bool.not_true, Bool.not_false, Bool.false_eq_true, if_true, if_false, ite_true, ite_false, reduceIte, Nat.reduceSub, Nat.reduceAdd, ne_eq, Int.cast_ofNat_Int, Int.reduceBEq, Int.reduceLT, Int.reduceLE, Int.reduceEq, Int.reduceNeg, Int.reduceMul, Int.reduceAdd, Int.reduceSub, decide_true, decide_false, List.length_cons, List.length_nil, beq_self_eq_true, not_false_eq_true, not_true_eq_false, fr, frO, this, hN, hN0, r1, r2, m1, m2, e1, e2, z1, z2]
    · have hs : ¬ isSq q := fun h => z1 (by have := h.2.1; rw [tN] at this; exact this)
      have : rootQ q = none := if_neg hs
      simp only [F_root_of, g_root_of, gSlN_eq, slN_r, slN_l, slNK_s, gRevN_eq, revN_r, revNK_s, tupleV_r, tupleV_l, gCallV_eq, gLend_eq, isNotBV_b, gRep_eq, repR_r, gZip_eq, zipR_t, zipR_l, gTry_eq, tryK_nx, tryK_ret, begin_eq, allR_nx, allR_ret, allR_exc, gSkip_eq, gSeq_eq, seqK_nx, seqK_ret, seqK_exc, toS_ok, toS_exc, toST_ok, toST_exc, toSL_ok, toSL_exc, gRet_eq, gAsg_eq, gSet_eq, gExpr_eq, gIfS_eq, gRaise_eq, gBin_eq, gUn_eq, gVar_eq, slotR_some, gC_eq, gArgs_nil, gArgs_cons, gTupE_eq, gLstE_eq, gNewE_eq, gCall_eq, gBi_eq, gB_eq, asB_bl, gAnd_eq, gOr_eq, gNot_eq, gVT_eq, gIf_eq, gChain_eq, chK_t, chK_f, chK_b, bnd_ok, bnd_exc, oo_some, gTo_eq, toK_some, tgName_eq, tgNil_eq, tgCons_eq, tgTup_eq, bind_some, gPar_eq, gCat_eq, catR_r, listV_t, listV_l, blsOf_nil, blsOf_cons, allV_l, isNV_d, notNV_d, parK_ok, parK_exc, gStore_eq, stK_some, gMeth_eq, gFor_eq, gRng1_eq, asI_i, gItL_eq, gItT_eq, asLst_l, asTup_t, addV_ii, subV_ii, mulV_ii, fdivV_ii, modV_ii, shlV_ii, pw6, pw9, pw18, pw19, pw20, pw25, pw30, pw39, ltV_ii, leV_ii, gtV_ii, geV_ii, negV_i, isNV_n, isNV_t, isNV_l, isNV_i, isNV_s, isNV_r, isNV_b, notNV_n, notNV_t, notNV_l, notNV_i, notNV_s, notNV_r, notNV_b, ixV_t, ixV_l, ixV_r, lenV_t, lenV_l, lenV_r, absV_i, max2V_ii, min2V_ii, bitsV_i, setIV_r, setK_some, setL_some, appendM_r, appK_some, appN_ok, isT_r, isK_l, lstK_some, tyK_l, isT_s, isiV_eq, tyN_int, tyN_bl, tyN_non, tyN_str, tyN_tup, tyN_lst, tyN_dct, tyN_r, kk_int_bool, kitK_t, kk_int_str, kk_int_tuple, kk_int_list, kk_int_dict, kk_int_NoneType, kk_bool_int, kk_bool_str, kk_bool_tuple, kk_bool_list, kk_bool_dict, kk_bool_NoneType, kk_str_int, kk_str_bool, kk_str_tuple, kk_str_list, kk_str_dict, kk_str_NoneType, kk_tuple_int, kk_tuple_bool, kk_tuple_str, kk_tuple_list, kk_tuple_dict, kk_tuple_NoneType, kk_list_int, kk_list_bool, kk_list_str, kk_list_tuple, kk_list_dict, kk_list_NoneType, kk_dict_int, kk_dict_bool, kk_dict_str, kk_dict_tuple, kk_dict_list, kk_dict_NoneType, eqV_int, neV_int, isBV_b, neV_bl, eqV_bl, eqV_ii, neV_ii, isNV_fr, notNV_fr, ixV_fr0, ixV_fr1, eqV_fr, neV_fr, int1V_b, int1V_i, ixV_hp0, ixV_hp1, isNV_hp, eqV_hp, neV_hp, tyN_fr, lenV_fr, at0, at1, at2, at3, at4, at5, ixN0, ixN1, List.map_cons, List.map_nil, List.replicate, List.cons_append, List.nil_append, List.getElem?_cons_zero, List.getElem?_cons_succ, List.set_cons_zero, List.set_cons_succ, Bool.not_true, Bool.not_false, Bool.false_eq_true, if_true, if_false, ite_true, ite_false, reduceIte, Nat.reduceSub, Nat.reduceAdd, ne_eq, Int.cast_ofNat_Int, Int.reduceBEq, Int.reduceLT, Int.reduceLE, Int.reduceEq, Int.reduceNeg, Int.reduceMul, Int.reduceAdd, Int.reduceSub, decide_true, decide_false, List.length_cons, List.length_nil, beq_self_eq_true, not_false_eq_true, not_true_eq_false, fr, frO, this, hN, hN0, r1, r2, m1, m2, e1, e2, z1]

noncomputable def g_times (F_fraction : Fn) : GS :=
  (gRet (gCall F_fraction [(gBin mulV (gBin ixV (gVar 0) (gC (.int 0))) (gBin ixV (gVar 1) (gC (.int 0)))), (gBin mulV (gBin ixV (gVar 0) (gC (.int 1))) (gBin ixV (gVar 1) (gC (.int 1))))]))
noncomputable def F_times : Fn := fun xs st => allR (g_times F_fraction (begin 2 2 xs) st)
theorem times_ok {n : Nat} {q r : Rat} {st : List SO} (hq : RS n q) (hr : RS n r) (hn : n ≤ 4000) : F_times [fr q, fr r] st = .ok (fr (q * r)) st := by
  have m1 : MulOk q.num r.num := hq.1.mulOk hr.1 (by omega)
  have m3 : MulOk (q.den : Int) r.den := hq.den.mulOk hr.den (by omega)
  have d0 : (q.den * r.den : Int) ≠ 0 := Int.mul_ne_zero (den0 q) (den0 r)
  have e := fraction_ok (st := st) (t := q.num * r.num) d0 (hq.den.mul hr.den) (by omega)
  rw [mul_eq] at e
  simp only [fr] at e
  simp only [F_times, g_times, gSlN_eq, slN_r, slN_l, slNK_s, gRevN_eq, revN_r, revNK_s, tupleV_r, tupleV_l, gCallV_eq, gLend_eq, isNotBV_b, gRep_eq, repR_r, gZip_eq, zipR_t, zipR_l, gTry_eq, tryK_nx, tryK_ret, begin_eq, allR_nx, allR_ret, allR_exc, gSkip_eq, gSeq_eq, seqK_nx, seqK_ret, seqK_exc, toS_ok, toS_exc, toST_ok, toST_exc, toSL_ok, toSL_exc, gRet_eq, gAsg_eq, gSet_eq, gExpr_eq, gIfS_eq, gRaise_eq, gBin_eq, gUn_eq, gVar_eq, slotR_some, gC_eq, gArgs_nil, gArgs_cons, gTupE_eq, gLstE_eq, gNewE_eq, gCall_eq, gBi_eq, gB_eq, asB_bl, gAnd_eq, gOr_eq, gNot_eq, gVT_eq, gIf_eq, gChain_eq, chK_t, chK_f, chK_b, bnd_ok, bnd_exc, oo_some, gTo_eq, toK_some, tgName_eq, tgNil_eq, tgCons_eq, tgTup_eq, bind_some, gPar_eq, gCat_eq, catR_r, listV_t, listV_l, blsOf_nil, blsOf_cons, allV_l, isNV_d, notNV_d, parK_ok, parK_exc, gStore_eq, stK_some, gMeth_eq, gFor_eq, gRng1_eq, asI_i, gItL_eq, gItT_eq, asLst_l, asTup_t, addV_ii, subV_ii, mulV_ii, fdivV_ii, modV_ii, shlV_ii, pw6, pw9, pw18, pw19, pw20, pw25, pw30, pw39, ltV_ii, leV_ii, gtV_ii, geV_ii, negV_i, isNV_n, isNV_t, isNV_l, isNV_i, isNV_s, isNV_r, isNV_b, notNV_n, notNV_t, notNV_l, notNV_i, notNV_s, notNV_r, notNV_b, ixV_t, ixV_l, ixV_r, lenV_t, lenV_l, lenV_r, absV_i, max2V_ii, min2V_ii, bitsV_i, setIV_r, setK_some, setL_some, appendM_r, appK_some, appN_ok, isT_r, isK_l, lstK_some, tyK_l, isT_s, isiV_eq, tyN_int, tyN_bl, tyN_non, tyN_str, tyN_tup, tyN_lst, tyN_dct, tyN_r, kk_int_bool, kitK_t, kk_int_str, kk_int_tuple, kk_int_list, kk_int_dict, kk_int_NoneType, kk_bool_int, kk_bool_str, kk_bool_tuple, kk_bool_list, kk_bool_dict, kk_bool_NoneType, kk_str_int, kk_str_bool, kk_str_tuple, kk_str_list, kk_str_dict, kk_str_NoneType, kk_tuple_int, kk_tuple_bool, kk_tuple_str, kk_tuple_list, kk_tuple_dict, kk_tuple_NoneType, kk_list_int, kk_list_bool, kk_list_str, kk_list_tuple, kk_list_dict, kk_list_NoneType, kk_dict_int, kk_dict_bool, kk_dict_str, kk_dict_tuple, kk_dict_list, kk_dict_NoneType, eqV_int, neV_int, isBV_b, neV_bl, eqV_bl, eqV_ii, neV_ii, isNV_fr, notNV_fr, ixV_fr0, ixV_fr1, eqV_fr, neV_fr, int1V_b, int1V_i, ixV_hp0, ixV_hp1, isNV_hp, eqV_hp, neV_hp, tyN_fr, lenV_fr, at0, at1, at2, at3, at4, at5, ixN0, ixN1, List.map_cons, List.map_nil, List.replicate, List.cons_append, List.nil_append, List.getElem?_cons_zero, List.getElem?_cons_succ, List.set_cons_zero, List.set_cons_succ, Bool.not_true, Bool.not_false, Bool.false_eq_true, if_true, if_false, ite_true, ite_false, reduceIte, Nat.reduceSub, Nat.reduceAdd, ne_eq, Int.cast_ofNat_Int, Int.reduceBEq, Int.reduceLT, Int.reduceLE, Int.reduceEq, Int.reduceNeg, Int.reduceMul, Int.reduceAdd, Int.reduceSub, decide_true, decide_false, List.length_cons, List.length_nil, beq_self_eq_true, not_false_eq_true, not_true_eq_false, fr, m1, m3, e]
theorem times_as {n m : Nat} {q r : Rat} {st : List SO} (hq : RS n q) (hr : RS m r) (hn : n + m ≤ 9000) : F_times [fr q, fr r] st = .ok (fr (q * r)) st := by
  have m1 : MulOk q.num r.num := hq.1.mulOk hr.1 (by omega)
  have m3 : MulOk (q.den : Int) r.den := hq.den.mulOk hr.den (by omega)
  have d0 : (q.den * r.den : Int) ≠ 0 := Int.mul_ne_zero (den0 q) (den0 r)
  have e := fraction_ok (st := st) (t := q.num * r.num) d0 (hq.den.mul hr.den) (by omega)
  rw [mul_eq] at e
  simp only [fr] at e
  simp only [F_times, g_times, gSlN_eq, slN_r, slN_l, slNK_s, gRevN_eq, revN_r, revNK_s, tupleV_r, tupleV_l, gCallV_eq, gLend_eq, isNotBV_b, gRep_eq, repR_r, gZip_eq, zipR_t, zipR_l, gTry_eq, tryK_nx, tryK_ret, begin_eq, allR_nx, allR_ret, allR_exc, gSkip_eq, gSeq_eq, seqK_nx, seqK_ret, seqK_exc, toS_ok, toS_exc, toST_ok, toST_exc, toSL_ok, toSL_exc, gRet_eq, gAsg_eq, gSet_eq, gExpr_eq, gIfS_eq, gRaise_eq, gBin_eq, gUn_eq, gVar_eq, slotR_some, gC_eq, gArgs_nil, gArgs_cons, gTupE_eq, gLstE_eq, gNewE_eq, gCall_eq, gBi_eq, gB_eq, asB_bl, gAnd_eq, gOr_eq, gNot_eq, gVT_eq, gIf_eq, gChain_eq, chK_t, chK_f, chK_b, bnd_ok, bnd_exc, oo_some, gTo_eq, toK_some, tgName_eq, tgNil_eq, tgCons_eq, tgTup_eq, bind_some, gPar_eq, gCat_eq, catR_r, listV_t, listV_l, blsOf_nil, blsOf_cons, allV_l, isNV_d, notNV_d, parK_ok, parK_exc, gStore_eq, stK_some, gMeth_eq, gFor_eq, gRng1_eq, asI_i, gItL_eq, gItT_eq, asLst_l, asTup_t, addV_ii, subV_ii, mulV_ii, fdivV_ii, modV_ii, shlV_ii, pw6, pw9, pw18, pw19, pw20, pw25, pw30, pw39, ltV_ii, leV_ii, gtV_ii, geV_ii, negV_i, isNV_n, isNV_t, isNV_l, isNV_i, isNV_s, isNV_r, isNV_b, notNV_n, notNV_t, notNV_l, notNV_i, notNV_s, notNV_r, notNV_b, ixV_t, ixV_l, ixV_r, lenV_t, lenV_l, lenV_r, absV_i, max2V_ii, min2V_ii, bitsV_i, setIV_r, setK_some, setL_some, appendM_r, appK_some, appN_ok, isT_r, isK_l, lstK_some, tyK_l, isT_s, isiV_eq, tyN_int, tyN_bl, tyN_non, tyN_str, tyN_tup, tyN_lst, tyN_dct, tyN_r, kk_int_bool, kitK_t, kk_int_str, kk_int_tuple, kk_int_list, kk_int_dict, kk_int_NoneType, kk_bool_int, kk_bool_str, kk_bool_tuple, kk_bool_list, kk_bool_dict, kk_bool_NoneType, kk_str_int, kk_str_bool, kk_str_tuple, kk_str_list, kk_str_dict, kk_str_NoneType, kk_tuple_int, kk_tuple_bool, kk_tuple_str, kk_tuple_list, kk_tuple_dict, kk_tuple_NoneType, kk_list_int, kk_list_bool, kk_list_str, kk_list_tuple, kk_list_dict, kk_list_NoneType, kk_dict_int, kk_dict_bool, kk_dict_str, kk_dict_tuple, kk_dict_list, kk_dict_NoneType, eqV_int, neV_int, isBV_b, neV_bl, eqV_bl, eqV_ii, neV_ii, isNV_fr, notNV_fr, ixV_fr0, ixV_fr1, eqV_fr, neV_fr, int1V_b, int1V_i, ixV_hp0, ixV_hp1, isNV_hp, eqV_hp, neV_hp, tyN_fr, lenV_fr, at0, at1, at2, at3, at4, at5, ixN0, ixN1, List.map_cons, List.map_nil, List.replicate, List.cons_append, List.nil_append, List.getElem?_cons_zero, List.getElem?_cons_succ, List.set_cons_zero, List.set_cons_succ, Bool.not_true, Bool.not_false, Bool.false_eq_true, if_true, if_false, ite_true, ite_false, reduceIte, Nat.reduceSub, Nat.reduceAdd, ne_eq, Int.cast_ofNat_Int, Int.reduceBEq, Int.reduceLT, Int.reduceLE, Int.reduceEq, Int.reduceNeg, Int.reduceMul, Int.reduceAdd, Int.reduceSub, decide_true, decide_false, List.length_cons, List.length_nil, beq_self_eq_true, not_false_eq_true, not_true_eq_false, fr, m1, m3, e]

noncomputable def g_own_square (F_lapse_and_gap : Fn) (F_less : Fn) (F_times : Fn) : GS :=
  (gSeq (gAsg (gCall F_lapse_and_gap [(gVar 0), (gVar 1)]) (gTo (tgTup 2 (tgCons (tgName 2) (tgCons (tgName 3) tgNil)))))
  (gRet (gCall F_less [(gCall F_times [(gVar 2), (gVar 2)]), (gCall F_times [(gVar 3), (gVar 3)])])))
noncomputable def F_own_square : Fn := fun xs st => allR (g_own_square F_lapse_and_gap F_less F_times (begin 4 2 xs) st)
/-- the own square of two haps -/
def oq (h k : Rat × Rat) : Rat := (k.1 - h.1) * (k.1 - h.1) - (k.2 - h.2) * (k.2 - h.2)
def hq (h : Rat × Rat) : PV := hp h.1 h.2
structure HR (n : Nat) (h : Rat × Rat) : Prop where
  t : RS n h.1
  x : RS n h.2
theorem ownsq_ok {n : Nat} {h k : Rat × Rat} {st : List SO} (a : HR n h) (b : HR n k) (hn : n ≤ 400) : F_own_square [hq h, hq k] st = .ok (fr (oq h k)) st ∧ RS (8 * n + 5) (oq h k) := by
  have e1 := lapgap_ok (st := st) a.t a.x b.t b.x (by omega)
  have ha := b.t.sub a.t
  have hg := b.x.sub a.x
  have e2 := times_ok (st := st) ha ha (by omega)
  have e3 := times_ok (st := st) hg hg (by omega)
  have e4 := less_ok (st := st) (ha.mul ha) (hg.mul hg) (by omega)
  exact ⟨by simp only [F_own_square, g_own_square, gSlN_eq, slN_r, slN_l, slNK_s, gRevN_eq, revN_r, revNK_s, tupleV_r, tupleV_l, gCallV_eq, gLend_eq, isNotBV_b, gRep_eq, repR_r, gZip_eq, zipR_t, zipR_l, gTry_eq, tryK_nx, tryK_ret, begin_eq, allR_nx, allR_ret, allR_exc, gSkip_eq, gSeq_eq, seqK_nx, seqK_ret, seqK_exc, toS_ok, toS_exc, toST_ok, toST_exc, toSL_ok, toSL_exc, gRet_eq, gAsg_eq, gSet_eq, gExpr_eq, gIfS_eq, gRaise_eq, gBin_eq, gUn_eq, gVar_eq, slotR_some, gC_eq, gArgs_nil, gArgs_cons, gTupE_eq, gLstE_eq, gNewE_eq, gCall_eq, gBi_eq, gB_eq, asB_bl, gAnd_eq, gOr_eq, gNot_eq, gVT_eq, gIf_eq, gChain_eq, chK_t, chK_f, chK_b, bnd_ok, bnd_exc, oo_some, gTo_eq, toK_some, tgName_eq, tgNil_eq, tgCons_eq, tgTup_eq, bind_some, gPar_eq, gCat_eq, catR_r, listV_t, listV_l, blsOf_nil, blsOf_cons, allV_l, isNV_d, notNV_d, parK_ok, parK_exc, gStore_eq, stK_some, gMeth_eq, gFor_eq, gRng1_eq, asI_i, gItL_eq, gItT_eq, asLst_l, asTup_t, addV_ii, subV_ii, mulV_ii, fdivV_ii, modV_ii, shlV_ii, pw6, pw9, pw18, pw19, pw20, pw25, pw30, pw39, ltV_ii, leV_ii, gtV_ii, geV_ii, negV_i, isNV_n, isNV_t, isNV_l, isNV_i, isNV_s, isNV_r, isNV_b, notNV_n, notNV_t, notNV_l, notNV_i, notNV_s, notNV_r, notNV_b, ixV_t, ixV_l, ixV_r, lenV_t, lenV_l, lenV_r, absV_i, max2V_ii, min2V_ii, bitsV_i, setIV_r, setK_some, setL_some, appendM_r, appK_some, appN_ok, isT_r, isK_l, lstK_some, tyK_l, isT_s, isiV_eq, tyN_int, tyN_bl, tyN_non, tyN_str, tyN_tup, tyN_lst, tyN_dct, tyN_r, kk_int_bool, kitK_t, kk_int_str, kk_int_tuple, kk_int_list, kk_int_dict, kk_int_NoneType, kk_bool_int, kk_bool_str, kk_bool_tuple, kk_bool_list, kk_bool_dict, kk_bool_NoneType, kk_str_int, kk_str_bool, kk_str_tuple, kk_str_list, kk_str_dict, kk_str_NoneType, kk_tuple_int, kk_tuple_bool, kk_tuple_str, kk_tuple_list, kk_tuple_dict, kk_tuple_NoneType, kk_list_int, kk_list_bool, kk_list_str, kk_list_tuple, kk_list_dict, kk_list_NoneType, kk_dict_int, kk_dict_bool, kk_dict_str, kk_dict_tuple, kk_dict_list, kk_dict_NoneType, eqV_int, neV_int, isBV_b, neV_bl, eqV_bl, eqV_ii, neV_ii, isNV_fr, notNV_fr, ixV_fr0, ixV_fr1, eqV_fr, neV_fr, int1V_b, int1V_i, ixV_hp0, ixV_hp1, isNV_hp, eqV_hp, neV_hp, tyN_fr, lenV_fr, at0, at1, at2, at3, at4, at5, ixN0, ixN1, List.map_cons, List.map_nil, List.replicate, List.cons_append, List.nil_append, List.getElem?_cons_zero, List.getElem?_cons_succ, List.set_cons_zero, List.set_cons_succ, Bool.not_true, Bool.not_false, Bool.false_eq_true, if_true, if_false, ite_true, ite_false, reduceIte, Nat.reduceSub, Nat.reduceAdd, ne_eq, Int.cast_ofNat_Int, Int.reduceBEq, Int.reduceLT, Int.reduceLE, Int.reduceEq, Int.reduceNeg, Int.reduceMul, Int.reduceAdd, Int.reduceSub, decide_true, decide_false, List.length_cons, List.length_nil, beq_self_eq_true, not_false_eq_true, not_true_eq_false, hq, oq, e1, e2, e3, e4], ((ha.mul ha).sub (hg.mul hg)).mono (by omega)⟩

noncomputable def g_own_time (F_is_hap : Fn) (F_kind_of : Fn) (F_root_of : Fn) (F_own_square : Fn) : GS :=
  (gSeq (gIfS (gOr (gNot (gB (gCall F_is_hap [(gVar 0)]))) (gOr (gNot (gB (gCall F_is_hap [(gVar 1)]))) (gB (gBin neV (gCall F_kind_of [(gVar 0), (gVar 1)]) (gC (.str "later")))))) (gRaise "NoStep") gSkip)
  (gSeq (gSet 2 (gCall F_root_of [(gCall F_own_square [(gVar 0), (gVar 1)])]))
  (gSeq (gIfS (gB (gBin isNV (gVar 2) (gC .non))) (gRaise "NotPlain") gSkip)
  (gRet (gVar 2)))))
noncomputable def F_own_time : Fn := fun xs st => allR (g_own_time F_is_hap F_kind_of F_root_of F_own_square (begin 3 2 xs) st)
theorem sto_lat : StO "later" := by unfold StO; decide +kernel
theorem sto_kw (a g : Rat) : StO (kw a g) := by
  have : kw a g = "same" ∨ kw a g = "later" ∨ kw a g = "earlier" ∨ kw a g = "beside" := by
    unfold kw kwB
    split
    · exact .inl rfl
    · split
      · exact .inr (.inl rfl)
      · split
        · exact .inr (.inr (.inl rfl))
        · exact .inr (.inr (.inr rfl))
  rcases this with e | e | e | e <;> rw [e] <;> (unfold StO; decide +kernel)
/-- whether the second one is later -/
noncomputable def lat (h k : Rat × Rat) : Bool := kw (k.1 - h.1) (k.2 - h.2) == "later"
theorem owntime_no {n : Nat} {h k : Rat × Rat} {st : List SO} (a : HR n h) (b : HR n k) (hn : n ≤ 400) (l : lat h k = false) : F_own_time [hq h, hq k] st = .exc "NoStep" st := by
  have e1 := ishap_hp h.1 h.2 (st := st)
  have e2 := ishap_hp k.1 k.2 (st := st)
  have e3 := kind_ok (st := st) a.t a.x b.t b.x (by omega)
  have e4 := neV_str (st := st) (sto_kw (k.1 - h.1) (k.2 - h.2)) sto_lat
  unfold lat at l
  rw [l] at e4
  simp only [F_own_time, g_own_time, gSlN_eq, slN_r, slN_l, slNK_s, gRevN_eq, revN_r, revNK_s, tupleV_r, tupleV_l, gCallV_eq, gLend_eq, isNotBV_b, gRep_eq, repR_r, gZip_eq, zipR_t, zipR_l, gTry_eq, tryK_nx, tryK_ret, begin_eq, allR_nx, allR_ret, allR_exc, gSkip_eq, gSeq_eq, seqK_nx, seqK_ret, seqK_exc, toS_ok, toS_exc, toST_ok, toST_exc, toSL_ok, toSL_exc, gRet_eq, gAsg_eq, gSet_eq, gExpr_eq, gIfS_eq, gRaise_eq, gBin_eq, gUn_eq, gVar_eq, slotR_some, gC_eq, gArgs_nil, gArgs_cons, gTupE_eq, gLstE_eq, gNewE_eq, gCall_eq, gBi_eq, gB_eq, asB_bl, gAnd_eq, gOr_eq, gNot_eq, gVT_eq, gIf_eq, gChain_eq, chK_t, chK_f, chK_b, bnd_ok, bnd_exc, oo_some, gTo_eq, toK_some, tgName_eq, tgNil_eq, tgCons_eq, tgTup_eq, bind_some, gPar_eq, gCat_eq, catR_r, listV_t, listV_l, blsOf_nil, blsOf_cons, allV_l, isNV_d, notNV_d, parK_ok, parK_exc, gStore_eq, stK_some, gMeth_eq, gFor_eq, gRng1_eq, asI_i, gItL_eq, gItT_eq, asLst_l, asTup_t, addV_ii, subV_ii, mulV_ii, fdivV_ii, modV_ii, shlV_ii, pw6, pw9, pw18, pw19, pw20, pw25, pw30, pw39, ltV_ii, leV_ii, gtV_ii, geV_ii, negV_i, isNV_n, isNV_t, isNV_l, isNV_i, isNV_s, isNV_r, isNV_b, notNV_n, notNV_t, notNV_l, notNV_i, notNV_s, notNV_r, notNV_b, ixV_t, ixV_l, ixV_r, lenV_t, lenV_l, lenV_r, absV_i, max2V_ii, min2V_ii, bitsV_i, setIV_r, setK_some, setL_some, appendM_r, appK_some, appN_ok, isT_r, isK_l, lstK_some, tyK_l, isT_s, isiV_eq, tyN_int, tyN_bl, tyN_non, tyN_str, tyN_tup, tyN_lst, tyN_dct, tyN_r, kk_int_bool, kitK_t, kk_int_str, kk_int_tuple, kk_int_list, kk_int_dict, kk_int_NoneType, kk_bool_int, kk_bool_str, kk_bool_tuple, kk_bool_list, kk_bool_dict, kk_bool_NoneType, kk_str_int, kk_str_bool, kk_str_tuple, kk_str_list, kk_str_dict, kk_str_NoneType, kk_tuple_int, kk_tuple_bool, kk_tuple_str, kk_tuple_list, kk_tuple_dict, kk_tuple_NoneType, kk_list_int, kk_list_bool, kk_list_str, kk_list_tuple, kk_list_dict, kk_list_NoneType, kk_dict_int, kk_dict_bool, kk_dict_str, kk_dict_tuple, kk_dict_list, kk_dict_NoneType, eqV_int, neV_int, isBV_b, neV_bl, eqV_bl, eqV_ii, neV_ii, isNV_fr, notNV_fr, ixV_fr0, ixV_fr1, eqV_fr, neV_fr, int1V_b, int1V_i, ixV_hp0, ixV_hp1, isNV_hp, eqV_hp, neV_hp, tyN_fr, lenV_fr, at0, at1, at2, at3, at4, at5, ixN0, ixN1, List.map_cons, List.map_nil, List.replicate, List.cons_append, List.nil_append, List.getElem?_cons_zero, List.getElem?_cons_succ, List.set_cons_zero, List.set_cons_succ, Bool.not_true, Bool.not_false, Bool.false_eq_true, if_true, if_false, ite_true, ite_false, reduceIte, Nat.reduceSub, Nat.reduceAdd, ne_eq, Int.cast_ofNat_Int, Int.reduceBEq, Int.reduceLT, Int.reduceLE, Int.reduceEq, Int.reduceNeg, Int.reduceMul, Int.reduceAdd, Int.reduceSub, decide_true, decide_false, List.length_cons, List.length_nil, beq_self_eq_true, not_false_eq_true, not_true_eq_false, hq, e1, e2, e3, e4]
theorem owntime_ok {n : Nat} {h k : Rat × Rat} {o : Rat} {st : List SO} (a : HR n h) (b : HR n k) (hn : n ≤ 400) (l : lat h k = true) (ho : rootQ (oq h k) = some o) : F_own_time [hq h, hq k] st = .ok (fr o) st := by
  have e1 := ishap_hp h.1 h.2 (st := st)
  have e2 := ishap_hp k.1 k.2 (st := st)
  have e3 := kind_ok (st := st) a.t a.x b.t b.x (by omega)
  have e4 := neV_str (st := st) (sto_kw (k.1 - h.1) (k.2 - h.2)) sto_lat
  unfold lat at l
  rw [l] at e4
  obtain ⟨e5, r5⟩ := ownsq_ok (st := st) a b hn
  have e6 := root_of_ok (st := st) (r5.mono (show _ ≤ 8000 by omega))
  rw [ho] at e6
  simp only [frO] at e6
  simp only [hq] at e5
  simp only [F_own_time, g_own_time, gSlN_eq, slN_r, slN_l, slNK_s, gRevN_eq, revN_r, revNK_s, tupleV_r, tupleV_l, gCallV_eq, gLend_eq, isNotBV_b, gRep_eq, repR_r, gZip_eq, zipR_t, zipR_l, gTry_eq, tryK_nx, tryK_ret, begin_eq, allR_nx, allR_ret, allR_exc, gSkip_eq, gSeq_eq, seqK_nx, seqK_ret, seqK_exc, toS_ok, toS_exc, toST_ok, toST_exc, toSL_ok, toSL_exc, gRet_eq, gAsg_eq, gSet_eq, gExpr_eq, gIfS_eq, gRaise_eq, gBin_eq, gUn_eq, gVar_eq, slotR_some, gC_eq, gArgs_nil, gArgs_cons, gTupE_eq, gLstE_eq, gNewE_eq, gCall_eq, gBi_eq, gB_eq, asB_bl, gAnd_eq, gOr_eq, gNot_eq, gVT_eq, gIf_eq, gChain_eq, chK_t, chK_f, chK_b, bnd_ok, bnd_exc, oo_some, gTo_eq, toK_some, tgName_eq, tgNil_eq, tgCons_eq, tgTup_eq, bind_some, gPar_eq, gCat_eq, catR_r, listV_t, listV_l, blsOf_nil, blsOf_cons, allV_l, isNV_d, notNV_d, parK_ok, parK_exc, gStore_eq, stK_some, gMeth_eq, gFor_eq, gRng1_eq, asI_i, gItL_eq, gItT_eq, asLst_l, asTup_t, addV_ii, subV_ii, mulV_ii, fdivV_ii, modV_ii, shlV_ii, pw6, pw9, pw18, pw19, pw20, pw25, pw30, pw39, ltV_ii, leV_ii, gtV_ii, geV_ii, negV_i, isNV_n, isNV_t, isNV_l, isNV_i, isNV_s, isNV_r, isNV_b, notNV_n, notNV_t, notNV_l, notNV_i, notNV_s, notNV_r, notNV_b, ixV_t, ixV_l, ixV_r, lenV_t, lenV_l, lenV_r, absV_i, max2V_ii, min2V_ii, bitsV_i, setIV_r, setK_some, setL_some, appendM_r, appK_some, appN_ok, isT_r, isK_l, lstK_some, tyK_l, isT_s, isiV_eq, tyN_int, tyN_bl, tyN_non, tyN_str, tyN_tup, tyN_lst, tyN_dct, tyN_r, kk_int_bool, kitK_t, kk_int_str, kk_int_tuple, kk_int_list, kk_int_dict, kk_int_NoneType, kk_bool_int, kk_bool_str, kk_bool_tuple, kk_bool_list, kk_bool_dict, kk_bool_NoneType, kk_str_int, kk_str_bool, kk_str_tuple, kk_str_list, kk_str_dict, kk_str_NoneType, kk_tuple_int, kk_tuple_bool, kk_tuple_str, kk_tuple_list, kk_tuple_dict, kk_tuple_NoneType, kk_list_int, kk_list_bool, kk_list_str, kk_list_tuple, kk_list_dict, kk_list_NoneType, kk_dict_int, kk_dict_bool, kk_dict_str, kk_dict_tuple, kk_dict_list, kk_dict_NoneType, eqV_int, neV_int, isBV_b, neV_bl, eqV_bl, eqV_ii, neV_ii, isNV_fr, notNV_fr, ixV_fr0, ixV_fr1, eqV_fr, neV_fr, int1V_b, int1V_i, ixV_hp0, ixV_hp1, isNV_hp, eqV_hp, neV_hp, tyN_fr, lenV_fr, at0, at1, at2, at3, at4, at5, ixN0, ixN1, List.map_cons, List.map_nil, List.replicate, List.cons_append, List.nil_append, List.getElem?_cons_zero, List.getElem?_cons_succ, List.set_cons_zero, List.set_cons_succ, Bool.not_true, Bool.not_false, Bool.false_eq_true, if_true, if_false, ite_true, ite_false, reduceIte, Nat.reduceSub, Nat.reduceAdd, ne_eq, Int.cast_ofNat_Int, Int.reduceBEq, Int.reduceLT, Int.reduceLE, Int.reduceEq, Int.reduceNeg, Int.reduceMul, Int.reduceAdd, Int.reduceSub, decide_true, decide_false, List.length_cons, List.length_nil, beq_self_eq_true, not_false_eq_true, not_true_eq_false, hq, e1, e2, e3, e4, e5, e6]
theorem owntime_pl {n : Nat} {h k : Rat × Rat} {st : List SO} (a : HR n h) (b : HR n k) (hn : n ≤ 400) (l : lat h k = true) (ho : rootQ (oq h k) = none) : F_own_time [hq h, hq k] st = .exc "NotPlain" st := by
  have e1 := ishap_hp h.1 h.2 (st := st)
  have e2 := ishap_hp k.1 k.2 (st := st)
  have e3 := kind_ok (st := st) a.t a.x b.t b.x (by omega)
  have e4 := neV_str (st := st) (sto_kw (k.1 - h.1) (k.2 - h.2)) sto_lat
  unfold lat at l
  rw [l] at e4
  obtain ⟨e5, r5⟩ := ownsq_ok (st := st) a b hn
  have e6 := root_of_ok (st := st) (r5.mono (show _ ≤ 8000 by omega))
  rw [ho] at e6
  simp only [frO] at e6
  simp only [hq] at e5
  simp only [F_own_time, g_own_time, gSlN_eq, slN_r, slN_l, slNK_s, gRevN_eq, revN_r, revNK_s, tupleV_r, tupleV_l, gCallV_eq, gLend_eq, isNotBV_b, gRep_eq, repR_r, gZip_eq, zipR_t, zipR_l, gTry_eq, tryK_nx, tryK_ret, begin_eq, allR_nx, allR_ret, allR_exc, gSkip_eq, gSeq_eq, seqK_nx, seqK_ret, seqK_exc, toS_ok, toS_exc, toST_ok, toST_exc, toSL_ok, toSL_exc, gRet_eq, gAsg_eq, gSet_eq, gExpr_eq, gIfS_eq, gRaise_eq, gBin_eq, gUn_eq, gVar_eq, slotR_some, gC_eq, gArgs_nil, gArgs_cons, gTupE_eq, gLstE_eq, gNewE_eq, gCall_eq, gBi_eq, gB_eq, asB_bl, gAnd_eq, gOr_eq, gNot_eq, gVT_eq, gIf_eq, gChain_eq, chK_t, chK_f, chK_b, bnd_ok, bnd_exc, oo_some, gTo_eq, toK_some, tgName_eq, tgNil_eq, tgCons_eq, tgTup_eq, bind_some, gPar_eq, gCat_eq, catR_r, listV_t, listV_l, blsOf_nil, blsOf_cons, allV_l, isNV_d, notNV_d, parK_ok, parK_exc, gStore_eq, stK_some, gMeth_eq, gFor_eq, gRng1_eq, asI_i, gItL_eq, gItT_eq, asLst_l, asTup_t, addV_ii, subV_ii, mulV_ii, fdivV_ii, modV_ii, shlV_ii, pw6, pw9, pw18, pw19, pw20, pw25, pw30, pw39, ltV_ii, leV_ii, gtV_ii, geV_ii, negV_i, isNV_n, isNV_t, isNV_l, isNV_i, isNV_s, isNV_r, isNV_b, notNV_n, notNV_t, notNV_l, notNV_i, notNV_s, notNV_r, notNV_b, ixV_t, ixV_l, ixV_r, lenV_t, lenV_l, lenV_r, absV_i, max2V_ii, min2V_ii, bitsV_i, setIV_r, setK_some, setL_some, appendM_r, appK_some, appN_ok, isT_r, isK_l, lstK_some, tyK_l, isT_s, isiV_eq, tyN_int, tyN_bl, tyN_non, tyN_str, tyN_tup, tyN_lst, tyN_dct, tyN_r, kk_int_bool, kitK_t, kk_int_str, kk_int_tuple, kk_int_list, kk_int_dict, kk_int_NoneType, kk_bool_int, kk_bool_str, kk_bool_tuple, kk_bool_list, kk_bool_dict, kk_bool_NoneType, kk_str_int, kk_str_bool, kk_str_tuple, kk_str_list, kk_str_dict, kk_str_NoneType, kk_tuple_int, kk_tuple_bool, kk_tuple_str, kk_tuple_list, kk_tuple_dict, kk_tuple_NoneType, kk_list_int, kk_list_bool, kk_list_str, kk_list_tuple, kk_list_dict, kk_list_NoneType, kk_dict_int, kk_dict_bool, kk_dict_str, kk_dict_tuple, kk_dict_list, kk_dict_NoneType, eqV_int, neV_int, isBV_b, neV_bl, eqV_bl, eqV_ii, neV_ii, isNV_fr, notNV_fr, ixV_fr0, ixV_fr1, eqV_fr, neV_fr, int1V_b, int1V_i, ixV_hp0, ixV_hp1, isNV_hp, eqV_hp, neV_hp, tyN_fr, lenV_fr, at0, at1, at2, at3, at4, at5, ixN0, ixN1, List.map_cons, List.map_nil, List.replicate, List.cons_append, List.nil_append, List.getElem?_cons_zero, List.getElem?_cons_succ, List.set_cons_zero, List.set_cons_succ, Bool.not_true, Bool.not_false, Bool.false_eq_true, if_true, if_false, ite_true, ite_false, reduceIte, Nat.reduceSub, Nat.reduceAdd, ne_eq, Int.cast_ofNat_Int, Int.reduceBEq, Int.reduceLT, Int.reduceLE, Int.reduceEq, Int.reduceNeg, Int.reduceMul, Int.reduceAdd, Int.reduceSub, decide_true, decide_false, List.length_cons, List.length_nil, beq_self_eq_true, not_false_eq_true, not_true_eq_false, hq, e1, e2, e3, e4, e5, e6]

noncomputable def g__law_on (F__law_take : Fn) (F__law_sum : Fn) : GS :=
  (gSeq (gPar 4 5 (gBin addV (gC (.int 1)) (gCall F__law_take [(gVar 0), (gC (.int 3))])) (gCall F__law_take [(gVar 0), (gC (.int 4))]))
  (gSeq (gIfS (gB (gBin eqV (gVar 2) (gC (.int 0)))) (gSeq (gSet 5 (gCall F__law_take [(gVar 0), (gVar 4)]))
  (gRet (gTupE [(gCall F__law_sum [(gBin ixV (gVar 1) (gC (.int 0))), (gTupE [(gVar 4), (gC (.int 1))])]), (gCall F__law_sum [(gBin ixV (gVar 1) (gC (.int 1))), (gTupE [(gVar 5), (gC (.int 1))])])]))) gSkip)
  (gSeq (gSet 3 (gBin ixV (gLstE [(gBin subV (gBin mulV (gVar 5) (gVar 5)) (gBin mulV (gVar 4) (gVar 4))), (gBin subV (gBin mulV (gVar 4) (gVar 4)) (gBin mulV (gVar 5) (gVar 5)))]) (gBin modV (gVar 2) (gC (.int 2)))))
  (gRet (gTupE [(gCall F__law_sum [(gBin ixV (gVar 1) (gC (.int 0))), (gTupE [(gBin addV (gBin mulV (gVar 4) (gVar 4)) (gBin mulV (gVar 5) (gVar 5))), (gC (.int 1))])]), (gCall F__law_sum [(gBin ixV (gVar 1) (gC (.int 1))), (gTupE [(gVar 3), (gC (.int 1))])])])))))
noncomputable def F__law_on : Fn := fun xs st => allR (g__law_on F__law_take F__law_sum (begin 6 3 xs) st)
-- needs: own_time
theorem fr_i (i : Int) : PV.tup [.int i, .int 1] = fr (i : Rat) := rfl
theorem rs_i {i : Int} {n : Nat} (h : Sz n i) (n0 : 0 < n) : RS n (i : Rat) := ⟨h, by show (1 : Nat) < 2 ^ n; exact Nat.one_lt_two_pow (by omega)⟩
theorem lon_ok {n : Nat} {h : Rat × Rat} {w : Int} {st : List SO} {k : Nat} (hk : k < st.length) (a : HR n h) (hn : n ≤ 400) (w0 : 0 ≤ w) (p : Int) : ∃ (u v : Int) (p' : Int), F__law_on [.ref k, hq h, .int w] (PS st k p) = .ok (hq (h.1 + (u : Rat), h.2 + (v : Rat))) (PS st k p') ∧ 0 < u ∧ u ≤ 18 ∧ -u ≤ v ∧ v ≤ u := by
  have t1 := take_ps (n := p) hk (show (0 : Int) < 3 by decide) (lit8000 (by decide))
  have y1 := mod_nn (n := p) (show (0 : Int) < 3 by decide)
  have y2 := mod_lt' (n := p) (show (0 : Int) < 3 by decide)
  generalize p % 3 = f at *
  generalize p / 3 = p1 at *
  have t2 := take_ps (n := p1) hk (show (0 : Int) < 4 by decide) (lit8000 (by decide))
  have y3 := mod_nn (n := p1) (show (0 : Int) < 4 by decide)
  have y4 := mod_lt' (n := p1) (show (0 : Int) < 4 by decide)
  generalize p1 % 4 = s at *
  generalize p1 / 4 = p2 at *
  have t3 := take_ps (n := p2) hk (show (0 : Int) < 1 + f by omega) (lit8000 (Int.lt_of_le_of_lt (show 1 + f ≤ 3 by omega) (by decide)))
  have y5 := mod_nn (n := p2) (show (0 : Int) < 1 + f by omega)
  have y6 := mod_lt' (n := p2) (show (0 : Int) < 1 + f by omega)
  by_cases c : w = 0
  · have cw : (w == 0) = true := by rw [c]; rfl
    have e1 := fun st => lsum_as (st := st) a.t (rs_i (i := 1 + f) (n := 8) (by unfold Sz; omega) (by omega)) (by omega)
    have e2 := fun st => lsum_as (st := st) a.x (rs_i (i := p2 % (1 + f)) (n := 8) (by unfold Sz; omega) (by omega)) (by omega)
    refine ⟨1 + f, p2 % (1 + f), p2 / (1 + f), ?_, by omega, by omega, by omega, by omega⟩
    simp only [F__law_on, g__law_on, gSlN_eq, slN_r, slN_l, slNK_s, gRevN_eq, revN_r, revNK_s, tupleV_r, tupleV_l, gCallV_eq, gLend_eq, isNotBV_b, gRep_eq, repR_r, gZip_eq, zipR_t, zipR_l, gTry_eq, tryK_nx, tryK_ret, begin_eq, allR_nx, allR_ret, allR_exc, gSkip_eq, gSeq_eq, seqK_nx, seqK_ret, seqK_exc, toS_ok, toS_exc, toST_ok, toST_exc, toSL_ok, toSL_exc, gRet_eq, gAsg_eq, gSet_eq, gExpr_eq, gIfS_eq, gRaise_eq, gBin_eq, gUn_eq, gVar_eq, slotR_some, gC_eq, gArgs_nil, gArgs_cons, gTupE_eq, gLstE_eq, gNewE_eq, gCall_eq, gBi_eq, gB_eq, asB_bl, gAnd_eq, gOr_eq, gNot_eq, gVT_eq, gIf_eq, gChain_eq, chK_t, chK_f, chK_b, bnd_ok, bnd_exc, oo_some, gTo_eq, toK_some, tgName_eq, tgNil_eq, tgCons_eq, tgTup_eq, bind_some, gPar_eq, gCat_eq, catR_r, listV_t, listV_l, blsOf_nil, blsOf_cons, allV_l, isNV_d, notNV_d, parK_ok, parK_exc, gStore_eq, stK_some, gMeth_eq, gFor_eq, gRng1_eq, asI_i, gItL_eq, gItT_eq, asLst_l, asTup_t, addV_ii, subV_ii, mulV_ii, fdivV_ii, modV_ii, shlV_ii, pw6, pw9, pw18, pw19, pw20, pw25, pw30, pw39, ltV_ii, leV_ii, gtV_ii, geV_ii, negV_i, isNV_n, isNV_t, isNV_l, isNV_i, isNV_s, isNV_r, isNV_b, notNV_n, notNV_t, notNV_l, notNV_i, notNV_s, notNV_r, notNV_b, ixV_t, ixV_l, ixV_r, lenV_t, lenV_l, lenV_r, absV_i, max2V_ii, min2V_ii, bitsV_i, setIV_r, setK_some, setL_some, appendM_r, appK_some, appN_ok, isT_r, isK_l, lstK_some, tyK_l, isT_s, isiV_eq, tyN_int, tyN_bl, tyN_non, tyN_str, tyN_tup, tyN_lst, tyN_dct, tyN_r, kk_int_bool, kitK_t, kk_int_str, kk_int_tuple, kk_int_list, kk_int_dict, kk_int_NoneType, kk_bool_int, kk_bool_str, kk_bool_tuple, kk_bool_list, kk_bool_dict, kk_bool_NoneType, kk_str_int, kk_str_bool, kk_str_tuple, kk_str_list, kk_str_dict, kk_str_NoneType, kk_tuple_int, kk_tuple_bool, kk_tuple_str, kk_tuple_list, kk_tuple_dict, kk_tuple_NoneType, kk_list_int, kk_list_bool, kk_list_str, kk_list_tuple, kk_list_dict, kk_list_NoneType, kk_dict_int, kk_dict_bool, kk_dict_str, kk_dict_tuple, kk_dict_list, kk_dict_NoneType, eqV_int, neV_int, isBV_b, neV_bl, eqV_bl, eqV_ii, neV_ii, isNV_fr, notNV_fr, ixV_fr0, ixV_fr1, eqV_fr, neV_fr, int1V_b, int1V_i, ixV_hp0, ixV_hp1, isNV_hp, eqV_hp, neV_hp, tyN_fr, lenV_fr, at0, at1, at2, at3, at4, at5, ixN0, ixN1, List.map_cons, List.map_nil, List.replicate, List.cons_append, List.nil_append, List.getElem?_cons_zero, List.getElem?_cons_succ, List.set_cons_zero, List.set_cons_succ, Bool.not_true, Bool.not_false, Bool.false_eq_true, if_true, if_false, ite_true, ite_false, reduceIte, Nat.reduceSub, Nat.reduceAdd, ne_eq, Int.cast_ofNat_Int, Int.reduceBEq, Int.reduceLT, Int.reduceLE, Int.reduceEq, Int.reduceNeg, Int.reduceMul, Int.reduceAdd, Int.reduceSub, decide_true, decide_false, List.length_cons, List.length_nil, beq_self_eq_true, not_false_eq_true, not_true_eq_false, hq, hp, t1, t2, cw, t3, fr_i, e1, e2]
  · have cw : (w == 0) = false := beq_eq_false_iff_ne.mpr c
    have zs : Sz 4 s := by unfold Sz; omega
    have zf : Sz 4 (1 + f) := by unfold Sz; omega
    have m1 := zs.mulOk zs (by omega)
    have m2 := zf.mulOk zf (by omega)
    have q1 : 0 ≤ s * s ∧ s * s ≤ 9 := by
      have : s = 0 ∨ s = 1 ∨ s = 2 ∨ s = 3 := by omega
      rcases this with rfl | rfl | rfl | rfl <;> omega
    have q2 : 1 ≤ (1 + f) * (1 + f) ∧ (1 + f) * (1 + f) ≤ 9 := by
      have : f = 0 ∨ f = 1 ∨ f = 2 := by omega
      rcases this with rfl | rfl | rfl <;> omega
    generalize hss : s * s = ss at *
    generalize hff : (1 + f) * (1 + f) = ff at *
    have e1 := fun st => lsum_as (st := st) a.t (rs_i (i := ff + ss) (n := 8) (by unfold Sz; omega) (by omega)) (by omega)
    have md : (w.fmod 2 = 0 ∨ w.fmod 2 = 1) := by rw [Int.fmod_eq_emod_of_nonneg _ (by omega)]; omega
    rcases md with md | md
    · have e2 := fun st => lsum_as (st := st) a.x (rs_i (i := ss - ff) (n := 8) (by unfold Sz; omega) (by omega)) (by omega)
      have pk : atI [PV.int (ss - ff), .int (ff - ss)] 0 = some (.int (ss - ff)) := at0
      refine ⟨ff + ss, ss - ff, p2, ?_, by omega, by omega, by omega, by omega⟩
      simp only [F__law_on, g__law_on, gSlN_eq, slN_r, slN_l, slNK_s, gRevN_eq, revN_r, revNK_s, tupleV_r, tupleV_l, gCallV_eq, gLend_eq, isNotBV_b, gRep_eq, repR_r, gZip_eq, zipR_t, zipR_l, gTry_eq, tryK_nx, tryK_ret, begin_eq, allR_nx, allR_ret, allR_exc, gSkip_eq, gSeq_eq, seqK_nx, seqK_ret, seqK_exc, toS_ok, toS_exc, toST_ok, toST_exc, toSL_ok, toSL_exc, gRet_eq, gAsg_eq, gSet_eq, gExpr_eq, gIfS_eq, gRaise_eq, gBin_eq, gUn_eq, gVar_eq, slotR_some, gC_eq, gArgs_nil, gArgs_cons, gTupE_eq, gLstE_eq, gNewE_eq, gCall_eq, gBi_eq, gB_eq, asB_bl, gAnd_eq, gOr_eq, gNot_eq, gVT_eq, gIf_eq, gChain_eq, chK_t, chK_f, chK_b, bnd_ok, bnd_exc, oo_some, gTo_eq, toK_some, tgName_eq, tgNil_eq, tgCons_eq, tgTup_eq, bind_some, gPar_eq, gCat_eq, catR_r, listV_t, listV_l, blsOf_nil, blsOf_cons, allV_l, isNV_d, notNV_d, parK_ok, parK_exc, gStore_eq, stK_some, gMeth_eq, gFor_eq, gRng1_eq, asI_i, gItL_eq, gItT_eq, asLst_l, asTup_t, addV_ii, subV_ii, mulV_ii, fdivV_ii, modV_ii, shlV_ii, pw6, pw9, pw18, pw19, pw20, pw25, pw30, pw39, ltV_ii, leV_ii, gtV_ii, geV_ii, negV_i, isNV_n, isNV_t, isNV_l, isNV_i, isNV_s, isNV_r, isNV_b, notNV_n, notNV_t, notNV_l, notNV_i, notNV_s, notNV_r, notNV_b, ixV_t, ixV_l, ixV_r, lenV_t, lenV_l, lenV_r, absV_i, max2V_ii, min2V_ii, bitsV_i, setIV_r, setK_some, setL_some, appendM_r, appK_some, appN_ok, isT_r, isK_l, lstK_some, tyK_l, isT_s, isiV_eq, tyN_int, tyN_bl, tyN_non, tyN_str, tyN_tup, tyN_lst, tyN_dct, tyN_r, kk_int_bool, kitK_t, kk_int_str, kk_int_tuple, kk_int_list, kk_int_dict, kk_int_NoneType, kk_bool_int, kk_bool_str, kk_bool_tuple, kk_bool_list, kk_bool_dict, kk_bool_NoneType, kk_str_int, kk_str_bool, kk_str_tuple, kk_str_list, kk_str_dict, kk_str_NoneType, kk_tuple_int, kk_tuple_bool, kk_tuple_str, kk_tuple_list, kk_tuple_dict, kk_tuple_NoneType, kk_list_int, kk_list_bool, kk_list_str, kk_list_tuple, kk_list_dict, kk_list_NoneType, kk_dict_int, kk_dict_bool, kk_dict_str, kk_dict_tuple, kk_dict_list, kk_dict_NoneType, eqV_int, neV_int, isBV_b, neV_bl, eqV_bl, eqV_ii, neV_ii, isNV_fr, notNV_fr, ixV_fr0, ixV_fr1, eqV_fr, neV_fr, int1V_b, int1V_i, ixV_hp0, ixV_hp1, isNV_hp, eqV_hp, neV_hp, tyN_fr, lenV_fr, at0, at1, at2, at3, at4, at5, ixN0, ixN1, List.map_cons, List.map_nil, List.replicate, List.cons_append, List.nil_append, List.getElem?_cons_zero, List.getElem?_cons_succ, List.set_cons_zero, List.set_cons_succ, Bool.not_true, Bool.not_false, Bool.false_eq_true, if_true, if_false, ite_true, ite_false, reduceIte, Nat.reduceSub, Nat.reduceAdd, ne_eq, Int.cast_ofNat_Int, Int.reduceBEq, Int.reduceLT, Int.reduceLE, Int.reduceEq, Int.reduceNeg, Int.reduceMul, Int.reduceAdd, Int.reduceSub, decide_true, decide_false, List.length_cons, List.length_nil, beq_self_eq_true, not_false_eq_true, not_true_eq_false, hq, hp, t1, t2, cw, m1, m2, md, hss, hff, pk, fr_i, e1, e2]
    · have e2 := fun st => lsum_as (st := st) a.x (rs_i (i := ff - ss) (n := 8) (by unfold Sz; omega) (by omega)) (by omega)
      have pk : atI [PV.int (ss - ff), .int (ff - ss)] 1 = some (.int (ff - ss)) := at1
      refine ⟨ff + ss, ff - ss, p2, ?_, by omega, by omega, by omega, by omega⟩
      simp only [F__law_on, g__law_on, gSlN_eq, slN_r, slN_l, slNK_s, gRevN_eq, revN_r, revNK_s, tupleV_r, tupleV_l, gCallV_eq, gLend_eq, isNotBV_b, gRep_eq, repR_r, gZip_eq, zipR_t, zipR_l, gTry_eq, tryK_nx, tryK_ret, begin_eq, allR_nx, allR_ret, allR_exc, gSkip_eq, gSeq_eq, seqK_nx, seqK_ret, seqK_exc, toS_ok, toS_exc, toST_ok, toST_exc, toSL_ok, toSL_exc, gRet_eq, gAsg_eq, gSet_eq, gExpr_eq, gIfS_eq, gRaise_eq, gBin_eq, gUn_eq, gVar_eq, slotR_some, gC_eq, gArgs_nil, gArgs_cons, gTupE_eq, gLstE_eq, gNewE_eq, gCall_eq, gBi_eq, gB_eq, asB_bl, gAnd_eq, gOr_eq, gNot_eq, gVT_eq, gIf_eq, gChain_eq, chK_t, chK_f, chK_b, bnd_ok, bnd_exc, oo_some, gTo_eq, toK_some, tgName_eq, tgNil_eq, tgCons_eq, tgTup_eq, bind_some, gPar_eq, gCat_eq, catR_r, listV_t, listV_l, blsOf_nil, blsOf_cons, allV_l, isNV_d, notNV_d, parK_ok, parK_exc, gStore_eq, stK_some, gMeth_eq, gFor_eq, gRng1_eq, asI_i, gItL_eq, gItT_eq, asLst_l, asTup_t, addV_ii, subV_ii, mulV_ii, fdivV_ii, modV_ii, shlV_ii, pw6, pw9, pw18, pw19, pw20, pw25, pw30, pw39, ltV_ii, leV_ii, gtV_ii, geV_ii, negV_i, isNV_n, isNV_t, isNV_l, isNV_i, isNV_s, isNV_r, isNV_b, notNV_n, notNV_t, notNV_l, notNV_i, notNV_s, notNV_r, notNV_b, ixV_t, ixV_l, ixV_r, lenV_t, lenV_l, lenV_r, absV_i, max2V_ii, min2V_ii, bitsV_i, setIV_r, setK_some, setL_some, appendM_r, appK_some, appN_ok, isT_r, isK_l, lstK_some, tyK_l, isT_s, isiV_eq, tyN_int, tyN_bl, tyN_non, tyN_str, tyN_tup, tyN_lst, tyN_dct, tyN_r, kk_int_bool, kitK_t, kk_int_str, kk_int_tuple, kk_int_list, kk_int_dict, kk_int_NoneType, kk_bool_int, kk_bool_str, kk_bool_tuple, kk_bool_list, kk_bool_dict, kk_bool_NoneType, kk_str_int, kk_str_bool, kk_str_tuple, kk_str_list, kk_str_dict, kk_str_NoneType, kk_tuple_int, kk_tuple_bool, kk_tuple_str, kk_tuple_list, kk_tuple_dict, kk_tuple_NoneType, kk_list_int, kk_list_bool, kk_list_str, kk_list_tuple, kk_list_dict, kk_list_NoneType, kk_dict_int, kk_dict_bool, kk_dict_str, kk_dict_tuple, kk_dict_list, kk_dict_NoneType, eqV_int, neV_int, isBV_b, neV_bl, eqV_bl, eqV_ii, neV_ii, isNV_fr, notNV_fr, ixV_fr0, ixV_fr1, eqV_fr, neV_fr, int1V_b, int1V_i, ixV_hp0, ixV_hp1, isNV_hp, eqV_hp, neV_hp, tyN_fr, lenV_fr, at0, at1, at2, at3, at4, at5, ixN0, ixN1, List.map_cons, List.map_nil, List.replicate, List.cons_append, List.nil_append, List.getElem?_cons_zero, List.getElem?_cons_succ, List.set_cons_zero, List.set_cons_succ, Bool.not_true, Bool.not_false, Bool.false_eq_true, if_true, if_false, ite_true, ite_false, reduceIte, Nat.reduceSub, Nat.reduceAdd, ne_eq, Int.cast_ofNat_Int, Int.reduceBEq, Int.reduceLT, Int.reduceLE, Int.reduceEq, Int.reduceNeg, Int.reduceMul, Int.reduceAdd, Int.reduceSub, decide_true, decide_false, List.length_cons, List.length_nil, beq_self_eq_true, not_false_eq_true, not_true_eq_false, hq, hp, t1, t2, cw, m1, m2, md, hss, hff, pk, fr_i, e1, e2]

noncomputable def g__law_whole : GS :=
  (gRet (gVT (gAnd (gB (gBi isiV [(gVar 0), (gC (.ty "int"))])) (gB (gVT (gNot (gB (gBi isiV [(gVar 0), (gC (.ty "bool"))]))))))))
noncomputable def F__law_whole : Fn := fun xs st => allR (g__law_whole (begin 1 1 xs) st)
theorem kit_ii : kitB "int" "int" = some true := by decide +kernel
theorem kit_ib : kitB "int" "bool" = some false := by decide +kernel
theorem kit_bi : kitB "bool" "int" = some true := by decide +kernel
theorem kit_bb : kitB "bool" "bool" = some true := by decide +kernel
theorem kit_tt : kitB "tuple" "tuple" = some true := by decide +kernel
theorem lwhole_int {i : Int} {st : List SO} : F__law_whole [.int i] st = .ok (.bl true) st := by
  simp only [F__law_whole, g__law_whole, gSlN_eq, slN_r, slN_l, slNK_s, gRevN_eq, revN_r, revNK_s, tupleV_r, tupleV_l, gCallV_eq, gLend_eq, isNotBV_b, gRep_eq, repR_r, gZip_eq, zipR_t, zipR_l, gTry_eq, tryK_nx, tryK_ret, begin_eq, allR_nx, allR_ret, allR_exc, gSkip_eq, gSeq_eq, seqK_nx, seqK_ret, seqK_exc, toS_ok, toS_exc, toST_ok, toST_exc, toSL_ok, toSL_exc, gRet_eq, gAsg_eq, gSet_eq, gExpr_eq, gIfS_eq, gRaise_eq, gBin_eq, gUn_eq, gVar_eq, slotR_some, gC_eq, gArgs_nil, gArgs_cons, gTupE_eq, gLstE_eq, gNewE_eq, gCall_eq, gBi_eq, gB_eq, asB_bl, gAnd_eq, gOr_eq, gNot_eq, gVT_eq, gIf_eq, gChain_eq, chK_t, chK_f, chK_b, bnd_ok, bnd_exc, oo_some, gTo_eq, toK_some, tgName_eq, tgNil_eq, tgCons_eq, tgTup_eq, bind_some, gPar_eq, gCat_eq, catR_r, listV_t, listV_l, blsOf_nil, blsOf_cons, allV_l, isNV_d, notNV_d, parK_ok, parK_exc, gStore_eq, stK_some, gMeth_eq, gFor_eq, gRng1_eq, asI_i, gItL_eq, gItT_eq, asLst_l, asTup_t, addV_ii, subV_ii, mulV_ii, fdivV_ii, modV_ii, shlV_ii, pw6, pw9, pw18, pw19, pw20, pw25, pw30, pw39, ltV_ii, leV_ii, gtV_ii, geV_ii, negV_i, isNV_n, isNV_t, isNV_l, isNV_i, isNV_s, isNV_r, isNV_b, notNV_n, notNV_t, notNV_l, notNV_i, notNV_s, notNV_r, notNV_b, ixV_t, ixV_l, ixV_r, lenV_t, lenV_l, lenV_r, absV_i, max2V_ii, min2V_ii, bitsV_i, setIV_r, setK_some, setL_some, appendM_r, appK_some, appN_ok, isT_r, isK_l, lstK_some, tyK_l, isT_s, isiV_eq, tyN_int, tyN_bl, tyN_non, tyN_str, tyN_tup, tyN_lst, tyN_dct, tyN_r, kk_int_bool, kitK_t, kk_int_str, kk_int_tuple, kk_int_list, kk_int_dict, kk_int_NoneType, kk_bool_int, kk_bool_str, kk_bool_tuple, kk_bool_list, kk_bool_dict, kk_bool_NoneType, kk_str_int, kk_str_bool, kk_str_tuple, kk_str_list, kk_str_dict, kk_str_NoneType, kk_tuple_int, kk_tuple_bool, kk_tuple_str, kk_tuple_list, kk_tuple_dict, kk_tuple_NoneType, kk_list_int, kk_list_bool, kk_list_str, kk_list_tuple, kk_list_dict, kk_list_NoneType, kk_dict_int, kk_dict_bool, kk_dict_str, kk_dict_tuple, kk_dict_list, kk_dict_NoneType, eqV_int, neV_int, isBV_b, neV_bl, eqV_bl, eqV_ii, neV_ii, isNV_fr, notNV_fr, ixV_fr0, ixV_fr1, eqV_fr, neV_fr, int1V_b, int1V_i, ixV_hp0, ixV_hp1, isNV_hp, eqV_hp, neV_hp, tyN_fr, lenV_fr, at0, at1, at2, at3, at4, at5, ixN0, ixN1, List.map_cons, List.map_nil, List.replicate, List.cons_append, List.nil_append, List.getElem?_cons_zero, List.getElem?_cons_succ, List.set_cons_zero, List.set_cons_succ, Bool.not_true, Bool.not_false, Bool.false_eq_true, if_true, if_false, ite_true, ite_false, reduceIte, Nat.reduceSub, Nat.reduceAdd, ne_eq, Int.cast_ofNat_Int, Int.reduceBEq, Int.reduceLT, Int.reduceLE, Int.reduceEq, Int.reduceNeg, Int.reduceMul, Int.reduceAdd, Int.reduceSub, decide_true, decide_false, List.length_cons, List.length_nil, beq_self_eq_true, not_false_eq_true, not_true_eq_false, isiV, tyN, kit_ii, kit_ib, Option.map]

noncomputable def g__law_good (F__law_whole : Fn) (F__law_low : Fn) : GS :=
  (gSeq (gIfS (gOr (gNot (gB (gBi isiV [(gVar 0), (gC (.ty "tuple"))]))) (gOr (gB (gBin neV (gBi lenV [(gVar 0)]) (gC (.int 2)))) (gOr (gNot (gB (gCall F__law_whole [(gBin ixV (gVar 0) (gC (.int 0)))]))) (gNot (gB (gCall F__law_whole [(gBin ixV (gVar 0) (gC (.int 1)))])))))) (gRet (gC (.bl false))) gSkip)
  (gRet (gVT (gAnd (gB (gBin gtV (gBin ixV (gVar 0) (gC (.int 1))) (gC (.int 0)))) (gB (gBin eqV (gCall F__law_low [(gBin ixV (gVar 0) (gC (.int 0))), (gBin ixV (gVar 0) (gC (.int 1)))]) (gVar 0)))))))
noncomputable def F__law_good : Fn := fun xs st => allR (g__law_good F__law_whole F__law_low (begin 1 1 xs) st)
theorem fr_good (q : Rat) : Rat.divInt q.num q.den = q := Rat.num_divInt_den q
theorem lgood_ok {n : Nat} {q : Rat} {st : List SO} (hq : RS n q) (hn : n ≤ 9000) : F__law_good [fr q] st = .ok (.bl true) st := by
  have e := llow_ok (st := st) (t := q.num) (den0 q) hq.den hn
  rw [fr_good] at e
  have hp : (0 : Int) < (q.den : Int) := dpos q
  simp only [fr] at e
  simp only [F__law_good, g__law_good, gSlN_eq, slN_r, slN_l, slNK_s, gRevN_eq, revN_r, revNK_s, tupleV_r, tupleV_l, gCallV_eq, gLend_eq, isNotBV_b, gRep_eq, repR_r, gZip_eq, zipR_t, zipR_l, gTry_eq, tryK_nx, tryK_ret, begin_eq, allR_nx, allR_ret, allR_exc, gSkip_eq, gSeq_eq, seqK_nx, seqK_ret, seqK_exc, toS_ok, toS_exc, toST_ok, toST_exc, toSL_ok, toSL_exc, gRet_eq, gAsg_eq, gSet_eq, gExpr_eq, gIfS_eq, gRaise_eq, gBin_eq, gUn_eq, gVar_eq, slotR_some, gC_eq, gArgs_nil, gArgs_cons, gTupE_eq, gLstE_eq, gNewE_eq, gCall_eq, gBi_eq, gB_eq, asB_bl, gAnd_eq, gOr_eq, gNot_eq, gVT_eq, gIf_eq, gChain_eq, chK_t, chK_f, chK_b, bnd_ok, bnd_exc, oo_some, gTo_eq, toK_some, tgName_eq, tgNil_eq, tgCons_eq, tgTup_eq, bind_some, gPar_eq, gCat_eq, catR_r, listV_t, listV_l, blsOf_nil, blsOf_cons, allV_l, isNV_d, notNV_d, parK_ok, parK_exc, gStore_eq, stK_some, gMeth_eq, gFor_eq, gRng1_eq, asI_i, gItL_eq, gItT_eq, asLst_l, asTup_t, addV_ii, subV_ii, mulV_ii, fdivV_ii, modV_ii, shlV_ii, pw6, pw9, pw18, pw19, pw20, pw25, pw30, pw39, ltV_ii, leV_ii, gtV_ii, geV_ii, negV_i, isNV_n, isNV_t, isNV_l, isNV_i, isNV_s, isNV_r, isNV_b, notNV_n, notNV_t, notNV_l, notNV_i, notNV_s, notNV_r, notNV_b, ixV_t, ixV_l, ixV_r, lenV_t, lenV_l, lenV_r, absV_i, max2V_ii, min2V_ii, bitsV_i, setIV_r, setK_some, setL_some, appendM_r, appK_some, appN_ok, isT_r, isK_l, lstK_some, tyK_l, isT_s, isiV_eq, tyN_int, tyN_bl, tyN_non, tyN_str, tyN_tup, tyN_lst, tyN_dct, tyN_r, kk_int_bool, kitK_t, kk_int_str, kk_int_tuple, kk_int_list, kk_int_dict, kk_int_NoneType, kk_bool_int, kk_bool_str, kk_bool_tuple, kk_bool_list, kk_bool_dict, kk_bool_NoneType, kk_str_int, kk_str_bool, kk_str_tuple, kk_str_list, kk_str_dict, kk_str_NoneType, kk_tuple_int, kk_tuple_bool, kk_tuple_str, kk_tuple_list, kk_tuple_dict, kk_tuple_NoneType, kk_list_int, kk_list_bool, kk_list_str, kk_list_tuple, kk_list_dict, kk_list_NoneType, kk_dict_int, kk_dict_bool, kk_dict_str, kk_dict_tuple, kk_dict_list, kk_dict_NoneType, eqV_int, neV_int, isBV_b, neV_bl, eqV_bl, eqV_ii, neV_ii, isNV_fr, notNV_fr, ixV_fr0, ixV_fr1, eqV_fr, neV_fr, int1V_b, int1V_i, ixV_hp0, ixV_hp1, isNV_hp, eqV_hp, neV_hp, tyN_fr, lenV_fr, at0, at1, at2, at3, at4, at5, ixN0, ixN1, List.map_cons, List.map_nil, List.replicate, List.cons_append, List.nil_append, List.getElem?_cons_zero, List.getElem?_cons_succ, List.set_cons_zero, List.set_cons_succ, Bool.not_true, Bool.not_false, Bool.false_eq_true, if_true, if_false, ite_true, ite_false, reduceIte, Nat.reduceSub, Nat.reduceAdd, ne_eq, Int.cast_ofNat_Int, Int.reduceBEq, Int.reduceLT, Int.reduceLE, Int.reduceEq, Int.reduceNeg, Int.reduceMul, Int.reduceAdd, Int.reduceSub, decide_true, decide_false, List.length_cons, List.length_nil, beq_self_eq_true, not_false_eq_true, not_true_eq_false, isiV, tyN, kit_tt, Option.map, fr, List.length_cons, List.length_nil, lwhole_int, hp, decide_true, e, beq_self_eq_true, Bool.and_self]
theorem lwhole_ok {x : PV} {st : List SO} (h : P0 x) : F__law_whole [x] st = .ok (.bl (whB x)) st := by
  cases x with
  | ty _ => exact h.elim
  | cls _ => exact h.elim
  | exc _ => exact h.elim
  | ref _ => exact h.elim
  | _ => simp only [F__law_whole, g__law_whole, gSlN_eq, slN_r, slN_l, slNK_s, gRevN_eq, revN_r, revNK_s, tupleV_r, tupleV_l, gCallV_eq, gLend_eq, isNotBV_b, gRep_eq, repR_r, gZip_eq, zipR_t, zipR_l, gTry_eq, tryK_nx, tryK_ret, begin_eq, allR_nx, allR_ret, allR_exc, gSkip_eq, gSeq_eq, seqK_nx, seqK_ret, seqK_exc, toS_ok, toS_exc, toST_ok, toST_exc, toSL_ok, toSL_exc, gRet_eq, gAsg_eq, gSet_eq, gExpr_eq, gIfS_eq, gRaise_eq, gBin_eq, gUn_eq, gVar_eq, slotR_some, gC_eq, gArgs_nil, gArgs_cons, gTupE_eq, gLstE_eq, gNewE_eq, gCall_eq, gBi_eq, gB_eq, asB_bl, gAnd_eq, gOr_eq, gNot_eq, gVT_eq, gIf_eq, gChain_eq, chK_t, chK_f, chK_b, bnd_ok, bnd_exc, oo_some, gTo_eq, toK_some, tgName_eq, tgNil_eq, tgCons_eq, tgTup_eq, bind_some, gPar_eq, gCat_eq, catR_r, listV_t, listV_l, blsOf_nil, blsOf_cons, allV_l, isNV_d, notNV_d, parK_ok, parK_exc, gStore_eq, stK_some, gMeth_eq, gFor_eq, gRng1_eq, asI_i, gItL_eq, gItT_eq, asLst_l, asTup_t, addV_ii, subV_ii, mulV_ii, fdivV_ii, modV_ii, shlV_ii, pw6, pw9, pw18, pw19, pw20, pw25, pw30, pw39, ltV_ii, leV_ii, gtV_ii, geV_ii, negV_i, isNV_n, isNV_t, isNV_l, isNV_i, isNV_s, isNV_r, isNV_b, notNV_n, notNV_t, notNV_l, notNV_i, notNV_s, notNV_r, notNV_b, ixV_t, ixV_l, ixV_r, lenV_t, lenV_l, lenV_r, absV_i, max2V_ii, min2V_ii, bitsV_i, setIV_r, setK_some, setL_some, appendM_r, appK_some, appN_ok, isT_r, isK_l, lstK_some, tyK_l, isT_s, isiV_eq, tyN_int, tyN_bl, tyN_non, tyN_str, tyN_tup, tyN_lst, tyN_dct, tyN_r, kk_int_bool, kitK_t, kk_int_str, kk_int_tuple, kk_int_list, kk_int_dict, kk_int_NoneType, kk_bool_int, kk_bool_str, kk_bool_tuple, kk_bool_list, kk_bool_dict, kk_bool_NoneType, kk_str_int, kk_str_bool, kk_str_tuple, kk_str_list, kk_str_dict, kk_str_NoneType, kk_tuple_int, kk_tuple_bool, kk_tuple_str, kk_tuple_list, kk_tuple_dict, kk_tuple_NoneType, kk_list_int, kk_list_bool, kk_list_str, kk_list_tuple, kk_list_dict, kk_list_NoneType, kk_dict_int, kk_dict_bool, kk_dict_str, kk_dict_tuple, kk_dict_list, kk_dict_NoneType, eqV_int, neV_int, isBV_b, neV_bl, eqV_bl, eqV_ii, neV_ii, isNV_fr, notNV_fr, ixV_fr0, ixV_fr1, eqV_fr, neV_fr, int1V_b, int1V_i, ixV_hp0, ixV_hp1, isNV_hp, eqV_hp, neV_hp, tyN_fr, lenV_fr, at0, at1, at2, at3, at4, at5, ixN0, ixN1, List.map_cons, List.map_nil, List.replicate, List.cons_append, List.nil_append, List.getElem?_cons_zero, List.getElem?_cons_succ, List.set_cons_zero, List.set_cons_succ, Bool.not_true, Bool.not_false, Bool.false_eq_true, if_true, if_false, ite_true, ite_false, reduceIte, Nat.reduceSub, Nat.reduceAdd, ne_eq, Int.cast_ofNat_Int, Int.reduceBEq, Int.reduceLT, Int.reduceLE, Int.reduceEq, Int.reduceNeg, Int.reduceMul, Int.reduceAdd, Int.reduceSub, decide_true, decide_false, List.length_cons, List.length_nil, beq_self_eq_true, not_false_eq_true, not_true_eq_false, kk_int_int, kk_int_bool, kk_bool_bool, whB]
theorem lgood_any {x : PV} {st : List SO} (h : P1 x) : F__law_good [x] st = .ok (.bl (frB x)) st := by
  cases x with
  | ty _ => exact h.1.elim
  | cls _ => exact h.1.elim
  | exc _ => exact h.1.elim
  | ref _ => exact h.1.elim
  | tup ys =>
    rcases ys with _ | ⟨a, _ | ⟨b, _ | ⟨c, l⟩⟩⟩
    · simp only [F__law_good, g__law_good, gSlN_eq, slN_r, slN_l, slNK_s, gRevN_eq, revN_r, revNK_s, tupleV_r, tupleV_l, gCallV_eq, gLend_eq, isNotBV_b, gRep_eq, repR_r, gZip_eq, zipR_t, zipR_l, gTry_eq, tryK_nx, tryK_ret, begin_eq, allR_nx, allR_ret, allR_exc, gSkip_eq, gSeq_eq, seqK_nx, seqK_ret, seqK_exc, toS_ok, toS_exc, toST_ok, toST_exc, toSL_ok, toSL_exc, gRet_eq, gAsg_eq, gSet_eq, gExpr_eq, gIfS_eq, gRaise_eq, gBin_eq, gUn_eq, gVar_eq, slotR_some, gC_eq, gArgs_nil, gArgs_cons, gTupE_eq, gLstE_eq, gNewE_eq, gCall_eq, gBi_eq, gB_eq, asB_bl, gAnd_eq, gOr_eq, gNot_eq, gVT_eq, gIf_eq, gChain_eq, chK_t, chK_f, chK_b, bnd_ok, bnd_exc, oo_some, gTo_eq, toK_some, tgName_eq, tgNil_eq, tgCons_eq, tgTup_eq, bind_some, gPar_eq, gCat_eq, catR_r, listV_t, listV_l, blsOf_nil, blsOf_cons, allV_l, isNV_d, notNV_d, parK_ok, parK_exc, gStore_eq, stK_some, gMeth_eq, gFor_eq, gRng1_eq, asI_i, gItL_eq, gItT_eq, asLst_l, asTup_t, addV_ii, subV_ii, mulV_ii, fdivV_ii, modV_ii, shlV_ii, pw6, pw9, pw18, pw19, pw20, pw25, pw30, pw39, ltV_ii, leV_ii, gtV_ii, geV_ii, negV_i, isNV_n, isNV_t, isNV_l, isNV_i, isNV_s, isNV_r, isNV_b, notNV_n, notNV_t, notNV_l, notNV_i, notNV_s, notNV_r, notNV_b, ixV_t, ixV_l, ixV_r, lenV_t, lenV_l, lenV_r, absV_i, max2V_ii, min2V_ii, bitsV_i, setIV_r, setK_some, setL_some, appendM_r, appK_some, appN_ok, isT_r, isK_l, lstK_some, tyK_l, isT_s, isiV_eq, tyN_int, tyN_bl, tyN_non, tyN_str, tyN_tup, tyN_lst, tyN_dct, tyN_r, kk_int_bool, kitK_t, kk_int_str, kk_int_tuple, kk_int_list, kk_int_dict, kk_int_NoneType, kk_bool_int, kk_bool_str, kk_bool_tuple, kk_bool_list, kk_bool_dict, kk_bool_NoneType, kk_str_int, kk_str_bool, kk_str_tuple, kk_str_list, kk_str_dict, kk_str_NoneType, kk_tuple_int, kk_tuple_bool, kk_tuple_str, kk_tuple_list, kk_tuple_dict, kk_tuple_NoneType, kk_list_int, kk_list_bool, kk_list_str, kk_list_tuple, kk_list_dict, kk_list_NoneType, kk_dict_int, kk_dict_bool, kk_dict_str, kk_dict_tuple, kk_dict_list, kk_dict_NoneType, eqV_int, neV_int, isBV_b, neV_bl, eqV_bl, eqV_ii, neV_ii, isNV_fr, notNV_fr, ixV_fr0, ixV_fr1, eqV_fr, neV_fr, int1V_b, int1V_i, ixV_hp0, ixV_hp1, isNV_hp, eqV_hp, neV_hp, tyN_fr, lenV_fr, at0, at1, at2, at3, at4, at5, ixN0, ixN1, List.map_cons, List.map_nil, List.replicate, List.cons_append, List.nil_append, List.getElem?_cons_zero, List.getElem?_cons_succ, List.set_cons_zero, List.set_cons_succ, Bool.not_true, Bool.not_false, Bool.false_eq_true, if_true, if_false, ite_true, ite_false, reduceIte, Nat.reduceSub, Nat.reduceAdd, ne_eq, Int.cast_ofNat_Int, Int.reduceBEq, Int.reduceLT, Int.reduceLE, Int.reduceEq, Int.reduceNeg, Int.reduceMul, Int.reduceAdd, Int.reduceSub, decide_true, decide_false, List.length_cons, List.length_nil, beq_self_eq_true, not_false_eq_true, not_true_eq_false, frB, Int.natCast_zero, List.length_nil, Int.reduceBEq, Int.reduceEq]
    · simp only [F__law_good, g__law_good, gSlN_eq, slN_r, slN_l, slNK_s, gRevN_eq, revN_r, revNK_s, tupleV_r, tupleV_l, gCallV_eq, gLend_eq, isNotBV_b, gRep_eq, repR_r, gZip_eq, zipR_t, zipR_l, gTry_eq, tryK_nx, tryK_ret, begin_eq, allR_nx, allR_ret, allR_exc, gSkip_eq, gSeq_eq, seqK_nx, seqK_ret, seqK_exc, toS_ok, toS_exc, toST_ok, toST_exc, toSL_ok, toSL_exc, gRet_eq, gAsg_eq, gSet_eq, gExpr_eq, gIfS_eq, gRaise_eq, gBin_eq, gUn_eq, gVar_eq, slotR_some, gC_eq, gArgs_nil, gArgs_cons, gTupE_eq, gLstE_eq, gNewE_eq, gCall_eq, gBi_eq, gB_eq, asB_bl, gAnd_eq, gOr_eq, gNot_eq, gVT_eq, gIf_eq, gChain_eq, chK_t, chK_f, chK_b, bnd_ok, bnd_exc, oo_some, gTo_eq, toK_some, tgName_eq, tgNil_eq, tgCons_eq, tgTup_eq, bind_some, gPar_eq, gCat_eq, catR_r, listV_t, listV_l, blsOf_nil, blsOf_cons, allV_l, isNV_d, notNV_d, parK_ok, parK_exc, gStore_eq, stK_some, gMeth_eq, gFor_eq, gRng1_eq, asI_i, gItL_eq, gItT_eq, asLst_l, asTup_t, addV_ii, subV_ii, mulV_ii, fdivV_ii, modV_ii, shlV_ii, pw6, pw9, pw18, pw19, pw20, pw25, pw30, pw39, ltV_ii, leV_ii, gtV_ii, geV_ii, negV_i, isNV_n, isNV_t, isNV_l, isNV_i, isNV_s, isNV_r, isNV_b, notNV_n, notNV_t, notNV_l, notNV_i, notNV_s, notNV_r, notNV_b, ixV_t, ixV_l, ixV_r, lenV_t, lenV_l, lenV_r, absV_i, max2V_ii, min2V_ii, bitsV_i, setIV_r, setK_some, setL_some, appendM_r, appK_some, appN_ok, isT_r, isK_l, lstK_some, tyK_l, isT_s, isiV_eq, tyN_int, tyN_bl, tyN_non, tyN_str, tyN_tup, tyN_lst, tyN_dct, tyN_r, kk_int_bool, kitK_t, kk_int_str, kk_int_tuple, kk_int_list, kk_int_dict, kk_int_NoneType, kk_bool_int, kk_bool_str, kk_bool_tuple, kk_bool_list, kk_bool_dict, kk_bool_NoneType, kk_str_int, kk_str_bool, kk_str_tuple, kk_str_list, kk_str_dict, kk_str_NoneType, kk_tuple_int, kk_tuple_bool, kk_tuple_str, kk_tuple_list, kk_tuple_dict, kk_tuple_NoneType, kk_list_int, kk_list_bool, kk_list_str, kk_list_tuple, kk_list_dict, kk_list_NoneType, kk_dict_int, kk_dict_bool, kk_dict_str, kk_dict_tuple, kk_dict_list, kk_dict_NoneType, eqV_int, neV_int, isBV_b, neV_bl, eqV_bl, eqV_ii, neV_ii, isNV_fr, notNV_fr, ixV_fr0, ixV_fr1, eqV_fr, neV_fr, int1V_b, int1V_i, ixV_hp0, ixV_hp1, isNV_hp, eqV_hp, neV_hp, tyN_fr, lenV_fr, at0, at1, at2, at3, at4, at5, ixN0, ixN1, List.map_cons, List.map_nil, List.replicate, List.cons_append, List.nil_append, List.getElem?_cons_zero, List.getElem?_cons_succ, List.set_cons_zero, List.set_cons_succ, Bool.not_true, Bool.not_false, Bool.false_eq_true, if_true, if_false, ite_true, ite_false, reduceIte, Nat.reduceSub, Nat.reduceAdd, ne_eq, Int.cast_ofNat_Int, Int.reduceBEq, Int.reduceLT, Int.reduceLE, Int.reduceEq, Int.reduceNeg, Int.reduceMul, Int.reduceAdd, Int.reduceSub, decide_true, decide_false, List.length_cons, List.length_nil, beq_self_eq_true, not_false_eq_true, not_true_eq_false, frB, List.length_cons, List.length_nil]
    · have ha := h.2 _ rfl a (by simp)
      have hb := h.2 _ rfl b (by simp)
      have e1 := lwhole_ok (st := st) ha
      have e2 := lwhole_ok (st := st) hb
      have i0 : atI [a, b] 0 = some a := at0
      have i1 : atI [a, b] 1 = some b := at1
      have l2 : ((([a, b] : List PV).length : Int) == 2) = true := rfl
      cases a with
      | int i => cases b with
        | int j =>
          simp only [whB] at e1 e2
          by_cases hj : 0 < j
          · have e3 := llow_ok (st := st) (t := i) (show j ≠ 0 by omega) hb (by omega)
            have e4 := gcd_one (a := i) hj
            simp only [fr] at e3
            simp only [F__law_good, g__law_good, gSlN_eq, slN_r, slN_l, slNK_s, gRevN_eq, revN_r, revNK_s, tupleV_r, tupleV_l, gCallV_eq, gLend_eq, isNotBV_b, gRep_eq, repR_r, gZip_eq, zipR_t, zipR_l, gTry_eq, tryK_nx, tryK_ret, begin_eq, allR_nx, allR_ret, allR_exc, gSkip_eq, gSeq_eq, seqK_nx, seqK_ret, seqK_exc, toS_ok, toS_exc, toST_ok, toST_exc, toSL_ok, toSL_exc, gRet_eq, gAsg_eq, gSet_eq, gExpr_eq, gIfS_eq, gRaise_eq, gBin_eq, gUn_eq, gVar_eq, slotR_some, gC_eq, gArgs_nil, gArgs_cons, gTupE_eq, gLstE_eq, gNewE_eq, gCall_eq, gBi_eq, gB_eq, asB_bl, gAnd_eq, gOr_eq, gNot_eq, gVT_eq, gIf_eq, gChain_eq, chK_t, chK_f, chK_b, bnd_ok, bnd_exc, oo_some, gTo_eq, toK_some, tgName_eq, tgNil_eq, tgCons_eq, tgTup_eq, bind_some, gPar_eq, gCat_eq, catR_r, listV_t, listV_l, blsOf_nil, blsOf_cons, allV_l, isNV_d, notNV_d, parK_ok, parK_exc, gStore_eq, stK_some, gMeth_eq, gFor_eq, gRng1_eq, asI_i, gItL_eq, gItT_eq, asLst_l, asTup_t, addV_ii, subV_ii, mulV_ii, fdivV_ii, modV_ii, shlV_ii, pw6, pw9, pw18, pw19, pw20, pw25, pw30, pw39, ltV_ii, leV_ii, gtV_ii, geV_ii, negV_i, isNV_n, isNV_t, isNV_l, isNV_i, isNV_s, isNV_r, isNV_b, notNV_n, notNV_t, notNV_l, notNV_i, notNV_s, notNV_r, notNV_b, ixV_t, ixV_l, ixV_r, lenV_t, lenV_l, lenV_r, absV_i, max2V_ii, min2V_ii, bitsV_i, setIV_r, setK_some, setL_some, appendM_r, appK_some, appN_ok, isT_r, isK_l, lstK_some, tyK_l, isT_s, isiV_eq, tyN_int, tyN_bl, tyN_non, tyN_str, tyN_tup, tyN_lst, tyN_dct, tyN_r, kk_int_bool, kitK_t, kk_int_str, kk_int_tuple, kk_int_list, kk_int_dict, kk_int_NoneType, kk_bool_int, kk_bool_str, kk_bool_tuple, kk_bool_list, kk_bool_dict, kk_bool_NoneType, kk_str_int, kk_str_bool, kk_str_tuple, kk_str_list, kk_str_dict, kk_str_NoneType, kk_tuple_int, kk_tuple_bool, kk_tuple_str, kk_tuple_list, kk_tuple_dict, kk_tuple_NoneType, kk_list_int, kk_list_bool, kk_list_str, kk_list_tuple, kk_list_dict, kk_list_NoneType, kk_dict_int, kk_dict_bool, kk_dict_str, kk_dict_tuple, kk_dict_list, kk_dict_NoneType, eqV_int, neV_int, isBV_b, neV_bl, eqV_bl, eqV_ii, neV_ii, isNV_fr, notNV_fr, ixV_fr0, ixV_fr1, eqV_fr, neV_fr, int1V_b, int1V_i, ixV_hp0, ixV_hp1, isNV_hp, eqV_hp, neV_hp, tyN_fr, lenV_fr, at0, at1, at2, at3, at4, at5, ixN0, ixN1, List.map_cons, List.map_nil, List.replicate, List.cons_append, List.nil_append, List.getElem?_cons_zero, List.getElem?_cons_succ, List.set_cons_zero, List.set_cons_succ, Bool.not_true, Bool.not_false, Bool.false_eq_true, if_true, if_false, ite_true, ite_false, reduceIte, Nat.reduceSub, Nat.reduceAdd, ne_eq, Int.cast_ofNat_Int, Int.reduceBEq, Int.reduceLT, Int.reduceLE, Int.reduceEq, Int.reduceNeg, Int.reduceMul, Int.reduceAdd, Int.reduceSub, decide_true, decide_false, List.length_cons, List.length_nil, beq_self_eq_true, not_false_eq_true, not_true_eq_false, e1, e2, i0, i1, l2, frB, hj, e3, e4, Bool.true_and]
          · simp only [F__law_good, g__law_good, gSlN_eq, slN_r, slN_l, slNK_s, gRevN_eq, revN_r, revNK_s, tupleV_r, tupleV_l, gCallV_eq, gLend_eq, isNotBV_b, gRep_eq, repR_r, gZip_eq, zipR_t, zipR_l, gTry_eq, tryK_nx, tryK_ret, begin_eq, allR_nx, allR_ret, allR_exc, gSkip_eq, gSeq_eq, seqK_nx, seqK_ret, seqK_exc, toS_ok, toS_exc, toST_ok, toST_exc, toSL_ok, toSL_exc, gRet_eq, gAsg_eq, gSet_eq, gExpr_eq, gIfS_eq, gRaise_eq, gBin_eq, gUn_eq, gVar_eq, slotR_some, gC_eq, gArgs_nil, gArgs_cons, gTupE_eq, gLstE_eq, gNewE_eq, gCall_eq, gBi_eq, gB_eq, asB_bl, gAnd_eq, gOr_eq, gNot_eq, gVT_eq, gIf_eq, gChain_eq, chK_t, chK_f, chK_b, bnd_ok, bnd_exc, oo_some, gTo_eq, toK_some, tgName_eq, tgNil_eq, tgCons_eq, tgTup_eq, bind_some, gPar_eq, gCat_eq, catR_r, listV_t, listV_l, blsOf_nil, blsOf_cons, allV_l, isNV_d, notNV_d, parK_ok, parK_exc, gStore_eq, stK_some, gMeth_eq, gFor_eq, gRng1_eq, asI_i, gItL_eq, gItT_eq, asLst_l, asTup_t, addV_ii, subV_ii, mulV_ii, fdivV_ii, modV_ii, shlV_ii, pw6, pw9, pw18, pw19, pw20, pw25, pw30, pw39, ltV_ii, leV_ii, gtV_ii, geV_ii, negV_i, isNV_n, isNV_t, isNV_l, isNV_i, isNV_s, isNV_r, isNV_b, notNV_n, notNV_t, notNV_l, notNV_i, notNV_s, notNV_r, notNV_b, ixV_t, ixV_l, ixV_r, lenV_t, lenV_l, lenV_r, absV_i, max2V_ii, min2V_ii, bitsV_i, setIV_r, setK_some, setL_some, appendM_r, appK_some, appN_ok, isT_r, isK_l, lstK_some, tyK_l, isT_s, isiV_eq, tyN_int, tyN_bl, tyN_non, tyN_str, tyN_tup, tyN_lst, tyN_dct, tyN_r, kk_int_bool, kitK_t, kk_int_str, kk_int_tuple, kk_int_list, kk_int_dict, kk_int_NoneType, kk_bool_int, kk_bool_str, kk_bool_tuple, kk_bool_list, kk_bool_dict, kk_bool_NoneType, kk_str_int, kk_str_bool, kk_str_tuple, kk_str_list, kk_str_dict, kk_str_NoneType, kk_tuple_int, kk_tuple_bool, kk_tuple_str, kk_tuple_list, kk_tuple_dict, kk_tuple_NoneType, kk_list_int, kk_list_bool, kk_list_str, kk_list_tuple, kk_list_dict, kk_list_NoneType, kk_dict_int, kk_dict_bool, kk_dict_str, kk_dict_tuple, kk_dict_list, kk_dict_NoneType, eqV_int, neV_int, isBV_b, neV_bl, eqV_bl, eqV_ii, neV_ii, isNV_fr, notNV_fr, ixV_fr0, ixV_fr1, eqV_fr, neV_fr, int1V_b, int1V_i, ixV_hp0, ixV_hp1, isNV_hp, eqV_hp, neV_hp, tyN_fr, lenV_fr, at0, at1, at2, at3, at4, at5, ixN0, ixN1, List.map_cons, List.map_nil, List.replicate, List.cons_append, List.nil_append, List.getElem?_cons_zero, List.getElem?_cons_succ, List.set_cons_zero, List.set_cons_succ, Bool.not_true, Bool.not_false, Bool.false_eq_true, if_true, if_false, ite_true, ite_false, reduceIte, Nat.reduceSub, Nat.reduceAdd, ne_eq, Int.cast_ofNat_Int, Int.reduceBEq, Int.reduceLT, Int.reduceLE, Int.reduceEq, Int.reduceNeg, Int.reduceMul, Int.reduceAdd, Int.reduceSub, decide_true, decide_false, List.length_cons, List.length_nil, beq_self_eq_true, not_false_eq_true, not_true_eq_false, e1, e2, i0, i1, l2, frB, hj, Bool.false_and]
        | _ =>
          simp only [whB] at e1 e2
          simp only [F__law_good, g__law_good, gSlN_eq, slN_r, slN_l, slNK_s, gRevN_eq, revN_r, revNK_s, tupleV_r, tupleV_l, gCallV_eq, gLend_eq, isNotBV_b, gRep_eq, repR_r, gZip_eq, zipR_t, zipR_l, gTry_eq, tryK_nx, tryK_ret, begin_eq, allR_nx, allR_ret, allR_exc, gSkip_eq, gSeq_eq, seqK_nx, seqK_ret, seqK_exc, toS_ok, toS_exc, toST_ok, toST_exc, toSL_ok, toSL_exc, gRet_eq, gAsg_eq, gSet_eq, gExpr_eq, gIfS_eq, gRaise_eq, gBin_eq, gUn_eq, gVar_eq, slotR_some, gC_eq, gArgs_nil, gArgs_cons, gTupE_eq, gLstE_eq, gNewE_eq, gCall_eq, gBi_eq, gB_eq, asB_bl, gAnd_eq, gOr_eq, gNot_eq, gVT_eq, gIf_eq, gChain_eq, chK_t, chK_f, chK_b, bnd_ok, bnd_exc, oo_some, gTo_eq, toK_some, tgName_eq, tgNil_eq, tgCons_eq, tgTup_eq, bind_some, gPar_eq, gCat_eq, catR_r, listV_t, listV_l, blsOf_nil, blsOf_cons, allV_l, isNV_d, notNV_d, parK_ok, parK_exc, gStore_eq, stK_some, gMeth_eq, gFor_eq, gRng1_eq, asI_i, gItL_eq, gItT_eq, asLst_l, asTup_t, addV_ii, subV_ii, mulV_ii, fdivV_ii, modV_ii, shlV_ii, pw6, pw9, pw18, pw19, pw20, pw25, pw30, pw39, ltV_ii, leV_ii, gtV_ii, geV_ii, negV_i, isNV_n, isNV_t, isNV_l, isNV_i, isNV_s, isNV_r, isNV_b, notNV_n, notNV_t, notNV_l, notNV_i, notNV_s, notNV_r, notNV_b, ixV_t, ixV_l, ixV_r, lenV_t, lenV_l, lenV_r, absV_i, max2V_ii, min2V_ii, bitsV_i, setIV_r, setK_some, setL_some, appendM_r, appK_some, appN_ok, isT_r, isK_l, lstK_some, tyK_l, isT_s, isiV_eq, tyN_int, tyN_bl, tyN_non, tyN_str, tyN_tup, tyN_lst, tyN_dct, tyN_r, kk_int_bool, kitK_t, kk_int_str, kk_int_tuple, kk_int_list, kk_int_dict, kk_int_NoneType, kk_bool_int, kk_bool_str, kk_bool_tuple, kk_bool_list, kk_bool_dict, kk_bool_NoneType, kk_str_int, kk_str_bool, kk_str_tuple, kk_str_list, kk_str_dict, kk_str_NoneType, kk_tuple_int, kk_tuple_bool, kk_tuple_str, kk_tuple_list, kk_tuple_dict, kk_tuple_NoneType, kk_list_int, kk_list_bool, kk_list_str, kk_list_tuple, kk_list_dict, kk_list_NoneType, kk_dict_int, kk_dict_bool, kk_dict_str, kk_dict_tuple, kk_dict_list, kk_dict_NoneType, eqV_int, neV_int, isBV_b, neV_bl, eqV_bl, eqV_ii, neV_ii, isNV_fr, notNV_fr, ixV_fr0, ixV_fr1, eqV_fr, neV_fr, int1V_b, int1V_i, ixV_hp0, ixV_hp1, isNV_hp, eqV_hp, neV_hp, tyN_fr, lenV_fr, at0, at1, at2, at3, at4, at5, ixN0, ixN1, List.map_cons, List.map_nil, List.replicate, List.cons_append, List.nil_append, List.getElem?_cons_zero, List.getElem?_cons_succ, List.set_cons_zero, List.set_cons_succ, Bool.not_true, Bool.not_false, Bool.false_eq_true, if_true, if_false, ite_true, ite_false, reduceIte, Nat.reduceSub, Nat.reduceAdd, ne_eq, Int.cast_ofNat_Int, Int.reduceBEq, Int.reduceLT, Int.reduceLE, Int.reduceEq, Int.reduceNeg, Int.reduceMul, Int.reduceAdd, Int.reduceSub, decide_true, decide_false, List.length_cons, List.length_nil, beq_self_eq_true, not_false_eq_true, not_true_eq_false, e1, e2, i0, i1, l2, frB]
      | _ =>
        simp only [whB] at e1 e2
        simp only [F__law_good, g__law_good, gSlN_eq, slN_r, slN_l, slNK_s, gRevN_eq, revN_r, revNK_s, tupleV_r, tupleV_l, gCallV_eq, gLend_eq, isNotBV_b, gRep_eq, repR_r, gZip_eq, zipR_t, zipR_l, gTry_eq, tryK_nx, tryK_ret, begin_eq, allR_nx, allR_ret, allR_exc, gSkip_eq, gSeq_eq, seqK_nx, seqK_ret, seqK_exc, toS_ok, toS_exc, toST_ok, toST_exc, toSL_ok, toSL_exc, gRet_eq, gAsg_eq, gSet_eq, gExpr_eq, gIfS_eq, gRaise_eq, gBin_eq, gUn_eq, gVar_eq, slotR_some, gC_eq, gArgs_nil, gArgs_cons, gTupE_eq, gLstE_eq, gNewE_eq, gCall_eq, gBi_eq, gB_eq, asB_bl, gAnd_eq, gOr_eq, gNot_eq, gVT_eq, gIf_eq, gChain_eq, chK_t, chK_f, chK_b, bnd_ok, bnd_exc, oo_some, gTo_eq, toK_some, tgName_eq, tgNil_eq, tgCons_eq, tgTup_eq, bind_some, gPar_eq, gCat_eq, catR_r, listV_t, listV_l, blsOf_nil, blsOf_cons, allV_l, isNV_d, notNV_d, parK_ok, parK_exc, gStore_eq, stK_some, gMeth_eq, gFor_eq, gRng1_eq, asI_i, gItL_eq, gItT_eq, asLst_l, asTup_t, addV_ii, subV_ii, mulV_ii, fdivV_ii, modV_ii, shlV_ii, pw6, pw9, pw18, pw19, pw20, pw25, pw30, pw39, ltV_ii, leV_ii, gtV_ii, geV_ii, negV_i, isNV_n, isNV_t, isNV_l, isNV_i, isNV_s, isNV_r, isNV_b, notNV_n, notNV_t, notNV_l, notNV_i, notNV_s, notNV_r, notNV_b, ixV_t, ixV_l, ixV_r, lenV_t, lenV_l, lenV_r, absV_i, max2V_ii, min2V_ii, bitsV_i, setIV_r, setK_some, setL_some, appendM_r, appK_some, appN_ok, isT_r, isK_l, lstK_some, tyK_l, isT_s, isiV_eq, tyN_int, tyN_bl, tyN_non, tyN_str, tyN_tup, tyN_lst, tyN_dct, tyN_r, kk_int_bool, kitK_t, kk_int_str, kk_int_tuple, kk_int_list, kk_int_dict, kk_int_NoneType, kk_bool_int, kk_bool_str, kk_bool_tuple, kk_bool_list, kk_bool_dict, kk_bool_NoneType, kk_str_int, kk_str_bool, kk_str_tuple, kk_str_list, kk_str_dict, kk_str_NoneType, kk_tuple_int, kk_tuple_bool, kk_tuple_str, kk_tuple_list, kk_tuple_dict, kk_tuple_NoneType, kk_list_int, kk_list_bool, kk_list_str, kk_list_tuple, kk_list_dict, kk_list_NoneType, kk_dict_int, kk_dict_bool, kk_dict_str, kk_dict_tuple, kk_dict_list, kk_dict_NoneType, eqV_int, neV_int, isBV_b, neV_bl, eqV_bl, eqV_ii, neV_ii, isNV_fr, notNV_fr, ixV_fr0, ixV_fr1, eqV_fr, neV_fr, int1V_b, int1V_i, ixV_hp0, ixV_hp1, isNV_hp, eqV_hp, neV_hp, tyN_fr, lenV_fr, at0, at1, at2, at3, at4, at5, ixN0, ixN1, List.map_cons, List.map_nil, List.replicate, List.cons_append, List.nil_append, List.getElem?_cons_zero, List.getElem?_cons_succ, List.set_cons_zero, List.set_cons_succ, Bool.not_true, Bool.not_false, Bool.false_eq_true, if_true, if_false, ite_true, ite_false, reduceIte, Nat.reduceSub, Nat.reduceAdd, ne_eq, Int.cast_ofNat_Int, Int.reduceBEq, Int.reduceLT, Int.reduceLE, Int.reduceEq, Int.reduceNeg, Int.reduceMul, Int.reduceAdd, Int.reduceSub, decide_true, decide_false, List.length_cons, List.length_nil, beq_self_eq_true, not_false_eq_true, not_true_eq_false, e1, e2, i0, i1, l2, frB]
    · have l3 := len3 l.length
      simp only [F__law_good, g__law_good, gSlN_eq, slN_r, slN_l, slNK_s, gRevN_eq, revN_r, revNK_s, tupleV_r, tupleV_l, gCallV_eq, gLend_eq, isNotBV_b, gRep_eq, repR_r, gZip_eq, zipR_t, zipR_l, gTry_eq, tryK_nx, tryK_ret, begin_eq, allR_nx, allR_ret, allR_exc, gSkip_eq, gSeq_eq, seqK_nx, seqK_ret, seqK_exc, toS_ok, toS_exc, toST_ok, toST_exc, toSL_ok, toSL_exc, gRet_eq, gAsg_eq, gSet_eq, gExpr_eq, gIfS_eq, gRaise_eq, gBin_eq, gUn_eq, gVar_eq, slotR_some, gC_eq, gArgs_nil, gArgs_cons, gTupE_eq, gLstE_eq, gNewE_eq, gCall_eq, gBi_eq, gB_eq, asB_bl, gAnd_eq, gOr_eq, gNot_eq, gVT_eq, gIf_eq, gChain_eq, chK_t, chK_f, chK_b, bnd_ok, bnd_exc, oo_some, gTo_eq, toK_some, tgName_eq, tgNil_eq, tgCons_eq, tgTup_eq, bind_some, gPar_eq, gCat_eq, catR_r, listV_t, listV_l, blsOf_nil, blsOf_cons, allV_l, isNV_d, notNV_d, parK_ok, parK_exc, gStore_eq, stK_some, gMeth_eq, gFor_eq, gRng1_eq, asI_i, gItL_eq, gItT_eq, asLst_l, asTup_t, addV_ii, subV_ii, mulV_ii, fdivV_ii, modV_ii, shlV_ii, pw6, pw9, pw18, pw19, pw20, pw25, pw30, pw39, ltV_ii, leV_ii, gtV_ii, geV_ii, negV_i, isNV_n, isNV_t, isNV_l, isNV_i, isNV_s, isNV_r, isNV_b, notNV_n, notNV_t, notNV_l, notNV_i, notNV_s, notNV_r, notNV_b, ixV_t, ixV_l, ixV_r, lenV_t, lenV_l, lenV_r, absV_i, max2V_ii, min2V_ii, bitsV_i, setIV_r, setK_some, setL_some, appendM_r, appK_some, appN_ok, isT_r, isK_l, lstK_some, tyK_l, isT_s, isiV_eq, tyN_int, tyN_bl, tyN_non, tyN_str, tyN_tup, tyN_lst, tyN_dct, tyN_r, kk_int_bool, kitK_t, kk_int_str, kk_int_tuple, kk_int_list, kk_int_dict, kk_int_NoneType, kk_bool_int, kk_bool_str, kk_bool_tuple, kk_bool_list, kk_bool_dict, kk_bool_NoneType, kk_str_int, kk_str_bool, kk_str_tuple, kk_str_list, kk_str_dict, kk_str_NoneType, kk_tuple_int, kk_tuple_bool, kk_tuple_str, kk_tuple_list, kk_tuple_dict, kk_tuple_NoneType, kk_list_int, kk_list_bool, kk_list_str, kk_list_tuple, kk_list_dict, kk_list_NoneType, kk_dict_int, kk_dict_bool, kk_dict_str, kk_dict_tuple, kk_dict_list, kk_dict_NoneType, eqV_int, neV_int, isBV_b, neV_bl, eqV_bl, eqV_ii, neV_ii, isNV_fr, notNV_fr, ixV_fr0, ixV_fr1, eqV_fr, neV_fr, int1V_b, int1V_i, ixV_hp0, ixV_hp1, isNV_hp, eqV_hp, neV_hp, tyN_fr, lenV_fr, at0, at1, at2, at3, at4, at5, ixN0, ixN1, List.map_cons, List.map_nil, List.replicate, List.cons_append, List.nil_append, List.getElem?_cons_zero, List.getElem?_cons_succ, List.set_cons_zero, List.set_cons_succ, Bool.not_true, Bool.not_false, Bool.false_eq_true, if_true, if_false, ite_true, ite_false, reduceIte, Nat.reduceSub, Nat.reduceAdd, ne_eq, Int.cast_ofNat_Int, Int.reduceBEq, Int.reduceLT, Int.reduceLE, Int.reduceEq, Int.reduceNeg, Int.reduceMul, Int.reduceAdd, Int.reduceSub, decide_true, decide_false, List.length_cons, List.length_nil, beq_self_eq_true, not_false_eq_true, not_true_eq_false, frB, l3]
  | _ => simp only [F__law_good, g__law_good, gSlN_eq, slN_r, slN_l, slNK_s, gRevN_eq, revN_r, revNK_s, tupleV_r, tupleV_l, gCallV_eq, gLend_eq, isNotBV_b, gRep_eq, repR_r, gZip_eq, zipR_t, zipR_l, gTry_eq, tryK_nx, tryK_ret, begin_eq, allR_nx, allR_ret, allR_exc, gSkip_eq, gSeq_eq, seqK_nx, seqK_ret, seqK_exc, toS_ok, toS_exc, toST_ok, toST_exc, toSL_ok, toSL_exc, gRet_eq, gAsg_eq, gSet_eq, gExpr_eq, gIfS_eq, gRaise_eq, gBin_eq, gUn_eq, gVar_eq, slotR_some, gC_eq, gArgs_nil, gArgs_cons, gTupE_eq, gLstE_eq, gNewE_eq, gCall_eq, gBi_eq, gB_eq, asB_bl, gAnd_eq, gOr_eq, gNot_eq, gVT_eq, gIf_eq, gChain_eq, chK_t, chK_f, chK_b, bnd_ok, bnd_exc, oo_some, gTo_eq, toK_some, tgName_eq, tgNil_eq, tgCons_eq, tgTup_eq, bind_some, gPar_eq, gCat_eq, catR_r, listV_t, listV_l, blsOf_nil, blsOf_cons, allV_l, isNV_d, notNV_d, parK_ok, parK_exc, gStore_eq, stK_some, gMeth_eq, gFor_eq, gRng1_eq, asI_i, gItL_eq, gItT_eq, asLst_l, asTup_t, addV_ii, subV_ii, mulV_ii, fdivV_ii, modV_ii, shlV_ii, pw6, pw9, pw18, pw19, pw20, pw25, pw30, pw39, ltV_ii, leV_ii, gtV_ii, geV_ii, negV_i, isNV_n, isNV_t, isNV_l, isNV_i, isNV_s, isNV_r, isNV_b, notNV_n, notNV_t, notNV_l, notNV_i, notNV_s, notNV_r, notNV_b, ixV_t, ixV_l, ixV_r, lenV_t, lenV_l, lenV_r, absV_i, max2V_ii, min2V_ii, bitsV_i, setIV_r, setK_some, setL_some, appendM_r, appK_some, appN_ok, isT_r, isK_l, lstK_some, tyK_l, isT_s, isiV_eq, tyN_int, tyN_bl, tyN_non, tyN_str, tyN_tup, tyN_lst, tyN_dct, tyN_r, kk_int_bool, kitK_t, kk_int_str, kk_int_tuple, kk_int_list, kk_int_dict, kk_int_NoneType, kk_bool_int, kk_bool_str, kk_bool_tuple, kk_bool_list, kk_bool_dict, kk_bool_NoneType, kk_str_int, kk_str_bool, kk_str_tuple, kk_str_list, kk_str_dict, kk_str_NoneType, kk_tuple_int, kk_tuple_bool, kk_tuple_str, kk_tuple_list, kk_tuple_dict, kk_tuple_NoneType, kk_list_int, kk_list_bool, kk_list_str, kk_list_tuple, kk_list_dict, kk_list_NoneType, kk_dict_int, kk_dict_bool, kk_dict_str, kk_dict_tuple, kk_dict_list, kk_dict_NoneType, eqV_int, neV_int, isBV_b, neV_bl, eqV_bl, eqV_ii, neV_ii, isNV_fr, notNV_fr, ixV_fr0, ixV_fr1, eqV_fr, neV_fr, int1V_b, int1V_i, ixV_hp0, ixV_hp1, isNV_hp, eqV_hp, neV_hp, tyN_fr, lenV_fr, at0, at1, at2, at3, at4, at5, ixN0, ixN1, List.map_cons, List.map_nil, List.replicate, List.cons_append, List.nil_append, List.getElem?_cons_zero, List.getElem?_cons_succ, List.set_cons_zero, List.set_cons_succ, Bool.not_true, Bool.not_false, Bool.false_eq_true, if_true, if_false, ite_true, ite_false, reduceIte, Nat.reduceSub, Nat.reduceAdd, ne_eq, Int.cast_ofNat_Int, Int.reduceBEq, Int.reduceLT, Int.reduceLE, Int.reduceEq, Int.reduceNeg, Int.reduceMul, Int.reduceAdd, Int.reduceSub, decide_true, decide_false, List.length_cons, List.length_nil, beq_self_eq_true, not_false_eq_true, not_true_eq_false, frB]

noncomputable def g__law_same (F__law_good : Fn) : GS :=
  (gRet (gVT (gAnd (gB (gCall F__law_good [(gVar 0)])) (gB (gBin eqV (gVar 0) (gVar 1))))))
noncomputable def F__law_same : Fn := fun xs st => allR (g__law_same F__law_good (begin 2 2 xs) st)
theorem lsame_ok {n : Nat} {q r : Rat} {st : List SO} (hq : RS n q) (hn : n ≤ 9000) : F__law_same [fr q, fr r] st = .ok (.bl (decide (q = r))) st := by
  have e := lgood_ok (st := st) hq hn
  have f := fr_inj (q := q) (r := r)
  simp only [fr] at e
  simp only [F__law_same, g__law_same, gSlN_eq, slN_r, slN_l, slNK_s, gRevN_eq, revN_r, revNK_s, tupleV_r, tupleV_l, gCallV_eq, gLend_eq, isNotBV_b, gRep_eq, repR_r, gZip_eq, zipR_t, zipR_l, gTry_eq, tryK_nx, tryK_ret, begin_eq, allR_nx, allR_ret, allR_exc, gSkip_eq, gSeq_eq, seqK_nx, seqK_ret, seqK_exc, toS_ok, toS_exc, toST_ok, toST_exc, toSL_ok, toSL_exc, gRet_eq, gAsg_eq, gSet_eq, gExpr_eq, gIfS_eq, gRaise_eq, gBin_eq, gUn_eq, gVar_eq, slotR_some, gC_eq, gArgs_nil, gArgs_cons, gTupE_eq, gLstE_eq, gNewE_eq, gCall_eq, gBi_eq, gB_eq, asB_bl, gAnd_eq, gOr_eq, gNot_eq, gVT_eq, gIf_eq, gChain_eq, chK_t, chK_f, chK_b, bnd_ok, bnd_exc, oo_some, gTo_eq, toK_some, tgName_eq, tgNil_eq, tgCons_eq, tgTup_eq, bind_some, gPar_eq, gCat_eq, catR_r, listV_t, listV_l, blsOf_nil, blsOf_cons, allV_l, isNV_d, notNV_d, parK_ok, parK_exc, gStore_eq, stK_some, gMeth_eq, gFor_eq, gRng1_eq, asI_i, gItL_eq, gItT_eq, asLst_l, asTup_t, addV_ii, subV_ii, mulV_ii, fdivV_ii, modV_ii, shlV_ii, pw6, pw9, pw18, pw19, pw20, pw25, pw30, pw39, ltV_ii, leV_ii, gtV_ii, geV_ii, negV_i, isNV_n, isNV_t, isNV_l, isNV_i, isNV_s, isNV_r, isNV_b, notNV_n, notNV_t, notNV_l, notNV_i, notNV_s, notNV_r, notNV_b, ixV_t, ixV_l, ixV_r, lenV_t, lenV_l, lenV_r, absV_i, max2V_ii, min2V_ii, bitsV_i, setIV_r, setK_some, setL_some, appendM_r, appK_some, appN_ok, isT_r, isK_l, lstK_some, tyK_l, isT_s, isiV_eq, tyN_int, tyN_bl, tyN_non, tyN_str, tyN_tup, tyN_lst, tyN_dct, tyN_r, kk_int_bool, kitK_t, kk_int_str, kk_int_tuple, kk_int_list, kk_int_dict, kk_int_NoneType, kk_bool_int, kk_bool_str, kk_bool_tuple, kk_bool_list, kk_bool_dict, kk_bool_NoneType, kk_str_int, kk_str_bool, kk_str_tuple, kk_str_list, kk_str_dict, kk_str_NoneType, kk_tuple_int, kk_tuple_bool, kk_tuple_str, kk_tuple_list, kk_tuple_dict, kk_tuple_NoneType, kk_list_int, kk_list_bool, kk_list_str, kk_list_tuple, kk_list_dict, kk_list_NoneType, kk_dict_int, kk_dict_bool, kk_dict_str, kk_dict_tuple, kk_dict_list, kk_dict_NoneType, eqV_int, neV_int, isBV_b, neV_bl, eqV_bl, eqV_ii, neV_ii, isNV_fr, notNV_fr, ixV_fr0, ixV_fr1, eqV_fr, neV_fr, int1V_b, int1V_i, ixV_hp0, ixV_hp1, isNV_hp, eqV_hp, neV_hp, tyN_fr, lenV_fr, at0, at1, at2, at3, at4, at5, ixN0, ixN1, List.map_cons, List.map_nil, List.replicate, List.cons_append, List.nil_append, List.getElem?_cons_zero, List.getElem?_cons_succ, List.set_cons_zero, List.set_cons_succ, Bool.not_true, Bool.not_false, Bool.false_eq_true, if_true, if_false, ite_true, ite_false, reduceIte, Nat.reduceSub, Nat.reduceAdd, ne_eq, Int.cast_ofNat_Int, Int.reduceBEq, Int.reduceLT, Int.reduceLE, Int.reduceEq, Int.reduceNeg, Int.reduceMul, Int.reduceAdd, Int.reduceSub, decide_true, decide_false, List.length_cons, List.length_nil, beq_self_eq_true, not_false_eq_true, not_true_eq_false, fr, e, f]

noncomputable def g__law_gap (F__law_low : Fn) : GS :=
  (gRet (gCall F__law_low [(gBin subV (gBin mulV (gBin ixV (gVar 0) (gC (.int 0))) (gBin ixV (gVar 1) (gC (.int 1)))) (gBin mulV (gBin ixV (gVar 1) (gC (.int 0))) (gBin ixV (gVar 0) (gC (.int 1))))), (gBin mulV (gBin ixV (gVar 0) (gC (.int 1))) (gBin ixV (gVar 1) (gC (.int 1))))]))
noncomputable def F__law_gap : Fn := fun xs st => allR (g__law_gap F__law_low (begin 2 2 xs) st)
theorem lgap_ok {n : Nat} {q r : Rat} {st : List SO} (hq : RS n q) (hr : RS n r) (hn : n ≤ 4000) : F__law_gap [fr q, fr r] st = .ok (fr (q - r)) st := by
  have m1 : MulOk q.num r.den := hq.1.mulOk hr.den (by omega)
  have m2 : MulOk r.num q.den := hr.1.mulOk hq.den (by omega)
  have m3 : MulOk (q.den : Int) r.den := hq.den.mulOk hr.den (by omega)
  have d0 : (q.den * r.den : Int) ≠ 0 := Int.mul_ne_zero (den0 q) (den0 r)
  have e := llow_ok (st := st) (t := q.num * r.den - r.num * q.den) d0 (hq.den.mul hr.den) (by omega)
  rw [sub_eq] at e
  simp only [fr] at e
  simp only [F__law_gap, g__law_gap, gSlN_eq, slN_r, slN_l, slNK_s, gRevN_eq, revN_r, revNK_s, tupleV_r, tupleV_l, gCallV_eq, gLend_eq, isNotBV_b, gRep_eq, repR_r, gZip_eq, zipR_t, zipR_l, gTry_eq, tryK_nx, tryK_ret, begin_eq, allR_nx, allR_ret, allR_exc, gSkip_eq, gSeq_eq, seqK_nx, seqK_ret, seqK_exc, toS_ok, toS_exc, toST_ok, toST_exc, toSL_ok, toSL_exc, gRet_eq, gAsg_eq, gSet_eq, gExpr_eq, gIfS_eq, gRaise_eq, gBin_eq, gUn_eq, gVar_eq, slotR_some, gC_eq, gArgs_nil, gArgs_cons, gTupE_eq, gLstE_eq, gNewE_eq, gCall_eq, gBi_eq, gB_eq, asB_bl, gAnd_eq, gOr_eq, gNot_eq, gVT_eq, gIf_eq, gChain_eq, chK_t, chK_f, chK_b, bnd_ok, bnd_exc, oo_some, gTo_eq, toK_some, tgName_eq, tgNil_eq, tgCons_eq, tgTup_eq, bind_some, gPar_eq, gCat_eq, catR_r, listV_t, listV_l, blsOf_nil, blsOf_cons, allV_l, isNV_d, notNV_d, parK_ok, parK_exc, gStore_eq, stK_some, gMeth_eq, gFor_eq, gRng1_eq, asI_i, gItL_eq, gItT_eq, asLst_l, asTup_t, addV_ii, subV_ii, mulV_ii, fdivV_ii, modV_ii, shlV_ii, pw6, pw9, pw18, pw19, pw20, pw25, pw30, pw39, ltV_ii, leV_ii, gtV_ii, geV_ii, negV_i, isNV_n, isNV_t, isNV_l, isNV_i, isNV_s, isNV_r, isNV_b, notNV_n, notNV_t, notNV_l, notNV_i, notNV_s, notNV_r, notNV_b, ixV_t, ixV_l, ixV_r, lenV_t, lenV_l, lenV_r, absV_i, max2V_ii, min2V_ii, bitsV_i, setIV_r, setK_some, setL_some, appendM_r, appK_some, appN_ok, isT_r, isK_l, lstK_some, tyK_l, isT_s, isiV_eq, tyN_int, tyN_bl, tyN_non, tyN_str, tyN_tup, tyN_lst, tyN_dct, tyN_r, kk_int_bool, kitK_t, kk_int_str, kk_int_tuple, kk_int_list, kk_int_dict, kk_int_NoneType, kk_bool_int, kk_bool_str, kk_bool_tuple, kk_bool_list, kk_bool_dict, kk_bool_NoneType, kk_str_int, kk_str_bool, kk_str_tuple, kk_str_list, kk_str_dict, kk_str_NoneType, kk_tuple_int, kk_tuple_bool, kk_tuple_str, kk_tuple_list, kk_tuple_dict, kk_tuple_NoneType, kk_list_int, kk_list_bool, kk_list_str, kk_list_tuple, kk_list_dict, kk_list_NoneType, kk_dict_int, kk_dict_bool, kk_dict_str, kk_dict_tuple, kk_dict_list, kk_dict_NoneType, eqV_int, neV_int, isBV_b, neV_bl, eqV_bl, eqV_ii, neV_ii, isNV_fr, notNV_fr, ixV_fr0, ixV_fr1, eqV_fr, neV_fr, int1V_b, int1V_i, ixV_hp0, ixV_hp1, isNV_hp, eqV_hp, neV_hp, tyN_fr, lenV_fr, at0, at1, at2, at3, at4, at5, ixN0, ixN1, List.map_cons, List.map_nil, List.replicate, List.cons_append, List.nil_append, List.getElem?_cons_zero, List.getElem?_cons_succ, List.set_cons_zero, List.set_cons_succ, Bool.not_true, Bool.not_false, Bool.false_eq_true, if_true, if_false, ite_true, ite_false, reduceIte, Nat.reduceSub, Nat.reduceAdd, ne_eq, Int.cast_ofNat_Int, Int.reduceBEq, Int.reduceLT, Int.reduceLE, Int.reduceEq, Int.reduceNeg, Int.reduceMul, Int.reduceAdd, Int.reduceSub, decide_true, decide_false, List.length_cons, List.length_nil, beq_self_eq_true, not_false_eq_true, not_true_eq_false, fr, m1, m2, m3, e]

noncomputable def g__law_apart (F__law_gap : Fn) : GS :=
  (gRet (gTupE [(gCall F__law_gap [(gBin ixV (gVar 1) (gC (.int 0))), (gBin ixV (gVar 0) (gC (.int 0)))]), (gCall F__law_gap [(gBin ixV (gVar 1) (gC (.int 1))), (gBin ixV (gVar 0) (gC (.int 1)))])]))
noncomputable def F__law_apart : Fn := fun xs st => allR (g__law_apart F__law_gap (begin 2 2 xs) st)
theorem lapart_ok {n : Nat} {t x u y : Rat} {st : List SO} (h1 : RS n t) (h2 : RS n x) (h3 : RS n u) (h4 : RS n y) (hn : n ≤ 4000) : F__law_apart [hp t x, hp u y] st = .ok (.tup [fr (u - t), fr (y - x)]) st := by
  have e1 := lgap_ok (st := st) h3 h1 hn
  have e2 := lgap_ok (st := st) h4 h2 hn
  simp only [F__law_apart, g__law_apart, gSlN_eq, slN_r, slN_l, slNK_s, gRevN_eq, revN_r, revNK_s, tupleV_r, tupleV_l, gCallV_eq, gLend_eq, isNotBV_b, gRep_eq, repR_r, gZip_eq, zipR_t, zipR_l, gTry_eq, tryK_nx, tryK_ret, begin_eq, allR_nx, allR_ret, allR_exc, gSkip_eq, gSeq_eq, seqK_nx, seqK_ret, seqK_exc, toS_ok, toS_exc, toST_ok, toST_exc, toSL_ok, toSL_exc, gRet_eq, gAsg_eq, gSet_eq, gExpr_eq, gIfS_eq, gRaise_eq, gBin_eq, gUn_eq, gVar_eq, slotR_some, gC_eq, gArgs_nil, gArgs_cons, gTupE_eq, gLstE_eq, gNewE_eq, gCall_eq, gBi_eq, gB_eq, asB_bl, gAnd_eq, gOr_eq, gNot_eq, gVT_eq, gIf_eq, gChain_eq, chK_t, chK_f, chK_b, bnd_ok, bnd_exc, oo_some, gTo_eq, toK_some, tgName_eq, tgNil_eq, tgCons_eq, tgTup_eq, bind_some, gPar_eq, gCat_eq, catR_r, listV_t, listV_l, blsOf_nil, blsOf_cons, allV_l, isNV_d, notNV_d, parK_ok, parK_exc, gStore_eq, stK_some, gMeth_eq, gFor_eq, gRng1_eq, asI_i, gItL_eq, gItT_eq, asLst_l, asTup_t, addV_ii, subV_ii, mulV_ii, fdivV_ii, modV_ii, shlV_ii, pw6, pw9, pw18, pw19, pw20, pw25, pw30, pw39, ltV_ii, leV_ii, gtV_ii, geV_ii, negV_i, isNV_n, isNV_t, isNV_l, isNV_i, isNV_s, isNV_r, isNV_b, notNV_n, notNV_t, notNV_l, notNV_i, notNV_s, notNV_r, notNV_b, ixV_t, ixV_l, ixV_r, lenV_t, lenV_l, lenV_r, absV_i, max2V_ii, min2V_ii, bitsV_i, setIV_r, setK_some, setL_some, appendM_r, appK_some, appN_ok, isT_r, isK_l, lstK_some, tyK_l, isT_s, isiV_eq, tyN_int, tyN_bl, tyN_non, tyN_str, tyN_tup, tyN_lst, tyN_dct, tyN_r, kk_int_bool, kitK_t, kk_int_str, kk_int_tuple, kk_int_list, kk_int_dict, kk_int_NoneType, kk_bool_int, kk_bool_str, kk_bool_tuple, kk_bool_list, kk_bool_dict, kk_bool_NoneType, kk_str_int, kk_str_bool, kk_str_tuple, kk_str_list, kk_str_dict, kk_str_NoneType, kk_tuple_int, kk_tuple_bool, kk_tuple_str, kk_tuple_list, kk_tuple_dict, kk_tuple_NoneType, kk_list_int, kk_list_bool, kk_list_str, kk_list_tuple, kk_list_dict, kk_list_NoneType, kk_dict_int, kk_dict_bool, kk_dict_str, kk_dict_tuple, kk_dict_list, kk_dict_NoneType, eqV_int, neV_int, isBV_b, neV_bl, eqV_bl, eqV_ii, neV_ii, isNV_fr, notNV_fr, ixV_fr0, ixV_fr1, eqV_fr, neV_fr, int1V_b, int1V_i, ixV_hp0, ixV_hp1, isNV_hp, eqV_hp, neV_hp, tyN_fr, lenV_fr, at0, at1, at2, at3, at4, at5, ixN0, ixN1, List.map_cons, List.map_nil, List.replicate, List.cons_append, List.nil_append, List.getElem?_cons_zero, List.getElem?_cons_succ, List.set_cons_zero, List.set_cons_succ, Bool.not_true, Bool.not_false, Bool.false_eq_true, if_true, if_false, ite_true, ite_false, reduceIte, Nat.reduceSub, Nat.reduceAdd, ne_eq, Int.cast_ofNat_Int, Int.reduceBEq, Int.reduceLT, Int.reduceLE, Int.reduceEq, Int.reduceNeg, Int.reduceMul, Int.reduceAdd, Int.reduceSub, decide_true, decide_false, List.length_cons, List.length_nil, beq_self_eq_true, not_false_eq_true, not_true_eq_false, e1, e2]

noncomputable def g__law_prod (F__law_low : Fn) : GS :=
  (gRet (gCall F__law_low [(gBin mulV (gBin ixV (gVar 0) (gC (.int 0))) (gBin ixV (gVar 1) (gC (.int 0)))), (gBin mulV (gBin ixV (gVar 0) (gC (.int 1))) (gBin ixV (gVar 1) (gC (.int 1))))]))
noncomputable def F__law_prod : Fn := fun xs st => allR (g__law_prod F__law_low (begin 2 2 xs) st)
theorem lprod_ok {n : Nat} {q r : Rat} {st : List SO} (hq : RS n q) (hr : RS n r) (hn : n ≤ 4000) : F__law_prod [fr q, fr r] st = .ok (fr (q * r)) st := by
  have m1 : MulOk q.num r.num := hq.1.mulOk hr.1 (by omega)
  have m3 : MulOk (q.den : Int) r.den := hq.den.mulOk hr.den (by omega)
  have d0 : (q.den * r.den : Int) ≠ 0 := Int.mul_ne_zero (den0 q) (den0 r)
  have e := llow_ok (st := st) (t := q.num * r.num) d0 (hq.den.mul hr.den) (by omega)
  rw [mul_eq] at e
  simp only [fr] at e
  simp only [F__law_prod, g__law_prod, gSlN_eq, slN_r, slN_l, slNK_s, gRevN_eq, revN_r, revNK_s, tupleV_r, tupleV_l, gCallV_eq, gLend_eq, isNotBV_b, gRep_eq, repR_r, gZip_eq, zipR_t, zipR_l, gTry_eq, tryK_nx, tryK_ret, begin_eq, allR_nx, allR_ret, allR_exc, gSkip_eq, gSeq_eq, seqK_nx, seqK_ret, seqK_exc, toS_ok, toS_exc, toST_ok, toST_exc, toSL_ok, toSL_exc, gRet_eq, gAsg_eq, gSet_eq, gExpr_eq, gIfS_eq, gRaise_eq, gBin_eq, gUn_eq, gVar_eq, slotR_some, gC_eq, gArgs_nil, gArgs_cons, gTupE_eq, gLstE_eq, gNewE_eq, gCall_eq, gBi_eq, gB_eq, asB_bl, gAnd_eq, gOr_eq, gNot_eq, gVT_eq, gIf_eq, gChain_eq, chK_t, chK_f, chK_b, bnd_ok, bnd_exc, oo_some, gTo_eq, toK_some, tgName_eq, tgNil_eq, tgCons_eq, tgTup_eq, bind_some, gPar_eq, gCat_eq, catR_r, listV_t, listV_l, blsOf_nil, blsOf_cons, allV_l, isNV_d, notNV_d, parK_ok, parK_exc, gStore_eq, stK_some, gMeth_eq, gFor_eq, gRng1_eq, asI_i, gItL_eq, gItT_eq, asLst_l, asTup_t, addV_ii, subV_ii, mulV_ii, fdivV_ii, modV_ii, shlV_ii, pw6, pw9, pw18, pw19, pw20, pw25, pw30, pw39, ltV_ii, leV_ii, gtV_ii, geV_ii, negV_i, isNV_n, isNV_t, isNV_l, isNV_i, isNV_s, isNV_r, isNV_b, notNV_n, notNV_t, notNV_l, notNV_i, notNV_s, notNV_r, notNV_b, ixV_t, ixV_l, ixV_r, lenV_t, lenV_l, lenV_r, absV_i, max2V_ii, min2V_ii, bitsV_i, setIV_r, setK_some, setL_some, appendM_r, appK_some, appN_ok, isT_r, isK_l, lstK_some, tyK_l, isT_s, isiV_eq, tyN_int, tyN_bl, tyN_non, tyN_str, tyN_tup, tyN_lst, tyN_dct, tyN_r, kk_int_bool, kitK_t, kk_int_str, kk_int_tuple, kk_int_list, kk_int_dict, kk_int_NoneType, kk_bool_int, kk_bool_str, kk_bool_tuple, kk_bool_list, kk_bool_dict, kk_bool_NoneType, kk_str_int, kk_str_bool, kk_str_tuple, kk_str_list, kk_str_dict, kk_str_NoneType, kk_tuple_int, kk_tuple_bool, kk_tuple_str, kk_tuple_list, kk_tuple_dict, kk_tuple_NoneType, kk_list_int, kk_list_bool, kk_list_str, kk_list_tuple, kk_list_dict, kk_list_NoneType, kk_dict_int, kk_dict_bool, kk_dict_str, kk_dict_tuple, kk_dict_list, kk_dict_NoneType, eqV_int, neV_int, isBV_b, neV_bl, eqV_bl, eqV_ii, neV_ii, isNV_fr, notNV_fr, ixV_fr0, ixV_fr1, eqV_fr, neV_fr, int1V_b, int1V_i, ixV_hp0, ixV_hp1, isNV_hp, eqV_hp, neV_hp, tyN_fr, lenV_fr, at0, at1, at2, at3, at4, at5, ixN0, ixN1, List.map_cons, List.map_nil, List.replicate, List.cons_append, List.nil_append, List.getElem?_cons_zero, List.getElem?_cons_succ, List.set_cons_zero, List.set_cons_succ, Bool.not_true, Bool.not_false, Bool.false_eq_true, if_true, if_false, ite_true, ite_false, reduceIte, Nat.reduceSub, Nat.reduceAdd, ne_eq, Int.cast_ofNat_Int, Int.reduceBEq, Int.reduceLT, Int.reduceLE, Int.reduceEq, Int.reduceNeg, Int.reduceMul, Int.reduceAdd, Int.reduceSub, decide_true, decide_false, List.length_cons, List.length_nil, beq_self_eq_true, not_false_eq_true, not_true_eq_false, fr, m1, m3, e]
theorem lprod_as {n m : Nat} {q r : Rat} {st : List SO} (hq : RS n q) (hr : RS m r) (hn : n + m ≤ 9000) : F__law_prod [fr q, fr r] st = .ok (fr (q * r)) st := by
  have m1 : MulOk q.num r.num := hq.1.mulOk hr.1 (by omega)
  have m3 : MulOk (q.den : Int) r.den := hq.den.mulOk hr.den (by omega)
  have d0 : (q.den * r.den : Int) ≠ 0 := Int.mul_ne_zero (den0 q) (den0 r)
  have e := llow_ok (st := st) (t := q.num * r.num) d0 (hq.den.mul hr.den) (by omega)
  rw [mul_eq] at e
  simp only [fr] at e
  simp only [F__law_prod, g__law_prod, gSlN_eq, slN_r, slN_l, slNK_s, gRevN_eq, revN_r, revNK_s, tupleV_r, tupleV_l, gCallV_eq, gLend_eq, isNotBV_b, gRep_eq, repR_r, gZip_eq, zipR_t, zipR_l, gTry_eq, tryK_nx, tryK_ret, begin_eq, allR_nx, allR_ret, allR_exc, gSkip_eq, gSeq_eq, seqK_nx, seqK_ret, seqK_exc, toS_ok, toS_exc, toST_ok, toST_exc, toSL_ok, toSL_exc, gRet_eq, gAsg_eq, gSet_eq, gExpr_eq, gIfS_eq, gRaise_eq, gBin_eq, gUn_eq, gVar_eq, slotR_some, gC_eq, gArgs_nil, gArgs_cons, gTupE_eq, gLstE_eq, gNewE_eq, gCall_eq, gBi_eq, gB_eq, asB_bl, gAnd_eq, gOr_eq, gNot_eq, gVT_eq, gIf_eq, gChain_eq, chK_t, chK_f, chK_b, bnd_ok, bnd_exc, oo_some, gTo_eq, toK_some, tgName_eq, tgNil_eq, tgCons_eq, tgTup_eq, bind_some, gPar_eq, gCat_eq, catR_r, listV_t, listV_l, blsOf_nil, blsOf_cons, allV_l, isNV_d, notNV_d, parK_ok, parK_exc, gStore_eq, stK_some, gMeth_eq, gFor_eq, gRng1_eq, asI_i, gItL_eq, gItT_eq, asLst_l, asTup_t, addV_ii, subV_ii, mulV_ii, fdivV_ii, modV_ii, shlV_ii, pw6, pw9, pw18, pw19, pw20, pw25, pw30, pw39, ltV_ii, leV_ii, gtV_ii, geV_ii, negV_i, isNV_n, isNV_t, isNV_l, isNV_i, isNV_s, isNV_r, isNV_b, notNV_n, notNV_t, notNV_l, notNV_i, notNV_s, notNV_r, notNV_b, ixV_t, ixV_l, ixV_r, lenV_t, lenV_l, lenV_r, absV_i, max2V_ii, min2V_ii, bitsV_i, setIV_r, setK_some, setL_some, appendM_r, appK_some, appN_ok, isT_r, isK_l, lstK_some, tyK_l, isT_s, isiV_eq, tyN_int, tyN_bl, tyN_non, tyN_str, tyN_tup, tyN_lst, tyN_dct, tyN_r, kk_int_bool, kitK_t, kk_int_str, kk_int_tuple, kk_int_list, kk_int_dict, kk_int_NoneType, kk_bool_int, kk_bool_str, kk_bool_tuple, kk_bool_list, kk_bool_dict, kk_bool_NoneType, kk_str_int, kk_str_bool, kk_str_tuple, kk_str_list, kk_str_dict, kk_str_NoneType, kk_tuple_int, kk_tuple_bool, kk_tuple_str, kk_tuple_list, kk_tuple_dict, kk_tuple_NoneType, kk_list_int, kk_list_bool, kk_list_str, kk_list_tuple, kk_list_dict, kk_list_NoneType, kk_dict_int, kk_dict_bool, kk_dict_str, kk_dict_tuple, kk_dict_list, kk_dict_NoneType, eqV_int, neV_int, isBV_b, neV_bl, eqV_bl, eqV_ii, neV_ii, isNV_fr, notNV_fr, ixV_fr0, ixV_fr1, eqV_fr, neV_fr, int1V_b, int1V_i, ixV_hp0, ixV_hp1, isNV_hp, eqV_hp, neV_hp, tyN_fr, lenV_fr, at0, at1, at2, at3, at4, at5, ixN0, ixN1, List.map_cons, List.map_nil, List.replicate, List.cons_append, List.nil_append, List.getElem?_cons_zero, List.getElem?_cons_succ, List.set_cons_zero, List.set_cons_succ, Bool.not_true, Bool.not_false, Bool.false_eq_true, if_true, if_false, ite_true, ite_false, reduceIte, Nat.reduceSub, Nat.reduceAdd, ne_eq, Int.cast_ofNat_Int, Int.reduceBEq, Int.reduceLT, Int.reduceLE, Int.reduceEq, Int.reduceNeg, Int.reduceMul, Int.reduceAdd, Int.reduceSub, decide_true, decide_false, List.length_cons, List.length_nil, beq_self_eq_true, not_false_eq_true, not_true_eq_false, fr, m1, m3, e]

noncomputable def g__law_own (F__law_apart : Fn) (F__law_gap : Fn) (F__law_prod : Fn) : GS :=
  (gSeq (gAsg (gCall F__law_apart [(gVar 0), (gVar 1)]) (gTo (tgTup 2 (tgCons (tgName 2) (tgCons (tgName 3) tgNil)))))
  (gRet (gCall F__law_gap [(gCall F__law_prod [(gVar 2), (gVar 2)]), (gCall F__law_prod [(gVar 3), (gVar 3)])])))
noncomputable def F__law_own : Fn := fun xs st => allR (g__law_own F__law_apart F__law_gap F__law_prod (begin 4 2 xs) st)
-- needs: own_square
theorem lown_ok {n : Nat} {h k : Rat × Rat} {st : List SO} (a : HR n h) (b : HR n k) (hn : n ≤ 400) : F__law_own [hq h, hq k] st = .ok (fr (oq h k)) st := by
  have e1 := lapart_ok (st := st) a.t a.x b.t b.x (by omega)
  have ha := b.t.sub a.t
  have hg := b.x.sub a.x
  have e2 := lprod_ok (st := st) ha ha (by omega)
  have e3 := lprod_ok (st := st) hg hg (by omega)
  have e4 := lgap_ok (st := st) (ha.mul ha) (hg.mul hg) (by omega)
  simp only [F__law_own, g__law_own, gSlN_eq, slN_r, slN_l, slNK_s, gRevN_eq, revN_r, revNK_s, tupleV_r, tupleV_l, gCallV_eq, gLend_eq, isNotBV_b, gRep_eq, repR_r, gZip_eq, zipR_t, zipR_l, gTry_eq, tryK_nx, tryK_ret, begin_eq, allR_nx, allR_ret, allR_exc, gSkip_eq, gSeq_eq, seqK_nx, seqK_ret, seqK_exc, toS_ok, toS_exc, toST_ok, toST_exc, toSL_ok, toSL_exc, gRet_eq, gAsg_eq, gSet_eq, gExpr_eq, gIfS_eq, gRaise_eq, gBin_eq, gUn_eq, gVar_eq, slotR_some, gC_eq, gArgs_nil, gArgs_cons, gTupE_eq, gLstE_eq, gNewE_eq, gCall_eq, gBi_eq, gB_eq, asB_bl, gAnd_eq, gOr_eq, gNot_eq, gVT_eq, gIf_eq, gChain_eq, chK_t, chK_f, chK_b, bnd_ok, bnd_exc, oo_some, gTo_eq, toK_some, tgName_eq, tgNil_eq, tgCons_eq, tgTup_eq, bind_some, gPar_eq, gCat_eq, catR_r, listV_t, listV_l, blsOf_nil, blsOf_cons, allV_l, isNV_d, notNV_d, parK_ok, parK_exc, gStore_eq, stK_some, gMeth_eq, gFor_eq, gRng1_eq, asI_i, gItL_eq, gItT_eq, asLst_l, asTup_t, addV_ii, subV_ii, mulV_ii, fdivV_ii, modV_ii, shlV_ii, pw6, pw9, pw18, pw19, pw20, pw25, pw30, pw39, ltV_ii, leV_ii, gtV_ii, geV_ii, negV_i, isNV_n, isNV_t, isNV_l, isNV_i, isNV_s, isNV_r, isNV_b, notNV_n, notNV_t, notNV_l, notNV_i, notNV_s, notNV_r, notNV_b, ixV_t, ixV_l, ixV_r, lenV_t, lenV_l, lenV_r, absV_i, max2V_ii, min2V_ii, bitsV_i, setIV_r, setK_some, setL_some, appendM_r, appK_some, appN_ok, isT_r, isK_l, lstK_some, tyK_l, isT_s, isiV_eq, tyN_int, tyN_bl, tyN_non, tyN_str, tyN_tup, tyN_lst, tyN_dct, tyN_r, kk_int_bool, kitK_t, kk_int_str, kk_int_tuple, kk_int_list, kk_int_dict, kk_int_NoneType, kk_bool_int, kk_bool_str, kk_bool_tuple, kk_bool_list, kk_bool_dict, kk_bool_NoneType, kk_str_int, kk_str_bool, kk_str_tuple, kk_str_list, kk_str_dict, kk_str_NoneType, kk_tuple_int, kk_tuple_bool, kk_tuple_str, kk_tuple_list, kk_tuple_dict, kk_tuple_NoneType, kk_list_int, kk_list_bool, kk_list_str, kk_list_tuple, kk_list_dict, kk_list_NoneType, kk_dict_int, kk_dict_bool, kk_dict_str, kk_dict_tuple, kk_dict_list, kk_dict_NoneType, eqV_int, neV_int, isBV_b, neV_bl, eqV_bl, eqV_ii, neV_ii, isNV_fr, notNV_fr, ixV_fr0, ixV_fr1, eqV_fr, neV_fr, int1V_b, int1V_i, ixV_hp0, ixV_hp1, isNV_hp, eqV_hp, neV_hp, tyN_fr, lenV_fr, at0, at1, at2, at3, at4, at5, ixN0, ixN1, List.map_cons, List.map_nil, List.replicate, List.cons_append, List.nil_append, List.getElem?_cons_zero, List.getElem?_cons_succ, List.set_cons_zero, List.set_cons_succ, Bool.not_true, Bool.not_false, Bool.false_eq_true, if_true, if_false, ite_true, ite_false, reduceIte, Nat.reduceSub, Nat.reduceAdd, ne_eq, Int.cast_ofNat_Int, Int.reduceBEq, Int.reduceLT, Int.reduceLE, Int.reduceEq, Int.reduceNeg, Int.reduceMul, Int.reduceAdd, Int.reduceSub, decide_true, decide_false, List.length_cons, List.length_nil, beq_self_eq_true, not_false_eq_true, not_true_eq_false, hq, oq, e1, e2, e3, e4]

noncomputable def g_is_way (F_is_hap : Fn) (F_kind_of : Fn) : GS :=
  (gSeq (gIfS (gOr (gNot (gB (gBi isiV [(gVar 0), (gC (.ty "list"))]))) (gOr (gNot (gB (gChain leV leV (gC (.int 2)) (gBi lenV [(gVar 0)]) (gC (.int 12))))) (gNot (gB (gBi allV [(gComp (gItL (gVar 0)) (tgName 2) gYes (gCall F_is_hap [(gVar 2)]) [2])]))))) (gRet (gC (.bl false))) gSkip)
  (gRet (gBi allV [(gComp (gRng2 (gC (.int 1)) (gBi lenV [(gVar 0)])) (tgName 1) gYes (gBin eqV (gCall F_kind_of [(gBin ixV (gVar 0) (gBin subV (gVar 1) (gC (.int 1)))), (gBin ixV (gVar 0) (gVar 1))]) (gC (.str "later"))) [1])])))
noncomputable def F_is_way : Fn := fun xs st => allR (g_is_way F_is_hap F_kind_of (begin 3 1 xs) st)
-- needs: own_time
/-- the i-th hap of a way -/
def gh (hs : List (Rat × Rat)) (i : Nat) : Rat × Rat := hs.getD i (0, 0)
theorem gh_at {hs : List (Rat × Rat)} {i : Nat} (h : i < hs.length) : (hs.map hq)[i]? = some (hq (gh hs i)) := by
  rw [List.getElem?_map, List.getElem?_eq_getElem h]
  unfold gh
  rw [List.getD_eq_getElem?_getD, List.getElem?_eq_getElem h]
  rfl
theorem gh_mem {hs : List (Rat × Rat)} {i : Nat} (h : i < hs.length) : gh hs i ∈ hs := by
  unfold gh
  rw [List.getD_eq_getElem?_getD, List.getElem?_eq_getElem h]
  exact List.getElem_mem h
noncomputable def allLat (hs : List (Rat × Rat)) : Bool := ((List.range (hs.length - 1)).map fun i => lat (gh hs i) (gh hs (i + 1))).all id
theorem blsOf_mapg {α : Type} (g : α → Bool) : ∀ xs : List α, blsOf (xs.map fun x => PV.bl (g x)) = some (xs.map g)
  | [] => rfl
  | x :: xs => by
    rw [List.map_cons, blsOf_cons, blsOf_mapg g xs]
    rfl
theorem rng_map {β : Type} {lo : Int} {n : Nat} (f : PV → β) : (rng lo n).map f = (List.range n).map fun i => f (.int (lo + (i : Nat))) := by
  unfold rng
  rw [List.map_map]
  rfl
theorem len_not {x : PV} {xs : List PV} {st : List SO} (h : ¬ (2 ≤ xs.length ∧ xs.length ≤ 12)) : F_is_way [.lst xs] st = .ok (.bl false) st := by
  by_cases a : 2 ≤ xs.length
  · have d1 : decide ((2 : Int) ≤ (xs.length : Int)) = true := decide_eq_true (by omega)
    have d2 : decide ((xs.length : Int) ≤ 12) = false := decide_eq_false (by omega)
    simp only [F_is_way, g_is_way, gSlN_eq, slN_r, slN_l, slNK_s, gRevN_eq, revN_r, revNK_s, tupleV_r, tupleV_l, gCallV_eq, gLend_eq, isNotBV_b, gRep_eq, repR_r, gZip_eq, zipR_t, zipR_l, gTry_eq, tryK_nx, tryK_ret, begin_eq, allR_nx, allR_ret, allR_exc, gSkip_eq, gSeq_eq, seqK_nx, seqK_ret, seqK_exc, toS_ok, toS_exc, toST_ok, toST_exc, toSL_ok, toSL_exc, gRet_eq, gAsg_eq, gSet_eq, gExpr_eq, gIfS_eq, gRaise_eq, gBin_eq, gUn_eq, gVar_eq, slotR_some, gC_eq, gArgs_nil, gArgs_cons, gTupE_eq, gLstE_eq, gNewE_eq, gCall_eq, gBi_eq, gB_eq, asB_bl, gAnd_eq, gOr_eq, gNot_eq, gVT_eq, gIf_eq, gChain_eq, chK_t, chK_f, chK_b, bnd_ok, bnd_exc, oo_some, gTo_eq, toK_some, tgName_eq, tgNil_eq, tgCons_eq, tgTup_eq, bind_some, gPar_eq, gCat_eq, catR_r, listV_t, listV_l, blsOf_nil, blsOf_cons, allV_l, isNV_d, notNV_d, parK_ok, parK_exc, gStore_eq, stK_some, gMeth_eq, gFor_eq, gRng1_eq, asI_i, gItL_eq, gItT_eq, asLst_l, asTup_t, addV_ii, subV_ii, mulV_ii, fdivV_ii, modV_ii, shlV_ii, pw6, pw9, pw18, pw19, pw20, pw25, pw30, pw39, ltV_ii, leV_ii, gtV_ii, geV_ii, negV_i, isNV_n, isNV_t, isNV_l, isNV_i, isNV_s, isNV_r, isNV_b, notNV_n, notNV_t, notNV_l, notNV_i, notNV_s, notNV_r, notNV_b, ixV_t, ixV_l, ixV_r, lenV_t, lenV_l, lenV_r, absV_i, max2V_ii, min2V_ii, bitsV_i, setIV_r, setK_some, setL_some, appendM_r, appK_some, appN_ok, isT_r, isK_l, lstK_some, tyK_l, isT_s, isiV_eq, tyN_int, tyN_bl, tyN_non, tyN_str, tyN_tup, tyN_lst, tyN_dct, tyN_r, kk_int_bool, kitK_t, kk_int_str, kk_int_tuple, kk_int_list, kk_int_dict, kk_int_NoneType, kk_bool_int, kk_bool_str, kk_bool_tuple, kk_bool_list, kk_bool_dict, kk_bool_NoneType, kk_str_int, kk_str_bool, kk_str_tuple, kk_str_list, kk_str_dict, kk_str_NoneType, kk_tuple_int, kk_tuple_bool, kk_tuple_str, kk_tuple_list, kk_tuple_dict, kk_tuple_NoneType, kk_list_int, kk_list_bool, kk_list_str, kk_list_tuple, kk_list_dict, kk_list_NoneType, kk_dict_int, kk_dict_bool, kk_dict_str, kk_dict_tuple, kk_dict_list, kk_dict_NoneType, eqV_int, neV_int, isBV_b, neV_bl, eqV_bl, eqV_ii, neV_ii, isNV_fr, notNV_fr, ixV_fr0, ixV_fr1, eqV_fr, neV_fr, int1V_b, int1V_i, ixV_hp0, ixV_hp1, isNV_hp, eqV_hp, neV_hp, tyN_fr, lenV_fr, at0, at1, at2, at3, at4, at5, ixN0, ixN1, List.map_cons, List.map_nil, List.replicate, List.cons_append, List.nil_append, List.getElem?_cons_zero, List.getElem?_cons_succ, List.set_cons_zero, List.set_cons_succ, Bool.not_true, Bool.not_false, Bool.false_eq_true, if_true, if_false, ite_true, ite_false, reduceIte, Nat.reduceSub, Nat.reduceAdd, ne_eq, Int.cast_ofNat_Int, Int.reduceBEq, Int.reduceLT, Int.reduceLE, Int.reduceEq, Int.reduceNeg, Int.reduceMul, Int.reduceAdd, Int.reduceSub, decide_true, decide_false, List.length_cons, List.length_nil, beq_self_eq_true, not_false_eq_true, not_true_eq_false, kk_list_list, d1, d2]
  · have d1 : decide ((2 : Int) ≤ (xs.length : Int)) = false := decide_eq_false (by omega)
    simp only [F_is_way, g_is_way, gSlN_eq, slN_r, slN_l, slNK_s, gRevN_eq, revN_r, revNK_s, tupleV_r, tupleV_l, gCallV_eq, gLend_eq, isNotBV_b, gRep_eq, repR_r, gZip_eq, zipR_t, zipR_l, gTry_eq, tryK_nx, tryK_ret, begin_eq, allR_nx, allR_ret, allR_exc, gSkip_eq, gSeq_eq, seqK_nx, seqK_ret, seqK_exc, toS_ok, toS_exc, toST_ok, toST_exc, toSL_ok, toSL_exc, gRet_eq, gAsg_eq, gSet_eq, gExpr_eq, gIfS_eq, gRaise_eq, gBin_eq, gUn_eq, gVar_eq, slotR_some, gC_eq, gArgs_nil, gArgs_cons, gTupE_eq, gLstE_eq, gNewE_eq, gCall_eq, gBi_eq, gB_eq, asB_bl, gAnd_eq, gOr_eq, gNot_eq, gVT_eq, gIf_eq, gChain_eq, chK_t, chK_f, chK_b, bnd_ok, bnd_exc, oo_some, gTo_eq, toK_some, tgName_eq, tgNil_eq, tgCons_eq, tgTup_eq, bind_some, gPar_eq, gCat_eq, catR_r, listV_t, listV_l, blsOf_nil, blsOf_cons, allV_l, isNV_d, notNV_d, parK_ok, parK_exc, gStore_eq, stK_some, gMeth_eq, gFor_eq, gRng1_eq, asI_i, gItL_eq, gItT_eq, asLst_l, asTup_t, addV_ii, subV_ii, mulV_ii, fdivV_ii, modV_ii, shlV_ii, pw6, pw9, pw18, pw19, pw20, pw25, pw30, pw39, ltV_ii, leV_ii, gtV_ii, geV_ii, negV_i, isNV_n, isNV_t, isNV_l, isNV_i, isNV_s, isNV_r, isNV_b, notNV_n, notNV_t, notNV_l, notNV_i, notNV_s, notNV_r, notNV_b, ixV_t, ixV_l, ixV_r, lenV_t, lenV_l, lenV_r, absV_i, max2V_ii, min2V_ii, bitsV_i, setIV_r, setK_some, setL_some, appendM_r, appK_some, appN_ok, isT_r, isK_l, lstK_some, tyK_l, isT_s, isiV_eq, tyN_int, tyN_bl, tyN_non, tyN_str, tyN_tup, tyN_lst, tyN_dct, tyN_r, kk_int_bool, kitK_t, kk_int_str, kk_int_tuple, kk_int_list, kk_int_dict, kk_int_NoneType, kk_bool_int, kk_bool_str, kk_bool_tuple, kk_bool_list, kk_bool_dict, kk_bool_NoneType, kk_str_int, kk_str_bool, kk_str_tuple, kk_str_list, kk_str_dict, kk_str_NoneType, kk_tuple_int, kk_tuple_bool, kk_tuple_str, kk_tuple_list, kk_tuple_dict, kk_tuple_NoneType, kk_list_int, kk_list_bool, kk_list_str, kk_list_tuple, kk_list_dict, kk_list_NoneType, kk_dict_int, kk_dict_bool, kk_dict_str, kk_dict_tuple, kk_dict_list, kk_dict_NoneType, eqV_int, neV_int, isBV_b, neV_bl, eqV_bl, eqV_ii, neV_ii, isNV_fr, notNV_fr, ixV_fr0, ixV_fr1, eqV_fr, neV_fr, int1V_b, int1V_i, ixV_hp0, ixV_hp1, isNV_hp, eqV_hp, neV_hp, tyN_fr, lenV_fr, at0, at1, at2, at3, at4, at5, ixN0, ixN1, List.map_cons, List.map_nil, List.replicate, List.cons_append, List.nil_append, List.getElem?_cons_zero, List.getElem?_cons_succ, List.set_cons_zero, List.set_cons_succ, Bool.not_true, Bool.not_false, Bool.false_eq_true, if_true, if_false, ite_true, ite_false, reduceIte, Nat.reduceSub, Nat.reduceAdd, ne_eq, Int.cast_ofNat_Int, Int.reduceBEq, Int.reduceLT, Int.reduceLE, Int.reduceEq, Int.reduceNeg, Int.reduceMul, Int.reduceAdd, Int.reduceSub, decide_true, decide_false, List.length_cons, List.length_nil, beq_self_eq_true, not_false_eq_true, not_true_eq_false, kk_list_list, d1]
theorem isway_not {x : PV} {st : List SO} {T : String} (h : tyN st x = some T) (k : kitK "list" (some T) = some (.bl false)) : F_is_way [x] st = .ok (.bl false) st := by
  simp only [F_is_way, g_is_way, gSlN_eq, slN_r, slN_l, slNK_s, gRevN_eq, revN_r, revNK_s, tupleV_r, tupleV_l, gCallV_eq, gLend_eq, isNotBV_b, gRep_eq, repR_r, gZip_eq, zipR_t, zipR_l, gTry_eq, tryK_nx, tryK_ret, begin_eq, allR_nx, allR_ret, allR_exc, gSkip_eq, gSeq_eq, seqK_nx, seqK_ret, seqK_exc, toS_ok, toS_exc, toST_ok, toST_exc, toSL_ok, toSL_exc, gRet_eq, gAsg_eq, gSet_eq, gExpr_eq, gIfS_eq, gRaise_eq, gBin_eq, gUn_eq, gVar_eq, slotR_some, gC_eq, gArgs_nil, gArgs_cons, gTupE_eq, gLstE_eq, gNewE_eq, gCall_eq, gBi_eq, gB_eq, asB_bl, gAnd_eq, gOr_eq, gNot_eq, gVT_eq, gIf_eq, gChain_eq, chK_t, chK_f, chK_b, bnd_ok, bnd_exc, oo_some, gTo_eq, toK_some, tgName_eq, tgNil_eq, tgCons_eq, tgTup_eq, bind_some, gPar_eq, gCat_eq, catR_r, listV_t, listV_l, blsOf_nil, blsOf_cons, allV_l, isNV_d, notNV_d, parK_ok, parK_exc, gStore_eq, stK_some, gMeth_eq, gFor_eq, gRng1_eq, asI_i, gItL_eq, gItT_eq, asLst_l, asTup_t, addV_ii, subV_ii, mulV_ii, fdivV_ii, modV_ii, shlV_ii, pw6, pw9, pw18, pw19, pw20, pw25, pw30, pw39, ltV_ii, leV_ii, gtV_ii, geV_ii, negV_i, isNV_n, isNV_t, isNV_l, isNV_i, isNV_s, isNV_r, isNV_b, notNV_n, notNV_t, notNV_l, notNV_i, notNV_s, notNV_r, notNV_b, ixV_t, ixV_l, ixV_r, lenV_t, lenV_l, lenV_r, absV_i, max2V_ii, min2V_ii, bitsV_i, setIV_r, setK_some, setL_some, appendM_r, appK_some, appN_ok, isT_r, isK_l, lstK_some, tyK_l, isT_s, isiV_eq, tyN_int, tyN_bl, tyN_non, tyN_str, tyN_tup, tyN_lst, tyN_dct, tyN_r, kk_int_bool, kitK_t, kk_int_str, kk_int_tuple, kk_int_list, kk_int_dict, kk_int_NoneType, kk_bool_int, kk_bool_str, kk_bool_tuple, kk_bool_list, kk_bool_dict, kk_bool_NoneType, kk_str_int, kk_str_bool, kk_str_tuple, kk_str_list, kk_str_dict, kk_str_NoneType, kk_tuple_int, kk_tuple_bool, kk_tuple_str, kk_tuple_list, kk_tuple_dict, kk_tuple_NoneType, kk_list_int, kk_list_bool, kk_list_str, kk_list_tuple, kk_list_dict, kk_list_NoneType, kk_dict_int, kk_dict_bool, kk_dict_str, kk_dict_tuple, kk_dict_list, kk_dict_NoneType, eqV_int, neV_int, isBV_b, neV_bl, eqV_bl, eqV_ii, neV_ii, isNV_fr, notNV_fr, ixV_fr0, ixV_fr1, eqV_fr, neV_fr, int1V_b, int1V_i, ixV_hp0, ixV_hp1, isNV_hp, eqV_hp, neV_hp, tyN_fr, lenV_fr, at0, at1, at2, at3, at4, at5, ixN0, ixN1, List.map_cons, List.map_nil, List.replicate, List.cons_append, List.nil_append, List.getElem?_cons_zero, List.getElem?_cons_succ, List.set_cons_zero, List.set_cons_succ, Bool.not_true, Bool.not_false, Bool.false_eq_true, if_true, if_false, ite_true, ite_false, reduceIte, Nat.reduceSub, Nat.reduceAdd, ne_eq, Int.cast_ofNat_Int, Int.reduceBEq, Int.reduceLT, Int.reduceLE, Int.reduceEq, Int.reduceNeg, Int.reduceMul, Int.reduceAdd, Int.reduceSub, decide_true, decide_false, List.length_cons, List.length_nil, beq_self_eq_true, not_false_eq_true, not_true_eq_false, h, k]
open Classical in
theorem isway_ok {n : Nat} {hs : List (Rat × Rat)} {st : List SO} (h1 : 2 ≤ hs.length) (h2 : hs.length ≤ 12) (hr : ∀ h ∈ hs, HR n h) (hn : n ≤ 400) : F_is_way [.lst (hs.map hq)] st = .ok (.bl (allLat hs)) st := by
  have len : (hs.map hq).length = hs.length := List.length_map ..
  have d1 : decide ((2 : Int) ≤ ((hs.map hq).length : Int)) = true := decide_eq_true (by omega)
  have d2 : decide (((hs.map hq).length : Int) ≤ 12) = true := decide_eq_true (by omega)
  have c1 : gComp (gItL (gVar 0)) (tgName 2) gYes (gCall F_is_hap [(gVar 2)]) [2] [some (.lst (hs.map hq)), none, none] st = .ok (.lst ((hs.map hq).map fun _ => .bl true)) st := by
    refine gComp_ok (xs := hs.map hq) (st1 := st) rfl (comp_map (fun _ => .bl true) _ fun z hz => ?_) (lenOk_small (by rw [List.length_map]; omega))
    obtain ⟨h, hh, rfl⟩ := List.mem_map.mp hz
    refine ⟨[some (.lst (hs.map hq)), none, some (hq h)], rfl, ?_⟩
    have e := ishap_hp h.1 h.2 (st := st)
    simp only [gSlN_eq, slN_r, slN_l, slNK_s, gRevN_eq, revN_r, revNK_s, tupleV_r, tupleV_l, gCallV_eq, gLend_eq, isNotBV_b, gRep_eq, repR_r, gZip_eq, zipR_t, zipR_l, gTry_eq, tryK_nx, tryK_ret, begin_eq, allR_nx, allR_ret, allR_exc, gSkip_eq, gSeq_eq, seqK_nx, seqK_ret, seqK_exc, toS_ok, toS_exc, toST_ok, toST_exc, toSL_ok, toSL_exc, gRet_eq, gAsg_eq, gSet_eq, gExpr_eq, gIfS_eq, gRaise_eq, gBin_eq, gUn_eq, gVar_eq, slotR_some, gC_eq, gArgs_nil, gArgs_cons, gTupE_eq, gLstE_eq, gNewE_eq, gCall_eq, gBi_eq, gB_eq, asB_bl, gAnd_eq, gOr_eq, gNot_eq, gVT_eq, gIf_eq, gChain_eq, chK_t, chK_f, chK_b, bnd_ok, bnd_exc, oo_some, gTo_eq, toK_some, tgName_eq, tgNil_eq, tgCons_eq, tgTup_eq, bind_some, gPar_eq, gCat_eq, catR_r, listV_t, listV_l, blsOf_nil, blsOf_cons, allV_l, isNV_d, notNV_d, parK_ok, parK_exc, gStore_eq, stK_some, gMeth_eq, gFor_eq, gRng1_eq, asI_i, gItL_eq, gItT_eq, asLst_l, asTup_t, addV_ii, subV_ii, mulV_ii, fdivV_ii, modV_ii, shlV_ii, pw6, pw9, pw18, pw19, pw20, pw25, pw30, pw39, ltV_ii, leV_ii, gtV_ii, geV_ii, negV_i, isNV_n, isNV_t, isNV_l, isNV_i, isNV_s, isNV_r, isNV_b, notNV_n, notNV_t, notNV_l, notNV_i, notNV_s, notNV_r, notNV_b, ixV_t, ixV_l, ixV_r, lenV_t, lenV_l, lenV_r, absV_i, max2V_ii, min2V_ii, bitsV_i, setIV_r, setK_some, setL_some, appendM_r, appK_some, appN_ok, isT_r, isK_l, lstK_some, tyK_l, isT_s, isiV_eq, tyN_int, tyN_bl, tyN_non, tyN_str, tyN_tup, tyN_lst, tyN_dct, tyN_r, kk_int_bool, kitK_t, kk_int_str, kk_int_tuple, kk_int_list, kk_int_dict, kk_int_NoneType, kk_bool_int, kk_bool_str, kk_bool_tuple, kk_bool_list, kk_bool_dict, kk_bool_NoneType, kk_str_int, kk_str_bool, kk_str_tuple, kk_str_list, kk_str_dict, kk_str_NoneType, kk_tuple_int, kk_tuple_bool, kk_tuple_str, kk_tuple_list, kk_tuple_dict, kk_tuple_NoneType, kk_list_int, kk_list_bool, kk_list_str, kk_list_tuple, kk_list_dict, kk_list_NoneType, kk_dict_int, kk_dict_bool, kk_dict_str, kk_dict_tuple, kk_dict_list, kk_dict_NoneType, eqV_int, neV_int, isBV_b, neV_bl, eqV_bl, eqV_ii, neV_ii, isNV_fr, notNV_fr, ixV_fr0, ixV_fr1, eqV_fr, neV_fr, int1V_b, int1V_i, ixV_hp0, ixV_hp1, isNV_hp, eqV_hp, neV_hp, tyN_fr, lenV_fr, at0, at1, at2, at3, at4, at5, ixN0, ixN1, List.map_cons, List.map_nil, List.replicate, List.cons_append, List.nil_append, List.getElem?_cons_zero, List.getElem?_cons_succ, List.set_cons_zero, List.set_cons_succ, Bool.not_true, Bool.not_false, Bool.false_eq_true, if_true, if_false, ite_true, ite_false, reduceIte, Nat.reduceSub, Nat.reduceAdd, ne_eq, Int.cast_ofNat_Int, Int.reduceBEq, Int.reduceLT, Int.reduceLE, Int.reduceEq, Int.reduceNeg, Int.reduceMul, Int.reduceAdd, Int.reduceSub, decide_true, decide_false, List.length_cons, List.length_nil, beq_self_eq_true, not_false_eq_true, not_true_eq_false, hq, e]
  have r1 : RngOk 1 := by unfold RngOk; omega
  have r2 : RngOk ((hs.map hq).length : Int) := by unfold RngOk; omega
  have it : gRng2 (gC (.int 1)) (gBi lenV [(gVar 0)]) [some (.lst (hs.map hq)), none, none] st = .ok (rng 1 (hs.length - 1)) st := by
    have e : (((hs.map hq).length : Int) - 1).toNat = hs.length - 1 := by omega
    show (if RngOk 1 ∧ RngOk ((hs.map hq).length : Int) then Res.ok (rng 1 (((hs.map hq).length : Int) - 1).toNat) st else .bad) = _
    rw [if_pos ⟨r1, r2⟩, e]
  have c2 : gComp (gRng2 (gC (.int 1)) (gBi lenV [(gVar 0)])) (tgName 1) gYes (gBin eqV (gCall F_kind_of [(gBin ixV (gVar 0) (gBin subV (gVar 1) (gC (.int 1)))), (gBin ixV (gVar 0) (gVar 1))]) (gC (.str "later"))) [1] [some (.lst (hs.map hq)), none, none] st = .ok (.lst ((List.range (hs.length - 1)).map fun i => .bl (lat (gh hs i) (gh hs (i + 1))))) st := by
    have m := gComp_ok (it := gRng2 (gC (.int 1)) (gBi lenV [(gVar 0)])) (t := tgName 1) (c := gYes) (e := gBin eqV (gCall F_kind_of [(gBin ixV (gVar 0) (gBin subV (gVar 1) (gC (.int 1)))), (gBin ixV (gVar 0) (gVar 1))]) (gC (.str "later"))) (vs := [1]) (ρ := [some (.lst (hs.map hq)), none, none]) (st := st) (st1 := st) (xs := rng 1 (hs.length - 1)) it (comp_map (fun z => match z with | .int j => .bl (lat (gh hs (j.toNat - 1)) (gh hs j.toNat)) | _ => .non) _ fun z hz => by
      unfold rng at hz
      obtain ⟨i, hi, rfl⟩ := List.mem_map.mp hz
      have hi := List.mem_range.mp hi
      refine ⟨[some (.lst (hs.map hq)), some (.int (1 + (i : Nat))), none], rfl, ?_⟩
      have e1 : (1 + (i : Int)) - 1 = ((i : Nat) : Int) := by omega
      have e2 : (1 + (i : Int)) = ((i + 1 : Nat) : Int) := by omega
      have a1 : atI (hs.map hq) ((i : Nat) : Int) = some (hq (gh hs i)) := atN (gh_at (by omega))
      have a2 : atI (hs.map hq) ((i + 1 : Nat) : Int) = some (hq (gh hs (i + 1))) := atN (gh_at (by omega))
      have k := kind_ok (st := st) (hr _ (gh_mem (i := i) (by omega))).t (hr _ (gh_mem (i := i) (by omega))).x (hr _ (gh_mem (i := i + 1) (by omega))).t (hr _ (gh_mem (i := i + 1) (by omega))).x (by omega)
      have k : F_kind_of [hq (gh hs i), hq (gh hs (i + 1))] st = _ := k
      have t1 : ((1 : Int) + (i : Nat)).toNat - 1 = i := by omega
      have t2 : ((1 : Int) + (i : Nat)).toNat = i + 1 := by omega
      show gBin eqV _ _ _ _ = Res.ok (PV.bl (lat (gh hs (((1 : Int) + (i : Nat)).toNat - 1)) (gh hs ((1 : Int) + (i : Nat)).toNat))) st
      rw [t1, t2]
      simp only [gSlN_eq, slN_r, slN_l, slNK_s, gRevN_eq, revN_r, revNK_s, tupleV_r, tupleV_l, gCallV_eq, gLend_eq, isNotBV_b, gRep_eq, repR_r, gZip_eq, zipR_t, zipR_l, gTry_eq, tryK_nx, tryK_ret, begin_eq, allR_nx, allR_ret, allR_exc, gSkip_eq, gSeq_eq, seqK_nx, seqK_ret, seqK_exc, toS_ok, toS_exc, toST_ok, toST_exc, toSL_ok, toSL_exc, gRet_eq, gAsg_eq, gSet_eq, gExpr_eq, gIfS_eq, gRaise_eq, gBin_eq, gUn_eq, gVar_eq, slotR_some, gC_eq, gArgs_nil, gArgs_cons, gTupE_eq, gLstE_eq, gNewE_eq, gCall_eq, gBi_eq, gB_eq, asB_bl, gAnd_eq, gOr_eq, gNot_eq, gVT_eq, gIf_eq, gChain_eq, chK_t, chK_f, chK_b, bnd_ok, bnd_exc, oo_some, gTo_eq, toK_some, tgName_eq, tgNil_eq, tgCons_eq, tgTup_eq, bind_some, gPar_eq, gCat_eq, catR_r, listV_t, listV_l, blsOf_nil, blsOf_cons, allV_l, isNV_d, notNV_d, parK_ok, parK_exc, gStore_eq, stK_some, gMeth_eq, gFor_eq, gRng1_eq, asI_i, gItL_eq, gItT_eq, asLst_l, asTup_t, addV_ii, subV_ii, mulV_ii, fdivV_ii, modV_ii, shlV_ii, pw6, pw9, pw18, pw19, pw20, pw25, pw30, pw39, ltV_ii, leV_ii, gtV_ii, geV_ii, negV_i, isNV_n, isNV_t, isNV_l, isNV_i, isNV_s, isNV_r, isNV_b, notNV_n, notNV_t, notNV_l, notNV_i, notNV_s, notNV_r, notNV_b, ixV_t, ixV_l, ixV_r, lenV_t, lenV_l, lenV_r, absV_i, max2V_ii, min2V_ii, bitsV_i, setIV_r, setK_some, setL_some, appendM_r, appK_some, appN_ok, isT_r, isK_l, lstK_some, tyK_l, isT_s, isiV_eq, tyN_int, tyN_bl, tyN_non, tyN_str, tyN_tup, tyN_lst, tyN_dct, tyN_r, kk_int_bool, kitK_t, kk_int_str, kk_int_tuple, kk_int_list, kk_int_dict, kk_int_NoneType, kk_bool_int, kk_bool_str, kk_bool_tuple, kk_bool_list, kk_bool_dict, kk_bool_NoneType, kk_str_int, kk_str_bool, kk_str_tuple, kk_str_list, kk_str_dict, kk_str_NoneType, kk_tuple_int, kk_tuple_bool, kk_tuple_str, kk_tuple_list, kk_tuple_dict, kk_tuple_NoneType, kk_list_int, kk_list_bool, kk_list_str, kk_list_tuple, kk_list_dict, kk_list_NoneType, kk_dict_int, kk_dict_bool, kk_dict_str, kk_dict_tuple, kk_dict_list, kk_dict_NoneType, eqV_int, neV_int, isBV_b, neV_bl, eqV_bl, eqV_ii, neV_ii, isNV_fr, notNV_fr, ixV_fr0, ixV_fr1, eqV_fr, neV_fr, int1V_b, int1V_i, ixV_hp0, ixV_hp1, isNV_hp, eqV_hp, neV_hp, tyN_fr, lenV_fr, at0, at1, at2, at3, at4, at5, ixN0, ixN1, List.map_cons, List.map_nil, List.replicate, List.cons_append, List.nil_append, List.getElem?_cons_zero, List.getElem?_cons_succ, List.set_cons_zero, List.set_cons_succ, Bool.not_true, Bool.not_false, Bool.false_eq_true, if_true, if_false, ite_true, ite_false, reduceIte, Nat.reduceSub, Nat.reduceAdd, ne_eq, Int.cast_ofNat_Int, Int.reduceBEq, Int.reduceLT, Int.reduceLE, Int.reduceEq, Int.reduceNeg, Int.reduceMul, Int.reduceAdd, Int.reduceSub, decide_true, decide_false, List.length_cons, List.length_nil, beq_self_eq_true, not_false_eq_true, not_true_eq_false, e1, a1]
      simp only [gSlN_eq, slN_r, slN_l, slNK_s, gRevN_eq, revN_r, revNK_s, tupleV_r, tupleV_l, gCallV_eq, gLend_eq, isNotBV_b, gRep_eq, repR_r, gZip_eq, zipR_t, zipR_l, gTry_eq, tryK_nx, tryK_ret, begin_eq, allR_nx, allR_ret, allR_exc, gSkip_eq, gSeq_eq, seqK_nx, seqK_ret, seqK_exc, toS_ok, toS_exc, toST_ok, toST_exc, toSL_ok, toSL_exc, gRet_eq, gAsg_eq, gSet_eq, gExpr_eq, gIfS_eq, gRaise_eq, gBin_eq, gUn_eq, gVar_eq, slotR_some, gC_eq, gArgs_nil, gArgs_cons, gTupE_eq, gLstE_eq, gNewE_eq, gCall_eq, gBi_eq, gB_eq, asB_bl, gAnd_eq, gOr_eq, gNot_eq, gVT_eq, gIf_eq, gChain_eq, chK_t, chK_f, chK_b, bnd_ok, bnd_exc, oo_some, gTo_eq, toK_some, tgName_eq, tgNil_eq, tgCons_eq, tgTup_eq, bind_some, gPar_eq, gCat_eq, catR_r, listV_t, listV_l, blsOf_nil, blsOf_cons, allV_l, isNV_d, notNV_d, parK_ok, parK_exc, gStore_eq, stK_some, gMeth_eq, gFor_eq, gRng1_eq, asI_i, gItL_eq, gItT_eq, asLst_l, asTup_t, addV_ii, subV_ii, mulV_ii, fdivV_ii, modV_ii, shlV_ii, pw6, pw9, pw18, pw19, pw20, pw25, pw30, pw39, ltV_ii, leV_ii, gtV_ii, geV_ii, negV_i, isNV_n, isNV_t, isNV_l, isNV_i, isNV_s, isNV_r, isNV_b, notNV_n, notNV_t, notNV_l, notNV_i, notNV_s, notNV_r, notNV_b, ixV_t, ixV_l, ixV_r, lenV_t, lenV_l, lenV_r, absV_i, max2V_ii, min2V_ii, bitsV_i, setIV_r, setK_some, setL_some, appendM_r, appK_some, appN_ok, isT_r, isK_l, lstK_some, tyK_l, isT_s, isiV_eq, tyN_int, tyN_bl, tyN_non, tyN_str, tyN_tup, tyN_lst, tyN_dct, tyN_r, kk_int_bool, kitK_t, kk_int_str, kk_int_tuple, kk_int_list, kk_int_dict, kk_int_NoneType, kk_bool_int, kk_bool_str, kk_bool_tuple, kk_bool_list, kk_bool_dict, kk_bool_NoneType, kk_str_int, kk_str_bool, kk_str_tuple, kk_str_list, kk_str_dict, kk_str_NoneType, kk_tuple_int, kk_tuple_bool, kk_tuple_str, kk_tuple_list, kk_tuple_dict, kk_tuple_NoneType, kk_list_int, kk_list_bool, kk_list_str, kk_list_tuple, kk_list_dict, kk_list_NoneType, kk_dict_int, kk_dict_bool, kk_dict_str, kk_dict_tuple, kk_dict_list, kk_dict_NoneType, eqV_int, neV_int, isBV_b, neV_bl, eqV_bl, eqV_ii, neV_ii, isNV_fr, notNV_fr, ixV_fr0, ixV_fr1, eqV_fr, neV_fr, int1V_b, int1V_i, ixV_hp0, ixV_hp1, isNV_hp, eqV_hp, neV_hp, tyN_fr, lenV_fr, at0, at1, at2, at3, at4, at5, ixN0, ixN1, List.map_cons, List.map_nil, List.replicate, List.cons_append, List.nil_append, List.getElem?_cons_zero, List.getElem?_cons_succ, List.set_cons_zero, List.set_cons_succ, Bool.not_true, Bool.not_false, Bool.false_eq_true, if_true, if_false, ite_true, ite_false, reduceIte, Nat.reduceSub, Nat.reduceAdd, ne_eq, Int.cast_ofNat_Int, Int.reduceBEq, Int.reduceLT, Int.reduceLE, Int.reduceEq, Int.reduceNeg, Int.reduceMul, Int.reduceAdd, Int.reduceSub, decide_true, decide_false, List.length_cons, List.length_nil, beq_self_eq_true, not_false_eq_true, not_true_eq_false, e2, a2, k, eqV_str (sto_kw _ _) sto_lat]
      rfl) (lenOk_small (by rw [List.length_map, rng_len]; omega))
    rw [rng_map] at m
    rw [m]
    congr 2
    refine List.map_congr_left fun i _ => ?_
    have t1 : ((1 : Int) + (i : Nat)).toNat - 1 = i := by omega
    have t2 : ((1 : Int) + (i : Nat)).toNat = i + 1 := by omega
    show PV.bl (lat (gh hs (((1 : Int) + (i : Nat)).toNat - 1)) (gh hs ((1 : Int) + (i : Nat)).toNat)) = _
    rw [t1, t2]
  have av := allV_true (xs := hs.map hq) (st := st)
  simp only [F_is_way, g_is_way, gSlN_eq, slN_r, slN_l, slNK_s, gRevN_eq, revN_r, revNK_s, tupleV_r, tupleV_l, gCallV_eq, gLend_eq, isNotBV_b, gRep_eq, repR_r, gZip_eq, zipR_t, zipR_l, gTry_eq, tryK_nx, tryK_ret, begin_eq, allR_nx, allR_ret, allR_exc, gSkip_eq, gSeq_eq, seqK_nx, seqK_ret, seqK_exc, toS_ok, toS_exc, toST_ok, toST_exc, toSL_ok, toSL_exc, gRet_eq, gAsg_eq, gSet_eq, gExpr_eq, gIfS_eq, gRaise_eq, gBin_eq, gUn_eq, gVar_eq, slotR_some, gC_eq, gArgs_nil, gArgs_cons, gTupE_eq, gLstE_eq, gNewE_eq, gCall_eq, gBi_eq, gB_eq, asB_bl, gAnd_eq, gOr_eq, gNot_eq, gVT_eq, gIf_eq, gChain_eq, chK_t, chK_f, chK_b, bnd_ok, bnd_exc, oo_some, gTo_eq, toK_some, tgName_eq, tgNil_eq, tgCons_eq, tgTup_eq, bind_some, gPar_eq, gCat_eq, catR_r, listV_t, listV_l, blsOf_nil, blsOf_cons, allV_l, isNV_d, notNV_d, parK_ok, parK_exc, gStore_eq, stK_some, gMeth_eq, gFor_eq, gRng1_eq, asI_i, gItL_eq, gItT_eq, asLst_l, asTup_t, addV_ii, subV_ii, mulV_ii, fdivV_ii, modV_ii, shlV_ii, pw6, pw9, pw18, pw19, pw20, pw25, pw30, pw39, ltV_ii, leV_ii, gtV_ii, geV_ii, negV_i, isNV_n, isNV_t, isNV_l, isNV_i, isNV_s, isNV_r, isNV_b, notNV_n, notNV_t, notNV_l, notNV_i, notNV_s, notNV_r, notNV_b, ixV_t, ixV_l, ixV_r, lenV_t, lenV_l, lenV_r, absV_i, max2V_ii, min2V_ii, bitsV_i, setIV_r, setK_some, setL_some, appendM_r, appK_some, appN_ok, isT_r, isK_l, lstK_some, tyK_l, isT_s, isiV_eq, tyN_int, tyN_bl, tyN_non, tyN_str, tyN_tup, tyN_lst, tyN_dct, tyN_r, kk_int_bool, kitK_t, kk_int_str, kk_int_tuple, kk_int_list, kk_int_dict, kk_int_NoneType, kk_bool_int, kk_bool_str, kk_bool_tuple, kk_bool_list, kk_bool_dict, kk_bool_NoneType, kk_str_int, kk_str_bool, kk_str_tuple, kk_str_list, kk_str_dict, kk_str_NoneType, kk_tuple_int, kk_tuple_bool, kk_tuple_str, kk_tuple_list, kk_tuple_dict, kk_tuple_NoneType, kk_list_int, kk_list_bool, kk_list_str, kk_list_tuple, kk_list_dict, kk_list_NoneType, kk_dict_int, kk_dict_bool, kk_dict_str, kk_dict_tuple, kk_dict_list, kk_dict_NoneType, eqV_int, neV_int, isBV_b, neV_bl, eqV_bl, eqV_ii, neV_ii, isNV_fr, notNV_fr, ixV_fr0, ixV_fr1, eqV_fr, neV_fr, int1V_b, int1V_i, ixV_hp0, ixV_hp1, isNV_hp, eqV_hp, neV_hp, tyN_fr, lenV_fr, at0, at1, at2, at3, at4, at5, ixN0, ixN1, List.map_cons, List.map_nil, List.replicate, List.cons_append, List.nil_append, List.getElem?_cons_zero, List.getElem?_cons_succ, List.set_cons_zero, List.set_cons_succ, Bool.not_true, Bool.not_false, Bool.false_eq_true, if_true, if_false, ite_true, ite_false, reduceIte, Nat.reduceSub, Nat.reduceAdd, ne_eq, Int.cast_ofNat_Int, Int.reduceBEq, Int.reduceLT, Int.reduceLE, Int.reduceEq, Int.reduceNeg, Int.reduceMul, Int.reduceAdd, Int.reduceSub, decide_true, decide_false, List.length_cons, List.length_nil, beq_self_eq_true, not_false_eq_true, not_true_eq_false, kk_list_list, d1, d2, c1, av]
  simp only [gSlN_eq, slN_r, slN_l, slNK_s, gRevN_eq, revN_r, revNK_s, tupleV_r, tupleV_l, gCallV_eq, gLend_eq, isNotBV_b, gRep_eq, repR_r, gZip_eq, zipR_t, zipR_l, gTry_eq, tryK_nx, tryK_ret, begin_eq, allR_nx, allR_ret, allR_exc, gSkip_eq, gSeq_eq, seqK_nx, seqK_ret, seqK_exc, toS_ok, toS_exc, toST_ok, toST_exc, toSL_ok, toSL_exc, gRet_eq, gAsg_eq, gSet_eq, gExpr_eq, gIfS_eq, gRaise_eq, gBin_eq, gUn_eq, gVar_eq, slotR_some, gC_eq, gArgs_nil, gArgs_cons, gTupE_eq, gLstE_eq, gNewE_eq, gCall_eq, gBi_eq, gB_eq, asB_bl, gAnd_eq, gOr_eq, gNot_eq, gVT_eq, gIf_eq, gChain_eq, chK_t, chK_f, chK_b, bnd_ok, bnd_exc, oo_some, gTo_eq, toK_some, tgName_eq, tgNil_eq, tgCons_eq, tgTup_eq, bind_some, gPar_eq, gCat_eq, catR_r, listV_t, listV_l, blsOf_nil, blsOf_cons, allV_l, isNV_d, notNV_d, parK_ok, parK_exc, gStore_eq, stK_some, gMeth_eq, gFor_eq, gRng1_eq, asI_i, gItL_eq, gItT_eq, asLst_l, asTup_t, addV_ii, subV_ii, mulV_ii, fdivV_ii, modV_ii, shlV_ii, pw6, pw9, pw18, pw19, pw20, pw25, pw30, pw39, ltV_ii, leV_ii, gtV_ii, geV_ii, negV_i, isNV_n, isNV_t, isNV_l, isNV_i, isNV_s, isNV_r, isNV_b, notNV_n, notNV_t, notNV_l, notNV_i, notNV_s, notNV_r, notNV_b, ixV_t, ixV_l, ixV_r, lenV_t, lenV_l, lenV_r, absV_i, max2V_ii, min2V_ii, bitsV_i, setIV_r, setK_some, setL_some, appendM_r, appK_some, appN_ok, isT_r, isK_l, lstK_some, tyK_l, isT_s, isiV_eq, tyN_int, tyN_bl, tyN_non, tyN_str, tyN_tup, tyN_lst, tyN_dct, tyN_r, kk_int_bool, kitK_t, kk_int_str, kk_int_tuple, kk_int_list, kk_int_dict, kk_int_NoneType, kk_bool_int, kk_bool_str, kk_bool_tuple, kk_bool_list, kk_bool_dict, kk_bool_NoneType, kk_str_int, kk_str_bool, kk_str_tuple, kk_str_list, kk_str_dict, kk_str_NoneType, kk_tuple_int, kk_tuple_bool, kk_tuple_str, kk_tuple_list, kk_tuple_dict, kk_tuple_NoneType, kk_list_int, kk_list_bool, kk_list_str, kk_list_tuple, kk_list_dict, kk_list_NoneType, kk_dict_int, kk_dict_bool, kk_dict_str, kk_dict_tuple, kk_dict_list, kk_dict_NoneType, eqV_int, neV_int, isBV_b, neV_bl, eqV_bl, eqV_ii, neV_ii, isNV_fr, notNV_fr, ixV_fr0, ixV_fr1, eqV_fr, neV_fr, int1V_b, int1V_i, ixV_hp0, ixV_hp1, isNV_hp, eqV_hp, neV_hp, tyN_fr, lenV_fr, at0, at1, at2, at3, at4, at5, ixN0, ixN1, List.map_cons, List.map_nil, List.replicate, List.cons_append, List.nil_append, List.getElem?_cons_zero, List.getElem?_cons_succ, List.set_cons_zero, List.set_cons_succ, Bool.not_true, Bool.not_false, Bool.false_eq_true, if_true, if_false, ite_true, ite_false, reduceIte, Nat.reduceSub, Nat.reduceAdd, ne_eq, Int.cast_ofNat_Int, Int.reduceBEq, Int.reduceLT, Int.reduceLE, Int.reduceEq, Int.reduceNeg, Int.reduceMul, Int.reduceAdd, Int.reduceSub, decide_true, decide_false, List.length_cons, List.length_nil, beq_self_eq_true, not_false_eq_true, not_true_eq_false, c2, blsOf_mapg, Option.map_some, allLat]

noncomputable def g_plus (F_fraction : Fn) : GS :=
  (gRet (gCall F_fraction [(gBin addV (gBin mulV (gBin ixV (gVar 0) (gC (.int 0))) (gBin ixV (gVar 1) (gC (.int 1)))) (gBin mulV (gBin ixV (gVar 1) (gC (.int 0))) (gBin ixV (gVar 0) (gC (.int 1))))), (gBin mulV (gBin ixV (gVar 0) (gC (.int 1))) (gBin ixV (gVar 1) (gC (.int 1))))]))
noncomputable def F_plus : Fn := fun xs st => allR (g_plus F_fraction (begin 2 2 xs) st)
theorem plus_ok {n : Nat} {q r : Rat} {st : List SO} (hq : RS n q) (hr : RS n r) (hn : n ≤ 4000) : F_plus [fr q, fr r] st = .ok (fr (q + r)) st := by
  have m1 : MulOk q.num r.den := hq.1.mulOk hr.den (by omega)
  have m2 : MulOk r.num q.den := hr.1.mulOk hq.den (by omega)
  have m3 : MulOk (q.den : Int) r.den := hq.den.mulOk hr.den (by omega)
  have d0 : (q.den * r.den : Int) ≠ 0 := Int.mul_ne_zero (den0 q) (den0 r)
  have e := fraction_ok (st := st) (t := q.num * r.den + r.num * q.den) d0 (hq.den.mul hr.den) (by omega)
  rw [add_eq] at e
  simp only [fr] at e
  simp only [F_plus, g_plus, gSlN_eq, slN_r, slN_l, slNK_s, gRevN_eq, revN_r, revNK_s, tupleV_r, tupleV_l, gCallV_eq, gLend_eq, isNotBV_b, gRep_eq, repR_r, gZip_eq, zipR_t, zipR_l, gTry_eq, tryK_nx, tryK_ret, begin_eq, allR_nx, allR_ret, allR_exc, gSkip_eq, gSeq_eq, seqK_nx, seqK_ret, seqK_exc, toS_ok, toS_exc, toST_ok, toST_exc, toSL_ok, toSL_exc, gRet_eq, gAsg_eq, gSet_eq, gExpr_eq, gIfS_eq, gRaise_eq, gBin_eq, gUn_eq, gVar_eq, slotR_some, gC_eq, gArgs_nil, gArgs_cons, gTupE_eq, gLstE_eq, gNewE_eq, gCall_eq, gBi_eq, gB_eq, asB_bl, gAnd_eq, gOr_eq, gNot_eq, gVT_eq, gIf_eq, gChain_eq, chK_t, chK_f, chK_b, bnd_ok, bnd_exc, oo_some, gTo_eq, toK_some, tgName_eq, tgNil_eq, tgCons_eq, tgTup_eq, bind_some, gPar_eq, gCat_eq, catR_r, listV_t, listV_l, blsOf_nil, blsOf_cons, allV_l, isNV_d, notNV_d, parK_ok, parK_exc, gStore_eq, stK_some, gMeth_eq, gFor_eq, gRng1_eq, asI_i, gItL_eq, gItT_eq, asLst_l, asTup_t, addV_ii, subV_ii, mulV_ii, fdivV_ii, modV_ii, shlV_ii, pw6, pw9, pw18, pw19, pw20, pw25, pw30, pw39, ltV_ii, leV_ii, gtV_ii, geV_ii, negV_i, isNV_n, isNV_t, isNV_l, isNV_i, isNV_s, isNV_r, isNV_b, notNV_n, notNV_t, notNV_l, notNV_i, notNV_s, notNV_r, notNV_b, ixV_t, ixV_l, ixV_r, lenV_t, lenV_l, lenV_r, absV_i, max2V_ii, min2V_ii, bitsV_i, setIV_r, setK_some, setL_some, appendM_r, appK_some, appN_ok, isT_r, isK_l, lstK_some, tyK_l, isT_s, isiV_eq, tyN_int, tyN_bl, tyN_non, tyN_str, tyN_tup, tyN_lst, tyN_dct, tyN_r, kk_int_bool, kitK_t, kk_int_str, kk_int_tuple, kk_int_list, kk_int_dict, kk_int_NoneType, kk_bool_int, kk_bool_str, kk_bool_tuple, kk_bool_list, kk_bool_dict, kk_bool_NoneType, kk_str_int, kk_str_bool, kk_str_tuple, kk_str_list, kk_str_dict, kk_str_NoneType, kk_tuple_int, kk_tuple_bool, kk_tuple_str, kk_tuple_list, kk_tuple_dict, kk_tuple_NoneType, kk_list_int, kk_list_bool, kk_list_str, kk_list_tuple, kk_list_dict, kk_list_NoneType, kk_dict_int, kk_dict_bool, kk_dict_str, kk_dict_tuple, kk_dict_list, kk_dict_NoneType, eqV_int, neV_int, isBV_b, neV_bl, eqV_bl, eqV_ii, neV_ii, isNV_fr, notNV_fr, ixV_fr0, ixV_fr1, eqV_fr, neV_fr, int1V_b, int1V_i, ixV_hp0, ixV_hp1, isNV_hp, eqV_hp, neV_hp, tyN_fr, lenV_fr, at0, at1, at2, at3, at4, at5, ixN0, ixN1, List.map_cons, List.map_nil, List.replicate, List.cons_append, List.nil_append, List.getElem?_cons_zero, List.getElem?_cons_succ, List.set_cons_zero, List.set_cons_succ, Bool.not_true, Bool.not_false, Bool.false_eq_true, if_true, if_false, ite_true, ite_false, reduceIte, Nat.reduceSub, Nat.reduceAdd, ne_eq, Int.cast_ofNat_Int, Int.reduceBEq, Int.reduceLT, Int.reduceLE, Int.reduceEq, Int.reduceNeg, Int.reduceMul, Int.reduceAdd, Int.reduceSub, decide_true, decide_false, List.length_cons, List.length_nil, beq_self_eq_true, not_false_eq_true, not_true_eq_false, fr, m1, m2, m3, e]
theorem plus_as {n m : Nat} {q r : Rat} {st : List SO} (hq : RS n q) (hr : RS m r) (hn : n + m ≤ 9000) : F_plus [fr q, fr r] st = .ok (fr (q + r)) st := by
  have m1 : MulOk q.num r.den := hq.1.mulOk hr.den (by omega)
  have m2 : MulOk r.num q.den := hr.1.mulOk hq.den (by omega)
  have m3 : MulOk (q.den : Int) r.den := hq.den.mulOk hr.den (by omega)
  have d0 : (q.den * r.den : Int) ≠ 0 := Int.mul_ne_zero (den0 q) (den0 r)
  have e := fraction_ok (st := st) (t := q.num * r.den + r.num * q.den) d0 (hq.den.mul hr.den) (by omega)
  rw [add_eq] at e
  simp only [fr] at e
  simp only [F_plus, g_plus, gSlN_eq, slN_r, slN_l, slNK_s, gRevN_eq, revN_r, revNK_s, tupleV_r, tupleV_l, gCallV_eq, gLend_eq, isNotBV_b, gRep_eq, repR_r, gZip_eq, zipR_t, zipR_l, gTry_eq, tryK_nx, tryK_ret, begin_eq, allR_nx, allR_ret, allR_exc, gSkip_eq, gSeq_eq, seqK_nx, seqK_ret, seqK_exc, toS_ok, toS_exc, toST_ok, toST_exc, toSL_ok, toSL_exc, gRet_eq, gAsg_eq, gSet_eq, gExpr_eq, gIfS_eq, gRaise_eq, gBin_eq, gUn_eq, gVar_eq, slotR_some, gC_eq, gArgs_nil, gArgs_cons, gTupE_eq, gLstE_eq, gNewE_eq, gCall_eq, gBi_eq, gB_eq, asB_bl, gAnd_eq, gOr_eq, gNot_eq, gVT_eq, gIf_eq, gChain_eq, chK_t, chK_f, chK_b, bnd_ok, bnd_exc, oo_some, gTo_eq, toK_some, tgName_eq, tgNil_eq, tgCons_eq, tgTup_eq, bind_some, gPar_eq, gCat_eq, catR_r, listV_t, listV_l, blsOf_nil, blsOf_cons, allV_l, isNV_d, notNV_d, parK_ok, parK_exc, gStore_eq, stK_some, gMeth_eq, gFor_eq, gRng1_eq, asI_i, gItL_eq, gItT_eq, asLst_l, asTup_t, addV_ii, subV_ii, mulV_ii, fdivV_ii, modV_ii, shlV_ii, pw6, pw9, pw18, pw19, pw20, pw25, pw30, pw39, ltV_ii, leV_ii, gtV_ii, geV_ii, negV_i, isNV_n, isNV_t, isNV_l, isNV_i, isNV_s, isNV_r, isNV_b, notNV_n, notNV_t, notNV_l, notNV_i, notNV_s, notNV_r, notNV_b, ixV_t, ixV_l, ixV_r, lenV_t, lenV_l, lenV_r, absV_i, max2V_ii, min2V_ii, bitsV_i, setIV_r, setK_some, setL_some, appendM_r, appK_some, appN_ok, isT_r, isK_l, lstK_some, tyK_l, isT_s, isiV_eq, tyN_int, tyN_bl, tyN_non, tyN_str, tyN_tup, tyN_lst, tyN_dct, tyN_r, kk_int_bool, kitK_t, kk_int_str, kk_int_tuple, kk_int_list, kk_int_dict, kk_int_NoneType, kk_bool_int, kk_bool_str, kk_bool_tuple, kk_bool_list, kk_bool_dict, kk_bool_NoneType, kk_str_int, kk_str_bool, kk_str_tuple, kk_str_list, kk_str_dict, kk_str_NoneType, kk_tuple_int, kk_tuple_bool, kk_tuple_str, kk_tuple_list, kk_tuple_dict, kk_tuple_NoneType, kk_list_int, kk_list_bool, kk_list_str, kk_list_tuple, kk_list_dict, kk_list_NoneType, kk_dict_int, kk_dict_bool, kk_dict_str, kk_dict_tuple, kk_dict_list, kk_dict_NoneType, eqV_int, neV_int, isBV_b, neV_bl, eqV_bl, eqV_ii, neV_ii, isNV_fr, notNV_fr, ixV_fr0, ixV_fr1, eqV_fr, neV_fr, int1V_b, int1V_i, ixV_hp0, ixV_hp1, isNV_hp, eqV_hp, neV_hp, tyN_fr, lenV_fr, at0, at1, at2, at3, at4, at5, ixN0, ixN1, List.map_cons, List.map_nil, List.replicate, List.cons_append, List.nil_append, List.getElem?_cons_zero, List.getElem?_cons_succ, List.set_cons_zero, List.set_cons_succ, Bool.not_true, Bool.not_false, Bool.false_eq_true, if_true, if_false, ite_true, ite_false, reduceIte, Nat.reduceSub, Nat.reduceAdd, ne_eq, Int.cast_ofNat_Int, Int.reduceBEq, Int.reduceLT, Int.reduceLE, Int.reduceEq, Int.reduceNeg, Int.reduceMul, Int.reduceAdd, Int.reduceSub, decide_true, decide_false, List.length_cons, List.length_nil, beq_self_eq_true, not_false_eq_true, not_true_eq_false, fr, m1, m2, m3, e]

noncomputable def g_own_along (F_is_way : Fn) (F_plus : Fn) (F_own_time : Fn) : GS :=
  (gSeq (gIfS (gNot (gB (gCall F_is_way [(gVar 0)]))) (gRaise "NoStep") gSkip)
  (gSeq (gSet 1 (gC (.tup [(.int 0), (.int 1)])))
  (gSeq (gFor (gRng2 (gC (.int 1)) (gBi lenV [(gVar 0)])) (tgName 2) (gSet 1 (gCall F_plus [(gVar 1), (gCall F_own_time [(gBin ixV (gVar 0) (gBin subV (gVar 2) (gC (.int 1)))), (gBin ixV (gVar 0) (gVar 2))])])))
  (gRet (gVar 1)))))
noncomputable def F_own_along : Fn := fun xs st => allR (g_own_along F_is_way F_plus F_own_time (begin 3 1 xs) st)
/-- the sum of own times from the i-th step on -/
noncomputable def sumO (hs : List (Rat × Rat)) : Nat → Nat → Rat → Option Rat
  | _, 0, acc => some acc
  | i, m + 1, acc => match rootQ (oq (gh hs i) (gh hs (i + 1))) with
    | none => none
    | some o => sumO hs (i + 1) m (acc + o)
/-- what is told of its own times' sizes -/
def SB (hs : List (Rat × Rat)) : Prop := ∀ i o, i + 1 < hs.length → rootQ (oq (gh hs i) (gh hs (i + 1))) = some o → RS (if i + 2 < hs.length then 40 else 3300) o
theorem rng_s (lo : Nat) (n : Nat) : rng (lo : Int) (n + 1) = .int (lo : Int) :: rng ((lo + 1 : Nat) : Int) n := by
  unfold rng
  rw [List.range_succ_eq_map, List.map_cons, List.map_map]
  have h : List.map ((fun k : Nat => PV.int ((lo : Int) + k)) ∘ Nat.succ) (List.range n) = List.map (fun k : Nat => PV.int (((lo + 1 : Nat) : Int) + k)) (List.range n) := by
    refine List.map_congr_left fun k _ => ?_
    show PV.int ((lo : Int) + ((k + 1 : Nat) : Int)) = PV.int (((lo + 1 : Nat) : Int) + (k : Int))
    congr 1
    omega
  rw [h]
  simp
theorem forg_c {t : PV → REnv → Option REnv} {b : GS} {x : PV} {xs : List PV} {ρ ρ1 : REnv} {st : List SO} (h : t x ρ = some ρ1) : forg t b (x :: xs) ρ st = (match b ρ1 st with
      | .nx ρ2 st2 => forg t b xs ρ2 st2
      | r => r) := by
  show (match t x ρ with | some ρ1 => (match b ρ1 st with | .nx ρ2 st2 => forg t b xs ρ2 st2 | r => r) | none => .bad) = _
  rw [h]
theorem lat_at {hs : List (Rat × Rat)} (h : allLat hs = true) {i : Nat} (hi : i + 1 < hs.length) : lat (gh hs i) (gh hs (i + 1)) = true := by
  unfold allLat at h
  exact List.all_eq_true.mp h _ (List.mem_map.mpr ⟨i, List.mem_range.mpr (by omega), rfl⟩)
theorem along_loop {n : Nat} {hs : List (Rat × Rat)} {st : List SO} (hr : ∀ h ∈ hs, HR n h) (hn : n ≤ 400) (l : allLat hs = true) (B : SB hs) (h12 : hs.length ≤ 12) : ∀ (m i : Nat) (acc : Rat) (x : Option PV), i + m + 1 = hs.length → RS (50 * i + 1) acc →
    (∃ s ρ', sumO hs i m acc = some s ∧ (RS 4000 s) ∧ forg (tgName 2) (gSet 1 (gCall F_plus [(gVar 1), (gCall F_own_time [(gBin ixV (gVar 0) (gBin subV (gVar 2) (gC (.int 1)))), (gBin ixV (gVar 0) (gVar 2))])])) (rng ((i + 1 : Nat) : Int) m) [some (.lst (hs.map hq)), some (fr acc), x] st = .nx [some (.lst (hs.map hq)), some (fr s), ρ'] st) ∨
    (sumO hs i m acc = none ∧ ∃ ρ', forg (tgName 2) (gSet 1 (gCall F_plus [(gVar 1), (gCall F_own_time [(gBin ixV (gVar 0) (gBin subV (gVar 2) (gC (.int 1)))), (gBin ixV (gVar 0) (gVar 2))])])) (rng ((i + 1 : Nat) : Int) m) [some (.lst (hs.map hq)), some (fr acc), x] st = .exc "NotPlain" ρ' st)
  | 0, i, acc, x, hl, ra => .inl ⟨acc, x, rfl, ra.mono (by omega), rfl⟩
  | m + 1, i, acc, x, hl, ra => by
    have e1 : (((i + 1 : Nat) : Int)) - 1 = ((i : Nat) : Int) := by omega
    have a1 : atI (hs.map hq) ((i : Nat) : Int) = some (hq (gh hs i)) := atN (gh_at (by omega))
    have a2 : atI (hs.map hq) ((i + 1 : Nat) : Int) = some (hq (gh hs (i + 1))) := atN (gh_at (by omega))
    have ha := hr _ (gh_mem (i := i) (by omega))
    have hb := hr _ (gh_mem (i := i + 1) (by omega))
    have lt := lat_at l (i := i) (by omega)
    rw [rng_s, forg_c (ρ1 := [some (.lst (hs.map hq)), some (fr acc), some (.int ((i + 1 : Nat) : Int))]) rfl]
    unfold sumO
    have bd := B i
    generalize ((i + 1 : Nat) : Int) = I at *
    cases ho : rootQ (oq (gh hs i) (gh hs (i + 1))) with
    | none =>
      have f1 := owntime_pl (st := st) ha hb hn lt ho
      refine .inr ⟨rfl, [some (.lst (hs.map hq)), some (fr acc), some (.int I)], ?_⟩
      simp only [gSlN_eq, slN_r, slN_l, slNK_s, gRevN_eq, revN_r, revNK_s, tupleV_r, tupleV_l, gCallV_eq, gLend_eq, isNotBV_b, gRep_eq, repR_r, gZip_eq, zipR_t, zipR_l, gTry_eq, tryK_nx, tryK_ret, begin_eq, allR_nx, allR_ret, allR_exc, gSkip_eq, gSeq_eq, seqK_nx, seqK_ret, seqK_exc, toS_ok, toS_exc, toST_ok, toST_exc, toSL_ok, toSL_exc, gRet_eq, gAsg_eq, gSet_eq, gExpr_eq, gIfS_eq, gRaise_eq, gBin_eq, gUn_eq, gVar_eq, slotR_some, gC_eq, gArgs_nil, gArgs_cons, gTupE_eq, gLstE_eq, gNewE_eq, gCall_eq, gBi_eq, gB_eq, asB_bl, gAnd_eq, gOr_eq, gNot_eq, gVT_eq, gIf_eq, gChain_eq, chK_t, chK_f, chK_b, bnd_ok, bnd_exc, oo_some, gTo_eq, toK_some, tgName_eq, tgNil_eq, tgCons_eq, tgTup_eq, bind_some, gPar_eq, gCat_eq, catR_r, listV_t, listV_l, blsOf_nil, blsOf_cons, allV_l, isNV_d, notNV_d, parK_ok, parK_exc, gStore_eq, stK_some, gMeth_eq, gFor_eq, gRng1_eq, asI_i, gItL_eq, gItT_eq, asLst_l, asTup_t, addV_ii, subV_ii, mulV_ii, fdivV_ii, modV_ii, shlV_ii, pw6, pw9, pw18, pw19, pw20, pw25, pw30, pw39, ltV_ii, leV_ii, gtV_ii, geV_ii, negV_i, isNV_n, isNV_t, isNV_l, isNV_i, isNV_s, isNV_r, isNV_b, notNV_n, notNV_t, notNV_l, notNV_i, notNV_s, notNV_r, notNV_b, ixV_t, ixV_l, ixV_r, lenV_t, lenV_l, lenV_r, absV_i, max2V_ii, min2V_ii, bitsV_i, setIV_r, setK_some, setL_some, appendM_r, appK_some, appN_ok, isT_r, isK_l, lstK_some, tyK_l, isT_s, isiV_eq, tyN_int, tyN_bl, tyN_non, tyN_str, tyN_tup, tyN_lst, tyN_dct, tyN_r, kk_int_bool, kitK_t, kk_int_str, kk_int_tuple, kk_int_list, kk_int_dict, kk_int_NoneType, kk_bool_int, kk_bool_str, kk_bool_tuple, kk_bool_list, kk_bool_dict, kk_bool_NoneType, kk_str_int, kk_str_bool, kk_str_tuple, kk_str_list, kk_str_dict, kk_str_NoneType, kk_tuple_int, kk_tuple_bool, kk_tuple_str, kk_tuple_list, kk_tuple_dict, kk_tuple_NoneType, kk_list_int, kk_list_bool, kk_list_str, kk_list_tuple, kk_list_dict, kk_list_NoneType, kk_dict_int, kk_dict_bool, kk_dict_str, kk_dict_tuple, kk_dict_list, kk_dict_NoneType, eqV_int, neV_int, isBV_b, neV_bl, eqV_bl, eqV_ii, neV_ii, isNV_fr, notNV_fr, ixV_fr0, ixV_fr1, eqV_fr, neV_fr, int1V_b, int1V_i, ixV_hp0, ixV_hp1, isNV_hp, eqV_hp, neV_hp, tyN_fr, lenV_fr, at0, at1, at2, at3, at4, at5, ixN0, ixN1, List.map_cons, List.map_nil, List.replicate, List.cons_append, List.nil_append, List.getElem?_cons_zero, List.getElem?_cons_succ, List.set_cons_zero, List.set_cons_succ, Bool.not_true, Bool.not_false, Bool.false_eq_true, if_true, if_false, ite_true, ite_false, reduceIte, Nat.reduceSub, Nat.reduceAdd, ne_eq, Int.cast_ofNat_Int, Int.reduceBEq, Int.reduceLT, Int.reduceLE, Int.reduceEq, Int.reduceNeg, Int.reduceMul, Int.reduceAdd, Int.reduceSub, decide_true, decide_false, List.length_cons, List.length_nil, beq_self_eq_true, not_false_eq_true, not_true_eq_false, e1, a1, a2, f1]
    | some o =>
      have f1 := owntime_ok (st := st) ha hb hn lt ho
      have ro := bd o (by omega) ho
      by_cases last : i + 2 < hs.length
      · rw [if_pos last] at ro
        have f2 := plus_as (st := st) ra ro (by omega)
        have step : gSet 1 (gCall F_plus [(gVar 1), (gCall F_own_time [(gBin ixV (gVar 0) (gBin subV (gVar 2) (gC (.int 1)))), (gBin ixV (gVar 0) (gVar 2))])]) [some (.lst (hs.map hq)), some (fr acc), some (.int I)] st = .nx [some (.lst (hs.map hq)), some (fr (acc + o)), some (.int I)] st := by
          simp only [gSlN_eq, slN_r, slN_l, slNK_s, gRevN_eq, revN_r, revNK_s, tupleV_r, tupleV_l, gCallV_eq, gLend_eq, isNotBV_b, gRep_eq, repR_r, gZip_eq, zipR_t, zipR_l, gTry_eq, tryK_nx, tryK_ret, begin_eq, allR_nx, allR_ret, allR_exc, gSkip_eq, gSeq_eq, seqK_nx, seqK_ret, seqK_exc, toS_ok, toS_exc, toST_ok, toST_exc, toSL_ok, toSL_exc, gRet_eq, gAsg_eq, gSet_eq, gExpr_eq, gIfS_eq, gRaise_eq, gBin_eq, gUn_eq, gVar_eq, slotR_some, gC_eq, gArgs_nil, gArgs_cons, gTupE_eq, gLstE_eq, gNewE_eq, gCall_eq, gBi_eq, gB_eq, asB_bl, gAnd_eq, gOr_eq, gNot_eq, gVT_eq, gIf_eq, gChain_eq, chK_t, chK_f, chK_b, bnd_ok, bnd_exc, oo_some, gTo_eq, toK_some, tgName_eq, tgNil_eq, tgCons_eq, tgTup_eq, bind_some, gPar_eq, gCat_eq, catR_r, listV_t, listV_l, blsOf_nil, blsOf_cons, allV_l, isNV_d, notNV_d, parK_ok, parK_exc, gStore_eq, stK_some, gMeth_eq, gFor_eq, gRng1_eq, asI_i, gItL_eq, gItT_eq, asLst_l, asTup_t, addV_ii, subV_ii, mulV_ii, fdivV_ii, modV_ii, shlV_ii, pw6, pw9, pw18, pw19, pw20, pw25, pw30, pw39, ltV_ii, leV_ii, gtV_ii, geV_ii, negV_i, isNV_n, isNV_t, isNV_l, isNV_i, isNV_s, isNV_r, isNV_b, notNV_n, notNV_t, notNV_l, notNV_i, notNV_s, notNV_r, notNV_b, ixV_t, ixV_l, ixV_r, lenV_t, lenV_l, lenV_r, absV_i, max2V_ii, min2V_ii, bitsV_i, setIV_r, setK_some, setL_some, appendM_r, appK_some, appN_ok, isT_r, isK_l, lstK_some, tyK_l, isT_s, isiV_eq, tyN_int, tyN_bl, tyN_non, tyN_str, tyN_tup, tyN_lst, tyN_dct, tyN_r, kk_int_bool, kitK_t, kk_int_str, kk_int_tuple, kk_int_list, kk_int_dict, kk_int_NoneType, kk_bool_int, kk_bool_str, kk_bool_tuple, kk_bool_list, kk_bool_dict, kk_bool_NoneType, kk_str_int, kk_str_bool, kk_str_tuple, kk_str_list, kk_str_dict, kk_str_NoneType, kk_tuple_int, kk_tuple_bool, kk_tuple_str, kk_tuple_list, kk_tuple_dict, kk_tuple_NoneType, kk_list_int, kk_list_bool, kk_list_str, kk_list_tuple, kk_list_dict, kk_list_NoneType, kk_dict_int, kk_dict_bool, kk_dict_str, kk_dict_tuple, kk_dict_list, kk_dict_NoneType, eqV_int, neV_int, isBV_b, neV_bl, eqV_bl, eqV_ii, neV_ii, isNV_fr, notNV_fr, ixV_fr0, ixV_fr1, eqV_fr, neV_fr, int1V_b, int1V_i, ixV_hp0, ixV_hp1, isNV_hp, eqV_hp, neV_hp, tyN_fr, lenV_fr, at0, at1, at2, at3, at4, at5, ixN0, ixN1, List.map_cons, List.map_nil, List.replicate, List.cons_append, List.nil_append, List.getElem?_cons_zero, List.getElem?_cons_succ, List.set_cons_zero, List.set_cons_succ, Bool.not_true, Bool.not_false, Bool.false_eq_true, if_true, if_false, ite_true, ite_false, reduceIte, Nat.reduceSub, Nat.reduceAdd, ne_eq, Int.cast_ofNat_Int, Int.reduceBEq, Int.reduceLT, Int.reduceLE, Int.reduceEq, Int.reduceNeg, Int.reduceMul, Int.reduceAdd, Int.reduceSub, decide_true, decide_false, List.length_cons, List.length_nil, beq_self_eq_true, not_false_eq_true, not_true_eq_false, e1, a1, a2, f1, f2]
        rw [step]
        exact along_loop hr hn l B h12 m (i + 1) (acc + o) (some (.int I)) (by omega) ((ra.add ro).mono (by omega))
      · rw [if_neg last] at ro
        have f2 := plus_as (st := st) ra ro (by omega)
        have step : gSet 1 (gCall F_plus [(gVar 1), (gCall F_own_time [(gBin ixV (gVar 0) (gBin subV (gVar 2) (gC (.int 1)))), (gBin ixV (gVar 0) (gVar 2))])]) [some (.lst (hs.map hq)), some (fr acc), some (.int I)] st = .nx [some (.lst (hs.map hq)), some (fr (acc + o)), some (.int I)] st := by
          simp only [gSlN_eq, slN_r, slN_l, slNK_s, gRevN_eq, revN_r, revNK_s, tupleV_r, tupleV_l, gCallV_eq, gLend_eq, isNotBV_b, gRep_eq, repR_r, gZip_eq, zipR_t, zipR_l, gTry_eq, tryK_nx, tryK_ret, begin_eq, allR_nx, allR_ret, allR_exc, gSkip_eq, gSeq_eq, seqK_nx, seqK_ret, seqK_exc, toS_ok, toS_exc, toST_ok, toST_exc, toSL_ok, toSL_exc, gRet_eq, gAsg_eq, gSet_eq, gExpr_eq, gIfS_eq, gRaise_eq, gBin_eq, gUn_eq, gVar_eq, slotR_some, gC_eq, gArgs_nil, gArgs_cons, gTupE_eq, gLstE_eq, gNewE_eq, gCall_eq, gBi_eq, gB_eq, asB_bl, gAnd_eq, gOr_eq, gNot_eq, gVT_eq, gIf_eq, gChain_eq, chK_t, chK_f, chK_b, bnd_ok, bnd_exc, oo_some, gTo_eq, toK_some, tgName_eq, tgNil_eq, tgCons_eq, tgTup_eq, bind_some, gPar_eq, gCat_eq, catR_r, listV_t, listV_l, blsOf_nil, blsOf_cons, allV_l, isNV_d, notNV_d, parK_ok, parK_exc, gStore_eq, stK_some, gMeth_eq, gFor_eq, gRng1_eq, asI_i, gItL_eq, gItT_eq, asLst_l, asTup_t, addV_ii, subV_ii, mulV_ii, fdivV_ii, modV_ii, shlV_ii, pw6, pw9, pw18, pw19, pw20, pw25, pw30, pw39, ltV_ii, leV_ii, gtV_ii, geV_ii, negV_i, isNV_n, isNV_t, isNV_l, isNV_i, isNV_s, isNV_r, isNV_b, notNV_n, notNV_t, notNV_l, notNV_i, notNV_s, notNV_r, notNV_b, ixV_t, ixV_l, ixV_r, lenV_t, lenV_l, lenV_r, absV_i, max2V_ii, min2V_ii, bitsV_i, setIV_r, setK_some, setL_some, appendM_r, appK_some, appN_ok, isT_r, isK_l, lstK_some, tyK_l, isT_s, isiV_eq, tyN_int, tyN_bl, tyN_non, tyN_str, tyN_tup, tyN_lst, tyN_dct, tyN_r, kk_int_bool, kitK_t, kk_int_str, kk_int_tuple, kk_int_list, kk_int_dict, kk_int_NoneType, kk_bool_int, kk_bool_str, kk_bool_tuple, kk_bool_list, kk_bool_dict, kk_bool_NoneType, kk_str_int, kk_str_bool, kk_str_tuple, kk_str_list, kk_str_dict, kk_str_NoneType, kk_tuple_int, kk_tuple_bool, kk_tuple_str, kk_tuple_list, kk_tuple_dict, kk_tuple_NoneType, kk_list_int, kk_list_bool, kk_list_str, kk_list_tuple, kk_list_dict, kk_list_NoneType, kk_dict_int, kk_dict_bool, kk_dict_str, kk_dict_tuple, kk_dict_list, kk_dict_NoneType, eqV_int, neV_int, isBV_b, neV_bl, eqV_bl, eqV_ii, neV_ii, isNV_fr, notNV_fr, ixV_fr0, ixV_fr1, eqV_fr, neV_fr, int1V_b, int1V_i, ixV_hp0, ixV_hp1, isNV_hp, eqV_hp, neV_hp, tyN_fr, lenV_fr, at0, at1, at2, at3, at4, at5, ixN0, ixN1, List.map_cons, List.map_nil, List.replicate, List.cons_append, List.nil_append, List.getElem?_cons_zero, List.getElem?_cons_succ, List.set_cons_zero, List.set_cons_succ, Bool.not_true, Bool.not_false, Bool.false_eq_true, if_true, if_false, ite_true, ite_false, reduceIte, Nat.reduceSub, Nat.reduceAdd, ne_eq, Int.cast_ofNat_Int, Int.reduceBEq, Int.reduceLT, Int.reduceLE, Int.reduceEq, Int.reduceNeg, Int.reduceMul, Int.reduceAdd, Int.reduceSub, decide_true, decide_false, List.length_cons, List.length_nil, beq_self_eq_true, not_false_eq_true, not_true_eq_false, e1, a1, a2, f1, f2]
        rw [step]
        have hm : m = 0 := by omega
        subst hm
        exact .inl ⟨acc + o, some (.int I), rfl, (ra.add ro).mono (by omega), rfl⟩
open Classical in
theorem rng2_way {hs : List (Rat × Rat)} {a b : Option PV} {st : List SO} (h1 : 1 ≤ hs.length) (h2 : hs.length ≤ 13) : gRng2 (gC (.int 1)) (gBi lenV [(gVar 0)]) [some (.lst (hs.map hq)), a, b] st = .ok (rng ((0 + 1 : Nat) : Int) (hs.length - 1)) st := by
  have len : (hs.map hq).length = hs.length := List.length_map ..
  have e : (((hs.map hq).length : Int) - 1).toNat = hs.length - 1 := by omega
  have r1 : RngOk 1 := by unfold RngOk; omega
  have r2 : RngOk ((hs.map hq).length : Int) := by unfold RngOk; omega
  show (if RngOk 1 ∧ RngOk ((hs.map hq).length : Int) then Res.ok (rng 1 (((hs.map hq).length : Int) - 1).toNat) st else .bad) = _
  rw [if_pos ⟨r1, r2⟩, e]
  rfl
theorem ownalong_bad {x : PV} {st : List SO} (h : F_is_way [x] st = .ok (.bl false) st) : F_own_along [x] st = .exc "NoStep" st := by
  simp only [F_own_along, g_own_along, gSlN_eq, slN_r, slN_l, slNK_s, gRevN_eq, revN_r, revNK_s, tupleV_r, tupleV_l, gCallV_eq, gLend_eq, isNotBV_b, gRep_eq, repR_r, gZip_eq, zipR_t, zipR_l, gTry_eq, tryK_nx, tryK_ret, begin_eq, allR_nx, allR_ret, allR_exc, gSkip_eq, gSeq_eq, seqK_nx, seqK_ret, seqK_exc, toS_ok, toS_exc, toST_ok, toST_exc, toSL_ok, toSL_exc, gRet_eq, gAsg_eq, gSet_eq, gExpr_eq, gIfS_eq, gRaise_eq, gBin_eq, gUn_eq, gVar_eq, slotR_some, gC_eq, gArgs_nil, gArgs_cons, gTupE_eq, gLstE_eq, gNewE_eq, gCall_eq, gBi_eq, gB_eq, asB_bl, gAnd_eq, gOr_eq, gNot_eq, gVT_eq, gIf_eq, gChain_eq, chK_t, chK_f, chK_b, bnd_ok, bnd_exc, oo_some, gTo_eq, toK_some, tgName_eq, tgNil_eq, tgCons_eq, tgTup_eq, bind_some, gPar_eq, gCat_eq, catR_r, listV_t, listV_l, blsOf_nil, blsOf_cons, allV_l, isNV_d, notNV_d, parK_ok, parK_exc, gStore_eq, stK_some, gMeth_eq, gFor_eq, gRng1_eq, asI_i, gItL_eq, gItT_eq, asLst_l, asTup_t, addV_ii, subV_ii, mulV_ii, fdivV_ii, modV_ii, shlV_ii, pw6, pw9, pw18, pw19, pw20, pw25, pw30, pw39, ltV_ii, leV_ii, gtV_ii, geV_ii, negV_i, isNV_n, isNV_t, isNV_l, isNV_i, isNV_s, isNV_r, isNV_b, notNV_n, notNV_t, notNV_l, notNV_i, notNV_s, notNV_r, notNV_b, ixV_t, ixV_l, ixV_r, lenV_t, lenV_l, lenV_r, absV_i, max2V_ii, min2V_ii, bitsV_i, setIV_r, setK_some, setL_some, appendM_r, appK_some, appN_ok, isT_r, isK_l, lstK_some, tyK_l, isT_s, isiV_eq, tyN_int, tyN_bl, tyN_non, tyN_str, tyN_tup, tyN_lst, tyN_dct, tyN_r, kk_int_bool, kitK_t, kk_int_str, kk_int_tuple, kk_int_list, kk_int_dict, kk_int_NoneType, kk_bool_int, kk_bool_str, kk_bool_tuple, kk_bool_list, kk_bool_dict, kk_bool_NoneType, kk_str_int, kk_str_bool, kk_str_tuple, kk_str_list, kk_str_dict, kk_str_NoneType, kk_tuple_int, kk_tuple_bool, kk_tuple_str, kk_tuple_list, kk_tuple_dict, kk_tuple_NoneType, kk_list_int, kk_list_bool, kk_list_str, kk_list_tuple, kk_list_dict, kk_list_NoneType, kk_dict_int, kk_dict_bool, kk_dict_str, kk_dict_tuple, kk_dict_list, kk_dict_NoneType, eqV_int, neV_int, isBV_b, neV_bl, eqV_bl, eqV_ii, neV_ii, isNV_fr, notNV_fr, ixV_fr0, ixV_fr1, eqV_fr, neV_fr, int1V_b, int1V_i, ixV_hp0, ixV_hp1, isNV_hp, eqV_hp, neV_hp, tyN_fr, lenV_fr, at0, at1, at2, at3, at4, at5, ixN0, ixN1, List.map_cons, List.map_nil, List.replicate, List.cons_append, List.nil_append, List.getElem?_cons_zero, List.getElem?_cons_succ, List.set_cons_zero, List.set_cons_succ, Bool.not_true, Bool.not_false, Bool.false_eq_true, if_true, if_false, ite_true, ite_false, reduceIte, Nat.reduceSub, Nat.reduceAdd, ne_eq, Int.cast_ofNat_Int, Int.reduceBEq, Int.reduceLT, Int.reduceLE, Int.reduceEq, Int.reduceNeg, Int.reduceMul, Int.reduceAdd, Int.reduceSub, decide_true, decide_false, List.length_cons, List.length_nil, beq_self_eq_true, not_false_eq_true, not_true_eq_false, h]
theorem ownalong_ok {n : Nat} {hs : List (Rat × Rat)} {st : List SO} (h1 : 2 ≤ hs.length) (h2 : hs.length ≤ 12) (hr : ∀ h ∈ hs, HR n h) (hn : n ≤ 400) (l : allLat hs = true) (B : SB hs) :
    (∃ s, sumO hs 0 (hs.length - 1) 0 = some s ∧ RS 4000 s ∧ F_own_along [.lst (hs.map hq)] st = .ok (fr s) st) ∨ (sumO hs 0 (hs.length - 1) 0 = none ∧ F_own_along [.lst (hs.map hq)] st = .exc "NotPlain" st) := by
  have e1 := isway_ok (st := st) h1 h2 hr hn
  rw [l] at e1
  have it := rng2_way (hs := hs) (a := some (fr 0)) (b := none) (st := st) (by omega) (by omega)
  have e01 : PV.tup [.int 0, .int 1] = fr 0 := rfl
  rcases along_loop (st := st) hr hn l B h2 (hs.length - 1) 0 0 none (by omega) (rs0 (RS_1 (n := 1) (by omega))) with ⟨s, ρ', a1, a2, a3⟩ | ⟨a1, ρ', a3⟩
  · refine .inl ⟨s, a1, a2, ?_⟩
    have g : gFor (gRng2 (gC (.int 1)) (gBi lenV [(gVar 0)])) (tgName 2) (gSet 1 (gCall F_plus [(gVar 1), (gCall F_own_time [(gBin ixV (gVar 0) (gBin subV (gVar 2) (gC (.int 1)))), (gBin ixV (gVar 0) (gVar 2))])])) [some (.lst (hs.map hq)), some (fr 0), none] st = .nx [some (.lst (hs.map hq)), some (fr s), ρ'] st := by
      rw [gFor_eq, it, toSL_ok]; exact a3
    unfold F_own_along g_own_along
    generalize gFor (gRng2 (gC (.int 1)) (gBi lenV [(gVar 0)])) (tgName 2) (gSet 1 (gCall F_plus [(gVar 1), (gCall F_own_time [(gBin ixV (gVar 0) (gBin subV (gVar 2) (gC (.int 1)))), (gBin ixV (gVar 0) (gVar 2))])])) = GF at *
    simp only [gSlN_eq, slN_r, slN_l, slNK_s, gRevN_eq, revN_r, revNK_s, tupleV_r, tupleV_l, gCallV_eq, gLend_eq, isNotBV_b, gRep_eq, repR_r, gZip_eq, zipR_t, zipR_l, gTry_eq, tryK_nx, tryK_ret, begin_eq, allR_nx, allR_ret, allR_exc, gSkip_eq, gSeq_eq, seqK_nx, seqK_ret, seqK_exc, toS_ok, toS_exc, toST_ok, toST_exc, toSL_ok, toSL_exc, gRet_eq, gAsg_eq, gSet_eq, gExpr_eq, gIfS_eq, gRaise_eq, gBin_eq, gUn_eq, gVar_eq, slotR_some, gC_eq, gArgs_nil, gArgs_cons, gTupE_eq, gLstE_eq, gNewE_eq, gCall_eq, gBi_eq, gB_eq, asB_bl, gAnd_eq, gOr_eq, gNot_eq, gVT_eq, gIf_eq, gChain_eq, chK_t, chK_f, chK_b, bnd_ok, bnd_exc, oo_some, gTo_eq, toK_some, tgName_eq, tgNil_eq, tgCons_eq, tgTup_eq, bind_some, gPar_eq, gCat_eq, catR_r, listV_t, listV_l, blsOf_nil, blsOf_cons, allV_l, isNV_d, notNV_d, parK_ok, parK_exc, gStore_eq, stK_some, gMeth_eq, gFor_eq, gRng1_eq, asI_i, gItL_eq, gItT_eq, asLst_l, asTup_t, addV_ii, subV_ii, mulV_ii, fdivV_ii, modV_ii, shlV_ii, pw6, pw9, pw18, pw19, pw20, pw25, pw30, pw39, ltV_ii, leV_ii, gtV_ii, geV_ii, negV_i, isNV_n, isNV_t, isNV_l, isNV_i, isNV_s, isNV_r, isNV_b, notNV_n, notNV_t, notNV_l, notNV_i, notNV_s, notNV_r, notNV_b, ixV_t, ixV_l, ixV_r, lenV_t, lenV_l, lenV_r, absV_i, max2V_ii, min2V_ii, bitsV_i, setIV_r, setK_some, setL_some, appendM_r, appK_some, appN_ok, isT_r, isK_l, lstK_some, tyK_l, isT_s, isiV_eq, tyN_int, tyN_bl, tyN_non, tyN_str, tyN_tup, tyN_lst, tyN_dct, tyN_r, kk_int_bool, kitK_t, kk_int_str, kk_int_tuple, kk_int_list, kk_int_dict, kk_int_NoneType, kk_bool_int, kk_bool_str, kk_bool_tuple, kk_bool_list, kk_bool_dict, kk_bool_NoneType, kk_str_int, kk_str_bool, kk_str_tuple, kk_str_list, kk_str_dict, kk_str_NoneType, kk_tuple_int, kk_tuple_bool, kk_tuple_str, kk_tuple_list, kk_tuple_dict, kk_tuple_NoneType, kk_list_int, kk_list_bool, kk_list_str, kk_list_tuple, kk_list_dict, kk_list_NoneType, kk_dict_int, kk_dict_bool, kk_dict_str, kk_dict_tuple, kk_dict_list, kk_dict_NoneType, eqV_int, neV_int, isBV_b, neV_bl, eqV_bl, eqV_ii, neV_ii, isNV_fr, notNV_fr, ixV_fr0, ixV_fr1, eqV_fr, neV_fr, int1V_b, int1V_i, ixV_hp0, ixV_hp1, isNV_hp, eqV_hp, neV_hp, tyN_fr, lenV_fr, at0, at1, at2, at3, at4, at5, ixN0, ixN1, List.map_cons, List.map_nil, List.replicate, List.cons_append, List.nil_append, List.getElem?_cons_zero, List.getElem?_cons_succ, List.set_cons_zero, List.set_cons_succ, Bool.not_true, Bool.not_false, Bool.false_eq_true, if_true, if_false, ite_true, ite_false, reduceIte, Nat.reduceSub, Nat.reduceAdd, ne_eq, Int.cast_ofNat_Int, Int.reduceBEq, Int.reduceLT, Int.reduceLE, Int.reduceEq, Int.reduceNeg, Int.reduceMul, Int.reduceAdd, Int.reduceSub, decide_true, decide_false, List.length_cons, List.length_nil, beq_self_eq_true, not_false_eq_true, not_true_eq_false, e1, e01, g]
  · refine .inr ⟨a1, ?_⟩
    have g : gFor (gRng2 (gC (.int 1)) (gBi lenV [(gVar 0)])) (tgName 2) (gSet 1 (gCall F_plus [(gVar 1), (gCall F_own_time [(gBin ixV (gVar 0) (gBin subV (gVar 2) (gC (.int 1)))), (gBin ixV (gVar 0) (gVar 2))])])) [some (.lst (hs.map hq)), some (fr 0), none] st = .exc "NotPlain" ρ' st := by
      rw [gFor_eq, it, toSL_ok]; exact a3
    unfold F_own_along g_own_along
    generalize gFor (gRng2 (gC (.int 1)) (gBi lenV [(gVar 0)])) (tgName 2) (gSet 1 (gCall F_plus [(gVar 1), (gCall F_own_time [(gBin ixV (gVar 0) (gBin subV (gVar 2) (gC (.int 1)))), (gBin ixV (gVar 0) (gVar 2))])])) = GF at *
    simp only [gSlN_eq, slN_r, slN_l, slNK_s, gRevN_eq, revN_r, revNK_s, tupleV_r, tupleV_l, gCallV_eq, gLend_eq, isNotBV_b, gRep_eq, repR_r, gZip_eq, zipR_t, zipR_l, gTry_eq, tryK_nx, tryK_ret, begin_eq, allR_nx, allR_ret, allR_exc, gSkip_eq, gSeq_eq, seqK_nx, seqK_ret, seqK_exc, toS_ok, toS_exc, toST_ok, toST_exc, toSL_ok, toSL_exc, gRet_eq, gAsg_eq, gSet_eq, gExpr_eq, gIfS_eq, gRaise_eq, gBin_eq, gUn_eq, gVar_eq, slotR_some, gC_eq, gArgs_nil, gArgs_cons, gTupE_eq, gLstE_eq, gNewE_eq, gCall_eq, gBi_eq, gB_eq, asB_bl, gAnd_eq, gOr_eq, gNot_eq, gVT_eq, gIf_eq, gChain_eq, chK_t, chK_f, chK_b, bnd_ok, bnd_exc, oo_some, gTo_eq, toK_some, tgName_eq, tgNil_eq, tgCons_eq, tgTup_eq, bind_some, gPar_eq, gCat_eq, catR_r, listV_t, listV_l, blsOf_nil, blsOf_cons, allV_l, isNV_d, notNV_d, parK_ok, parK_exc, gStore_eq, stK_some, gMeth_eq, gFor_eq, gRng1_eq, asI_i, gItL_eq, gItT_eq, asLst_l, asTup_t, addV_ii, subV_ii, mulV_ii, fdivV_ii, modV_ii, shlV_ii, pw6, pw9, pw18, pw19, pw20, pw25, pw30, pw39, ltV_ii, leV_ii, gtV_ii, geV_ii, negV_i, isNV_n, isNV_t, isNV_l, isNV_i, isNV_s, isNV_r, isNV_b, notNV_n, notNV_t, notNV_l, notNV_i, notNV_s, notNV_r, notNV_b, ixV_t, ixV_l, ixV_r, lenV_t, lenV_l, lenV_r, absV_i, max2V_ii, min2V_ii, bitsV_i, setIV_r, setK_some, setL_some, appendM_r, appK_some, appN_ok, isT_r, isK_l, lstK_some, tyK_l, isT_s, isiV_eq, tyN_int, tyN_bl, tyN_non, tyN_str, tyN_tup, tyN_lst, tyN_dct, tyN_r, kk_int_bool, kitK_t, kk_int_str, kk_int_tuple, kk_int_list, kk_int_dict, kk_int_NoneType, kk_bool_int, kk_bool_str, kk_bool_tuple, kk_bool_list, kk_bool_dict, kk_bool_NoneType, kk_str_int, kk_str_bool, kk_str_tuple, kk_str_list, kk_str_dict, kk_str_NoneType, kk_tuple_int, kk_tuple_bool, kk_tuple_str, kk_tuple_list, kk_tuple_dict, kk_tuple_NoneType, kk_list_int, kk_list_bool, kk_list_str, kk_list_tuple, kk_list_dict, kk_list_NoneType, kk_dict_int, kk_dict_bool, kk_dict_str, kk_dict_tuple, kk_dict_list, kk_dict_NoneType, eqV_int, neV_int, isBV_b, neV_bl, eqV_bl, eqV_ii, neV_ii, isNV_fr, notNV_fr, ixV_fr0, ixV_fr1, eqV_fr, neV_fr, int1V_b, int1V_i, ixV_hp0, ixV_hp1, isNV_hp, eqV_hp, neV_hp, tyN_fr, lenV_fr, at0, at1, at2, at3, at4, at5, ixN0, ixN1, List.map_cons, List.map_nil, List.replicate, List.cons_append, List.nil_append, List.getElem?_cons_zero, List.getElem?_cons_succ, List.set_cons_zero, List.set_cons_succ, Bool.not_true, Bool.not_false, Bool.false_eq_true, if_true, if_false, ite_true, ite_false, reduceIte, Nat.reduceSub, Nat.reduceAdd, ne_eq, Int.cast_ofNat_Int, Int.reduceBEq, Int.reduceLT, Int.reduceLE, Int.reduceEq, Int.reduceNeg, Int.reduceMul, Int.reduceAdd, Int.reduceSub, decide_true, decide_false, List.length_cons, List.length_nil, beq_self_eq_true, not_false_eq_true, not_true_eq_false, e1, e01, g]

noncomputable def g__law_kind_of (a : Addr) (d : Str) : GS :=
  (gSeq (gSet 1 (gNewE [(gBi (isE a d) [(gVar 0), (gC (.cls "NoDeed"))]), (gBi (isE a d) [(gVar 0), (gC (.cls "NoFlash"))]), (gBi (isE a d) [(gVar 0), (gC (.cls "NoFraction"))]), (gBi (isE a d) [(gVar 0), (gC (.cls "NoHap"))])]))
  (gSeq (gSet 1 (gCat (gVar 1) (gNewE [(gBi (isE a d) [(gVar 0), (gC (.cls "NoHaps"))]), (gBi (isE a d) [(gVar 0), (gC (.cls "NoName"))]), (gBi (isE a d) [(gVar 0), (gC (.cls "NoNumber"))])])))
  (gSeq (gSet 1 (gCat (gVar 1) (gNewE [(gBi (isE a d) [(gVar 0), (gC (.cls "NoOrder"))]), (gBi (isE a d) [(gVar 0), (gC (.cls "NoRod"))]), (gBi (isE a d) [(gVar 0), (gC (.cls "NoRow"))]), (gBi (isE a d) [(gVar 0), (gC (.cls "NoSeat"))])])))
  (gSeq (gSet 1 (gCat (gVar 1) (gNewE [(gBi (isE a d) [(gVar 0), (gC (.cls "NoSpeed"))]), (gBi (isE a d) [(gVar 0), (gC (.cls "NoStep"))]), (gBi (isE a d) [(gVar 0), (gC (.cls "NoStretch"))])])))
  (gSeq (gSet 1 (gCat (gVar 1) (gNewE [(gBi (isE a d) [(gVar 0), (gC (.cls "NoText"))]), (gBi (isE a d) [(gVar 0), (gC (.cls "NotPlain"))]), (gBi (isE a d) [(gVar 0), (gC (.cls "NoWay"))]), (gBi (isE a d) [(gVar 0), (gC (.cls "TooMany"))])])))
  (gSeq (gIfS (gOr (gB (gBin neV (gMeth "list" countM (gVar 1) [(gC (.bl true))]) (gC (.int 1)))) (gNot (gB (gBi (isE a d) [(gVar 0), (gC (.ty "ValueError"))])))) (gRet (gC (.str "other"))) gSkip)
  (gSeq (gSet 2 (gNewE [(gC (.str "deed")), (gC (.str "flash")), (gC (.str "fraction")), (gC (.str "hap")), (gC (.str "haps")), (gC (.str "name")), (gC (.str "number")), (gC (.str "order")), (gC (.str "rod")), (gC (.str "row")), (gC (.str "seat")), (gC (.str "speed"))]))
  (gRet (gBin ixV (gCat (gVar 2) (gNewE [(gC (.str "step")), (gC (.str "stretch")), (gC (.str "text")), (gC (.str "plain")), (gC (.str "way")), (gC (.str "many"))])) (gMeth "list" indexM (gVar 1) [(gC (.bl true))]))))))))))
theorem kinds__law_kind_of : ∀ p ∈ kinds, ((["NoDeed", "NoFlash", "NoFraction", "NoHap", "NoHaps", "NoName", "NoNumber", "NoOrder", "NoRod", "NoRow", "NoSeat", "NoSpeed", "NoStep", "NoStretch", "NoText", "NotPlain", "NoWay", "TooMany"] : List Str).map fun x => decide (x = p.1)).count true = 1 ∧ true ∈ ((["NoDeed", "NoFlash", "NoFraction", "NoHap", "NoHaps", "NoName", "NoNumber", "NoOrder", "NoRod", "NoRow", "NoSeat", "NoSpeed", "NoStep", "NoStretch", "NoText", "NotPlain", "NoWay", "TooMany"] : List Str).map fun x => decide (x = p.1)) ∧ ((["deed", "flash", "fraction", "hap", "haps", "name", "number", "order", "rod", "row", "seat", "speed", "step", "stretch", "text", "plain", "way", "many"] : List Str))[((["NoDeed", "NoFlash", "NoFraction", "NoHap", "NoHaps", "NoName", "NoNumber", "NoOrder", "NoRod", "NoRow", "NoSeat", "NoSpeed", "NoStep", "NoStretch", "NoText", "NotPlain", "NoWay", "TooMany"] : List Str).map fun x => decide (x = p.1)).idxOf true]? = some p.2 := by decide +kernel
theorem kindof_ok_law_kind_of {a : Addr} {c s : Str} {st : List SO} (h : kdOf c = some s) : leave st (g__law_kind_of a c (begin 3 1 [.exc a]) st) = .ok (.str s) st := by
  obtain ⟨k1, k2, k3⟩ := kinds__law_kind_of (c, s) (PySem.mem_of_lookup h)
  have i0 : ∀ st, isE a c st [.exc a, .cls "NoDeed"] = some (.bl (decide (("NoDeed" : Str) = c))) := fun st => isE_c (by decide +kernel)
  have i1 : ∀ st, isE a c st [.exc a, .cls "NoFlash"] = some (.bl (decide (("NoFlash" : Str) = c))) := fun st => isE_c (by decide +kernel)
  have i2 : ∀ st, isE a c st [.exc a, .cls "NoFraction"] = some (.bl (decide (("NoFraction" : Str) = c))) := fun st => isE_c (by decide +kernel)
  have i3 : ∀ st, isE a c st [.exc a, .cls "NoHap"] = some (.bl (decide (("NoHap" : Str) = c))) := fun st => isE_c (by decide +kernel)
  have i4 : ∀ st, isE a c st [.exc a, .cls "NoHaps"] = some (.bl (decide (("NoHaps" : Str) = c))) := fun st => isE_c (by decide +kernel)
  have i5 : ∀ st, isE a c st [.exc a, .cls "NoName"] = some (.bl (decide (("NoName" : Str) = c))) := fun st => isE_c (by decide +kernel)
  have i6 : ∀ st, isE a c st [.exc a, .cls "NoNumber"] = some (.bl (decide (("NoNumber" : Str) = c))) := fun st => isE_c (by decide +kernel)
  have i7 : ∀ st, isE a c st [.exc a, .cls "NoOrder"] = some (.bl (decide (("NoOrder" : Str) = c))) := fun st => isE_c (by decide +kernel)
  have i8 : ∀ st, isE a c st [.exc a, .cls "NoRod"] = some (.bl (decide (("NoRod" : Str) = c))) := fun st => isE_c (by decide +kernel)
  have i9 : ∀ st, isE a c st [.exc a, .cls "NoRow"] = some (.bl (decide (("NoRow" : Str) = c))) := fun st => isE_c (by decide +kernel)
  have i10 : ∀ st, isE a c st [.exc a, .cls "NoSeat"] = some (.bl (decide (("NoSeat" : Str) = c))) := fun st => isE_c (by decide +kernel)
  have i11 : ∀ st, isE a c st [.exc a, .cls "NoSpeed"] = some (.bl (decide (("NoSpeed" : Str) = c))) := fun st => isE_c (by decide +kernel)
  have i12 : ∀ st, isE a c st [.exc a, .cls "NoStep"] = some (.bl (decide (("NoStep" : Str) = c))) := fun st => isE_c (by decide +kernel)
  have i13 : ∀ st, isE a c st [.exc a, .cls "NoStretch"] = some (.bl (decide (("NoStretch" : Str) = c))) := fun st => isE_c (by decide +kernel)
  have i14 : ∀ st, isE a c st [.exc a, .cls "NoText"] = some (.bl (decide (("NoText" : Str) = c))) := fun st => isE_c (by decide +kernel)
  have i15 : ∀ st, isE a c st [.exc a, .cls "NotPlain"] = some (.bl (decide (("NotPlain" : Str) = c))) := fun st => isE_c (by decide +kernel)
  have i16 : ∀ st, isE a c st [.exc a, .cls "NoWay"] = some (.bl (decide (("NoWay" : Str) = c))) := fun st => isE_c (by decide +kernel)
  have i17 : ∀ st, isE a c st [.exc a, .cls "TooMany"] = some (.bl (decide (("TooMany" : Str) = c))) := fun st => isE_c (by decide +kernel)
  have iv : ∀ st, isE a c st [.exc a, .ty "ValueError"] = some (.bl true) := fun st => isE_v
  obtain ⟨bs, hbs⟩ : ∃ bs : List Bool, bs = ((["NoDeed", "NoFlash", "NoFraction", "NoHap", "NoHaps", "NoName", "NoNumber", "NoOrder", "NoRod", "NoRow", "NoSeat", "NoSpeed", "NoStep", "NoStretch", "NoText", "NotPlain", "NoWay", "TooMany"] : List Str).map fun x => decide (x = c)) := ⟨_, rfl⟩
  rw [← hbs] at k1 k2 k3
  have hb : ∀ f : List Bool → Res PV, bsO (some (.lst [PV.bl (decide (("NoDeed" : Str) = c)), PV.bl (decide (("NoFlash" : Str) = c)), PV.bl (decide (("NoFraction" : Str) = c)), PV.bl (decide (("NoHap" : Str) = c)), PV.bl (decide (("NoHaps" : Str) = c)), PV.bl (decide (("NoName" : Str) = c)), PV.bl (decide (("NoNumber" : Str) = c)), PV.bl (decide (("NoOrder" : Str) = c)), PV.bl (decide (("NoRod" : Str) = c)), PV.bl (decide (("NoRow" : Str) = c)), PV.bl (decide (("NoSeat" : Str) = c)), PV.bl (decide (("NoSpeed" : Str) = c)), PV.bl (decide (("NoStep" : Str) = c)), PV.bl (decide (("NoStretch" : Str) = c)), PV.bl (decide (("NoText" : Str) = c)), PV.bl (decide (("NotPlain" : Str) = c)), PV.bl (decide (("NoWay" : Str) = c)), PV.bl (decide (("TooMany" : Str) = c))])) f = f bs := fun f => bsO_some (by rw [hbs]; rfl)
  have k1' : ((List.count true bs : Nat) : Int) = 1 := by rw [k1]; rfl
  have hw : atI [PV.str "deed", PV.str "flash", PV.str "fraction", PV.str "hap", PV.str "haps", PV.str "name", PV.str "number", PV.str "order", PV.str "rod", PV.str "row", PV.str "seat", PV.str "speed", PV.str "step", PV.str "stretch", PV.str "text", PV.str "plain", PV.str "way", PV.str "many"] ((bs.idxOf true : Nat) : Int) = some (.str s) := by
    have e : [PV.str "deed", PV.str "flash", PV.str "fraction", PV.str "hap", PV.str "haps", PV.str "name", PV.str "number", PV.str "order", PV.str "rod", PV.str "row", PV.str "seat", PV.str "speed", PV.str "step", PV.str "stretch", PV.str "text", PV.str "plain", PV.str "way", PV.str "many"] = (["deed", "flash", "fraction", "hap", "haps", "name", "number", "order", "rod", "row", "seat", "speed", "step", "stretch", "text", "plain", "way", "many"] : List Str).map PV.str := rfl
    rw [e]
    exact atN (by rw [List.getElem?_map, k3]; rfl)
  clear hbs
  simp only [g__law_kind_of, gSlN_eq, slN_r, slN_l, slNK_s, gRevN_eq, revN_r, revNK_s, tupleV_r, tupleV_l, gCallV_eq, gLend_eq, isNotBV_b, gRep_eq, repR_r, gZip_eq, zipR_t, zipR_l, gTry_eq, tryK_nx, tryK_ret, begin_eq, allR_nx, allR_ret, allR_exc, gSkip_eq, gSeq_eq, seqK_nx, seqK_ret, seqK_exc, toS_ok, toS_exc, toST_ok, toST_exc, toSL_ok, toSL_exc, gRet_eq, gAsg_eq, gSet_eq, gExpr_eq, gIfS_eq, gRaise_eq, gBin_eq, gUn_eq, gVar_eq, slotR_some, gC_eq, gArgs_nil, gArgs_cons, gTupE_eq, gLstE_eq, gNewE_eq, gCall_eq, gBi_eq, gB_eq, asB_bl, gAnd_eq, gOr_eq, gNot_eq, gVT_eq, gIf_eq, gChain_eq, chK_t, chK_f, chK_b, bnd_ok, bnd_exc, oo_some, gTo_eq, toK_some, tgName_eq, tgNil_eq, tgCons_eq, tgTup_eq, bind_some, gPar_eq, gCat_eq, catR_r, listV_t, listV_l, blsOf_nil, blsOf_cons, allV_l, isNV_d, notNV_d, parK_ok, parK_exc, gStore_eq, stK_some, gMeth_eq, gFor_eq, gRng1_eq, asI_i, gItL_eq, gItT_eq, asLst_l, asTup_t, addV_ii, subV_ii, mulV_ii, fdivV_ii, modV_ii, shlV_ii, pw6, pw9, pw18, pw19, pw20, pw25, pw30, pw39, ltV_ii, leV_ii, gtV_ii, geV_ii, negV_i, isNV_n, isNV_t, isNV_l, isNV_i, isNV_s, isNV_r, isNV_b, notNV_n, notNV_t, notNV_l, notNV_i, notNV_s, notNV_r, notNV_b, ixV_t, ixV_l, ixV_r, lenV_t, lenV_l, lenV_r, absV_i, max2V_ii, min2V_ii, bitsV_i, setIV_r, setK_some, setL_some, appendM_r, appK_some, appN_ok, isT_r, isK_l, lstK_some, tyK_l, isT_s, isiV_eq, tyN_int, tyN_bl, tyN_non, tyN_str, tyN_tup, tyN_lst, tyN_dct, tyN_r, kk_int_bool, kitK_t, kk_int_str, kk_int_tuple, kk_int_list, kk_int_dict, kk_int_NoneType, kk_bool_int, kk_bool_str, kk_bool_tuple, kk_bool_list, kk_bool_dict, kk_bool_NoneType, kk_str_int, kk_str_bool, kk_str_tuple, kk_str_list, kk_str_dict, kk_str_NoneType, kk_tuple_int, kk_tuple_bool, kk_tuple_str, kk_tuple_list, kk_tuple_dict, kk_tuple_NoneType, kk_list_int, kk_list_bool, kk_list_str, kk_list_tuple, kk_list_dict, kk_list_NoneType, kk_dict_int, kk_dict_bool, kk_dict_str, kk_dict_tuple, kk_dict_list, kk_dict_NoneType, eqV_int, neV_int, isBV_b, neV_bl, eqV_bl, eqV_ii, neV_ii, isNV_fr, notNV_fr, ixV_fr0, ixV_fr1, eqV_fr, neV_fr, int1V_b, int1V_i, ixV_hp0, ixV_hp1, isNV_hp, eqV_hp, neV_hp, tyN_fr, lenV_fr, at0, at1, at2, at3, at4, at5, ixN0, ixN1, List.map_cons, List.map_nil, List.replicate, List.cons_append, List.nil_append, List.getElem?_cons_zero, List.getElem?_cons_succ, List.set_cons_zero, List.set_cons_succ, Bool.not_true, Bool.not_false, Bool.false_eq_true, if_true, if_false, ite_true, ite_false, reduceIte, Nat.reduceSub, Nat.reduceAdd, ne_eq, Int.cast_ofNat_Int, Int.reduceBEq, Int.reduceLT, Int.reduceLE, Int.reduceEq, Int.reduceNeg, Int.reduceMul, Int.reduceAdd, Int.reduceSub, decide_true, decide_false, List.length_cons, List.length_nil, beq_self_eq_true, not_false_eq_true, not_true_eq_false, i0, i1, i2, i3, i4, i5, i6, i7, i8, i9, i10, i11, i12, i13, i14, i15, i16, i17, iv, catR_r, List.append_assoc, List.length_append, Nat.zero_add, new_at, new_at0, Nat.add_assoc, catL_ok, lineOk_small, Nat.reduceLeDiff, countM_ok, indexM_ok, bsK_eq, hb, k1', k2, hw]
  exact leave_new rfl

noncomputable def g__law_told_11 (F_own_along : Fn) (F_own_time : Fn) : GS :=
  (gTry (gSeq (gIfS (gB (gBin eqV (gBi lenV [(gVar 1)]) (gC (.int 1)))) (gRet (gCallV ["own_along"] [F_own_along] (gVar 0) [(gBin ixV (gVar 1) (gC (.int 0)))])) gSkip)
  (gRet (gCallV ["own_time"] [F_own_time] (gVar 0) [(gBin ixV (gVar 1) (gC (.int 0))), (gBin ixV (gVar 1) (gC (.int 1)))]))))
noncomputable def F__law_told_11 : Fn := fun xs st => allR (g__law_told_11 F_own_along F_own_time (begin 3 2 xs) st)
theorem sto_step : StO "step" := by unfold StO; decide +kernel
theorem sto_plain : StO "plain" := by unfold StO; decide +kernel
theorem beq_step : (("step" : Str) == "step") = true := by decide +kernel
theorem beq_plain : (("plain" : Str) == "plain") = true := by decide +kernel
theorem kd_step : kdOf "NoStep" = some "step" := by decide +kernel
theorem kd_plain : kdOf "NotPlain" = some "plain" := by decide +kernel
theorem callV1 {x : Str} {F : Fn} : callV [x] [F] (.cls x) = some F := if_pos rfl
theorem i1beq : ((1 : Int) == 1) = true := rfl
theorem i2beq : ((2 : Int) == 1) = false := rfl
theorem ltold11_t {x y v : PV} {st : List SO} (h : F_own_time [x, y] st = .ok v st) : F__law_told_11 [.cls "own_time", .lst [x, y]] st = .ok v st := by
  simp only [F__law_told_11, g__law_told_11, gSlN_eq, slN_r, slN_l, slNK_s, gRevN_eq, revN_r, revNK_s, tupleV_r, tupleV_l, gCallV_eq, gLend_eq, isNotBV_b, gRep_eq, repR_r, gZip_eq, zipR_t, zipR_l, gTry_eq, tryK_nx, tryK_ret, begin_eq, allR_nx, allR_ret, allR_exc, gSkip_eq, gSeq_eq, seqK_nx, seqK_ret, seqK_exc, toS_ok, toS_exc, toST_ok, toST_exc, toSL_ok, toSL_exc, gRet_eq, gAsg_eq, gSet_eq, gExpr_eq, gIfS_eq, gRaise_eq, gBin_eq, gUn_eq, gVar_eq, slotR_some, gC_eq, gArgs_nil, gArgs_cons, gTupE_eq, gLstE_eq, gNewE_eq, gCall_eq, gBi_eq, gB_eq, asB_bl, gAnd_eq, gOr_eq, gNot_eq, gVT_eq, gIf_eq, gChain_eq, chK_t, chK_f, chK_b, bnd_ok, bnd_exc, oo_some, gTo_eq, toK_some, tgName_eq, tgNil_eq, tgCons_eq, tgTup_eq, bind_some, gPar_eq, gCat_eq, catR_r, listV_t, listV_l, blsOf_nil, blsOf_cons, allV_l, isNV_d, notNV_d, parK_ok, parK_exc, gStore_eq, stK_some, gMeth_eq, gFor_eq, gRng1_eq, asI_i, gItL_eq, gItT_eq, asLst_l, asTup_t, addV_ii, subV_ii, mulV_ii, fdivV_ii, modV_ii, shlV_ii, pw6, pw9, pw18, pw19, pw20, pw25, pw30, pw39, ltV_ii, leV_ii, gtV_ii, geV_ii, negV_i, isNV_n, isNV_t, isNV_l, isNV_i, isNV_s, isNV_r, isNV_b, notNV_n, notNV_t, notNV_l, notNV_i, notNV_s, notNV_r, notNV_b, ixV_t, ixV_l, ixV_r, lenV_t, lenV_l, lenV_r, absV_i, max2V_ii, min2V_ii, bitsV_i, setIV_r, setK_some, setL_some, appendM_r, appK_some, appN_ok, isT_r, isK_l, lstK_some, tyK_l, isT_s, isiV_eq, tyN_int, tyN_bl, tyN_non, tyN_str, tyN_tup, tyN_lst, tyN_dct, tyN_r, kk_int_bool, kitK_t, kk_int_str, kk_int_tuple, kk_int_list, kk_int_dict, kk_int_NoneType, kk_bool_int, kk_bool_str, kk_bool_tuple, kk_bool_list, kk_bool_dict, kk_bool_NoneType, kk_str_int, kk_str_bool, kk_str_tuple, kk_str_list, kk_str_dict, kk_str_NoneType, kk_tuple_int, kk_tuple_bool, kk_tuple_str, kk_tuple_list, kk_tuple_dict, kk_tuple_NoneType, kk_list_int, kk_list_bool, kk_list_str, kk_list_tuple, kk_list_dict, kk_list_NoneType, kk_dict_int, kk_dict_bool, kk_dict_str, kk_dict_tuple, kk_dict_list, kk_dict_NoneType, eqV_int, neV_int, isBV_b, neV_bl, eqV_bl, eqV_ii, neV_ii, isNV_fr, notNV_fr, ixV_fr0, ixV_fr1, eqV_fr, neV_fr, int1V_b, int1V_i, ixV_hp0, ixV_hp1, isNV_hp, eqV_hp, neV_hp, tyN_fr, lenV_fr, at0, at1, at2, at3, at4, at5, ixN0, ixN1, List.map_cons, List.map_nil, List.replicate, List.cons_append, List.nil_append, List.getElem?_cons_zero, List.getElem?_cons_succ, List.set_cons_zero, List.set_cons_succ, Bool.not_true, Bool.not_false, Bool.false_eq_true, if_true, if_false, ite_true, ite_false, reduceIte, Nat.reduceSub, Nat.reduceAdd, ne_eq, Int.cast_ofNat_Int, Int.reduceBEq, Int.reduceLT, Int.reduceLE, Int.reduceEq, Int.reduceNeg, Int.reduceMul, Int.reduceAdd, Int.reduceSub, decide_true, decide_false, List.length_cons, List.length_nil, beq_self_eq_true, not_false_eq_true, not_true_eq_false, callV1, callK_some, h]
theorem ltold11_te {x y : PV} {c s : Str} {st : List SO} (h : F_own_time [x, y] st = .exc c st) (k : kdOf c = some s) : F__law_told_11 [.cls "own_time", .lst [x, y]] st = .ok (.str s) st := by
  simp only [F__law_told_11, g__law_told_11, gSlN_eq, slN_r, slN_l, slNK_s, gRevN_eq, revN_r, revNK_s, tupleV_r, tupleV_l, gCallV_eq, gLend_eq, isNotBV_b, gRep_eq, repR_r, gZip_eq, zipR_t, zipR_l, gTry_eq, tryK_nx, tryK_ret, begin_eq, allR_nx, allR_ret, allR_exc, gSkip_eq, gSeq_eq, seqK_nx, seqK_ret, seqK_exc, toS_ok, toS_exc, toST_ok, toST_exc, toSL_ok, toSL_exc, gRet_eq, gAsg_eq, gSet_eq, gExpr_eq, gIfS_eq, gRaise_eq, gBin_eq, gUn_eq, gVar_eq, slotR_some, gC_eq, gArgs_nil, gArgs_cons, gTupE_eq, gLstE_eq, gNewE_eq, gCall_eq, gBi_eq, gB_eq, asB_bl, gAnd_eq, gOr_eq, gNot_eq, gVT_eq, gIf_eq, gChain_eq, chK_t, chK_f, chK_b, bnd_ok, bnd_exc, oo_some, gTo_eq, toK_some, tgName_eq, tgNil_eq, tgCons_eq, tgTup_eq, bind_some, gPar_eq, gCat_eq, catR_r, listV_t, listV_l, blsOf_nil, blsOf_cons, allV_l, isNV_d, notNV_d, parK_ok, parK_exc, gStore_eq, stK_some, gMeth_eq, gFor_eq, gRng1_eq, asI_i, gItL_eq, gItT_eq, asLst_l, asTup_t, addV_ii, subV_ii, mulV_ii, fdivV_ii, modV_ii, shlV_ii, pw6, pw9, pw18, pw19, pw20, pw25, pw30, pw39, ltV_ii, leV_ii, gtV_ii, geV_ii, negV_i, isNV_n, isNV_t, isNV_l, isNV_i, isNV_s, isNV_r, isNV_b, notNV_n, notNV_t, notNV_l, notNV_i, notNV_s, notNV_r, notNV_b, ixV_t, ixV_l, ixV_r, lenV_t, lenV_l, lenV_r, absV_i, max2V_ii, min2V_ii, bitsV_i, setIV_r, setK_some, setL_some, appendM_r, appK_some, appN_ok, isT_r, isK_l, lstK_some, tyK_l, isT_s, isiV_eq, tyN_int, tyN_bl, tyN_non, tyN_str, tyN_tup, tyN_lst, tyN_dct, tyN_r, kk_int_bool, kitK_t, kk_int_str, kk_int_tuple, kk_int_list, kk_int_dict, kk_int_NoneType, kk_bool_int, kk_bool_str, kk_bool_tuple, kk_bool_list, kk_bool_dict, kk_bool_NoneType, kk_str_int, kk_str_bool, kk_str_tuple, kk_str_list, kk_str_dict, kk_str_NoneType, kk_tuple_int, kk_tuple_bool, kk_tuple_str, kk_tuple_list, kk_tuple_dict, kk_tuple_NoneType, kk_list_int, kk_list_bool, kk_list_str, kk_list_tuple, kk_list_dict, kk_list_NoneType, kk_dict_int, kk_dict_bool, kk_dict_str, kk_dict_tuple, kk_dict_list, kk_dict_NoneType, eqV_int, neV_int, isBV_b, neV_bl, eqV_bl, eqV_ii, neV_ii, isNV_fr, notNV_fr, ixV_fr0, ixV_fr1, eqV_fr, neV_fr, int1V_b, int1V_i, ixV_hp0, ixV_hp1, isNV_hp, eqV_hp, neV_hp, tyN_fr, lenV_fr, at0, at1, at2, at3, at4, at5, ixN0, ixN1, List.map_cons, List.map_nil, List.replicate, List.cons_append, List.nil_append, List.getElem?_cons_zero, List.getElem?_cons_succ, List.set_cons_zero, List.set_cons_succ, Bool.not_true, Bool.not_false, Bool.false_eq_true, if_true, if_false, ite_true, ite_false, reduceIte, Nat.reduceSub, Nat.reduceAdd, ne_eq, Int.cast_ofNat_Int, Int.reduceBEq, Int.reduceLT, Int.reduceLE, Int.reduceEq, Int.reduceNeg, Int.reduceMul, Int.reduceAdd, Int.reduceSub, decide_true, decide_false, List.length_cons, List.length_nil, beq_self_eq_true, not_false_eq_true, not_true_eq_false, callV1, callK_some, h, tryK_exc k]
theorem ltold11_a {x v : PV} {st : List SO} (h : F_own_along [x] st = .ok v st) : F__law_told_11 [.cls "own_along", .lst [x]] st = .ok v st := by
  simp only [F__law_told_11, g__law_told_11, gSlN_eq, slN_r, slN_l, slNK_s, gRevN_eq, revN_r, revNK_s, tupleV_r, tupleV_l, gCallV_eq, gLend_eq, isNotBV_b, gRep_eq, repR_r, gZip_eq, zipR_t, zipR_l, gTry_eq, tryK_nx, tryK_ret, begin_eq, allR_nx, allR_ret, allR_exc, gSkip_eq, gSeq_eq, seqK_nx, seqK_ret, seqK_exc, toS_ok, toS_exc, toST_ok, toST_exc, toSL_ok, toSL_exc, gRet_eq, gAsg_eq, gSet_eq, gExpr_eq, gIfS_eq, gRaise_eq, gBin_eq, gUn_eq, gVar_eq, slotR_some, gC_eq, gArgs_nil, gArgs_cons, gTupE_eq, gLstE_eq, gNewE_eq, gCall_eq, gBi_eq, gB_eq, asB_bl, gAnd_eq, gOr_eq, gNot_eq, gVT_eq, gIf_eq, gChain_eq, chK_t, chK_f, chK_b, bnd_ok, bnd_exc, oo_some, gTo_eq, toK_some, tgName_eq, tgNil_eq, tgCons_eq, tgTup_eq, bind_some, gPar_eq, gCat_eq, catR_r, listV_t, listV_l, blsOf_nil, blsOf_cons, allV_l, isNV_d, notNV_d, parK_ok, parK_exc, gStore_eq, stK_some, gMeth_eq, gFor_eq, gRng1_eq, asI_i, gItL_eq, gItT_eq, asLst_l, asTup_t, addV_ii, subV_ii, mulV_ii, fdivV_ii, modV_ii, shlV_ii, pw6, pw9, pw18, pw19, pw20, pw25, pw30, pw39, ltV_ii, leV_ii, gtV_ii, geV_ii, negV_i, isNV_n, isNV_t, isNV_l, isNV_i, isNV_s, isNV_r, isNV_b, notNV_n, notNV_t, notNV_l, notNV_i, notNV_s, notNV_r, notNV_b, ixV_t, ixV_l, ixV_r, lenV_t, lenV_l, lenV_r, absV_i, max2V_ii, min2V_ii, bitsV_i, setIV_r, setK_some, setL_some, appendM_r, appK_some, appN_ok, isT_r, isK_l, lstK_some, tyK_l, isT_s, isiV_eq, tyN_int, tyN_bl, tyN_non, tyN_str, tyN_tup, tyN_lst, tyN_dct, tyN_r, kk_int_bool, kitK_t, kk_int_str, kk_int_tuple, kk_int_list, kk_int_dict, kk_int_NoneType, kk_bool_int, kk_bool_str, kk_bool_tuple, kk_bool_list, kk_bool_dict, kk_bool_NoneType, kk_str_int, kk_str_bool, kk_str_tuple, kk_str_list, kk_str_dict, kk_str_NoneType, kk_tuple_int, kk_tuple_bool, kk_tuple_str, kk_tuple_list, kk_tuple_dict, kk_tuple_NoneType, kk_list_int, kk_list_bool, kk_list_str, kk_list_tuple, kk_list_dict, kk_list_NoneType, kk_dict_int, kk_dict_bool, kk_dict_str, kk_dict_tuple, kk_dict_list, kk_dict_NoneType, eqV_int, neV_int, isBV_b, neV_bl, eqV_bl, eqV_ii, neV_ii, isNV_fr, notNV_fr, ixV_fr0, ixV_fr1, eqV_fr, neV_fr, int1V_b, int1V_i, ixV_hp0, ixV_hp1, isNV_hp, eqV_hp, neV_hp, tyN_fr, lenV_fr, at0, at1, at2, at3, at4, at5, ixN0, ixN1, List.map_cons, List.map_nil, List.replicate, List.cons_append, List.nil_append, List.getElem?_cons_zero, List.getElem?_cons_succ, List.set_cons_zero, List.set_cons_succ, Bool.not_true, Bool.not_false, Bool.false_eq_true, if_true, if_false, ite_true, ite_false, reduceIte, Nat.reduceSub, Nat.reduceAdd, ne_eq, Int.cast_ofNat_Int, Int.reduceBEq, Int.reduceLT, Int.reduceLE, Int.reduceEq, Int.reduceNeg, Int.reduceMul, Int.reduceAdd, Int.reduceSub, decide_true, decide_false, List.length_cons, List.length_nil, beq_self_eq_true, not_false_eq_true, not_true_eq_false, callV1, callK_some, h]
theorem ltold11_ae {x : PV} {c s : Str} {st : List SO} (h : F_own_along [x] st = .exc c st) (k : kdOf c = some s) : F__law_told_11 [.cls "own_along", .lst [x]] st = .ok (.str s) st := by
  simp only [F__law_told_11, g__law_told_11, gSlN_eq, slN_r, slN_l, slNK_s, gRevN_eq, revN_r, revNK_s, tupleV_r, tupleV_l, gCallV_eq, gLend_eq, isNotBV_b, gRep_eq, repR_r, gZip_eq, zipR_t, zipR_l, gTry_eq, tryK_nx, tryK_ret, begin_eq, allR_nx, allR_ret, allR_exc, gSkip_eq, gSeq_eq, seqK_nx, seqK_ret, seqK_exc, toS_ok, toS_exc, toST_ok, toST_exc, toSL_ok, toSL_exc, gRet_eq, gAsg_eq, gSet_eq, gExpr_eq, gIfS_eq, gRaise_eq, gBin_eq, gUn_eq, gVar_eq, slotR_some, gC_eq, gArgs_nil, gArgs_cons, gTupE_eq, gLstE_eq, gNewE_eq, gCall_eq, gBi_eq, gB_eq, asB_bl, gAnd_eq, gOr_eq, gNot_eq, gVT_eq, gIf_eq, gChain_eq, chK_t, chK_f, chK_b, bnd_ok, bnd_exc, oo_some, gTo_eq, toK_some, tgName_eq, tgNil_eq, tgCons_eq, tgTup_eq, bind_some, gPar_eq, gCat_eq, catR_r, listV_t, listV_l, blsOf_nil, blsOf_cons, allV_l, isNV_d, notNV_d, parK_ok, parK_exc, gStore_eq, stK_some, gMeth_eq, gFor_eq, gRng1_eq, asI_i, gItL_eq, gItT_eq, asLst_l, asTup_t, addV_ii, subV_ii, mulV_ii, fdivV_ii, modV_ii, shlV_ii, pw6, pw9, pw18, pw19, pw20, pw25, pw30, pw39, ltV_ii, leV_ii, gtV_ii, geV_ii, negV_i, isNV_n, isNV_t, isNV_l, isNV_i, isNV_s, isNV_r, isNV_b, notNV_n, notNV_t, notNV_l, notNV_i, notNV_s, notNV_r, notNV_b, ixV_t, ixV_l, ixV_r, lenV_t, lenV_l, lenV_r, absV_i, max2V_ii, min2V_ii, bitsV_i, setIV_r, setK_some, setL_some, appendM_r, appK_some, appN_ok, isT_r, isK_l, lstK_some, tyK_l, isT_s, isiV_eq, tyN_int, tyN_bl, tyN_non, tyN_str, tyN_tup, tyN_lst, tyN_dct, tyN_r, kk_int_bool, kitK_t, kk_int_str, kk_int_tuple, kk_int_list, kk_int_dict, kk_int_NoneType, kk_bool_int, kk_bool_str, kk_bool_tuple, kk_bool_list, kk_bool_dict, kk_bool_NoneType, kk_str_int, kk_str_bool, kk_str_tuple, kk_str_list, kk_str_dict, kk_str_NoneType, kk_tuple_int, kk_tuple_bool, kk_tuple_str, kk_tuple_list, kk_tuple_dict, kk_tuple_NoneType, kk_list_int, kk_list_bool, kk_list_str, kk_list_tuple, kk_list_dict, kk_list_NoneType, kk_dict_int, kk_dict_bool, kk_dict_str, kk_dict_tuple, kk_dict_list, kk_dict_NoneType, eqV_int, neV_int, isBV_b, neV_bl, eqV_bl, eqV_ii, neV_ii, isNV_fr, notNV_fr, ixV_fr0, ixV_fr1, eqV_fr, neV_fr, int1V_b, int1V_i, ixV_hp0, ixV_hp1, isNV_hp, eqV_hp, neV_hp, tyN_fr, lenV_fr, at0, at1, at2, at3, at4, at5, ixN0, ixN1, List.map_cons, List.map_nil, List.replicate, List.cons_append, List.nil_append, List.getElem?_cons_zero, List.getElem?_cons_succ, List.set_cons_zero, List.set_cons_succ, Bool.not_true, Bool.not_false, Bool.false_eq_true, if_true, if_false, ite_true, ite_false, reduceIte, Nat.reduceSub, Nat.reduceAdd, ne_eq, Int.cast_ofNat_Int, Int.reduceBEq, Int.reduceLT, Int.reduceLE, Int.reduceEq, Int.reduceNeg, Int.reduceMul, Int.reduceAdd, Int.reduceSub, decide_true, decide_false, List.length_cons, List.length_nil, beq_self_eq_true, not_false_eq_true, not_true_eq_false, callV1, callK_some, h, tryK_exc k]

noncomputable def g__law_word (F__law_apart : Fn) : GS :=
  (gSeq (gAsg (gCall F__law_apart [(gVar 0), (gVar 1)]) (gTo (tgTup 2 (tgCons (tgName 4) (tgCons (tgName 5) tgNil)))))
  (gSeq (gSet 2 (gBin mulV (gBin ixV (gVar 4) (gC (.int 0))) (gBin ixV (gVar 5) (gC (.int 1)))))
  (gSeq (gSet 3 (gBi absV [(gBin mulV (gBin ixV (gVar 5) (gC (.int 0))) (gBin ixV (gVar 4) (gC (.int 1))))]))
  (gSeq (gIfS (gB (gBin eqV (gVar 0) (gVar 1))) (gRet (gC (.str "same"))) gSkip)
  (gSeq (gIfS (gB (gBin ltV (gBi absV [(gVar 2)]) (gVar 3))) (gRet (gC (.str "beside"))) gSkip)
  (gRet (gBin ixV (gLstE [(gC (.str "earlier")), (gC (.str "later"))]) (gBi int1V [(gBin gtV (gVar 2) (gC (.int 0)))]))))))))
noncomputable def F__law_word : Fn := fun xs st => allR (g__law_word F__law_apart (begin 6 2 xs) st)
-- needs: kind_of
theorem sub0 {a b : Rat} : decide (a = b) = decide (b - a = 0) := by
  by_cases h : a = b
  · rw [decide_eq_true h]; exact (decide_eq_true (by grind)).symm
  · rw [decide_eq_false h]; exact (decide_eq_false (by grind)).symm
theorem lword_ok {n : Nat} {t x u y : Rat} {st : List SO} (h1 : RS n t) (h2 : RS n x) (h3 : RS n u) (h4 : RS n y) (hn : n ≤ 1000) : F__law_word [hp t x, hp u y] st = .ok (.str (kw (u - t) (y - x))) st := by
  have e1 := lapart_ok (st := st) h1 h2 h3 h4 (by omega)
  have ha := h3.sub h1
  have hg := h4.sub h2
  have s1 := sub0 (a := t) (b := u)
  have s2 := sub0 (a := x) (b := y)
  generalize u - t = a at *
  generalize y - x = g at *
  have m1 : MulOk a.num g.den := ha.1.mulOk hg.den (by omega)
  have m2 : MulOk g.num a.den := hg.1.mulOk ha.den (by omega)
  have l1 := lt_ab a g
  have l2 := num_pos a g
  simp only [F__law_word, g__law_word, gSlN_eq, slN_r, slN_l, slNK_s, gRevN_eq, revN_r, revNK_s, tupleV_r, tupleV_l, gCallV_eq, gLend_eq, isNotBV_b, gRep_eq, repR_r, gZip_eq, zipR_t, zipR_l, gTry_eq, tryK_nx, tryK_ret, begin_eq, allR_nx, allR_ret, allR_exc, gSkip_eq, gSeq_eq, seqK_nx, seqK_ret, seqK_exc, toS_ok, toS_exc, toST_ok, toST_exc, toSL_ok, toSL_exc, gRet_eq, gAsg_eq, gSet_eq, gExpr_eq, gIfS_eq, gRaise_eq, gBin_eq, gUn_eq, gVar_eq, slotR_some, gC_eq, gArgs_nil, gArgs_cons, gTupE_eq, gLstE_eq, gNewE_eq, gCall_eq, gBi_eq, gB_eq, asB_bl, gAnd_eq, gOr_eq, gNot_eq, gVT_eq, gIf_eq, gChain_eq, chK_t, chK_f, chK_b, bnd_ok, bnd_exc, oo_some, gTo_eq, toK_some, tgName_eq, tgNil_eq, tgCons_eq, tgTup_eq, bind_some, gPar_eq, gCat_eq, catR_r, listV_t, listV_l, blsOf_nil, blsOf_cons, allV_l, isNV_d, notNV_d, parK_ok, parK_exc, gStore_eq, stK_some, gMeth_eq, gFor_eq, gRng1_eq, asI_i, gItL_eq, gItT_eq, asLst_l, asTup_t, addV_ii, subV_ii, mulV_ii, fdivV_ii, modV_ii, shlV_ii, pw6, pw9, pw18, pw19, pw20, pw25, pw30, pw39, ltV_ii, leV_ii, gtV_ii, geV_ii, negV_i, isNV_n, isNV_t, isNV_l, isNV_i, isNV_s, isNV_r, isNV_b, notNV_n, notNV_t, notNV_l, notNV_i, notNV_s, notNV_r, notNV_b, ixV_t, ixV_l, ixV_r, lenV_t, lenV_l, lenV_r, absV_i, max2V_ii, min2V_ii, bitsV_i, setIV_r, setK_some, setL_some, appendM_r, appK_some, appN_ok, isT_r, isK_l, lstK_some, tyK_l, isT_s, isiV_eq, tyN_int, tyN_bl, tyN_non, tyN_str, tyN_tup, tyN_lst, tyN_dct, tyN_r, kk_int_bool, kitK_t, kk_int_str, kk_int_tuple, kk_int_list, kk_int_dict, kk_int_NoneType, kk_bool_int, kk_bool_str, kk_bool_tuple, kk_bool_list, kk_bool_dict, kk_bool_NoneType, kk_str_int, kk_str_bool, kk_str_tuple, kk_str_list, kk_str_dict, kk_str_NoneType, kk_tuple_int, kk_tuple_bool, kk_tuple_str, kk_tuple_list, kk_tuple_dict, kk_tuple_NoneType, kk_list_int, kk_list_bool, kk_list_str, kk_list_tuple, kk_list_dict, kk_list_NoneType, kk_dict_int, kk_dict_bool, kk_dict_str, kk_dict_tuple, kk_dict_list, kk_dict_NoneType, eqV_int, neV_int, isBV_b, neV_bl, eqV_bl, eqV_ii, neV_ii, isNV_fr, notNV_fr, ixV_fr0, ixV_fr1, eqV_fr, neV_fr, int1V_b, int1V_i, ixV_hp0, ixV_hp1, isNV_hp, eqV_hp, neV_hp, tyN_fr, lenV_fr, at0, at1, at2, at3, at4, at5, ixN0, ixN1, List.map_cons, List.map_nil, List.replicate, List.cons_append, List.nil_append, List.getElem?_cons_zero, List.getElem?_cons_succ, List.set_cons_zero, List.set_cons_succ, Bool.not_true, Bool.not_false, Bool.false_eq_true, if_true, if_false, ite_true, ite_false, reduceIte, Nat.reduceSub, Nat.reduceAdd, ne_eq, Int.cast_ofNat_Int, Int.reduceBEq, Int.reduceLT, Int.reduceLE, Int.reduceEq, Int.reduceNeg, Int.reduceMul, Int.reduceAdd, Int.reduceSub, decide_true, decide_false, List.length_cons, List.length_nil, beq_self_eq_true, not_false_eq_true, not_true_eq_false, e1, m1, m2, l1, l2, Bool.decide_and, s1, s2]
  unfold kw
  have q1 : a = 0 → g ≠ 0 → (ab a < ab g ∧ a < ab g ∧ -a < ab g) := by unfold ab; grind
  have q2 : ab a < ab g → (a < ab g ∧ -a < ab g ∧ ¬ (a = 0 ∧ g = 0)) := by unfold ab; grind
  have q3 : ¬ ab a < ab g → 0 < a → ¬ a < ab g := by unfold ab; grind
  have q4 : ¬ ab a < ab g → ¬ 0 < a → (a = 0 ∧ g = 0) ∨ (a < ab g ∧ ¬ -a < ab g) := by unfold ab; grind
  generalize ab g = b at *
  generalize ab a = c at *
  by_cases c1 : a = 0 ∧ g = 0
  · have d1 := decide_eq_true c1.1
    have d2 := decide_eq_true c1.2
    have E : kwB (decide (a = 0)) (decide (g = 0)) (decide (a < b)) (decide (-a < b)) = "same" := by unfold kwB; rw [d1, d2]; rfl
    rw [E]
    simp only [d1, d2, Bool.and_self, gSlN_eq, slN_r, slN_l, slNK_s, gRevN_eq, revN_r, revNK_s, tupleV_r, tupleV_l, gCallV_eq, gLend_eq, isNotBV_b, gRep_eq, repR_r, gZip_eq, zipR_t, zipR_l, gTry_eq, tryK_nx, tryK_ret, begin_eq, allR_nx, allR_ret, allR_exc, gSkip_eq, gSeq_eq, seqK_nx, seqK_ret, seqK_exc, toS_ok, toS_exc, toST_ok, toST_exc, toSL_ok, toSL_exc, gRet_eq, gAsg_eq, gSet_eq, gExpr_eq, gIfS_eq, gRaise_eq, gBin_eq, gUn_eq, gVar_eq, slotR_some, gC_eq, gArgs_nil, gArgs_cons, gTupE_eq, gLstE_eq, gNewE_eq, gCall_eq, gBi_eq, gB_eq, asB_bl, gAnd_eq, gOr_eq, gNot_eq, gVT_eq, gIf_eq, gChain_eq, chK_t, chK_f, chK_b, bnd_ok, bnd_exc, oo_some, gTo_eq, toK_some, tgName_eq, tgNil_eq, tgCons_eq, tgTup_eq, bind_some, gPar_eq, gCat_eq, catR_r, listV_t, listV_l, blsOf_nil, blsOf_cons, allV_l, isNV_d, notNV_d, parK_ok, parK_exc, gStore_eq, stK_some, gMeth_eq, gFor_eq, gRng1_eq, asI_i, gItL_eq, gItT_eq, asLst_l, asTup_t, addV_ii, subV_ii, mulV_ii, fdivV_ii, modV_ii, shlV_ii, pw6, pw9, pw18, pw19, pw20, pw25, pw30, pw39, ltV_ii, leV_ii, gtV_ii, geV_ii, negV_i, isNV_n, isNV_t, isNV_l, isNV_i, isNV_s, isNV_r, isNV_b, notNV_n, notNV_t, notNV_l, notNV_i, notNV_s, notNV_r, notNV_b, ixV_t, ixV_l, ixV_r, lenV_t, lenV_l, lenV_r, absV_i, max2V_ii, min2V_ii, bitsV_i, setIV_r, setK_some, setL_some, appendM_r, appK_some, appN_ok, isT_r, isK_l, lstK_some, tyK_l, isT_s, isiV_eq, tyN_int, tyN_bl, tyN_non, tyN_str, tyN_tup, tyN_lst, tyN_dct, tyN_r, kk_int_bool, kitK_t, kk_int_str, kk_int_tuple, kk_int_list, kk_int_dict, kk_int_NoneType, kk_bool_int, kk_bool_str, kk_bool_tuple, kk_bool_list, kk_bool_dict, kk_bool_NoneType, kk_str_int, kk_str_bool, kk_str_tuple, kk_str_list, kk_str_dict, kk_str_NoneType, kk_tuple_int, kk_tuple_bool, kk_tuple_str, kk_tuple_list, kk_tuple_dict, kk_tuple_NoneType, kk_list_int, kk_list_bool, kk_list_str, kk_list_tuple, kk_list_dict, kk_list_NoneType, kk_dict_int, kk_dict_bool, kk_dict_str, kk_dict_tuple, kk_dict_list, kk_dict_NoneType, eqV_int, neV_int, isBV_b, neV_bl, eqV_bl, eqV_ii, neV_ii, isNV_fr, notNV_fr, ixV_fr0, ixV_fr1, eqV_fr, neV_fr, int1V_b, int1V_i, ixV_hp0, ixV_hp1, isNV_hp, eqV_hp, neV_hp, tyN_fr, lenV_fr, at0, at1, at2, at3, at4, at5, ixN0, ixN1, List.map_cons, List.map_nil, List.replicate, List.cons_append, List.nil_append, List.getElem?_cons_zero, List.getElem?_cons_succ, List.set_cons_zero, List.set_cons_succ, Bool.not_true, Bool.not_false, Bool.false_eq_true, if_true, if_false, ite_true, ite_false, reduceIte, Nat.reduceSub, Nat.reduceAdd, ne_eq, Int.cast_ofNat_Int, Int.reduceBEq, Int.reduceLT, Int.reduceLE, Int.reduceEq, Int.reduceNeg, Int.reduceMul, Int.reduceAdd, Int.reduceSub, decide_true, decide_false, List.length_cons, List.length_nil, beq_self_eq_true, not_false_eq_true, not_true_eq_false]
  · have d1 : (decide (a = 0) && decide (g = 0)) = false := by rw [← Bool.decide_and]; exact decide_eq_false c1
    by_cases c2 : c < b
    · obtain ⟨y1, y2, -⟩ := q2 c2
      have E : kwB (decide (a = 0)) (decide (g = 0)) (decide (a < b)) (decide (-a < b)) = "beside" := by unfold kwB; rw [d1, decide_eq_true y1, decide_eq_true y2]; rfl
      rw [E]
      simp only [d1, l1, l2, c2, gSlN_eq, slN_r, slN_l, slNK_s, gRevN_eq, revN_r, revNK_s, tupleV_r, tupleV_l, gCallV_eq, gLend_eq, isNotBV_b, gRep_eq, repR_r, gZip_eq, zipR_t, zipR_l, gTry_eq, tryK_nx, tryK_ret, begin_eq, allR_nx, allR_ret, allR_exc, gSkip_eq, gSeq_eq, seqK_nx, seqK_ret, seqK_exc, toS_ok, toS_exc, toST_ok, toST_exc, toSL_ok, toSL_exc, gRet_eq, gAsg_eq, gSet_eq, gExpr_eq, gIfS_eq, gRaise_eq, gBin_eq, gUn_eq, gVar_eq, slotR_some, gC_eq, gArgs_nil, gArgs_cons, gTupE_eq, gLstE_eq, gNewE_eq, gCall_eq, gBi_eq, gB_eq, asB_bl, gAnd_eq, gOr_eq, gNot_eq, gVT_eq, gIf_eq, gChain_eq, chK_t, chK_f, chK_b, bnd_ok, bnd_exc, oo_some, gTo_eq, toK_some, tgName_eq, tgNil_eq, tgCons_eq, tgTup_eq, bind_some, gPar_eq, gCat_eq, catR_r, listV_t, listV_l, blsOf_nil, blsOf_cons, allV_l, isNV_d, notNV_d, parK_ok, parK_exc, gStore_eq, stK_some, gMeth_eq, gFor_eq, gRng1_eq, asI_i, gItL_eq, gItT_eq, asLst_l, asTup_t, addV_ii, subV_ii, mulV_ii, fdivV_ii, modV_ii, shlV_ii, pw6, pw9, pw18, pw19, pw20, pw25, pw30, pw39, ltV_ii, leV_ii, gtV_ii, geV_ii, negV_i, isNV_n, isNV_t, isNV_l, isNV_i, isNV_s, isNV_r, isNV_b, notNV_n, notNV_t, notNV_l, notNV_i, notNV_s, notNV_r, notNV_b, ixV_t, ixV_l, ixV_r, lenV_t, lenV_l, lenV_r, absV_i, max2V_ii, min2V_ii, bitsV_i, setIV_r, setK_some, setL_some, appendM_r, appK_some, appN_ok, isT_r, isK_l, lstK_some, tyK_l, isT_s, isiV_eq, tyN_int, tyN_bl, tyN_non, tyN_str, tyN_tup, tyN_lst, tyN_dct, tyN_r, kk_int_bool, kitK_t, kk_int_str, kk_int_tuple, kk_int_list, kk_int_dict, kk_int_NoneType, kk_bool_int, kk_bool_str, kk_bool_tuple, kk_bool_list, kk_bool_dict, kk_bool_NoneType, kk_str_int, kk_str_bool, kk_str_tuple, kk_str_list, kk_str_dict, kk_str_NoneType, kk_tuple_int, kk_tuple_bool, kk_tuple_str, kk_tuple_list, kk_tuple_dict, kk_tuple_NoneType, kk_list_int, kk_list_bool, kk_list_str, kk_list_tuple, kk_list_dict, kk_list_NoneType, kk_dict_int, kk_dict_bool, kk_dict_str, kk_dict_tuple, kk_dict_list, kk_dict_NoneType, eqV_int, neV_int, isBV_b, neV_bl, eqV_bl, eqV_ii, neV_ii, isNV_fr, notNV_fr, ixV_fr0, ixV_fr1, eqV_fr, neV_fr, int1V_b, int1V_i, ixV_hp0, ixV_hp1, isNV_hp, eqV_hp, neV_hp, tyN_fr, lenV_fr, at0, at1, at2, at3, at4, at5, ixN0, ixN1, List.map_cons, List.map_nil, List.replicate, List.cons_append, List.nil_append, List.getElem?_cons_zero, List.getElem?_cons_succ, List.set_cons_zero, List.set_cons_succ, Bool.not_true, Bool.not_false, Bool.false_eq_true, if_true, if_false, ite_true, ite_false, reduceIte, Nat.reduceSub, Nat.reduceAdd, ne_eq, Int.cast_ofNat_Int, Int.reduceBEq, Int.reduceLT, Int.reduceLE, Int.reduceEq, Int.reduceNeg, Int.reduceMul, Int.reduceAdd, Int.reduceSub, decide_true, decide_false, List.length_cons, List.length_nil, beq_self_eq_true, not_false_eq_true, not_true_eq_false]
    · by_cases c3 : 0 < a
      · have y1 := q3 c2 c3
        have E : kwB (decide (a = 0)) (decide (g = 0)) (decide (a < b)) (decide (-a < b)) = "later" := by unfold kwB; rw [d1, decide_eq_false y1]; rfl
        rw [E]
        simp only [d1, l1, l2, c2, c3, gSlN_eq, slN_r, slN_l, slNK_s, gRevN_eq, revN_r, revNK_s, tupleV_r, tupleV_l, gCallV_eq, gLend_eq, isNotBV_b, gRep_eq, repR_r, gZip_eq, zipR_t, zipR_l, gTry_eq, tryK_nx, tryK_ret, begin_eq, allR_nx, allR_ret, allR_exc, gSkip_eq, gSeq_eq, seqK_nx, seqK_ret, seqK_exc, toS_ok, toS_exc, toST_ok, toST_exc, toSL_ok, toSL_exc, gRet_eq, gAsg_eq, gSet_eq, gExpr_eq, gIfS_eq, gRaise_eq, gBin_eq, gUn_eq, gVar_eq, slotR_some, gC_eq, gArgs_nil, gArgs_cons, gTupE_eq, gLstE_eq, gNewE_eq, gCall_eq, gBi_eq, gB_eq, asB_bl, gAnd_eq, gOr_eq, gNot_eq, gVT_eq, gIf_eq, gChain_eq, chK_t, chK_f, chK_b, bnd_ok, bnd_exc, oo_some, gTo_eq, toK_some, tgName_eq, tgNil_eq, tgCons_eq, tgTup_eq, bind_some, gPar_eq, gCat_eq, catR_r, listV_t, listV_l, blsOf_nil, blsOf_cons, allV_l, isNV_d, notNV_d, parK_ok, parK_exc, gStore_eq, stK_some, gMeth_eq, gFor_eq, gRng1_eq, asI_i, gItL_eq, gItT_eq, asLst_l, asTup_t, addV_ii, subV_ii, mulV_ii, fdivV_ii, modV_ii, shlV_ii, pw6, pw9, pw18, pw19, pw20, pw25, pw30, pw39, ltV_ii, leV_ii, gtV_ii, geV_ii, negV_i, isNV_n, isNV_t, isNV_l, isNV_i, isNV_s, isNV_r, isNV_b, notNV_n, notNV_t, notNV_l, notNV_i, notNV_s, notNV_r, notNV_b, ixV_t, ixV_l, ixV_r, lenV_t, lenV_l, lenV_r, absV_i, max2V_ii, min2V_ii, bitsV_i, setIV_r, setK_some, setL_some, appendM_r, appK_some, appN_ok, isT_r, isK_l, lstK_some, tyK_l, isT_s, isiV_eq, tyN_int, tyN_bl, tyN_non, tyN_str, tyN_tup, tyN_lst, tyN_dct, tyN_r, kk_int_bool, kitK_t, kk_int_str, kk_int_tuple, kk_int_list, kk_int_dict, kk_int_NoneType, kk_bool_int, kk_bool_str, kk_bool_tuple, kk_bool_list, kk_bool_dict, kk_bool_NoneType, kk_str_int, kk_str_bool, kk_str_tuple, kk_str_list, kk_str_dict, kk_str_NoneType, kk_tuple_int, kk_tuple_bool, kk_tuple_str, kk_tuple_list, kk_tuple_dict, kk_tuple_NoneType, kk_list_int, kk_list_bool, kk_list_str, kk_list_tuple, kk_list_dict, kk_list_NoneType, kk_dict_int, kk_dict_bool, kk_dict_str, kk_dict_tuple, kk_dict_list, kk_dict_NoneType, eqV_int, neV_int, isBV_b, neV_bl, eqV_bl, eqV_ii, neV_ii, isNV_fr, notNV_fr, ixV_fr0, ixV_fr1, eqV_fr, neV_fr, int1V_b, int1V_i, ixV_hp0, ixV_hp1, isNV_hp, eqV_hp, neV_hp, tyN_fr, lenV_fr, at0, at1, at2, at3, at4, at5, ixN0, ixN1, List.map_cons, List.map_nil, List.replicate, List.cons_append, List.nil_append, List.getElem?_cons_zero, List.getElem?_cons_succ, List.set_cons_zero, List.set_cons_succ, Bool.not_true, Bool.not_false, Bool.false_eq_true, if_true, if_false, ite_true, ite_false, reduceIte, Nat.reduceSub, Nat.reduceAdd, ne_eq, Int.cast_ofNat_Int, Int.reduceBEq, Int.reduceLT, Int.reduceLE, Int.reduceEq, Int.reduceNeg, Int.reduceMul, Int.reduceAdd, Int.reduceSub, decide_true, decide_false, List.length_cons, List.length_nil, beq_self_eq_true, not_false_eq_true, not_true_eq_false]
      · rcases q4 c2 c3 with z | ⟨y1, y2⟩
        · exact absurd z c1
        · have E : kwB (decide (a = 0)) (decide (g = 0)) (decide (a < b)) (decide (-a < b)) = "earlier" := by unfold kwB; rw [d1, decide_eq_true y1, decide_eq_false y2]; rfl
          rw [E]
          simp only [d1, l1, l2, c2, c3, gSlN_eq, slN_r, slN_l, slNK_s, gRevN_eq, revN_r, revNK_s, tupleV_r, tupleV_l, gCallV_eq, gLend_eq, isNotBV_b, gRep_eq, repR_r, gZip_eq, zipR_t, zipR_l, gTry_eq, tryK_nx, tryK_ret, begin_eq, allR_nx, allR_ret, allR_exc, gSkip_eq, gSeq_eq, seqK_nx, seqK_ret, seqK_exc, toS_ok, toS_exc, toST_ok, toST_exc, toSL_ok, toSL_exc, gRet_eq, gAsg_eq, gSet_eq, gExpr_eq, gIfS_eq, gRaise_eq, gBin_eq, gUn_eq, gVar_eq, slotR_some, gC_eq, gArgs_nil, gArgs_cons, gTupE_eq, gLstE_eq, gNewE_eq, gCall_eq, gBi_eq, gB_eq, asB_bl, gAnd_eq, gOr_eq, gNot_eq, gVT_eq, gIf_eq, gChain_eq, chK_t, chK_f, chK_b, bnd_ok, bnd_exc, oo_some, gTo_eq, toK_some, tgName_eq, tgNil_eq, tgCons_eq, tgTup_eq, bind_some, gPar_eq, gCat_eq, catR_r, listV_t, listV_l, blsOf_nil, blsOf_cons, allV_l, isNV_d, notNV_d, parK_ok, parK_exc, gStore_eq, stK_some, gMeth_eq, gFor_eq, gRng1_eq, asI_i, gItL_eq, gItT_eq, asLst_l, asTup_t, addV_ii, subV_ii, mulV_ii, fdivV_ii, modV_ii, shlV_ii, pw6, pw9, pw18, pw19, pw20, pw25, pw30, pw39, ltV_ii, leV_ii, gtV_ii, geV_ii, negV_i, isNV_n, isNV_t, isNV_l, isNV_i, isNV_s, isNV_r, isNV_b, notNV_n, notNV_t, notNV_l, notNV_i, notNV_s, notNV_r, notNV_b, ixV_t, ixV_l, ixV_r, lenV_t, lenV_l, lenV_r, absV_i, max2V_ii, min2V_ii, bitsV_i, setIV_r, setK_some, setL_some, appendM_r, appK_some, appN_ok, isT_r, isK_l, lstK_some, tyK_l, isT_s, isiV_eq, tyN_int, tyN_bl, tyN_non, tyN_str, tyN_tup, tyN_lst, tyN_dct, tyN_r, kk_int_bool, kitK_t, kk_int_str, kk_int_tuple, kk_int_list, kk_int_dict, kk_int_NoneType, kk_bool_int, kk_bool_str, kk_bool_tuple, kk_bool_list, kk_bool_dict, kk_bool_NoneType, kk_str_int, kk_str_bool, kk_str_tuple, kk_str_list, kk_str_dict, kk_str_NoneType, kk_tuple_int, kk_tuple_bool, kk_tuple_str, kk_tuple_list, kk_tuple_dict, kk_tuple_NoneType, kk_list_int, kk_list_bool, kk_list_str, kk_list_tuple, kk_list_dict, kk_list_NoneType, kk_dict_int, kk_dict_bool, kk_dict_str, kk_dict_tuple, kk_dict_list, kk_dict_NoneType, eqV_int, neV_int, isBV_b, neV_bl, eqV_bl, eqV_ii, neV_ii, isNV_fr, notNV_fr, ixV_fr0, ixV_fr1, eqV_fr, neV_fr, int1V_b, int1V_i, ixV_hp0, ixV_hp1, isNV_hp, eqV_hp, neV_hp, tyN_fr, lenV_fr, at0, at1, at2, at3, at4, at5, ixN0, ixN1, List.map_cons, List.map_nil, List.replicate, List.cons_append, List.nil_append, List.getElem?_cons_zero, List.getElem?_cons_succ, List.set_cons_zero, List.set_cons_succ, Bool.not_true, Bool.not_false, Bool.false_eq_true, if_true, if_false, ite_true, ite_false, reduceIte, Nat.reduceSub, Nat.reduceAdd, ne_eq, Int.cast_ofNat_Int, Int.reduceBEq, Int.reduceLT, Int.reduceLE, Int.reduceEq, Int.reduceNeg, Int.reduceMul, Int.reduceAdd, Int.reduceSub, decide_true, decide_false, List.length_cons, List.length_nil, beq_self_eq_true, not_false_eq_true, not_true_eq_false]

noncomputable def g__law_root : GS :=
  (gSeq (gSet 1 (gC (.int 0)))
  (gSeq (gSet 2 (gC (.int 1)))
  (gSeq (gWhile (muI 0) (gB (gBin leV (gBin mulV (gVar 2) (gVar 2)) (gVar 0))) (gSet 2 (gBin mulV (gC (.int 2)) (gVar 2))))
  (gSeq (gWhile (muI 2) (gB (gBin gtV (gVar 2) (gC (.int 0)))) (gSeq (gIfS (gB (gBin leV (gBin mulV (gBin addV (gVar 1) (gVar 2)) (gBin addV (gVar 1) (gVar 2))) (gVar 0))) (gSet 1 (gBin addV (gVar 1) (gVar 2))) gSkip)
  (gSet 2 (gBin fdivV (gVar 2) (gC (.int 2))))))
  (gRet (gVar 1))))))
noncomputable def F__law_root : Fn := fun xs st => allR (g__law_root (begin 3 1 xs) st)
theorem le_of_sq {f N : Nat} (h : f * f ≤ N) : f ≤ N := by
  by_cases z : f = 0
  · omega
  · have : f * 1 ≤ f * f := Nat.mul_le_mul_left f (by omega)
    omega
theorem sz_nat {n N f : Nat} (hN : Sz n (N : Int)) (h : f ≤ N) : Sz n (f : Int) := hN.le (by rw [Int.natAbs_natCast, Int.natAbs_natCast]; exact h)
theorem lr_up (N : Nat) (hN : Sz 4000 (N : Int)) : ∀ (m b j : Nat) (st : List SO), b = 2 ^ j → N + 2 ≤ m + b → 0 < m → (∀ i, i < j → 2 ^ i * 2 ^ i ≤ N) → 
    ∃ j', whl (gB (gBin leV (gBin mulV (gVar 2) (gVar 2)) (gVar 0))) (gSet 2 (gBin mulV (gC (.int 2)) (gVar 2))) m [some (.int N), some (.int 0), some (.int b)] st = .nx [some (.int N), some (.int 0), some (.int ((2 ^ j' : Nat) : Int))] st ∧ N < 2 ^ j' * 2 ^ j' ∧ ∀ i, i < j' → 2 ^ i * 2 ^ i ≤ N
  | 0, b, j, st, _, _, h, _ => by omega
  | m + 1, b, j, st, hb, hm, _, hj => by
    have b0 : 0 < b := by rw [hb]; exact Nat.pow_pos (by omega)
    have sb : Sz 4001 (b : Int) := by
      unfold Sz at *
      rw [Int.natAbs_natCast] at *
      by_cases z : j = 0
      · subst z; rw [hb]; exact Nat.one_lt_two_pow (by decide)
      · have := hj (j - 1) (by omega)
        have e : 2 ^ j = 2 ^ (j - 1) * 2 := by rw [← Nat.pow_succ]; congr 1; omega
        have : 2 ^ (j - 1) * 1 ≤ 2 ^ (j - 1) * 2 ^ (j - 1) := Nat.mul_le_mul_left _ (Nat.pow_pos (by omega))
        rw [hb, e]
        have e2 : 2 ^ 4001 = 2 ^ 4000 * 2 := Nat.pow_succ ..
        rw [e2]
        exact Nat.mul_lt_mul_of_pos_right (by omega) (by omega)
    have mo := sb.mulOk sb (by omega)
    have m2 : MulOk 2 (b : Int) := Sz.mulOk (n := 2) (by unfold Sz; decide) sb (by omega)
    have eb : (decide ((b : Int) * b ≤ (N : Int))) = decide (b * b ≤ N) := by
      rw [← Int.natCast_mul]
      by_cases q : b * b ≤ N
      · rw [decide_eq_true q, decide_eq_true (by omega)]
      · rw [decide_eq_false q, decide_eq_false (by omega)]
    have e2 : (2 : Int) * (b : Int) = ((2 ^ (j + 1) : Nat) : Int) := by rw [Nat.pow_succ, ← hb, Nat.mul_comm, Int.natCast_mul]; rfl
    unfold whl
    simp only [gSlN_eq, slN_r, slN_l, slNK_s, gRevN_eq, revN_r, revNK_s, tupleV_r, tupleV_l, gCallV_eq, gLend_eq, isNotBV_b, gRep_eq, repR_r, gZip_eq, zipR_t, zipR_l, gTry_eq, tryK_nx, tryK_ret, begin_eq, allR_nx, allR_ret, allR_exc, gSkip_eq, gSeq_eq, seqK_nx, seqK_ret, seqK_exc, toS_ok, toS_exc, toST_ok, toST_exc, toSL_ok, toSL_exc, gRet_eq, gAsg_eq, gSet_eq, gExpr_eq, gIfS_eq, gRaise_eq, gBin_eq, gUn_eq, gVar_eq, slotR_some, gC_eq, gArgs_nil, gArgs_cons, gTupE_eq, gLstE_eq, gNewE_eq, gCall_eq, gBi_eq, gB_eq, asB_bl, gAnd_eq, gOr_eq, gNot_eq, gVT_eq, gIf_eq, gChain_eq, chK_t, chK_f, chK_b, bnd_ok, bnd_exc, oo_some, gTo_eq, toK_some, tgName_eq, tgNil_eq, tgCons_eq, tgTup_eq, bind_some, gPar_eq, gCat_eq, catR_r, listV_t, listV_l, blsOf_nil, blsOf_cons, allV_l, isNV_d, notNV_d, parK_ok, parK_exc, gStore_eq, stK_some, gMeth_eq, gFor_eq, gRng1_eq, asI_i, gItL_eq, gItT_eq, asLst_l, asTup_t, addV_ii, subV_ii, mulV_ii, fdivV_ii, modV_ii, shlV_ii, pw6, pw9, pw18, pw19, pw20, pw25, pw30, pw39, ltV_ii, leV_ii, gtV_ii, geV_ii, negV_i, isNV_n, isNV_t, isNV_l, isNV_i, isNV_s, isNV_r, isNV_b, notNV_n, notNV_t, notNV_l, notNV_i, notNV_s, notNV_r, notNV_b, ixV_t, ixV_l, ixV_r, lenV_t, lenV_l, lenV_r, absV_i, max2V_ii, min2V_ii, bitsV_i, setIV_r, setK_some, setL_some, appendM_r, appK_some, appN_ok, isT_r, isK_l, lstK_some, tyK_l, isT_s, isiV_eq, tyN_int, tyN_bl, tyN_non, tyN_str, tyN_tup, tyN_lst, tyN_dct, tyN_r, kk_int_bool, kitK_t, kk_int_str, kk_int_tuple, kk_int_list, kk_int_dict, kk_int_NoneType, kk_bool_int, kk_bool_str, kk_bool_tuple, kk_bool_list, kk_bool_dict, kk_bool_NoneType, kk_str_int, kk_str_bool, kk_str_tuple, kk_str_list, kk_str_dict, kk_str_NoneType, kk_tuple_int, kk_tuple_bool, kk_tuple_str, kk_tuple_list, kk_tuple_dict, kk_tuple_NoneType, kk_list_int, kk_list_bool, kk_list_str, kk_list_tuple, kk_list_dict, kk_list_NoneType, kk_dict_int, kk_dict_bool, kk_dict_str, kk_dict_tuple, kk_dict_list, kk_dict_NoneType, eqV_int, neV_int, isBV_b, neV_bl, eqV_bl, eqV_ii, neV_ii, isNV_fr, notNV_fr, ixV_fr0, ixV_fr1, eqV_fr, neV_fr, int1V_b, int1V_i, ixV_hp0, ixV_hp1, isNV_hp, eqV_hp, neV_hp, tyN_fr, lenV_fr, at0, at1, at2, at3, at4, at5, ixN0, ixN1, List.map_cons, List.map_nil, List.replicate, List.cons_append, List.nil_append, List.getElem?_cons_zero, List.getElem?_cons_succ, List.set_cons_zero, List.set_cons_succ, Bool.not_true, Bool.not_false, Bool.false_eq_true, if_true, if_false, ite_true, ite_false, reduceIte, Nat.reduceSub, Nat.reduceAdd, ne_eq, Int.cast_ofNat_Int, Int.reduceBEq, Int.reduceLT, Int.reduceLE, Int.reduceEq, Int.reduceNeg, Int.reduceMul, Int.reduceAdd, Int.reduceSub, decide_true, decide_false, List.length_cons, List.length_nil, beq_self_eq_true, not_false_eq_true, not_true_eq_false, mo, eb, decide_eq_true_eq, m2, e2]
    by_cases q : b * b ≤ N
    · rw [if_pos q]
      have bN : b ≤ N := by
        have : b * 1 ≤ b * b := Nat.mul_le_mul_left _ (by omega)
        omega
      have h2 : 2 ^ (j + 1) = 2 * b := by rw [Nat.pow_succ, ← hb]; omega
      exact lr_up N hN m (2 ^ (j + 1)) (j + 1) st rfl (by omega) (by omega) (fun i hi => by
        by_cases z : i < j
        · exact hj i z
        · have : i = j := by omega
          subst this; rw [← hb]; exact q)
    · rw [if_neg q]
      exact ⟨j, by rw [← hb], by rw [← hb]; omega, hj⟩
theorem lr_down (N : Nat) (hN : Sz 4000 (N : Int)) : ∀ (j m f : Nat) (st : List SO), j + 2 ≤ m → f * f ≤ N → N < (f + 2 ^ (j + 1)) * (f + 2 ^ (j + 1)) → j ≤ 4000 →
    whl (gB (gBin gtV (gVar 2) (gC (.int 0)))) (gSeq (gIfS (gB (gBin leV (gBin mulV (gBin addV (gVar 1) (gVar 2)) (gBin addV (gVar 1) (gVar 2))) (gVar 0))) (gSet 1 (gBin addV (gVar 1) (gVar 2))) gSkip)
  (gSet 2 (gBin fdivV (gVar 2) (gC (.int 2))))) m [some (.int N), some (.int f), some (.int ((2 ^ j : Nat) : Int))] st = .nx [some (.int N), some (.int (isq N)), some (.int 0)] st := by
  intro j
  induction j with
  | zero =>
    intro m f st hm h1 h2 h3
    obtain ⟨m, rfl⟩ : ∃ k, m = k + 2 := ⟨m - 2, by omega⟩
    have sf : Sz 4001 ((f : Int) + 1) := by
      have : Sz 4000 (f : Int) := sz_nat hN (le_of_sq h1)
      exact this.addm (by unfold Sz; exact Nat.one_lt_two_pow (by decide))
    have mo := sf.mulOk sf (by omega)
    have d2 : DivOk 1 2 := divOk_of (b := 2) (by decide) (by decide)
    have e0 : ((2 ^ 0 : Nat) : Int) = 1 := rfl
    have f12 : Int.fdiv 1 2 = 0 := by decide
    have eb : (decide (((f : Int) + 1) * ((f : Int) + 1) ≤ (N : Int))) = decide ((f + 1) * (f + 1) ≤ N) := by
      have : ((f : Int) + 1) * ((f : Int) + 1) = (((f + 1) * (f + 1) : Nat) : Int) := by rw [Int.natCast_mul]; rfl
      rw [this]
      by_cases q : (f + 1) * (f + 1) ≤ N
      · rw [decide_eq_true q, decide_eq_true (by omega)]
      · rw [decide_eq_false q, decide_eq_false (by omega)]
    unfold whl
    simp only [gSlN_eq, slN_r, slN_l, slNK_s, gRevN_eq, revN_r, revNK_s, tupleV_r, tupleV_l, gCallV_eq, gLend_eq, isNotBV_b, gRep_eq, repR_r, gZip_eq, zipR_t, zipR_l, gTry_eq, tryK_nx, tryK_ret, begin_eq, allR_nx, allR_ret, allR_exc, gSkip_eq, gSeq_eq, seqK_nx, seqK_ret, seqK_exc, toS_ok, toS_exc, toST_ok, toST_exc, toSL_ok, toSL_exc, gRet_eq, gAsg_eq, gSet_eq, gExpr_eq, gIfS_eq, gRaise_eq, gBin_eq, gUn_eq, gVar_eq, slotR_some, gC_eq, gArgs_nil, gArgs_cons, gTupE_eq, gLstE_eq, gNewE_eq, gCall_eq, gBi_eq, gB_eq, asB_bl, gAnd_eq, gOr_eq, gNot_eq, gVT_eq, gIf_eq, gChain_eq, chK_t, chK_f, chK_b, bnd_ok, bnd_exc, oo_some, gTo_eq, toK_some, tgName_eq, tgNil_eq, tgCons_eq, tgTup_eq, bind_some, gPar_eq, gCat_eq, catR_r, listV_t, listV_l, blsOf_nil, blsOf_cons, allV_l, isNV_d, notNV_d, parK_ok, parK_exc, gStore_eq, stK_some, gMeth_eq, gFor_eq, gRng1_eq, asI_i, gItL_eq, gItT_eq, asLst_l, asTup_t, addV_ii, subV_ii, mulV_ii, fdivV_ii, modV_ii, shlV_ii, pw6, pw9, pw18, pw19, pw20, pw25, pw30, pw39, ltV_ii, leV_ii, gtV_ii, geV_ii, negV_i, isNV_n, isNV_t, isNV_l, isNV_i, isNV_s, isNV_r, isNV_b, notNV_n, notNV_t, notNV_l, notNV_i, notNV_s, notNV_r, notNV_b, ixV_t, ixV_l, ixV_r, lenV_t, lenV_l, lenV_r, absV_i, max2V_ii, min2V_ii, bitsV_i, setIV_r, setK_some, setL_some, appendM_r, appK_some, appN_ok, isT_r, isK_l, lstK_some, tyK_l, isT_s, isiV_eq, tyN_int, tyN_bl, tyN_non, tyN_str, tyN_tup, tyN_lst, tyN_dct, tyN_r, kk_int_bool, kitK_t, kk_int_str, kk_int_tuple, kk_int_list, kk_int_dict, kk_int_NoneType, kk_bool_int, kk_bool_str, kk_bool_tuple, kk_bool_list, kk_bool_dict, kk_bool_NoneType, kk_str_int, kk_str_bool, kk_str_tuple, kk_str_list, kk_str_dict, kk_str_NoneType, kk_tuple_int, kk_tuple_bool, kk_tuple_str, kk_tuple_list, kk_tuple_dict, kk_tuple_NoneType, kk_list_int, kk_list_bool, kk_list_str, kk_list_tuple, kk_list_dict, kk_list_NoneType, kk_dict_int, kk_dict_bool, kk_dict_str, kk_dict_tuple, kk_dict_list, kk_dict_NoneType, eqV_int, neV_int, isBV_b, neV_bl, eqV_bl, eqV_ii, neV_ii, isNV_fr, notNV_fr, ixV_fr0, ixV_fr1, eqV_fr, neV_fr, int1V_b, int1V_i, ixV_hp0, ixV_hp1, isNV_hp, eqV_hp, neV_hp, tyN_fr, lenV_fr, at0, at1, at2, at3, at4, at5, ixN0, ixN1, List.map_cons, List.map_nil, List.replicate, List.cons_append, List.nil_append, List.getElem?_cons_zero, List.getElem?_cons_succ, List.set_cons_zero, List.set_cons_succ, Bool.not_true, Bool.not_false, Bool.false_eq_true, if_true, if_false, ite_true, ite_false, reduceIte, Nat.reduceSub, Nat.reduceAdd, ne_eq, Int.cast_ofNat_Int, Int.reduceBEq, Int.reduceLT, Int.reduceLE, Int.reduceEq, Int.reduceNeg, Int.reduceMul, Int.reduceAdd, Int.reduceSub, decide_true, decide_false, List.length_cons, List.length_nil, beq_self_eq_true, not_false_eq_true, not_true_eq_false, e0, mo, eb, decide_eq_true_eq, d2, f12, and_self]
    by_cases q : (f + 1) * (f + 1) ≤ N
    · rw [if_pos q]
      have : isq N = f + 1 := isq_of q h2
      unfold whl
      simp only [gSlN_eq, slN_r, slN_l, slNK_s, gRevN_eq, revN_r, revNK_s, tupleV_r, tupleV_l, gCallV_eq, gLend_eq, isNotBV_b, gRep_eq, repR_r, gZip_eq, zipR_t, zipR_l, gTry_eq, tryK_nx, tryK_ret, begin_eq, allR_nx, allR_ret, allR_exc, gSkip_eq, gSeq_eq, seqK_nx, seqK_ret, seqK_exc, toS_ok, toS_exc, toST_ok, toST_exc, toSL_ok, toSL_exc, gRet_eq, gAsg_eq, gSet_eq, gExpr_eq, gIfS_eq, gRaise_eq, gBin_eq, gUn_eq, gVar_eq, slotR_some, gC_eq, gArgs_nil, gArgs_cons, gTupE_eq, gLstE_eq, gNewE_eq, gCall_eq, gBi_eq, gB_eq, asB_bl, gAnd_eq, gOr_eq, gNot_eq, gVT_eq, gIf_eq, gChain_eq, chK_t, chK_f, chK_b, bnd_ok, bnd_exc, oo_some, gTo_eq, toK_some, tgName_eq, tgNil_eq, tgCons_eq, tgTup_eq, bind_some, gPar_eq, gCat_eq, catR_r, listV_t, listV_l, blsOf_nil, blsOf_cons, allV_l, isNV_d, notNV_d, parK_ok, parK_exc, gStore_eq, stK_some, gMeth_eq, gFor_eq, gRng1_eq, asI_i, gItL_eq, gItT_eq, asLst_l, asTup_t, addV_ii, subV_ii, mulV_ii, fdivV_ii, modV_ii, shlV_ii, pw6, pw9, pw18, pw19, pw20, pw25, pw30, pw39, ltV_ii, leV_ii, gtV_ii, geV_ii, negV_i, isNV_n, isNV_t, isNV_l, isNV_i, isNV_s, isNV_r, isNV_b, notNV_n, notNV_t, notNV_l, notNV_i, notNV_s, notNV_r, notNV_b, ixV_t, ixV_l, ixV_r, lenV_t, lenV_l, lenV_r, absV_i, max2V_ii, min2V_ii, bitsV_i, setIV_r, setK_some, setL_some, appendM_r, appK_some, appN_ok, isT_r, isK_l, lstK_some, tyK_l, isT_s, isiV_eq, tyN_int, tyN_bl, tyN_non, tyN_str, tyN_tup, tyN_lst, tyN_dct, tyN_r, kk_int_bool, kitK_t, kk_int_str, kk_int_tuple, kk_int_list, kk_int_dict, kk_int_NoneType, kk_bool_int, kk_bool_str, kk_bool_tuple, kk_bool_list, kk_bool_dict, kk_bool_NoneType, kk_str_int, kk_str_bool, kk_str_tuple, kk_str_list, kk_str_dict, kk_str_NoneType, kk_tuple_int, kk_tuple_bool, kk_tuple_str, kk_tuple_list, kk_tuple_dict, kk_tuple_NoneType, kk_list_int, kk_list_bool, kk_list_str, kk_list_tuple, kk_list_dict, kk_list_NoneType, kk_dict_int, kk_dict_bool, kk_dict_str, kk_dict_tuple, kk_dict_list, kk_dict_NoneType, eqV_int, neV_int, isBV_b, neV_bl, eqV_bl, eqV_ii, neV_ii, isNV_fr, notNV_fr, ixV_fr0, ixV_fr1, eqV_fr, neV_fr, int1V_b, int1V_i, ixV_hp0, ixV_hp1, isNV_hp, eqV_hp, neV_hp, tyN_fr, lenV_fr, at0, at1, at2, at3, at4, at5, ixN0, ixN1, List.map_cons, List.map_nil, List.replicate, List.cons_append, List.nil_append, List.getElem?_cons_zero, List.getElem?_cons_succ, List.set_cons_zero, List.set_cons_succ, Bool.not_true, Bool.not_false, Bool.false_eq_true, if_true, if_false, ite_true, ite_false, reduceIte, Nat.reduceSub, Nat.reduceAdd, ne_eq, Int.cast_ofNat_Int, Int.reduceBEq, Int.reduceLT, Int.reduceLE, Int.reduceEq, Int.reduceNeg, Int.reduceMul, Int.reduceAdd, Int.reduceSub, decide_true, decide_false, List.length_cons, List.length_nil, beq_self_eq_true, not_false_eq_true, not_true_eq_false, d2, f12, and_self, this, Int.natCast_add]
      try rfl
    · rw [if_neg q]
      have : isq N = f := isq_of h1 (by omega)
      unfold whl
      simp only [gSlN_eq, slN_r, slN_l, slNK_s, gRevN_eq, revN_r, revNK_s, tupleV_r, tupleV_l, gCallV_eq, gLend_eq, isNotBV_b, gRep_eq, repR_r, gZip_eq, zipR_t, zipR_l, gTry_eq, tryK_nx, tryK_ret, begin_eq, allR_nx, allR_ret, allR_exc, gSkip_eq, gSeq_eq, seqK_nx, seqK_ret, seqK_exc, toS_ok, toS_exc, toST_ok, toST_exc, toSL_ok, toSL_exc, gRet_eq, gAsg_eq, gSet_eq, gExpr_eq, gIfS_eq, gRaise_eq, gBin_eq, gUn_eq, gVar_eq, slotR_some, gC_eq, gArgs_nil, gArgs_cons, gTupE_eq, gLstE_eq, gNewE_eq, gCall_eq, gBi_eq, gB_eq, asB_bl, gAnd_eq, gOr_eq, gNot_eq, gVT_eq, gIf_eq, gChain_eq, chK_t, chK_f, chK_b, bnd_ok, bnd_exc, oo_some, gTo_eq, toK_some, tgName_eq, tgNil_eq, tgCons_eq, tgTup_eq, bind_some, gPar_eq, gCat_eq, catR_r, listV_t, listV_l, blsOf_nil, blsOf_cons, allV_l, isNV_d, notNV_d, parK_ok, parK_exc, gStore_eq, stK_some, gMeth_eq, gFor_eq, gRng1_eq, asI_i, gItL_eq, gItT_eq, asLst_l, asTup_t, addV_ii, subV_ii, mulV_ii, fdivV_ii, modV_ii, shlV_ii, pw6, pw9, pw18, pw19, pw20, pw25, pw30, pw39, ltV_ii, leV_ii, gtV_ii, geV_ii, negV_i, isNV_n, isNV_t, isNV_l, isNV_i, isNV_s, isNV_r, isNV_b, notNV_n, notNV_t, notNV_l, notNV_i, notNV_s, notNV_r, notNV_b, ixV_t, ixV_l, ixV_r, lenV_t, lenV_l, lenV_r, absV_i, max2V_ii, min2V_ii, bitsV_i, setIV_r, setK_some, setL_some, appendM_r, appK_some, appN_ok, isT_r, isK_l, lstK_some, tyK_l, isT_s, isiV_eq, tyN_int, tyN_bl, tyN_non, tyN_str, tyN_tup, tyN_lst, tyN_dct, tyN_r, kk_int_bool, kitK_t, kk_int_str, kk_int_tuple, kk_int_list, kk_int_dict, kk_int_NoneType, kk_bool_int, kk_bool_str, kk_bool_tuple, kk_bool_list, kk_bool_dict, kk_bool_NoneType, kk_str_int, kk_str_bool, kk_str_tuple, kk_str_list, kk_str_dict, kk_str_NoneType, kk_tuple_int, kk_tuple_bool, kk_tuple_str, kk_tuple_list, kk_tuple_dict, kk_tuple_NoneType, kk_list_int, kk_list_bool, kk_list_str, kk_list_tuple, kk_list_dict, kk_list_NoneType, kk_dict_int, kk_dict_bool, kk_dict_str, kk_dict_tuple, kk_dict_list, kk_dict_NoneType, eqV_int, neV_int, isBV_b, neV_bl, eqV_bl, eqV_ii, neV_ii, isNV_fr, notNV_fr, ixV_fr0, ixV_fr1, eqV_fr, neV_fr, int1V_b, int1V_i, ixV_hp0, ixV_hp1, isNV_hp, eqV_hp, neV_hp, tyN_fr, lenV_fr, at0, at1, at2, at3, at4, at5, ixN0, ixN1, List.map_cons, List.map_nil, List.replicate, List.cons_append, List.nil_append, List.getElem?_cons_zero, List.getElem?_cons_succ, List.set_cons_zero, List.set_cons_succ, Bool.not_true, Bool.not_false, Bool.false_eq_true, if_true, if_false, ite_true, ite_false, reduceIte, Nat.reduceSub, Nat.reduceAdd, ne_eq, Int.cast_ofNat_Int, Int.reduceBEq, Int.reduceLT, Int.reduceLE, Int.reduceEq, Int.reduceNeg, Int.reduceMul, Int.reduceAdd, Int.reduceSub, decide_true, decide_false, List.length_cons, List.length_nil, beq_self_eq_true, not_false_eq_true, not_true_eq_false, d2, f12, and_self, this]
  | succ j ih =>
    intro m f st hm h1 h2 h3
    obtain ⟨m, rfl⟩ : ∃ k, m = k + 1 := ⟨m - 1, by omega⟩
    have sf0 : Sz 4000 (f : Int) := sz_nat hN (le_of_sq h1)
    have sp : Sz 4002 ((2 ^ (j + 1) : Nat) : Int) := by unfold Sz; rw [Int.natAbs_natCast]; exact Nat.pow_lt_pow_right (by omega) (by omega)
    have sf : Sz 4003 ((f : Int) + ((2 ^ (j + 1) : Nat) : Int)) := (sf0.mono (by omega)).addm sp
    have mo := sf.mulOk sf (by omega)
    have d2 : ∀ i, DivOk i 2 := fun i => divOk_of (b := 2) (by decide) (by decide)
    have p0 : 0 < 2 ^ (j + 1) := Nat.pow_pos (by omega)
    have pd : (0 : Int) < ((2 ^ (j + 1) : Nat) : Int) := by omega
    have eh : Int.fdiv ((2 ^ (j + 1) : Nat) : Int) 2 = ((2 ^ j : Nat) : Int) := by
      rw [Int.fdiv_eq_ediv_of_nonneg _ (by omega), Nat.pow_succ, Int.natCast_mul]
      exact Int.mul_ediv_cancel _ (by decide)
    have e2p : 2 ^ (j + 1 + 1) = 2 ^ (j + 1) + 2 ^ (j + 1) := by rw [Nat.pow_succ]; omega
    rw [e2p] at h2
    generalize hg : 2 ^ (j + 1) = g at *
    have eb : (decide (((f : Int) + (g : Int)) * ((f : Int) + (g : Int)) ≤ (N : Int))) = decide ((f + g) * (f + g) ≤ N) := by
      have : ((f : Int) + (g : Int)) * ((f : Int) + (g : Int)) = (((f + g) * (f + g) : Nat) : Int) := by rw [Int.natCast_mul, Int.natCast_add]
      rw [this]
      by_cases q : (f + g) * (f + g) ≤ N
      · rw [decide_eq_true q, decide_eq_true (by omega)]
      · rw [decide_eq_false q, decide_eq_false (by omega)]
    unfold whl
    simp only [gSlN_eq, slN_r, slN_l, slNK_s, gRevN_eq, revN_r, revNK_s, tupleV_r, tupleV_l, gCallV_eq, gLend_eq, isNotBV_b, gRep_eq, repR_r, gZip_eq, zipR_t, zipR_l, gTry_eq, tryK_nx, tryK_ret, begin_eq, allR_nx, allR_ret, allR_exc, gSkip_eq, gSeq_eq, seqK_nx, seqK_ret, seqK_exc, toS_ok, toS_exc, toST_ok, toST_exc, toSL_ok, toSL_exc, gRet_eq, gAsg_eq, gSet_eq, gExpr_eq, gIfS_eq, gRaise_eq, gBin_eq, gUn_eq, gVar_eq, slotR_some, gC_eq, gArgs_nil, gArgs_cons, gTupE_eq, gLstE_eq, gNewE_eq, gCall_eq, gBi_eq, gB_eq, asB_bl, gAnd_eq, gOr_eq, gNot_eq, gVT_eq, gIf_eq, gChain_eq, chK_t, chK_f, chK_b, bnd_ok, bnd_exc, oo_some, gTo_eq, toK_some, tgName_eq, tgNil_eq, tgCons_eq, tgTup_eq, bind_some, gPar_eq, gCat_eq, catR_r, listV_t, listV_l, blsOf_nil, blsOf_cons, allV_l, isNV_d, notNV_d, parK_ok, parK_exc, gStore_eq, stK_some, gMeth_eq, gFor_eq, gRng1_eq, asI_i, gItL_eq, gItT_eq, asLst_l, asTup_t, addV_ii, subV_ii, mulV_ii, fdivV_ii, modV_ii, shlV_ii, pw6, pw9, pw18, pw19, pw20, pw25, pw30, pw39, ltV_ii, leV_ii, gtV_ii, geV_ii, negV_i, isNV_n, isNV_t, isNV_l, isNV_i, isNV_s, isNV_r, isNV_b, notNV_n, notNV_t, notNV_l, notNV_i, notNV_s, notNV_r, notNV_b, ixV_t, ixV_l, ixV_r, lenV_t, lenV_l, lenV_r, absV_i, max2V_ii, min2V_ii, bitsV_i, setIV_r, setK_some, setL_some, appendM_r, appK_some, appN_ok, isT_r, isK_l, lstK_some, tyK_l, isT_s, isiV_eq, tyN_int, tyN_bl, tyN_non, tyN_str, tyN_tup, tyN_lst, tyN_dct, tyN_r, kk_int_bool, kitK_t, kk_int_str, kk_int_tuple, kk_int_list, kk_int_dict, kk_int_NoneType, kk_bool_int, kk_bool_str, kk_bool_tuple, kk_bool_list, kk_bool_dict, kk_bool_NoneType, kk_str_int, kk_str_bool, kk_str_tuple, kk_str_list, kk_str_dict, kk_str_NoneType, kk_tuple_int, kk_tuple_bool, kk_tuple_str, kk_tuple_list, kk_tuple_dict, kk_tuple_NoneType, kk_list_int, kk_list_bool, kk_list_str, kk_list_tuple, kk_list_dict, kk_list_NoneType, kk_dict_int, kk_dict_bool, kk_dict_str, kk_dict_tuple, kk_dict_list, kk_dict_NoneType, eqV_int, neV_int, isBV_b, neV_bl, eqV_bl, eqV_ii, neV_ii, isNV_fr, notNV_fr, ixV_fr0, ixV_fr1, eqV_fr, neV_fr, int1V_b, int1V_i, ixV_hp0, ixV_hp1, isNV_hp, eqV_hp, neV_hp, tyN_fr, lenV_fr, at0, at1, at2, at3, at4, at5, ixN0, ixN1, List.map_cons, List.map_nil, List.replicate, List.cons_append, List.nil_append, List.getElem?_cons_zero, List.getElem?_cons_succ, List.set_cons_zero, List.set_cons_succ, Bool.not_true, Bool.not_false, Bool.false_eq_true, if_true, if_false, ite_true, ite_false, reduceIte, Nat.reduceSub, Nat.reduceAdd, ne_eq, Int.cast_ofNat_Int, Int.reduceBEq, Int.reduceLT, Int.reduceLE, Int.reduceEq, Int.reduceNeg, Int.reduceMul, Int.reduceAdd, Int.reduceSub, decide_true, decide_false, List.length_cons, List.length_nil, beq_self_eq_true, not_false_eq_true, not_true_eq_false, mo, eb, decide_eq_true_eq, d2, eh, and_self, pd]
    by_cases q : (f + g) * (f + g) ≤ N
    · rw [if_pos q]
      have ec : (f : Int) + (g : Int) = ((f + g : Nat) : Int) := (Int.natCast_add f g).symm
      simp only [gSlN_eq, slN_r, slN_l, slNK_s, gRevN_eq, revN_r, revNK_s, tupleV_r, tupleV_l, gCallV_eq, gLend_eq, isNotBV_b, gRep_eq, repR_r, gZip_eq, zipR_t, zipR_l, gTry_eq, tryK_nx, tryK_ret, begin_eq, allR_nx, allR_ret, allR_exc, gSkip_eq, gSeq_eq, seqK_nx, seqK_ret, seqK_exc, toS_ok, toS_exc, toST_ok, toST_exc, toSL_ok, toSL_exc, gRet_eq, gAsg_eq, gSet_eq, gExpr_eq, gIfS_eq, gRaise_eq, gBin_eq, gUn_eq, gVar_eq, slotR_some, gC_eq, gArgs_nil, gArgs_cons, gTupE_eq, gLstE_eq, gNewE_eq, gCall_eq, gBi_eq, gB_eq, asB_bl, gAnd_eq, gOr_eq, gNot_eq, gVT_eq, gIf_eq, gChain_eq, chK_t, chK_f, chK_b, bnd_ok, bnd_exc, oo_some, gTo_eq, toK_some, tgName_eq, tgNil_eq, tgCons_eq, tgTup_eq, bind_some, gPar_eq, gCat_eq, catR_r, listV_t, listV_l, blsOf_nil, blsOf_cons, allV_l, isNV_d, notNV_d, parK_ok, parK_exc, gStore_eq, stK_some, gMeth_eq, gFor_eq, gRng1_eq, asI_i, gItL_eq, gItT_eq, asLst_l, asTup_t, addV_ii, subV_ii, mulV_ii, fdivV_ii, modV_ii, shlV_ii, pw6, pw9, pw18, pw19, pw20, pw25, pw30, pw39, ltV_ii, leV_ii, gtV_ii, geV_ii, negV_i, isNV_n, isNV_t, isNV_l, isNV_i, isNV_s, isNV_r, isNV_b, notNV_n, notNV_t, notNV_l, notNV_i, notNV_s, notNV_r, notNV_b, ixV_t, ixV_l, ixV_r, lenV_t, lenV_l, lenV_r, absV_i, max2V_ii, min2V_ii, bitsV_i, setIV_r, setK_some, setL_some, appendM_r, appK_some, appN_ok, isT_r, isK_l, lstK_some, tyK_l, isT_s, isiV_eq, tyN_int, tyN_bl, tyN_non, tyN_str, tyN_tup, tyN_lst, tyN_dct, tyN_r, kk_int_bool, kitK_t, kk_int_str, kk_int_tuple, kk_int_list, kk_int_dict, kk_int_NoneType, kk_bool_int, kk_bool_str, kk_bool_tuple, kk_bool_list, kk_bool_dict, kk_bool_NoneType, kk_str_int, kk_str_bool, kk_str_tuple, kk_str_list, kk_str_dict, kk_str_NoneType, kk_tuple_int, kk_tuple_bool, kk_tuple_str, kk_tuple_list, kk_tuple_dict, kk_tuple_NoneType, kk_list_int, kk_list_bool, kk_list_str, kk_list_tuple, kk_list_dict, kk_list_NoneType, kk_dict_int, kk_dict_bool, kk_dict_str, kk_dict_tuple, kk_dict_list, kk_dict_NoneType, eqV_int, neV_int, isBV_b, neV_bl, eqV_bl, eqV_ii, neV_ii, isNV_fr, notNV_fr, ixV_fr0, ixV_fr1, eqV_fr, neV_fr, int1V_b, int1V_i, ixV_hp0, ixV_hp1, isNV_hp, eqV_hp, neV_hp, tyN_fr, lenV_fr, at0, at1, at2, at3, at4, at5, ixN0, ixN1, List.map_cons, List.map_nil, List.replicate, List.cons_append, List.nil_append, List.getElem?_cons_zero, List.getElem?_cons_succ, List.set_cons_zero, List.set_cons_succ, Bool.not_true, Bool.not_false, Bool.false_eq_true, if_true, if_false, ite_true, ite_false, reduceIte, Nat.reduceSub, Nat.reduceAdd, ne_eq, Int.cast_ofNat_Int, Int.reduceBEq, Int.reduceLT, Int.reduceLE, Int.reduceEq, Int.reduceNeg, Int.reduceMul, Int.reduceAdd, Int.reduceSub, decide_true, decide_false, List.length_cons, List.length_nil, beq_self_eq_true, not_false_eq_true, not_true_eq_false, d2, eh, and_self, ec]
      exact ih m (f + g) st (by omega) q (by rw [Nat.add_assoc]; exact h2) (by omega)
    · rw [if_neg q]
      simp only [gSlN_eq, slN_r, slN_l, slNK_s, gRevN_eq, revN_r, revNK_s, tupleV_r, tupleV_l, gCallV_eq, gLend_eq, isNotBV_b, gRep_eq, repR_r, gZip_eq, zipR_t, zipR_l, gTry_eq, tryK_nx, tryK_ret, begin_eq, allR_nx, allR_ret, allR_exc, gSkip_eq, gSeq_eq, seqK_nx, seqK_ret, seqK_exc, toS_ok, toS_exc, toST_ok, toST_exc, toSL_ok, toSL_exc, gRet_eq, gAsg_eq, gSet_eq, gExpr_eq, gIfS_eq, gRaise_eq, gBin_eq, gUn_eq, gVar_eq, slotR_some, gC_eq, gArgs_nil, gArgs_cons, gTupE_eq, gLstE_eq, gNewE_eq, gCall_eq, gBi_eq, gB_eq, asB_bl, gAnd_eq, gOr_eq, gNot_eq, gVT_eq, gIf_eq, gChain_eq, chK_t, chK_f, chK_b, bnd_ok, bnd_exc, oo_some, gTo_eq, toK_some, tgName_eq, tgNil_eq, tgCons_eq, tgTup_eq, bind_some, gPar_eq, gCat_eq, catR_r, listV_t, listV_l, blsOf_nil, blsOf_cons, allV_l, isNV_d, notNV_d, parK_ok, parK_exc, gStore_eq, stK_some, gMeth_eq, gFor_eq, gRng1_eq, asI_i, gItL_eq, gItT_eq, asLst_l, asTup_t, addV_ii, subV_ii, mulV_ii, fdivV_ii, modV_ii, shlV_ii, pw6, pw9, pw18, pw19, pw20, pw25, pw30, pw39, ltV_ii, leV_ii, gtV_ii, geV_ii, negV_i, isNV_n, isNV_t, isNV_l, isNV_i, isNV_s, isNV_r, isNV_b, notNV_n, notNV_t, notNV_l, notNV_i, notNV_s, notNV_r, notNV_b, ixV_t, ixV_l, ixV_r, lenV_t, lenV_l, lenV_r, absV_i, max2V_ii, min2V_ii, bitsV_i, setIV_r, setK_some, setL_some, appendM_r, appK_some, appN_ok, isT_r, isK_l, lstK_some, tyK_l, isT_s, isiV_eq, tyN_int, tyN_bl, tyN_non, tyN_str, tyN_tup, tyN_lst, tyN_dct, tyN_r, kk_int_bool, kitK_t, kk_int_str, kk_int_tuple, kk_int_list, kk_int_dict, kk_int_NoneType, kk_bool_int, kk_bool_str, kk_bool_tuple, kk_bool_list, kk_bool_dict, kk_bool_NoneType, kk_str_int, kk_str_bool, kk_str_tuple, kk_str_list, kk_str_dict, kk_str_NoneType, kk_tuple_int, kk_tuple_bool, kk_tuple_str, kk_tuple_list, kk_tuple_dict, kk_tuple_NoneType, kk_list_int, kk_list_bool, kk_list_str, kk_list_tuple, kk_list_dict, kk_list_NoneType, kk_dict_int, kk_dict_bool, kk_dict_str, kk_dict_tuple, kk_dict_list, kk_dict_NoneType, eqV_int, neV_int, isBV_b, neV_bl, eqV_bl, eqV_ii, neV_ii, isNV_fr, notNV_fr, ixV_fr0, ixV_fr1, eqV_fr, neV_fr, int1V_b, int1V_i, ixV_hp0, ixV_hp1, isNV_hp, eqV_hp, neV_hp, tyN_fr, lenV_fr, at0, at1, at2, at3, at4, at5, ixN0, ixN1, List.map_cons, List.map_nil, List.replicate, List.cons_append, List.nil_append, List.getElem?_cons_zero, List.getElem?_cons_succ, List.set_cons_zero, List.set_cons_succ, Bool.not_true, Bool.not_false, Bool.false_eq_true, if_true, if_false, ite_true, ite_false, reduceIte, Nat.reduceSub, Nat.reduceAdd, ne_eq, Int.cast_ofNat_Int, Int.reduceBEq, Int.reduceLT, Int.reduceLE, Int.reduceEq, Int.reduceNeg, Int.reduceMul, Int.reduceAdd, Int.reduceSub, decide_true, decide_false, List.length_cons, List.length_nil, beq_self_eq_true, not_false_eq_true, not_true_eq_false, d2, eh, and_self]
      exact ih m f st (by omega) h1 (by omega) (by omega)
theorem lroot_ok {N : Nat} {st : List SO} (hN : Sz 4000 (N : Int)) : F__law_root [.int N] st = .ok (.int (isq N)) st := by
  obtain ⟨j, e1, h1, hj⟩ := lr_up N hN (N + 1) 1 0 st rfl (by omega) (by omega) (fun i hi => by omega)
  have mu : muI 0 [some (.int N), some (.int 0), some (.int 1)] = N + 1 := by show ((N : Int).natAbs + 1) = N + 1; rw [Int.natAbs_natCast]
  have mu2 : muI 2 [some (.int N), some (.int 0), some (.int ((2 ^ j : Nat) : Int))] = 2 ^ j + 1 := by show (((2 ^ j : Nat) : Int).natAbs + 1) = 2 ^ j + 1; rw [Int.natAbs_natCast]
  have j4 : j ≤ 4000 := by
    by_cases h : j ≤ 4000
    · exact h
    · have a := hj 4000 (by omega)
      have b := le_of_sq a
      have c : N < 2 ^ 4000 := by have := hN; unfold Sz at this; rw [Int.natAbs_natCast] at this; exact this
      exact absurd (Nat.lt_of_lt_of_le c b) (Nat.lt_irrefl _)
  have up : 2 ^ j ≤ 2 ^ (j + 1) := Nat.pow_le_pow_right (by omega) (by omega)
  have big : N < (0 + 2 ^ (j + 1)) * (0 + 2 ^ (j + 1)) := by
    rw [Nat.zero_add]
    exact Nat.lt_of_lt_of_le h1 (Nat.mul_le_mul up up)
  have jj : j + 2 ≤ 2 ^ j + 1 := by
    have : j < 2 ^ j := Nat.lt_two_pow_self
    omega
  have e2 := lr_down N hN j (2 ^ j + 1) 0 st jj (by omega) big j4
  have z : ((0 : Nat) : Int) = 0 := rfl
  rw [z] at e2
  have s1 : gWhile (muI 0) (gB (gBin leV (gBin mulV (gVar 2) (gVar 2)) (gVar 0))) (gSet 2 (gBin mulV (gC (.int 2)) (gVar 2))) [some (.int N), some (.int 0), some (.int 1)] st = .nx [some (.int N), some (.int 0), some (.int ((2 ^ j : Nat) : Int))] st := by
    unfold gWhile; rw [mu]; exact e1
  have s2 : gWhile (muI 2) (gB (gBin gtV (gVar 2) (gC (.int 0)))) (gSeq (gIfS (gB (gBin leV (gBin mulV (gBin addV (gVar 1) (gVar 2)) (gBin addV (gVar 1) (gVar 2))) (gVar 0))) (gSet 1 (gBin addV (gVar 1) (gVar 2))) gSkip)
  (gSet 2 (gBin fdivV (gVar 2) (gC (.int 2))))) [some (.int N), some (.int 0), some (.int ((2 ^ j : Nat) : Int))] st = .nx [some (.int N), some (.int (isq N)), some (.int 0)] st := by
    unfold gWhile; rw [mu2]; exact e2
  unfold F__law_root g__law_root
  rw [seq_nx (b := _) (show gSet 1 (gC (.int 0)) (begin 3 1 [.int N]) st = .nx [some (.int N), some (.int 0), none] st from rfl) rfl]
  rw [seq_nx (b := _) (show gSet 2 (gC (.int 1)) [some (.int N), some (.int 0), none] st = .nx [some (.int N), some (.int 0), some (.int 1)] st from rfl) rfl]
  rw [seq_nx s1 rfl, seq_nx s2 rfl]
  rfl

noncomputable def g__law_rooted (F__law_root : Fn) : GS :=
  (gSeq (gIfS (gB (gBin ltV (gBin ixV (gVar 0) (gC (.int 0))) (gC (.int 0)))) (gRet (gC .non)) gSkip)
  (gSeq (gPar 1 2 (gCall F__law_root [(gBin ixV (gVar 0) (gC (.int 0)))]) (gCall F__law_root [(gBin ixV (gVar 0) (gC (.int 1)))]))
  (gSeq (gIfS (gOr (gB (gBin neV (gBin mulV (gVar 1) (gVar 1)) (gBin ixV (gVar 0) (gC (.int 0))))) (gB (gBin neV (gBin mulV (gVar 2) (gVar 2)) (gBin ixV (gVar 0) (gC (.int 1)))))) (gRet (gC .non)) gSkip)
  (gRet (gTupE [(gVar 1), (gVar 2)])))))
noncomputable def F__law_rooted : Fn := fun xs st => allR (g__law_rooted F__law_root (begin 3 1 xs) st)
theorem lrooted_ok {q : Rat} {st : List SO} (hq : RS 4000 q) : F__law_rooted [fr q] st = .ok (frO (rootQ q)) st := by
  by_cases h0 : q.num < 0
  · have hs : ¬ isSq q := fun h => by have := h.1; omega
    have : rootQ q = none := if_neg hs
    simp only [F__law_rooted, g__law_rooted, gSlN_eq, slN_r, slN_l, slNK_s, gRevN_eq, revN_r, revNK_s, tupleV_r, tupleV_l, gCallV_eq, gLend_eq, isNotBV_b, gRep_eq, repR_r, gZip_eq, zipR_t, zipR_l, gTry_eq, tryK_nx, tryK_ret, begin_eq, allR_nx, allR_ret, allR_exc, gSkip_eq, gSeq_eq, seqK_nx, seqK_ret, seqK_exc, toS_ok, toS_exc, toST_ok, toST_exc, toSL_ok, toSL_exc, gRet_eq, gAsg_eq, gSet_eq, gExpr_eq, gIfS_eq, gRaise_eq, gBin_eq, gUn_eq, gVar_eq, slotR_some, gC_eq, gArgs_nil, gArgs_cons, gTupE_eq, gLstE_eq, gNewE_eq, gCall_eq, gBi_eq, gB_eq, asB_bl, gAnd_eq, gOr_eq, gNot_eq, gVT_eq, gIf_eq, gChain_eq, chK_t, chK_f, chK_b, bnd_ok, bnd_exc, oo_some, gTo_eq, toK_some, tgName_eq, tgNil_eq, tgCons_eq, tgTup_eq, bind_some, gPar_eq, gCat_eq, catR_r, listV_t, listV_l, blsOf_nil, blsOf_cons, allV_l, isNV_d, notNV_d, parK_ok, parK_exc, gStore_eq, stK_some, gMeth_eq, gFor_eq, gRng1_eq, asI_i, gItL_eq, gItT_eq, asLst_l, asTup_t, addV_ii, subV_ii, mulV_ii, fdivV_ii, modV_ii, shlV_ii, pw6, pw9, pw18, pw19, pw20, pw25, pw30, pw39, ltV_ii, leV_ii, gtV_ii, geV_ii, negV_i, isNV_n, isNV_t, isNV_l, isNV_i, isNV_s, isNV_r, isNV_b, notNV_n, notNV_t, notNV_l, notNV_i, notNV_s, notNV_r, notNV_b, ixV_t, ixV_l, ixV_r, lenV_t, lenV_l, lenV_r, absV_i, max2V_ii, min2V_ii, bitsV_i, setIV_r, setK_some, setL_some, appendM_r, appK_some, appN_ok, isT_r, isK_l, lstK_some, tyK_l, isT_s, isiV_eq, tyN_int, tyN_bl, tyN_non, tyN_str, tyN_tup, tyN_lst, tyN_dct, tyN_r, kk_int_bool, kitK_t, kk_int_str, kk_int_tuple, kk_int_list, kk_int_dict, kk_int_NoneType, kk_bool_int, kk_bool_str, kk_bool_tuple, kk_bool_list, kk_bool_dict, kk_bool_NoneType, kk_str_int, kk_str_bool, kk_str_tuple, kk_str_list, kk_str_dict, kk_str_NoneType, kk_tuple_int, kk_tuple_bool, kk_tuple_str, kk_tuple_list, kk_tuple_dict, kk_tuple_NoneType, kk_list_int, kk_list_bool, kk_list_str, kk_list_tuple, kk_list_dict, kk_list_NoneType, kk_dict_int, kk_dict_bool, kk_dict_str, kk_dict_tuple, kk_dict_list, kk_dict_NoneType, eqV_int, neV_int, isBV_b, neV_bl, eqV_bl, eqV_ii, neV_ii, isNV_fr, notNV_fr, ixV_fr0, ixV_fr1, eqV_fr, neV_fr, int1V_b, int1V_i, ixV_hp0, ixV_hp1, isNV_hp, eqV_hp, neV_hp, tyN_fr, lenV_fr, at0, at1, at2, at3, at4, at5, ixN0, ixN1, List.map_cons, List.map_nil, List.replicate, List.cons_append, List.nil_append, List.getElem?_cons_zero, List.getElem?_cons_succ, List.set_cons_zero, List.set_cons_succ, Bool.not_true, Bool.not_false, Bool.false_eq_true, if_true, if_false, ite_true, ite_false, reduceIte, Nat.reduceSub, Nat.reduceAdd, ne_eq, Int.cast_ofNat_Int, Int.reduceBEq, Int.reduceLT, Int.reduceLE, Int.reduceEq, Int.reduceNeg, Int.reduceMul, Int.reduceAdd, Int.reduceSub, decide_true, decide_false, List.length_cons, List.length_nil, beq_self_eq_true, not_false_eq_true, not_true_eq_false, fr, h0, this, frO]
  · obtain ⟨N, hN⟩ : ∃ N : Nat, q.num = (N : Int) := ⟨q.num.toNat, by omega⟩
    have sN : Sz 4000 (N : Int) := by rw [← hN]; exact hq.1
    have tN : q.num.toNat = N := by omega
    have r1 := lroot_ok (st := st) sN
    have r2 := lroot_ok (st := st) hq.den
    have s1 : Sz 4000 (isq N : Int) := sz_nat sN (isq_self_le N)
    have s2 : Sz 4000 (isq q.den : Int) := sz_nat hq.den (isq_self_le q.den)
    have m1 := s1.mulOk s1 (by omega)
    have m2 := s2.mulOk s2 (by omega)
    have e1 : ((isq N : Int) * (isq N : Int) == (N : Int)) = decide (isq N * isq N = N) := by
      rw [← Int.natCast_mul]
      by_cases z : isq N * isq N = N
      · rw [decide_eq_true z, z]; simp
      · rw [decide_eq_false z]
        have : ¬ ((isq N * isq N : Nat) : Int) = (N : Int) := by omega
        simpa using this
    have e2 : ((isq q.den : Int) * (isq q.den : Int) == (q.den : Int)) = decide (isq q.den * isq q.den = q.den) := by
      rw [← Int.natCast_mul]
      by_cases z : isq q.den * isq q.den = q.den
      · rw [decide_eq_true z, z]; simp
      · rw [decide_eq_false z]
        have : ¬ ((isq q.den * isq q.den : Nat) : Int) = (q.den : Int) := by omega
        simpa using this
    have hN0 : ¬ ((N : Int) < 0) := by omega
    by_cases z1 : isq N * isq N = N
    · by_cases z2 : isq q.den * isq q.den = q.den
      · have hs : isSq q := ⟨by omega, by rw [tN]; exact z1, z2⟩
        obtain ⟨p1, p2⟩ := isSq_parts hs
        have : rootQ q = some (Rat.divInt (isq q.num.toNat) (isq q.den)) := if_pos hs
        rw [this]
        simp only [F__law_rooted, g__law_rooted, gSlN_eq, slN_r, slN_l, slNK_s, gRevN_eq, revN_r, revNK_s, tupleV_r, tupleV_l, gCallV_eq, gLend_eq, isNotBV_b, gRep_eq, repR_r, gZip_eq, zipR_t, zipR_l, gTry_eq, tryK_nx, tryK_ret, begin_eq, allR_nx, allR_ret, allR_exc, gSkip_eq, gSeq_eq, seqK_nx, seqK_ret, seqK_exc, toS_ok, toS_exc, toST_ok, toST_exc, toSL_ok, toSL_exc, gRet_eq, gAsg_eq, gSet_eq, gExpr_eq, gIfS_eq, gRaise_eq, gBin_eq, gUn_eq, gVar_eq, slotR_some, gC_eq, gArgs_nil, gArgs_cons, gTupE_eq, gLstE_eq, gNewE_eq, gCall_eq, gBi_eq, gB_eq, asB_bl, gAnd_eq, gOr_eq, gNot_eq, gVT_eq, gIf_eq, gChain_eq, chK_t, chK_f, chK_b, bnd_ok, bnd_exc, oo_some, gTo_eq, toK_some, tgName_eq, tgNil_eq, tgCons_eq, tgTup_eq, bind_some, gPar_eq, gCat_eq, catR_r, listV_t, listV_l, blsOf_nil, blsOf_cons, allV_l, isNV_d, notNV_d, parK_ok, parK_exc, gStore_eq, stK_some, gMeth_eq, gFor_eq, gRng1_eq, asI_i, gItL_eq, gItT_eq, asLst_l, asTup_t, addV_ii, subV_ii, mulV_ii, fdivV_ii, modV_ii, shlV_ii, pw6, pw9, pw18, pw19, pw20, pw25, pw30, pw39, ltV_ii, leV_ii, gtV_ii, geV_ii, negV_i, isNV_n, isNV_t, isNV_l, isNV_i, isNV_s, isNV_r, isNV_b, notNV_n, notNV_t, notNV_l, notNV_i, notNV_s, notNV_r, notNV_b, ixV_t, ixV_l, ixV_r, lenV_t, lenV_l, lenV_r, absV_i, max2V_ii, min2V_ii, bitsV_i, setIV_r, setK_some, setL_some, appendM_r, appK_some, appN_ok, isT_r, isK_l, lstK_some, tyK_l, isT_s, isiV_eq, tyN_int, tyN_bl, tyN_non, tyN_str, tyN_tup, tyN_lst, tyN_dct, tyN_r, kk_int_bool, kitK_t, kk_int_str, kk_int_tuple, kk_int_list, kk_int_dict, kk_int_NoneType, kk_bool_int, kk_bool_str, kk_bool_tuple, kk_bool_list, kk_bool_dict, kk_bool_NoneType, kk_str_int, kk_str_bool, kk_str_tuple, kk_str_list, kk_str_dict, kk_str_NoneType, kk_tuple_int, kk_tuple_bool, kk_tuple_str, kk_tuple_list, kk_tuple_dict, kk_tuple_NoneType, kk_list_int, kk_list_bool, kk_list_str, kk_list_tuple, kk_list_dict, kk_list_NoneType, kk_dict_int, kk_dict_bool, kk_dict_str, kk_dict_tuple, kk_dict_list, kk_dict_NoneType, eqV_int, neV_int, isBV_b, neV_bl, eqV_bl, eqV_ii, neV_ii, isNV_fr, notNV_fr, ixV_fr0, ixV_fr1, eqV_fr, neV_fr, int1V_b, int1V_i, ixV_hp0, ixV_hp1, isNV_hp, eqV_hp, neV_hp, tyN_fr, lenV_fr, at0, at1, at2, at3, at4, at5, ixN0, ixN1, List.map_cons, List.map_nil, List.replicate, List.cons_append, List.nil_append, List.getElem?_cons_zero, List.getElem?_cons_succ, List.set_cons_zero, List.set_cons_succ, Bool.not_true, Bool.not_false, Bool.false_eq_true, if_true, if_false, ite_true, ite_false, reduceIte, Nat.reduceSub, Nat.reduceAdd, ne_eq, Int.cast_ofNat_Int, Int.reduceBEq, Int.reduceLT, Int.reduceLE, Int.reduceEq, Int.reduceNeg, Int.reduceMul, Int.reduceAdd, Int.reduceSub, decide_true, decide_false, List.length_cons, List.length_nil, beq_self_eq_true, not_false_eq_true, not_true_eq_false, fr, frO, hN, hN0, r1, r2, m1, m2, e1, e2, z1, z2, p1, p2]
        rw [hN, Int.toNat_natCast] at p1 p2
        first
          | done
          | simp only [p1, p2, Int.toNat_natCast]
      · have hs : ¬ isSq q := fun h => z2 h.2.2
        have : rootQ q = none := if_neg hs
        simp only [F__law_rooted, g__law_rooted, gSlN_eq, slN_r, slN_l, slNK_s, gRevN_eq, revN_r, revNK_s, tupleV_r, tupleV_l, gCallV_eq, gLend_eq, isNotBV_b, gRep_eq, repR_r, gZip_eq, zipR_t, zipR_l, gTry_eq, tryK_nx, tryK_ret, begin_eq, allR_nx, allR_ret, allR_exc, gSkip_eq, gSeq_eq, seqK_nx, seqK_ret, seqK_exc, toS_ok, toS_exc, toST_ok, toST_exc, toSL_ok, toSL_exc, gRet_eq, gAsg_eq, gSet_eq, gExpr_eq, gIfS_eq, gRaise_eq, gBin_eq, gUn_eq, gVar_eq, slotR_some, gC_eq, gArgs_nil, gArgs_cons, gTupE_eq, gLstE_eq, gNewE_eq, gCall_eq, gBi_eq, gB_eq, asB_bl, gAnd_eq, gOr_eq, gNot_eq, gVT_eq, gIf_eq, gChain_eq, chK_t, chK_f, chK_b, bnd_ok, bnd_exc, oo_some, gTo_eq, toK_some, tgName_eq, tgNil_eq, tgCons_eq, tgTup_eq, bind_some, gPar_eq, gCat_eq, catR_r, listV_t, listV_l, blsOf_nil, blsOf_cons, allV_l, isNV_d, notNV_d, parK_ok, parK_exc, gStore_eq, stK_some, gMeth_eq, gFor_eq, gRng1_eq, asI_i, gItL_eq, gItT_eq, asLst_l, asTup_t, addV_ii, subV_ii, mulV_ii, fdivV_ii, modV_ii, shlV_ii, pw6, pw9, pw18, pw19, pw20, pw25, pw30, pw39, ltV_ii, leV_ii, gtV_ii, geV_ii, negV_i, isNV_n, isNV_t, isNV_l, isNV_i, isNV_s, isNV_r, isNV_b, notNV_n, notNV_t, notNV_l, notNV_i, notNV_s, notNV_r, notNV_b, ixV_t, ixV_l, ixV_r, lenV_t, lenV_l, lenV_r, absV_i, max2V_ii, min2V_ii, bitsV_i, setIV_r, setK_some, setL_some, appendM_r, appK_some, appN_ok, isT_r, isK_l, lstK_some, tyK_l, isT_s, isiV_eq, tyN_int, tyN_bl, tyN_non, tyN_str, tyN_tup, tyN_lst, tyN_dct, tyN_r, kk_int_bool, kitK_t, kk_int_str, kk_int_tuple, kk_int_list, kk_int_dict, kk_int_NoneType, kk_bool_int, kk_bool_str, kk_bool_tuple, kk_bool_list, kk_bool_dict, kk_bool_NoneType, kk_str_int, kk_str_bool, kk_str_tuple, kk_str_list, kk_str_dict, kk_str_NoneType, kk_tuple_int, kk_tuple_bool, kk_tuple_str, kk_tuple_list, kk_tuple_dict, kk_tuple_NoneType, kk_list_int, kk_list_bool, kk_list_str, kk_list_tuple, kk_list_dict, kk_list_NoneType, kk_dict_int, kk_dict_bool, kk_dict_str, kk_dict_tuple, kk_dict_list, kk_dict_NoneType, eqV_int, neV_int, isBV_b, neV_bl, eqV_bl, eqV_ii, neV_ii, isNV_fr, notNV_fr, ixV_fr0, ixV_fr1, eqV_fr, neV_fr, int1V_b, int1V_i, ixV_hp0, ixV_hp1, isNV_hp, eqV_hp, neV_hp, tyN_fr, lenV_fr, at0, at1, at2, at3, at4, at5, ixN0, ixN1, List.map_cons, List.map_nil, List.replicate, List.cons_append, List.nil_append, List.getElem?_cons_zero, List.getElem?_cons_succ, List.set_cons_zero, List.set_cons_succ, Bool.not_true, Bool.not_false, Bool.false_eq_true, if_true, if_false, ite_true, ite_false, reduceIte, Nat.reduceSub, Nat.reduceAdd, ne_eq, Int.cast_ofNat_Int, Int.reduceBEq, Int.reduceLT, Int.reduceLE, Int.reduceEq, Int.reduceNeg, Int.reduceMul, Int.reduceAdd, Int.reduceSub, decide_true, decide_false, List.length_cons, List.length_nil, beq_self_eq_true, not_false_eq_true, not_true_eq_false, fr, frO, this, hN, hN0, r1, r2, m1, m2, e1, e2, z1, z2]
    · have hs : ¬ isSq q := fun h => z1 (by have := h.2.1; rw [tN] at this; exact this)
      have : rootQ q = none := if_neg hs
      simp only [F__law_rooted, g__law_rooted, gSlN_eq, slN_r, slN_l, slNK_s, gRevN_eq, revN_r, revNK_s, tupleV_r, tupleV_l, gCallV_eq, gLend_eq, isNotBV_b, gRep_eq, repR_r, gZip_eq, zipR_t, zipR_l, gTry_eq, tryK_nx, tryK_ret, begin_eq, allR_nx, allR_ret, allR_exc, gSkip_eq, gSeq_eq, seqK_nx, seqK_ret, seqK_exc, toS_ok, toS_exc, toST_ok, toST_exc, toSL_ok, toSL_exc, gRet_eq, gAsg_eq, gSet_eq, gExpr_eq, gIfS_eq, gRaise_eq, gBin_eq, gUn_eq, gVar_eq, slotR_some, gC_eq, gArgs_nil, gArgs_cons, gTupE_eq, gLstE_eq, gNewE_eq, gCall_eq, gBi_eq, gB_eq, asB_bl, gAnd_eq, gOr_eq, gNot_eq, gVT_eq, gIf_eq, gChain_eq, chK_t, chK_f, chK_b, bnd_ok, bnd_exc, oo_some, gTo_eq, toK_some, tgName_eq, tgNil_eq, tgCons_eq, tgTup_eq, bind_some, gPar_eq, gCat_eq, catR_r, listV_t, listV_l, blsOf_nil, blsOf_cons, allV_l, isNV_d, notNV_d, parK_ok, parK_exc, gStore_eq, stK_some, gMeth_eq, gFor_eq, gRng1_eq, asI_i, gItL_eq, gItT_eq, asLst_l, asTup_t, addV_ii, subV_ii, mulV_ii, fdivV_ii, modV_ii, shlV_ii, pw6, pw9, pw18, pw19, pw20, pw25, pw30, pw39, ltV_ii, leV_ii, gtV_ii, geV_ii, negV_i, isNV_n, isNV_t, isNV_l, isNV_i, isNV_s, isNV_r, isNV_b, notNV_n, notNV_t, notNV_l, notNV_i, notNV_s, notNV_r, notNV_b, ixV_t, ixV_l, ixV_r, lenV_t, lenV_l, lenV_r, absV_i, max2V_ii, min2V_ii, bitsV_i, setIV_r, setK_some, setL_some, appendM_r, appK_some, appN_ok, isT_r, isK_l, lstK_some, tyK_l, isT_s, isiV_eq, tyN_int, tyN_bl, tyN_non, tyN_str, tyN_tup, tyN_lst, tyN_dct, tyN_r, kk_int_bool, kitK_t, kk_int_str, kk_int_tuple, kk_int_list, kk_int_dict, kk_int_NoneType, kk_bool_int, kk_bool_str, kk_bool_tuple, kk_bool_list, kk_bool_dict, kk_bool_NoneType, kk_str_int, kk_str_bool, kk_str_tuple, kk_str_list, kk_str_dict, kk_str_NoneType, kk_tuple_int, kk_tuple_bool, kk_tuple_str, kk_tuple_list, kk_tuple_dict, kk_tuple_NoneType, kk_list_int, kk_list_bool, kk_list_str, kk_list_tuple, kk_list_dict, kk_list_NoneType, kk_dict_int, kk_dict_bool, kk_dict_str, kk_dict_tuple, kk_dict_list, kk_dict_NoneType, eqV_int, neV_int, isBV_b, neV_bl, eqV_bl, eqV_ii, neV_ii, isNV_fr, notNV_fr, ixV_fr0, ixV_fr1, eqV_fr, neV_fr, int1V_b, int1V_i, ixV_hp0, ixV_hp1, isNV_hp, eqV_hp, neV_hp, tyN_fr, lenV_fr, at0, at1, at2, at3, at4, at5, ixN0, ixN1, List.map_cons, List.map_nil, List.replicate, List.cons_append, List.nil_append, List.getElem?_cons_zero, List.getElem?_cons_succ, List.set_cons_zero, List.set_cons_succ, Bool.not_true, Bool.not_false, Bool.false_eq_true, if_true, if_false, ite_true, ite_false, reduceIte, Nat.reduceSub, Nat.reduceAdd, ne_eq, Int.cast_ofNat_Int, Int.reduceBEq, Int.reduceLT, Int.reduceLE, Int.reduceEq, Int.reduceNeg, Int.reduceMul, Int.reduceAdd, Int.reduceSub, decide_true, decide_false, List.length_cons, List.length_nil, beq_self_eq_true, not_false_eq_true, not_true_eq_false, fr, frO, this, hN, hN0, r1, r2, m1, m2, e1, e2, z1]

noncomputable def g__law_plain_own (F__law_word : Fn) (F__law_rooted : Fn) (F__law_own : Fn) : GS :=
  (gSeq (gIfS (gB (gBin neV (gCall F__law_word [(gVar 0), (gVar 1)]) (gC (.str "later")))) (gRet (gC .non)) gSkip)
  (gRet (gCall F__law_rooted [(gCall F__law_own [(gVar 0), (gVar 1)])])))
noncomputable def F__law_plain_own : Fn := fun xs st => allR (g__law_plain_own F__law_word F__law_rooted F__law_own (begin 2 2 xs) st)
-- needs: own_time
theorem lpo_no {n : Nat} {h k : Rat × Rat} {st : List SO} (a : HR n h) (b : HR n k) (hn : n ≤ 400) (l : lat h k = false) : F__law_plain_own [hq h, hq k] st = .ok .non st := by
  have e3 := lword_ok (st := st) a.t a.x b.t b.x (by omega)
  have e4 := neV_str (st := st) (sto_kw (k.1 - h.1) (k.2 - h.2)) sto_lat
  unfold lat at l
  rw [l] at e4
  simp only [F__law_plain_own, g__law_plain_own, gSlN_eq, slN_r, slN_l, slNK_s, gRevN_eq, revN_r, revNK_s, tupleV_r, tupleV_l, gCallV_eq, gLend_eq, isNotBV_b, gRep_eq, repR_r, gZip_eq, zipR_t, zipR_l, gTry_eq, tryK_nx, tryK_ret, begin_eq, allR_nx, allR_ret, allR_exc, gSkip_eq, gSeq_eq, seqK_nx, seqK_ret, seqK_exc, toS_ok, toS_exc, toST_ok, toST_exc, toSL_ok, toSL_exc, gRet_eq, gAsg_eq, gSet_eq, gExpr_eq, gIfS_eq, gRaise_eq, gBin_eq, gUn_eq, gVar_eq, slotR_some, gC_eq, gArgs_nil, gArgs_cons, gTupE_eq, gLstE_eq, gNewE_eq, gCall_eq, gBi_eq, gB_eq, asB_bl, gAnd_eq, gOr_eq, gNot_eq, gVT_eq, gIf_eq, gChain_eq, chK_t, chK_f, chK_b, bnd_ok, bnd_exc, oo_some, gTo_eq, toK_some, tgName_eq, tgNil_eq, tgCons_eq, tgTup_eq, bind_some, gPar_eq, gCat_eq, catR_r, listV_t, listV_l, blsOf_nil, blsOf_cons, allV_l, isNV_d, notNV_d, parK_ok, parK_exc, gStore_eq, stK_some, gMeth_eq, gFor_eq, gRng1_eq, asI_i, gItL_eq, gItT_eq, asLst_l, asTup_t, addV_ii, subV_ii, mulV_ii, fdivV_ii, modV_ii, shlV_ii, pw6, pw9, pw18, pw19, pw20, pw25, pw30, pw39, ltV_ii, leV_ii, gtV_ii, geV_ii, negV_i, isNV_n, isNV_t, isNV_l, isNV_i, isNV_s, isNV_r, isNV_b, notNV_n, notNV_t, notNV_l, notNV_i, notNV_s, notNV_r, notNV_b, ixV_t, ixV_l, ixV_r, lenV_t, lenV_l, lenV_r, absV_i, max2V_ii, min2V_ii, bitsV_i, setIV_r, setK_some, setL_some, appendM_r, appK_some, appN_ok, isT_r, isK_l, lstK_some, tyK_l, isT_s, isiV_eq, tyN_int, tyN_bl, tyN_non, tyN_str, tyN_tup, tyN_lst, tyN_dct, tyN_r, kk_int_bool, kitK_t, kk_int_str, kk_int_tuple, kk_int_list, kk_int_dict, kk_int_NoneType, kk_bool_int, kk_bool_str, kk_bool_tuple, kk_bool_list, kk_bool_dict, kk_bool_NoneType, kk_str_int, kk_str_bool, kk_str_tuple, kk_str_list, kk_str_dict, kk_str_NoneType, kk_tuple_int, kk_tuple_bool, kk_tuple_str, kk_tuple_list, kk_tuple_dict, kk_tuple_NoneType, kk_list_int, kk_list_bool, kk_list_str, kk_list_tuple, kk_list_dict, kk_list_NoneType, kk_dict_int, kk_dict_bool, kk_dict_str, kk_dict_tuple, kk_dict_list, kk_dict_NoneType, eqV_int, neV_int, isBV_b, neV_bl, eqV_bl, eqV_ii, neV_ii, isNV_fr, notNV_fr, ixV_fr0, ixV_fr1, eqV_fr, neV_fr, int1V_b, int1V_i, ixV_hp0, ixV_hp1, isNV_hp, eqV_hp, neV_hp, tyN_fr, lenV_fr, at0, at1, at2, at3, at4, at5, ixN0, ixN1, List.map_cons, List.map_nil, List.replicate, List.cons_append, List.nil_append, List.getElem?_cons_zero, List.getElem?_cons_succ, List.set_cons_zero, List.set_cons_succ, Bool.not_true, Bool.not_false, Bool.false_eq_true, if_true, if_false, ite_true, ite_false, reduceIte, Nat.reduceSub, Nat.reduceAdd, ne_eq, Int.cast_ofNat_Int, Int.reduceBEq, Int.reduceLT, Int.reduceLE, Int.reduceEq, Int.reduceNeg, Int.reduceMul, Int.reduceAdd, Int.reduceSub, decide_true, decide_false, List.length_cons, List.length_nil, beq_self_eq_true, not_false_eq_true, not_true_eq_false, hq, e3, e4]
theorem lpo_ok {n : Nat} {h k : Rat × Rat} {st : List SO} (a : HR n h) (b : HR n k) (hn : n ≤ 400) (l : lat h k = true) : F__law_plain_own [hq h, hq k] st = .ok (frO (rootQ (oq h k))) st := by
  have e3 := lword_ok (st := st) a.t a.x b.t b.x (by omega)
  have e4 := neV_str (st := st) (sto_kw (k.1 - h.1) (k.2 - h.2)) sto_lat
  unfold lat at l
  rw [l] at e4
  have e5 := lown_ok (st := st) a b hn
  have r5 := (ownsq_ok (st := st) a b hn).2
  have e6 := lrooted_ok (st := st) (r5.mono (show _ ≤ 4000 by omega))
  simp only [hq] at e5
  simp only [F__law_plain_own, g__law_plain_own, gSlN_eq, slN_r, slN_l, slNK_s, gRevN_eq, revN_r, revNK_s, tupleV_r, tupleV_l, gCallV_eq, gLend_eq, isNotBV_b, gRep_eq, repR_r, gZip_eq, zipR_t, zipR_l, gTry_eq, tryK_nx, tryK_ret, begin_eq, allR_nx, allR_ret, allR_exc, gSkip_eq, gSeq_eq, seqK_nx, seqK_ret, seqK_exc, toS_ok, toS_exc, toST_ok, toST_exc, toSL_ok, toSL_exc, gRet_eq, gAsg_eq, gSet_eq, gExpr_eq, gIfS_eq, gRaise_eq, gBin_eq, gUn_eq, gVar_eq, slotR_some, gC_eq, gArgs_nil, gArgs_cons, gTupE_eq, gLstE_eq, gNewE_eq, gCall_eq, gBi_eq, gB_eq, asB_bl, gAnd_eq, gOr_eq, gNot_eq, gVT_eq, gIf_eq, gChain_eq, chK_t, chK_f, chK_b, bnd_ok, bnd_exc, oo_some, gTo_eq, toK_some, tgName_eq, tgNil_eq, tgCons_eq, tgTup_eq, bind_some, gPar_eq, gCat_eq, catR_r, listV_t, listV_l, blsOf_nil, blsOf_cons, allV_l, isNV_d, notNV_d, parK_ok, parK_exc, gStore_eq, stK_some, gMeth_eq, gFor_eq, gRng1_eq, asI_i, gItL_eq, gItT_eq, asLst_l, asTup_t, addV_ii, subV_ii, mulV_ii, fdivV_ii, modV_ii, shlV_ii, pw6, pw9, pw18, pw19, pw20, pw25, pw30, pw39, ltV_ii, leV_ii, gtV_ii, geV_ii, negV_i, isNV_n, isNV_t, isNV_l, isNV_i, isNV_s, isNV_r, isNV_b, notNV_n, notNV_t, notNV_l, notNV_i, notNV_s, notNV_r, notNV_b, ixV_t, ixV_l, ixV_r, lenV_t, lenV_l, lenV_r, absV_i, max2V_ii, min2V_ii, bitsV_i, setIV_r, setK_some, setL_some, appendM_r, appK_some, appN_ok, isT_r, isK_l, lstK_some, tyK_l, isT_s, isiV_eq, tyN_int, tyN_bl, tyN_non, tyN_str, tyN_tup, tyN_lst, tyN_dct, tyN_r, kk_int_bool, kitK_t, kk_int_str, kk_int_tuple, kk_int_list, kk_int_dict, kk_int_NoneType, kk_bool_int, kk_bool_str, kk_bool_tuple, kk_bool_list, kk_bool_dict, kk_bool_NoneType, kk_str_int, kk_str_bool, kk_str_tuple, kk_str_list, kk_str_dict, kk_str_NoneType, kk_tuple_int, kk_tuple_bool, kk_tuple_str, kk_tuple_list, kk_tuple_dict, kk_tuple_NoneType, kk_list_int, kk_list_bool, kk_list_str, kk_list_tuple, kk_list_dict, kk_list_NoneType, kk_dict_int, kk_dict_bool, kk_dict_str, kk_dict_tuple, kk_dict_list, kk_dict_NoneType, eqV_int, neV_int, isBV_b, neV_bl, eqV_bl, eqV_ii, neV_ii, isNV_fr, notNV_fr, ixV_fr0, ixV_fr1, eqV_fr, neV_fr, int1V_b, int1V_i, ixV_hp0, ixV_hp1, isNV_hp, eqV_hp, neV_hp, tyN_fr, lenV_fr, at0, at1, at2, at3, at4, at5, ixN0, ixN1, List.map_cons, List.map_nil, List.replicate, List.cons_append, List.nil_append, List.getElem?_cons_zero, List.getElem?_cons_succ, List.set_cons_zero, List.set_cons_succ, Bool.not_true, Bool.not_false, Bool.false_eq_true, if_true, if_false, ite_true, ite_false, reduceIte, Nat.reduceSub, Nat.reduceAdd, ne_eq, Int.cast_ofNat_Int, Int.reduceBEq, Int.reduceLT, Int.reduceLE, Int.reduceEq, Int.reduceNeg, Int.reduceMul, Int.reduceAdd, Int.reduceSub, decide_true, decide_false, List.length_cons, List.length_nil, beq_self_eq_true, not_false_eq_true, not_true_eq_false, hq, e3, e4, e5, e6]

noncomputable def g__law_step_right (F__law_same : Fn) (F_own_square : Fn) (F__law_own : Fn) (F__law_told : Fn) (F__law_word : Fn) (F__law_plain_own : Fn) : GS :=
  (gSeq (gIfS (gNot (gB (gCall F__law_same [(gCall F_own_square [(gVar 0), (gVar 1)]), (gCall F__law_own [(gVar 0), (gVar 1)])]))) (gRet (gC (.bl false))) gSkip)
  (gSeq (gSet 2 (gCall F__law_told [(gC (.cls "own_time")), (gLstE [(gVar 0), (gVar 1)])]))
  (gSeq (gIfS (gB (gBin neV (gCall F__law_word [(gVar 0), (gVar 1)]) (gC (.str "later")))) (gRet (gBin eqV (gVar 2) (gC (.str "step")))) gSkip)
  (gSeq (gSet 3 (gCall F__law_plain_own [(gVar 0), (gVar 1)]))
  (gRet (gIf (gB (gBin isNV (gVar 3) (gC .non))) (gBin eqV (gVar 2) (gC (.str "plain"))) (gCall F__law_same [(gVar 2), (gVar 3)])))))))
noncomputable def F__law_step_right : Fn := fun xs st => allR (g__law_step_right F__law_same F_own_square F__law_own F__law_told_11 F__law_word F__law_plain_own (begin 4 2 xs) st)
-- needs: own_time
theorem lstep_ok {n : Nat} {h k : Rat × Rat} {st : List SO} (a : HR n h) (b : HR n k) (hn : n ≤ 400) : F__law_step_right [hq h, hq k] st = .ok (.bl true) st := by
  obtain ⟨e1, r1⟩ := ownsq_ok (st := st) a b hn
  have e2 := lown_ok (st := st) a b hn
  have e3 := lsame_ok (st := st) (r := oq h k) r1 (by omega)
  have e4 : F__law_word [hq h, hq k] st = _ := lword_ok (st := st) a.t a.x b.t b.x (by omega)
  have e5 := neV_str (st := st) (sto_kw (k.1 - h.1) (k.2 - h.2)) sto_lat
  cases l : lat h k with
  | false =>
    have f1 := ltold11_te (owntime_no (st := st) a b hn l) kd_step
    unfold lat at l
    rw [l] at e5
    simp only [F__law_step_right, g__law_step_right, gSlN_eq, slN_r, slN_l, slNK_s, gRevN_eq, revN_r, revNK_s, tupleV_r, tupleV_l, gCallV_eq, gLend_eq, isNotBV_b, gRep_eq, repR_r, gZip_eq, zipR_t, zipR_l, gTry_eq, tryK_nx, tryK_ret, begin_eq, allR_nx, allR_ret, allR_exc, gSkip_eq, gSeq_eq, seqK_nx, seqK_ret, seqK_exc, toS_ok, toS_exc, toST_ok, toST_exc, toSL_ok, toSL_exc, gRet_eq, gAsg_eq, gSet_eq, gExpr_eq, gIfS_eq, gRaise_eq, gBin_eq, gUn_eq, gVar_eq, slotR_some, gC_eq, gArgs_nil, gArgs_cons, gTupE_eq, gLstE_eq, gNewE_eq, gCall_eq, gBi_eq, gB_eq, asB_bl, gAnd_eq, gOr_eq, gNot_eq, gVT_eq, gIf_eq, gChain_eq, chK_t, chK_f, chK_b, bnd_ok, bnd_exc, oo_some, gTo_eq, toK_some, tgName_eq, tgNil_eq, tgCons_eq, tgTup_eq, bind_some, gPar_eq, gCat_eq, catR_r, listV_t, listV_l, blsOf_nil, blsOf_cons, allV_l, isNV_d, notNV_d, parK_ok, parK_exc, gStore_eq, stK_some, gMeth_eq, gFor_eq, gRng1_eq, asI_i, gItL_eq, gItT_eq, asLst_l, asTup_t, addV_ii, subV_ii, mulV_ii, fdivV_ii, modV_ii, shlV_ii, pw6, pw9, pw18, pw19, pw20, pw25, pw30, pw39, ltV_ii, leV_ii, gtV_ii, geV_ii, negV_i, isNV_n, isNV_t, isNV_l, isNV_i, isNV_s, isNV_r, isNV_b, notNV_n, notNV_t, notNV_l, notNV_i, notNV_s, notNV_r, notNV_b, ixV_t, ixV_l, ixV_r, lenV_t, lenV_l, lenV_r, absV_i, max2V_ii, min2V_ii, bitsV_i, setIV_r, setK_some, setL_some, appendM_r, appK_some, appN_ok, isT_r, isK_l, lstK_some, tyK_l, isT_s, isiV_eq, tyN_int, tyN_bl, tyN_non, tyN_str, tyN_tup, tyN_lst, tyN_dct, tyN_r, kk_int_bool, kitK_t, kk_int_str, kk_int_tuple, kk_int_list, kk_int_dict, kk_int_NoneType, kk_bool_int, kk_bool_str, kk_bool_tuple, kk_bool_list, kk_bool_dict, kk_bool_NoneType, kk_str_int, kk_str_bool, kk_str_tuple, kk_str_list, kk_str_dict, kk_str_NoneType, kk_tuple_int, kk_tuple_bool, kk_tuple_str, kk_tuple_list, kk_tuple_dict, kk_tuple_NoneType, kk_list_int, kk_list_bool, kk_list_str, kk_list_tuple, kk_list_dict, kk_list_NoneType, kk_dict_int, kk_dict_bool, kk_dict_str, kk_dict_tuple, kk_dict_list, kk_dict_NoneType, eqV_int, neV_int, isBV_b, neV_bl, eqV_bl, eqV_ii, neV_ii, isNV_fr, notNV_fr, ixV_fr0, ixV_fr1, eqV_fr, neV_fr, int1V_b, int1V_i, ixV_hp0, ixV_hp1, isNV_hp, eqV_hp, neV_hp, tyN_fr, lenV_fr, at0, at1, at2, at3, at4, at5, ixN0, ixN1, List.map_cons, List.map_nil, List.replicate, List.cons_append, List.nil_append, List.getElem?_cons_zero, List.getElem?_cons_succ, List.set_cons_zero, List.set_cons_succ, Bool.not_true, Bool.not_false, Bool.false_eq_true, if_true, if_false, ite_true, ite_false, reduceIte, Nat.reduceSub, Nat.reduceAdd, ne_eq, Int.cast_ofNat_Int, Int.reduceBEq, Int.reduceLT, Int.reduceLE, Int.reduceEq, Int.reduceNeg, Int.reduceMul, Int.reduceAdd, Int.reduceSub, decide_true, decide_false, List.length_cons, List.length_nil, beq_self_eq_true, not_false_eq_true, not_true_eq_false, e1, e2, e3, decide_true, f1, e4, e5, eqV_str sto_step sto_step, beq_step]
  | true =>
    have f2 := lpo_ok (st := st) a b hn l
    cases ho : rootQ (oq h k) with
    | none =>
      have f1 := ltold11_te (owntime_pl (st := st) a b hn l ho) kd_plain
      rw [ho] at f2
      simp only [frO] at f2
      unfold lat at l
      rw [l] at e5
      simp only [F__law_step_right, g__law_step_right, gSlN_eq, slN_r, slN_l, slNK_s, gRevN_eq, revN_r, revNK_s, tupleV_r, tupleV_l, gCallV_eq, gLend_eq, isNotBV_b, gRep_eq, repR_r, gZip_eq, zipR_t, zipR_l, gTry_eq, tryK_nx, tryK_ret, begin_eq, allR_nx, allR_ret, allR_exc, gSkip_eq, gSeq_eq, seqK_nx, seqK_ret, seqK_exc, toS_ok, toS_exc, toST_ok, toST_exc, toSL_ok, toSL_exc, gRet_eq, gAsg_eq, gSet_eq, gExpr_eq, gIfS_eq, gRaise_eq, gBin_eq, gUn_eq, gVar_eq, slotR_some, gC_eq, gArgs_nil, gArgs_cons, gTupE_eq, gLstE_eq, gNewE_eq, gCall_eq, gBi_eq, gB_eq, asB_bl, gAnd_eq, gOr_eq, gNot_eq, gVT_eq, gIf_eq, gChain_eq, chK_t, chK_f, chK_b, bnd_ok, bnd_exc, oo_some, gTo_eq, toK_some, tgName_eq, tgNil_eq, tgCons_eq, tgTup_eq, bind_some, gPar_eq, gCat_eq, catR_r, listV_t, listV_l, blsOf_nil, blsOf_cons, allV_l, isNV_d, notNV_d, parK_ok, parK_exc, gStore_eq, stK_some, gMeth_eq, gFor_eq, gRng1_eq, asI_i, gItL_eq, gItT_eq, asLst_l, asTup_t, addV_ii, subV_ii, mulV_ii, fdivV_ii, modV_ii, shlV_ii, pw6, pw9, pw18, pw19, pw20, pw25, pw30, pw39, ltV_ii, leV_ii, gtV_ii, geV_ii, negV_i, isNV_n, isNV_t, isNV_l, isNV_i, isNV_s, isNV_r, isNV_b, notNV_n, notNV_t, notNV_l, notNV_i, notNV_s, notNV_r, notNV_b, ixV_t, ixV_l, ixV_r, lenV_t, lenV_l, lenV_r, absV_i, max2V_ii, min2V_ii, bitsV_i, setIV_r, setK_some, setL_some, appendM_r, appK_some, appN_ok, isT_r, isK_l, lstK_some, tyK_l, isT_s, isiV_eq, tyN_int, tyN_bl, tyN_non, tyN_str, tyN_tup, tyN_lst, tyN_dct, tyN_r, kk_int_bool, kitK_t, kk_int_str, kk_int_tuple, kk_int_list, kk_int_dict, kk_int_NoneType, kk_bool_int, kk_bool_str, kk_bool_tuple, kk_bool_list, kk_bool_dict, kk_bool_NoneType, kk_str_int, kk_str_bool, kk_str_tuple, kk_str_list, kk_str_dict, kk_str_NoneType, kk_tuple_int, kk_tuple_bool, kk_tuple_str, kk_tuple_list, kk_tuple_dict, kk_tuple_NoneType, kk_list_int, kk_list_bool, kk_list_str, kk_list_tuple, kk_list_dict, kk_list_NoneType, kk_dict_int, kk_dict_bool, kk_dict_str, kk_dict_tuple, kk_dict_list, kk_dict_NoneType, eqV_int, neV_int, isBV_b, neV_bl, eqV_bl, eqV_ii, neV_ii, isNV_fr, notNV_fr, ixV_fr0, ixV_fr1, eqV_fr, neV_fr, int1V_b, int1V_i, ixV_hp0, ixV_hp1, isNV_hp, eqV_hp, neV_hp, tyN_fr, lenV_fr, at0, at1, at2, at3, at4, at5, ixN0, ixN1, List.map_cons, List.map_nil, List.replicate, List.cons_append, List.nil_append, List.getElem?_cons_zero, List.getElem?_cons_succ, List.set_cons_zero, List.set_cons_succ, Bool.not_true, Bool.not_false, Bool.false_eq_true, if_true, if_false, ite_true, ite_false, reduceIte, Nat.reduceSub, Nat.reduceAdd, ne_eq, Int.cast_ofNat_Int, Int.reduceBEq, Int.reduceLT, Int.reduceLE, Int.reduceEq, Int.reduceNeg, Int.reduceMul, Int.reduceAdd, Int.reduceSub, decide_true, decide_false, List.length_cons, List.length_nil, beq_self_eq_true, not_false_eq_true, not_true_eq_false, e1, e2, e3, decide_true, f1, e4, e5, f2, eqV_str sto_plain sto_plain, beq_plain]
    | some o =>
      have f1 := ltold11_t (owntime_ok (st := st) a b hn l ho)
      have ro := r1.root ho
      have f3 := lsame_ok (st := st) (r := o) ro (by omega)
      rw [ho] at f2
      simp only [frO] at f2
      unfold lat at l
      rw [l] at e5
      simp only [F__law_step_right, g__law_step_right, gSlN_eq, slN_r, slN_l, slNK_s, gRevN_eq, revN_r, revNK_s, tupleV_r, tupleV_l, gCallV_eq, gLend_eq, isNotBV_b, gRep_eq, repR_r, gZip_eq, zipR_t, zipR_l, gTry_eq, tryK_nx, tryK_ret, begin_eq, allR_nx, allR_ret, allR_exc, gSkip_eq, gSeq_eq, seqK_nx, seqK_ret, seqK_exc, toS_ok, toS_exc, toST_ok, toST_exc, toSL_ok, toSL_exc, gRet_eq, gAsg_eq, gSet_eq, gExpr_eq, gIfS_eq, gRaise_eq, gBin_eq, gUn_eq, gVar_eq, slotR_some, gC_eq, gArgs_nil, gArgs_cons, gTupE_eq, gLstE_eq, gNewE_eq, gCall_eq, gBi_eq, gB_eq, asB_bl, gAnd_eq, gOr_eq, gNot_eq, gVT_eq, gIf_eq, gChain_eq, chK_t, chK_f, chK_b, bnd_ok, bnd_exc, oo_some, gTo_eq, toK_some, tgName_eq, tgNil_eq, tgCons_eq, tgTup_eq, bind_some, gPar_eq, gCat_eq, catR_r, listV_t, listV_l, blsOf_nil, blsOf_cons, allV_l, isNV_d, notNV_d, parK_ok, parK_exc, gStore_eq, stK_some, gMeth_eq, gFor_eq, gRng1_eq, asI_i, gItL_eq, gItT_eq, asLst_l, asTup_t, addV_ii, subV_ii, mulV_ii, fdivV_ii, modV_ii, shlV_ii, pw6, pw9, pw18, pw19, pw20, pw25, pw30, pw39, ltV_ii, leV_ii, gtV_ii, geV_ii, negV_i, isNV_n, isNV_t, isNV_l, isNV_i, isNV_s, isNV_r, isNV_b, notNV_n, notNV_t, notNV_l, notNV_i, notNV_s, notNV_r, notNV_b, ixV_t, ixV_l, ixV_r, lenV_t, lenV_l, lenV_r, absV_i, max2V_ii, min2V_ii, bitsV_i, setIV_r, setK_some, setL_some, appendM_r, appK_some, appN_ok, isT_r, isK_l, lstK_some, tyK_l, isT_s, isiV_eq, tyN_int, tyN_bl, tyN_non, tyN_str, tyN_tup, tyN_lst, tyN_dct, tyN_r, kk_int_bool, kitK_t, kk_int_str, kk_int_tuple, kk_int_list, kk_int_dict, kk_int_NoneType, kk_bool_int, kk_bool_str, kk_bool_tuple, kk_bool_list, kk_bool_dict, kk_bool_NoneType, kk_str_int, kk_str_bool, kk_str_tuple, kk_str_list, kk_str_dict, kk_str_NoneType, kk_tuple_int, kk_tuple_bool, kk_tuple_str, kk_tuple_list, kk_tuple_dict, kk_tuple_NoneType, kk_list_int, kk_list_bool, kk_list_str, kk_list_tuple, kk_list_dict, kk_list_NoneType, kk_dict_int, kk_dict_bool, kk_dict_str, kk_dict_tuple, kk_dict_list, kk_dict_NoneType, eqV_int, neV_int, isBV_b, neV_bl, eqV_bl, eqV_ii, neV_ii, isNV_fr, notNV_fr, ixV_fr0, ixV_fr1, eqV_fr, neV_fr, int1V_b, int1V_i, ixV_hp0, ixV_hp1, isNV_hp, eqV_hp, neV_hp, tyN_fr, lenV_fr, at0, at1, at2, at3, at4, at5, ixN0, ixN1, List.map_cons, List.map_nil, List.replicate, List.cons_append, List.nil_append, List.getElem?_cons_zero, List.getElem?_cons_succ, List.set_cons_zero, List.set_cons_succ, Bool.not_true, Bool.not_false, Bool.false_eq_true, if_true, if_false, ite_true, ite_false, reduceIte, Nat.reduceSub, Nat.reduceAdd, ne_eq, Int.cast_ofNat_Int, Int.reduceBEq, Int.reduceLT, Int.reduceLE, Int.reduceEq, Int.reduceNeg, Int.reduceMul, Int.reduceAdd, Int.reduceSub, decide_true, decide_false, List.length_cons, List.length_nil, beq_self_eq_true, not_false_eq_true, not_true_eq_false, e1, e2, e3, decide_true, f1, e4, e5, f2, f3]

noncomputable def g__law_way_right (F__law_plain_own : Fn) (F__law_word : Fn) (F__law_told : Fn) (F__law_sum : Fn) (F__law_same : Fn) : GS :=
  (gSeq (gSet 1 (gTupE [(gC (.int 0)), (gC (.int 1))]))
  (gSeq (gFor (gRng2 (gC (.int 1)) (gBi lenV [(gVar 0)])) (tgName 2) (gSeq (gSet 5 (gCall F__law_plain_own [(gBin ixV (gVar 0) (gBin subV (gVar 2) (gC (.int 1)))), (gBin ixV (gVar 0) (gVar 2))]))
  (gSeq (gIfS (gB (gBin neV (gCall F__law_word [(gBin ixV (gVar 0) (gBin subV (gVar 2) (gC (.int 1)))), (gBin ixV (gVar 0) (gVar 2))]) (gC (.str "later")))) (gRet (gBin eqV (gCall F__law_told [(gC (.cls "own_along")), (gLstE [(gVar 0)])]) (gC (.str "step")))) gSkip)
  (gSet 1 (gIf (gOr (gB (gBin isNV (gVar 5) (gC .non))) (gB (gBin isNV (gVar 1) (gC .non)))) (gC .non) (gCall F__law_sum [(gVar 1), (gVar 5)]))))))
  (gSeq (gSet 3 (gBi listV [(gVar 0)]))
  (gSeq (gSet 4 (gCall F__law_told [(gC (.cls "own_along")), (gLstE [(gVar 3)])]))
  (gRet (gVT (gAnd (gB (gBin eqV (gVar 3) (gVar 0))) (gB (gIf (gB (gBin isNV (gVar 1) (gC .non))) (gBin eqV (gVar 4) (gC (.str "plain"))) (gCall F__law_same [(gVar 4), (gVar 1)]))))))))))
noncomputable def F__law_way_right : Fn := fun xs st => allR (g__law_way_right F__law_plain_own F__law_word F__law_told_11 F__law_sum F__law_same (begin 6 1 xs) st)
-- needs: own_along
theorem dat_hq (h : Rat × Rat) : toD (hq h) = some (.tuple [.tuple [.int h.1.num, .int h.1.den], .tuple [.int h.2.num, .int h.2.den]]) := rfl
theorem toDL_hq : ∀ hs : List (Rat × Rat), toDL (hs.map hq) = some (hs.map fun h => PyData.tuple [.tuple [.int h.1.num, .int h.1.den], .tuple [.int h.2.num, .int h.2.den]])
  | [] => rfl
  | h :: hs => by
    show (match toD (hq h) with | some d => (match toDL (hs.map hq) with | some ds => some (d :: ds) | none => none) | none => none) = _
    rw [dat_hq, toDL_hq hs]
    rfl
theorem lay_hq : ∀ hs : List (Rat × Rat), PyData.canLayAll0 (hs.map fun h => PyData.tuple [.tuple [.int h.1.num, .int h.1.den], .tuple [.int h.2.num, .int h.2.den]]) = true
  | [] => rfl
  | h :: hs => by
    show (true && PyData.canLayAll0 (hs.map _)) = true
    rw [lay_hq hs]; rfl
theorem dep_hq : ∀ hs : List (Rat × Rat), PyData.depthAll (hs.map fun h => PyData.tuple [.tuple [.int h.1.num, .int h.1.den], .tuple [.int h.2.num, .int h.2.den]]) ≤ 2
  | [] => by show (0 : Nat) ≤ 2; omega
  | h :: hs => by
    have := dep_hq hs
    show max 2 (PyData.depthAll (hs.map _)) ≤ 2
    omega
theorem eq_way {hs : List (Rat × Rat)} {st : List SO} : eqV st (.lst (hs.map hq)) (.lst (hs.map hq)) = some (.bl true) := by
  have d : toD (.lst (hs.map hq)) = some (.list (hs.map fun h => PyData.tuple [.tuple [.int h.1.num, .int h.1.den], .tuple [.int h.2.num, .int h.2.den]])) := by
    show (match toDL (hs.map hq) with | some ds => some (PyData.list ds) | none => none) = _
    rw [toDL_hq]
  have s : SeqAt.shaped (.list (hs.map fun h => PyData.tuple [.tuple [.int h.1.num, .int h.1.den], .tuple [.int h.2.num, .int h.2.den]])) = true := by
    have := dep_hq hs
    unfold SeqAt.shaped
    rw [show PyData.canLay0 (.list _) = PyData.canLayAll0 _ from rfl, lay_hq, Bool.true_and]
    refine decide_eq_true ?_
    show PyData.depthAll _ + 1 ≤ 64
    omega
  unfold eqV
  rw [eqD_self (st := st) (x := .lst (hs.map hq)) d s]
  rfl
/-- what is due, on the way -/
noncomputable def sumD (hs : List (Rat × Rat)) (i m : Nat) (due : Option Rat) : Option Rat := due.bind (sumO hs i m)
def addO : Option Rat → Option Rat → Option Rat
  | some a, some o => some (a + o)
  | _, _ => none
theorem isN_frO {o : Option Rat} {st : List SO} : isNV st (frO o) .non = some (.bl o.isNone) := by cases o <;> rfl
noncomputable abbrev wayB : GS := (gSeq (gSet 5 (gCall F__law_plain_own [(gBin ixV (gVar 0) (gBin subV (gVar 2) (gC (.int 1)))), (gBin ixV (gVar 0) (gVar 2))]))
  (gSeq (gIfS (gB (gBin neV (gCall F__law_word [(gBin ixV (gVar 0) (gBin subV (gVar 2) (gC (.int 1)))), (gBin ixV (gVar 0) (gVar 2))]) (gC (.str "later")))) (gRet (gBin eqV (gCall F__law_told_11 [(gC (.cls "own_along")), (gLstE [(gVar 0)])]) (gC (.str "step")))) gSkip)
  (gSet 1 (gIf (gOr (gB (gBin isNV (gVar 5) (gC .non))) (gB (gBin isNV (gVar 1) (gC .non)))) (gC .non) (gCall F__law_sum [(gVar 1), (gVar 5)])))))
theorem way_step {n : Nat} {hs : List (Rat × Rat)} {st : List SO} {i : Nat} {due : Option Rat} {y z u : Option PV} (hr : ∀ h ∈ hs, HR n h) (hn : n ≤ 400) (B : SB hs) (h12 : hs.length ≤ 12) (hi : i + 1 < hs.length) (l : lat (gh hs i) (gh hs (i + 1)) = true) (ra : ∀ a, due = some a → RS (50 * i + 1) a) :
    ∃ due' : Option Rat, (∀ m, sumD hs i (m + 1) due = sumD hs (i + 1) m due') ∧ (∀ a, due' = some a → RS (if i + 2 < hs.length then 50 * (i + 1) + 1 else 4000) a) ∧
    ∃ u', wayB [some (.lst (hs.map hq)), some (frO due), some (.int ((i + 1 : Nat) : Int)), y, z, u] st = .nx [some (.lst (hs.map hq)), some (frO due'), some (.int ((i + 1 : Nat) : Int)), y, z, u'] st := by
  have e1 : (((i + 1 : Nat) : Int)) - 1 = ((i : Nat) : Int) := by omega
  have a1 : atI (hs.map hq) ((i : Nat) : Int) = some (hq (gh hs i)) := atN (gh_at (by omega))
  have a2 : atI (hs.map hq) ((i + 1 : Nat) : Int) = some (hq (gh hs (i + 1))) := atN (gh_at (by omega))
  have ha := hr _ (gh_mem (i := i) (by omega))
  have hb := hr _ (gh_mem (i := i + 1) (by omega))
  have bd := B i
  have f1 := lpo_ok (st := st) ha hb hn l
  have f2 : F__law_word [hq (gh hs i), hq (gh hs (i + 1))] st = _ := lword_ok (st := st) ha.t ha.x hb.t hb.x (by omega)
  have f3 := neV_str (st := st) (sto_kw ((gh hs (i + 1)).1 - (gh hs i).1) ((gh hs (i + 1)).2 - (gh hs i).2)) sto_lat
  unfold lat at l
  rw [l] at f3
  have sd : ∀ m, sumD hs i (m + 1) due = sumD hs (i + 1) m (addO due (rootQ (oq (gh hs i) (gh hs (i + 1))))) := fun m => by
    unfold sumD
    cases due with
    | none => rfl
    | some a =>
      show sumO hs i (m + 1) a = _
      unfold sumO
      cases rootQ (oq (gh hs i) (gh hs (i + 1))) with
      | none => rfl
      | some o =>
        rfl
  refine ⟨_, sd, ?_, ?_⟩
  · intro a h
    cases hd : due with
    | none => rw [hd] at h; cases h
    | some a0 =>
      cases ho : rootQ (oq (gh hs i) (gh hs (i + 1))) with
      | none => rw [hd, ho] at h; cases h
      | some o =>
        rw [hd, ho] at h
        have h : some (a0 + o) = some a := h
        cases h
        have r1 := ra a0 hd
        have r2 := bd o hi ho
        split at r2
        · rename_i c; rw [if_pos c]; exact (r1.add r2).mono (by omega)
        · rename_i c; rw [if_neg c]; exact (r1.add r2).mono (by omega)
  · generalize ((i + 1 : Nat) : Int) = I at *
    refine ⟨some (frO (rootQ (oq (gh hs i) (gh hs (i + 1))))), ?_⟩
    cases hd : due with
    | none =>
      cases ho : rootQ (oq (gh hs i) (gh hs (i + 1))) with
      | none =>
        rw [ho] at f1
        simp only [frO] at f1
        simp only [gSlN_eq, slN_r, slN_l, slNK_s, gRevN_eq, revN_r, revNK_s, tupleV_r, tupleV_l, gCallV_eq, gLend_eq, isNotBV_b, gRep_eq, repR_r, gZip_eq, zipR_t, zipR_l, gTry_eq, tryK_nx, tryK_ret, begin_eq, allR_nx, allR_ret, allR_exc, gSkip_eq, gSeq_eq, seqK_nx, seqK_ret, seqK_exc, toS_ok, toS_exc, toST_ok, toST_exc, toSL_ok, toSL_exc, gRet_eq, gAsg_eq, gSet_eq, gExpr_eq, gIfS_eq, gRaise_eq, gBin_eq, gUn_eq, gVar_eq, slotR_some, gC_eq, gArgs_nil, gArgs_cons, gTupE_eq, gLstE_eq, gNewE_eq, gCall_eq, gBi_eq, gB_eq, asB_bl, gAnd_eq, gOr_eq, gNot_eq, gVT_eq, gIf_eq, gChain_eq, chK_t, chK_f, chK_b, bnd_ok, bnd_exc, oo_some, gTo_eq, toK_some, tgName_eq, tgNil_eq, tgCons_eq, tgTup_eq, bind_some, gPar_eq, gCat_eq, catR_r, listV_t, listV_l, blsOf_nil, blsOf_cons, allV_l, isNV_d, notNV_d, parK_ok, parK_exc, gStore_eq, stK_some, gMeth_eq, gFor_eq, gRng1_eq, asI_i, gItL_eq, gItT_eq, asLst_l, asTup_t, addV_ii, subV_ii, mulV_ii, fdivV_ii, modV_ii, shlV_ii, pw6, pw9, pw18, pw19, pw20, pw25, pw30, pw39, ltV_ii, leV_ii, gtV_ii, geV_ii, negV_i, isNV_n, isNV_t, isNV_l, isNV_i, isNV_s, isNV_r, isNV_b, notNV_n, notNV_t, notNV_l, notNV_i, notNV_s, notNV_r, notNV_b, ixV_t, ixV_l, ixV_r, lenV_t, lenV_l, lenV_r, absV_i, max2V_ii, min2V_ii, bitsV_i, setIV_r, setK_some, setL_some, appendM_r, appK_some, appN_ok, isT_r, isK_l, lstK_some, tyK_l, isT_s, isiV_eq, tyN_int, tyN_bl, tyN_non, tyN_str, tyN_tup, tyN_lst, tyN_dct, tyN_r, kk_int_bool, kitK_t, kk_int_str, kk_int_tuple, kk_int_list, kk_int_dict, kk_int_NoneType, kk_bool_int, kk_bool_str, kk_bool_tuple, kk_bool_list, kk_bool_dict, kk_bool_NoneType, kk_str_int, kk_str_bool, kk_str_tuple, kk_str_list, kk_str_dict, kk_str_NoneType, kk_tuple_int, kk_tuple_bool, kk_tuple_str, kk_tuple_list, kk_tuple_dict, kk_tuple_NoneType, kk_list_int, kk_list_bool, kk_list_str, kk_list_tuple, kk_list_dict, kk_list_NoneType, kk_dict_int, kk_dict_bool, kk_dict_str, kk_dict_tuple, kk_dict_list, kk_dict_NoneType, eqV_int, neV_int, isBV_b, neV_bl, eqV_bl, eqV_ii, neV_ii, isNV_fr, notNV_fr, ixV_fr0, ixV_fr1, eqV_fr, neV_fr, int1V_b, int1V_i, ixV_hp0, ixV_hp1, isNV_hp, eqV_hp, neV_hp, tyN_fr, lenV_fr, at0, at1, at2, at3, at4, at5, ixN0, ixN1, List.map_cons, List.map_nil, List.replicate, List.cons_append, List.nil_append, List.getElem?_cons_zero, List.getElem?_cons_succ, List.set_cons_zero, List.set_cons_succ, Bool.not_true, Bool.not_false, Bool.false_eq_true, if_true, if_false, ite_true, ite_false, reduceIte, Nat.reduceSub, Nat.reduceAdd, ne_eq, Int.cast_ofNat_Int, Int.reduceBEq, Int.reduceLT, Int.reduceLE, Int.reduceEq, Int.reduceNeg, Int.reduceMul, Int.reduceAdd, Int.reduceSub, decide_true, decide_false, List.length_cons, List.length_nil, beq_self_eq_true, not_false_eq_true, not_true_eq_false, e1, a1, a2, f1, f2, f3, frO, addO]
      | some o =>
        rw [ho] at f1
        simp only [frO] at f1
        simp only [gSlN_eq, slN_r, slN_l, slNK_s, gRevN_eq, revN_r, revNK_s, tupleV_r, tupleV_l, gCallV_eq, gLend_eq, isNotBV_b, gRep_eq, repR_r, gZip_eq, zipR_t, zipR_l, gTry_eq, tryK_nx, tryK_ret, begin_eq, allR_nx, allR_ret, allR_exc, gSkip_eq, gSeq_eq, seqK_nx, seqK_ret, seqK_exc, toS_ok, toS_exc, toST_ok, toST_exc, toSL_ok, toSL_exc, gRet_eq, gAsg_eq, gSet_eq, gExpr_eq, gIfS_eq, gRaise_eq, gBin_eq, gUn_eq, gVar_eq, slotR_some, gC_eq, gArgs_nil, gArgs_cons, gTupE_eq, gLstE_eq, gNewE_eq, gCall_eq, gBi_eq, gB_eq, asB_bl, gAnd_eq, gOr_eq, gNot_eq, gVT_eq, gIf_eq, gChain_eq, chK_t, chK_f, chK_b, bnd_ok, bnd_exc, oo_some, gTo_eq, toK_some, tgName_eq, tgNil_eq, tgCons_eq, tgTup_eq, bind_some, gPar_eq, gCat_eq, catR_r, listV_t, listV_l, blsOf_nil, blsOf_cons, allV_l, isNV_d, notNV_d, parK_ok, parK_exc, gStore_eq, stK_some, gMeth_eq, gFor_eq, gRng1_eq, asI_i, gItL_eq, gItT_eq, asLst_l, asTup_t, addV_ii, subV_ii, mulV_ii, fdivV_ii, modV_ii, shlV_ii, pw6, pw9, pw18, pw19, pw20, pw25, pw30, pw39, ltV_ii, leV_ii, gtV_ii, geV_ii, negV_i, isNV_n, isNV_t, isNV_l, isNV_i, isNV_s, isNV_r, isNV_b, notNV_n, notNV_t, notNV_l, notNV_i, notNV_s, notNV_r, notNV_b, ixV_t, ixV_l, ixV_r, lenV_t, lenV_l, lenV_r, absV_i, max2V_ii, min2V_ii, bitsV_i, setIV_r, setK_some, setL_some, appendM_r, appK_some, appN_ok, isT_r, isK_l, lstK_some, tyK_l, isT_s, isiV_eq, tyN_int, tyN_bl, tyN_non, tyN_str, tyN_tup, tyN_lst, tyN_dct, tyN_r, kk_int_bool, kitK_t, kk_int_str, kk_int_tuple, kk_int_list, kk_int_dict, kk_int_NoneType, kk_bool_int, kk_bool_str, kk_bool_tuple, kk_bool_list, kk_bool_dict, kk_bool_NoneType, kk_str_int, kk_str_bool, kk_str_tuple, kk_str_list, kk_str_dict, kk_str_NoneType, kk_tuple_int, kk_tuple_bool, kk_tuple_str, kk_tuple_list, kk_tuple_dict, kk_tuple_NoneType, kk_list_int, kk_list_bool, kk_list_str, kk_list_tuple, kk_list_dict, kk_list_NoneType, kk_dict_int, kk_dict_bool, kk_dict_str, kk_dict_tuple, kk_dict_list, kk_dict_NoneType, eqV_int, neV_int, isBV_b, neV_bl, eqV_bl, eqV_ii, neV_ii, isNV_fr, notNV_fr, ixV_fr0, ixV_fr1, eqV_fr, neV_fr, int1V_b, int1V_i, ixV_hp0, ixV_hp1, isNV_hp, eqV_hp, neV_hp, tyN_fr, lenV_fr, at0, at1, at2, at3, at4, at5, ixN0, ixN1, List.map_cons, List.map_nil, List.replicate, List.cons_append, List.nil_append, List.getElem?_cons_zero, List.getElem?_cons_succ, List.set_cons_zero, List.set_cons_succ, Bool.not_true, Bool.not_false, Bool.false_eq_true, if_true, if_false, ite_true, ite_false, reduceIte, Nat.reduceSub, Nat.reduceAdd, ne_eq, Int.cast_ofNat_Int, Int.reduceBEq, Int.reduceLT, Int.reduceLE, Int.reduceEq, Int.reduceNeg, Int.reduceMul, Int.reduceAdd, Int.reduceSub, decide_true, decide_false, List.length_cons, List.length_nil, beq_self_eq_true, not_false_eq_true, not_true_eq_false, e1, a1, a2, f1, f2, f3, frO, addO]
    | some a0 =>
      cases ho : rootQ (oq (gh hs i) (gh hs (i + 1))) with
      | none =>
        rw [ho] at f1
        simp only [frO] at f1
        simp only [gSlN_eq, slN_r, slN_l, slNK_s, gRevN_eq, revN_r, revNK_s, tupleV_r, tupleV_l, gCallV_eq, gLend_eq, isNotBV_b, gRep_eq, repR_r, gZip_eq, zipR_t, zipR_l, gTry_eq, tryK_nx, tryK_ret, begin_eq, allR_nx, allR_ret, allR_exc, gSkip_eq, gSeq_eq, seqK_nx, seqK_ret, seqK_exc, toS_ok, toS_exc, toST_ok, toST_exc, toSL_ok, toSL_exc, gRet_eq, gAsg_eq, gSet_eq, gExpr_eq, gIfS_eq, gRaise_eq, gBin_eq, gUn_eq, gVar_eq, slotR_some, gC_eq, gArgs_nil, gArgs_cons, gTupE_eq, gLstE_eq, gNewE_eq, gCall_eq, gBi_eq, gB_eq, asB_bl, gAnd_eq, gOr_eq, gNot_eq, gVT_eq, gIf_eq, gChain_eq, chK_t, chK_f, chK_b, bnd_ok, bnd_exc, oo_some, gTo_eq, toK_some, tgName_eq, tgNil_eq, tgCons_eq, tgTup_eq, bind_some, gPar_eq, gCat_eq, catR_r, listV_t, listV_l, blsOf_nil, blsOf_cons, allV_l, isNV_d, notNV_d, parK_ok, parK_exc, gStore_eq, stK_some, gMeth_eq, gFor_eq, gRng1_eq, asI_i, gItL_eq, gItT_eq, asLst_l, asTup_t, addV_ii, subV_ii, mulV_ii, fdivV_ii, modV_ii, shlV_ii, pw6, pw9, pw18, pw19, pw20, pw25, pw30, pw39, ltV_ii, leV_ii, gtV_ii, geV_ii, negV_i, isNV_n, isNV_t, isNV_l, isNV_i, isNV_s, isNV_r, isNV_b, notNV_n, notNV_t, notNV_l, notNV_i, notNV_s, notNV_r, notNV_b, ixV_t, ixV_l, ixV_r, lenV_t, lenV_l, lenV_r, absV_i, max2V_ii, min2V_ii, bitsV_i, setIV_r, setK_some, setL_some, appendM_r, appK_some, appN_ok, isT_r, isK_l, lstK_some, tyK_l, isT_s, isiV_eq, tyN_int, tyN_bl, tyN_non, tyN_str, tyN_tup, tyN_lst, tyN_dct, tyN_r, kk_int_bool, kitK_t, kk_int_str, kk_int_tuple, kk_int_list, kk_int_dict, kk_int_NoneType, kk_bool_int, kk_bool_str, kk_bool_tuple, kk_bool_list, kk_bool_dict, kk_bool_NoneType, kk_str_int, kk_str_bool, kk_str_tuple, kk_str_list, kk_str_dict, kk_str_NoneType, kk_tuple_int, kk_tuple_bool, kk_tuple_str, kk_tuple_list, kk_tuple_dict, kk_tuple_NoneType, kk_list_int, kk_list_bool, kk_list_str, kk_list_tuple, kk_list_dict, kk_list_NoneType, kk_dict_int, kk_dict_bool, kk_dict_str, kk_dict_tuple, kk_dict_list, kk_dict_NoneType, eqV_int, neV_int, isBV_b, neV_bl, eqV_bl, eqV_ii, neV_ii, isNV_fr, notNV_fr, ixV_fr0, ixV_fr1, eqV_fr, neV_fr, int1V_b, int1V_i, ixV_hp0, ixV_hp1, isNV_hp, eqV_hp, neV_hp, tyN_fr, lenV_fr, at0, at1, at2, at3, at4, at5, ixN0, ixN1, List.map_cons, List.map_nil, List.replicate, List.cons_append, List.nil_append, List.getElem?_cons_zero, List.getElem?_cons_succ, List.set_cons_zero, List.set_cons_succ, Bool.not_true, Bool.not_false, Bool.false_eq_true, if_true, if_false, ite_true, ite_false, reduceIte, Nat.reduceSub, Nat.reduceAdd, ne_eq, Int.cast_ofNat_Int, Int.reduceBEq, Int.reduceLT, Int.reduceLE, Int.reduceEq, Int.reduceNeg, Int.reduceMul, Int.reduceAdd, Int.reduceSub, decide_true, decide_false, List.length_cons, List.length_nil, beq_self_eq_true, not_false_eq_true, not_true_eq_false, e1, a1, a2, f1, f2, f3, frO, addO]
      | some o =>
        have r1 := ra a0 hd
        have r2 := bd o hi ho
        have r2' : RS 3300 o := by
          split at r2
          · exact r2.mono (by omega)
          · exact r2
        have f4 := lsum_as (st := st) r1 r2' (by omega)
        rw [ho] at f1
        simp only [frO] at f1
        simp only [gSlN_eq, slN_r, slN_l, slNK_s, gRevN_eq, revN_r, revNK_s, tupleV_r, tupleV_l, gCallV_eq, gLend_eq, isNotBV_b, gRep_eq, repR_r, gZip_eq, zipR_t, zipR_l, gTry_eq, tryK_nx, tryK_ret, begin_eq, allR_nx, allR_ret, allR_exc, gSkip_eq, gSeq_eq, seqK_nx, seqK_ret, seqK_exc, toS_ok, toS_exc, toST_ok, toST_exc, toSL_ok, toSL_exc, gRet_eq, gAsg_eq, gSet_eq, gExpr_eq, gIfS_eq, gRaise_eq, gBin_eq, gUn_eq, gVar_eq, slotR_some, gC_eq, gArgs_nil, gArgs_cons, gTupE_eq, gLstE_eq, gNewE_eq, gCall_eq, gBi_eq, gB_eq, asB_bl, gAnd_eq, gOr_eq, gNot_eq, gVT_eq, gIf_eq, gChain_eq, chK_t, chK_f, chK_b, bnd_ok, bnd_exc, oo_some, gTo_eq, toK_some, tgName_eq, tgNil_eq, tgCons_eq, tgTup_eq, bind_some, gPar_eq, gCat_eq, catR_r, listV_t, listV_l, blsOf_nil, blsOf_cons, allV_l, isNV_d, notNV_d, parK_ok, parK_exc, gStore_eq, stK_some, gMeth_eq, gFor_eq, gRng1_eq, asI_i, gItL_eq, gItT_eq, asLst_l, asTup_t, addV_ii, subV_ii, mulV_ii, fdivV_ii, modV_ii, shlV_ii, pw6, pw9, pw18, pw19, pw20, pw25, pw30, pw39, ltV_ii, leV_ii, gtV_ii, geV_ii, negV_i, isNV_n, isNV_t, isNV_l, isNV_i, isNV_s, isNV_r, isNV_b, notNV_n, notNV_t, notNV_l, notNV_i, notNV_s, notNV_r, notNV_b, ixV_t, ixV_l, ixV_r, lenV_t, lenV_l, lenV_r, absV_i, max2V_ii, min2V_ii, bitsV_i, setIV_r, setK_some, setL_some, appendM_r, appK_some, appN_ok, isT_r, isK_l, lstK_some, tyK_l, isT_s, isiV_eq, tyN_int, tyN_bl, tyN_non, tyN_str, tyN_tup, tyN_lst, tyN_dct, tyN_r, kk_int_bool, kitK_t, kk_int_str, kk_int_tuple, kk_int_list, kk_int_dict, kk_int_NoneType, kk_bool_int, kk_bool_str, kk_bool_tuple, kk_bool_list, kk_bool_dict, kk_bool_NoneType, kk_str_int, kk_str_bool, kk_str_tuple, kk_str_list, kk_str_dict, kk_str_NoneType, kk_tuple_int, kk_tuple_bool, kk_tuple_str, kk_tuple_list, kk_tuple_dict, kk_tuple_NoneType, kk_list_int, kk_list_bool, kk_list_str, kk_list_tuple, kk_list_dict, kk_list_NoneType, kk_dict_int, kk_dict_bool, kk_dict_str, kk_dict_tuple, kk_dict_list, kk_dict_NoneType, eqV_int, neV_int, isBV_b, neV_bl, eqV_bl, eqV_ii, neV_ii, isNV_fr, notNV_fr, ixV_fr0, ixV_fr1, eqV_fr, neV_fr, int1V_b, int1V_i, ixV_hp0, ixV_hp1, isNV_hp, eqV_hp, neV_hp, tyN_fr, lenV_fr, at0, at1, at2, at3, at4, at5, ixN0, ixN1, List.map_cons, List.map_nil, List.replicate, List.cons_append, List.nil_append, List.getElem?_cons_zero, List.getElem?_cons_succ, List.set_cons_zero, List.set_cons_succ, Bool.not_true, Bool.not_false, Bool.false_eq_true, if_true, if_false, ite_true, ite_false, reduceIte, Nat.reduceSub, Nat.reduceAdd, ne_eq, Int.cast_ofNat_Int, Int.reduceBEq, Int.reduceLT, Int.reduceLE, Int.reduceEq, Int.reduceNeg, Int.reduceMul, Int.reduceAdd, Int.reduceSub, decide_true, decide_false, List.length_cons, List.length_nil, beq_self_eq_true, not_false_eq_true, not_true_eq_false, e1, a1, a2, f1, f2, f3, frO, addO, f4]
theorem way_loop {n : Nat} {hs : List (Rat × Rat)} {st : List SO} {y z : Option PV} (hr : ∀ h ∈ hs, HR n h) (hn : n ≤ 400) (B : SB hs) (h12 : hs.length ≤ 12) (h2 : 2 ≤ hs.length) : ∀ (m i : Nat) (due : Option Rat) (x u : Option PV), i + m + 1 = hs.length → (∀ a, due = some a → RS (if i + 1 < hs.length then 50 * i + 1 else 4000) a) →
    (∃ x' u', (∀ j, i ≤ j → j + 1 < hs.length → lat (gh hs j) (gh hs (j + 1)) = true) ∧ (∀ a, sumD hs i m due = some a → RS 4000 a) ∧ forg (tgName 2) wayB (rng ((i + 1 : Nat) : Int) m) [some (.lst (hs.map hq)), some (frO due), x, y, z, u] st = .nx [some (.lst (hs.map hq)), some (frO (sumD hs i m due)), x', y, z, u'] st) ∨
    (allLat hs = false ∧ forg (tgName 2) wayB (rng ((i + 1 : Nat) : Int) m) [some (.lst (hs.map hq)), some (frO due), x, y, z, u] st = .ret (.bl true) st)
  | 0, i, due, x, u, hl, ra => by
    have e : sumD hs i 0 due = due := by unfold sumD; cases due <;> rfl
    refine .inl ⟨x, u, fun j h1 h2 => by omega, ?_, by rw [e]; rfl⟩
    rw [e]
    intro a h
    have := ra a h
    rw [if_neg (by omega)] at this
    exact this
  | m + 1, i, due, x, u, hl, ra => by
    rw [rng_s, forg_c (ρ1 := [some (.lst (hs.map hq)), some (frO due), some (.int ((i + 1 : Nat) : Int)), y, z, u]) rfl]
    cases l : lat (gh hs i) (gh hs (i + 1)) with
    | false =>
      have e1 : (((i + 1 : Nat) : Int)) - 1 = ((i : Nat) : Int) := by omega
      have a1 : atI (hs.map hq) ((i : Nat) : Int) = some (hq (gh hs i)) := atN (gh_at (by omega))
      have a2 : atI (hs.map hq) ((i + 1 : Nat) : Int) = some (hq (gh hs (i + 1))) := atN (gh_at (by omega))
      have ha := hr _ (gh_mem (i := i) (by omega))
      have hb := hr _ (gh_mem (i := i + 1) (by omega))
      have al : allLat hs = false := by
        cases h : allLat hs with
        | false => rfl
        | true =>
          have := lat_at h (i := i) (by omega)
          rw [l] at this
          cases this
      have f1 := lpo_no (st := st) ha hb hn l
      have f2 : F__law_word [hq (gh hs i), hq (gh hs (i + 1))] st = _ := lword_ok (st := st) ha.t ha.x hb.t hb.x (by omega)
      have f3 := neV_str (st := st) (sto_kw ((gh hs (i + 1)).1 - (gh hs i).1) ((gh hs (i + 1)).2 - (gh hs i).2)) sto_lat
      unfold lat at l
      rw [l] at f3
      have e := isway_ok (st := st) h2 h12 hr hn
      rw [al] at e
      have f4 := ltold11_ae (ownalong_bad e) kd_step
      refine .inr ⟨al, ?_⟩
      generalize ((i + 1 : Nat) : Int) = I at *
      simp only [gSlN_eq, slN_r, slN_l, slNK_s, gRevN_eq, revN_r, revNK_s, tupleV_r, tupleV_l, gCallV_eq, gLend_eq, isNotBV_b, gRep_eq, repR_r, gZip_eq, zipR_t, zipR_l, gTry_eq, tryK_nx, tryK_ret, begin_eq, allR_nx, allR_ret, allR_exc, gSkip_eq, gSeq_eq, seqK_nx, seqK_ret, seqK_exc, toS_ok, toS_exc, toST_ok, toST_exc, toSL_ok, toSL_exc, gRet_eq, gAsg_eq, gSet_eq, gExpr_eq, gIfS_eq, gRaise_eq, gBin_eq, gUn_eq, gVar_eq, slotR_some, gC_eq, gArgs_nil, gArgs_cons, gTupE_eq, gLstE_eq, gNewE_eq, gCall_eq, gBi_eq, gB_eq, asB_bl, gAnd_eq, gOr_eq, gNot_eq, gVT_eq, gIf_eq, gChain_eq, chK_t, chK_f, chK_b, bnd_ok, bnd_exc, oo_some, gTo_eq, toK_some, tgName_eq, tgNil_eq, tgCons_eq, tgTup_eq, bind_some, gPar_eq, gCat_eq, catR_r, listV_t, listV_l, blsOf_nil, blsOf_cons, allV_l, isNV_d, notNV_d, parK_ok, parK_exc, gStore_eq, stK_some, gMeth_eq, gFor_eq, gRng1_eq, asI_i, gItL_eq, gItT_eq, asLst_l, asTup_t, addV_ii, subV_ii, mulV_ii, fdivV_ii, modV_ii, shlV_ii, pw6, pw9, pw18, pw19, pw20, pw25, pw30, pw39, ltV_ii, leV_ii, gtV_ii, geV_ii, negV_i, isNV_n, isNV_t, isNV_l, isNV_i, isNV_s, isNV_r, isNV_b, notNV_n, notNV_t, notNV_l, notNV_i, notNV_s, notNV_r, notNV_b, ixV_t, ixV_l, ixV_r, lenV_t, lenV_l, lenV_r, absV_i, max2V_ii, min2V_ii, bitsV_i, setIV_r, setK_some, setL_some, appendM_r, appK_some, appN_ok, isT_r, isK_l, lstK_some, tyK_l, isT_s, isiV_eq, tyN_int, tyN_bl, tyN_non, tyN_str, tyN_tup, tyN_lst, tyN_dct, tyN_r, kk_int_bool, kitK_t, kk_int_str, kk_int_tuple, kk_int_list, kk_int_dict, kk_int_NoneType, kk_bool_int, kk_bool_str, kk_bool_tuple, kk_bool_list, kk_bool_dict, kk_bool_NoneType, kk_str_int, kk_str_bool, kk_str_tuple, kk_str_list, kk_str_dict, kk_str_NoneType, kk_tuple_int, kk_tuple_bool, kk_tuple_str, kk_tuple_list, kk_tuple_dict, kk_tuple_NoneType, kk_list_int, kk_list_bool, kk_list_str, kk_list_tuple, kk_list_dict, kk_list_NoneType, kk_dict_int, kk_dict_bool, kk_dict_str, kk_dict_tuple, kk_dict_list, kk_dict_NoneType, eqV_int, neV_int, isBV_b, neV_bl, eqV_bl, eqV_ii, neV_ii, isNV_fr, notNV_fr, ixV_fr0, ixV_fr1, eqV_fr, neV_fr, int1V_b, int1V_i, ixV_hp0, ixV_hp1, isNV_hp, eqV_hp, neV_hp, tyN_fr, lenV_fr, at0, at1, at2, at3, at4, at5, ixN0, ixN1, List.map_cons, List.map_nil, List.replicate, List.cons_append, List.nil_append, List.getElem?_cons_zero, List.getElem?_cons_succ, List.set_cons_zero, List.set_cons_succ, Bool.not_true, Bool.not_false, Bool.false_eq_true, if_true, if_false, ite_true, ite_false, reduceIte, Nat.reduceSub, Nat.reduceAdd, ne_eq, Int.cast_ofNat_Int, Int.reduceBEq, Int.reduceLT, Int.reduceLE, Int.reduceEq, Int.reduceNeg, Int.reduceMul, Int.reduceAdd, Int.reduceSub, decide_true, decide_false, List.length_cons, List.length_nil, beq_self_eq_true, not_false_eq_true, not_true_eq_false, e1, a1, a2, f1, f2, f3, f4, eqV_str sto_step sto_step, beq_step]
    | true =>
      obtain ⟨due', d1, d2, u', d3⟩ := way_step (st := st) (y := y) (z := z) (u := u) hr hn B h12 (show i + 1 < hs.length by omega) l (fun a h => by have := ra a h; rwa [if_pos (by omega)] at this)
      rw [d3]
      rcases way_loop hr hn B h12 h2 m (i + 1) due' (some (.int ((i + 1 : Nat) : Int))) u' (by omega) (fun a h => by
        have := d2 a h
        exact this) with ⟨x', u2, b0, b1, b2⟩ | ⟨b1, b2⟩
      · rw [← d1] at b1 b2
        refine .inl ⟨x', u2, fun j h1 h2 => ?_, b1, b2⟩
        by_cases c : j = i
        · rw [c]; exact l
        · exact b0 j (by omega) h2
      · exact .inr ⟨b1, b2⟩
open Classical in
theorem rng2_way6 {hs : List (Rat × Rat)} {a b c d e : Option PV} {st : List SO} (h1 : 1 ≤ hs.length) (h2 : hs.length ≤ 13) : gRng2 (gC (.int 1)) (gBi lenV [(gVar 0)]) [some (.lst (hs.map hq)), a, b, c, d, e] st = .ok (rng ((0 + 1 : Nat) : Int) (hs.length - 1)) st := by
  have len : (hs.map hq).length = hs.length := List.length_map ..
  have e : (((hs.map hq).length : Int) - 1).toNat = hs.length - 1 := by omega
  have r1 : RngOk 1 := by unfold RngOk; omega
  have r2 : RngOk ((hs.map hq).length : Int) := by unfold RngOk; omega
  show (if RngOk 1 ∧ RngOk ((hs.map hq).length : Int) then Res.ok (rng 1 (((hs.map hq).length : Int) - 1).toNat) st else .bad) = _
  rw [if_pos ⟨r1, r2⟩, e]
  rfl
theorem lway_ok {n : Nat} {hs : List (Rat × Rat)} {st : List SO} (h2 : 2 ≤ hs.length) (h12 : hs.length ≤ 12) (hr : ∀ h ∈ hs, HR n h) (hn : n ≤ 400) (B : SB hs) : F__law_way_right [.lst (hs.map hq)] st = .ok (.bl true) st := by
  have it := rng2_way6 (hs := hs) (a := some (fr 0)) (b := none) (c := none) (d := none) (e := none) (st := st) (by omega) (by omega)
  have e01 : PV.tup [.int 0, .int 1] = fr 0 := rfl
  have start := way_loop (st := st) (y := none) (z := none) hr hn B h12 h2 (hs.length - 1) 0 (some 0) none none (by omega) (fun a h => by cases h; rw [if_pos (by omega)]; exact rs0 (RS_1 (n := 1) (by omega)))
  rcases start with ⟨x', u', b0, b1, b2⟩ | ⟨b1, b2⟩
  · have g : gFor (gRng2 (gC (.int 1)) (gBi lenV [(gVar 0)])) (tgName 2) wayB [some (.lst (hs.map hq)), some (fr 0), none, none, none, none] st = .nx [some (.lst (hs.map hq)), some (frO (sumD hs 0 (hs.length - 1) (some 0))), x', none, none, u'] st := by
      rw [gFor_eq, it, toSL_ok]; exact b2
    have sd : sumD hs 0 (hs.length - 1) (some 0) = sumO hs 0 (hs.length - 1) 0 := rfl
    rw [sd] at b1 g
    unfold F__law_way_right g__law_way_right
    have al : allLat hs = true := by
      unfold allLat
      refine List.all_eq_true.mpr fun b hb => ?_
      obtain ⟨i, hi, rfl⟩ := List.mem_map.mp hb
      exact b0 i (by omega) (by have := List.mem_range.mp hi; omega)
    rcases ownalong_ok (st := st) h2 h12 hr hn al B with ⟨s, c1, c2, c3⟩ | ⟨c1, c3⟩
    · have f1 := ltold11_a c3
      have f2 := lsame_ok (st := st) (r := s) c2 (by omega)
      rw [c1] at g
      simp only [frO] at g
      unfold wayB at g
      generalize gFor _ _ _ = GF at *
      simp only [gSlN_eq, slN_r, slN_l, slNK_s, gRevN_eq, revN_r, revNK_s, tupleV_r, tupleV_l, gCallV_eq, gLend_eq, isNotBV_b, gRep_eq, repR_r, gZip_eq, zipR_t, zipR_l, gTry_eq, tryK_nx, tryK_ret, begin_eq, allR_nx, allR_ret, allR_exc, gSkip_eq, gSeq_eq, seqK_nx, seqK_ret, seqK_exc, toS_ok, toS_exc, toST_ok, toST_exc, toSL_ok, toSL_exc, gRet_eq, gAsg_eq, gSet_eq, gExpr_eq, gIfS_eq, gRaise_eq, gBin_eq, gUn_eq, gVar_eq, slotR_some, gC_eq, gArgs_nil, gArgs_cons, gTupE_eq, gLstE_eq, gNewE_eq, gCall_eq, gBi_eq, gB_eq, asB_bl, gAnd_eq, gOr_eq, gNot_eq, gVT_eq, gIf_eq, gChain_eq, chK_t, chK_f, chK_b, bnd_ok, bnd_exc, oo_some, gTo_eq, toK_some, tgName_eq, tgNil_eq, tgCons_eq, tgTup_eq, bind_some, gPar_eq, gCat_eq, catR_r, listV_t, listV_l, blsOf_nil, blsOf_cons, allV_l, isNV_d, notNV_d, parK_ok, parK_exc, gStore_eq, stK_some, gMeth_eq, gFor_eq, gRng1_eq, asI_i, gItL_eq, gItT_eq, asLst_l, asTup_t, addV_ii, subV_ii, mulV_ii, fdivV_ii, modV_ii, shlV_ii, pw6, pw9, pw18, pw19, pw20, pw25, pw30, pw39, ltV_ii, leV_ii, gtV_ii, geV_ii, negV_i, isNV_n, isNV_t, isNV_l, isNV_i, isNV_s, isNV_r, isNV_b, notNV_n, notNV_t, notNV_l, notNV_i, notNV_s, notNV_r, notNV_b, ixV_t, ixV_l, ixV_r, lenV_t, lenV_l, lenV_r, absV_i, max2V_ii, min2V_ii, bitsV_i, setIV_r, setK_some, setL_some, appendM_r, appK_some, appN_ok, isT_r, isK_l, lstK_some, tyK_l, isT_s, isiV_eq, tyN_int, tyN_bl, tyN_non, tyN_str, tyN_tup, tyN_lst, tyN_dct, tyN_r, kk_int_bool, kitK_t, kk_int_str, kk_int_tuple, kk_int_list, kk_int_dict, kk_int_NoneType, kk_bool_int, kk_bool_str, kk_bool_tuple, kk_bool_list, kk_bool_dict, kk_bool_NoneType, kk_str_int, kk_str_bool, kk_str_tuple, kk_str_list, kk_str_dict, kk_str_NoneType, kk_tuple_int, kk_tuple_bool, kk_tuple_str, kk_tuple_list, kk_tuple_dict, kk_tuple_NoneType, kk_list_int, kk_list_bool, kk_list_str, kk_list_tuple, kk_list_dict, kk_list_NoneType, kk_dict_int, kk_dict_bool, kk_dict_str, kk_dict_tuple, kk_dict_list, kk_dict_NoneType, eqV_int, neV_int, isBV_b, neV_bl, eqV_bl, eqV_ii, neV_ii, isNV_fr, notNV_fr, ixV_fr0, ixV_fr1, eqV_fr, neV_fr, int1V_b, int1V_i, ixV_hp0, ixV_hp1, isNV_hp, eqV_hp, neV_hp, tyN_fr, lenV_fr, at0, at1, at2, at3, at4, at5, ixN0, ixN1, List.map_cons, List.map_nil, List.replicate, List.cons_append, List.nil_append, List.getElem?_cons_zero, List.getElem?_cons_succ, List.set_cons_zero, List.set_cons_succ, Bool.not_true, Bool.not_false, Bool.false_eq_true, if_true, if_false, ite_true, ite_false, reduceIte, Nat.reduceSub, Nat.reduceAdd, ne_eq, Int.cast_ofNat_Int, Int.reduceBEq, Int.reduceLT, Int.reduceLE, Int.reduceEq, Int.reduceNeg, Int.reduceMul, Int.reduceAdd, Int.reduceSub, decide_true, decide_false, List.length_cons, List.length_nil, beq_self_eq_true, not_false_eq_true, not_true_eq_false, e01, g, f1, f2, decide_true, eq_way]
    · have f1 := ltold11_ae c3 kd_plain
      rw [c1] at g
      simp only [frO] at g
      unfold wayB at g
      generalize gFor _ _ _ = GF at *
      simp only [gSlN_eq, slN_r, slN_l, slNK_s, gRevN_eq, revN_r, revNK_s, tupleV_r, tupleV_l, gCallV_eq, gLend_eq, isNotBV_b, gRep_eq, repR_r, gZip_eq, zipR_t, zipR_l, gTry_eq, tryK_nx, tryK_ret, begin_eq, allR_nx, allR_ret, allR_exc, gSkip_eq, gSeq_eq, seqK_nx, seqK_ret, seqK_exc, toS_ok, toS_exc, toST_ok, toST_exc, toSL_ok, toSL_exc, gRet_eq, gAsg_eq, gSet_eq, gExpr_eq, gIfS_eq, gRaise_eq, gBin_eq, gUn_eq, gVar_eq, slotR_some, gC_eq, gArgs_nil, gArgs_cons, gTupE_eq, gLstE_eq, gNewE_eq, gCall_eq, gBi_eq, gB_eq, asB_bl, gAnd_eq, gOr_eq, gNot_eq, gVT_eq, gIf_eq, gChain_eq, chK_t, chK_f, chK_b, bnd_ok, bnd_exc, oo_some, gTo_eq, toK_some, tgName_eq, tgNil_eq, tgCons_eq, tgTup_eq, bind_some, gPar_eq, gCat_eq, catR_r, listV_t, listV_l, blsOf_nil, blsOf_cons, allV_l, isNV_d, notNV_d, parK_ok, parK_exc, gStore_eq, stK_some, gMeth_eq, gFor_eq, gRng1_eq, asI_i, gItL_eq, gItT_eq, asLst_l, asTup_t, addV_ii, subV_ii, mulV_ii, fdivV_ii, modV_ii, shlV_ii, pw6, pw9, pw18, pw19, pw20, pw25, pw30, pw39, ltV_ii, leV_ii, gtV_ii, geV_ii, negV_i, isNV_n, isNV_t, isNV_l, isNV_i, isNV_s, isNV_r, isNV_b, notNV_n, notNV_t, notNV_l, notNV_i, notNV_s, notNV_r, notNV_b, ixV_t, ixV_l, ixV_r, lenV_t, lenV_l, lenV_r, absV_i, max2V_ii, min2V_ii, bitsV_i, setIV_r, setK_some, setL_some, appendM_r, appK_some, appN_ok, isT_r, isK_l, lstK_some, tyK_l, isT_s, isiV_eq, tyN_int, tyN_bl, tyN_non, tyN_str, tyN_tup, tyN_lst, tyN_dct, tyN_r, kk_int_bool, kitK_t, kk_int_str, kk_int_tuple, kk_int_list, kk_int_dict, kk_int_NoneType, kk_bool_int, kk_bool_str, kk_bool_tuple, kk_bool_list, kk_bool_dict, kk_bool_NoneType, kk_str_int, kk_str_bool, kk_str_tuple, kk_str_list, kk_str_dict, kk_str_NoneType, kk_tuple_int, kk_tuple_bool, kk_tuple_str, kk_tuple_list, kk_tuple_dict, kk_tuple_NoneType, kk_list_int, kk_list_bool, kk_list_str, kk_list_tuple, kk_list_dict, kk_list_NoneType, kk_dict_int, kk_dict_bool, kk_dict_str, kk_dict_tuple, kk_dict_list, kk_dict_NoneType, eqV_int, neV_int, isBV_b, neV_bl, eqV_bl, eqV_ii, neV_ii, isNV_fr, notNV_fr, ixV_fr0, ixV_fr1, eqV_fr, neV_fr, int1V_b, int1V_i, ixV_hp0, ixV_hp1, isNV_hp, eqV_hp, neV_hp, tyN_fr, lenV_fr, at0, at1, at2, at3, at4, at5, ixN0, ixN1, List.map_cons, List.map_nil, List.replicate, List.cons_append, List.nil_append, List.getElem?_cons_zero, List.getElem?_cons_succ, List.set_cons_zero, List.set_cons_succ, Bool.not_true, Bool.not_false, Bool.false_eq_true, if_true, if_false, ite_true, ite_false, reduceIte, Nat.reduceSub, Nat.reduceAdd, ne_eq, Int.cast_ofNat_Int, Int.reduceBEq, Int.reduceLT, Int.reduceLE, Int.reduceEq, Int.reduceNeg, Int.reduceMul, Int.reduceAdd, Int.reduceSub, decide_true, decide_false, List.length_cons, List.length_nil, beq_self_eq_true, not_false_eq_true, not_true_eq_false, e01, g, f1, eq_way, eqV_str sto_plain sto_plain, beq_plain]
  · have g : gFor (gRng2 (gC (.int 1)) (gBi lenV [(gVar 0)])) (tgName 2) wayB [some (.lst (hs.map hq)), some (fr 0), none, none, none, none] st = .ret (.bl true) st := by
      rw [gFor_eq, it, toSL_ok]; exact b2
    unfold F__law_way_right g__law_way_right
    unfold wayB at g
    generalize gFor _ _ _ = GF at *
    simp only [gSlN_eq, slN_r, slN_l, slNK_s, gRevN_eq, revN_r, revNK_s, tupleV_r, tupleV_l, gCallV_eq, gLend_eq, isNotBV_b, gRep_eq, repR_r, gZip_eq, zipR_t, zipR_l, gTry_eq, tryK_nx, tryK_ret, begin_eq, allR_nx, allR_ret, allR_exc, gSkip_eq, gSeq_eq, seqK_nx, seqK_ret, seqK_exc, toS_ok, toS_exc, toST_ok, toST_exc, toSL_ok, toSL_exc, gRet_eq, gAsg_eq, gSet_eq, gExpr_eq, gIfS_eq, gRaise_eq, gBin_eq, gUn_eq, gVar_eq, slotR_some, gC_eq, gArgs_nil, gArgs_cons, gTupE_eq, gLstE_eq, gNewE_eq, gCall_eq, gBi_eq, gB_eq, asB_bl, gAnd_eq, gOr_eq, gNot_eq, gVT_eq, gIf_eq, gChain_eq, chK_t, chK_f, chK_b, bnd_ok, bnd_exc, oo_some, gTo_eq, toK_some, tgName_eq, tgNil_eq, tgCons_eq, tgTup_eq, bind_some, gPar_eq, gCat_eq, catR_r, listV_t, listV_l, blsOf_nil, blsOf_cons, allV_l, isNV_d, notNV_d, parK_ok, parK_exc, gStore_eq, stK_some, gMeth_eq, gFor_eq, gRng1_eq, asI_i, gItL_eq, gItT_eq, asLst_l, asTup_t, addV_ii, subV_ii, mulV_ii, fdivV_ii, modV_ii, shlV_ii, pw6, pw9, pw18, pw19, pw20, pw25, pw30, pw39, ltV_ii, leV_ii, gtV_ii, geV_ii, negV_i, isNV_n, isNV_t, isNV_l, isNV_i, isNV_s, isNV_r, isNV_b, notNV_n, notNV_t, notNV_l, notNV_i, notNV_s, notNV_r, notNV_b, ixV_t, ixV_l, ixV_r, lenV_t, lenV_l, lenV_r, absV_i, max2V_ii, min2V_ii, bitsV_i, setIV_r, setK_some, setL_some, appendM_r, appK_some, appN_ok, isT_r, isK_l, lstK_some, tyK_l, isT_s, isiV_eq, tyN_int, tyN_bl, tyN_non, tyN_str, tyN_tup, tyN_lst, tyN_dct, tyN_r, kk_int_bool, kitK_t, kk_int_str, kk_int_tuple, kk_int_list, kk_int_dict, kk_int_NoneType, kk_bool_int, kk_bool_str, kk_bool_tuple, kk_bool_list, kk_bool_dict, kk_bool_NoneType, kk_str_int, kk_str_bool, kk_str_tuple, kk_str_list, kk_str_dict, kk_str_NoneType, kk_tuple_int, kk_tuple_bool, kk_tuple_str, kk_tuple_list, kk_tuple_dict, kk_tuple_NoneType, kk_list_int, kk_list_bool, kk_list_str, kk_list_tuple, kk_list_dict, kk_list_NoneType, kk_dict_int, kk_dict_bool, kk_dict_str, kk_dict_tuple, kk_dict_list, kk_dict_NoneType, eqV_int, neV_int, isBV_b, neV_bl, eqV_bl, eqV_ii, neV_ii, isNV_fr, notNV_fr, ixV_fr0, ixV_fr1, eqV_fr, neV_fr, int1V_b, int1V_i, ixV_hp0, ixV_hp1, isNV_hp, eqV_hp, neV_hp, tyN_fr, lenV_fr, at0, at1, at2, at3, at4, at5, ixN0, ixN1, List.map_cons, List.map_nil, List.replicate, List.cons_append, List.nil_append, List.getElem?_cons_zero, List.getElem?_cons_succ, List.set_cons_zero, List.set_cons_succ, Bool.not_true, Bool.not_false, Bool.false_eq_true, if_true, if_false, ite_true, ite_false, reduceIte, Nat.reduceSub, Nat.reduceAdd, ne_eq, Int.cast_ofNat_Int, Int.reduceBEq, Int.reduceLT, Int.reduceLE, Int.reduceEq, Int.reduceNeg, Int.reduceMul, Int.reduceAdd, Int.reduceSub, decide_true, decide_false, List.length_cons, List.length_nil, beq_self_eq_true, not_false_eq_true, not_true_eq_false, e01, g]

noncomputable def g_law_k61 (F__law_pot : Fn) (F__law_cell_at : Fn) (F__law_hap : Fn) (F__law_take : Fn) (F__law_on : Fn) (F__law_step_right : Fn) (F__law_way_right : Fn) (F__law_told : Fn) : GS :=
  (gSeq (gFor (gRng1 (gBi max2V [(gC (.int 1)), (gBi min2V [(gBi lenV [(gVar 0)]), (gC (.int 20))])])) (tgName 1) (gSeq (gSet 2 (gCall F__law_pot [(gCall F__law_cell_at [(gVar 0), (gVar 1)])]))
  (gSeq (gPar 8 9 (gCall F__law_hap [(gVar 2)]) (gCall F__law_hap [(gVar 2)]))
  (gSeq (gSet 3 (gNewE [(gVar 8)]))
  (gSeq (gFor (gRng1 (gBin addV (gC (.int 1)) (gCall F__law_take [(gVar 2), (gC (.int 11))]))) (tgName 4) (gExpr (gMeth "list" appendM (gVar 3) [(gCall F__law_on [(gVar 2), (gBin ixV (gVar 3) (gUn negV (gC (.int 1)))), (gBin ixV (gLstE [(gC (.int 1)), (gC (.int 2)), (gC (.int 3)), (gC (.int 1)), (gC (.int 2)), (gC (.int 3)), (gC (.int 1)), (gCall F__law_take [(gVar 2), (gC (.int 4))])]) (gCall F__law_take [(gVar 2), (gC (.int 8))]))])])))
  (gSeq (gSet 5 (gLstE [(gTupE [(gVar 8), (gVar 9)]), (gTupE [(gVar 9), (gVar 8)]), (gTupE [(gBin ixV (gVar 3) (gC (.int 0))), (gBin ixV (gVar 3) (gC (.int 1)))]), (gTupE [(gBin ixV (gVar 3) (gC (.int 0))), (gBin ixV (gVar 3) (gUn negV (gC (.int 1))))]), (gTupE [(gVar 8), (gVar 8)])]))
  (gSeq (gIfS (gOr (gNot (gB (gBi allV [(gComp (gItL (gVar 5)) (tgName 11) gYes (gCall F__law_step_right [(gBin ixV (gVar 11) (gC (.int 0))), (gBin ixV (gVar 11) (gC (.int 1)))]) [11])]))) (gNot (gB (gLend F__law_way_right [(gVar 3)])))) (gRet (gC (.bl false))) gSkip)
  (gSeq (gSet 6 (gComp (gRng1 (gC (.int 13))) (tgName 10) gYes (gTupE [(gTupE [(gVar 10), (gC (.int 1))]), (gTupE [(gC (.int 0)), (gC (.int 1))])]) [10]))
  (gSeq (gSet 7 (gLstE [(gLstE []), (gSlN (gVar 3) none (some 1)), (gVar 6), (gBi tupleV [(gVar 3)]), (gCat (gSlN (gVar 3) none (some 2)) (gNewE [(gC .non)])), (gC .non), (gC (.int 5)), (gC (.str "0@0")), (gC (.dct [])), (gLstE [(gVar 3)]), (gRevN (gSlN (gVar 3) none (some 2)))]))
  (gIfS (gOr (gB (gBin neV (gLend F__law_told [(gC (.cls "own_along")), (gLstE [(gBin ixV (gVar 7) (gCall F__law_take [(gVar 2), (gC (.int 11))]))])]) (gC (.str "step")))) (gNot (gB (gLend F__law_way_right [(gCat (gSlN (gVar 3) none (some 11)) (gNewE [(gVar 9)]))])))) (gRet (gC (.bl false))) gSkip))))))))))
  (gRet (gC (.bl true))))
noncomputable def F_law_k61 : Fn := fun xs st => allR (g_law_k61 F__law_pot F__law_cell_at F__law_hap F__law_take F__law_on F__law_step_right F__law_way_right F__law_told_11 (begin 12 1 xs) st)
-- needs: own_along
/-- one step of a drawn way -/
def Step (h k : Rat × Rat) : Prop := ∃ u v : Int, k = (h.1 + (u : Rat), h.2 + (v : Rat)) ∧ 0 < u ∧ u ≤ 18 ∧ -u ≤ v ∧ v ≤ u
structure WI (h0 : Rat × Rat) (hs : List (Rat × Rat)) : Prop where
  ne : 0 < hs.length
  hd : gh hs 0 = h0
  hr : ∀ i, i < hs.length → HR (102 + 9 * i) (gh hs i)
  st : ∀ i, i + 1 < hs.length → Step (gh hs i) (gh hs (i + 1))
theorem gh_app1 {hs l : List (Rat × Rat)} {i : Nat} (h : i < hs.length) : gh (hs ++ l) i = gh hs i := by
  unfold gh
  rw [List.getD_eq_getElem?_getD, List.getD_eq_getElem?_getD, List.getElem?_append_left h]
theorem gh_app2 {hs : List (Rat × Rat)} {k : Rat × Rat} : gh (hs ++ [k]) hs.length = k := by
  unfold gh
  rw [List.getD_eq_getElem?_getD, List.getElem?_append_right (Nat.le_refl _), Nat.sub_self]
  rfl
theorem gh_take {hs : List (Rat × Rat)} {i n : Nat} (h : i < n) : gh (hs.take n) i = gh hs i := by
  unfold gh
  rw [List.getD_eq_getElem?_getD, List.getD_eq_getElem?_getD, List.getElem?_take_of_lt h]
theorem Step.hr {n : Nat} {h k : Rat × Rat} (s : Step h k) (a : HR n h) : HR (n + 9) k := by
  obtain ⟨u, v, rfl, a1, a2, a3, a4⟩ := s
  have ru : RS 8 (u : Rat) := ⟨by show Sz 8 u; unfold Sz; omega, by show (1 : Nat) < 2 ^ 8; decide⟩
  have rv : RS 8 (v : Rat) := ⟨by show Sz 8 v; unfold Sz; omega, by show (1 : Nat) < 2 ^ 8; decide⟩
  exact ⟨(a.t.add ru).mono (by omega), (a.x.add rv).mono (by omega)⟩
theorem Step.oq {h k : Rat × Rat} {o : Rat} (s : Step h k) (e : rootQ (oq h k) = some o) : RS 40 o := by
  obtain ⟨u, v, rfl, a1, a2, a3, a4⟩ := s
  have ru : RS 8 (u : Rat) := ⟨by show Sz 8 u; unfold Sz; omega, by show (1 : Nat) < 2 ^ 8; decide⟩
  have rv : RS 8 (v : Rat) := ⟨by show Sz 8 v; unfold Sz; omega, by show (1 : Nat) < 2 ^ 8; decide⟩
  have e1 : Z.oq h (h.1 + (u : Rat), h.2 + (v : Rat)) = (u : Rat) * u - (v : Rat) * v := by
    unfold Z.oq
    show (h.1 + (u : Rat) - h.1) * (h.1 + (u : Rat) - h.1) - (h.2 + (v : Rat) - h.2) * (h.2 + (v : Rat) - h.2) = _
    grind
  rw [e1] at e
  exact (((ru.mul ru).sub (rv.mul rv)).root e).mono (by omega)
theorem Step.lat {h k : Rat × Rat} (s : Step h k) : Z.lat h k = true ∧ Z.lat k h = false := by
  obtain ⟨u, v, rfl, a1, a2, a3, a4⟩ := s
  have e1 : h.1 + (u : Rat) - h.1 = (u : Rat) := by grind
  have e2 : h.2 + (v : Rat) - h.2 = (v : Rat) := by grind
  have e3 : h.1 - (h.1 + (u : Rat)) = -(u : Rat) := by grind
  have e4 : h.2 - (h.2 + (v : Rat)) = -(v : Rat) := by grind
  have u0 : (0 : Rat) < (u : Rat) := Rat.intCast_pos.mpr a1
  have l1 : (v : Rat) ≤ (u : Rat) := Rat.intCast_le_intCast.mpr a4
  have l2 : -(u : Rat) ≤ (v : Rat) := by rw [← Rat.intCast_neg]; exact Rat.intCast_le_intCast.mpr a3
  have ba : ∀ g : Rat, ab g = g ∨ ab g = -g := fun g => by unfold ab; split <;> simp
  have bn : ∀ g : Rat, 0 ≤ ab g := fun g => by unfold ab; split <;> grind
  constructor
  · unfold Z.lat kw
    show (kwB (decide (h.1 + (u : Rat) - h.1 = 0)) (decide (h.2 + (v : Rat) - h.2 = 0)) (decide (h.1 + (u : Rat) - h.1 < ab (h.2 + (v : Rat) - h.2))) (decide (-(h.1 + (u : Rat) - h.1) < ab (h.2 + (v : Rat) - h.2))) == "later") = true
    rw [e1, e2, decide_eq_false (show ¬ (u : Rat) = 0 by grind), decide_eq_false (show ¬ (u : Rat) < ab (v : Rat) by rcases ba (v : Rat) with z | z <;> rw [z] <;> grind)]
    unfold kwB
    rw [Bool.false_and, if_neg (by decide), if_pos (by decide)]
    decide +kernel
  · unfold Z.lat kw
    show (kwB (decide (h.1 - (h.1 + (u : Rat)) = 0)) (decide (h.2 - (h.2 + (v : Rat)) = 0)) (decide (h.1 - (h.1 + (u : Rat)) < ab (h.2 - (h.2 + (v : Rat))))) (decide (-(h.1 - (h.1 + (u : Rat))) < ab (h.2 - (h.2 + (v : Rat))))) == "later") = false
    have := bn (-(v : Rat))
    rw [e3, e4, decide_eq_false (show ¬ -(u : Rat) = 0 by grind), decide_eq_true (show -(u : Rat) < ab (-(v : Rat)) by grind)]
    unfold kwB
    rw [Bool.false_and, if_neg (by decide), if_neg (by decide)]
    split <;> decide +kernel
theorem WI.add {h0 k : Rat × Rat} {hs : List (Rat × Rat)} (w : WI h0 hs) (s : Step (gh hs (hs.length - 1)) k) : WI h0 (hs ++ [k]) := by
  have ne := w.ne
  have a := w.hr (hs.length - 1) (by omega)
  refine ⟨by rw [List.length_append]; omega, by rw [gh_app1 ne]; exact w.hd, fun i hi => ?_, fun i hi => ?_⟩
  · rw [List.length_append] at hi
    have hi : i < hs.length + 1 := hi
    by_cases c : i < hs.length
    · rw [gh_app1 c]; exact w.hr i c
    · have : i = hs.length := by omega
      subst this
      rw [gh_app2]
      have b := s.hr a
      exact ⟨b.t.mono (by omega), b.x.mono (by omega)⟩
  · rw [List.length_append] at hi
    have hi : i + 1 < hs.length + 1 := hi
    by_cases c : i + 1 < hs.length
    · rw [gh_app1 c, gh_app1 (by omega)]; exact w.st i c
    · have : i + 1 = hs.length := by omega
      rw [gh_app1 (by omega), this, gh_app2]
      have e : i = hs.length - 1 := by omega
      rw [e]; exact s
theorem WI.all {h0 : Rat × Rat} {hs : List (Rat × Rat)} (w : WI h0 hs) (l : hs.length ≤ 12) : ∀ h ∈ hs, HR 220 h := fun h hm => by
  obtain ⟨i, hi, e⟩ := List.getElem_of_mem hm
  have a := w.hr i hi
  have g : gh hs i = h := by
    unfold gh
    rw [List.getD_eq_getElem?_getD, List.getElem?_eq_getElem hi, e]
    rfl
  rw [g] at a
  exact ⟨a.t.mono (by omega), a.x.mono (by omega)⟩
theorem WI.sb {h0 : Rat × Rat} {hs : List (Rat × Rat)} (w : WI h0 hs) : SB hs := fun i o hi e => by
  have := (w.st i hi).oq e
  split
  · exact this
  · exact this.mono (by omega)
theorem WI.sb2 {h0 k : Rat × Rat} {hs : List (Rat × Rat)} (w : WI h0 hs) (l : hs.length ≤ 12) (hk : HR 220 k) : SB (hs.take 11 ++ [k]) ∧ ∀ h ∈ hs.take 11 ++ [k], HR 220 h := by
  have al := w.all l
  have len : (hs.take 11).length = min 11 hs.length := List.length_take
  have all : ∀ h ∈ hs.take 11 ++ [k], HR 220 h := fun h hm => by
    rcases List.mem_append.mp hm with z | z
    · exact al h (List.mem_of_mem_take z)
    · rw [List.mem_singleton.mp z]; exact hk
  refine ⟨fun i o hi e => ?_, all⟩
  rw [List.length_append] at hi ⊢
  have hi : i + 1 < (hs.take 11).length + 1 := hi
  by_cases c : i + 1 < (hs.take 11).length
  · rw [gh_app1 c, gh_app1 (by omega), gh_take (by omega), gh_take (by omega)] at e
    have := (w.st i (by omega)).oq e
    split
    · exact this
    · exact this.mono (by omega)
  · have c2 : ¬ (i + 2 < (hs.take 11).length + [k].length) := by show ¬ (i + 2 < (hs.take 11).length + 1); omega
    rw [if_neg c2]
    have a1 := all _ (gh_mem (i := i) (by rw [List.length_append]; show i < (hs.take 11).length + 1; omega))
    have a2 := all _ (gh_mem (i := i + 1) (by rw [List.length_append]; show i + 1 < (hs.take 11).length + 1; omega))
    exact ((ownsq_ok (st := []) a1 a2 (by omega)).2.root e).mono (by omega)
theorem at_last {hs : List (Rat × Rat)} (h : 0 < hs.length) : atI (hs.map hq) (-1) = some (hq (gh hs (hs.length - 1))) := by
  unfold atI ixN
  have len : (hs.map hq).length = hs.length := List.length_map ..
  rw [if_neg (by decide), if_pos (by omega)]
  show (hs.map hq)[((-1 : Int) + ((hs.map hq).length : Int)).toNat]? = _
  rw [show ((-1 : Int) + ((hs.map hq).length : Int)).toNat = hs.length - 1 by omega]
  exact gh_at (by omega)
/-- the state: the pot, the way -/
def WS (st : List SO) (p : Int) (hs : List (Rat × Rat)) : List SO := PS (st ++ [.lst [], .lst (hs.map hq)]) st.length p
theorem WS_lt {st : List SO} {ws : SO} : st.length < (st ++ [SO.lst [], ws]).length := by rw [List.length_append]; simp
theorem WS_get {st : List SO} {p : Int} {hs : List (Rat × Rat)} : (WS st p hs)[st.length + 1]? = some (.lst (hs.map hq)) := by
  unfold WS
  rw [PS_ne (by omega), new_at]
  rfl
theorem WS_set {st : List SO} {p : Int} {hs hs' : List (Rat × Rat)} : (WS st p hs).set (st.length + 1) (.lst (hs'.map hq)) = WS st p hs' := by
  unfold WS PS
  rw [List.set_append_right _ _ (by omega), List.set_append_right _ _ (by omega), List.set_append_right _ _ (by omega)]
  rw [show st.length + 1 - st.length = 1 by omega, Nat.sub_self]
  rfl
theorem WS_new {st : List SO} {p : Int} {h : Rat × Rat} : PS (st ++ [.lst []]) st.length p ++ [.lst [hq h]] = WS st p [h] := by
  unfold WS
  rw [PS_app new_lt, List.append_assoc]
  rfl
theorem WS_take {st : List SO} {p : Int} {hs : List (Rat × Rat)} {l : List SO} {far : Int} (hf : 0 < far) (hd : far < 2 ^ 8000) : F__law_take [.ref st.length, .int far] (WS st p hs ++ l) = .ok (.int (p % far)) (WS st (p / far) hs ++ l) := by
  unfold WS
  have a : st.length < (st ++ [SO.lst [], .lst (hs.map hq)]).length := WS_lt
  rw [PS_app a, PS_app a]
  exact take_ps (by rw [List.length_append]; omega) hf hd
noncomputable abbrev onB : GS := (gExpr (gMeth "list" appendM (gVar 3) [(gCall F__law_on [(gVar 2), (gBin ixV (gVar 3) (gUn negV (gC (.int 1)))), (gBin ixV (gLstE [(gC (.int 1)), (gC (.int 2)), (gC (.int 3)), (gC (.int 1)), (gC (.int 2)), (gC (.int 3)), (gC (.int 1)), (gCall F__law_take [(gVar 2), (gC (.int 4))])]) (gCall F__law_take [(gVar 2), (gC (.int 8))]))])]))
theorem on_step {ns : List Int} {h0 : Rat × Rat} {hs : List (Rat × Rat)} {st : List SO} {p : Int} {v1 v4 v5 v6 v7 v8 v9 v10 v11 : Option PV} (w : WI h0 hs) (l : hs.length ≤ 11) : ∃ k p', WI h0 (hs ++ [k]) ∧
    onB [some (.lst (ns.map .int)), v1, some (.ref st.length), some (.ref (st.length + 1)), v4, v5, v6, v7, v8, v9, v10, v11] (WS st p hs) = .nx [some (.lst (ns.map .int)), v1, some (.ref st.length), some (.ref (st.length + 1)), v4, v5, v6, v7, v8, v9, v10, v11] (WS st p' (hs ++ [k])) := by
  have t1 := WS_take (st := st) (p := p) (hs := hs) (l := []) (show (0 : Int) < 4 by decide) (lit8000 (by decide))
  rw [List.append_nil, List.append_nil] at t1
  have y1 := mod_nn (n := p) (show (0 : Int) < 4 by decide)
  generalize p % 4 = o at *
  generalize p / 4 = p1 at *
  have t2 := WS_take (st := st) (p := p1) (hs := hs) (l := []) (show (0 : Int) < 8 by decide) (lit8000 (by decide))
  rw [List.append_nil, List.append_nil] at t2
  have y3 := mod_nn (n := p1) (show (0 : Int) < 8 by decide)
  have y4 := mod_lt' (n := p1) (show (0 : Int) < 8 by decide)
  generalize p1 / 8 = p2 at *
  have hw : ∃ w : Int, atI [PV.int 1, .int 2, .int 3, .int 1, .int 2, .int 3, .int 1, .int o] (p1 % 8) = some (.int w) ∧ 0 ≤ w := by
    obtain ⟨z, hz, ez⟩ := atI_mem (xs := [PV.int 1, .int 2, .int 3, .int 1, .int 2, .int 3, .int 1, .int o]) y3 (by show p1 % 8 < 8; exact y4)
    simp only [List.mem_cons, List.not_mem_nil, or_false] at hz
    rcases hz with rfl | rfl | rfl | rfl | rfl | rfl | rfl | rfl
    · exact ⟨1, ez, by decide⟩
    · exact ⟨2, ez, by decide⟩
    · exact ⟨3, ez, by decide⟩
    · exact ⟨1, ez, by decide⟩
    · exact ⟨2, ez, by decide⟩
    · exact ⟨3, ez, by decide⟩
    · exact ⟨1, ez, by decide⟩
    · exact ⟨o, ez, y1⟩
  obtain ⟨way, ew, w0⟩ := hw
  obtain ⟨u, v, p3, e3, a1, a2, a3, a4⟩ := lon_ok (st := st ++ [.lst [], .lst (hs.map hq)]) (k := st.length) WS_lt (w.hr (hs.length - 1) (by have := w.ne; omega)) (by omega) w0 p2
  have e3 : F__law_on [.ref st.length, hq (gh hs (hs.length - 1)), .int way] (WS st p2 hs) = .ok _ (WS st p3 hs) := e3
  refine ⟨_, p3, w.add ⟨u, v, rfl, a1, a2, a3, a4⟩, ?_⟩
  have la := at_last w.ne
  have wg := fun p => WS_get (st := st) (p := p) (hs := hs)
  have lk : LenOk (hs.map hq).length := lenOk_small (by rw [List.length_map]; omega)
  have ws := WS_set (st := st) (p := p3) (hs := hs) (hs' := hs ++ [((gh hs (hs.length - 1)).1 + (u : Rat), (gh hs (hs.length - 1)).2 + (v : Rat))])
  rw [List.map_append] at ws
  have ws : (WS st p3 hs).set (st.length + 1) (.lst (hs.map hq ++ [hq ((gh hs (hs.length - 1)).1 + (u : Rat), (gh hs (hs.length - 1)).2 + (v : Rat))])) = _ := ws
  simp only [gSlN_eq, slN_r, slN_l, slNK_s, gRevN_eq, revN_r, revNK_s, tupleV_r, tupleV_l, gCallV_eq, gLend_eq, isNotBV_b, gRep_eq, repR_r, gZip_eq, zipR_t, zipR_l, gTry_eq, tryK_nx, tryK_ret, begin_eq, allR_nx, allR_ret, allR_exc, gSkip_eq, gSeq_eq, seqK_nx, seqK_ret, seqK_exc, toS_ok, toS_exc, toST_ok, toST_exc, toSL_ok, toSL_exc, gRet_eq, gAsg_eq, gSet_eq, gExpr_eq, gIfS_eq, gRaise_eq, gBin_eq, gUn_eq, gVar_eq, slotR_some, gC_eq, gArgs_nil, gArgs_cons, gTupE_eq, gLstE_eq, gNewE_eq, gCall_eq, gBi_eq, gB_eq, asB_bl, gAnd_eq, gOr_eq, gNot_eq, gVT_eq, gIf_eq, gChain_eq, chK_t, chK_f, chK_b, bnd_ok, bnd_exc, oo_some, gTo_eq, toK_some, tgName_eq, tgNil_eq, tgCons_eq, tgTup_eq, bind_some, gPar_eq, gCat_eq, catR_r, listV_t, listV_l, blsOf_nil, blsOf_cons, allV_l, isNV_d, notNV_d, parK_ok, parK_exc, gStore_eq, stK_some, gMeth_eq, gFor_eq, gRng1_eq, asI_i, gItL_eq, gItT_eq, asLst_l, asTup_t, addV_ii, subV_ii, mulV_ii, fdivV_ii, modV_ii, shlV_ii, pw6, pw9, pw18, pw19, pw20, pw25, pw30, pw39, ltV_ii, leV_ii, gtV_ii, geV_ii, negV_i, isNV_n, isNV_t, isNV_l, isNV_i, isNV_s, isNV_r, isNV_b, notNV_n, notNV_t, notNV_l, notNV_i, notNV_s, notNV_r, notNV_b, ixV_t, ixV_l, ixV_r, lenV_t, lenV_l, lenV_r, absV_i, max2V_ii, min2V_ii, bitsV_i, setIV_r, setK_some, setL_some, appendM_r, appK_some, appN_ok, isT_r, isK_l, lstK_some, tyK_l, isT_s, isiV_eq, tyN_int, tyN_bl, tyN_non, tyN_str, tyN_tup, tyN_lst, tyN_dct, tyN_r, kk_int_bool, kitK_t, kk_int_str, kk_int_tuple, kk_int_list, kk_int_dict, kk_int_NoneType, kk_bool_int, kk_bool_str, kk_bool_tuple, kk_bool_list, kk_bool_dict, kk_bool_NoneType, kk_str_int, kk_str_bool, kk_str_tuple, kk_str_list, kk_str_dict, kk_str_NoneType, kk_tuple_int, kk_tuple_bool, kk_tuple_str, kk_tuple_list, kk_tuple_dict, kk_tuple_NoneType, kk_list_int, kk_list_bool, kk_list_str, kk_list_tuple, kk_list_dict, kk_list_NoneType, kk_dict_int, kk_dict_bool, kk_dict_str, kk_dict_tuple, kk_dict_list, kk_dict_NoneType, eqV_int, neV_int, isBV_b, neV_bl, eqV_bl, eqV_ii, neV_ii, isNV_fr, notNV_fr, ixV_fr0, ixV_fr1, eqV_fr, neV_fr, int1V_b, int1V_i, ixV_hp0, ixV_hp1, isNV_hp, eqV_hp, neV_hp, tyN_fr, lenV_fr, at0, at1, at2, at3, at4, at5, ixN0, ixN1, List.map_cons, List.map_nil, List.replicate, List.cons_append, List.nil_append, List.getElem?_cons_zero, List.getElem?_cons_succ, List.set_cons_zero, List.set_cons_succ, Bool.not_true, Bool.not_false, Bool.false_eq_true, if_true, if_false, ite_true, ite_false, reduceIte, Nat.reduceSub, Nat.reduceAdd, ne_eq, Int.cast_ofNat_Int, Int.reduceBEq, Int.reduceLT, Int.reduceLE, Int.reduceEq, Int.reduceNeg, Int.reduceMul, Int.reduceAdd, Int.reduceSub, decide_true, decide_false, List.length_cons, List.length_nil, beq_self_eq_true, not_false_eq_true, not_true_eq_false, la, wg, t1, t2, ew, e3, lk, ws]
theorem on_loop {ns : List Int} {h0 : Rat × Rat} {st : List SO} {v1 v5 v6 v7 v8 v9 v10 v11 : Option PV} : ∀ (zs : List PV) (hs : List (Rat × Rat)) (p : Int) (v4 : Option PV), WI h0 hs → hs.length + zs.length ≤ 12 →
    ∃ hs' p' v4', WI h0 hs' ∧ hs'.length = hs.length + zs.length ∧ forg (tgName 4) onB zs [some (.lst (ns.map .int)), v1, some (.ref st.length), some (.ref (st.length + 1)), v4, v5, v6, v7, v8, v9, v10, v11] (WS st p hs) = .nx [some (.lst (ns.map .int)), v1, some (.ref st.length), some (.ref (st.length + 1)), v4', v5, v6, v7, v8, v9, v10, v11] (WS st p' hs')
  | [], hs, p, v4, w, _ => ⟨hs, p, v4, w, rfl, rfl⟩
  | z :: zs, hs, p, v4, w, l => by
    rw [List.length_cons] at l
    obtain ⟨k, p1, w1, e1⟩ := on_step (ns := ns) (st := st) (p := p) (v1 := v1) (v4 := some z) (v5 := v5) (v6 := v6) (v7 := v7) (v8 := v8) (v9 := v9) (v10 := v10) (v11 := v11) w (by omega)
    have l1 : (hs ++ [k]).length = hs.length + 1 := by rw [List.length_append]; rfl
    obtain ⟨hs', p', v4', w', l', e'⟩ := on_loop zs (hs ++ [k]) p1 (some z) w1 (by omega)
    refine ⟨hs', p', v4', w', by rw [l', l1, List.length_cons]; omega, ?_⟩
    rw [forg_c (ρ1 := [some (.lst (ns.map .int)), v1, some (.ref st.length), some (.ref (st.length + 1)), some z, v5, v6, v7, v8, v9, v10, v11]) rfl, e1]
    exact e'
/-! ### things that are no ways -/
theorem frz_refd {st : List SO} {k d : Nat} {xs : List PV} (h : st[k]? = some (.lst xs)) (hf : ∀ x ∈ xs, FZ d x) : frzV st 0 (d + 1) (.ref k) = some (.lst xs) := by
  have e : frzV st 0 (d + 1) (.ref k) = (match st[k]? with
    | some (.lst xs) => (mapO (frzV st 0 d) xs).map .lst
    | some (.dK kvs) => (mapO (fun p : Key × PV => (frzV st 0 d p.2).map fun v => (p.1, v)) kvs).map .dct
    | none => none) := rfl
  rw [e, h]
  show (mapO (frzV st 0 d) xs).map PV.lst = _
  rw [mapO_id xs fun x hx => by have := hf x hx 0 st 0; rwa [Nat.zero_add] at this]
  rfl
theorem lend1 {F : Fn} {x x' : PV} {st s : List SO} {v : PV} (h1 : frzV st 0 9 x = some x') (e : F [x'] [] = .ok v s) (c : scal v = true := by rfl) : lendR F [x] st = .ok v st := by
  refine lend_ok (ys := [x']) ?_ e c
  simp only [mapO, h1]
theorem told_bad {x y : PV} {st : List SO} (h : frzV st 0 8 x = some y) (b : F_is_way [y] [] = .ok (.bl false) []) : lendR F__law_told_11 [.cls "own_along", .lst [x]] st = .ok (.str "step") st := by
  refine lend2 (x' := .cls "own_along") (y' := .lst [y]) rfl ?_ (ltold11_ae (ownalong_bad b) kd_step)
  show (mapO (frzV st 0 8) [x]).map PV.lst = _
  simp only [mapO, h]
  rfl
theorem cut_take {xs : List PV} {n : Nat} : cutP xs none (some (n : Int)) = xs.take n := by
  unfold cutP
  rw [HT.sIx_none, HT.sIx_nat]
  simp only [List.drop_zero, Nat.sub_zero]
  by_cases h : n ≤ xs.length
  · rw [Nat.min_eq_left h]
  · rw [Nat.min_eq_right (by omega), List.take_length, List.take_of_length_le (by omega)]
theorem way_nots {a b : Rat × Rat} : F_is_way [.lst [hq a, hq b, .non]] [] = .ok (.bl false) [] := by
  have d1 : decide ((2 : Int) ≤ (([hq a, hq b, PV.non] : List PV).length : Int)) = true := rfl
  have d2 : decide ((([hq a, hq b, PV.non] : List PV).length : Int) ≤ 12) = true := rfl
  have e1 := ishap_hp a.1 a.2 (st := [])
  have e2 := ishap_hp b.1 b.2 (st := [])
  have e3 := ishap_ok (x := .non) (st := []) (P2_of trivial fun _ e => nomatch e)
  have e1 : F_is_hap [hq a] [] = _ := e1
  have e2 : F_is_hap [hq b] [] = _ := e2
  have c1 : gComp (gItL (gVar 0)) (tgName 2) gYes (gCall F_is_hap [(gVar 2)]) [2] [some (.lst [hq a, hq b, .non]), none, none] [] = .ok (.lst [.bl true, .bl true, .bl false]) [] := by
    refine gComp_ok (xs := [hq a, hq b, .non]) (st1 := []) rfl (comp_map (fun z => match z with | .non => .bl false | _ => .bl true) _ fun z hz => ?_) (lenOk_small (by simp))
    refine ⟨[some (.lst [hq a, hq b, .non]), none, some z], rfl, ?_⟩
    simp only [List.mem_cons, List.not_mem_nil, or_false] at hz
    rcases hz with rfl | rfl | rfl
    · simp only [gSlN_eq, slN_r, slN_l, slNK_s, gRevN_eq, revN_r, revNK_s, tupleV_r, tupleV_l, gCallV_eq, gLend_eq, isNotBV_b, gRep_eq, repR_r, gZip_eq, zipR_t, zipR_l, gTry_eq, tryK_nx, tryK_ret, begin_eq, allR_nx, allR_ret, allR_exc, gSkip_eq, gSeq_eq, seqK_nx, seqK_ret, seqK_exc, toS_ok, toS_exc, toST_ok, toST_exc, toSL_ok, toSL_exc, gRet_eq, gAsg_eq, gSet_eq, gExpr_eq, gIfS_eq, gRaise_eq, gBin_eq, gUn_eq, gVar_eq, slotR_some, gC_eq, gArgs_nil, gArgs_cons, gTupE_eq, gLstE_eq, gNewE_eq, gCall_eq, gBi_eq, gB_eq, asB_bl, gAnd_eq, gOr_eq, gNot_eq, gVT_eq, gIf_eq, gChain_eq, chK_t, chK_f, chK_b, bnd_ok, bnd_exc, oo_some, gTo_eq, toK_some, tgName_eq, tgNil_eq, tgCons_eq, tgTup_eq, bind_some, gPar_eq, gCat_eq, catR_r, listV_t, listV_l, blsOf_nil, blsOf_cons, allV_l, isNV_d, notNV_d, parK_ok, parK_exc, gStore_eq, stK_some, gMeth_eq, gFor_eq, gRng1_eq, asI_i, gItL_eq, gItT_eq, asLst_l, asTup_t, addV_ii, subV_ii, mulV_ii, fdivV_ii, modV_ii, shlV_ii, pw6, pw9, pw18, pw19, pw20, pw25, pw30, pw39, ltV_ii, leV_ii, gtV_ii, geV_ii, negV_i, isNV_n, isNV_t, isNV_l, isNV_i, isNV_s, isNV_r, isNV_b, notNV_n, notNV_t, notNV_l, notNV_i, notNV_s, notNV_r, notNV_b, ixV_t, ixV_l, ixV_r, lenV_t, lenV_l, lenV_r, absV_i, max2V_ii, min2V_ii, bitsV_i, setIV_r, setK_some, setL_some, appendM_r, appK_some, appN_ok, isT_r, isK_l, lstK_some, tyK_l, isT_s, isiV_eq, tyN_int, tyN_bl, tyN_non, tyN_str, tyN_tup, tyN_lst, tyN_dct, tyN_r, kk_int_bool, kitK_t, kk_int_str, kk_int_tuple, kk_int_list, kk_int_dict, kk_int_NoneType, kk_bool_int, kk_bool_str, kk_bool_tuple, kk_bool_list, kk_bool_dict, kk_bool_NoneType, kk_str_int, kk_str_bool, kk_str_tuple, kk_str_list, kk_str_dict, kk_str_NoneType, kk_tuple_int, kk_tuple_bool, kk_tuple_str, kk_tuple_list, kk_tuple_dict, kk_tuple_NoneType, kk_list_int, kk_list_bool, kk_list_str, kk_list_tuple, kk_list_dict, kk_list_NoneType, kk_dict_int, kk_dict_bool, kk_dict_str, kk_dict_tuple, kk_dict_list, kk_dict_NoneType, eqV_int, neV_int, isBV_b, neV_bl, eqV_bl, eqV_ii, neV_ii, isNV_fr, notNV_fr, ixV_fr0, ixV_fr1, eqV_fr, neV_fr, int1V_b, int1V_i, ixV_hp0, ixV_hp1, isNV_hp, eqV_hp, neV_hp, tyN_fr, lenV_fr, at0, at1, at2, at3, at4, at5, ixN0, ixN1, List.map_cons, List.map_nil, List.replicate, List.cons_append, List.nil_append, List.getElem?_cons_zero, List.getElem?_cons_succ, List.set_cons_zero, List.set_cons_succ, Bool.not_true, Bool.not_false, Bool.false_eq_true, if_true, if_false, ite_true, ite_false, reduceIte, Nat.reduceSub, Nat.reduceAdd, ne_eq, Int.cast_ofNat_Int, Int.reduceBEq, Int.reduceLT, Int.reduceLE, Int.reduceEq, Int.reduceNeg, Int.reduceMul, Int.reduceAdd, Int.reduceSub, decide_true, decide_false, List.length_cons, List.length_nil, beq_self_eq_true, not_false_eq_true, not_true_eq_false, e1]; rfl
    · simp only [gSlN_eq, slN_r, slN_l, slNK_s, gRevN_eq, revN_r, revNK_s, tupleV_r, tupleV_l, gCallV_eq, gLend_eq, isNotBV_b, gRep_eq, repR_r, gZip_eq, zipR_t, zipR_l, gTry_eq, tryK_nx, tryK_ret, begin_eq, allR_nx, allR_ret, allR_exc, gSkip_eq, gSeq_eq, seqK_nx, seqK_ret, seqK_exc, toS_ok, toS_exc, toST_ok, toST_exc, toSL_ok, toSL_exc, gRet_eq, gAsg_eq, gSet_eq, gExpr_eq, gIfS_eq, gRaise_eq, gBin_eq, gUn_eq, gVar_eq, slotR_some, gC_eq, gArgs_nil, gArgs_cons, gTupE_eq, gLstE_eq, gNewE_eq, gCall_eq, gBi_eq, gB_eq, asB_bl, gAnd_eq, gOr_eq, gNot_eq, gVT_eq, gIf_eq, gChain_eq, chK_t, chK_f, chK_b, bnd_ok, bnd_exc, oo_some, gTo_eq, toK_some, tgName_eq, tgNil_eq, tgCons_eq, tgTup_eq, bind_some, gPar_eq, gCat_eq, catR_r, listV_t, listV_l, blsOf_nil, blsOf_cons, allV_l, isNV_d, notNV_d, parK_ok, parK_exc, gStore_eq, stK_some, gMeth_eq, gFor_eq, gRng1_eq, asI_i, gItL_eq, gItT_eq, asLst_l, asTup_t, addV_ii, subV_ii, mulV_ii, fdivV_ii, modV_ii, shlV_ii, pw6, pw9, pw18, pw19, pw20, pw25, pw30, pw39, ltV_ii, leV_ii, gtV_ii, geV_ii, negV_i, isNV_n, isNV_t, isNV_l, isNV_i, isNV_s, isNV_r, isNV_b, notNV_n, notNV_t, notNV_l, notNV_i, notNV_s, notNV_r, notNV_b, ixV_t, ixV_l, ixV_r, lenV_t, lenV_l, lenV_r, absV_i, max2V_ii, min2V_ii, bitsV_i, setIV_r, setK_some, setL_some, appendM_r, appK_some, appN_ok, isT_r, isK_l, lstK_some, tyK_l, isT_s, isiV_eq, tyN_int, tyN_bl, tyN_non, tyN_str, tyN_tup, tyN_lst, tyN_dct, tyN_r, kk_int_bool, kitK_t, kk_int_str, kk_int_tuple, kk_int_list, kk_int_dict, kk_int_NoneType, kk_bool_int, kk_bool_str, kk_bool_tuple, kk_bool_list, kk_bool_dict, kk_bool_NoneType, kk_str_int, kk_str_bool, kk_str_tuple, kk_str_list, kk_str_dict, kk_str_NoneType, kk_tuple_int, kk_tuple_bool, kk_tuple_str, kk_tuple_list, kk_tuple_dict, kk_tuple_NoneType, kk_list_int, kk_list_bool, kk_list_str, kk_list_tuple, kk_list_dict, kk_list_NoneType, kk_dict_int, kk_dict_bool, kk_dict_str, kk_dict_tuple, kk_dict_list, kk_dict_NoneType, eqV_int, neV_int, isBV_b, neV_bl, eqV_bl, eqV_ii, neV_ii, isNV_fr, notNV_fr, ixV_fr0, ixV_fr1, eqV_fr, neV_fr, int1V_b, int1V_i, ixV_hp0, ixV_hp1, isNV_hp, eqV_hp, neV_hp, tyN_fr, lenV_fr, at0, at1, at2, at3, at4, at5, ixN0, ixN1, List.map_cons, List.map_nil, List.replicate, List.cons_append, List.nil_append, List.getElem?_cons_zero, List.getElem?_cons_succ, List.set_cons_zero, List.set_cons_succ, Bool.not_true, Bool.not_false, Bool.false_eq_true, if_true, if_false, ite_true, ite_false, reduceIte, Nat.reduceSub, Nat.reduceAdd, ne_eq, Int.cast_ofNat_Int, Int.reduceBEq, Int.reduceLT, Int.reduceLE, Int.reduceEq, Int.reduceNeg, Int.reduceMul, Int.reduceAdd, Int.reduceSub, decide_true, decide_false, List.length_cons, List.length_nil, beq_self_eq_true, not_false_eq_true, not_true_eq_false, e2]; rfl
    · simp only [gSlN_eq, slN_r, slN_l, slNK_s, gRevN_eq, revN_r, revNK_s, tupleV_r, tupleV_l, gCallV_eq, gLend_eq, isNotBV_b, gRep_eq, repR_r, gZip_eq, zipR_t, zipR_l, gTry_eq, tryK_nx, tryK_ret, begin_eq, allR_nx, allR_ret, allR_exc, gSkip_eq, gSeq_eq, seqK_nx, seqK_ret, seqK_exc, toS_ok, toS_exc, toST_ok, toST_exc, toSL_ok, toSL_exc, gRet_eq, gAsg_eq, gSet_eq, gExpr_eq, gIfS_eq, gRaise_eq, gBin_eq, gUn_eq, gVar_eq, slotR_some, gC_eq, gArgs_nil, gArgs_cons, gTupE_eq, gLstE_eq, gNewE_eq, gCall_eq, gBi_eq, gB_eq, asB_bl, gAnd_eq, gOr_eq, gNot_eq, gVT_eq, gIf_eq, gChain_eq, chK_t, chK_f, chK_b, bnd_ok, bnd_exc, oo_some, gTo_eq, toK_some, tgName_eq, tgNil_eq, tgCons_eq, tgTup_eq, bind_some, gPar_eq, gCat_eq, catR_r, listV_t, listV_l, blsOf_nil, blsOf_cons, allV_l, isNV_d, notNV_d, parK_ok, parK_exc, gStore_eq, stK_some, gMeth_eq, gFor_eq, gRng1_eq, asI_i, gItL_eq, gItT_eq, asLst_l, asTup_t, addV_ii, subV_ii, mulV_ii, fdivV_ii, modV_ii, shlV_ii, pw6, pw9, pw18, pw19, pw20, pw25, pw30, pw39, ltV_ii, leV_ii, gtV_ii, geV_ii, negV_i, isNV_n, isNV_t, isNV_l, isNV_i, isNV_s, isNV_r, isNV_b, notNV_n, notNV_t, notNV_l, notNV_i, notNV_s, notNV_r, notNV_b, ixV_t, ixV_l, ixV_r, lenV_t, lenV_l, lenV_r, absV_i, max2V_ii, min2V_ii, bitsV_i, setIV_r, setK_some, setL_some, appendM_r, appK_some, appN_ok, isT_r, isK_l, lstK_some, tyK_l, isT_s, isiV_eq, tyN_int, tyN_bl, tyN_non, tyN_str, tyN_tup, tyN_lst, tyN_dct, tyN_r, kk_int_bool, kitK_t, kk_int_str, kk_int_tuple, kk_int_list, kk_int_dict, kk_int_NoneType, kk_bool_int, kk_bool_str, kk_bool_tuple, kk_bool_list, kk_bool_dict, kk_bool_NoneType, kk_str_int, kk_str_bool, kk_str_tuple, kk_str_list, kk_str_dict, kk_str_NoneType, kk_tuple_int, kk_tuple_bool, kk_tuple_str, kk_tuple_list, kk_tuple_dict, kk_tuple_NoneType, kk_list_int, kk_list_bool, kk_list_str, kk_list_tuple, kk_list_dict, kk_list_NoneType, kk_dict_int, kk_dict_bool, kk_dict_str, kk_dict_tuple, kk_dict_list, kk_dict_NoneType, eqV_int, neV_int, isBV_b, neV_bl, eqV_bl, eqV_ii, neV_ii, isNV_fr, notNV_fr, ixV_fr0, ixV_fr1, eqV_fr, neV_fr, int1V_b, int1V_i, ixV_hp0, ixV_hp1, isNV_hp, eqV_hp, neV_hp, tyN_fr, lenV_fr, at0, at1, at2, at3, at4, at5, ixN0, ixN1, List.map_cons, List.map_nil, List.replicate, List.cons_append, List.nil_append, List.getElem?_cons_zero, List.getElem?_cons_succ, List.set_cons_zero, List.set_cons_succ, Bool.not_true, Bool.not_false, Bool.false_eq_true, if_true, if_false, ite_true, ite_false, reduceIte, Nat.reduceSub, Nat.reduceAdd, ne_eq, Int.cast_ofNat_Int, Int.reduceBEq, Int.reduceLT, Int.reduceLE, Int.reduceEq, Int.reduceNeg, Int.reduceMul, Int.reduceAdd, Int.reduceSub, decide_true, decide_false, List.length_cons, List.length_nil, beq_self_eq_true, not_false_eq_true, not_true_eq_false, e3, hapB]
  simp only [F_is_way, g_is_way, gSlN_eq, slN_r, slN_l, slNK_s, gRevN_eq, revN_r, revNK_s, tupleV_r, tupleV_l, gCallV_eq, gLend_eq, isNotBV_b, gRep_eq, repR_r, gZip_eq, zipR_t, zipR_l, gTry_eq, tryK_nx, tryK_ret, begin_eq, allR_nx, allR_ret, allR_exc, gSkip_eq, gSeq_eq, seqK_nx, seqK_ret, seqK_exc, toS_ok, toS_exc, toST_ok, toST_exc, toSL_ok, toSL_exc, gRet_eq, gAsg_eq, gSet_eq, gExpr_eq, gIfS_eq, gRaise_eq, gBin_eq, gUn_eq, gVar_eq, slotR_some, gC_eq, gArgs_nil, gArgs_cons, gTupE_eq, gLstE_eq, gNewE_eq, gCall_eq, gBi_eq, gB_eq, asB_bl, gAnd_eq, gOr_eq, gNot_eq, gVT_eq, gIf_eq, gChain_eq, chK_t, chK_f, chK_b, bnd_ok, bnd_exc, oo_some, gTo_eq, toK_some, tgName_eq, tgNil_eq, tgCons_eq, tgTup_eq, bind_some, gPar_eq, gCat_eq, catR_r, listV_t, listV_l, blsOf_nil, blsOf_cons, allV_l, isNV_d, notNV_d, parK_ok, parK_exc, gStore_eq, stK_some, gMeth_eq, gFor_eq, gRng1_eq, asI_i, gItL_eq, gItT_eq, asLst_l, asTup_t, addV_ii, subV_ii, mulV_ii, fdivV_ii, modV_ii, shlV_ii, pw6, pw9, pw18, pw19, pw20, pw25, pw30, pw39, ltV_ii, leV_ii, gtV_ii, geV_ii, negV_i, isNV_n, isNV_t, isNV_l, isNV_i, isNV_s, isNV_r, isNV_b, notNV_n, notNV_t, notNV_l, notNV_i, notNV_s, notNV_r, notNV_b, ixV_t, ixV_l, ixV_r, lenV_t, lenV_l, lenV_r, absV_i, max2V_ii, min2V_ii, bitsV_i, setIV_r, setK_some, setL_some, appendM_r, appK_some, appN_ok, isT_r, isK_l, lstK_some, tyK_l, isT_s, isiV_eq, tyN_int, tyN_bl, tyN_non, tyN_str, tyN_tup, tyN_lst, tyN_dct, tyN_r, kk_int_bool, kitK_t, kk_int_str, kk_int_tuple, kk_int_list, kk_int_dict, kk_int_NoneType, kk_bool_int, kk_bool_str, kk_bool_tuple, kk_bool_list, kk_bool_dict, kk_bool_NoneType, kk_str_int, kk_str_bool, kk_str_tuple, kk_str_list, kk_str_dict, kk_str_NoneType, kk_tuple_int, kk_tuple_bool, kk_tuple_str, kk_tuple_list, kk_tuple_dict, kk_tuple_NoneType, kk_list_int, kk_list_bool, kk_list_str, kk_list_tuple, kk_list_dict, kk_list_NoneType, kk_dict_int, kk_dict_bool, kk_dict_str, kk_dict_tuple, kk_dict_list, kk_dict_NoneType, eqV_int, neV_int, isBV_b, neV_bl, eqV_bl, eqV_ii, neV_ii, isNV_fr, notNV_fr, ixV_fr0, ixV_fr1, eqV_fr, neV_fr, int1V_b, int1V_i, ixV_hp0, ixV_hp1, isNV_hp, eqV_hp, neV_hp, tyN_fr, lenV_fr, at0, at1, at2, at3, at4, at5, ixN0, ixN1, List.map_cons, List.map_nil, List.replicate, List.cons_append, List.nil_append, List.getElem?_cons_zero, List.getElem?_cons_succ, List.set_cons_zero, List.set_cons_succ, Bool.not_true, Bool.not_false, Bool.false_eq_true, if_true, if_false, ite_true, ite_false, reduceIte, Nat.reduceSub, Nat.reduceAdd, ne_eq, Int.cast_ofNat_Int, Int.reduceBEq, Int.reduceLT, Int.reduceLE, Int.reduceEq, Int.reduceNeg, Int.reduceMul, Int.reduceAdd, Int.reduceSub, decide_true, decide_false, List.length_cons, List.length_nil, beq_self_eq_true, not_false_eq_true, not_true_eq_false, kk_list_list, d1, d2, c1]
  rfl
theorem gh_take2 {hs : List (Rat × Rat)} (h : 2 ≤ hs.length) : (hs.map hq).take 2 = [hq (gh hs 0), hq (gh hs 1)] := by
  rcases hs with _ | ⟨a, _ | ⟨b, l⟩⟩
  · cases h
  · exact absurd h (by simp)
  · rfl
theorem FZ_hq (h : Rat × Rat) : FZ 3 (hq h) := FZ_hp h.1 h.2
theorem FZ_non : FZ 0 .non → True := fun _ => trivial
theorem fz1_non : FZ 1 .non := fun d st n => rfl
/-- the thirteen haps -/
def T13 : List PV := (rng 0 13).map fun z => PV.tup [.tup [z, .int 1], .tup [.int 0, .int 1]]
theorem T13_len : T13.length = 13 := by unfold T13; rw [List.length_map, rng_len]
theorem T13_fz : ∀ z ∈ T13, FZ 3 z := fun z hz => by
  unfold T13 at hz
  obtain ⟨y, hy, rfl⟩ := List.mem_map.mp hz
  obtain ⟨k, rfl, -⟩ := mem_rng hy
  exact fun _ _ _ => rfl
theorem slN_e {st : List SO} {k n : Nat} {xs : List PV} {ρ : REnv} (hv : gVar 3 ρ st = .ok (.ref k) st) (h : st[k]? = some (.lst xs)) : gSlN (gVar 3) none (some (n : Int)) ρ st = .ok (.ref st.length) (st ++ [.lst (xs.take n)]) := by
  rw [gSlN_eq, hv, bnd_ok, slN_r, h, slNK_s, cut_take]
theorem get_b {st : List SO} {a b : SO} : (st ++ [a] ++ [b])[st.length]? = some a := by
  rw [List.append_assoc, List.getElem?_append_right (Nat.le_refl _), Nat.sub_self]; rfl
theorem get_b2 {st : List SO} {a b : SO} : (st ++ [a] ++ [b])[(st ++ [a]).length]? = some b := get_new
theorem cat_e {st : List SO} {k n : Nat} {xs : List PV} {g : G} {v : PV} {ρ : REnv} (hn : n ≤ 12) (hv : gVar 3 ρ st = .ok (.ref k) st) (h : st[k]? = some (.lst xs)) (hg : ∀ st, g ρ st = .ok v st) : gCat (gSlN (gVar 3) none (some (n : Int))) (gNewE [g]) ρ st = .ok (.ref (st.length + 2)) (st ++ [.lst (xs.take n)] ++ [SO.lst [v]] ++ [SO.lst (xs.take n ++ [v])]) := by
  have e1 := slN_e (n := n) hv h
  have l1 : (xs.take n).length ≤ 12 := by rw [List.length_take]; omega
  have lo : LineOk ((xs.take n).length + [v].length) := by show _ + 1 ≤ sizeLine; rw [sizeLine_eq]; omega
  have e2 : gNewE [g] ρ (st ++ [.lst (xs.take n)]) = .ok (.ref (st ++ [SO.lst (xs.take n)]).length) (st ++ [.lst (xs.take n)] ++ [SO.lst [v]]) := by
    simp only [gNewE_eq, gArgs_cons, gArgs_nil, hg, bnd_ok]
  rw [gCat_eq, e1, bnd_ok, e2, bnd_ok, catR_r, get_b, get_b2]
  show (if LineOk _ then _ else _) = _
  rw [if_pos lo]
  congr 2
  rw [List.length_append, List.length_append]
  rfl
theorem rev_e {st : List SO} {k n : Nat} {xs : List PV} {ρ : REnv} (hv : gVar 3 ρ st = .ok (.ref k) st) (h : st[k]? = some (.lst xs)) : gRevN (gSlN (gVar 3) none (some (n : Int))) ρ st = .ok (.ref (st.length + 1)) (st ++ [.lst (xs.take n)] ++ [SO.lst (xs.take n).reverse]) := by
  rw [gRevN_eq, slN_e hv h, bnd_ok, revN_r, get_new, revNK_s, List.length_append]
  rfl
noncomputable def tail7 : G := (gLstE [(gLstE []), (gSlN (gVar 3) none (some 1)), (gVar 6), (gBi tupleV [(gVar 3)]), (gCat (gSlN (gVar 3) none (some 2)) (gNewE [(gC .non)])), (gC .non), (gC (.int 5)), (gC (.str "0@0")), (gC (.dct [])), (gLstE [(gVar 3)]), (gRevN (gSlN (gVar 3) none (some 2)))])
/-- the eleven things, and what stands behind -/
theorem seven {st : List SO} {hs : List (Rat × Rat)} {p : Int} {ρ : REnv} (hv : ∀ st', gVar 3 ρ st' = .ok (.ref (st.length + 1)) st') (h6 : ∀ st', gVar 6 ρ st' = .ok (.lst T13) st') :
    ∃ l r1 r4 r6, tail7 ρ (WS st p hs) = .ok (.lst [.lst [], .ref r1, .lst T13, .tup (hs.map hq), .ref r4, .non, .int 5, .str "0@0", .dct [], .lst [.ref (st.length + 1)], .ref r6]) (WS st p hs ++ l)
      ∧ (∀ p, (WS st p hs ++ l)[st.length + 1]? = some (.lst (hs.map hq))) ∧ (∀ p, (WS st p hs ++ l)[r1]? = some (.lst ((hs.map hq).take 1))) ∧ (∀ p, (WS st p hs ++ l)[r4]? = some (.lst ((hs.map hq).take 2 ++ [.non]))) ∧ (∀ p, (WS st p hs ++ l)[r6]? = some (.lst ((hs.map hq).take 2).reverse)) := by
  have len : ∀ p, (WS st p hs).length = st.length + 2 := fun p => by unfold WS; rw [PS_len, List.length_append]; rfl
  have g0 := fun p => WS_get (st := st) (p := p) (hs := hs)
  have gl : ∀ p l, (WS st p hs ++ l)[st.length + 1]? = some (.lst (hs.map hq)) := fun p l => by
    rw [List.getElem?_append_left (by rw [len]; omega)]; exact g0 p
  have e1 := slN_e (n := 1) (hv (WS st p hs)) (g0 p)
  have e2 := cat_e (n := 2) (g := gC .non) (v := .non) (by omega) (hv (WS st p hs ++ [SO.lst ((hs.map hq).take 1)])) (gl p _) (fun _ => rfl)
  have e3 := rev_e (n := 2) (hv (WS st p hs ++ [SO.lst ((hs.map hq).take 1)] ++ [SO.lst ((hs.map hq).take 2)] ++ [SO.lst [.non]] ++ [SO.lst ((hs.map hq).take 2 ++ [.non])])) (by rw [List.append_assoc, List.append_assoc, List.append_assoc]; exact gl p _)
  have et : gBi tupleV [gVar 3] ρ (WS st p hs ++ [SO.lst ((hs.map hq).take 1)]) = .ok (.tup (hs.map hq)) (WS st p hs ++ [SO.lst ((hs.map hq).take 1)]) := by
    have g := gl p [.lst ((hs.map hq).take 1)]
    simp only [gBi_eq, gArgs_cons, gArgs_nil, hv, bnd_ok, tupleV_r, g, lstK_some, toK_some, oo_some]
  have len2 : (WS st p hs ++ [SO.lst ((hs.map hq).take 1)]).length = st.length + 3 := by rw [List.length_append, len]; rfl
  have len3 : (WS st p hs ++ [SO.lst ((hs.map hq).take 1)] ++ [SO.lst ((hs.map hq).take 2)] ++ [SO.lst [.non]] ++ [SO.lst ((hs.map hq).take 2 ++ [.non])]).length = st.length + 6 := by rw [List.length_append, List.length_append, List.length_append, len2]; rfl
  rw [len] at e1
  rw [len2] at e2
  rw [len3] at e3
  refine ⟨[.lst ((hs.map hq).take 1), .lst ((hs.map hq).take 2), .lst [.non], .lst ((hs.map hq).take 2 ++ [.non]), .lst ((hs.map hq).take 2), .lst ((hs.map hq).take 2).reverse], st.length + 2, st.length + 3 + 2, st.length + 6 + 1, ?_, fun p => gl p _, fun p => ?_, fun p => ?_, fun p => ?_⟩
  · have c0 : gLstE [] ρ (WS st p hs) = .ok (.lst []) (WS st p hs) := rfl
    have c5 : ∀ st', gC .non ρ st' = .ok .non st' := fun _ => rfl
    have c6 : ∀ st', gC (.int 5) ρ st' = .ok (.int 5) st' := fun _ => rfl
    have c7 : ∀ st', gC (.str "0@0") ρ st' = .ok (.str "0@0") st' := fun _ => rfl
    have c8 : ∀ st', gC (.dct []) ρ st' = .ok (.dct []) st' := fun _ => rfl
    have c9 : ∀ st', gLstE [gVar 3] ρ st' = .ok (.lst [.ref (st.length + 1)]) st' := fun st' => by rw [gLstE_eq, gArgs_cons, hv, bnd_ok, gArgs_nil, bnd_ok, bnd_ok]
    show bnd (gArgs _ ρ (WS st p hs)) (fun xs st => Res.ok (PV.lst xs) st) = _
    have e1 : gSlN (gVar 3) none (some 1) ρ (WS st p hs) = _ := e1
    have e2 : gCat (gSlN (gVar 3) none (some 2)) (gNewE [gC .non]) ρ _ = _ := e2
    have e3 : gRevN (gSlN (gVar 3) none (some 2)) ρ _ = _ := e3
    simp only [gArgs_cons, gArgs_nil, c0, e1, h6, et, e2, c5, c6, c7, c8, c9, e3, bnd_ok]
    simp only [List.append_assoc, List.cons_append, List.nil_append]
  · have := len p; rw [← this, List.getElem?_append_right (Nat.le_refl _), Nat.sub_self]; rfl
  · have := len p; rw [List.getElem?_append_right (by omega), show st.length + 3 + 2 - (WS st p hs).length = 3 by omega]; rfl
  · have := len p; rw [List.getElem?_append_right (by omega), show st.length + 6 + 1 - (WS st p hs).length = 5 by omega]; rfl
/-- none of them is a way -/
theorem no_ways {st : List SO} {h0 : Rat × Rat} {hs : List (Rat × Rat)} {l : List SO} {r1 r4 r6 : Nat} {p : Int} (w : WI h0 hs) (h2 : 2 ≤ hs.length) (h12 : hs.length ≤ 12) (a0 : (WS st p hs ++ l)[st.length + 1]? = some (.lst (hs.map hq))) (a1 : (WS st p hs ++ l)[r1]? = some (.lst ((hs.map hq).take 1))) (a4 : (WS st p hs ++ l)[r4]? = some (.lst ((hs.map hq).take 2 ++ [.non]))) (a6 : (WS st p hs ++ l)[r6]? = some (.lst ((hs.map hq).take 2).reverse)) :
    ∀ z ∈ [PV.lst [], .ref r1, .lst T13, .tup (hs.map hq), .ref r4, .non, .int 5, .str "0@0", .dct [], .lst [.ref (st.length + 1)], .ref r6], lendR F__law_told_11 [.cls "own_along", .lst [z]] (WS st p hs ++ l) = .ok (.str "step") (WS st p hs ++ l) := by
  have fz : ∀ z ∈ hs.map hq, FZ 3 z := fun z hz => by
    obtain ⟨h, -, rfl⟩ := List.mem_map.mp hz
    exact FZ_hq h
  have len : (hs.map hq).length = hs.length := List.length_map ..
  generalize hS : WS st p hs ++ l = S at *
  intro z hz
  simp only [List.mem_cons, List.not_mem_nil, or_false] at hz
  rcases hz with rfl | rfl | rfl | rfl | rfl | rfl | rfl | rfl | rfl | rfl | rfl
  · exact told_bad (y := .lst []) rfl (len_not (x := .non) (by simp))
  · exact told_bad (frz_refd (d := 7) a1 fun z hz => (fz z (List.mem_of_mem_take hz)).mono (by omega)) (len_not (x := .non) (by rw [List.length_take]; omega))
  · refine told_bad (y := .lst T13) ((FZ_lst (k := 3) T13_fz).mono (m := 8) (by omega) 0 S 0) (len_not (x := .non) (by rw [T13_len]; omega))
  · exact told_bad (y := .tup (hs.map hq)) ((FZ_tup (k := 3) fz).mono (m := 8) (by omega) 0 S 0) (isway_not (T := "tuple") rfl kk_list_tuple)
  · refine told_bad (frz_refd (d := 7) a4 fun z hz => ?_) (by rw [gh_take2 h2]; exact way_nots)
    rcases List.mem_append.mp hz with q | q
    · exact (fz z (List.mem_of_mem_take q)).mono (by omega)
    · rw [List.mem_singleton.mp q]; exact fz1_non.mono (by omega)
  · exact told_bad (y := .non) rfl (isway_not (T := "NoneType") rfl kk_list_NoneType)
  · exact told_bad (y := .int 5) rfl (isway_not (T := "int") rfl kk_list_int)
  · exact told_bad (y := .str "0@0") rfl (isway_not (T := "str") rfl kk_list_str)
  · exact told_bad (y := .dct []) rfl (isway_not (T := "dict") rfl kk_list_dict)
  · refine told_bad (y := .lst [.lst (hs.map hq)]) ?_ (len_not (x := .non) (by simp))
    have e := frz_refd (d := 6) a0 fun z hz => (fz z hz).mono (by omega)
    show (mapO (frzV S 0 7) [.ref (st.length + 1)]).map PV.lst = _
    simp only [mapO, e]
    rfl
  · have al := w.all h12
    have m0 := al _ (gh_mem (i := 0) (by omega))
    have m1 := al _ (gh_mem (i := 1) (by omega))
    have hz2 : ∀ h ∈ [gh hs 1, gh hs 0], HR 220 h := fun h hh => by
      simp only [List.mem_cons, List.not_mem_nil, or_false] at hh
      rcases hh with rfl | rfl <;> assumption
    have e := isway_ok (n := 220) (hs := [gh hs 1, gh hs 0]) (st := []) (by simp) (by simp) hz2 (by omega)
    have f : allLat [gh hs 1, gh hs 0] = false := by
      have := (w.st 0 (by omega)).lat.2
      show (([lat (gh hs 1) (gh hs 0)] : List Bool).all id) = false
      rw [this]; rfl
    rw [f] at e
    refine told_bad (frz_refd (d := 7) a6 fun z hz => (fz z (List.mem_of_mem_take (List.mem_reverse.mp hz))).mono (by omega)) ?_
    rw [gh_take2 h2]
    exact e
noncomputable def pairsG : G := (gLstE [(gTupE [(gVar 8), (gVar 9)]), (gTupE [(gVar 9), (gVar 8)]), (gTupE [(gBin ixV (gVar 3) (gC (.int 0))), (gBin ixV (gVar 3) (gC (.int 1)))]), (gTupE [(gBin ixV (gVar 3) (gC (.int 0))), (gBin ixV (gVar 3) (gUn negV (gC (.int 1))))]), (gTupE [(gVar 8), (gVar 8)])])
noncomputable def fiveG (F2 : Fn) : G := (gComp (gItL (gVar 5)) (tgName 11) gYes (gCall F2 [(gBin ixV (gVar 11) (gC (.int 0))), (gBin ixV (gVar 11) (gC (.int 1)))]) [11])
noncomputable def thirtG : G := (gComp (gRng1 (gC (.int 13))) (tgName 10) gYes (gTupE [(gTupE [(gVar 10), (gC (.int 1))]), (gTupE [(gC (.int 0)), (gC (.int 1))])]) [10])
noncomputable def lastG (F3 : Fn) : G := (gLend F3 [(gCat (gSlN (gVar 3) none (some 11)) (gNewE [(gVar 9)]))])
noncomputable def tailB (F1 F2 F3 F4 : Fn) : GS := (gSeq (gSet 5 pairsG)
  (gSeq (gIfS (gOr (gNot (gB (gBi allV [fiveG F2]))) (gNot (gB (gLend F3 [(gVar 3)])))) (gRet (gC (.bl false))) gSkip)
  (gSeq (gSet 6 thirtG)
  (gSeq (gSet 7 tail7)
  (gIfS (gOr (gB (gBin neV (gLend F4 [(gC (.cls "own_along")), (gLstE [(gBin ixV (gVar 7) (gCall F1 [(gVar 2), (gC (.int 11))]))])]) (gC (.str "step")))) (gNot (gB (lastG F3)))) (gRet (gC (.bl false))) gSkip)))))
abbrev In12 (ns : List Int) (ρ : REnv) : Prop := ∃ b c d e f g h i j k l, ρ = [some (.lst (ns.map .int)), b, c, d, e, f, g, h, i, j, k, l]
theorem last_ok {st : List SO} {h0 k : Rat × Rat} {hs : List (Rat × Rat)} {l : List SO} {p : Int} {ρ : REnv} (w : WI h0 hs) (h2 : 2 ≤ hs.length) (h12 : hs.length ≤ 12) (hk : HR 102 k) (hv : ∀ st', gVar 3 ρ st' = .ok (.ref (st.length + 1)) st') (h9 : ∀ st', gVar 9 ρ st' = .ok (hq k) st') (a0 : (WS st p hs ++ l)[st.length + 1]? = some (.lst (hs.map hq))) :
    ∃ st2, lastG F__law_way_right ρ (WS st p hs ++ l) = .ok (.bl true) st2 := by
  unfold lastG
  generalize hS : WS st p hs ++ l = S at *
  have e := cat_e (n := 11) (g := gVar 9) (v := hq k) (by omega) (hv S) a0 h9
  have e : gCat (gSlN (gVar 3) none (some 11)) (gNewE [gVar 9]) ρ S = _ := e
  obtain ⟨B, al⟩ := w.sb2 h12 (k := k) ⟨hk.t.mono (by omega), hk.x.mono (by omega)⟩
  have ln : (hs.take 11 ++ [k]).length = min 11 hs.length + 1 := by rw [List.length_append, List.length_take]; rfl
  have lw := lway_ok (st := []) (by rw [ln]; omega) (by rw [ln]; omega) al (by omega) B
  have me : (hs.map hq).take 11 ++ [hq k] = (hs.take 11 ++ [k]).map hq := by rw [List.map_append, List.map_take]; rfl
  rw [me] at e
  have gt : (S ++ [SO.lst ((hs.map hq).take 11)] ++ [SO.lst [hq k]] ++ [SO.lst ((hs.take 11 ++ [k]).map hq)])[S.length + 2]? = some (.lst ((hs.take 11 ++ [k]).map hq)) := by
    have : S.length + 2 = (S ++ [SO.lst ((hs.map hq).take 11)] ++ [SO.lst [hq k]]).length := by rw [List.length_append, List.length_append]; rfl
    rw [this, get_new]
  have fz := frz_list gt fun z hz => by
    obtain ⟨h, -, rfl⟩ := List.mem_map.mp hz
    exact (FZ_hq h).mono (by omega)
  have ld := lend1 fz lw
  generalize S ++ [SO.lst ((hs.map hq).take 11)] ++ [SO.lst [hq k]] ++ [SO.lst ((hs.take 11 ++ [k]).map hq)] = S2 at *
  refine ⟨S2, ?_⟩
  rw [gLend_eq, gArgs_cons, e, bnd_ok, gArgs_nil, bnd_ok, bnd_ok]
  exact ld
theorem k61_tail {ns : List Int} {st : List SO} {h0 k : Rat × Rat} {hs : List (Rat × Rat)} {p : Int} {v1 v4 v5 v6 v7 v10 v11 : Option PV} (w : WI h0 hs) (h2 : 2 ≤ hs.length) (h12 : hs.length ≤ 12) (hk : HR 102 k) :
    ∃ ρ2 st2, tailB F__law_take F__law_step_right F__law_way_right F__law_told_11 [some (.lst (ns.map .int)), v1, some (.ref st.length), some (.ref (st.length + 1)), v4, v5, v6, v7, some (hq h0), some (hq k), v10, v11] (WS st p hs) = .nx ρ2 st2 ∧ In12 ns ρ2 := by
  have al := w.all h12
  have hk2 : HR 220 k := ⟨hk.t.mono (by omega), hk.x.mono (by omega)⟩
  have m0 := al _ (gh_mem (i := 0) (by omega))
  have m1 := al _ (gh_mem (i := 1) (by omega))
  have ml := al _ (gh_mem (i := hs.length - 1) (by omega))
  have mh : HR 220 h0 := by rw [← w.hd]; exact m0
  have i0 : atI (hs.map hq) 0 = some (hq (gh hs 0)) := atN (gh_at (i := 0) (by omega))
  have i1 : atI (hs.map hq) 1 = some (hq (gh hs 1)) := atN (gh_at (i := 1) (by omega))
  have il := at_last w.ne
  have wg := WS_get (st := st) (p := p) (hs := hs)
  have s12 := fun st => lstep_ok (st := st) mh hk2 (by omega)
  have s21 := fun st => lstep_ok (st := st) hk2 mh (by omega)
  have s3 := fun st => lstep_ok (st := st) m0 m1 (by omega)
  have s4 := fun st => lstep_ok (st := st) m0 ml (by omega)
  have s5 := fun st => lstep_ok (st := st) mh mh (by omega)
  generalize hL5 : [PV.tup [hq h0, hq k], .tup [hq k, hq h0], .tup [hq (gh hs 0), hq (gh hs 1)], .tup [hq (gh hs 0), hq (gh hs (hs.length - 1))], .tup [hq h0, hq h0]] = L5
  have c5 : fiveG F__law_step_right [some (.lst (ns.map .int)), v1, some (.ref st.length), some (.ref (st.length + 1)), v4, some (.lst L5), v6, v7, some (hq h0), some (hq k), v10, v11] (WS st p hs) = .ok (.lst [.bl true, .bl true, .bl true, .bl true, .bl true]) (WS st p hs) := by
    unfold fiveG
    subst hL5
    refine comp_same (xs := [PV.tup [hq h0, hq k], .tup [hq k, hq h0], .tup [hq (gh hs 0), hq (gh hs 1)], .tup [hq (gh hs 0), hq (gh hs (hs.length - 1))], .tup [hq h0, hq h0]]) rfl (by simp) fun z hz => ?_
    have pair : ∀ a b : Rat × Rat, F__law_step_right [hq a, hq b] (WS st p hs) = .ok (.bl true) (WS st p hs) → ∃ ρ1, tgName 11 (.tup [hq a, hq b]) (wipeR [some (.lst (ns.map .int)), v1, some (.ref st.length), some (.ref (st.length + 1)), v4, some (.lst [PV.tup [hq h0, hq k], .tup [hq k, hq h0], .tup [hq (gh hs 0), hq (gh hs 1)], .tup [hq (gh hs 0), hq (gh hs (hs.length - 1))], .tup [hq h0, hq h0]]), v6, v7, some (hq h0), some (hq k), v10, v11] [11]) = some ρ1 ∧ gCall F__law_step_right [(gBin ixV (gVar 11) (gC (.int 0))), (gBin ixV (gVar 11) (gC (.int 1)))] ρ1 (WS st p hs) = .ok (.bl true) (WS st p hs) := fun a b e => by
      refine ⟨_, rfl, ?_⟩
      simp only [gSlN_eq, slN_r, slN_l, slNK_s, gRevN_eq, revN_r, revNK_s, tupleV_r, tupleV_l, gCallV_eq, gLend_eq, isNotBV_b, gRep_eq, repR_r, gZip_eq, zipR_t, zipR_l, gTry_eq, tryK_nx, tryK_ret, begin_eq, allR_nx, allR_ret, allR_exc, gSkip_eq, gSeq_eq, seqK_nx, seqK_ret, seqK_exc, toS_ok, toS_exc, toST_ok, toST_exc, toSL_ok, toSL_exc, gRet_eq, gAsg_eq, gSet_eq, gExpr_eq, gIfS_eq, gRaise_eq, gBin_eq, gUn_eq, gVar_eq, slotR_some, gC_eq, gArgs_nil, gArgs_cons, gTupE_eq, gLstE_eq, gNewE_eq, gCall_eq, gBi_eq, gB_eq, asB_bl, gAnd_eq, gOr_eq, gNot_eq, gVT_eq, gIf_eq, gChain_eq, chK_t, chK_f, chK_b, bnd_ok, bnd_exc, oo_some, gTo_eq, toK_some, tgName_eq, tgNil_eq, tgCons_eq, tgTup_eq, bind_some, gPar_eq, gCat_eq, catR_r, listV_t, listV_l, blsOf_nil, blsOf_cons, allV_l, isNV_d, notNV_d, parK_ok, parK_exc, gStore_eq, stK_some, gMeth_eq, gFor_eq, gRng1_eq, asI_i, gItL_eq, gItT_eq, asLst_l, asTup_t, addV_ii, subV_ii, mulV_ii, fdivV_ii, modV_ii, shlV_ii, pw6, pw9, pw18, pw19, pw20, pw25, pw30, pw39, ltV_ii, leV_ii, gtV_ii, geV_ii, negV_i, isNV_n, isNV_t, isNV_l, isNV_i, isNV_s, isNV_r, isNV_b, notNV_n, notNV_t, notNV_l, notNV_i, notNV_s, notNV_r, notNV_b, ixV_t, ixV_l, ixV_r, lenV_t, lenV_l, lenV_r, absV_i, max2V_ii, min2V_ii, bitsV_i, setIV_r, setK_some, setL_some, appendM_r, appK_some, appN_ok, isT_r, isK_l, lstK_some, tyK_l, isT_s, isiV_eq, tyN_int, tyN_bl, tyN_non, tyN_str, tyN_tup, tyN_lst, tyN_dct, tyN_r, kk_int_bool, kitK_t, kk_int_str, kk_int_tuple, kk_int_list, kk_int_dict, kk_int_NoneType, kk_bool_int, kk_bool_str, kk_bool_tuple, kk_bool_list, kk_bool_dict, kk_bool_NoneType, kk_str_int, kk_str_bool, kk_str_tuple, kk_str_list, kk_str_dict, kk_str_NoneType, kk_tuple_int, kk_tuple_bool, kk_tuple_str, kk_tuple_list, kk_tuple_dict, kk_tuple_NoneType, kk_list_int, kk_list_bool, kk_list_str, kk_list_tuple, kk_list_dict, kk_list_NoneType, kk_dict_int, kk_dict_bool, kk_dict_str, kk_dict_tuple, kk_dict_list, kk_dict_NoneType, eqV_int, neV_int, isBV_b, neV_bl, eqV_bl, eqV_ii, neV_ii, isNV_fr, notNV_fr, ixV_fr0, ixV_fr1, eqV_fr, neV_fr, int1V_b, int1V_i, ixV_hp0, ixV_hp1, isNV_hp, eqV_hp, neV_hp, tyN_fr, lenV_fr, at0, at1, at2, at3, at4, at5, ixN0, ixN1, List.map_cons, List.map_nil, List.replicate, List.cons_append, List.nil_append, List.getElem?_cons_zero, List.getElem?_cons_succ, List.set_cons_zero, List.set_cons_succ, Bool.not_true, Bool.not_false, Bool.false_eq_true, if_true, if_false, ite_true, ite_false, reduceIte, Nat.reduceSub, Nat.reduceAdd, ne_eq, Int.cast_ofNat_Int, Int.reduceBEq, Int.reduceLT, Int.reduceLE, Int.reduceEq, Int.reduceNeg, Int.reduceMul, Int.reduceAdd, Int.reduceSub, decide_true, decide_false, List.length_cons, List.length_nil, beq_self_eq_true, not_false_eq_true, not_true_eq_false, wipeR, e]
    simp only [List.mem_cons, List.not_mem_nil, or_false] at hz
    rcases hz with rfl | rfl | rfl | rfl | rfl
    · exact pair _ _ (s12 _)
    · exact pair _ _ (s21 _)
    · exact pair _ _ (s3 _)
    · exact pair _ _ (s4 _)
    · exact pair _ _ (s5 _)
  have e5 : pairsG [some (.lst (ns.map .int)), v1, some (.ref st.length), some (.ref (st.length + 1)), v4, v5, v6, v7, some (hq h0), some (hq k), v10, v11] (WS st p hs) = .ok (.lst L5) (WS st p hs) := by
    unfold pairsG
    simp only [gSlN_eq, slN_r, slN_l, slNK_s, gRevN_eq, revN_r, revNK_s, tupleV_r, tupleV_l, gCallV_eq, gLend_eq, isNotBV_b, gRep_eq, repR_r, gZip_eq, zipR_t, zipR_l, gTry_eq, tryK_nx, tryK_ret, begin_eq, allR_nx, allR_ret, allR_exc, gSkip_eq, gSeq_eq, seqK_nx, seqK_ret, seqK_exc, toS_ok, toS_exc, toST_ok, toST_exc, toSL_ok, toSL_exc, gRet_eq, gAsg_eq, gSet_eq, gExpr_eq, gIfS_eq, gRaise_eq, gBin_eq, gUn_eq, gVar_eq, slotR_some, gC_eq, gArgs_nil, gArgs_cons, gTupE_eq, gLstE_eq, gNewE_eq, gCall_eq, gBi_eq, gB_eq, asB_bl, gAnd_eq, gOr_eq, gNot_eq, gVT_eq, gIf_eq, gChain_eq, chK_t, chK_f, chK_b, bnd_ok, bnd_exc, oo_some, gTo_eq, toK_some, tgName_eq, tgNil_eq, tgCons_eq, tgTup_eq, bind_some, gPar_eq, gCat_eq, catR_r, listV_t, listV_l, blsOf_nil, blsOf_cons, allV_l, isNV_d, notNV_d, parK_ok, parK_exc, gStore_eq, stK_some, gMeth_eq, gFor_eq, gRng1_eq, asI_i, gItL_eq, gItT_eq, asLst_l, asTup_t, addV_ii, subV_ii, mulV_ii, fdivV_ii, modV_ii, shlV_ii, pw6, pw9, pw18, pw19, pw20, pw25, pw30, pw39, ltV_ii, leV_ii, gtV_ii, geV_ii, negV_i, isNV_n, isNV_t, isNV_l, isNV_i, isNV_s, isNV_r, isNV_b, notNV_n, notNV_t, notNV_l, notNV_i, notNV_s, notNV_r, notNV_b, ixV_t, ixV_l, ixV_r, lenV_t, lenV_l, lenV_r, absV_i, max2V_ii, min2V_ii, bitsV_i, setIV_r, setK_some, setL_some, appendM_r, appK_some, appN_ok, isT_r, isK_l, lstK_some, tyK_l, isT_s, isiV_eq, tyN_int, tyN_bl, tyN_non, tyN_str, tyN_tup, tyN_lst, tyN_dct, tyN_r, kk_int_bool, kitK_t, kk_int_str, kk_int_tuple, kk_int_list, kk_int_dict, kk_int_NoneType, kk_bool_int, kk_bool_str, kk_bool_tuple, kk_bool_list, kk_bool_dict, kk_bool_NoneType, kk_str_int, kk_str_bool, kk_str_tuple, kk_str_list, kk_str_dict, kk_str_NoneType, kk_tuple_int, kk_tuple_bool, kk_tuple_str, kk_tuple_list, kk_tuple_dict, kk_tuple_NoneType, kk_list_int, kk_list_bool, kk_list_str, kk_list_tuple, kk_list_dict, kk_list_NoneType, kk_dict_int, kk_dict_bool, kk_dict_str, kk_dict_tuple, kk_dict_list, kk_dict_NoneType, eqV_int, neV_int, isBV_b, neV_bl, eqV_bl, eqV_ii, neV_ii, isNV_fr, notNV_fr, ixV_fr0, ixV_fr1, eqV_fr, neV_fr, int1V_b, int1V_i, ixV_hp0, ixV_hp1, isNV_hp, eqV_hp, neV_hp, tyN_fr, lenV_fr, at0, at1, at2, at3, at4, at5, ixN0, ixN1, List.map_cons, List.map_nil, List.replicate, List.cons_append, List.nil_append, List.getElem?_cons_zero, List.getElem?_cons_succ, List.set_cons_zero, List.set_cons_succ, Bool.not_true, Bool.not_false, Bool.false_eq_true, if_true, if_false, ite_true, ite_false, reduceIte, Nat.reduceSub, Nat.reduceAdd, ne_eq, Int.cast_ofNat_Int, Int.reduceBEq, Int.reduceLT, Int.reduceLE, Int.reduceEq, Int.reduceNeg, Int.reduceMul, Int.reduceAdd, Int.reduceSub, decide_true, decide_false, List.length_cons, List.length_nil, beq_self_eq_true, not_false_eq_true, not_true_eq_false, wg, i0, i1, il, hL5]
  have fz : ∀ z ∈ hs.map hq, FZ 8 z := fun z hz => by
    obtain ⟨h, -, rfl⟩ := List.mem_map.mp hz
    exact (FZ_hq h).mono (by omega)
  have fl := frz_list wg fz
  have ld : lendR F__law_way_right [.ref (st.length + 1)] (WS st p hs) = .ok (.bl true) (WS st p hs) := lend1 fl (lway_ok (st := []) h2 h12 al (by omega) w.sb)
  have r13 : RngOk 13 := by unfold RngOk; omega
  have c6 : thirtG [some (.lst (ns.map .int)), v1, some (.ref st.length), some (.ref (st.length + 1)), v4, some (.lst L5), v6, v7, some (hq h0), some (hq k), v10, v11] (WS st p hs) = .ok (.lst T13) (WS st p hs) := by
    unfold thirtG
    refine gComp_ok (xs := rng 0 13) (st1 := WS st p hs) ?_ (comp_map (fun z => PV.tup [.tup [z, .int 1], .tup [.int 0, .int 1]]) _ fun z hz => ⟨_, rfl, rfl⟩) (lenOk_small (by show T13.length ≤ 1000; rw [T13_len]; omega))
    simp only [gSlN_eq, slN_r, slN_l, slNK_s, gRevN_eq, revN_r, revNK_s, tupleV_r, tupleV_l, gCallV_eq, gLend_eq, isNotBV_b, gRep_eq, repR_r, gZip_eq, zipR_t, zipR_l, gTry_eq, tryK_nx, tryK_ret, begin_eq, allR_nx, allR_ret, allR_exc, gSkip_eq, gSeq_eq, seqK_nx, seqK_ret, seqK_exc, toS_ok, toS_exc, toST_ok, toST_exc, toSL_ok, toSL_exc, gRet_eq, gAsg_eq, gSet_eq, gExpr_eq, gIfS_eq, gRaise_eq, gBin_eq, gUn_eq, gVar_eq, slotR_some, gC_eq, gArgs_nil, gArgs_cons, gTupE_eq, gLstE_eq, gNewE_eq, gCall_eq, gBi_eq, gB_eq, asB_bl, gAnd_eq, gOr_eq, gNot_eq, gVT_eq, gIf_eq, gChain_eq, chK_t, chK_f, chK_b, bnd_ok, bnd_exc, oo_some, gTo_eq, toK_some, tgName_eq, tgNil_eq, tgCons_eq, tgTup_eq, bind_some, gPar_eq, gCat_eq, catR_r, listV_t, listV_l, blsOf_nil, blsOf_cons, allV_l, isNV_d, notNV_d, parK_ok, parK_exc, gStore_eq, stK_some, gMeth_eq, gFor_eq, gRng1_eq, asI_i, gItL_eq, gItT_eq, asLst_l, asTup_t, addV_ii, subV_ii, mulV_ii, fdivV_ii, modV_ii, shlV_ii, pw6, pw9, pw18, pw19, pw20, pw25, pw30, pw39, ltV_ii, leV_ii, gtV_ii, geV_ii, negV_i, isNV_n, isNV_t, isNV_l, isNV_i, isNV_s, isNV_r, isNV_b, notNV_n, notNV_t, notNV_l, notNV_i, notNV_s, notNV_r, notNV_b, ixV_t, ixV_l, ixV_r, lenV_t, lenV_l, lenV_r, absV_i, max2V_ii, min2V_ii, bitsV_i, setIV_r, setK_some, setL_some, appendM_r, appK_some, appN_ok, isT_r, isK_l, lstK_some, tyK_l, isT_s, isiV_eq, tyN_int, tyN_bl, tyN_non, tyN_str, tyN_tup, tyN_lst, tyN_dct, tyN_r, kk_int_bool, kitK_t, kk_int_str, kk_int_tuple, kk_int_list, kk_int_dict, kk_int_NoneType, kk_bool_int, kk_bool_str, kk_bool_tuple, kk_bool_list, kk_bool_dict, kk_bool_NoneType, kk_str_int, kk_str_bool, kk_str_tuple, kk_str_list, kk_str_dict, kk_str_NoneType, kk_tuple_int, kk_tuple_bool, kk_tuple_str, kk_tuple_list, kk_tuple_dict, kk_tuple_NoneType, kk_list_int, kk_list_bool, kk_list_str, kk_list_tuple, kk_list_dict, kk_list_NoneType, kk_dict_int, kk_dict_bool, kk_dict_str, kk_dict_tuple, kk_dict_list, kk_dict_NoneType, eqV_int, neV_int, isBV_b, neV_bl, eqV_bl, eqV_ii, neV_ii, isNV_fr, notNV_fr, ixV_fr0, ixV_fr1, eqV_fr, neV_fr, int1V_b, int1V_i, ixV_hp0, ixV_hp1, isNV_hp, eqV_hp, neV_hp, tyN_fr, lenV_fr, at0, at1, at2, at3, at4, at5, ixN0, ixN1, List.map_cons, List.map_nil, List.replicate, List.cons_append, List.nil_append, List.getElem?_cons_zero, List.getElem?_cons_succ, List.set_cons_zero, List.set_cons_succ, Bool.not_true, Bool.not_false, Bool.false_eq_true, if_true, if_false, ite_true, ite_false, reduceIte, Nat.reduceSub, Nat.reduceAdd, ne_eq, Int.cast_ofNat_Int, Int.reduceBEq, Int.reduceLT, Int.reduceLE, Int.reduceEq, Int.reduceNeg, Int.reduceMul, Int.reduceAdd, Int.reduceSub, decide_true, decide_false, List.length_cons, List.length_nil, beq_self_eq_true, not_false_eq_true, not_true_eq_false, asI_i r13]
    rfl
  obtain ⟨l, r1, r4, r6, e7, a0, a1, a4, a6⟩ := seven (st := st) (hs := hs) (p := p) (ρ := [some (.lst (ns.map .int)), v1, some (.ref st.length), some (.ref (st.length + 1)), v4, some (.lst L5), some (.lst T13), v7, some (hq h0), some (hq k), v10, v11]) (fun _ => rfl) (fun _ => rfl)
  have tk := WS_take (st := st) (p := p) (hs := hs) (l := l) (show (0 : Int) < 11 by decide) (lit8000 (by decide))
  have y1 := mod_nn (n := p) (show (0 : Int) < 11 by decide)
  have y2 := mod_lt' (n := p) (show (0 : Int) < 11 by decide)
  have nb := no_ways (p := p / 11) w h2 h12 (a0 _) (a1 _) (a4 _) (a6 _)
  generalize hL7 : [PV.lst [], .ref r1, .lst T13, .tup (hs.map hq), .ref r4, .non, .int 5, .str "0@0", .dct [], .lst [.ref (st.length + 1)], .ref r6] = L7 at *
  obtain ⟨z, hz, ez⟩ := atI_mem (xs := L7) y1 (by rw [← hL7]; exact y2)
  have nz := nb z hz
  obtain ⟨st2, eL⟩ := last_ok (p := p / 11) (l := l) (ρ := [some (.lst (ns.map .int)), v1, some (.ref st.length), some (.ref (st.length + 1)), v4, some (.lst L5), some (.lst T13), some (.lst L7), some (hq h0), some (hq k), v10, v11]) w h2 h12 hk (fun _ => rfl) (fun _ => rfl) (a0 _)
  have ne : ∀ st, neV st (.str "step") (.str "step") = some (.bl false) := fun st => by
    rw [neV_str sto_step sto_step]
    rfl
  unfold tailB
  simp only [gSlN_eq, slN_r, slN_l, slNK_s, gRevN_eq, revN_r, revNK_s, tupleV_r, tupleV_l, gCallV_eq, gLend_eq, isNotBV_b, gRep_eq, repR_r, gZip_eq, zipR_t, zipR_l, gTry_eq, tryK_nx, tryK_ret, begin_eq, allR_nx, allR_ret, allR_exc, gSkip_eq, gSeq_eq, seqK_nx, seqK_ret, seqK_exc, toS_ok, toS_exc, toST_ok, toST_exc, toSL_ok, toSL_exc, gRet_eq, gAsg_eq, gSet_eq, gExpr_eq, gIfS_eq, gRaise_eq, gBin_eq, gUn_eq, gVar_eq, slotR_some, gC_eq, gArgs_nil, gArgs_cons, gTupE_eq, gLstE_eq, gNewE_eq, gCall_eq, gBi_eq, gB_eq, asB_bl, gAnd_eq, gOr_eq, gNot_eq, gVT_eq, gIf_eq, gChain_eq, chK_t, chK_f, chK_b, bnd_ok, bnd_exc, oo_some, gTo_eq, toK_some, tgName_eq, tgNil_eq, tgCons_eq, tgTup_eq, bind_some, gPar_eq, gCat_eq, catR_r, listV_t, listV_l, blsOf_nil, blsOf_cons, allV_l, isNV_d, notNV_d, parK_ok, parK_exc, gStore_eq, stK_some, gMeth_eq, gFor_eq, gRng1_eq, asI_i, gItL_eq, gItT_eq, asLst_l, asTup_t, addV_ii, subV_ii, mulV_ii, fdivV_ii, modV_ii, shlV_ii, pw6, pw9, pw18, pw19, pw20, pw25, pw30, pw39, ltV_ii, leV_ii, gtV_ii, geV_ii, negV_i, isNV_n, isNV_t, isNV_l, isNV_i, isNV_s, isNV_r, isNV_b, notNV_n, notNV_t, notNV_l, notNV_i, notNV_s, notNV_r, notNV_b, ixV_t, ixV_l, ixV_r, lenV_t, lenV_l, lenV_r, absV_i, max2V_ii, min2V_ii, bitsV_i, setIV_r, setK_some, setL_some, appendM_r, appK_some, appN_ok, isT_r, isK_l, lstK_some, tyK_l, isT_s, isiV_eq, tyN_int, tyN_bl, tyN_non, tyN_str, tyN_tup, tyN_lst, tyN_dct, tyN_r, kk_int_bool, kitK_t, kk_int_str, kk_int_tuple, kk_int_list, kk_int_dict, kk_int_NoneType, kk_bool_int, kk_bool_str, kk_bool_tuple, kk_bool_list, kk_bool_dict, kk_bool_NoneType, kk_str_int, kk_str_bool, kk_str_tuple, kk_str_list, kk_str_dict, kk_str_NoneType, kk_tuple_int, kk_tuple_bool, kk_tuple_str, kk_tuple_list, kk_tuple_dict, kk_tuple_NoneType, kk_list_int, kk_list_bool, kk_list_str, kk_list_tuple, kk_list_dict, kk_list_NoneType, kk_dict_int, kk_dict_bool, kk_dict_str, kk_dict_tuple, kk_dict_list, kk_dict_NoneType, eqV_int, neV_int, isBV_b, neV_bl, eqV_bl, eqV_ii, neV_ii, isNV_fr, notNV_fr, ixV_fr0, ixV_fr1, eqV_fr, neV_fr, int1V_b, int1V_i, ixV_hp0, ixV_hp1, isNV_hp, eqV_hp, neV_hp, tyN_fr, lenV_fr, at0, at1, at2, at3, at4, at5, ixN0, ixN1, List.map_cons, List.map_nil, List.replicate, List.cons_append, List.nil_append, List.getElem?_cons_zero, List.getElem?_cons_succ, List.set_cons_zero, List.set_cons_succ, Bool.not_true, Bool.not_false, Bool.false_eq_true, if_true, if_false, ite_true, ite_false, reduceIte, Nat.reduceSub, Nat.reduceAdd, ne_eq, Int.cast_ofNat_Int, Int.reduceBEq, Int.reduceLT, Int.reduceLE, Int.reduceEq, Int.reduceNeg, Int.reduceMul, Int.reduceAdd, Int.reduceSub, decide_true, decide_false, List.length_cons, List.length_nil, beq_self_eq_true, not_false_eq_true, not_true_eq_false, e5, c5, Option.map_some, List.all_cons, List.all_nil, id, Bool.and_true, ld, c6, e7, tk, ez, nz, ne, eL]
  exact ⟨_, _, rfl, _, _, _, _, _, _, _, _, _, _, _, rfl⟩
theorem law_k61_holds (ns : List Int) (st0 : List SO) (_ : ns.length ≤ 63) (_ : ∀ z ∈ ns, Builtin.Int.intBits z ≤ 1048576) : ∃ st', F_law_k61 [.lst (ns.map .int)] st0 = .ok (.bl true) st' := by
  have r1 : RngOk (if (if (20 : Int) < (List.map PV.int ns).length then (20 : Int) else (List.map PV.int ns).length) > 1 then (if (20 : Int) < (List.map PV.int ns).length then (20 : Int) else (List.map PV.int ns).length) else 1) := by
    unfold RngOk; split <;> split <;> omega
  simp only [F_law_k61, g_law_k61, gSlN_eq, slN_r, slN_l, slNK_s, gRevN_eq, revN_r, revNK_s, tupleV_r, tupleV_l, gCallV_eq, gLend_eq, isNotBV_b, gRep_eq, repR_r, gZip_eq, zipR_t, zipR_l, gTry_eq, tryK_nx, tryK_ret, begin_eq, allR_nx, allR_ret, allR_exc, gSkip_eq, gSeq_eq, seqK_nx, seqK_ret, seqK_exc, toS_ok, toS_exc, toST_ok, toST_exc, toSL_ok, toSL_exc, gRet_eq, gAsg_eq, gSet_eq, gExpr_eq, gIfS_eq, gRaise_eq, gBin_eq, gUn_eq, gVar_eq, slotR_some, gC_eq, gArgs_nil, gArgs_cons, gTupE_eq, gLstE_eq, gNewE_eq, gCall_eq, gBi_eq, gB_eq, asB_bl, gAnd_eq, gOr_eq, gNot_eq, gVT_eq, gIf_eq, gChain_eq, chK_t, chK_f, chK_b, bnd_ok, bnd_exc, oo_some, gTo_eq, toK_some, tgName_eq, tgNil_eq, tgCons_eq, tgTup_eq, bind_some, gPar_eq, gCat_eq, catR_r, listV_t, listV_l, blsOf_nil, blsOf_cons, allV_l, isNV_d, notNV_d, parK_ok, parK_exc, gStore_eq, stK_some, gMeth_eq, gFor_eq, gRng1_eq, asI_i, gItL_eq, gItT_eq, asLst_l, asTup_t, addV_ii, subV_ii, mulV_ii, fdivV_ii, modV_ii, shlV_ii, pw6, pw9, pw18, pw19, pw20, pw25, pw30, pw39, ltV_ii, leV_ii, gtV_ii, geV_ii, negV_i, isNV_n, isNV_t, isNV_l, isNV_i, isNV_s, isNV_r, isNV_b, notNV_n, notNV_t, notNV_l, notNV_i, notNV_s, notNV_r, notNV_b, ixV_t, ixV_l, ixV_r, lenV_t, lenV_l, lenV_r, absV_i, max2V_ii, min2V_ii, bitsV_i, setIV_r, setK_some, setL_some, appendM_r, appK_some, appN_ok, isT_r, isK_l, lstK_some, tyK_l, isT_s, isiV_eq, tyN_int, tyN_bl, tyN_non, tyN_str, tyN_tup, tyN_lst, tyN_dct, tyN_r, kk_int_bool, kitK_t, kk_int_str, kk_int_tuple, kk_int_list, kk_int_dict, kk_int_NoneType, kk_bool_int, kk_bool_str, kk_bool_tuple, kk_bool_list, kk_bool_dict, kk_bool_NoneType, kk_str_int, kk_str_bool, kk_str_tuple, kk_str_list, kk_str_dict, kk_str_NoneType, kk_tuple_int, kk_tuple_bool, kk_tuple_str, kk_tuple_list, kk_tuple_dict, kk_tuple_NoneType, kk_list_int, kk_list_bool, kk_list_str, kk_list_tuple, kk_list_dict, kk_list_NoneType, kk_dict_int, kk_dict_bool, kk_dict_str, kk_dict_tuple, kk_dict_list, kk_dict_NoneType, eqV_int, neV_int, isBV_b, neV_bl, eqV_bl, eqV_ii, neV_ii, isNV_fr, notNV_fr, ixV_fr0, ixV_fr1, eqV_fr, neV_fr, int1V_b, int1V_i, ixV_hp0, ixV_hp1, isNV_hp, eqV_hp, neV_hp, tyN_fr, lenV_fr, at0, at1, at2, at3, at4, at5, ixN0, ixN1, List.map_cons, List.map_nil, List.replicate, List.cons_append, List.nil_append, List.getElem?_cons_zero, List.getElem?_cons_succ, List.set_cons_zero, List.set_cons_succ, Bool.not_true, Bool.not_false, Bool.false_eq_true, if_true, if_false, ite_true, ite_false, reduceIte, Nat.reduceSub, Nat.reduceAdd, ne_eq, Int.cast_ofNat_Int, Int.reduceBEq, Int.reduceLT, Int.reduceLE, Int.reduceEq, Int.reduceNeg, Int.reduceMul, Int.reduceAdd, Int.reduceSub, decide_true, decide_false, List.length_cons, List.length_nil, beq_self_eq_true, not_false_eq_true, not_true_eq_false, asI_i r1]
  generalize hb : forg _ _ _ _ _ = r
  obtain ⟨ρ', st', rfl, hI⟩ := for_of hb (fun ρ _ => In12 ns ρ) ⟨_, _, _, _, _, _, _, _, _, _, _, rfl⟩ (by
    intro x hx ρ st hI
    obtain ⟨k0, rfl, hk⟩ := mem_rng hx
    obtain ⟨v1, v2, v3, v4, v5, v6, v7, v8, v9, v10, v11, rfl⟩ := hI
    obtain ⟨z, ec⟩ := cell_ok (ns := ns) (k := k0) (st := st)
    obtain ⟨p0, ep⟩ := pot_ok z st
    obtain ⟨t, x, p1, e1, ht, hx1⟩ := lhap_ok (st := st ++ [.lst []]) (k := st.length) new_lt p0
    obtain ⟨u, y, p2, e2, hu, hy⟩ := lhap_ok (st := st ++ [.lst []]) (k := st.length) new_lt p1
    have w0 : WI (t, x) [(t, x)] := ⟨by simp, rfl, fun i hi => by
      have : i = 0 := by simpa using hi
      subst this
      exact ⟨ht, hx1⟩, fun i hi => by simp at hi⟩
    have tk := WS_take (st := st) (p := p2) (hs := [(t, x)]) (l := []) (show (0 : Int) < 11 by decide) (lit8000 (by decide))
    rw [List.append_nil, List.append_nil] at tk
    have y1 := mod_nn (n := p2) (show (0 : Int) < 11 by decide)
    have y2 := mod_lt' (n := p2) (show (0 : Int) < 11 by decide)
    generalize p2 % 11 = o at *
    generalize p2 / 11 = p3 at *
    have r2 : RngOk (1 + o) := by unfold RngOk; omega
    obtain ⟨hs, p4, v4', w1, l1, ef⟩ := on_loop (ns := ns) (st := st) (v1 := some (.int k0)) (v5 := v5) (v6 := v6) (v7 := v7) (v8 := some (hq (t, x))) (v9 := some (hq (u, y))) (v10 := v10) (v11 := v11) (rng 0 (1 + o).toNat) [(t, x)] p3 v4 w0 (by rw [rng_len]; show 1 + _ ≤ 12; omega)
    rw [rng_len] at l1
    have l1 : hs.length = 1 + (1 + o).toNat := l1
    have tl := k61_tail (ns := ns) (st := st) (p := p4) (v1 := some (.int k0)) (v4 := v4') (v5 := v5) (v6 := v6) (v7 := v7) (v10 := v10) (v11 := v11) (k := (u, y)) w1 (by omega) (by omega) ⟨hu, hy⟩
    have eq1 : hp t x = hq (t, x) := rfl
    have eq2 : hp u y = hq (u, y) := rfl
    have nw := WS_new (st := st) (p := p2) (h := (t, x))
    obtain ⟨ρ2, st2, et, it⟩ := tl
    have ln1 : (st ++ [SO.lst []]).length = st.length + 1 := by simp
    refine turn_name ?_
    clear hb
    refine ⟨ρ2, st2, ?_, it⟩
    rw [← et]
    show (gSeq (gSet 2 (gCall F__law_pot [(gCall F__law_cell_at [(gVar 0), (gVar 1)])]))
  (gSeq (gPar 8 9 (gCall F__law_hap [(gVar 2)]) (gCall F__law_hap [(gVar 2)]))
  (gSeq (gSet 3 (gNewE [(gVar 8)]))
  (gSeq (gFor (gRng1 (gBin addV (gC (.int 1)) (gCall F__law_take [(gVar 2), (gC (.int 11))]))) (tgName 4) onB)
  (tailB F__law_take F__law_step_right F__law_way_right F__law_told_11))))) _ _ = _
    generalize onB = B at *
    generalize tailB F__law_take F__law_step_right F__law_way_right F__law_told_11 = T at *
    simp only [gSlN_eq, slN_r, slN_l, slNK_s, gRevN_eq, revN_r, revNK_s, tupleV_r, tupleV_l, gCallV_eq, gLend_eq, isNotBV_b, gRep_eq, repR_r, gZip_eq, zipR_t, zipR_l, gTry_eq, tryK_nx, tryK_ret, begin_eq, allR_nx, allR_ret, allR_exc, gSkip_eq, gSeq_eq, seqK_nx, seqK_ret, seqK_exc, toS_ok, toS_exc, toST_ok, toST_exc, toSL_ok, toSL_exc, gRet_eq, gAsg_eq, gSet_eq, gExpr_eq, gIfS_eq, gRaise_eq, gBin_eq, gUn_eq, gVar_eq, slotR_some, gC_eq, gArgs_nil, gArgs_cons, gTupE_eq, gLstE_eq, gNewE_eq, gCall_eq, gBi_eq, gB_eq, asB_bl, gAnd_eq, gOr_eq, gNot_eq, gVT_eq, gIf_eq, gChain_eq, chK_t, chK_f, chK_b, bnd_ok, bnd_exc, oo_some, gTo_eq, toK_some, tgName_eq, tgNil_eq, tgCons_eq, tgTup_eq, bind_some, gPar_eq, gCat_eq, catR_r, listV_t, listV_l, blsOf_nil, blsOf_cons, allV_l, isNV_d, notNV_d, parK_ok, parK_exc, gStore_eq, stK_some, gMeth_eq, gFor_eq, gRng1_eq, asI_i, gItL_eq, gItT_eq, asLst_l, asTup_t, addV_ii, subV_ii, mulV_ii, fdivV_ii, modV_ii, shlV_ii, pw6, pw9, pw18, pw19, pw20, pw25, pw30, pw39, ltV_ii, leV_ii, gtV_ii, geV_ii, negV_i, isNV_n, isNV_t, isNV_l, isNV_i, isNV_s, isNV_r, isNV_b, notNV_n, notNV_t, notNV_l, notNV_i, notNV_s, notNV_r, notNV_b, ixV_t, ixV_l, ixV_r, lenV_t, lenV_l, lenV_r, absV_i, max2V_ii, min2V_ii, bitsV_i, setIV_r, setK_some, setL_some, appendM_r, appK_some, appN_ok, isT_r, isK_l, lstK_some, tyK_l, isT_s, isiV_eq, tyN_int, tyN_bl, tyN_non, tyN_str, tyN_tup, tyN_lst, tyN_dct, tyN_r, kk_int_bool, kitK_t, kk_int_str, kk_int_tuple, kk_int_list, kk_int_dict, kk_int_NoneType, kk_bool_int, kk_bool_str, kk_bool_tuple, kk_bool_list, kk_bool_dict, kk_bool_NoneType, kk_str_int, kk_str_bool, kk_str_tuple, kk_str_list, kk_str_dict, kk_str_NoneType, kk_tuple_int, kk_tuple_bool, kk_tuple_str, kk_tuple_list, kk_tuple_dict, kk_tuple_NoneType, kk_list_int, kk_list_bool, kk_list_str, kk_list_tuple, kk_list_dict, kk_list_NoneType, kk_dict_int, kk_dict_bool, kk_dict_str, kk_dict_tuple, kk_dict_list, kk_dict_NoneType, eqV_int, neV_int, isBV_b, neV_bl, eqV_bl, eqV_ii, neV_ii, isNV_fr, notNV_fr, ixV_fr0, ixV_fr1, eqV_fr, neV_fr, int1V_b, int1V_i, ixV_hp0, ixV_hp1, isNV_hp, eqV_hp, neV_hp, tyN_fr, lenV_fr, at0, at1, at2, at3, at4, at5, ixN0, ixN1, List.map_cons, List.map_nil, List.replicate, List.cons_append, List.nil_append, List.getElem?_cons_zero, List.getElem?_cons_succ, List.set_cons_zero, List.set_cons_succ, Bool.not_true, Bool.not_false, Bool.false_eq_true, if_true, if_false, ite_true, ite_false, reduceIte, Nat.reduceSub, Nat.reduceAdd, ne_eq, Int.cast_ofNat_Int, Int.reduceBEq, Int.reduceLT, Int.reduceLE, Int.reduceEq, Int.reduceNeg, Int.reduceMul, Int.reduceAdd, Int.reduceSub, decide_true, decide_false, List.length_cons, List.length_nil, beq_self_eq_true, not_false_eq_true, not_true_eq_false, ec, ep, e1, e2, eq1, eq2, PS_len, nw, tk, asI_i r2, ln1, ef])
  obtain ⟨_, _, _, _, _, _, _, _, _, _, _, rfl⟩ := hI
  simp only [gSlN_eq, slN_r, slN_l, slNK_s, gRevN_eq, revN_r, revNK_s, tupleV_r, tupleV_l, gCallV_eq, gLend_eq, isNotBV_b, gRep_eq, repR_r, gZip_eq, zipR_t, zipR_l, gTry_eq, tryK_nx, tryK_ret, begin_eq, allR_nx, allR_ret, allR_exc, gSkip_eq, gSeq_eq, seqK_nx, seqK_ret, seqK_exc, toS_ok, toS_exc, toST_ok, toST_exc, toSL_ok, toSL_exc, gRet_eq, gAsg_eq, gSet_eq, gExpr_eq, gIfS_eq, gRaise_eq, gBin_eq, gUn_eq, gVar_eq, slotR_some, gC_eq, gArgs_nil, gArgs_cons, gTupE_eq, gLstE_eq, gNewE_eq, gCall_eq, gBi_eq, gB_eq, asB_bl, gAnd_eq, gOr_eq, gNot_eq, gVT_eq, gIf_eq, gChain_eq, chK_t, chK_f, chK_b, bnd_ok, bnd_exc, oo_some, gTo_eq, toK_some, tgName_eq, tgNil_eq, tgCons_eq, tgTup_eq, bind_some, gPar_eq, gCat_eq, catR_r, listV_t, listV_l, blsOf_nil, blsOf_cons, allV_l, isNV_d, notNV_d, parK_ok, parK_exc, gStore_eq, stK_some, gMeth_eq, gFor_eq, gRng1_eq, asI_i, gItL_eq, gItT_eq, asLst_l, asTup_t, addV_ii, subV_ii, mulV_ii, fdivV_ii, modV_ii, shlV_ii, pw6, pw9, pw18, pw19, pw20, pw25, pw30, pw39, ltV_ii, leV_ii, gtV_ii, geV_ii, negV_i, isNV_n, isNV_t, isNV_l, isNV_i, isNV_s, isNV_r, isNV_b, notNV_n, notNV_t, notNV_l, notNV_i, notNV_s, notNV_r, notNV_b, ixV_t, ixV_l, ixV_r, lenV_t, lenV_l, lenV_r, absV_i, max2V_ii, min2V_ii, bitsV_i, setIV_r, setK_some, setL_some, appendM_r, appK_some, appN_ok, isT_r, isK_l, lstK_some, tyK_l, isT_s, isiV_eq, tyN_int, tyN_bl, tyN_non, tyN_str, tyN_tup, tyN_lst, tyN_dct, tyN_r, kk_int_bool, kitK_t, kk_int_str, kk_int_tuple, kk_int_list, kk_int_dict, kk_int_NoneType, kk_bool_int, kk_bool_str, kk_bool_tuple, kk_bool_list, kk_bool_dict, kk_bool_NoneType, kk_str_int, kk_str_bool, kk_str_tuple, kk_str_list, kk_str_dict, kk_str_NoneType, kk_tuple_int, kk_tuple_bool, kk_tuple_str, kk_tuple_list, kk_tuple_dict, kk_tuple_NoneType, kk_list_int, kk_list_bool, kk_list_str, kk_list_tuple, kk_list_dict, kk_list_NoneType, kk_dict_int, kk_dict_bool, kk_dict_str, kk_dict_tuple, kk_dict_list, kk_dict_NoneType, eqV_int, neV_int, isBV_b, neV_bl, eqV_bl, eqV_ii, neV_ii, isNV_fr, notNV_fr, ixV_fr0, ixV_fr1, eqV_fr, neV_fr, int1V_b, int1V_i, ixV_hp0, ixV_hp1, isNV_hp, eqV_hp, neV_hp, tyN_fr, lenV_fr, at0, at1, at2, at3, at4, at5, ixN0, ixN1, List.map_cons, List.map_nil, List.replicate, List.cons_append, List.nil_append, List.getElem?_cons_zero, List.getElem?_cons_succ, List.set_cons_zero, List.set_cons_succ, Bool.not_true, Bool.not_false, Bool.false_eq_true, if_true, if_false, ite_true, ite_false, reduceIte, Nat.reduceSub, Nat.reduceAdd, ne_eq, Int.cast_ofNat_Int, Int.reduceBEq, Int.reduceLT, Int.reduceLE, Int.reduceEq, Int.reduceNeg, Int.reduceMul, Int.reduceAdd, Int.reduceSub, decide_true, decide_false, List.length_cons, List.length_nil, beq_self_eq_true, not_false_eq_true, not_true_eq_false]
  exact ⟨_, rfl⟩

def top (i : Nat) : Stmt := PySem.Challenge.pw_seatclocks_k61_own_times.main.body.getD i (.Pass ⟨0, 0, 0, 0⟩)
theorem d__law_pot {P : Program} {w : World} {K : PySem.W.Frag} {mg : Str → Option Value} {base : Heap} {f : Addr} {fd : FuncData} (FD : FunD K "_law_pot" "_law_pot" (defArgs (top 45)) (defBody (top 45)) (defScope (top 45)) [] [] f fd) (hm : mg "_law_pot" = some (.ref f)) (b_range : mg "range" = none) :
    Def P w K mg base "_law_pot" 1 1 F__law_pot := by
  have S : FnScope ["_law_cell", "_law_number", "_law_j", "_law_more"] ["_law_cell"] (defScope (top 45)) := ⟨rfl, rfl, rfl, by decide +kernel, rfl, by decide +kernel, by decide +kernel⟩
  refine def_of FD S rfl hm (FD.bindsN fun _ _ _ _ _ _ us hl => match us, hl with | [_], _ => rfl) (fun cdv A outer s H E hr => ?_) (fun xs st _ => .inr rfl)
  have tk : L2N.Takes (cxOf (L2N.CX P w) P w K mg base ["_law_cell", "_law_number", "_law_j", "_law_more"] "_law_pot" (defScope (top 45)) f cdv A outer s H E) (fun cls d _ H => E cls d H) := L2N.takes_of rfl rfl rfl rfl
  have po := passes_of (X := cxOf (L2N.CX P w) P w K mg base ["_law_cell", "_law_number", "_law_j", "_law_more"] "_law_pot" (defScope (top 45)) f cdv A outer s H E) rfl
  exact (ss_cons (ss_if (st_cmp op_ge s_ge (se_var 0) (se_bin op_pow s_pow se_int se_int)) (ss_one (ss_ret (se_new (sa_cons (se_bin op_sub s_sub (se_var 0) (se_bin op_pow s_pow se_int se_int)) sa_nil)))) ss_nil)
    (ss_cons (ss_set 1 S.nd se_int)
    (ss_cons (ss_for (is := [2]) po rfl (si_rng1 b_range se_int) (sg_name 2 S.nd) (ss_cons (ss_set 3 S.nd (se_bin op_modN s_mod (se_bin op_mulW s_mul (se_bin o_add s_add (se_bin o_add s_add (se_bin op_modN s_mod (se_var 0) se_int) (se_bin op_mulW s_mul se_int (se_var 2))) se_int) se_int) se_int))
    (ss_cons (ss_set 3 S.nd (se_bin op_modN s_mod (se_bin o_add s_add (se_bin o_add s_add (se_bin op_mulW s_mul (se_var 3) (se_var 3)) (se_bin op_mulW s_mul se_int (se_var 2))) se_int) se_int))
    (ss_one (ss_set 1 S.nd (se_bin o_add s_add (se_bin op_mulW s_mul (se_var 1) se_int) (se_var 3)))))))
    (ss_one (ss_ret (se_new (sa_cons (se_var 1) sa_nil)))))))

theorem d__law_cell_at {P : Program} {w : World} {K : PySem.W.Frag} {mg : Str → Option Value} {base : Heap} {f : Addr} {fd : FuncData} (FD : FunD K "_law_cell_at" "_law_cell_at" (defArgs (top 44)) (defBody (top 44)) (defScope (top 44)) [] [] f fd) (hm : mg "_law_cell_at" = some (.ref f)) (b_len : mg "len" = none) :
    Def P w K mg base "_law_cell_at" 2 1 F__law_cell_at := by
  have S : FnScope ["_law_script", "_law_k"] ["_law_script", "_law_k"] (defScope (top 44)) := ⟨rfl, rfl, rfl, by decide +kernel, rfl, by decide +kernel, by decide +kernel⟩
  refine def_of FD S rfl hm (FD.bindsN fun _ _ _ _ _ _ us hl => match us, hl with | [_, _], _ => rfl) (fun cdv A outer s H E hr => ?_) (fun xs st _ => .inr rfl)
  have tk : L2N.Takes (cxOf (L2N.CX P w) P w K mg base ["_law_script", "_law_k"] "_law_cell_at" (defScope (top 44)) f cdv A outer s H E) (fun cls d _ H => E cls d H) := L2N.takes_of rfl rfl rfl rfl
  have po := passes_of (X := cxOf (L2N.CX P w) P w K mg base ["_law_script", "_law_k"] "_law_cell_at" (defScope (top 44)) f cdv A outer s H E) rfl
  exact (ss_cons (ss_if (st_cmp op_lt s_lt (se_var 1) (se_bi call_len s_len zb_len b_len (sa_cons (se_var 0) sa_nil))) (ss_one (ss_ret (se_ix ix_seq s_ix (se_var 0) (se_var 1)))) ss_nil)
    (ss_one (ss_ret se_int)))

theorem d__law_take {P : Program} {w : World} {K : PySem.W.Frag} {mg : Str → Option Value} {base : Heap} {f : Addr} {fd : FuncData} (FD : FunD K "_law_take" "_law_take" (defArgs (top 46)) (defBody (top 46)) (defScope (top 46)) [] [] f fd) (hm : mg "_law_take" = some (.ref f))  :
    Def P w K mg base "_law_take" 2 1 F__law_take := by
  have S : FnScope ["_law_pot_here", "_law_far", "_law_found"] ["_law_pot_here", "_law_far"] (defScope (top 46)) := ⟨rfl, rfl, rfl, by decide +kernel, rfl, by decide +kernel, by decide +kernel⟩
  refine def_of FD S rfl hm (FD.bindsN fun _ _ _ _ _ _ us hl => match us, hl with | [_, _], _ => rfl) (fun cdv A outer s H E hr => ?_) (fun xs st _ => .inr rfl)
  have tk : L2N.Takes (cxOf (L2N.CX P w) P w K mg base ["_law_pot_here", "_law_far", "_law_found"] "_law_take" (defScope (top 46)) f cdv A outer s H E) (fun cls d _ H => E cls d H) := L2N.takes_of rfl rfl rfl rfl
  have po := passes_of (X := cxOf (L2N.CX P w) P w K mg base ["_law_pot_here", "_law_far", "_law_found"] "_law_take" (defScope (top 46)) f cdv A outer s H E) rfl
  exact (ss_cons (ss_set 2 S.nd (se_bin op_modN s_mod (se_ix ix_seq s_ix (se_var 0) se_int) (se_var 1)))
    (ss_cons (ss_store set_list s_setI (se_bin op_fdivG s_fdiv (se_ix ix_seq s_ix (se_var 0) se_int) (se_var 1)) (se_var 0) se_int)
    (ss_one (ss_ret (se_var 2)))))

theorem d__law_low {P : Program} {w : World} {K : PySem.W.Frag} {mg : Str → Option Value} {base : Heap} {f : Addr} {fd : FuncData} (FD : FunD K "_law_low" "_law_low" (defArgs (top 47)) (defBody (top 47)) (defScope (top 47)) [] [] f fd) (hm : mg "_law_low" = some (.ref f)) (b_abs : mg "abs" = none) :
    Def P w K mg base "_law_low" 2 1 F__law_low := by
  have S : FnScope ["_law_top", "_law_bottom", "_law_one", "_law_other"] ["_law_top", "_law_bottom"] (defScope (top 47)) := ⟨rfl, rfl, rfl, by decide +kernel, rfl, by decide +kernel, by decide +kernel⟩
  refine def_of FD S rfl hm (FD.bindsN fun _ _ _ _ _ _ us hl => match us, hl with | [_, _], _ => rfl) (fun cdv A outer s H E hr => ?_) (fun xs st _ => .inr rfl)
  have tk : L2N.Takes (cxOf (L2N.CX P w) P w K mg base ["_law_top", "_law_bottom", "_law_one", "_law_other"] "_law_low" (defScope (top 47)) f cdv A outer s H E) (fun cls d _ H => E cls d H) := L2N.takes_of rfl rfl rfl rfl
  have po := passes_of (X := cxOf (L2N.CX P w) P w K mg base ["_law_top", "_law_bottom", "_law_one", "_law_other"] "_law_low" (defScope (top 47)) f cdv A outer s H E) rfl
  exact (ss_cons (ss_par 2 3 rfl S.nd (sa_cons (se_bi call_abs s_abs zb_abs b_abs (sa_cons (se_var 0) sa_nil)) (sa_cons (se_bi call_abs s_abs zb_abs b_abs (sa_cons (se_var 1) sa_nil)) sa_nil)))
    (ss_cons (ss_while (muI 3) po (st_cmp op_gt s_gt (se_var 3) se_int) (ss_one (ss_par 2 3 rfl S.nd (sa_cons (se_var 3) (sa_cons (se_bin op_modN s_mod (se_var 2) (se_var 3)) sa_nil)))))
    (ss_cons (ss_if (st_cmp op_lt s_lt (se_var 1) se_int) (ss_one (ss_set 2 S.nd (se_bin op_sub s_sub se_int (se_var 2)))) ss_nil)
    (ss_one (ss_ret (se_tup (sa_cons (se_bin op_fdivG s_fdiv (se_var 0) (se_var 2)) (sa_cons (se_bin op_fdivG s_fdiv (se_var 1) (se_var 2)) sa_nil))))))))

theorem d__law_hap {P : Program} {w : World} {K : PySem.W.Frag} {mg : Str → Option Value} {base : Heap} {f : Addr} {fd : FuncData} (FD : FunD K "_law_hap" "_law_hap" (defArgs (top 48)) (defBody (top 48)) (defScope (top 48)) [] [] f fd) (hm : mg "_law_hap" = some (.ref f)) (D__law_take : Def P w K mg base "_law_take" 2 1 F__law_take) (D__law_low : Def P w K mg base "_law_low" 2 1 F__law_low) :
    Def P w K mg base "_law_hap" 1 2 F__law_hap := by
  have S : FnScope ["_law_pot_here", "_law_far", "_law_time"] ["_law_pot_here"] (defScope (top 48)) := ⟨rfl, rfl, rfl, by decide +kernel, rfl, by decide +kernel, by decide +kernel⟩
  refine def_of FD S rfl hm (FD.bindsN fun _ _ _ _ _ _ us hl => match us, hl with | [_], _ => rfl) (fun cdv A outer s H E hr => ?_) (fun xs st _ => .inr rfl)
  have tk : L2N.Takes (cxOf (L2N.CX P w) P w K mg base ["_law_pot_here", "_law_far", "_law_time"] "_law_hap" (defScope (top 48)) f cdv A outer s H E) (fun cls d _ H => E cls d H) := L2N.takes_of rfl rfl rfl rfl
  have po := passes_of (X := cxOf (L2N.CX P w) P w K mg base ["_law_pot_here", "_law_far", "_law_time"] "_law_hap" (defScope (top 48)) f cdv A outer s H E) rfl
  exact (ss_cons (ss_set 1 S.nd (se_ix ix_seq s_ix (se_lst (sa_cons se_int (sa_cons (se_bin op_pow s_pow se_int se_int) sa_nil))) (se_bin op_fdivG s_fdiv (se_call D__law_take (hr.mono (by omega)) tk (sa_cons (se_var 0) (sa_cons se_int sa_nil))) se_int)))
    (ss_cons (ss_set 2 S.nd (se_call D__law_low (hr.mono (by omega)) tk (sa_cons (se_bin o_add s_add (se_bin op_sub s_sub (se_call D__law_take (hr.mono (by omega)) tk (sa_cons (se_var 0) (sa_cons se_int sa_nil))) se_int) (se_bin op_mulW s_mul se_int (se_var 1))) (sa_cons (se_bin o_add s_add se_int (se_call D__law_take (hr.mono (by omega)) tk (sa_cons (se_var 0) (sa_cons se_int sa_nil)))) sa_nil))))
    (ss_one (ss_ret (se_tup (sa_cons (se_var 2) (sa_cons (se_call D__law_low (hr.mono (by omega)) tk (sa_cons (se_bin op_sub s_sub (se_call D__law_take (hr.mono (by omega)) tk (sa_cons (se_var 0) (sa_cons se_int sa_nil))) se_int) (sa_cons (se_bin o_add s_add se_int (se_call D__law_take (hr.mono (by omega)) tk (sa_cons (se_var 0) (sa_cons se_int sa_nil)))) sa_nil))) sa_nil)))))))

theorem d__law_sum {P : Program} {w : World} {K : PySem.W.Frag} {mg : Str → Option Value} {base : Heap} {f : Addr} {fd : FuncData} (FD : FunD K "_law_sum" "_law_sum" (defArgs (top 57)) (defBody (top 57)) (defScope (top 57)) [] [] f fd) (hm : mg "_law_sum" = some (.ref f)) (D__law_low : Def P w K mg base "_law_low" 2 1 F__law_low) :
    Def P w K mg base "_law_sum" 2 2 F__law_sum := by
  have S : FnScope ["_law_one", "_law_other"] ["_law_one", "_law_other"] (defScope (top 57)) := ⟨rfl, rfl, rfl, by decide +kernel, rfl, by decide +kernel, by decide +kernel⟩
  refine def_of FD S rfl hm (FD.bindsN fun _ _ _ _ _ _ us hl => match us, hl with | [_, _], _ => rfl) (fun cdv A outer s H E hr => ?_) (fun xs st _ => .inr rfl)
  have tk : L2N.Takes (cxOf (L2N.CX P w) P w K mg base ["_law_one", "_law_other"] "_law_sum" (defScope (top 57)) f cdv A outer s H E) (fun cls d _ H => E cls d H) := L2N.takes_of rfl rfl rfl rfl
  have po := passes_of (X := cxOf (L2N.CX P w) P w K mg base ["_law_one", "_law_other"] "_law_sum" (defScope (top 57)) f cdv A outer s H E) rfl
  exact (ss_one (ss_ret (se_call D__law_low (hr.mono (by omega)) tk (sa_cons (se_bin o_add s_add (se_bin op_mulW s_mul (se_ix ix_seq s_ix (se_var 0) se_int) (se_ix ix_seq s_ix (se_var 1) se_int)) (se_bin op_mulW s_mul (se_ix ix_seq s_ix (se_var 1) se_int) (se_ix ix_seq s_ix (se_var 0) se_int))) (sa_cons (se_bin op_mulW s_mul (se_ix ix_seq s_ix (se_var 0) se_int) (se_ix ix_seq s_ix (se_var 1) se_int)) sa_nil)))))

theorem d__law_on {P : Program} {w : World} {K : PySem.W.Frag} {mg : Str → Option Value} {base : Heap} {f : Addr} {fd : FuncData} (FD : FunD K "_law_on" "_law_on" (defArgs (top 65)) (defBody (top 65)) (defScope (top 65)) [] [] f fd) (hm : mg "_law_on" = some (.ref f)) (D__law_take : Def P w K mg base "_law_take" 2 1 F__law_take) (D__law_sum : Def P w K mg base "_law_sum" 2 2 F__law_sum) :
    Def P w K mg base "_law_on" 3 3 F__law_on := by
  have S : FnScope ["_law_pot_here", "_law_hap_here", "_law_way", "_law_place", "_law_far", "_law_side"] ["_law_pot_here", "_law_hap_here", "_law_way"] (defScope (top 65)) := ⟨rfl, rfl, rfl, by decide +kernel, rfl, by decide +kernel, by decide +kernel⟩
  refine def_of FD S rfl hm (FD.bindsN fun _ _ _ _ _ _ us hl => match us, hl with | [_, _, _], _ => rfl) (fun cdv A outer s H E hr => ?_) (fun xs st _ => .inr rfl)
  have tk : L2N.Takes (cxOf (L2N.CX P w) P w K mg base ["_law_pot_here", "_law_hap_here", "_law_way", "_law_place", "_law_far", "_law_side"] "_law_on" (defScope (top 65)) f cdv A outer s H E) (fun cls d _ H => E cls d H) := L2N.takes_of rfl rfl rfl rfl
  have po := passes_of (X := cxOf (L2N.CX P w) P w K mg base ["_law_pot_here", "_law_hap_here", "_law_way", "_law_place", "_law_far", "_law_side"] "_law_on" (defScope (top 65)) f cdv A outer s H E) rfl
  exact (ss_cons (ss_par 4 5 rfl S.nd (sa_cons (se_bin o_add s_add se_int (se_call D__law_take (hr.mono (by omega)) tk (sa_cons (se_var 0) (sa_cons se_int sa_nil)))) (sa_cons (se_call D__law_take (hr.mono (by omega)) tk (sa_cons (se_var 0) (sa_cons se_int sa_nil))) sa_nil)))
    (ss_cons (ss_if (st_cmp (op_eqD hr.units) s_eq (se_var 2) se_int) (ss_cons (ss_set 5 S.nd (se_call D__law_take (hr.mono (by omega)) tk (sa_cons (se_var 0) (sa_cons (se_var 4) sa_nil))))
    (ss_one (ss_ret (se_tup (sa_cons (se_call D__law_sum (hr.mono (by omega)) tk (sa_cons (se_ix ix_seq s_ix (se_var 1) se_int) (sa_cons (se_tup (sa_cons (se_var 4) (sa_cons se_int sa_nil))) sa_nil))) (sa_cons (se_call D__law_sum (hr.mono (by omega)) tk (sa_cons (se_ix ix_seq s_ix (se_var 1) se_int) (sa_cons (se_tup (sa_cons (se_var 5) (sa_cons se_int sa_nil))) sa_nil))) sa_nil)))))) ss_nil)
    (ss_cons (ss_set 3 S.nd (se_ix ix_seq s_ix (se_lst (sa_cons (se_bin op_sub s_sub (se_bin op_mulW s_mul (se_var 5) (se_var 5)) (se_bin op_mulW s_mul (se_var 4) (se_var 4))) (sa_cons (se_bin op_sub s_sub (se_bin op_mulW s_mul (se_var 4) (se_var 4)) (se_bin op_mulW s_mul (se_var 5) (se_var 5))) sa_nil))) (se_bin op_modN s_mod (se_var 2) se_int)))
    (ss_one (ss_ret (se_tup (sa_cons (se_call D__law_sum (hr.mono (by omega)) tk (sa_cons (se_ix ix_seq s_ix (se_var 1) se_int) (sa_cons (se_tup (sa_cons (se_bin o_add s_add (se_bin op_mulW s_mul (se_var 4) (se_var 4)) (se_bin op_mulW s_mul (se_var 5) (se_var 5))) (sa_cons se_int sa_nil))) sa_nil))) (sa_cons (se_call D__law_sum (hr.mono (by omega)) tk (sa_cons (se_ix ix_seq s_ix (se_var 1) se_int) (sa_cons (se_tup (sa_cons (se_var 3) (sa_cons se_int sa_nil))) sa_nil))) sa_nil))))))))

theorem d__law_whole {P : Program} {w : World} {K : PySem.W.Frag} {mg : Str → Option Value} {base : Heap} {f : Addr} {fd : FuncData} (FD : FunD K "_law_whole" "_law_whole" (defArgs (top 58)) (defBody (top 58)) (defScope (top 58)) [] [] f fd) (hm : mg "_law_whole" = some (.ref f)) (b_isinstance : mg "isinstance" = none) (b_int : mg "int" = none) (b_bool : mg "bool" = none) :
    Def P w K mg base "_law_whole" 1 1 F__law_whole := by
  have S : FnScope ["_law_thing"] ["_law_thing"] (defScope (top 58)) := ⟨rfl, rfl, rfl, by decide +kernel, rfl, by decide +kernel, by decide +kernel⟩
  refine def_of FD S rfl hm (FD.bindsN fun _ _ _ _ _ _ us hl => match us, hl with | [_], _ => rfl) (fun cdv A outer s H E hr => ?_) (fun xs st _ => .inr rfl)
  have tk : L2N.Takes (cxOf (L2N.CX P w) P w K mg base ["_law_thing"] "_law_whole" (defScope (top 58)) f cdv A outer s H E) (fun cls d _ H => E cls d H) := L2N.takes_of rfl rfl rfl rfl
  have po := passes_of (X := cxOf (L2N.CX P w) P w K mg base ["_law_thing"] "_law_whole" (defScope (top 58)) f cdv A outer s H E) rfl
  exact (ss_one (ss_ret (se_and (se_bi call_isi s_isi zb_isinstance b_isinstance (sa_cons (se_var 0) (sa_cons (se_ty zb_int b_int) sa_nil))) (se_and1 (se_vt (se_not (se_bi call_isi s_isi zb_isinstance b_isinstance (sa_cons (se_var 0) (sa_cons (se_ty zb_bool b_bool) sa_nil)))))))))

theorem d__law_good {P : Program} {w : World} {K : PySem.W.Frag} {mg : Str → Option Value} {base : Heap} {f : Addr} {fd : FuncData} (FD : FunD K "_law_good" "_law_good" (defArgs (top 59)) (defBody (top 59)) (defScope (top 59)) [] [] f fd) (hm : mg "_law_good" = some (.ref f)) (b_isinstance : mg "isinstance" = none) (b_tuple : mg "tuple" = none) (b_len : mg "len" = none) (D__law_whole : Def P w K mg base "_law_whole" 1 1 F__law_whole) (D__law_low : Def P w K mg base "_law_low" 2 1 F__law_low) :
    Def P w K mg base "_law_good" 1 2 F__law_good := by
  have S : FnScope ["_law_thing"] ["_law_thing"] (defScope (top 59)) := ⟨rfl, rfl, rfl, by decide +kernel, rfl, by decide +kernel, by decide +kernel⟩
  refine def_of FD S rfl hm (FD.bindsN fun _ _ _ _ _ _ us hl => match us, hl with | [_], _ => rfl) (fun cdv A outer s H E hr => ?_) (fun xs st _ => .inr rfl)
  have tk : L2N.Takes (cxOf (L2N.CX P w) P w K mg base ["_law_thing"] "_law_good" (defScope (top 59)) f cdv A outer s H E) (fun cls d _ H => E cls d H) := L2N.takes_of rfl rfl rfl rfl
  have po := passes_of (X := cxOf (L2N.CX P w) P w K mg base ["_law_thing"] "_law_good" (defScope (top 59)) f cdv A outer s H E) rfl
  exact (ss_cons (ss_if (st_or (st_not (st_val (se_bi call_isi s_isi zb_isinstance b_isinstance (sa_cons (se_var 0) (sa_cons (se_ty zb_tuple b_tuple) sa_nil))))) (st_or (st_cmp (op_neD hr.units) s_ne (se_bi call_len s_len zb_len b_len (sa_cons (se_var 0) sa_nil)) se_int) (st_or (st_not (st_val (se_call D__law_whole (hr.mono (by omega)) tk (sa_cons (se_ix ix_seq s_ix (se_var 0) se_int) sa_nil)))) (st_or1 (st_not (st_val (se_call D__law_whole (hr.mono (by omega)) tk (sa_cons (se_ix ix_seq s_ix (se_var 0) se_int) sa_nil)))))))).pt (ss_one (ss_ret se_bl)) ss_nil)
    (ss_one (ss_ret (se_and (se_cmp op_gt s_gt (se_ix ix_seq s_ix (se_var 0) se_int) se_int) (se_and1 (se_vt (se_cmp (op_eqD hr.units) s_eq (se_call D__law_low (hr.mono (by omega)) tk (sa_cons (se_ix ix_seq s_ix (se_var 0) se_int) (sa_cons (se_ix ix_seq s_ix (se_var 0) se_int) sa_nil))) (se_var 0))))))))

theorem d__law_same {P : Program} {w : World} {K : PySem.W.Frag} {mg : Str → Option Value} {base : Heap} {f : Addr} {fd : FuncData} (FD : FunD K "_law_same" "_law_same" (defArgs (top 60)) (defBody (top 60)) (defScope (top 60)) [] [] f fd) (hm : mg "_law_same" = some (.ref f)) (D__law_good : Def P w K mg base "_law_good" 1 2 F__law_good) :
    Def P w K mg base "_law_same" 2 3 F__law_same := by
  have S : FnScope ["_law_thing", "_law_due"] ["_law_thing", "_law_due"] (defScope (top 60)) := ⟨rfl, rfl, rfl, by decide +kernel, rfl, by decide +kernel, by decide +kernel⟩
  refine def_of FD S rfl hm (FD.bindsN fun _ _ _ _ _ _ us hl => match us, hl with | [_, _], _ => rfl) (fun cdv A outer s H E hr => ?_) (fun xs st _ => .inr rfl)
  have tk : L2N.Takes (cxOf (L2N.CX P w) P w K mg base ["_law_thing", "_law_due"] "_law_same" (defScope (top 60)) f cdv A outer s H E) (fun cls d _ H => E cls d H) := L2N.takes_of rfl rfl rfl rfl
  have po := passes_of (X := cxOf (L2N.CX P w) P w K mg base ["_law_thing", "_law_due"] "_law_same" (defScope (top 60)) f cdv A outer s H E) rfl
  exact (ss_one (ss_ret (se_and (se_call D__law_good (hr.mono (by omega)) tk (sa_cons (se_var 0) sa_nil)) (se_and1 (se_vt (se_cmp (op_eqD hr.units) s_eq (se_var 0) (se_var 1)))))))

theorem d_common {P : Program} {w : World} {K : PySem.W.Frag} {mg : Str → Option Value} {base : Heap} {f : Addr} {fd : FuncData} (FD : FunD K "common" "common" (defArgs (top 23)) (defBody (top 23)) (defScope (top 23)) [] [] f fd) (hm : mg "common" = some (.ref f)) (b_abs : mg "abs" = none) :
    Def P w K mg base "common" 2 1 F_common := by
  have S : FnScope ["one", "other"] ["one", "other"] (defScope (top 23)) := ⟨rfl, rfl, rfl, by decide +kernel, rfl, by decide +kernel, by decide +kernel⟩
  refine def_of FD S rfl hm (FD.bindsN fun _ _ _ _ _ _ us hl => match us, hl with | [_, _], _ => rfl) (fun cdv A outer s H E hr => ?_) (fun xs st _ => .inr rfl)
  have tk : L2N.Takes (cxOf (L2N.CX P w) P w K mg base ["one", "other"] "common" (defScope (top 23)) f cdv A outer s H E) (fun cls d _ H => E cls d H) := L2N.takes_of rfl rfl rfl rfl
  have po := passes_of (X := cxOf (L2N.CX P w) P w K mg base ["one", "other"] "common" (defScope (top 23)) f cdv A outer s H E) rfl
  exact (ss_cons (ss_par 0 1 rfl S.nd (sa_cons (se_bi call_abs s_abs zb_abs b_abs (sa_cons (se_var 0) sa_nil)) (sa_cons (se_bi call_abs s_abs zb_abs b_abs (sa_cons (se_var 1) sa_nil)) sa_nil)))
    (ss_cons (ss_while (muI 1) po (st_cmp op_gt s_gt (se_var 1) se_int) (ss_one (ss_par 0 1 rfl S.nd (sa_cons (se_var 1) (sa_cons (se_bin op_modN s_mod (se_var 0) (se_var 1)) sa_nil)))))
    (ss_one (ss_ret (se_var 0)))))

theorem d_fraction {P : Program} {w : World} {K : PySem.W.Frag} {mg : Str → Option Value} {base : Heap} {f : Addr} {fd : FuncData} (FD : FunD K "fraction" "fraction" (defArgs (top 25)) (defBody (top 25)) (defScope (top 25)) [] [] f fd) (hm : mg "fraction" = some (.ref f)) (x_NoFraction : ExcF K mg "NoFraction") (D_common : Def P w K mg base "common" 2 1 F_common) :
    Def P w K mg base "fraction" 2 2 F_fraction := by
  have S : FnScope ["top", "bottom", "part"] ["top", "bottom"] (defScope (top 25)) := ⟨rfl, rfl, rfl, by decide +kernel, rfl, by decide +kernel, by decide +kernel⟩
  refine def_of FD S rfl hm (FD.bindsN fun _ _ _ _ _ _ us hl => match us, hl with | [_, _], _ => rfl) (fun cdv A outer s H E hr => ?_) (fun xs st _ => .inr rfl)
  have tk : L2N.Takes (cxOf (L2N.CX P w) P w K mg base ["top", "bottom", "part"] "fraction" (defScope (top 25)) f cdv A outer s H E) (fun cls d _ H => E cls d H) := L2N.takes_of rfl rfl rfl rfl
  have po := passes_of (X := cxOf (L2N.CX P w) P w K mg base ["top", "bottom", "part"] "fraction" (defScope (top 25)) f cdv A outer s H E) rfl
  exact (ss_cons (ss_if (st_cmp (op_eqD hr.units) s_eq (se_var 1) se_int) (ss_one (ss_raise rfl tk x_NoFraction.1 x_NoFraction.2.1 x_NoFraction.2.2.1 x_NoFraction.2.2.2.1 x_NoFraction.2.2.2.2)) ss_nil)
    (ss_cons (ss_if (st_cmp op_lt s_lt (se_var 1) se_int) (ss_one (ss_par 0 1 rfl S.nd (sa_cons (se_bin op_sub s_sub se_int (se_var 0)) (sa_cons (se_bin op_sub s_sub se_int (se_var 1)) sa_nil)))) ss_nil)
    (ss_cons (ss_set 2 S.nd (se_call D_common (hr.mono (by omega)) tk (sa_cons (se_var 0) (sa_cons (se_var 1) sa_nil))))
    (ss_one (ss_ret (se_tup (sa_cons (se_bin op_fdivG s_fdiv (se_var 0) (se_var 2)) (sa_cons (se_bin op_fdivG s_fdiv (se_var 1) (se_var 2)) sa_nil))))))))

theorem d_less {P : Program} {w : World} {K : PySem.W.Frag} {mg : Str → Option Value} {base : Heap} {f : Addr} {fd : FuncData} (FD : FunD K "less" "less" (defArgs (top 27)) (defBody (top 27)) (defScope (top 27)) [] [] f fd) (hm : mg "less" = some (.ref f)) (D_fraction : Def P w K mg base "fraction" 2 2 F_fraction) :
    Def P w K mg base "less" 2 3 F_less := by
  have S : FnScope ["one", "other"] ["one", "other"] (defScope (top 27)) := ⟨rfl, rfl, rfl, by decide +kernel, rfl, by decide +kernel, by decide +kernel⟩
  refine def_of FD S rfl hm (FD.bindsN fun _ _ _ _ _ _ us hl => match us, hl with | [_, _], _ => rfl) (fun cdv A outer s H E hr => ?_) (fun xs st _ => .inr rfl)
  have tk : L2N.Takes (cxOf (L2N.CX P w) P w K mg base ["one", "other"] "less" (defScope (top 27)) f cdv A outer s H E) (fun cls d _ H => E cls d H) := L2N.takes_of rfl rfl rfl rfl
  have po := passes_of (X := cxOf (L2N.CX P w) P w K mg base ["one", "other"] "less" (defScope (top 27)) f cdv A outer s H E) rfl
  exact (ss_one (ss_ret (se_call D_fraction (hr.mono (by omega)) tk (sa_cons (se_bin op_sub s_sub (se_bin op_mulW s_mul (se_ix ix_seq s_ix (se_var 0) se_int) (se_ix ix_seq s_ix (se_var 1) se_int)) (se_bin op_mulW s_mul (se_ix ix_seq s_ix (se_var 1) se_int) (se_ix ix_seq s_ix (se_var 0) se_int))) (sa_cons (se_bin op_mulW s_mul (se_ix ix_seq s_ix (se_var 0) se_int) (se_ix ix_seq s_ix (se_var 1) se_int)) sa_nil)))))

theorem d_lapse_and_gap {P : Program} {w : World} {K : PySem.W.Frag} {mg : Str → Option Value} {base : Heap} {f : Addr} {fd : FuncData} (FD : FunD K "lapse_and_gap" "lapse_and_gap" (defArgs (top 35)) (defBody (top 35)) (defScope (top 35)) [] [] f fd) (hm : mg "lapse_and_gap" = some (.ref f)) (D_less : Def P w K mg base "less" 2 3 F_less) :
    Def P w K mg base "lapse_and_gap" 2 4 F_lapse_and_gap := by
  have S : FnScope ["one", "other"] ["one", "other"] (defScope (top 35)) := ⟨rfl, rfl, rfl, by decide +kernel, rfl, by decide +kernel, by decide +kernel⟩
  refine def_of FD S rfl hm (FD.bindsN fun _ _ _ _ _ _ us hl => match us, hl with | [_, _], _ => rfl) (fun cdv A outer s H E hr => ?_) (fun xs st _ => .inr rfl)
  have tk : L2N.Takes (cxOf (L2N.CX P w) P w K mg base ["one", "other"] "lapse_and_gap" (defScope (top 35)) f cdv A outer s H E) (fun cls d _ H => E cls d H) := L2N.takes_of rfl rfl rfl rfl
  have po := passes_of (X := cxOf (L2N.CX P w) P w K mg base ["one", "other"] "lapse_and_gap" (defScope (top 35)) f cdv A outer s H E) rfl
  exact (ss_one (ss_ret (se_tup (sa_cons (se_call D_less (hr.mono (by omega)) tk (sa_cons (se_ix ix_seq s_ix (se_var 1) se_int) (sa_cons (se_ix ix_seq s_ix (se_var 0) se_int) sa_nil))) (sa_cons (se_call D_less (hr.mono (by omega)) tk (sa_cons (se_ix ix_seq s_ix (se_var 1) se_int) (sa_cons (se_ix ix_seq s_ix (se_var 0) se_int) sa_nil))) sa_nil)))))

theorem d_times {P : Program} {w : World} {K : PySem.W.Frag} {mg : Str → Option Value} {base : Heap} {f : Addr} {fd : FuncData} (FD : FunD K "times" "times" (defArgs (top 28)) (defBody (top 28)) (defScope (top 28)) [] [] f fd) (hm : mg "times" = some (.ref f)) (D_fraction : Def P w K mg base "fraction" 2 2 F_fraction) :
    Def P w K mg base "times" 2 3 F_times := by
  have S : FnScope ["one", "other"] ["one", "other"] (defScope (top 28)) := ⟨rfl, rfl, rfl, by decide +kernel, rfl, by decide +kernel, by decide +kernel⟩
  refine def_of FD S rfl hm (FD.bindsN fun _ _ _ _ _ _ us hl => match us, hl with | [_, _], _ => rfl) (fun cdv A outer s H E hr => ?_) (fun xs st _ => .inr rfl)
  have tk : L2N.Takes (cxOf (L2N.CX P w) P w K mg base ["one", "other"] "times" (defScope (top 28)) f cdv A outer s H E) (fun cls d _ H => E cls d H) := L2N.takes_of rfl rfl rfl rfl
  have po := passes_of (X := cxOf (L2N.CX P w) P w K mg base ["one", "other"] "times" (defScope (top 28)) f cdv A outer s H E) rfl
  exact (ss_one (ss_ret (se_call D_fraction (hr.mono (by omega)) tk (sa_cons (se_bin op_mulW s_mul (se_ix ix_seq s_ix (se_var 0) se_int) (se_ix ix_seq s_ix (se_var 1) se_int)) (sa_cons (se_bin op_mulW s_mul (se_ix ix_seq s_ix (se_var 0) se_int) (se_ix ix_seq s_ix (se_var 1) se_int)) sa_nil)))))

theorem d_own_square {P : Program} {w : World} {K : PySem.W.Frag} {mg : Str → Option Value} {base : Heap} {f : Addr} {fd : FuncData} (FD : FunD K "own_square" "own_square" (defArgs (top 39)) (defBody (top 39)) (defScope (top 39)) [] [] f fd) (hm : mg "own_square" = some (.ref f)) (D_lapse_and_gap : Def P w K mg base "lapse_and_gap" 2 4 F_lapse_and_gap) (D_less : Def P w K mg base "less" 2 3 F_less) (D_times : Def P w K mg base "times" 2 3 F_times) :
    Def P w K mg base "own_square" 2 5 F_own_square := by
  have S : FnScope ["one", "other", "lapse", "gap"] ["one", "other"] (defScope (top 39)) := ⟨rfl, rfl, rfl, by decide +kernel, rfl, by decide +kernel, by decide +kernel⟩
  refine def_of FD S rfl hm (FD.bindsN fun _ _ _ _ _ _ us hl => match us, hl with | [_, _], _ => rfl) (fun cdv A outer s H E hr => ?_) (fun xs st _ => .inr rfl)
  have tk : L2N.Takes (cxOf (L2N.CX P w) P w K mg base ["one", "other", "lapse", "gap"] "own_square" (defScope (top 39)) f cdv A outer s H E) (fun cls d _ H => E cls d H) := L2N.takes_of rfl rfl rfl rfl
  have po := passes_of (X := cxOf (L2N.CX P w) P w K mg base ["one", "other", "lapse", "gap"] "own_square" (defScope (top 39)) f cdv A outer s H E) rfl
  exact (ss_cons (ss_asg (is := [2, 3]) (se_call D_lapse_and_gap (hr.mono (by omega)) tk (sa_cons (se_var 0) (sa_cons (se_var 1) sa_nil))) (sg_tup rfl (sgs_cons (sg_name 2 S.nd) (sgs_cons (sg_name 3 S.nd) sgs_nil))))
    (ss_one (ss_ret (se_call D_less (hr.mono (by omega)) tk (sa_cons (se_call D_times (hr.mono (by omega)) tk (sa_cons (se_var 2) (sa_cons (se_var 2) sa_nil))) (sa_cons (se_call D_times (hr.mono (by omega)) tk (sa_cons (se_var 3) (sa_cons (se_var 3) sa_nil))) sa_nil))))))

theorem d__law_gap {P : Program} {w : World} {K : PySem.W.Frag} {mg : Str → Option Value} {base : Heap} {f : Addr} {fd : FuncData} (FD : FunD K "_law_gap" "_law_gap" (defArgs (top 49)) (defBody (top 49)) (defScope (top 49)) [] [] f fd) (hm : mg "_law_gap" = some (.ref f)) (D__law_low : Def P w K mg base "_law_low" 2 1 F__law_low) :
    Def P w K mg base "_law_gap" 2 2 F__law_gap := by
  have S : FnScope ["_law_one", "_law_other"] ["_law_one", "_law_other"] (defScope (top 49)) := ⟨rfl, rfl, rfl, by decide +kernel, rfl, by decide +kernel, by decide +kernel⟩
  refine def_of FD S rfl hm (FD.bindsN fun _ _ _ _ _ _ us hl => match us, hl with | [_, _], _ => rfl) (fun cdv A outer s H E hr => ?_) (fun xs st _ => .inr rfl)
  have tk : L2N.Takes (cxOf (L2N.CX P w) P w K mg base ["_law_one", "_law_other"] "_law_gap" (defScope (top 49)) f cdv A outer s H E) (fun cls d _ H => E cls d H) := L2N.takes_of rfl rfl rfl rfl
  have po := passes_of (X := cxOf (L2N.CX P w) P w K mg base ["_law_one", "_law_other"] "_law_gap" (defScope (top 49)) f cdv A outer s H E) rfl
  exact (ss_one (ss_ret (se_call D__law_low (hr.mono (by omega)) tk (sa_cons (se_bin op_sub s_sub (se_bin op_mulW s_mul (se_ix ix_seq s_ix (se_var 0) se_int) (se_ix ix_seq s_ix (se_var 1) se_int)) (se_bin op_mulW s_mul (se_ix ix_seq s_ix (se_var 1) se_int) (se_ix ix_seq s_ix (se_var 0) se_int))) (sa_cons (se_bin op_mulW s_mul (se_ix ix_seq s_ix (se_var 0) se_int) (se_ix ix_seq s_ix (se_var 1) se_int)) sa_nil)))))

theorem d__law_apart {P : Program} {w : World} {K : PySem.W.Frag} {mg : Str → Option Value} {base : Heap} {f : Addr} {fd : FuncData} (FD : FunD K "_law_apart" "_law_apart" (defArgs (top 50)) (defBody (top 50)) (defScope (top 50)) [] [] f fd) (hm : mg "_law_apart" = some (.ref f)) (D__law_gap : Def P w K mg base "_law_gap" 2 2 F__law_gap) :
    Def P w K mg base "_law_apart" 2 3 F__law_apart := by
  have S : FnScope ["_law_one", "_law_other"] ["_law_one", "_law_other"] (defScope (top 50)) := ⟨rfl, rfl, rfl, by decide +kernel, rfl, by decide +kernel, by decide +kernel⟩
  refine def_of FD S rfl hm (FD.bindsN fun _ _ _ _ _ _ us hl => match us, hl with | [_, _], _ => rfl) (fun cdv A outer s H E hr => ?_) (fun xs st _ => .inr rfl)
  have tk : L2N.Takes (cxOf (L2N.CX P w) P w K mg base ["_law_one", "_law_other"] "_law_apart" (defScope (top 50)) f cdv A outer s H E) (fun cls d _ H => E cls d H) := L2N.takes_of rfl rfl rfl rfl
  have po := passes_of (X := cxOf (L2N.CX P w) P w K mg base ["_law_one", "_law_other"] "_law_apart" (defScope (top 50)) f cdv A outer s H E) rfl
  exact (ss_one (ss_ret (se_tup (sa_cons (se_call D__law_gap (hr.mono (by omega)) tk (sa_cons (se_ix ix_seq s_ix (se_var 1) se_int) (sa_cons (se_ix ix_seq s_ix (se_var 0) se_int) sa_nil))) (sa_cons (se_call D__law_gap (hr.mono (by omega)) tk (sa_cons (se_ix ix_seq s_ix (se_var 1) se_int) (sa_cons (se_ix ix_seq s_ix (se_var 0) se_int) sa_nil))) sa_nil)))))

theorem d__law_prod {P : Program} {w : World} {K : PySem.W.Frag} {mg : Str → Option Value} {base : Heap} {f : Addr} {fd : FuncData} (FD : FunD K "_law_prod" "_law_prod" (defArgs (top 52)) (defBody (top 52)) (defScope (top 52)) [] [] f fd) (hm : mg "_law_prod" = some (.ref f)) (D__law_low : Def P w K mg base "_law_low" 2 1 F__law_low) :
    Def P w K mg base "_law_prod" 2 2 F__law_prod := by
  have S : FnScope ["_law_one", "_law_other"] ["_law_one", "_law_other"] (defScope (top 52)) := ⟨rfl, rfl, rfl, by decide +kernel, rfl, by decide +kernel, by decide +kernel⟩
  refine def_of FD S rfl hm (FD.bindsN fun _ _ _ _ _ _ us hl => match us, hl with | [_, _], _ => rfl) (fun cdv A outer s H E hr => ?_) (fun xs st _ => .inr rfl)
  have tk : L2N.Takes (cxOf (L2N.CX P w) P w K mg base ["_law_one", "_law_other"] "_law_prod" (defScope (top 52)) f cdv A outer s H E) (fun cls d _ H => E cls d H) := L2N.takes_of rfl rfl rfl rfl
  have po := passes_of (X := cxOf (L2N.CX P w) P w K mg base ["_law_one", "_law_other"] "_law_prod" (defScope (top 52)) f cdv A outer s H E) rfl
  exact (ss_one (ss_ret (se_call D__law_low (hr.mono (by omega)) tk (sa_cons (se_bin op_mulW s_mul (se_ix ix_seq s_ix (se_var 0) se_int) (se_ix ix_seq s_ix (se_var 1) se_int)) (sa_cons (se_bin op_mulW s_mul (se_ix ix_seq s_ix (se_var 0) se_int) (se_ix ix_seq s_ix (se_var 1) se_int)) sa_nil)))))

theorem d__law_own {P : Program} {w : World} {K : PySem.W.Frag} {mg : Str → Option Value} {base : Heap} {f : Addr} {fd : FuncData} (FD : FunD K "_law_own" "_law_own" (defArgs (top 53)) (defBody (top 53)) (defScope (top 53)) [] [] f fd) (hm : mg "_law_own" = some (.ref f)) (D__law_apart : Def P w K mg base "_law_apart" 2 3 F__law_apart) (D__law_gap : Def P w K mg base "_law_gap" 2 2 F__law_gap) (D__law_prod : Def P w K mg base "_law_prod" 2 2 F__law_prod) :
    Def P w K mg base "_law_own" 2 4 F__law_own := by
  have S : FnScope ["_law_one", "_law_other", "_law_time", "_law_place"] ["_law_one", "_law_other"] (defScope (top 53)) := ⟨rfl, rfl, rfl, by decide +kernel, rfl, by decide +kernel, by decide +kernel⟩
  refine def_of FD S rfl hm (FD.bindsN fun _ _ _ _ _ _ us hl => match us, hl with | [_, _], _ => rfl) (fun cdv A outer s H E hr => ?_) (fun xs st _ => .inr rfl)
  have tk : L2N.Takes (cxOf (L2N.CX P w) P w K mg base ["_law_one", "_law_other", "_law_time", "_law_place"] "_law_own" (defScope (top 53)) f cdv A outer s H E) (fun cls d _ H => E cls d H) := L2N.takes_of rfl rfl rfl rfl
  have po := passes_of (X := cxOf (L2N.CX P w) P w K mg base ["_law_one", "_law_other", "_law_time", "_law_place"] "_law_own" (defScope (top 53)) f cdv A outer s H E) rfl
  exact (ss_cons (ss_asg (is := [2, 3]) (se_call D__law_apart (hr.mono (by omega)) tk (sa_cons (se_var 0) (sa_cons (se_var 1) sa_nil))) (sg_tup rfl (sgs_cons (sg_name 2 S.nd) (sgs_cons (sg_name 3 S.nd) sgs_nil))))
    (ss_one (ss_ret (se_call D__law_gap (hr.mono (by omega)) tk (sa_cons (se_call D__law_prod (hr.mono (by omega)) tk (sa_cons (se_var 2) (sa_cons (se_var 2) sa_nil))) (sa_cons (se_call D__law_prod (hr.mono (by omega)) tk (sa_cons (se_var 3) (sa_cons (se_var 3) sa_nil))) sa_nil))))))

theorem d_is_whole {P : Program} {w : World} {K : PySem.W.Frag} {mg : Str → Option Value} {base : Heap} {f : Addr} {fd : FuncData} (FD : FunD K "is_whole" "is_whole" (defArgs (top 22)) (defBody (top 22)) (defScope (top 22)) [] [] f fd) (hm : mg "is_whole" = some (.ref f)) (b_isinstance : mg "isinstance" = none) (b_int : mg "int" = none) (b_bool : mg "bool" = none) :
    Def P w K mg base "is_whole" 1 1 F_is_whole := by
  have S : FnScope ["thing"] ["thing"] (defScope (top 22)) := ⟨rfl, rfl, rfl, by decide +kernel, rfl, by decide +kernel, by decide +kernel⟩
  refine def_of FD S rfl hm (FD.bindsN fun _ _ _ _ _ _ us hl => match us, hl with | [_], _ => rfl) (fun cdv A outer s H E hr => ?_) (fun xs st _ => .inr rfl)
  have tk : L2N.Takes (cxOf (L2N.CX P w) P w K mg base ["thing"] "is_whole" (defScope (top 22)) f cdv A outer s H E) (fun cls d _ H => E cls d H) := L2N.takes_of rfl rfl rfl rfl
  have po := passes_of (X := cxOf (L2N.CX P w) P w K mg base ["thing"] "is_whole" (defScope (top 22)) f cdv A outer s H E) rfl
  exact (ss_one (ss_ret (se_and (se_bi call_isi s_isi zb_isinstance b_isinstance (sa_cons (se_var 0) (sa_cons (se_ty zb_int b_int) sa_nil))) (se_and1 (se_vt (se_not (se_bi call_isi s_isi zb_isinstance b_isinstance (sa_cons (se_var 0) (sa_cons (se_ty zb_bool b_bool) sa_nil)))))))))

theorem d_is_fraction {P : Program} {w : World} {K : PySem.W.Frag} {mg : Str → Option Value} {base : Heap} {f : Addr} {fd : FuncData} (FD : FunD K "is_fraction" "is_fraction" (defArgs (top 24)) (defBody (top 24)) (defScope (top 24)) [] [] f fd) (hm : mg "is_fraction" = some (.ref f)) (b_isinstance : mg "isinstance" = none) (b_tuple : mg "tuple" = none) (b_len : mg "len" = none) (D_is_whole : Def P w K mg base "is_whole" 1 1 F_is_whole) (D_common : Def P w K mg base "common" 2 1 F_common) :
    Def P w K mg base "is_fraction" 1 2 F_is_fraction := by
  have S : FnScope ["thing"] ["thing"] (defScope (top 24)) := ⟨rfl, rfl, rfl, by decide +kernel, rfl, by decide +kernel, by decide +kernel⟩
  refine def_of FD S rfl hm (FD.bindsN fun _ _ _ _ _ _ us hl => match us, hl with | [_], _ => rfl) (fun cdv A outer s H E hr => ?_) (fun xs st _ => .inr rfl)
  have tk : L2N.Takes (cxOf (L2N.CX P w) P w K mg base ["thing"] "is_fraction" (defScope (top 24)) f cdv A outer s H E) (fun cls d _ H => E cls d H) := L2N.takes_of rfl rfl rfl rfl
  have po := passes_of (X := cxOf (L2N.CX P w) P w K mg base ["thing"] "is_fraction" (defScope (top 24)) f cdv A outer s H E) rfl
  exact (ss_cons (ss_if (st_or (st_not (st_val (se_bi call_isi s_isi zb_isinstance b_isinstance (sa_cons (se_var 0) (sa_cons (se_ty zb_tuple b_tuple) sa_nil))))) (st_or (st_cmp (op_neD hr.units) s_ne (se_bi call_len s_len zb_len b_len (sa_cons (se_var 0) sa_nil)) se_int) (st_or (st_not (st_val (se_call D_is_whole (hr.mono (by omega)) tk (sa_cons (se_ix ix_seq s_ix (se_var 0) se_int) sa_nil)))) (st_or1 (st_not (st_val (se_call D_is_whole (hr.mono (by omega)) tk (sa_cons (se_ix ix_seq s_ix (se_var 0) se_int) sa_nil)))))))).pt (ss_one (ss_ret se_bl)) ss_nil)
    (ss_one (ss_ret (se_and (se_cmp op_gt s_gt (se_ix ix_seq s_ix (se_var 0) se_int) se_int) (se_and1 (se_vt (se_cmp (op_eqD hr.units) s_eq (se_call D_common (hr.mono (by omega)) tk (sa_cons (se_ix ix_seq s_ix (se_var 0) se_int) (sa_cons (se_ix ix_seq s_ix (se_var 0) se_int) sa_nil))) se_int)))))))

theorem d_is_hap {P : Program} {w : World} {K : PySem.W.Frag} {mg : Str → Option Value} {base : Heap} {f : Addr} {fd : FuncData} (FD : FunD K "is_hap" "is_hap" (defArgs (top 33)) (defBody (top 33)) (defScope (top 33)) [] [] f fd) (hm : mg "is_hap" = some (.ref f)) (b_isinstance : mg "isinstance" = none) (b_tuple : mg "tuple" = none) (b_len : mg "len" = none) (D_is_fraction : Def P w K mg base "is_fraction" 1 2 F_is_fraction) :
    Def P w K mg base "is_hap" 1 3 F_is_hap := by
  have S : FnScope ["thing"] ["thing"] (defScope (top 33)) := ⟨rfl, rfl, rfl, by decide +kernel, rfl, by decide +kernel, by decide +kernel⟩
  refine def_of FD S rfl hm (FD.bindsN fun _ _ _ _ _ _ us hl => match us, hl with | [_], _ => rfl) (fun cdv A outer s H E hr => ?_) (fun xs st _ => .inr rfl)
  have tk : L2N.Takes (cxOf (L2N.CX P w) P w K mg base ["thing"] "is_hap" (defScope (top 33)) f cdv A outer s H E) (fun cls d _ H => E cls d H) := L2N.takes_of rfl rfl rfl rfl
  have po := passes_of (X := cxOf (L2N.CX P w) P w K mg base ["thing"] "is_hap" (defScope (top 33)) f cdv A outer s H E) rfl
  exact (ss_one (ss_ret (se_and (se_bi call_isi s_isi zb_isinstance b_isinstance (sa_cons (se_var 0) (sa_cons (se_ty zb_tuple b_tuple) sa_nil))) (se_and (se_cmp (op_eqD hr.units) s_eq (se_bi call_len s_len zb_len b_len (sa_cons (se_var 0) sa_nil)) se_int) (se_and (se_call D_is_fraction (hr.mono (by omega)) tk (sa_cons (se_ix ix_seq s_ix (se_var 0) se_int) sa_nil)) (se_and1 (se_vt (se_call D_is_fraction (hr.mono (by omega)) tk (sa_cons (se_ix ix_seq s_ix (se_var 0) se_int) sa_nil)))))))))

theorem d_is_less {P : Program} {w : World} {K : PySem.W.Frag} {mg : Str → Option Value} {base : Heap} {f : Addr} {fd : FuncData} (FD : FunD K "is_less" "is_less" (defArgs (top 29)) (defBody (top 29)) (defScope (top 29)) [] [] f fd) (hm : mg "is_less" = some (.ref f))  :
    Def P w K mg base "is_less" 2 1 F_is_less := by
  have S : FnScope ["one", "other"] ["one", "other"] (defScope (top 29)) := ⟨rfl, rfl, rfl, by decide +kernel, rfl, by decide +kernel, by decide +kernel⟩
  refine def_of FD S rfl hm (FD.bindsN fun _ _ _ _ _ _ us hl => match us, hl with | [_, _], _ => rfl) (fun cdv A outer s H E hr => ?_) (fun xs st _ => .inr rfl)
  have tk : L2N.Takes (cxOf (L2N.CX P w) P w K mg base ["one", "other"] "is_less" (defScope (top 29)) f cdv A outer s H E) (fun cls d _ H => E cls d H) := L2N.takes_of rfl rfl rfl rfl
  have po := passes_of (X := cxOf (L2N.CX P w) P w K mg base ["one", "other"] "is_less" (defScope (top 29)) f cdv A outer s H E) rfl
  exact (ss_one (ss_ret (se_cmp op_lt s_lt (se_bin op_mulW s_mul (se_ix ix_seq s_ix (se_var 0) se_int) (se_ix ix_seq s_ix (se_var 1) se_int)) (se_bin op_mulW s_mul (se_ix ix_seq s_ix (se_var 1) se_int) (se_ix ix_seq s_ix (se_var 0) se_int)))))

theorem d_kind_of {P : Program} {w : World} {K : PySem.W.Frag} {mg : Str → Option Value} {base : Heap} {f : Addr} {fd : FuncData} (FD : FunD K "kind_of" "kind_of" (defArgs (top 36)) (defBody (top 36)) (defScope (top 36)) [] [] f fd) (hm : mg "kind_of" = some (.ref f)) (b_abs : mg "abs" = none) (D_lapse_and_gap : Def P w K mg base "lapse_and_gap" 2 4 F_lapse_and_gap) (D_is_less : Def P w K mg base "is_less" 2 1 F_is_less) :
    Def P w K mg base "kind_of" 2 5 F_kind_of := by
  have S : FnScope ["one", "other", "wide", "lapse", "gap"] ["one", "other"] (defScope (top 36)) := ⟨rfl, rfl, rfl, by decide +kernel, rfl, by decide +kernel, by decide +kernel⟩
  refine def_of FD S rfl hm (FD.bindsN fun _ _ _ _ _ _ us hl => match us, hl with | [_, _], _ => rfl) (fun cdv A outer s H E hr => ?_) (fun xs st _ => .inr rfl)
  have tk : L2N.Takes (cxOf (L2N.CX P w) P w K mg base ["one", "other", "wide", "lapse", "gap"] "kind_of" (defScope (top 36)) f cdv A outer s H E) (fun cls d _ H => E cls d H) := L2N.takes_of rfl rfl rfl rfl
  have po := passes_of (X := cxOf (L2N.CX P w) P w K mg base ["one", "other", "wide", "lapse", "gap"] "kind_of" (defScope (top 36)) f cdv A outer s H E) rfl
  exact (ss_cons (ss_asg (is := [3, 4]) (se_call D_lapse_and_gap (hr.mono (by omega)) tk (sa_cons (se_var 0) (sa_cons (se_var 1) sa_nil))) (sg_tup rfl (sgs_cons (sg_name 3 S.nd) (sgs_cons (sg_name 4 S.nd) sgs_nil))))
    (ss_cons (ss_set 2 S.nd (se_tup (sa_cons (se_bi call_abs s_abs zb_abs b_abs (sa_cons (se_ix ix_seq s_ix (se_var 4) se_int) sa_nil)) (sa_cons (se_ix ix_seq s_ix (se_var 4) se_int) sa_nil))))
    (ss_cons (ss_if (st_and (st_cmp (op_eqD hr.units) s_eq (se_ix ix_seq s_ix (se_var 3) se_int) se_int) (st_and1 (st_cmp (op_eqD hr.units) s_eq (se_ix ix_seq s_ix (se_var 4) se_int) se_int))).pt (ss_one (ss_ret se_str)) ss_nil)
    (ss_cons (ss_if (st_not (st_val (se_call D_is_less (hr.mono (by omega)) tk (sa_cons (se_var 3) (sa_cons (se_var 2) sa_nil))))) (ss_one (ss_ret se_str)) ss_nil)
    (ss_cons (ss_if (st_not (st_val (se_call D_is_less (hr.mono (by omega)) tk (sa_cons (se_tup (sa_cons (se_bin op_sub s_sub se_int (se_ix ix_seq s_ix (se_var 3) se_int)) (sa_cons (se_ix ix_seq s_ix (se_var 3) se_int) sa_nil))) (sa_cons (se_var 2) sa_nil))))) (ss_one (ss_ret se_str)) ss_nil)
    (ss_one (ss_ret se_str)))))))

theorem d_is_way {P : Program} {w : World} {K : PySem.W.Frag} {mg : Str → Option Value} {base : Heap} {f : Addr} {fd : FuncData} (FD : FunD K "is_way" "is_way" (defArgs (top 41)) (defBody (top 41)) (defScope (top 41)) [] [] f fd) (hm : mg "is_way" = some (.ref f)) (b_isinstance : mg "isinstance" = none) (b_list : mg "list" = none) (b_len : mg "len" = none) (b_all : mg "all" = none) (b_range : mg "range" = none) (c_MOST_ON_WAY : Con K mg "MOST_ON_WAY" (.int 12)) (D_is_hap : Def P w K mg base "is_hap" 1 3 F_is_hap) (D_kind_of : Def P w K mg base "kind_of" 2 5 F_kind_of) :
    Def P w K mg base "is_way" 1 6 F_is_way := by
  have S : FnScope ["thing", "place", "hap"] ["thing"] (defScope (top 41)) := ⟨rfl, rfl, rfl, by decide +kernel, rfl, by decide +kernel, by decide +kernel⟩
  refine def_of FD S rfl hm (FD.bindsN fun _ _ _ _ _ _ us hl => match us, hl with | [_], _ => rfl) (fun cdv A outer s H E hr => ?_) (fun xs st _ => .inr rfl)
  have tk : L2N.Takes (cxOf (L2N.CX P w) P w K mg base ["thing", "place", "hap"] "is_way" (defScope (top 41)) f cdv A outer s H E) (fun cls d _ H => E cls d H) := L2N.takes_of rfl rfl rfl rfl
  have po := passes_of (X := cxOf (L2N.CX P w) P w K mg base ["thing", "place", "hap"] "is_way" (defScope (top 41)) f cdv A outer s H E) rfl
  exact (ss_cons (ss_if (st_or (st_not (st_val (se_bi call_isi s_isi zb_isinstance b_isinstance (sa_cons (se_var 0) (sa_cons (se_ty zb_list b_list) sa_nil))))) (st_or (st_not (st_chain op_le op_le s_le s_le se_int (se_bi call_len s_len zb_len b_len (sa_cons (se_var 0) sa_nil)) (se_con c_MOST_ON_WAY))) (st_or1 (st_not (st_val (se_bi (cr_all rfl) s_all zb_all b_all (sa_cons (se_comp [("hap", 2)] rfl S.nd (si_list (se_var 0)) (blkOk_by (by show blkC ["thing", "place", "hap"] (defScope (top 41)) _ _ = true; decide +kernel)) (fun _ _ _ _ _ => (sg_name 2 S.nd)) (fun _ _ _ _ _ => tt_nil) (fun _ _ _ _ _ => (se_call D_is_hap (hr.mono (by omega)) takes0N (sa_cons (se_var 2) sa_nil)))) sa_nil))))))).pt (ss_one (ss_ret se_bl)) ss_nil)
    (ss_one (ss_ret (se_bi (cr_all rfl) s_all zb_all b_all (sa_cons (se_comp [("place", 1)] rfl S.nd (si_rng2 b_range (sa_cons se_int (sa_cons (se_bi call_len s_len zb_len b_len (sa_cons (se_var 0) sa_nil)) sa_nil))) (blkOk_by (by show blkC ["thing", "place", "hap"] (defScope (top 41)) _ _ = true; decide +kernel)) (fun _ _ _ _ _ => (sg_name 1 S.nd)) (fun _ _ _ _ _ => tt_nil) (fun _ _ _ _ _ => (se_cmp (op_eqD hr.units) s_eq (se_call D_kind_of (hr.mono (by omega)) takes0N (sa_cons (se_ix ix_seq s_ix (se_var 0) (se_bin op_sub s_sub (se_var 1) se_int)) (sa_cons (se_ix ix_seq s_ix (se_var 0) (se_var 1)) sa_nil))) se_str))) sa_nil)))))

theorem d_plus {P : Program} {w : World} {K : PySem.W.Frag} {mg : Str → Option Value} {base : Heap} {f : Addr} {fd : FuncData} (FD : FunD K "plus" "plus" (defArgs (top 26)) (defBody (top 26)) (defScope (top 26)) [] [] f fd) (hm : mg "plus" = some (.ref f)) (D_fraction : Def P w K mg base "fraction" 2 2 F_fraction) :
    Def P w K mg base "plus" 2 3 F_plus := by
  have S : FnScope ["one", "other"] ["one", "other"] (defScope (top 26)) := ⟨rfl, rfl, rfl, by decide +kernel, rfl, by decide +kernel, by decide +kernel⟩
  refine def_of FD S rfl hm (FD.bindsN fun _ _ _ _ _ _ us hl => match us, hl with | [_, _], _ => rfl) (fun cdv A outer s H E hr => ?_) (fun xs st _ => .inr rfl)
  have tk : L2N.Takes (cxOf (L2N.CX P w) P w K mg base ["one", "other"] "plus" (defScope (top 26)) f cdv A outer s H E) (fun cls d _ H => E cls d H) := L2N.takes_of rfl rfl rfl rfl
  have po := passes_of (X := cxOf (L2N.CX P w) P w K mg base ["one", "other"] "plus" (defScope (top 26)) f cdv A outer s H E) rfl
  exact (ss_one (ss_ret (se_call D_fraction (hr.mono (by omega)) tk (sa_cons (se_bin o_add s_add (se_bin op_mulW s_mul (se_ix ix_seq s_ix (se_var 0) se_int) (se_ix ix_seq s_ix (se_var 1) se_int)) (se_bin op_mulW s_mul (se_ix ix_seq s_ix (se_var 1) se_int) (se_ix ix_seq s_ix (se_var 0) se_int))) (sa_cons (se_bin op_mulW s_mul (se_ix ix_seq s_ix (se_var 0) se_int) (se_ix ix_seq s_ix (se_var 1) se_int)) sa_nil)))))

theorem d_root_below {P : Program} {w : World} {K : PySem.W.Frag} {mg : Str → Option Value} {base : Heap} {f : Addr} {fd : FuncData} (FD : FunD K "root_below" "root_below" (defArgs (top 30)) (defBody (top 30)) (defScope (top 30)) [] [] f fd) (hm : mg "root_below" = some (.ref f))  :
    Def P w K mg base "root_below" 1 1 F_root_below := by
  have S : FnScope ["number", "found"] ["number"] (defScope (top 30)) := ⟨rfl, rfl, rfl, by decide +kernel, rfl, by decide +kernel, by decide +kernel⟩
  refine def_of FD S rfl hm (FD.bindsN fun _ _ _ _ _ _ us hl => match us, hl with | [_], _ => rfl) (fun cdv A outer s H E hr => ?_) (fun xs st _ => .inr rfl)
  have tk : L2N.Takes (cxOf (L2N.CX P w) P w K mg base ["number", "found"] "root_below" (defScope (top 30)) f cdv A outer s H E) (fun cls d _ H => E cls d H) := L2N.takes_of rfl rfl rfl rfl
  have po := passes_of (X := cxOf (L2N.CX P w) P w K mg base ["number", "found"] "root_below" (defScope (top 30)) f cdv A outer s H E) rfl
  exact (ss_cons (ss_if (st_cmp (op_eqD hr.units) s_eq (se_var 0) se_int) (ss_one (ss_ret se_int)) ss_nil)
    (ss_cons (ss_set 1 S.nd (se_bin op_shlW s_shl se_int (se_bin op_fdivG s_fdiv (se_bin o_add s_add (se_bits (se_var 0)) se_int) se_int)))
    (ss_cons (ss_while (muI 1) po (st_cmp op_gt s_gt (se_bin op_mulW s_mul (se_var 1) (se_var 1)) (se_var 0)) (ss_one (ss_set 1 S.nd (se_bin op_fdivG s_fdiv (se_bin o_add s_add (se_var 1) (se_bin op_fdivG s_fdiv (se_var 0) (se_var 1))) se_int))))
    (ss_one (ss_ret (se_var 1))))))

theorem d_root_of {P : Program} {w : World} {K : PySem.W.Frag} {mg : Str → Option Value} {base : Heap} {f : Addr} {fd : FuncData} (FD : FunD K "root_of" "root_of" (defArgs (top 31)) (defBody (top 31)) (defScope (top 31)) [] [] f fd) (hm : mg "root_of" = some (.ref f)) (D_root_below : Def P w K mg base "root_below" 1 1 F_root_below) :
    Def P w K mg base "root_of" 1 2 F_root_of := by
  have S : FnScope ["one", "found"] ["one"] (defScope (top 31)) := ⟨rfl, rfl, rfl, by decide +kernel, rfl, by decide +kernel, by decide +kernel⟩
  refine def_of FD S rfl hm (FD.bindsN fun _ _ _ _ _ _ us hl => match us, hl with | [_], _ => rfl) (fun cdv A outer s H E hr => ?_) (fun xs st _ => .inr rfl)
  have tk : L2N.Takes (cxOf (L2N.CX P w) P w K mg base ["one", "found"] "root_of" (defScope (top 31)) f cdv A outer s H E) (fun cls d _ H => E cls d H) := L2N.takes_of rfl rfl rfl rfl
  have po := passes_of (X := cxOf (L2N.CX P w) P w K mg base ["one", "found"] "root_of" (defScope (top 31)) f cdv A outer s H E) rfl
  exact (ss_cons (ss_if (st_cmp op_lt s_lt (se_ix ix_seq s_ix (se_var 0) se_int) se_int) (ss_one (ss_ret se_non)) ss_nil)
    (ss_cons (ss_set 1 S.nd (se_tup (sa_cons (se_call D_root_below (hr.mono (by omega)) tk (sa_cons (se_ix ix_seq s_ix (se_var 0) se_int) sa_nil)) (sa_cons (se_call D_root_below (hr.mono (by omega)) tk (sa_cons (se_ix ix_seq s_ix (se_var 0) se_int) sa_nil)) sa_nil))))
    (ss_cons (ss_if (st_or (st_cmp (op_neD hr.units) s_ne (se_bin op_mulW s_mul (se_ix ix_seq s_ix (se_var 1) se_int) (se_ix ix_seq s_ix (se_var 1) se_int)) (se_ix ix_seq s_ix (se_var 0) se_int)) (st_or1 (st_cmp (op_neD hr.units) s_ne (se_bin op_mulW s_mul (se_ix ix_seq s_ix (se_var 1) se_int) (se_ix ix_seq s_ix (se_var 1) se_int)) (se_ix ix_seq s_ix (se_var 0) se_int)))).pt (ss_one (ss_ret se_non)) ss_nil)
    (ss_one (ss_ret (se_var 1))))))

theorem d_own_time {P : Program} {w : World} {K : PySem.W.Frag} {mg : Str → Option Value} {base : Heap} {f : Addr} {fd : FuncData} (FD : FunD K "own_time" "own_time" (defArgs (top 40)) (defBody (top 40)) (defScope (top 40)) [] [] f fd) (hm : mg "own_time" = some (.ref f)) (x_NoStep : ExcF K mg "NoStep") (x_NotPlain : ExcF K mg "NotPlain") (D_is_hap : Def P w K mg base "is_hap" 1 3 F_is_hap) (D_kind_of : Def P w K mg base "kind_of" 2 5 F_kind_of) (D_root_of : Def P w K mg base "root_of" 1 2 F_root_of) (D_own_square : Def P w K mg base "own_square" 2 5 F_own_square) :
    Def P w K mg base "own_time" 2 6 F_own_time := by
  have S : FnScope ["one", "other", "found"] ["one", "other"] (defScope (top 40)) := ⟨rfl, rfl, rfl, by decide +kernel, rfl, by decide +kernel, by decide +kernel⟩
  refine def_of FD S rfl hm (FD.bindsN fun _ _ _ _ _ _ us hl => match us, hl with | [_, _], _ => rfl) (fun cdv A outer s H E hr => ?_) (fun xs st _ => .inr rfl)
  have tk : L2N.Takes (cxOf (L2N.CX P w) P w K mg base ["one", "other", "found"] "own_time" (defScope (top 40)) f cdv A outer s H E) (fun cls d _ H => E cls d H) := L2N.takes_of rfl rfl rfl rfl
  have po := passes_of (X := cxOf (L2N.CX P w) P w K mg base ["one", "other", "found"] "own_time" (defScope (top 40)) f cdv A outer s H E) rfl
  exact (ss_cons (ss_if (st_or (st_not (st_val (se_call D_is_hap (hr.mono (by omega)) tk (sa_cons (se_var 0) sa_nil)))) (st_or (st_not (st_val (se_call D_is_hap (hr.mono (by omega)) tk (sa_cons (se_var 1) sa_nil)))) (st_or1 (st_cmp (op_neD hr.units) s_ne (se_call D_kind_of (hr.mono (by omega)) tk (sa_cons (se_var 0) (sa_cons (se_var 1) sa_nil))) se_str)))).pt (ss_one (ss_raise rfl tk x_NoStep.1 x_NoStep.2.1 x_NoStep.2.2.1 x_NoStep.2.2.2.1 x_NoStep.2.2.2.2)) ss_nil)
    (ss_cons (ss_set 2 S.nd (se_call D_root_of (hr.mono (by omega)) tk (sa_cons (se_call D_own_square (hr.mono (by omega)) tk (sa_cons (se_var 0) (sa_cons (se_var 1) sa_nil))) sa_nil)))
    (ss_cons (ss_if (st_cmp op_isN s_isN (se_var 2) se_non) (ss_one (ss_raise rfl tk x_NotPlain.1 x_NotPlain.2.1 x_NotPlain.2.2.1 x_NotPlain.2.2.2.1 x_NotPlain.2.2.2.2)) ss_nil)
    (ss_one (ss_ret (se_var 2))))))

theorem d_own_along {P : Program} {w : World} {K : PySem.W.Frag} {mg : Str → Option Value} {base : Heap} {f : Addr} {fd : FuncData} (FD : FunD K "own_along" "own_along" (defArgs (top 42)) (defBody (top 42)) (defScope (top 42)) [] [] f fd) (hm : mg "own_along" = some (.ref f)) (b_range : mg "range" = none) (b_len : mg "len" = none) (c_NOUGHT : Con K mg "NOUGHT" (.tup [(.int 0), (.int 1)])) (x_NoStep : ExcF K mg "NoStep") (D_is_way : Def P w K mg base "is_way" 1 6 F_is_way) (D_plus : Def P w K mg base "plus" 2 3 F_plus) (D_own_time : Def P w K mg base "own_time" 2 6 F_own_time) :
    Def P w K mg base "own_along" 1 7 F_own_along := by
  have S : FnScope ["way", "found", "place"] ["way"] (defScope (top 42)) := ⟨rfl, rfl, rfl, by decide +kernel, rfl, by decide +kernel, by decide +kernel⟩
  refine def_of FD S rfl hm (FD.bindsN fun _ _ _ _ _ _ us hl => match us, hl with | [_], _ => rfl) (fun cdv A outer s H E hr => ?_) (fun xs st _ => .inr rfl)
  have tk : L2N.Takes (cxOf (L2N.CX P w) P w K mg base ["way", "found", "place"] "own_along" (defScope (top 42)) f cdv A outer s H E) (fun cls d _ H => E cls d H) := L2N.takes_of rfl rfl rfl rfl
  have po := passes_of (X := cxOf (L2N.CX P w) P w K mg base ["way", "found", "place"] "own_along" (defScope (top 42)) f cdv A outer s H E) rfl
  exact (ss_cons (ss_if (st_not (st_val (se_call D_is_way (hr.mono (by omega)) tk (sa_cons (se_var 0) sa_nil)))) (ss_one (ss_raise rfl tk x_NoStep.1 x_NoStep.2.1 x_NoStep.2.2.1 x_NoStep.2.2.2.1 x_NoStep.2.2.2.2)) ss_nil)
    (ss_cons (ss_set 1 S.nd (se_con c_NOUGHT))
    (ss_cons (ss_for (is := [2]) po rfl (si_rng2 b_range (sa_cons se_int (sa_cons (se_bi call_len s_len zb_len b_len (sa_cons (se_var 0) sa_nil)) sa_nil))) (sg_name 2 S.nd) (ss_one (ss_set 1 S.nd (se_call D_plus (hr.mono (by omega)) tk (sa_cons (se_var 1) (sa_cons (se_call D_own_time (hr.mono (by omega)) tk (sa_cons (se_ix ix_seq s_ix (se_var 0) (se_bin op_sub s_sub (se_var 2) se_int)) (sa_cons (se_ix ix_seq s_ix (se_var 0) (se_var 2)) sa_nil))) sa_nil))))))
    (ss_one (ss_ret (se_var 1))))))

theorem d__law_kind_of {P : Program} {w : World} {K : PySem.W.Frag} {mg : Str → Option Value} {base : Heap} {f : Addr} {fd : FuncData} (FD : FunD K "_law_kind_of" "_law_kind_of" (defArgs (top 61)) (defBody (top 61)) (defScope (top 61)) [] [] f fd) (hm : mg "_law_kind_of" = some (.ref f)) (b_isinstance : mg "isinstance" = none) (b_ValueError : mg "ValueError" = none) (k_NoDeed : mg "NoDeed" = some (.ref (He.ga K "NoDeed"))) (k_NoFlash : mg "NoFlash" = some (.ref (He.ga K "NoFlash"))) (k_NoFraction : mg "NoFraction" = some (.ref (He.ga K "NoFraction"))) (k_NoHap : mg "NoHap" = some (.ref (He.ga K "NoHap"))) (k_NoHaps : mg "NoHaps" = some (.ref (He.ga K "NoHaps"))) (k_NoName : mg "NoName" = some (.ref (He.ga K "NoName"))) (k_NoNumber : mg "NoNumber" = some (.ref (He.ga K "NoNumber"))) (k_NoOrder : mg "NoOrder" = some (.ref (He.ga K "NoOrder"))) (k_NoRod : mg "NoRod" = some (.ref (He.ga K "NoRod"))) (k_NoRow : mg "NoRow" = some (.ref (He.ga K "NoRow"))) (k_NoSeat : mg "NoSeat" = some (.ref (He.ga K "NoSeat"))) (k_NoSpeed : mg "NoSpeed" = some (.ref (He.ga K "NoSpeed"))) (k_NoStep : mg "NoStep" = some (.ref (He.ga K "NoStep"))) (k_NoStretch : mg "NoStretch" = some (.ref (He.ga K "NoStretch"))) (k_NoText : mg "NoText" = some (.ref (He.ga K "NoText"))) (k_NotPlain : mg "NotPlain" = some (.ref (He.ga K "NotPlain"))) (k_NoWay : mg "NoWay" = some (.ref (He.ga K "NoWay"))) (k_TooMany : mg "TooMany" = some (.ref (He.ga K "TooMany"))) (B : kindB K = true) :
    DefE P w K mg base "_law_kind_of" 1 := by
  have S : FnScope ["_law_e", "_law_some", "_law_words"] ["_law_e"] (defScope (top 61)) := ⟨rfl, rfl, rfl, by decide +kernel, rfl, by decide +kernel, by decide +kernel⟩
  exact defE_of (g := g__law_kind_of) FD S rfl hm (FD.bindsN fun _ _ _ _ _ _ us hl => match us, hl with | [_], _ => rfl) B (fun cdv A out sh H E p c hot hz hfs kf hr => (ss_cons (ss_set 1 S.nd (se_new (sa_cons (se_bi (call_isX kf.exc List.mem_cons_self hz hfs) (s_isE kf) zb_isinstance b_isinstance (sa_cons (se_var 0) (sa_cons (se_cls k_NoDeed) sa_nil))) (sa_cons (se_bi (call_isX kf.exc List.mem_cons_self hz hfs) (s_isE kf) zb_isinstance b_isinstance (sa_cons (se_var 0) (sa_cons (se_cls k_NoFlash) sa_nil))) (sa_cons (se_bi (call_isX kf.exc List.mem_cons_self hz hfs) (s_isE kf) zb_isinstance b_isinstance (sa_cons (se_var 0) (sa_cons (se_cls k_NoFraction) sa_nil))) (sa_cons (se_bi (call_isX kf.exc List.mem_cons_self hz hfs) (s_isE kf) zb_isinstance b_isinstance (sa_cons (se_var 0) (sa_cons (se_cls k_NoHap) sa_nil))) sa_nil))))))
    (ss_cons (ss_set 1 S.nd (se_cat (se_var 1) (se_new (sa_cons (se_bi (call_isX kf.exc List.mem_cons_self hz hfs) (s_isE kf) zb_isinstance b_isinstance (sa_cons (se_var 0) (sa_cons (se_cls k_NoHaps) sa_nil))) (sa_cons (se_bi (call_isX kf.exc List.mem_cons_self hz hfs) (s_isE kf) zb_isinstance b_isinstance (sa_cons (se_var 0) (sa_cons (se_cls k_NoName) sa_nil))) (sa_cons (se_bi (call_isX kf.exc List.mem_cons_self hz hfs) (s_isE kf) zb_isinstance b_isinstance (sa_cons (se_var 0) (sa_cons (se_cls k_NoNumber) sa_nil))) sa_nil))))))
    (ss_cons (ss_set 1 S.nd (se_cat (se_var 1) (se_new (sa_cons (se_bi (call_isX kf.exc List.mem_cons_self hz hfs) (s_isE kf) zb_isinstance b_isinstance (sa_cons (se_var 0) (sa_cons (se_cls k_NoOrder) sa_nil))) (sa_cons (se_bi (call_isX kf.exc List.mem_cons_self hz hfs) (s_isE kf) zb_isinstance b_isinstance (sa_cons (se_var 0) (sa_cons (se_cls k_NoRod) sa_nil))) (sa_cons (se_bi (call_isX kf.exc List.mem_cons_self hz hfs) (s_isE kf) zb_isinstance b_isinstance (sa_cons (se_var 0) (sa_cons (se_cls k_NoRow) sa_nil))) (sa_cons (se_bi (call_isX kf.exc List.mem_cons_self hz hfs) (s_isE kf) zb_isinstance b_isinstance (sa_cons (se_var 0) (sa_cons (se_cls k_NoSeat) sa_nil))) sa_nil)))))))
    (ss_cons (ss_set 1 S.nd (se_cat (se_var 1) (se_new (sa_cons (se_bi (call_isX kf.exc List.mem_cons_self hz hfs) (s_isE kf) zb_isinstance b_isinstance (sa_cons (se_var 0) (sa_cons (se_cls k_NoSpeed) sa_nil))) (sa_cons (se_bi (call_isX kf.exc List.mem_cons_self hz hfs) (s_isE kf) zb_isinstance b_isinstance (sa_cons (se_var 0) (sa_cons (se_cls k_NoStep) sa_nil))) (sa_cons (se_bi (call_isX kf.exc List.mem_cons_self hz hfs) (s_isE kf) zb_isinstance b_isinstance (sa_cons (se_var 0) (sa_cons (se_cls k_NoStretch) sa_nil))) sa_nil))))))
    (ss_cons (ss_set 1 S.nd (se_cat (se_var 1) (se_new (sa_cons (se_bi (call_isX kf.exc List.mem_cons_self hz hfs) (s_isE kf) zb_isinstance b_isinstance (sa_cons (se_var 0) (sa_cons (se_cls k_NoText) sa_nil))) (sa_cons (se_bi (call_isX kf.exc List.mem_cons_self hz hfs) (s_isE kf) zb_isinstance b_isinstance (sa_cons (se_var 0) (sa_cons (se_cls k_NotPlain) sa_nil))) (sa_cons (se_bi (call_isX kf.exc List.mem_cons_self hz hfs) (s_isE kf) zb_isinstance b_isinstance (sa_cons (se_var 0) (sa_cons (se_cls k_NoWay) sa_nil))) (sa_cons (se_bi (call_isX kf.exc List.mem_cons_self hz hfs) (s_isE kf) zb_isinstance b_isinstance (sa_cons (se_var 0) (sa_cons (se_cls k_TooMany) sa_nil))) sa_nil)))))))
    (ss_cons (ss_if (st_or (st_cmp (op_neD hr.units) s_ne (se_m PySem.F.plainAttrs_list PySem.F.slot_list_count PySem.F.type_list_count mt_countB s_countM n_countM (se_var 1) (sa_cons se_bl sa_nil)) se_int) (st_or1 (st_not (st_val (se_bi (call_isX kf.exc List.mem_cons_self hz hfs) (s_isE kf) zb_isinstance b_isinstance (sa_cons (se_var 0) (sa_cons (se_ty zb_ValueError b_ValueError) sa_nil))))))).pt (ss_one (ss_ret se_str)) ss_nil)
    (ss_cons (ss_set 2 S.nd (se_new (sa_cons se_str (sa_cons se_str (sa_cons se_str (sa_cons se_str (sa_cons se_str (sa_cons se_str (sa_cons se_str (sa_cons se_str (sa_cons se_str (sa_cons se_str (sa_cons se_str (sa_cons se_str sa_nil))))))))))))))
    (ss_one (ss_ret (se_ix ix_seq s_ix (se_cat (se_var 2) (se_new (sa_cons se_str (sa_cons se_str (sa_cons se_str (sa_cons se_str (sa_cons se_str (sa_cons se_str sa_nil)))))))) (se_m PySem.F.plainAttrs_list PySem.F.slot_list_index PySem.F.type_list_index mt_index s_indexM n_indexM (se_var 1) (sa_cons se_bl sa_nil))))))))))))) fun a c s st h => kindof_ok_law_kind_of h

theorem d__law_told {P : Program} {w : World} {K : PySem.W.Frag} {mg : Str → Option Value} {base : Heap} {f : Addr} {fd : FuncData} (FD : FunD K "_law_told" "_law_told" (defArgs (top 62)) (defBody (top 62)) (defScope (top 62)) [] [] f fd) (hm : mg "_law_told" = some (.ref f)) (b_len : mg "len" = none) (m_own_along : mg "own_along" = some (.ref (He.ga K "own_along"))) (m_own_time : mg "own_time" = some (.ref (He.ga K "own_time"))) (B : kindB K = true) (x_MotionError : mg "MotionError" = some (.ref (He.ga K "MotionError"))) (E__law_kind_of : DefE P w K mg base "_law_kind_of" 1) (D_own_along : Def P w K mg base "own_along" 1 7 F_own_along) (D_own_time : Def P w K mg base "own_time" 2 6 F_own_time) :
    Def P w K mg base "_law_told" 2 8 F__law_told_11 := by
  have S : FnScope ["_law_ask", "_law_things", "_law_e"] ["_law_ask", "_law_things"] (defScope (top 62)) := ⟨rfl, rfl, rfl, by decide +kernel, rfl, by decide +kernel, by decide +kernel⟩
  refine def_of FD S rfl hm (FD.bindsN fun _ _ _ _ _ _ us hl => match us, hl with | [_, _], _ => rfl) (fun cdv A outer s H E hr => ?_) (fun xs st _ => .inr rfl)
  have tk : L2N.Takes (cxOf (L2N.CX P w) P w K mg base ["_law_ask", "_law_things", "_law_e"] "_law_told" (defScope (top 62)) f cdv A outer s H E) (fun cls d _ H => E cls d H) := L2N.takes_of rfl rfl rfl rfl
  have po := passes_of (X := cxOf (L2N.CX P w) P w K mg base ["_law_ask", "_law_things", "_law_e"] "_law_told" (defScope (top 62)) f cdv A outer s H E) rfl
  exact (ss_one (ss_try 2 B x_MotionError E__law_kind_of (hr.mono (by omega)) S.nd tk (fun W pn xe tk po => (ss_cons (ss_if (st_cmp (op_eqD hr.units) s_eq (se_bi call_len s_len zb_len b_len (sa_cons (se_var 1) sa_nil)) se_int) (ss_one (ss_ret (se_callV (k := 7) (xs := ["own_along"]) (defsAt_cons m_own_along D_own_along (by omega) defsAt_nil) (hr.mono (by omega)) tk (se_var 0) (sa_cons (se_ix ix_seq s_ix (se_var 1) se_int) sa_nil)))) ss_nil)
    (ss_one (ss_ret (se_callV (k := 7) (xs := ["own_time"]) (defsAt_cons m_own_time D_own_time (by omega) defsAt_nil) (hr.mono (by omega)) tk (se_var 0) (sa_cons (se_ix ix_seq s_ix (se_var 1) se_int) (sa_cons (se_ix ix_seq s_ix (se_var 1) se_int) sa_nil)))))))))

theorem d__law_word {P : Program} {w : World} {K : PySem.W.Frag} {mg : Str → Option Value} {base : Heap} {f : Addr} {fd : FuncData} (FD : FunD K "_law_word" "_law_word" (defArgs (top 51)) (defBody (top 51)) (defScope (top 51)) [] [] f fd) (hm : mg "_law_word" = some (.ref f)) (b_abs : mg "abs" = none) (b_int : mg "int" = none) (D__law_apart : Def P w K mg base "_law_apart" 2 3 F__law_apart) :
    Def P w K mg base "_law_word" 2 4 F__law_word := by
  have S : FnScope ["_law_one", "_law_other", "_law_by_time", "_law_by_place", "_law_time", "_law_place"] ["_law_one", "_law_other"] (defScope (top 51)) := ⟨rfl, rfl, rfl, by decide +kernel, rfl, by decide +kernel, by decide +kernel⟩
  refine def_of FD S rfl hm (FD.bindsN fun _ _ _ _ _ _ us hl => match us, hl with | [_, _], _ => rfl) (fun cdv A outer s H E hr => ?_) (fun xs st _ => .inr rfl)
  have tk : L2N.Takes (cxOf (L2N.CX P w) P w K mg base ["_law_one", "_law_other", "_law_by_time", "_law_by_place", "_law_time", "_law_place"] "_law_word" (defScope (top 51)) f cdv A outer s H E) (fun cls d _ H => E cls d H) := L2N.takes_of rfl rfl rfl rfl
  have po := passes_of (X := cxOf (L2N.CX P w) P w K mg base ["_law_one", "_law_other", "_law_by_time", "_law_by_place", "_law_time", "_law_place"] "_law_word" (defScope (top 51)) f cdv A outer s H E) rfl
  exact (ss_cons (ss_asg (is := [4, 5]) (se_call D__law_apart (hr.mono (by omega)) tk (sa_cons (se_var 0) (sa_cons (se_var 1) sa_nil))) (sg_tup rfl (sgs_cons (sg_name 4 S.nd) (sgs_cons (sg_name 5 S.nd) sgs_nil))))
    (ss_cons (ss_set 2 S.nd (se_bin op_mulW s_mul (se_ix ix_seq s_ix (se_var 4) se_int) (se_ix ix_seq s_ix (se_var 5) se_int)))
    (ss_cons (ss_set 3 S.nd (se_bi call_abs s_abs zb_abs b_abs (sa_cons (se_bin op_mulW s_mul (se_ix ix_seq s_ix (se_var 5) se_int) (se_ix ix_seq s_ix (se_var 4) se_int)) sa_nil)))
    (ss_cons (ss_if (st_cmp (op_eqD hr.units) s_eq (se_var 0) (se_var 1)) (ss_one (ss_ret se_str)) ss_nil)
    (ss_cons (ss_if (st_cmp op_lt s_lt (se_bi call_abs s_abs zb_abs b_abs (sa_cons (se_var 2) sa_nil)) (se_var 3)) (ss_one (ss_ret se_str)) ss_nil)
    (ss_one (ss_ret (se_ix ix_seq s_ix (se_lst (sa_cons se_str (sa_cons se_str sa_nil))) (se_bt call_int1 s_int1 zb_int b_int (sa_cons (se_cmp op_gt s_gt (se_var 2) se_int) sa_nil))))))))))

theorem d__law_root {P : Program} {w : World} {K : PySem.W.Frag} {mg : Str → Option Value} {base : Heap} {f : Addr} {fd : FuncData} (FD : FunD K "_law_root" "_law_root" (defArgs (top 54)) (defBody (top 54)) (defScope (top 54)) [] [] f fd) (hm : mg "_law_root" = some (.ref f))  :
    Def P w K mg base "_law_root" 1 1 F__law_root := by
  have S : FnScope ["_law_number", "_law_found", "_law_bit"] ["_law_number"] (defScope (top 54)) := ⟨rfl, rfl, rfl, by decide +kernel, rfl, by decide +kernel, by decide +kernel⟩
  refine def_of FD S rfl hm (FD.bindsN fun _ _ _ _ _ _ us hl => match us, hl with | [_], _ => rfl) (fun cdv A outer s H E hr => ?_) (fun xs st _ => .inr rfl)
  have tk : L2N.Takes (cxOf (L2N.CX P w) P w K mg base ["_law_number", "_law_found", "_law_bit"] "_law_root" (defScope (top 54)) f cdv A outer s H E) (fun cls d _ H => E cls d H) := L2N.takes_of rfl rfl rfl rfl
  have po := passes_of (X := cxOf (L2N.CX P w) P w K mg base ["_law_number", "_law_found", "_law_bit"] "_law_root" (defScope (top 54)) f cdv A outer s H E) rfl
  exact (ss_cons (ss_set 1 S.nd se_int)
    (ss_cons (ss_set 2 S.nd se_int)
    (ss_cons (ss_while (muI 0) po (st_cmp op_le s_le (se_bin op_mulW s_mul (se_var 2) (se_var 2)) (se_var 0)) (ss_one (ss_set 2 S.nd (se_bin op_mulW s_mul se_int (se_var 2)))))
    (ss_cons (ss_while (muI 2) po (st_cmp op_gt s_gt (se_var 2) se_int) (ss_cons (ss_if (st_cmp op_le s_le (se_bin op_mulW s_mul (se_bin o_add s_add (se_var 1) (se_var 2)) (se_bin o_add s_add (se_var 1) (se_var 2))) (se_var 0)) (ss_one (ss_set 1 S.nd (se_bin o_add s_add (se_var 1) (se_var 2)))) ss_nil)
    (ss_one (ss_set 2 S.nd (se_bin op_fdivG s_fdiv (se_var 2) se_int)))))
    (ss_one (ss_ret (se_var 1)))))))

theorem d__law_rooted {P : Program} {w : World} {K : PySem.W.Frag} {mg : Str → Option Value} {base : Heap} {f : Addr} {fd : FuncData} (FD : FunD K "_law_rooted" "_law_rooted" (defArgs (top 55)) (defBody (top 55)) (defScope (top 55)) [] [] f fd) (hm : mg "_law_rooted" = some (.ref f)) (D__law_root : Def P w K mg base "_law_root" 1 1 F__law_root) :
    Def P w K mg base "_law_rooted" 1 2 F__law_rooted := by
  have S : FnScope ["_law_one", "_law_top", "_law_bottom"] ["_law_one"] (defScope (top 55)) := ⟨rfl, rfl, rfl, by decide +kernel, rfl, by decide +kernel, by decide +kernel⟩
  refine def_of FD S rfl hm (FD.bindsN fun _ _ _ _ _ _ us hl => match us, hl with | [_], _ => rfl) (fun cdv A outer s H E hr => ?_) (fun xs st _ => .inr rfl)
  have tk : L2N.Takes (cxOf (L2N.CX P w) P w K mg base ["_law_one", "_law_top", "_law_bottom"] "_law_rooted" (defScope (top 55)) f cdv A outer s H E) (fun cls d _ H => E cls d H) := L2N.takes_of rfl rfl rfl rfl
  have po := passes_of (X := cxOf (L2N.CX P w) P w K mg base ["_law_one", "_law_top", "_law_bottom"] "_law_rooted" (defScope (top 55)) f cdv A outer s H E) rfl
  exact (ss_cons (ss_if (st_cmp op_lt s_lt (se_ix ix_seq s_ix (se_var 0) se_int) se_int) (ss_one (ss_ret se_non)) ss_nil)
    (ss_cons (ss_par 1 2 rfl S.nd (sa_cons (se_call D__law_root (hr.mono (by omega)) tk (sa_cons (se_ix ix_seq s_ix (se_var 0) se_int) sa_nil)) (sa_cons (se_call D__law_root (hr.mono (by omega)) tk (sa_cons (se_ix ix_seq s_ix (se_var 0) se_int) sa_nil)) sa_nil)))
    (ss_cons (ss_if (st_or (st_cmp (op_neD hr.units) s_ne (se_bin op_mulW s_mul (se_var 1) (se_var 1)) (se_ix ix_seq s_ix (se_var 0) se_int)) (st_or1 (st_cmp (op_neD hr.units) s_ne (se_bin op_mulW s_mul (se_var 2) (se_var 2)) (se_ix ix_seq s_ix (se_var 0) se_int)))).pt (ss_one (ss_ret se_non)) ss_nil)
    (ss_one (ss_ret (se_tup (sa_cons (se_var 1) (sa_cons (se_var 2) sa_nil))))))))

theorem d__law_plain_own {P : Program} {w : World} {K : PySem.W.Frag} {mg : Str → Option Value} {base : Heap} {f : Addr} {fd : FuncData} (FD : FunD K "_law_plain_own" "_law_plain_own" (defArgs (top 56)) (defBody (top 56)) (defScope (top 56)) [] [] f fd) (hm : mg "_law_plain_own" = some (.ref f)) (D__law_word : Def P w K mg base "_law_word" 2 4 F__law_word) (D__law_rooted : Def P w K mg base "_law_rooted" 1 2 F__law_rooted) (D__law_own : Def P w K mg base "_law_own" 2 4 F__law_own) :
    Def P w K mg base "_law_plain_own" 2 5 F__law_plain_own := by
  have S : FnScope ["_law_one", "_law_other"] ["_law_one", "_law_other"] (defScope (top 56)) := ⟨rfl, rfl, rfl, by decide +kernel, rfl, by decide +kernel, by decide +kernel⟩
  refine def_of FD S rfl hm (FD.bindsN fun _ _ _ _ _ _ us hl => match us, hl with | [_, _], _ => rfl) (fun cdv A outer s H E hr => ?_) (fun xs st _ => .inr rfl)
  have tk : L2N.Takes (cxOf (L2N.CX P w) P w K mg base ["_law_one", "_law_other"] "_law_plain_own" (defScope (top 56)) f cdv A outer s H E) (fun cls d _ H => E cls d H) := L2N.takes_of rfl rfl rfl rfl
  have po := passes_of (X := cxOf (L2N.CX P w) P w K mg base ["_law_one", "_law_other"] "_law_plain_own" (defScope (top 56)) f cdv A outer s H E) rfl
  exact (ss_cons (ss_if (st_cmp (op_neD hr.units) s_ne (se_call D__law_word (hr.mono (by omega)) tk (sa_cons (se_var 0) (sa_cons (se_var 1) sa_nil))) se_str) (ss_one (ss_ret se_non)) ss_nil)
    (ss_one (ss_ret (se_call D__law_rooted (hr.mono (by omega)) tk (sa_cons (se_call D__law_own (hr.mono (by omega)) tk (sa_cons (se_var 0) (sa_cons (se_var 1) sa_nil))) sa_nil)))))

theorem d__law_step_right {P : Program} {w : World} {K : PySem.W.Frag} {mg : Str → Option Value} {base : Heap} {f : Addr} {fd : FuncData} (FD : FunD K "_law_step_right" "_law_step_right" (defArgs (top 63)) (defBody (top 63)) (defScope (top 63)) [] [] f fd) (hm : mg "_law_step_right" = some (.ref f)) (m_own_time : mg "own_time" = some (.ref (He.ga K "own_time"))) (D__law_same : Def P w K mg base "_law_same" 2 3 F__law_same) (D_own_square : Def P w K mg base "own_square" 2 5 F_own_square) (D__law_own : Def P w K mg base "_law_own" 2 4 F__law_own) (D__law_told : Def P w K mg base "_law_told" 2 8 F__law_told_11) (D__law_word : Def P w K mg base "_law_word" 2 4 F__law_word) (D__law_plain_own : Def P w K mg base "_law_plain_own" 2 5 F__law_plain_own) :
    Def P w K mg base "_law_step_right" 2 9 F__law_step_right := by
  have S : FnScope ["_law_one", "_law_other", "_law_found", "_law_due"] ["_law_one", "_law_other"] (defScope (top 63)) := ⟨rfl, rfl, rfl, by decide +kernel, rfl, by decide +kernel, by decide +kernel⟩
  refine def_of FD S rfl hm (FD.bindsN fun _ _ _ _ _ _ us hl => match us, hl with | [_, _], _ => rfl) (fun cdv A outer s H E hr => ?_) (fun xs st _ => .inr rfl)
  have tk : L2N.Takes (cxOf (L2N.CX P w) P w K mg base ["_law_one", "_law_other", "_law_found", "_law_due"] "_law_step_right" (defScope (top 63)) f cdv A outer s H E) (fun cls d _ H => E cls d H) := L2N.takes_of rfl rfl rfl rfl
  have po := passes_of (X := cxOf (L2N.CX P w) P w K mg base ["_law_one", "_law_other", "_law_found", "_law_due"] "_law_step_right" (defScope (top 63)) f cdv A outer s H E) rfl
  exact (ss_cons (ss_if (st_not (st_val (se_call D__law_same (hr.mono (by omega)) tk (sa_cons (se_call D_own_square (hr.mono (by omega)) tk (sa_cons (se_var 0) (sa_cons (se_var 1) sa_nil))) (sa_cons (se_call D__law_own (hr.mono (by omega)) tk (sa_cons (se_var 0) (sa_cons (se_var 1) sa_nil))) sa_nil))))) (ss_one (ss_ret se_bl)) ss_nil)
    (ss_cons (ss_set 2 S.nd (se_call D__law_told (hr.mono (by omega)) tk (sa_cons (se_cls m_own_time) (sa_cons (se_lst (sa_cons (se_var 0) (sa_cons (se_var 1) sa_nil))) sa_nil))))
    (ss_cons (ss_if (st_cmp (op_neD hr.units) s_ne (se_call D__law_word (hr.mono (by omega)) tk (sa_cons (se_var 0) (sa_cons (se_var 1) sa_nil))) se_str) (ss_one (ss_ret (se_cmp (op_eqD hr.units) s_eq (se_var 2) se_str))) ss_nil)
    (ss_cons (ss_set 3 S.nd (se_call D__law_plain_own (hr.mono (by omega)) tk (sa_cons (se_var 0) (sa_cons (se_var 1) sa_nil))))
    (ss_one (ss_ret (se_if (st_cmp op_isN s_isN (se_var 3) se_non) (se_cmp (op_eqD hr.units) s_eq (se_var 2) se_str) (se_call D__law_same (hr.mono (by omega)) tk (sa_cons (se_var 2) (sa_cons (se_var 3) sa_nil))))))))))

theorem d__law_way_right {P : Program} {w : World} {K : PySem.W.Frag} {mg : Str → Option Value} {base : Heap} {f : Addr} {fd : FuncData} (FD : FunD K "_law_way_right" "_law_way_right" (defArgs (top 64)) (defBody (top 64)) (defScope (top 64)) [] [] f fd) (hm : mg "_law_way_right" = some (.ref f)) (b_range : mg "range" = none) (b_len : mg "len" = none) (b_list : mg "list" = none) (m_own_along : mg "own_along" = some (.ref (He.ga K "own_along"))) (D__law_plain_own : Def P w K mg base "_law_plain_own" 2 5 F__law_plain_own) (D__law_word : Def P w K mg base "_law_word" 2 4 F__law_word) (D__law_told : Def P w K mg base "_law_told" 2 8 F__law_told_11) (D__law_sum : Def P w K mg base "_law_sum" 2 2 F__law_sum) (D__law_same : Def P w K mg base "_law_same" 2 3 F__law_same) :
    Def P w K mg base "_law_way_right" 1 9 F__law_way_right := by
  have S : FnScope ["_law_way", "_law_due", "_law_place", "_law_handed", "_law_found", "_law_own_here"] ["_law_way"] (defScope (top 64)) := ⟨rfl, rfl, rfl, by decide +kernel, rfl, by decide +kernel, by decide +kernel⟩
  refine def_of FD S rfl hm (FD.bindsN fun _ _ _ _ _ _ us hl => match us, hl with | [_], _ => rfl) (fun cdv A outer s H E hr => ?_) (fun xs st _ => .inr rfl)
  have tk : L2N.Takes (cxOf (L2N.CX P w) P w K mg base ["_law_way", "_law_due", "_law_place", "_law_handed", "_law_found", "_law_own_here"] "_law_way_right" (defScope (top 64)) f cdv A outer s H E) (fun cls d _ H => E cls d H) := L2N.takes_of rfl rfl rfl rfl
  have po := passes_of (X := cxOf (L2N.CX P w) P w K mg base ["_law_way", "_law_due", "_law_place", "_law_handed", "_law_found", "_law_own_here"] "_law_way_right" (defScope (top 64)) f cdv A outer s H E) rfl
  exact (ss_cons (ss_set 1 S.nd (se_tup (sa_cons se_int (sa_cons se_int sa_nil))))
    (ss_cons (ss_for (is := [2]) po rfl (si_rng2 b_range (sa_cons se_int (sa_cons (se_bi call_len s_len zb_len b_len (sa_cons (se_var 0) sa_nil)) sa_nil))) (sg_name 2 S.nd) (ss_cons (ss_set 5 S.nd (se_call D__law_plain_own (hr.mono (by omega)) tk (sa_cons (se_ix ix_seq s_ix (se_var 0) (se_bin op_sub s_sub (se_var 2) se_int)) (sa_cons (se_ix ix_seq s_ix (se_var 0) (se_var 2)) sa_nil))))
    (ss_cons (ss_if (st_cmp (op_neD hr.units) s_ne (se_call D__law_word (hr.mono (by omega)) tk (sa_cons (se_ix ix_seq s_ix (se_var 0) (se_bin op_sub s_sub (se_var 2) se_int)) (sa_cons (se_ix ix_seq s_ix (se_var 0) (se_var 2)) sa_nil))) se_str) (ss_one (ss_ret (se_cmp (op_eqD hr.units) s_eq (se_call D__law_told (hr.mono (by omega)) tk (sa_cons (se_cls m_own_along) (sa_cons (se_lst (sa_cons (se_var 0) sa_nil)) sa_nil))) se_str))) ss_nil)
    (ss_one (ss_set 1 S.nd (se_if (st_or (st_cmp op_isN s_isN (se_var 5) se_non) (st_or1 (st_cmp op_isN s_isN (se_var 1) se_non))).pt se_non (se_call D__law_sum (hr.mono (by omega)) tk (sa_cons (se_var 1) (sa_cons (se_var 5) sa_nil)))))))))
    (ss_cons (ss_set 3 S.nd (se_bt call_list_of s_listof zb_list b_list (sa_cons (se_var 0) sa_nil)))
    (ss_cons (ss_set 4 S.nd (se_call D__law_told (hr.mono (by omega)) tk (sa_cons (se_cls m_own_along) (sa_cons (se_lst (sa_cons (se_var 3) sa_nil)) sa_nil))))
    (ss_one (ss_ret (se_and (se_cmp (op_eqD hr.units) s_eq (se_var 3) (se_var 0)) (se_and1 (se_vt (se_if (st_cmp op_isN s_isN (se_var 1) se_non) (se_cmp (op_eqD hr.units) s_eq (se_var 4) se_str) (se_call D__law_same (hr.mono (by omega)) tk (sa_cons (se_var 4) (sa_cons (se_var 1) sa_nil)))))))))))))

theorem d_law {P : Program} {w : World} {K : PySem.W.Frag} {mg : Str → Option Value} {base : Heap} {f : Addr} {fd : FuncData} (FD : FunD K "law" "law" (defArgs (top 66)) (defBody (top 66)) (defScope (top 66)) [] [] f fd) (hm : mg "law" = some (.ref f)) (b_range : mg "range" = none) (b_max : mg "max" = none) (b_min : mg "min" = none) (b_len : mg "len" = none) (b_all : mg "all" = none) (b_tuple : mg "tuple" = none) (m_own_along : mg "own_along" = some (.ref (He.ga K "own_along"))) (D__law_pot : Def P w K mg base "_law_pot" 1 1 F__law_pot) (D__law_cell_at : Def P w K mg base "_law_cell_at" 2 1 F__law_cell_at) (D__law_hap : Def P w K mg base "_law_hap" 1 2 F__law_hap) (D__law_take : Def P w K mg base "_law_take" 2 1 F__law_take) (D__law_on : Def P w K mg base "_law_on" 3 3 F__law_on) (D__law_step_right : Def P w K mg base "_law_step_right" 2 9 F__law_step_right) (D__law_way_right : Def P w K mg base "_law_way_right" 1 9 F__law_way_right) (D__law_told : Def P w K mg base "_law_told" 2 8 F__law_told_11) :
    FnOk P w K mg base (L2N.CX P w) 10 f fd ["_law_script"] (spF K 1 F_law_k61) := by
  have S : FnScope ["_law_script", "_law_number", "_law_pot_here", "_law_way", "_law_turn", "_law_some", "_law_thirteen", "_law_bad", "_law_one", "_law_other", "_law_k", "_law_pair"] ["_law_script"] (defScope (top 66)) := ⟨rfl, rfl, rfl, by decide +kernel, rfl, by decide +kernel, by decide +kernel⟩
  refine fnok_of FD S rfl hm (FD.bindsN fun _ _ _ _ _ _ us hl => match us, hl with | [_], _ => rfl) (fun cdv A outer s H E hr => ?_) (fun xs st _ => .inr rfl)
  have tk : L2N.Takes (cxOf (L2N.CX P w) P w K mg base ["_law_script", "_law_number", "_law_pot_here", "_law_way", "_law_turn", "_law_some", "_law_thirteen", "_law_bad", "_law_one", "_law_other", "_law_k", "_law_pair"] "law" (defScope (top 66)) f cdv A outer s H E) (fun cls d _ H => E cls d H) := L2N.takes_of rfl rfl rfl rfl
  have po := passes_of (X := cxOf (L2N.CX P w) P w K mg base ["_law_script", "_law_number", "_law_pot_here", "_law_way", "_law_turn", "_law_some", "_law_thirteen", "_law_bad", "_law_one", "_law_other", "_law_k", "_law_pair"] "law" (defScope (top 66)) f cdv A outer s H E) rfl
  exact (ss_cons (ss_for (is := [1]) po rfl (si_rng1 b_range (se_bi (call_max2 rfl) s_max2 zb_max b_max (sa_cons se_int (sa_cons (se_bi (call_min2 rfl) s_min2 zb_min b_min (sa_cons (se_bi call_len s_len zb_len b_len (sa_cons (se_var 0) sa_nil)) (sa_cons se_int sa_nil))) sa_nil)))) (sg_name 1 S.nd) (ss_cons (ss_set 2 S.nd (se_call D__law_pot (hr.mono (by omega)) tk (sa_cons (se_call D__law_cell_at (hr.mono (by omega)) tk (sa_cons (se_var 0) (sa_cons (se_var 1) sa_nil))) sa_nil)))
    (ss_cons (ss_par 8 9 rfl S.nd (sa_cons (se_call D__law_hap (hr.mono (by omega)) tk (sa_cons (se_var 2) sa_nil)) (sa_cons (se_call D__law_hap (hr.mono (by omega)) tk (sa_cons (se_var 2) sa_nil)) sa_nil)))
    (ss_cons (ss_set 3 S.nd (se_new (sa_cons (se_var 8) sa_nil)))
    (ss_cons (ss_for (is := [4]) po rfl (si_rng1 b_range (se_bin o_add s_add se_int (se_call D__law_take (hr.mono (by omega)) tk (sa_cons (se_var 2) (sa_cons se_int sa_nil))))) (sg_name 4 S.nd) (ss_one (ss_expr (se_m PySem.F.plainAttrs_list PySem.F.slot_list_append PySem.F.type_list_append mt_append s_append n_append (se_var 3) (sa_cons (se_call D__law_on (hr.mono (by omega)) tk (sa_cons (se_var 2) (sa_cons (se_ix ix_seq s_ix (se_var 3) (se_un un_neg s_neg se_int)) (sa_cons (se_ix ix_seq s_ix (se_lst (sa_cons se_int (sa_cons se_int (sa_cons se_int (sa_cons se_int (sa_cons se_int (sa_cons se_int (sa_cons se_int (sa_cons (se_call D__law_take (hr.mono (by omega)) tk (sa_cons (se_var 2) (sa_cons se_int sa_nil))) sa_nil))))))))) (se_call D__law_take (hr.mono (by omega)) tk (sa_cons (se_var 2) (sa_cons se_int sa_nil)))) sa_nil)))) sa_nil)))))
    (ss_cons (ss_set 5 S.nd (se_lst (sa_cons (se_tup (sa_cons (se_var 8) (sa_cons (se_var 9) sa_nil))) (sa_cons (se_tup (sa_cons (se_var 9) (sa_cons (se_var 8) sa_nil))) (sa_cons (se_tup (sa_cons (se_ix ix_seq s_ix (se_var 3) se_int) (sa_cons (se_ix ix_seq s_ix (se_var 3) se_int) sa_nil))) (sa_cons (se_tup (sa_cons (se_ix ix_seq s_ix (se_var 3) se_int) (sa_cons (se_ix ix_seq s_ix (se_var 3) (se_un un_neg s_neg se_int)) sa_nil))) (sa_cons (se_tup (sa_cons (se_var 8) (sa_cons (se_var 8) sa_nil))) sa_nil)))))))
    (ss_cons (ss_if (st_or (st_not (st_val (se_bi (cr_all rfl) s_all zb_all b_all (sa_cons (se_comp [("_law_pair", 11)] rfl S.nd (si_list (se_var 5)) (blkOk_by (by show blkC ["_law_script", "_law_number", "_law_pot_here", "_law_way", "_law_turn", "_law_some", "_law_thirteen", "_law_bad", "_law_one", "_law_other", "_law_k", "_law_pair"] (defScope (top 66)) _ _ = true; decide +kernel)) (fun _ _ _ _ _ => (sg_name 11 S.nd)) (fun _ _ _ _ _ => tt_nil) (fun _ _ _ _ _ => (se_call D__law_step_right (hr.mono (by omega)) takes0N (sa_cons (se_ix ix_seq s_ix (se_var 11) se_int) (sa_cons (se_ix ix_seq s_ix (se_var 11) se_int) sa_nil))))) sa_nil)))) (st_or1 (st_not (st_val (se_lend D__law_way_right (hr.mono (by omega)) tk (sa_cons (se_var 3) sa_nil)))))).pt (ss_one (ss_ret se_bl)) ss_nil)
    (ss_cons (ss_setC (i := 6) [("_law_k", 10)] rfl S.nd rfl rfl (sw_true rfl rfl rfl (by decide +kernel)) (si_rng1 b_range se_int) (blkOk_by (by show blkC ["_law_script", "_law_number", "_law_pot_here", "_law_way", "_law_turn", "_law_some", "_law_thirteen", "_law_bad", "_law_one", "_law_other", "_law_k", "_law_pair"] (defScope (top 66)) _ _ = true; decide +kernel)) (fun _ _ _ _ _ => (sg_name 10 S.nd)) (fun _ _ _ _ _ => tt_nil) (fun _ _ _ _ _ => (se_tup (sa_cons (se_tup (sa_cons (se_var 10) (sa_cons se_int sa_nil))) (sa_cons (se_tup (sa_cons se_int (sa_cons se_int sa_nil))) sa_nil)))))
    (ss_cons (ss_set 7 S.nd (se_lst (sa_cons (se_lst sa_nil) (sa_cons (se_slN (se_var 3) po_nil po_one) (sa_cons (se_var 6) (sa_cons (se_bt call_tuple_of s_tupleof zb_tuple b_tuple (sa_cons (se_var 3) sa_nil)) (sa_cons (se_cat (se_slN (se_var 3) po_nil po_one) (se_new (sa_cons se_non sa_nil))) (sa_cons se_non (sa_cons se_int (sa_cons se_str (sa_cons se_dnew (sa_cons (se_lst (sa_cons (se_var 3) sa_nil)) (sa_cons (se_revN (se_slN (se_var 3) po_nil po_one)) sa_nil)))))))))))))
    (ss_one (ss_if (st_or (st_cmp (op_neD hr.units) s_ne (se_lend D__law_told (hr.mono (by omega)) tk (sa_cons (se_cls m_own_along) (sa_cons (se_lst (sa_cons (se_ix ix_seq s_ix (se_var 7) (se_call D__law_take (hr.mono (by omega)) tk (sa_cons (se_var 2) (sa_cons se_int sa_nil)))) sa_nil)) sa_nil))) se_str) (st_or1 (st_not (st_val (se_lend D__law_way_right (hr.mono (by omega)) tk (sa_cons (se_cat (se_slN (se_var 3) po_nil po_one) (se_new (sa_cons (se_var 9) sa_nil))) sa_nil)))))).pt (ss_one (ss_ret se_bl)) ss_nil)))))))))))
    (ss_one (ss_ret se_bl)))

def dd (i : Nat) (x : Str) : He.DefD := ⟨(x, none), x, x, defArgs (top i), defBody (top i), defScope (top i), [], []⟩
def fn_0 : List He.DefD := [dd 45 "_law_pot", dd 44 "_law_cell_at", dd 46 "_law_take", dd 47 "_law_low", dd 48 "_law_hap", dd 57 "_law_sum", dd 65 "_law_on", dd 58 "_law_whole", dd 59 "_law_good", dd 60 "_law_same", dd 23 "common", dd 25 "fraction", dd 27 "less", dd 35 "lapse_and_gap", dd 28 "times", dd 39 "own_square", dd 49 "_law_gap", dd 50 "_law_apart", dd 52 "_law_prod", dd 53 "_law_own", dd 22 "is_whole", dd 24 "is_fraction", dd 33 "is_hap", dd 29 "is_less", dd 36 "kind_of", dd 41 "is_way", dd 26 "plus", dd 30 "root_below", dd 31 "root_of", dd 40 "own_time"]
def fn_1 : List He.DefD := [dd 42 "own_along", dd 61 "_law_kind_of", dd 62 "_law_told", dd 51 "_law_word", dd 54 "_law_root", dd 55 "_law_rooted", dd 56 "_law_plain_own", dd 63 "_law_step_right", dd 64 "_law_way_right", dd 66 "law"]
def fn : List He.DefD := fn_0 ++ fn_1

def fa_0 : List He.Fa := [.glo "_law_pot", .glo "_law_cell_at", .glo "_law_take", .glo "_law_low", .glo "_law_hap", .glo "_law_sum", .glo "_law_on", .glo "_law_whole", .glo "_law_good", .glo "_law_same", .glo "common", .glo "fraction", .glo "less", .glo "lapse_and_gap", .glo "times", .glo "own_square", .glo "_law_gap", .glo "_law_apart", .glo "_law_prod", .glo "_law_own", .glo "is_whole", .glo "is_fraction", .glo "is_hap", .glo "is_less", .glo "kind_of", .glo "is_way", .glo "plus", .glo "root_below", .glo "root_of", .glo "own_time"]
def fa_1 : List He.Fa := [.glo "own_along", .glo "_law_kind_of", .glo "_law_told", .glo "_law_word", .glo "_law_root", .glo "_law_rooted", .glo "_law_plain_own", .glo "_law_step_right", .glo "_law_way_right", .glo "law", .free "range", .free "len", .free "abs", .free "isinstance", .free "int", .free "bool", .free "tuple", .free "list", .free "all", .free "ValueError", .free "max", .free "min", .glo "NoDeed", .glo "NoFlash", .glo "NoFraction", .glo "NoHap", .glo "NoHaps", .glo "NoName", .glo "NoNumber", .glo "NoOrder"]
def fa_2 : List He.Fa := [.glo "NoRod", .glo "NoRow", .glo "NoSeat", .glo "NoSpeed", .glo "NoStep", .glo "NoStretch", .glo "NoText", .glo "NotPlain", .glo "NoWay", .glo "TooMany", .glo "MotionError", .exc "NoFraction", .exc "NoStep", .exc "NotPlain", .int "MOST_ON_WAY" 12, .glo "NOUGHT"]
def fa : List He.Fa := fa_0 ++ fa_1 ++ fa_2

def loose_0 : List Str := ["MotionError", "NoFraction", "NoHap", "NoText", "NoSpeed", "TooMany", "NotPlain", "NoStretch", "NoHaps", "NoOrder", "NoStep", "NoNumber", "NoSeat", "NoRod", "NoWay", "NoFlash", "NoName", "NoDeed", "NoRow", "NOUGHT", "is_whole", "common", "is_fraction", "fraction", "plus", "less", "times", "is_less", "root_below", "root_of"]
def loose_1 : List Str := ["is_hap", "lapse_and_gap", "kind_of", "MOST_ON_WAY", "own_square", "own_time", "is_way", "own_along", "_law_cell_at", "_law_pot", "_law_take", "_law_low", "_law_hap", "_law_gap", "_law_apart", "_law_word", "_law_prod", "_law_own", "_law_root", "_law_rooted", "_law_plain_own", "_law_sum", "_law_whole", "_law_good", "_law_same", "_law_kind_of", "_law_told", "_law_step_right", "_law_way_right", "_law_on"]
def loose : List Str := loose_0 ++ loose_1

def ex (K : PySem.W.Frag) : Bool := (kindB K && (He.tupB K "NOUGHT" ([0, 1].map .int) && true))
abbrev Rw : PySem.W.OpenRow := PySem.W.OpenLaw.row PySem.Challenge.rw_seatclocks_k61_own_times
abbrev hk : PySem.W.Hook := He.hookX 4 fa fn [] [] ex
def obs (s : PySem.W.SharedT) : He.AlX := He.obsX 4 fa fn [] [] ex (HandSHeadRun.getT s)
theorem obs_eq (s : PySem.W.SharedT) : obs s = hk.obs s.abs := He.obsX_eq (HandSHeadRun.getT_eq s)
set_option maxHeartbeats 0 in
theorem run (w : World) : HandSHeadRun.RunEq Rw (PySem.W.view Rw.prog [66]) hk obs 8000 loose w := by
  intro os
  kernel_rfl
theorem lawOk {P : Program} {w : World} {K : PySem.W.Frag} {mg : Str → Option Value} {base : Heap} {f : Addr} {fd : FuncData} (X : K.In base) (G : base.Ns mainGlobals mg) (c : He.SaysD fa fn K) (hx0 : ex K = true)
    (FD : FunD K "law" "law" (defArgs (top 66)) (defBody (top 66)) (defScope (top 66)) [] [] f fd) (hm : mg "law" = some (.ref f)) : FnOk P w K mg base (L2N.CX P w) 10 f fd ["_law_script"] (spF K 1 F_law_k61) := by
  have hx : ((kindB K && (He.tupB K "NOUGHT" ([0, 1].map .int) && true))) = true := hx0
  have m__law_pot : mg "_law_pot" = some (.ref (He.ga K "_law_pot")) := He.glo_ok X G (c.fact 0 (f := .glo "_law_pot") rfl)
  have m__law_cell_at : mg "_law_cell_at" = some (.ref (He.ga K "_law_cell_at")) := He.glo_ok X G (c.fact 1 (f := .glo "_law_cell_at") rfl)
  have m__law_take : mg "_law_take" = some (.ref (He.ga K "_law_take")) := He.glo_ok X G (c.fact 2 (f := .glo "_law_take") rfl)
  have m__law_low : mg "_law_low" = some (.ref (He.ga K "_law_low")) := He.glo_ok X G (c.fact 3 (f := .glo "_law_low") rfl)
  have m__law_hap : mg "_law_hap" = some (.ref (He.ga K "_law_hap")) := He.glo_ok X G (c.fact 4 (f := .glo "_law_hap") rfl)
  have m__law_sum : mg "_law_sum" = some (.ref (He.ga K "_law_sum")) := He.glo_ok X G (c.fact 5 (f := .glo "_law_sum") rfl)
  have m__law_on : mg "_law_on" = some (.ref (He.ga K "_law_on")) := He.glo_ok X G (c.fact 6 (f := .glo "_law_on") rfl)
  have m__law_whole : mg "_law_whole" = some (.ref (He.ga K "_law_whole")) := He.glo_ok X G (c.fact 7 (f := .glo "_law_whole") rfl)
  have m__law_good : mg "_law_good" = some (.ref (He.ga K "_law_good")) := He.glo_ok X G (c.fact 8 (f := .glo "_law_good") rfl)
  have m__law_same : mg "_law_same" = some (.ref (He.ga K "_law_same")) := He.glo_ok X G (c.fact 9 (f := .glo "_law_same") rfl)
  have m_common : mg "common" = some (.ref (He.ga K "common")) := He.glo_ok X G (c.fact 10 (f := .glo "common") rfl)
  have m_fraction : mg "fraction" = some (.ref (He.ga K "fraction")) := He.glo_ok X G (c.fact 11 (f := .glo "fraction") rfl)
  have m_less : mg "less" = some (.ref (He.ga K "less")) := He.glo_ok X G (c.fact 12 (f := .glo "less") rfl)
  have m_lapse_and_gap : mg "lapse_and_gap" = some (.ref (He.ga K "lapse_and_gap")) := He.glo_ok X G (c.fact 13 (f := .glo "lapse_and_gap") rfl)
  have m_times : mg "times" = some (.ref (He.ga K "times")) := He.glo_ok X G (c.fact 14 (f := .glo "times") rfl)
  have m_own_square : mg "own_square" = some (.ref (He.ga K "own_square")) := He.glo_ok X G (c.fact 15 (f := .glo "own_square") rfl)
  have m__law_gap : mg "_law_gap" = some (.ref (He.ga K "_law_gap")) := He.glo_ok X G (c.fact 16 (f := .glo "_law_gap") rfl)
  have m__law_apart : mg "_law_apart" = some (.ref (He.ga K "_law_apart")) := He.glo_ok X G (c.fact 17 (f := .glo "_law_apart") rfl)
  have m__law_prod : mg "_law_prod" = some (.ref (He.ga K "_law_prod")) := He.glo_ok X G (c.fact 18 (f := .glo "_law_prod") rfl)
  have m__law_own : mg "_law_own" = some (.ref (He.ga K "_law_own")) := He.glo_ok X G (c.fact 19 (f := .glo "_law_own") rfl)
  have m_is_whole : mg "is_whole" = some (.ref (He.ga K "is_whole")) := He.glo_ok X G (c.fact 20 (f := .glo "is_whole") rfl)
  have m_is_fraction : mg "is_fraction" = some (.ref (He.ga K "is_fraction")) := He.glo_ok X G (c.fact 21 (f := .glo "is_fraction") rfl)
  have m_is_hap : mg "is_hap" = some (.ref (He.ga K "is_hap")) := He.glo_ok X G (c.fact 22 (f := .glo "is_hap") rfl)
  have m_is_less : mg "is_less" = some (.ref (He.ga K "is_less")) := He.glo_ok X G (c.fact 23 (f := .glo "is_less") rfl)
  have m_kind_of : mg "kind_of" = some (.ref (He.ga K "kind_of")) := He.glo_ok X G (c.fact 24 (f := .glo "kind_of") rfl)
  have m_is_way : mg "is_way" = some (.ref (He.ga K "is_way")) := He.glo_ok X G (c.fact 25 (f := .glo "is_way") rfl)
  have m_plus : mg "plus" = some (.ref (He.ga K "plus")) := He.glo_ok X G (c.fact 26 (f := .glo "plus") rfl)
  have m_root_below : mg "root_below" = some (.ref (He.ga K "root_below")) := He.glo_ok X G (c.fact 27 (f := .glo "root_below") rfl)
  have m_root_of : mg "root_of" = some (.ref (He.ga K "root_of")) := He.glo_ok X G (c.fact 28 (f := .glo "root_of") rfl)
  have m_own_time : mg "own_time" = some (.ref (He.ga K "own_time")) := He.glo_ok X G (c.fact 29 (f := .glo "own_time") rfl)
  have m_own_along : mg "own_along" = some (.ref (He.ga K "own_along")) := He.glo_ok X G (c.fact 30 (f := .glo "own_along") rfl)
  have m__law_kind_of : mg "_law_kind_of" = some (.ref (He.ga K "_law_kind_of")) := He.glo_ok X G (c.fact 31 (f := .glo "_law_kind_of") rfl)
  have m__law_told : mg "_law_told" = some (.ref (He.ga K "_law_told")) := He.glo_ok X G (c.fact 32 (f := .glo "_law_told") rfl)
  have m__law_word : mg "_law_word" = some (.ref (He.ga K "_law_word")) := He.glo_ok X G (c.fact 33 (f := .glo "_law_word") rfl)
  have m__law_root : mg "_law_root" = some (.ref (He.ga K "_law_root")) := He.glo_ok X G (c.fact 34 (f := .glo "_law_root") rfl)
  have m__law_rooted : mg "_law_rooted" = some (.ref (He.ga K "_law_rooted")) := He.glo_ok X G (c.fact 35 (f := .glo "_law_rooted") rfl)
  have m__law_plain_own : mg "_law_plain_own" = some (.ref (He.ga K "_law_plain_own")) := He.glo_ok X G (c.fact 36 (f := .glo "_law_plain_own") rfl)
  have m__law_step_right : mg "_law_step_right" = some (.ref (He.ga K "_law_step_right")) := He.glo_ok X G (c.fact 37 (f := .glo "_law_step_right") rfl)
  have m__law_way_right : mg "_law_way_right" = some (.ref (He.ga K "_law_way_right")) := He.glo_ok X G (c.fact 38 (f := .glo "_law_way_right") rfl)
  have m_law : mg "law" = some (.ref (He.ga K "law")) := He.glo_ok X G (c.fact 39 (f := .glo "law") rfl)
  have b_range : mg "range" = none := He.free_ok X G (c.fact 40 (f := .free "range") rfl)
  have b_len : mg "len" = none := He.free_ok X G (c.fact 41 (f := .free "len") rfl)
  have b_abs : mg "abs" = none := He.free_ok X G (c.fact 42 (f := .free "abs") rfl)
  have b_isinstance : mg "isinstance" = none := He.free_ok X G (c.fact 43 (f := .free "isinstance") rfl)
  have b_int : mg "int" = none := He.free_ok X G (c.fact 44 (f := .free "int") rfl)
  have b_bool : mg "bool" = none := He.free_ok X G (c.fact 45 (f := .free "bool") rfl)
  have b_tuple : mg "tuple" = none := He.free_ok X G (c.fact 46 (f := .free "tuple") rfl)
  have b_list : mg "list" = none := He.free_ok X G (c.fact 47 (f := .free "list") rfl)
  have b_all : mg "all" = none := He.free_ok X G (c.fact 48 (f := .free "all") rfl)
  have b_ValueError : mg "ValueError" = none := He.free_ok X G (c.fact 49 (f := .free "ValueError") rfl)
  have b_max : mg "max" = none := He.free_ok X G (c.fact 50 (f := .free "max") rfl)
  have b_min : mg "min" = none := He.free_ok X G (c.fact 51 (f := .free "min") rfl)
  have k_NoDeed : mg "NoDeed" = some (.ref (He.ga K "NoDeed")) := He.glo_ok X G (c.fact 52 (f := .glo "NoDeed") rfl)
  have k_NoFlash : mg "NoFlash" = some (.ref (He.ga K "NoFlash")) := He.glo_ok X G (c.fact 53 (f := .glo "NoFlash") rfl)
  have k_NoFraction : mg "NoFraction" = some (.ref (He.ga K "NoFraction")) := He.glo_ok X G (c.fact 54 (f := .glo "NoFraction") rfl)
  have k_NoHap : mg "NoHap" = some (.ref (He.ga K "NoHap")) := He.glo_ok X G (c.fact 55 (f := .glo "NoHap") rfl)
  have k_NoHaps : mg "NoHaps" = some (.ref (He.ga K "NoHaps")) := He.glo_ok X G (c.fact 56 (f := .glo "NoHaps") rfl)
  have k_NoName : mg "NoName" = some (.ref (He.ga K "NoName")) := He.glo_ok X G (c.fact 57 (f := .glo "NoName") rfl)
  have k_NoNumber : mg "NoNumber" = some (.ref (He.ga K "NoNumber")) := He.glo_ok X G (c.fact 58 (f := .glo "NoNumber") rfl)
  have k_NoOrder : mg "NoOrder" = some (.ref (He.ga K "NoOrder")) := He.glo_ok X G (c.fact 59 (f := .glo "NoOrder") rfl)
  have k_NoRod : mg "NoRod" = some (.ref (He.ga K "NoRod")) := He.glo_ok X G (c.fact 60 (f := .glo "NoRod") rfl)
  have k_NoRow : mg "NoRow" = some (.ref (He.ga K "NoRow")) := He.glo_ok X G (c.fact 61 (f := .glo "NoRow") rfl)
  have k_NoSeat : mg "NoSeat" = some (.ref (He.ga K "NoSeat")) := He.glo_ok X G (c.fact 62 (f := .glo "NoSeat") rfl)
  have k_NoSpeed : mg "NoSpeed" = some (.ref (He.ga K "NoSpeed")) := He.glo_ok X G (c.fact 63 (f := .glo "NoSpeed") rfl)
  have k_NoStep : mg "NoStep" = some (.ref (He.ga K "NoStep")) := He.glo_ok X G (c.fact 64 (f := .glo "NoStep") rfl)
  have k_NoStretch : mg "NoStretch" = some (.ref (He.ga K "NoStretch")) := He.glo_ok X G (c.fact 65 (f := .glo "NoStretch") rfl)
  have k_NoText : mg "NoText" = some (.ref (He.ga K "NoText")) := He.glo_ok X G (c.fact 66 (f := .glo "NoText") rfl)
  have k_NotPlain : mg "NotPlain" = some (.ref (He.ga K "NotPlain")) := He.glo_ok X G (c.fact 67 (f := .glo "NotPlain") rfl)
  have k_NoWay : mg "NoWay" = some (.ref (He.ga K "NoWay")) := He.glo_ok X G (c.fact 68 (f := .glo "NoWay") rfl)
  have k_TooMany : mg "TooMany" = some (.ref (He.ga K "TooMany")) := He.glo_ok X G (c.fact 69 (f := .glo "TooMany") rfl)
  have k_MotionError : mg "MotionError" = some (.ref (He.ga K "MotionError")) := He.glo_ok X G (c.fact 70 (f := .glo "MotionError") rfl)
  have B : kindB K = true := (He.ba hx).1
  have x_NoFraction : ExcF K mg "NoFraction" := excF_of k_NoFraction (c.fact 71 (f := .exc "NoFraction") rfl)
  have x_NoStep : ExcF K mg "NoStep" := excF_of k_NoStep (c.fact 72 (f := .exc "NoStep") rfl)
  have x_NotPlain : ExcF K mg "NotPlain" := excF_of k_NotPlain (c.fact 73 (f := .exc "NotPlain") rfl)
  have c_MOST_ON_WAY : Con K mg "MOST_ON_WAY" (.int 12) := con_int (He.int_ok X G (c.fact 74 (f := .int "MOST_ON_WAY" 12) rfl))
  have c_NOUGHT : Con K mg "NOUGHT" (.tup [(.int 0), (.int 1)]) := con_tup [0, 1] (He.glo_ok X G (c.fact 75 (f := .glo "NOUGHT") rfl)) (He.ba (He.ba hx).2).1
  obtain ⟨fd__law_pot, FD__law_pot⟩ := c.def_ 0 (d := dd 45 "_law_pot") rfl
  have D__law_pot := d__law_pot (P := P) (w := w) (base := base) FD__law_pot m__law_pot b_range
  obtain ⟨fd__law_cell_at, FD__law_cell_at⟩ := c.def_ 1 (d := dd 44 "_law_cell_at") rfl
  have D__law_cell_at := d__law_cell_at (P := P) (w := w) (base := base) FD__law_cell_at m__law_cell_at b_len
  obtain ⟨fd__law_take, FD__law_take⟩ := c.def_ 2 (d := dd 46 "_law_take") rfl
  have D__law_take := d__law_take (P := P) (w := w) (base := base) FD__law_take m__law_take
  obtain ⟨fd__law_low, FD__law_low⟩ := c.def_ 3 (d := dd 47 "_law_low") rfl
  have D__law_low := d__law_low (P := P) (w := w) (base := base) FD__law_low m__law_low b_abs
  obtain ⟨fd__law_hap, FD__law_hap⟩ := c.def_ 4 (d := dd 48 "_law_hap") rfl
  have D__law_hap := d__law_hap (P := P) (w := w) (base := base) FD__law_hap m__law_hap D__law_take D__law_low
  obtain ⟨fd__law_sum, FD__law_sum⟩ := c.def_ 5 (d := dd 57 "_law_sum") rfl
  have D__law_sum := d__law_sum (P := P) (w := w) (base := base) FD__law_sum m__law_sum D__law_low
  obtain ⟨fd__law_on, FD__law_on⟩ := c.def_ 6 (d := dd 65 "_law_on") rfl
  have D__law_on := d__law_on (P := P) (w := w) (base := base) FD__law_on m__law_on D__law_take D__law_sum
  obtain ⟨fd__law_whole, FD__law_whole⟩ := c.def_ 7 (d := dd 58 "_law_whole") rfl
  have D__law_whole := d__law_whole (P := P) (w := w) (base := base) FD__law_whole m__law_whole b_isinstance b_int b_bool
  obtain ⟨fd__law_good, FD__law_good⟩ := c.def_ 8 (d := dd 59 "_law_good") rfl
  have D__law_good := d__law_good (P := P) (w := w) (base := base) FD__law_good m__law_good b_isinstance b_tuple b_len D__law_whole D__law_low
  obtain ⟨fd__law_same, FD__law_same⟩ := c.def_ 9 (d := dd 60 "_law_same") rfl
  have D__law_same := d__law_same (P := P) (w := w) (base := base) FD__law_same m__law_same D__law_good
  obtain ⟨fd_common, FD_common⟩ := c.def_ 10 (d := dd 23 "common") rfl
  have D_common := d_common (P := P) (w := w) (base := base) FD_common m_common b_abs
  obtain ⟨fd_fraction, FD_fraction⟩ := c.def_ 11 (d := dd 25 "fraction") rfl
  have D_fraction := d_fraction (P := P) (w := w) (base := base) FD_fraction m_fraction x_NoFraction D_common
  obtain ⟨fd_less, FD_less⟩ := c.def_ 12 (d := dd 27 "less") rfl
  have D_less := d_less (P := P) (w := w) (base := base) FD_less m_less D_fraction
  obtain ⟨fd_lapse_and_gap, FD_lapse_and_gap⟩ := c.def_ 13 (d := dd 35 "lapse_and_gap") rfl
  have D_lapse_and_gap := d_lapse_and_gap (P := P) (w := w) (base := base) FD_lapse_and_gap m_lapse_and_gap D_less
  obtain ⟨fd_times, FD_times⟩ := c.def_ 14 (d := dd 28 "times") rfl
  have D_times := d_times (P := P) (w := w) (base := base) FD_times m_times D_fraction
  obtain ⟨fd_own_square, FD_own_square⟩ := c.def_ 15 (d := dd 39 "own_square") rfl
  have D_own_square := d_own_square (P := P) (w := w) (base := base) FD_own_square m_own_square D_lapse_and_gap D_less D_times
  obtain ⟨fd__law_gap, FD__law_gap⟩ := c.def_ 16 (d := dd 49 "_law_gap") rfl
  have D__law_gap := d__law_gap (P := P) (w := w) (base := base) FD__law_gap m__law_gap D__law_low
  obtain ⟨fd__law_apart, FD__law_apart⟩ := c.def_ 17 (d := dd 50 "_law_apart") rfl
  have D__law_apart := d__law_apart (P := P) (w := w) (base := base) FD__law_apart m__law_apart D__law_gap
  obtain ⟨fd__law_prod, FD__law_prod⟩ := c.def_ 18 (d := dd 52 "_law_prod") rfl
  have D__law_prod := d__law_prod (P := P) (w := w) (base := base) FD__law_prod m__law_prod D__law_low
  obtain ⟨fd__law_own, FD__law_own⟩ := c.def_ 19 (d := dd 53 "_law_own") rfl
  have D__law_own := d__law_own (P := P) (w := w) (base := base) FD__law_own m__law_own D__law_apart D__law_gap D__law_prod
  obtain ⟨fd_is_whole, FD_is_whole⟩ := c.def_ 20 (d := dd 22 "is_whole") rfl
  have D_is_whole := d_is_whole (P := P) (w := w) (base := base) FD_is_whole m_is_whole b_isinstance b_int b_bool
  obtain ⟨fd_is_fraction, FD_is_fraction⟩ := c.def_ 21 (d := dd 24 "is_fraction") rfl
  have D_is_fraction := d_is_fraction (P := P) (w := w) (base := base) FD_is_fraction m_is_fraction b_isinstance b_tuple b_len D_is_whole D_common
  obtain ⟨fd_is_hap, FD_is_hap⟩ := c.def_ 22 (d := dd 33 "is_hap") rfl
  have D_is_hap := d_is_hap (P := P) (w := w) (base := base) FD_is_hap m_is_hap b_isinstance b_tuple b_len D_is_fraction
  obtain ⟨fd_is_less, FD_is_less⟩ := c.def_ 23 (d := dd 29 "is_less") rfl
  have D_is_less := d_is_less (P := P) (w := w) (base := base) FD_is_less m_is_less
  obtain ⟨fd_kind_of, FD_kind_of⟩ := c.def_ 24 (d := dd 36 "kind_of") rfl
  have D_kind_of := d_kind_of (P := P) (w := w) (base := base) FD_kind_of m_kind_of b_abs D_lapse_and_gap D_is_less
  obtain ⟨fd_is_way, FD_is_way⟩ := c.def_ 25 (d := dd 41 "is_way") rfl
  have D_is_way := d_is_way (P := P) (w := w) (base := base) FD_is_way m_is_way b_isinstance b_list b_len b_all b_range c_MOST_ON_WAY D_is_hap D_kind_of
  obtain ⟨fd_plus, FD_plus⟩ := c.def_ 26 (d := dd 26 "plus") rfl
  have D_plus := d_plus (P := P) (w := w) (base := base) FD_plus m_plus D_fraction
  obtain ⟨fd_root_below, FD_root_below⟩ := c.def_ 27 (d := dd 30 "root_below") rfl
  have D_root_below := d_root_below (P := P) (w := w) (base := base) FD_root_below m_root_below
  obtain ⟨fd_root_of, FD_root_of⟩ := c.def_ 28 (d := dd 31 "root_of") rfl
  have D_root_of := d_root_of (P := P) (w := w) (base := base) FD_root_of m_root_of D_root_below
  obtain ⟨fd_own_time, FD_own_time⟩ := c.def_ 29 (d := dd 40 "own_time") rfl
  have D_own_time := d_own_time (P := P) (w := w) (base := base) FD_own_time m_own_time x_NoStep x_NotPlain D_is_hap D_kind_of D_root_of D_own_square
  obtain ⟨fd_own_along, FD_own_along⟩ := c.def_ 30 (d := dd 42 "own_along") rfl
  have D_own_along := d_own_along (P := P) (w := w) (base := base) FD_own_along m_own_along b_range b_len c_NOUGHT x_NoStep D_is_way D_plus D_own_time
  obtain ⟨fd__law_kind_of, FD__law_kind_of⟩ := c.def_ 31 (d := dd 61 "_law_kind_of") rfl
  have E__law_kind_of := d__law_kind_of (P := P) (w := w) (base := base) FD__law_kind_of m__law_kind_of b_isinstance b_ValueError k_NoDeed k_NoFlash k_NoFraction k_NoHap k_NoHaps k_NoName k_NoNumber k_NoOrder k_NoRod k_NoRow k_NoSeat k_NoSpeed k_NoStep k_NoStretch k_NoText k_NotPlain k_NoWay k_TooMany B
  obtain ⟨fd__law_told, FD__law_told⟩ := c.def_ 32 (d := dd 62 "_law_told") rfl
  have D__law_told := d__law_told (P := P) (w := w) (base := base) FD__law_told m__law_told b_len m_own_along m_own_time B k_MotionError E__law_kind_of D_own_along D_own_time
  obtain ⟨fd__law_word, FD__law_word⟩ := c.def_ 33 (d := dd 51 "_law_word") rfl
  have D__law_word := d__law_word (P := P) (w := w) (base := base) FD__law_word m__law_word b_abs b_int D__law_apart
  obtain ⟨fd__law_root, FD__law_root⟩ := c.def_ 34 (d := dd 54 "_law_root") rfl
  have D__law_root := d__law_root (P := P) (w := w) (base := base) FD__law_root m__law_root
  obtain ⟨fd__law_rooted, FD__law_rooted⟩ := c.def_ 35 (d := dd 55 "_law_rooted") rfl
  have D__law_rooted := d__law_rooted (P := P) (w := w) (base := base) FD__law_rooted m__law_rooted D__law_root
  obtain ⟨fd__law_plain_own, FD__law_plain_own⟩ := c.def_ 36 (d := dd 56 "_law_plain_own") rfl
  have D__law_plain_own := d__law_plain_own (P := P) (w := w) (base := base) FD__law_plain_own m__law_plain_own D__law_word D__law_rooted D__law_own
  obtain ⟨fd__law_step_right, FD__law_step_right⟩ := c.def_ 37 (d := dd 63 "_law_step_right") rfl
  have D__law_step_right := d__law_step_right (P := P) (w := w) (base := base) FD__law_step_right m__law_step_right m_own_time D__law_same D_own_square D__law_own D__law_told D__law_word D__law_plain_own
  obtain ⟨fd__law_way_right, FD__law_way_right⟩ := c.def_ 38 (d := dd 64 "_law_way_right") rfl
  have D__law_way_right := d__law_way_right (P := P) (w := w) (base := base) FD__law_way_right m__law_way_right b_range b_len b_list m_own_along D__law_plain_own D__law_word D__law_told D__law_sum D__law_same
  exact d_law FD hm b_range b_max b_min b_len b_all b_tuple m_own_along D__law_pot D__law_cell_at D__law_hap D__law_take D__law_on D__law_step_right D__law_way_right D__law_told
end Z
open PySem PySem.W PySem.Calls PyProof.Rows
theorem PySem.Challenge.cw_seatclocks_k61_own_times_holds : PySem.Challenge.rw_seatclocks_k61_own_times.Holds := by
  w_on; o_law
  refine HandSHeadRun.head_any (r := OpenLaw.row PySem.Challenge.rw_seatclocks_k61_own_times) (q := view (OpenLaw.row PySem.Challenge.rw_seatclocks_k61_own_times).prog [66]) (H := Z.hk) (ob := Z.obs) (M := 8000) (loose := Z.loose) (d := HandSHeadRun.topDef (OpenLaw.row PySem.Challenge.rw_seatclocks_k61_own_times).prog 66) (kwd := []) Z.obs_eq
    (by kernel_rfl) (fun s => by kernel_rfl) Z.run (by kernel_rfl) (by kernel_rfl) (by kernel_rfl) (by rfl) (by first | assumption | decide +kernel) (by decide +kernel) ⟨rfl, rfl, rfl, rfl, rfl, by decide +kernel⟩ ?hw ?hc
  case hw => w_witness2
  case hc =>
    refine Z.walkZ (l := PySem.Challenge.rw_seatclocks_k61_own_times) (n := 63) (k := 10) (x := "_law_script") (F := Z.F_law_k61) rfl (by decide) (by kernel_rfl) ⟨rfl, by decide, by decide⟩ (fun ns st h1 h2 => Z.law_k61_holds ns st h1 h2) ?_
    intro w mg a h Y G e0
    obtain ⟨K, KX, cx⟩ := Y
    have c := Z.saysD_of cx
    have e1 : mg ("law" : PySem.Str) = some (.ref a) := by
      have e : (HandSHeadRun.topDef (OpenLaw.row PySem.Challenge.rw_seatclocks_k61_own_times).prog 66).name = ("law" : PySem.Str) := by kernel_rfl
      rw [← e]
      exact e0
    obtain ⟨fd, FD⟩ := c.def_ 39 (d := Z.dd 66 "law") rfl
    have e2 := e1.symm.trans (He.glo_ok KX G (c.fact 39 (f := .glo "law") rfl))
    cases e2
    have b := L2.FunD.bindsA (ps := ["_law_script"]) FD fun _ _ _ _ _ _ us hl => match us, hl with | [_], _ => rfl
    exact ⟨K, fd, KX, fun s v => b s [v] rfl, fun base BX BG => Z.lawOk BX BG c cx.more FD e1⟩
