import PyProof.Rows.All
import Wide.All
import OpenK.AllK
import Wide.FinOn
import KE.KStateDown
import Lean
import HandS.ForSpec
import HandS.ExcCtx
import HandS.HotCalls
import HandS.ExcIs
import HandS.More
import HandS.Defaults
import HandS.Wide
import HandS.WideBits
import HandS.IsInst
import HandS.NoneIn
import HandS.DeepEq
import HandS.Walk
import HandS.Head0
import HandS.Head1
import HandS.Head2
import HandS.HeadEnd
import HandS.HeadHook1
import HandS.HeadHook2
import HandS.SetFor
import HandS.StrMore
import HandS.TupAny
import HandS.TupLe
import HandS.Zip
import HandS.Style
import HandS.TupSets
import KE.KeyNested
import HandS.Deep
import HandS.Conv
import HandS.EndBits
import HandS.HeadHook4
import PySem.Challenge.RW_seatclocks_k54_steps_of_haps
set_option Elab.async false
set_option linter.all false
set_option maxRecDepth 100000
set_option maxHeartbeats 2000000
/-! Plain values over the hand layer's heap: what a def computes, as a plain function. -/
namespace Z
open PySem PySem.Spec PyProof.Rows L2

/-! ### values -/
inductive PV where
  | non | bl (b : Bool) | int (i : Int) | str (s : Str)
  | tup (xs : List PV) | lst (xs : List PV) | dct (kvs : List (Key × PV)) | exc (a : Addr) | ref (k : Nat) | ty (n : String) | cls (c : Str)

/-- a mutable object -/
inductive SO where
  | lst (xs : List PV) | dK (kvs : List (Key × PV))

/-- F: frozen for good; R: not to be touched now; adr: the mutable objects' places -/
structure Wd where
  F : Hp
  R : Hp
  adr : List Addr

mutual
def Rep (K : PySem.W.Frag) (w : Wd) : PV → V → Prop
  | .non, v => v = .non
  | .bl b, v => v = .bl b
  | .int i, v => v = .int i
  | .str s, v => v = .str s
  | .tup xs, v => ∃ a vs, v = .ref a ∧ SqT K w.F a vs ∧ RepL K w xs vs
  | .lst xs, v => ∃ a vs, v = .ref a ∧ SqL K w.F a vs ∧ RepL K w xs vs
  | .dct kvs, v => ∃ a vs, v = .ref a ∧ w.F a = some (.dK vs) ∧ RepD K w kvs vs
  | .exc a, v => v = .ref a
  | .ref k, v => ∃ a, v = .ref a ∧ w.adr[k]? = some a
  | .ty n, v => v = .ty n
  | .cls c, v => v = .ref (He.ga K c)
def RepL (K : PySem.W.Frag) (w : Wd) : List PV → List V → Prop
  | [], vs => vs = []
  | x :: xs, vs => ∃ v r, vs = v :: r ∧ Rep K w x v ∧ RepL K w xs r
def RepD (K : PySem.W.Frag) (w : Wd) : List (Key × PV) → List (Key × V) → Prop
  | [], vs => vs = []
  | (k, x) :: xs, vs => ∃ v r, vs = (k, v) :: r ∧ Rep K w x v ∧ RepD K w xs r
end

def RepO (K : PySem.W.Frag) (w : Wd) : SO → HO → Prop
  | .lst xs, o => ∃ vs, o = .lst vs ∧ RepL K w xs vs
  | .dK kvs, o => ∃ vs, o = .dK vs ∧ RepD K w kvs vs

structure LeF (w w' : Wd) : Prop where
  F : ∀ a o, w.F a = some o → w'.F a = some o
  adr : ∃ l, w'.adr = w.adr ++ l
structure Le (w w' : Wd) : Prop extends LeF w w' where
  R : w'.R = w.R
theorem LeF.refl (w : Wd) : LeF w w := ⟨fun _ _ h => h, [], by simp⟩
theorem Le.refl (w : Wd) : Le w w := ⟨LeF.refl w, rfl⟩
theorem LeF.trans {a b c : Wd} (x : LeF a b) (y : LeF b c) : LeF a c := by
  obtain ⟨l, e⟩ := x.adr
  obtain ⟨m, e2⟩ := y.adr
  exact ⟨fun p o h => y.F p o (x.F p o h), l ++ m, by rw [e2, e, List.append_assoc]⟩
theorem Le.trans {a b c : Wd} (x : Le a b) (y : Le b c) : Le a c := ⟨x.toLeF.trans y.toLeF, y.R.trans x.R⟩
theorem LeF.at {w w' : Wd} (x : LeF w w') {k : Nat} {a : Addr} (h : w.adr[k]? = some a) : w'.adr[k]? = some a := by
  obtain ⟨l, e⟩ := x.adr
  rw [e, List.getElem?_append_left (List.getElem?_eq_some_iff.mp h).1]
  exact h

structure WOk (K : PySem.W.Frag) (w : Wd) (H : Hp) (st : List SO) : Prop where
  fz : ∀ a o, w.F a = some o → H a = some o
  fr : ∀ a o, w.R a = some o → H a = some o
  dj : ∀ a o, w.R a = some o → w.F a = none
  nd : w.adr.Nodup
  len : w.adr.length = st.length
  ad : ∀ (k : Nat) (a : Addr), w.adr[k]? = some a → w.F a = none ∧ w.R a = none
  ob : ∀ (k : Nat) (a : Addr) (c : SO), w.adr[k]? = some a → st[k]? = some c → ∃ o, H a = some o ∧ RepO K w c o

theorem rd_mono {F G : Hp} (h : ∀ a o, F a = some o → G a = some o) {a : Addr} {u : HO} (r : Rd F a u) : Rd G a u := by
  rcases r with r | ⟨o, r⟩
  · exact .inl (h _ _ r)
  · exact .inr ⟨o, h _ _ r⟩
theorem sqt_mono {K : PySem.W.Frag} {F G : Hp} (h : ∀ a o, F a = some o → G a = some o) {a : Addr} {vs : List V} (r : SqT K F a vs) : SqT K G a vs := by
  rcases r with r | r
  · exact .inl (rd_mono h r)
  · exact .inr r
theorem sql_mono {K : PySem.W.Frag} {F G : Hp} (h : ∀ a o, F a = some o → G a = some o) {a : Addr} {vs : List V} (r : SqL K F a vs) : SqL K G a vs := by
  rcases r with r | r
  · exact .inl (rd_mono h r)
  · exact .inr r

section
variable {K : PySem.W.Frag} {w w' : Wd}
mutual
theorem Rep.mono' (hF : ∀ a o, w.F a = some o → w'.F a = some o) (hA : ∀ (k : Nat) (a : Addr), w.adr[k]? = some a → w'.adr[k]? = some a) : ∀ (x : PV) (v : V), Rep K w x v → Rep K w' x v
  | .non, v, h => h
  | .bl b, v, h => h
  | .int i, v, h => h
  | .str s, v, h => h
  | .tup xs, v, ⟨a, vs, e, q, r⟩ => ⟨a, vs, e, sqt_mono hF q, RepL.mono' hF hA xs vs r⟩
  | .lst xs, v, ⟨a, vs, e, q, r⟩ => ⟨a, vs, e, sql_mono hF q, RepL.mono' hF hA xs vs r⟩
  | .dct kvs, v, ⟨a, vs, e, q, r⟩ => ⟨a, vs, e, hF _ _ q, RepD.mono' hF hA kvs vs r⟩
  | .exc _, v, h => h
  | .ref k, v, ⟨a, e, q⟩ => ⟨a, e, hA k a q⟩
  | .ty n, v, h => h
  | .cls c, v, h => h
theorem RepL.mono' (hF : ∀ a o, w.F a = some o → w'.F a = some o) (hA : ∀ (k : Nat) (a : Addr), w.adr[k]? = some a → w'.adr[k]? = some a) : ∀ (xs : List PV) (vs : List V), RepL K w xs vs → RepL K w' xs vs
  | [], vs, h => h
  | x :: xs, vs, ⟨v, r, e, h1, h2⟩ => ⟨v, r, e, Rep.mono' hF hA x v h1, RepL.mono' hF hA xs r h2⟩
theorem RepD.mono' (hF : ∀ a o, w.F a = some o → w'.F a = some o) (hA : ∀ (k : Nat) (a : Addr), w.adr[k]? = some a → w'.adr[k]? = some a) : ∀ (xs : List (Key × PV)) (vs : List (Key × V)), RepD K w xs vs → RepD K w' xs vs
  | [], vs, h => h
  | (k, x) :: xs, vs, ⟨v, r, e, h1, h2⟩ => ⟨v, r, e, Rep.mono' hF hA x v h1, RepD.mono' hF hA xs r h2⟩
end
theorem Rep.monoF (l : LeF w w') {x : PV} {v : V} (h : Rep K w x v) : Rep K w' x v := Rep.mono' l.F (fun _ _ => l.at) x v h
theorem RepL.monoF (l : LeF w w') {x : List PV} {v : List V} (h : RepL K w x v) : RepL K w' x v := RepL.mono' l.F (fun _ _ => l.at) x v h
theorem Rep.mono (l : Le w w') {x : PV} {v : V} (h : Rep K w x v) : Rep K w' x v := Rep.mono' l.F (fun _ _ => l.at) x v h
theorem RepL.mono (l : Le w w') {x : List PV} {v : List V} (h : RepL K w x v) : RepL K w' x v := RepL.mono' l.F (fun _ _ => l.at) x v h
theorem RepD.mono (l : Le w w') {x : List (Key × PV)} {v : List (Key × V)} (h : RepD K w x v) : RepD K w' x v := RepD.mono' l.F (fun _ _ => l.at) x v h
theorem RepO.mono' (hF : ∀ a o, w.F a = some o → w'.F a = some o) (hA : ∀ (k : Nat) (a : Addr), w.adr[k]? = some a → w'.adr[k]? = some a) {c : SO} {o : HO} (h : RepO K w c o) : RepO K w' c o := by
  cases c with
  | lst xs => obtain ⟨vs, e, r⟩ := h; exact ⟨vs, e, RepL.mono' hF hA xs vs r⟩
  | dK kvs => obtain ⟨vs, e, r⟩ := h; exact ⟨vs, e, RepD.mono' hF hA kvs vs r⟩
theorem RepO.mono (l : Le w w') {c : SO} {o : HO} (h : RepO K w c o) : RepO K w' c o := h.mono' l.F fun _ _ => l.at
theorem RepL.length : ∀ {xs : List PV} {vs : List V}, RepL K w xs vs → vs.length = xs.length
  | [], _, h => by rw [show _ = [] from h]; rfl
  | x :: xs, _, ⟨v, r, e, _, h⟩ => by rw [e]; simp [RepL.length h]
theorem RepL.get : ∀ {xs : List PV} {vs : List V} {i : Nat} {x : PV}, RepL K w xs vs → xs[i]? = some x → ∃ v, vs[i]? = some v ∧ Rep K w x v
  | [], _, i, x, _, e => by simp at e
  | y :: xs, _, 0, x, ⟨v, r, e, h1, _⟩, q => by simp at q; subst q; exact ⟨v, by rw [e]; rfl, h1⟩
  | y :: xs, _, i + 1, x, ⟨v, r, e, _, h2⟩, q => by
    obtain ⟨u, e2, h3⟩ := RepL.get (i := i) (x := x) h2 (by simpa using q)
    exact ⟨u, by rw [e]; simpa using e2, h3⟩
theorem RepL.append : ∀ {xs ys : List PV} {vs us : List V}, RepL K w xs vs → RepL K w ys us → RepL K w (xs ++ ys) (vs ++ us)
  | [], _, _, _, h, g => by rw [show _ = [] from h]; exact g
  | x :: xs, _, _, _, ⟨v, r, e, h1, h2⟩, g => ⟨v, r ++ _, by rw [e]; rfl, h1, RepL.append h2 g⟩
theorem RepL.one {x : PV} {v : V} (h : Rep K w x v) : RepL K w [x] [v] := ⟨v, [], rfl, h, rfl⟩
theorem RepL.set : ∀ {xs : List PV} {vs : List V} {i : Nat} {x : PV} {v : V}, RepL K w xs vs → Rep K w x v → RepL K w (xs.set i x) (vs.set i v)
  | [], _, _, _, _, h, _ => by rw [show _ = [] from h]; exact (rfl : _ = _)
  | y :: xs, _, 0, x, v, ⟨u, r, e, h1, h2⟩, g => by rw [e]; exact ⟨v, r, rfl, g, h2⟩
  | y :: xs, _, i + 1, x, v, ⟨u, r, e, h1, h2⟩, g => by rw [e]; exact ⟨u, r.set i v, rfl, h1, RepL.set h2 g⟩
theorem RepL.drop : ∀ {xs : List PV} {vs : List V} (n : Nat), RepL K w xs vs → RepL K w (xs.drop n) (vs.drop n)
  | _, _, 0, h => h
  | [], _, n + 1, h => by rw [show _ = [] from h]; exact (rfl : _ = _)
  | x :: xs, _, n + 1, ⟨v, r, e, h1, h2⟩ => by rw [e]; exact RepL.drop n h2
theorem RepL.take : ∀ {xs : List PV} {vs : List V} (n : Nat), RepL K w xs vs → RepL K w (xs.take n) (vs.take n)
  | _, _, 0, h => by rw [List.take_zero, List.take_zero]; exact (rfl : _ = _)
  | [], _, n + 1, h => by rw [show _ = [] from h]; exact (rfl : _ = _)
  | x :: xs, _, n + 1, ⟨v, r, e, h1, h2⟩ => by rw [e]; exact ⟨v, r.take n, rfl, h1, RepL.take n h2⟩
end

/-! ### results -/
inductive Res (α : Type) where
  | ok (a : α) (st : List SO) | exc (c : Str) (st : List SO) | bad
abbrev REnv := List (Option PV)
abbrev G := REnv → List SO → Res PV
abbrev GT := REnv → List SO → Res Bool
abbrev GL := REnv → List SO → Res (List PV)
def bnd {α β : Type} : Res α → (α → List SO → Res β) → Res β
  | .ok a st, k => k a st
  | .exc c st, _ => .exc c st
  | .bad, _ => .bad
inductive SRes where
  | nx (ρ : REnv) (st : List SO) | ret (v : PV) (st : List SO) | exc (c : Str) (ρ : REnv) (st : List SO) | bad
abbrev GS := REnv → List SO → SRes

structure Slots (K : PySem.W.Frag) (w : Wd) (ρ : REnv) (σ : L2.St) : Prop where
  len : ρ.length = σ.length
  get : ∀ (i : Nat) (x : PV), ρ[i]? = some (some x) → ∃ v, σ[i]? = some (some v) ∧ Rep K w x v
theorem Slots.mono {K : PySem.W.Frag} {w w' : Wd} {ρ : REnv} {σ : L2.St} (l : Le w w') (h : Slots K w ρ σ) : Slots K w' ρ σ :=
  ⟨h.len, fun i x e => let ⟨v, e2, r⟩ := h.get i x e; ⟨v, e2, r.mono l⟩⟩
theorem Slots.set {K : PySem.W.Frag} {w : Wd} {ρ : REnv} {σ : L2.St} {i : Nat} {x : PV} {v : V} (h : Slots K w ρ σ) (r : Rep K w x v) : Slots K w (ρ.set i (some x)) (σ.set i (some v)) := by
  refine ⟨by rw [List.length_set, List.length_set, h.len], fun j y e => ?_⟩
  by_cases hj : i = j
  · subst hj
    by_cases hl : i < ρ.length
    · rw [List.getElem?_set_self hl] at e
      cases e
      exact ⟨v, by rw [List.getElem?_set_self (by rw [← h.len]; exact hl)], r⟩
    · rw [List.getElem?_eq_none (by simpa using hl)] at e
      cases e
  · rw [List.getElem?_set_ne hj] at e ⊢
    exact h.get j y e

/-- where a result lands -/
def Post {α β : Type} (K : PySem.W.Frag) (W : WX) (rel : Wd → α → β → Prop) (w : Wd) (σ : L2.St) (r : Res α) (Q : β → Hp → Prop) : Prop := match r with
  | .ok a st' => ∀ w' H' x, Le w w' → WOk K w' H' st' → rel w' a x → Q x H'
  | .exc c st' => ∀ w' H', Le w w' → WOk K w' H' st' → W (.ref (He.ga K c)) none σ H'
  | .bad => False
abbrev rlB : Wd → Bool → Bool → Prop := fun _ a b => a = b
def tG (K : PySem.W.Frag) (W : WX) (g : G) : TE := fun σ H Q => ∃ w ρ st, WOk K w H st ∧ Slots K w ρ σ ∧ Post K W (Rep K) w σ (g ρ st) Q
def tGT (K : PySem.W.Frag) (W : WX) (g : GT) : TT := fun σ H Q => ∃ w ρ st, WOk K w H st ∧ Slots K w ρ σ ∧ Post K W rlB w σ (g ρ st) Q
def tGA (K : PySem.W.Frag) (W : WX) (g : GL) : TA := fun σ H Q => ∃ w ρ st, WOk K w H st ∧ Slots K w ρ σ ∧ Post K W (RepL K) w σ (g ρ st) Q
def PostS (K : PySem.W.Frag) (W : WX) (w : Wd) (r : SRes) (D : Ends) : Prop := match r with
  | .nx ρ' st' => ∀ w' σ' H', Le w w' → WOk K w' H' st' → Slots K w' ρ' σ' → D.nx σ' H'
  | .ret v st' => ∀ w' H' x, Le w w' → WOk K w' H' st' → Rep K w' v x → D.rt x H'
  | .exc c ρ' st' => ∀ w' σ' H', Le w w' → WOk K w' H' st' → Slots K w' ρ' σ' → W (.ref (He.ga K c)) none σ' H'
  | .bad => False
def tS (K : PySem.W.Frag) (W : WX) (g : GS) : TS := fun D σ H => ∃ w ρ st, WOk K w H st ∧ Slots K w ρ σ ∧ PostS K W w (g ρ st) D

theorem pe_imp {X : Cx} {e : Expr} {t t' : TE} (h : PE X e t) (i : ∀ σ H Q, t' σ H Q → t σ H Q) : PE X e t' := ⟨fun pins s σ H Q I q => h.run pins s σ H Q I (i σ H Q q)⟩
theorem pt_imp {X : Cx} {e : Expr} {t t' : TT} (h : PT X e t) (i : ∀ σ H Q, t' σ H Q → t σ H Q) : PT X e t' := ⟨fun pins s σ H Q I q => h.run pins s σ H Q I (i σ H Q q)⟩
theorem pw_imp {X : Cx} {e : Expr} {t t' : TT} (h : PW X e t) (i : ∀ σ H Q, t' σ H Q → t σ H Q) : PW X e t' := ⟨fun wh pins s σ H Q I q => h.run wh pins s σ H Q I (i σ H Q q)⟩
theorem pa_imp {X : Cx} {e : List Expr} {t t' : TA} (h : PA X e t) (i : ∀ σ H Q, t' σ H Q → t σ H Q) : PA X e t' := ⟨fun pos pins s σ H Q I q => h.run pos pins s σ H Q I (i σ H Q q)⟩
theorem ps_imp {X : Cx} {e : Stmt} {t t' : TS} (h : PS X e t) (i : ∀ D σ H, t' D σ H → t D σ H) : PS X e t' := ⟨fun pins s σ H D I q => h.run pins s σ H D I (i D σ H q)⟩
theorem pss_imp {X : Cx} {e : List Stmt} {t t' : TS} (h : PSs X e t) (i : ∀ D σ H, t' D σ H → t D σ H) : PSs X e t' := ⟨fun pins s σ H D I q => h.run pins s σ H D I (i D σ H q)⟩

section
variable {K : PySem.W.Frag} {W : WX} {w w1 : Wd} {σ : L2.St}
theorem Post.mono {α β : Type} {rel : Wd → α → β → Prop} {r : Res α} {Q : β → Hp → Prop} (l : Le w w1) (h : Post K W rel w σ r Q) : Post K W rel w1 σ r Q := by
  cases r with
  | ok a st => exact fun w' H' x l' => h w' H' x (l.trans l')
  | exc c st => exact fun w' H' l' => h w' H' (l.trans l')
  | bad => exact h
theorem PostS.mono {r : SRes} {D : Ends} (l : Le w w1) (h : PostS K W w r D) : PostS K W w1 r D := by
  cases r with
  | nx a st => exact fun w' H' x l' => h w' H' x (l.trans l')
  | ret a st => exact fun w' H' x l' => h w' H' x (l.trans l')
  | exc c ρ st => exact fun w' H' x l' => h w' H' x (l.trans l')
  | bad => exact h
/-- the one thing behind another -/
theorem post_bind {α β γ δ : Type} {rel : Wd → α → β → Prop} {rel2 : Wd → γ → δ → Prop} {r : Res α} {k : α → List SO → Res γ} {Q : δ → Hp → Prop} (h : Post K W rel2 w σ (bnd r k) Q) {R : β → Hp → Prop}
    (i : ∀ a st' w' H' x, Le w w' → WOk K w' H' st' → rel w' a x → Post K W rel2 w' σ (k a st') Q → R x H') : Post K W rel w σ r R := by
  cases r with
  | ok a st => exact fun w' H' x l o q => i a st w' H' x l o q (Post.mono l h)
  | exc c st => exact h
  | bad => exact h
end
end Z
/-! Expressions. -/
namespace Z
open PySem PySem.Spec PyProof.Rows L2

/-! ### new objects -/
section
variable {K : PySem.W.Frag} {w : Wd} {H : Hp} {st : List SO} {p : Addr}
theorem WOk.fF (ok : WOk K w H st) (h : H p = none) : w.F p = none := by
  cases e : w.F p with
  | none => rfl
  | some o => have := ok.fz p o e; rw [h] at this; cases this
theorem WOk.fR (ok : WOk K w H st) (h : H p = none) : w.R p = none := by
  cases e : w.R p with
  | none => rfl
  | some o => have := ok.fr p o e; rw [h] at this; cases this
theorem WOk.obj (ok : WOk K w H st) {k : Nat} {a : Addr} (h : w.adr[k]? = some a) : ∃ c o, st[k]? = some c ∧ H a = some o ∧ RepO K w c o := by
  have hk : k < st.length := by rw [← ok.len]; exact (List.getElem?_eq_some_iff.mp h).1
  obtain ⟨o, h1, h2⟩ := ok.ob k a st[k] h (by simp [hk])
  exact ⟨st[k], o, by simp [hk], h1, h2⟩
theorem WOk.nadr (ok : WOk K w H st) (h : H p = none) : p ∉ w.adr := fun hm => by
  obtain ⟨k, hk, e⟩ := List.getElem_of_mem hm
  obtain ⟨_, _, _, h2, _⟩ := ok.obj (k := k) (a := p) (by rw [List.getElem?_eq_getElem hk, e])
  rw [h] at h2; cases h2
def Wd.frz (w : Wd) (p : Addr) (o : HO) : Wd := { w with F := upd w.F p o }
def Wd.new (w : Wd) (p : Addr) : Wd := { w with adr := w.adr ++ [p] }
theorem le_frz (ok : WOk K w H st) (h : H p = none) (o : HO) : Le w (w.frz p o) :=
  ⟨⟨fun a u e => by
    show upd w.F p o a = some u
    rw [upd_ne (ne_of_none e (ok.fF h))]; exact e, [], by simp [Wd.frz]⟩, rfl⟩
theorem le_new (w : Wd) (p : Addr) : Le w (w.new p) := ⟨⟨fun _ _ e => e, [p], rfl⟩, rfl⟩
/-- a place of nobody -/
structure Free (w : Wd) (p : Addr) : Prop where
  F : w.F p = none
  R : w.R p = none
  A : p ∉ w.adr
theorem WOk.free (ok : WOk K w H st) (h : H p = none) : Free w p := ⟨ok.fF h, ok.fR h, ok.nadr h⟩
theorem WOk.updF (ok : WOk K w H st) (f : Free w p) (o : HO) : WOk K w (upd H p o) st := by
  have hne : ∀ {b : Addr} {F : Hp} {u : HO}, F b = some u → F p = none → b ≠ p := fun h1 h2 z => by subst z; rw [h2] at h1; cases h1
  refine ⟨fun b u q => ?_, fun b u q => ?_, ok.dj, ok.nd, ok.len, ok.ad, fun j b d e1 e2 => ?_⟩
  · rw [upd_ne (hne q f.F)]; exact ok.fz b u q
  · rw [upd_ne (hne q f.R)]; exact ok.fr b u q
  · obtain ⟨u, h1, h2⟩ := ok.ob j b d e1 e2
    have hb : b ≠ p := fun z => f.A (z ▸ List.mem_of_getElem? e1)
    exact ⟨u, by rw [upd_ne hb]; exact h1, h2⟩
theorem le_frz' (f : Free w p) (o : HO) : Le w (w.frz p o) :=
  ⟨⟨fun a u e => by
    show L2.upd w.F p o a = some u
    rw [upd_ne (ne_of_none e f.F)]; exact e, [], by simp [Wd.frz]⟩, rfl⟩
theorem WOk.frz' (ok : WOk K w H st) (f : Free w p) {o : HO} (h : H p = some o) : WOk K (w.frz p o) H st := by
  refine ⟨fun a u e => ?_, ok.fr, fun a u e => ?_, ok.nd, ok.len, fun k a e => ?_, fun k a c e1 e2 => ?_⟩
  · have e' : L2.upd w.F p o a = some u := e
    by_cases ha : a = p
    · subst ha; rw [upd_same] at e'; cases e'; exact h
    · rw [upd_ne ha] at e'; exact ok.fz a u e'
  · have e' : w.R a = some u := e
    show L2.upd w.F p o a = none
    rw [upd_ne (ne_of_none e' f.R)]; exact ok.dj a u e'
  · have e' : w.adr[k]? = some a := e
    have hne : a ≠ p := fun z => f.A (z ▸ List.mem_of_getElem? e')
    refine ⟨?_, (ok.ad k a e').2⟩
    show L2.upd w.F p o a = none
    rw [upd_ne hne]; exact (ok.ad k a e').1
  · obtain ⟨u, h1, h2⟩ := ok.ob k a c e1 e2
    exact ⟨u, h1, h2.mono (le_frz' f o)⟩
/-- what stands at p is not to be touched -/
def Wd.hold (w : Wd) (p : Addr) (o : HO) : Wd := { w with R := L2.upd w.R p o }
theorem WOk.hold (ok : WOk K w H st) (f : Free w p) {o : HO} (h : H p = some o) : WOk K (w.hold p o) H st := by
  refine ⟨ok.fz, fun a u e => ?_, fun a u e => ?_, ok.nd, ok.len, fun k a e => ?_, fun k a c e1 e2 => ?_⟩
  · have e' : L2.upd w.R p o a = some u := e
    by_cases ha : a = p
    · subst ha; rw [upd_same] at e'; cases e'; exact h
    · rw [upd_ne ha] at e'; exact ok.fr a u e'
  · have e' : L2.upd w.R p o a = some u := e
    by_cases ha : a = p
    · subst ha; exact f.F
    · rw [upd_ne ha] at e'; exact ok.dj a u e'
  · have e' : w.adr[k]? = some a := e
    have hne : a ≠ p := fun z => f.A (z ▸ List.mem_of_getElem? e')
    refine ⟨(ok.ad k a e').1, ?_⟩
    show L2.upd w.R p o a = none
    rw [upd_ne hne]; exact (ok.ad k a e').2
  · obtain ⟨u, h1, h2⟩ := ok.ob k a c e1 e2
    exact ⟨u, h1, RepO.mono' (w := w) (w' := w.hold p o) (fun _ _ e => e) (fun _ _ e => e) h2⟩
/-- back from a world in which p was held -/
theorem WOk.unhold {w2 : Wd} {o : HO} (ok : WOk K w2 H st) (f : Free w p) (l : Le (w.hold p o) w2) : WOk K { w2 with R := w.R } H st ∧ Le w { w2 with R := w.R } ∧ H p = some o ∧ Free { w2 with R := w.R } p := by
  have hR : w2.R = L2.upd w.R p o := l.R
  have hp : w2.R p = some o := by rw [hR, upd_same]
  have sub : ∀ a u, w.R a = some u → w2.R a = some u := fun a u e => by rw [hR, upd_ne (ne_of_none e f.R)]; exact e
  refine ⟨⟨ok.fz, fun a u e => ok.fr a u (sub a u e), fun a u e => ok.dj a u (sub a u e), ok.nd, ok.len, fun k a e => ⟨(ok.ad k a e).1, ?_⟩, fun k a c e1 e2 => ?_⟩, ⟨⟨l.F, l.adr⟩, rfl⟩, ok.fr p o hp, ⟨ok.dj p o hp, f.R, fun hm => ?_⟩⟩
  · show w.R a = none
    cases e2 : w.R a with
    | none => rfl
    | some u => have := (ok.ad k a e).2; rw [sub a u e2] at this; cases this
  · obtain ⟨u, h1, h2⟩ := ok.ob k a c e1 e2
    exact ⟨u, h1, RepO.mono' (w := w2) (w' := { w2 with R := w.R }) (fun _ _ e => e) (fun _ _ e => e) h2⟩
  · obtain ⟨k, hk, e⟩ := List.getElem_of_mem hm
    have := (ok.ad k p (by rw [List.getElem?_eq_getElem hk, e])).2
    rw [hp] at this; cases this
theorem WOk.frz (ok : WOk K w H st) (h : H p = none) (o : HO) : WOk K (w.frz p o) (upd H p o) st := by
  have l := le_frz ok h o
  refine ⟨fun a u e => ?_, fun a u e => ?_, fun a u e => ?_, ok.nd, ok.len, fun k a e => ?_, fun k a c e1 e2 => ?_⟩
  · have e' : upd w.F p o a = some u := e
    by_cases ha : a = p
    · subst ha; rw [upd_same] at e' ⊢; exact e'
    · rw [upd_ne ha] at e' ⊢; exact ok.fz a u e'
  · have e' : w.R a = some u := e
    rw [upd_ne (ne_of_none e' (ok.fR h))]; exact ok.fr a u e'
  · have e' : w.R a = some u := e
    show upd w.F p o a = none
    rw [upd_ne (ne_of_none e' (ok.fR h))]; exact ok.dj a u e'
  · have e' : w.adr[k]? = some a := e
    have hne : a ≠ p := fun z => ok.nadr h (z ▸ List.mem_of_getElem? e')
    refine ⟨?_, (ok.ad k a e').2⟩
    show upd w.F p o a = none
    rw [upd_ne hne]; exact (ok.ad k a e').1
  · have e' : w.adr[k]? = some a := e1
    have hne : a ≠ p := fun z => ok.nadr h (z ▸ List.mem_of_getElem? e')
    obtain ⟨u, h1, h2⟩ := ok.ob k a c e' e2
    exact ⟨u, by rw [upd_ne hne]; exact h1, h2.mono l⟩
theorem WOk.new (ok : WOk K w H st) (h : H p = none) {c : SO} {o : HO} (r : RepO K w c o) : WOk K (w.new p) (upd H p o) (st ++ [c]) := by
  have l := le_new w p
  have hnew : ∀ (k : Nat) (a : Addr), (w.adr ++ [p])[k]? = some a → (k < w.adr.length ∧ w.adr[k]? = some a) ∨ (k = w.adr.length ∧ a = p) := fun k a e => by
    by_cases hk : k < w.adr.length
    · rw [List.getElem?_append_left hk] at e; exact .inl ⟨hk, e⟩
    · rw [List.getElem?_append_right (by omega)] at e
      have : k - w.adr.length < [p].length := (List.getElem?_eq_some_iff.mp e).1
      have hk2 : k = w.adr.length := by simp at this; omega
      subst hk2
      simp at e
      exact .inr ⟨rfl, e.symm⟩
  refine ⟨fun a u e => ?_, fun a u e => ?_, ok.dj, ?_, ?_, fun k a e => ?_, fun k a d e1 e2 => ?_⟩
  · rw [upd_ne (ne_of_none (show w.F a = some u from e) (ok.fF h))]; exact ok.fz a u e
  · rw [upd_ne (ne_of_none (show w.R a = some u from e) (ok.fR h))]; exact ok.fr a u e
  · show (w.adr ++ [p]).Nodup
    rw [List.nodup_append]
    refine ⟨ok.nd, by simp, fun a ha b hb => ?_⟩
    simp at hb
    subst hb
    exact fun z => ok.nadr h (z ▸ ha)
  · show (w.adr ++ [p]).length = _
    simp [ok.len]
  · rcases hnew k a e with ⟨_, e'⟩ | ⟨_, rfl⟩
    · exact ok.ad k a e'
    · exact ⟨ok.fF h, ok.fR h⟩
  · rcases hnew k a e1 with ⟨hk, e'⟩ | ⟨hk, rfl⟩
    · have e2' : st[k]? = some d := by rw [List.getElem?_append_left (by rw [← ok.len]; exact hk)] at e2; exact e2
      obtain ⟨u, h1, h2⟩ := ok.ob k a d e' e2'
      have hne : a ≠ p := fun z => ok.nadr h (z ▸ List.mem_of_getElem? e')
      exact ⟨u, by rw [upd_ne hne]; exact h1, h2.mono l⟩
    · rw [hk, ok.len] at e2
      simp at e2
      subst e2
      exact ⟨o, upd_same, r.mono l⟩
/-- a mutable object is written -/
theorem WOk.write (ok : WOk K w H st) {k : Nat} {a : Addr} (e : w.adr[k]? = some a) {c : SO} {o : HO} (r : RepO K w c o) : WOk K w (upd H a o) (st.set k c) := by
  have hne : ∀ {b : Addr} {F : Hp} {u : HO}, F b = some u → F a = none → b ≠ a := fun h1 h2 z => by subst z; rw [h2] at h1; cases h1
  have had := ok.ad k a e
  refine ⟨fun b u q => ?_, fun b u q => ?_, ok.dj, ok.nd, by rw [List.length_set]; exact ok.len, ok.ad, fun j b d e1 e2 => ?_⟩
  · rw [upd_ne (hne q had.1)]; exact ok.fz b u q
  · rw [upd_ne (hne q had.2)]; exact ok.fr b u q
  · by_cases hj : k = j
    · subst hj
      rw [e] at e1; cases e1
      have hl : k < st.length := by rw [← ok.len]; exact (List.getElem?_eq_some_iff.mp e).1
      rw [List.getElem?_set_self hl] at e2
      cases e2
      exact ⟨o, upd_same, r⟩
    · rw [List.getElem?_set_ne hj] at e2
      obtain ⟨u, h1, h2⟩ := ok.ob j b d e1 e2
      have : b ≠ a := fun z => by
        subst z
        exact hj (nd_ix ok.nd e e1)
      exact ⟨u, by rw [upd_ne this]; exact h1, h2⟩
end

/-! ### operators by values -/
abbrev F2 := List SO → PV → PV → Option PV
abbrev F1 := List SO → PV → Option PV
abbrev FL := List SO → List PV → Option PV
def oo (o : Option PV) (st : List SO) : Res PV := match o with
  | some v => .ok v st
  | none => .bad
/-- the rule r does what f says -/
def Snd2 (K : PySem.W.Frag) (f : F2) (r : R2) : Prop := ∀ (w : Wd) (H : Hp) (st : List SO) (x y z : PV) (vx vy : V) (Q : VK), WOk K w H st → Rep K w x vx → Rep K w y vy → f st x y = some z →
  (∀ w' H' vz, Le w w' → WOk K w' H' st → Rep K w' z vz → Q vz H') → r vx vy H Q
def Snd1 (K : PySem.W.Frag) (f : F1) (r : V → Hp → VK → Prop) : Prop := ∀ (w : Wd) (H : Hp) (st : List SO) (x z : PV) (vx : V) (Q : VK), WOk K w H st → Rep K w x vx → f st x = some z →
  (∀ w' H' vz, Le w w' → WOk K w' H' st → Rep K w' z vz → Q vz H') → r vx H Q
def SndL (K : PySem.W.Frag) (f : FL) (r : List V → Hp → VK → Prop) : Prop := ∀ (w : Wd) (H : Hp) (st : List SO) (xs : List PV) (z : PV) (vs : List V) (Q : VK), WOk K w H st → RepL K w xs vs → f st xs = some z →
  (∀ w' H' vz, Le w w' → WOk K w' H' st → Rep K w' z vz → Q vz H') → r vs H Q

def gVar (i : Nat) : G := fun ρ st => match ρ[i]? with
  | some (some v) => .ok v st
  | _ => .bad
def gC (v : PV) : G := fun _ st => .ok v st
def gBin (f : F2) (ga gb : G) : G := fun ρ st => bnd (ga ρ st) fun x st => bnd (gb ρ st) fun y st => oo (f st x y) st
def gUn (f : F1) (ga : G) : G := fun ρ st => bnd (ga ρ st) fun x st => oo (f st x) st
def gArgs : List G → GL
  | [] => fun _ st => .ok [] st
  | g :: gs => fun ρ st => bnd (g ρ st) fun x st => bnd (gArgs gs ρ st) fun xs st => .ok (x :: xs) st
def gTupE (gs : List G) : G := fun ρ st => bnd (gArgs gs ρ st) fun xs st => .ok (.tup xs) st
def gLstE (gs : List G) : G := fun ρ st => bnd (gArgs gs ρ st) fun xs st => .ok (.lst xs) st
def gNewE (gs : List G) : G := fun ρ st => bnd (gArgs gs ρ st) fun xs st => .ok (.ref st.length) (st ++ [.lst xs])
def gCall (F : List PV → List SO → Res PV) (gs : List G) : G := fun ρ st => bnd (gArgs gs ρ st) fun xs st => F xs st
def gBi (f : FL) (gs : List G) : G := fun ρ st => bnd (gArgs gs ρ st) fun xs st => oo (f st xs) st
def gB (g : G) : GT := fun ρ st => bnd (g ρ st) fun v st => match v with
  | .bl b => .ok b st
  | _ => .bad
def gAnd (a b : GT) : GT := fun ρ st => bnd (a ρ st) fun c st => if c = true then b ρ st else .ok false st
def gOr (a b : GT) : GT := fun ρ st => bnd (a ρ st) fun c st => if c = true then .ok true st else b ρ st
def gNot (a : GT) : GT := fun ρ st => bnd (a ρ st) fun c st => .ok (!c) st
def gVT (t : GT) : G := fun ρ st => bnd (t ρ st) fun c st => .ok (.bl c) st
def gIf (c : GT) (a b : G) : G := fun ρ st => bnd (c ρ st) fun c st => if c = true then a ρ st else b ρ st

theorem gArgs_len : ∀ {gs : List G} {ρ : REnv} {st st' : List SO} {xs : List PV}, gArgs gs ρ st = .ok xs st' → xs.length = gs.length
  | [], _, _, _, _, h => by cases h; rfl
  | g :: gs, ρ, st, st', xs, h => by
    have h' : bnd (g ρ st) (fun x st => bnd (gArgs gs ρ st) fun xs st => .ok (x :: xs) st) = .ok xs st' := h
    cases e : g ρ st with
    | ok x st1 =>
      rw [e] at h'
      have h2 : bnd (gArgs gs ρ st1) (fun xs st => .ok (x :: xs) st) = .ok xs st' := h'
      cases e2 : gArgs gs ρ st1 with
      | ok ys st2 => rw [e2] at h2; cases h2; simp [gArgs_len e2]
      | exc c st2 => rw [e2] at h2; cases h2
      | bad => rw [e2] at h2; cases h2
    | exc c st1 => rw [e] at h'; cases h'
    | bad => rw [e] at h'; cases h'

section
variable {X : Cx} {W : WX} {pos : Pos} {a b e : Expr} {es : List Expr} {ga gb g : G} {gs : List G}

theorem se_var {x : Str} (i : Nat) (hN : X.N[i]? = some x := by rfl) (hv : Vis X.env.scope x := by first | exact Or.inl rfl | exact Or.inr (Or.inl rfl) | exact Or.inr (Or.inr rfl))
    (hd : (x == ("__debug__" : Str)) = false := by decide) (hcd : (x == ("__classdict__" : Str)) = false := by decide) : PE X (.Name x pos) (tG X.K W (gVar i)) := by
  refine pe_imp (pe_var hN hv hd hcd) fun σ H Q ⟨w, ρ, st, ok, sl, po⟩ => ?_
  have po : Post X.K W (Rep X.K) w σ (gVar i ρ st) Q := po
  unfold gVar at po
  cases h : ρ[i]? with
  | none => rw [h] at po; exact po.elim
  | some o =>
    cases o with
    | none => rw [h] at po; exact po.elim
    | some v =>
      rw [h] at po
      obtain ⟨u, hu, r⟩ := sl.get i v h
      exact ⟨u, hu, po w H u (Le.refl w) ok r⟩
theorem se_c {v : PV} {u : V} (h : PE X e (tC u)) (r : ∀ w, Rep X.K w v u) : PE X e (tG X.K W (gC v)) := by
  refine pe_imp h fun σ H Q ⟨w, ρ, st, ok, sl, po⟩ => ?_
  exact po w H u (Le.refl w) ok (r w)
theorem se_int {i : Int} {j : Nat} : PE X (.Constant (.int i) j pos) (tG X.K W (gC (.int i))) := se_c pe_int fun _ => rfl
theorem se_bl {i : Bool} {j : Nat} : PE X (.Constant (.bool i) j pos) (tG X.K W (gC (.bl i))) := se_c pe_bl fun _ => rfl
theorem se_non {j : Nat} : PE X (.Constant .none j pos) (tG X.K W (gC .non)) := se_c pe_non fun _ => rfl
theorem se_str {i : Str} {j : Nat} : PE X (.Constant (.str i) j pos) (tG X.K W (gC (.str i))) := se_c pe_str fun _ => rfl
/-- a constant of the module -/
theorem se_glob {x : Str} {c : PV} {v : V} {u : Value} (hg : Gl X x) (hm : X.mg x = some u) (r : RelV v u) (rc : ∀ w, Rep X.K w c v) (hd : (x == ("__debug__" : Str)) = false := by decide) : PE X (.Name x pos) (tG X.K W (gC c)) :=
  se_c (pe_glob hg hm r hd) rc

theorem tOp_of {f : F2} {r : R2} (hs : Snd2 X.K f r) {σ : L2.St} {H : Hp} {Q : VK} (h : tG X.K W (gBin f ga gb) σ H Q) : tOp r (tG X.K W ga) (tG X.K W gb) σ H Q := by
  obtain ⟨w, ρ, st, ok, sl, po⟩ := h
  refine ⟨w, ρ, st, ok, sl, post_bind (rel2 := Rep X.K) po fun x st1 w1 H1 vx l1 ok1 rx po1 => ?_⟩
  refine ⟨w1, ρ, st1, ok1, sl.mono l1, post_bind (rel2 := Rep X.K) po1 fun y st2 w2 H2 vy l2 ok2 ry po2 => ?_⟩
  cases e : f st2 x y with
  | none => rw [e] at po2; exact po2.elim
  | some z =>
    rw [e] at po2
    exact hs w2 H2 st2 x y z vx vy Q ok2 (rx.mono l2) ry e fun w' H' vz l o q => po2 w' H' vz l o q
theorem se_bin {op : Operator} {f : F2} {r : R2} (ho : OpR X (binaryOp op) r) (hs : Snd2 X.K f r) (ha : PE X a (tG X.K W ga)) (hb : PE X b (tG X.K W gb)) : PE X (.BinOp a op b pos) (tG X.K W (gBin f ga gb)) :=
  pe_imp (pe_op ho ha hb) fun _ _ _ h => tOp_of hs h
theorem se_cmp {op : CmpOp} {f : F2} {r : R2} (ho : OpR X (compareOp op) r) (hs : Snd2 X.K f r) (ha : PE X a (tG X.K W ga)) (hb : PE X b (tG X.K W gb)) (hm : behindInMarks op b = false := by first | exact nomark _ | rfl) :
    PE X (.Compare a [op] [b] pos) (tG X.K W (gBin f ga gb)) :=
  pe_imp (pe_cmpR ho ha hb hm) fun _ _ _ h => tOp_of hs h
theorem se_ix {f : F2} {r : R2} (ho : IxR X r) (hs : Snd2 X.K f r) (ha : PE X a (tG X.K W ga)) (hb : PE X b (tG X.K W gb)) (hp : PlainIx b := by intro _ _; rfl) : PE X (.Subscript a b pos) (tG X.K W (gBin f ga gb)) :=
  pe_imp (pe_ix ho ha hb hp) fun _ _ _ h => tOp_of hs h
theorem se_un {op : UnaryOp} {f : F1} {r : V → Hp → VK → Prop} (ho : UnR X (unaryOp op) r) (hs : Snd1 X.K f r) (ha : PE X a (tG X.K W ga)) : PE X (.UnaryOp op a pos) (tG X.K W (gUn f ga)) := by
  refine pe_imp (pe_un ho ha) fun σ H Q ⟨w, ρ, st, ok, sl, po⟩ => ?_
  refine ⟨w, ρ, st, ok, sl, post_bind (rel2 := Rep X.K) po fun x st1 w1 H1 vx l1 ok1 rx po1 => ?_⟩
  cases e : f st1 x with
  | none => rw [e] at po1; exact po1.elim
  | some z =>
    rw [e] at po1
    exact hs w1 H1 st1 x z vx Q ok1 rx e fun w' H' vz l o q => po1 w' H' vz l o q

/-! ### tests -/
theorem tTest_of {t : TE} {σ : L2.St} {H : Hp} {Q : Bool → Hp → Prop} (i : ∀ Q', tG X.K W g σ H Q' → t σ H Q') (h : tGT X.K W (gB g) σ H Q) : tTest t σ H Q := by
  obtain ⟨w, ρ, st, ok, sl, po⟩ := h
  refine i _ ⟨w, ρ, st, ok, sl, post_bind (rel2 := rlB) po fun x st1 w1 H1 vx l1 ok1 rx po1 => ?_⟩
  cases x with
  | bl c =>
    have e : vx = .bl c := rx
    exact ⟨c, e, po1 w1 H1 c (Le.refl _) ok1 rfl⟩
  | _ => exact po1.elim
theorem st_cmp {op : CmpOp} {f : F2} {r : R2} (ho : OpR X (compareOp op) r) (hs : Snd2 X.K f r) (ha : PE X a (tG X.K W ga)) (hb : PE X b (tG X.K W gb)) (hm : behindInMarks op b = false := by first | exact nomark _ | rfl) :
    PT X (.Compare a [op] [b] pos) (tGT X.K W (gB (gBin f ga gb))) :=
  pt_imp (pt_cmpR ho ha hb hm) fun _ _ _ h => tTest_of (fun _ h' => tOp_of hs h') h
theorem st_val (he : PE X e (tG X.K W g)) (hp : ∀ whole, isTrue e X.env whole = (do let v ← whole; standAt e.pos; holding [v] (truthy v)) := by intro _; rfl) : PT X e (tGT X.K W (gB g)) :=
  pt_imp (pt_val he hp) fun _ _ _ h => tTest_of (fun _ h' => h') h
variable {ta tb : GT} {rest : List Expr}
theorem st_and1 (h : PT X a (tGT X.K W ta)) : PW X (.BoolOp .And [a] pos) (tGT X.K W ta) := pw_and1 h
theorem st_or1 (h : PT X a (tGT X.K W ta)) : PW X (.BoolOp .Or [a] pos) (tGT X.K W ta) := pw_or1 h
theorem st_and (ha : PT X a (tGT X.K W ta)) (hb : PW X (.BoolOp .And (b :: rest) pos) (tGT X.K W tb)) : PW X (.BoolOp .And (a :: b :: rest) pos) (tGT X.K W (gAnd ta tb)) := by
  refine pw_imp (pw_and ha hb) fun σ H Q ⟨w, ρ, st, ok, sl, po⟩ => ?_
  refine ⟨w, ρ, st, ok, sl, post_bind (rel2 := rlB) po fun c st1 w1 H1 c' l1 ok1 e po1 => ?_⟩
  subst e
  cases c with
  | true => exact ⟨w1, ρ, st1, ok1, sl.mono l1, po1⟩
  | false => exact po1 w1 H1 false (Le.refl _) ok1 rfl
theorem st_or (ha : PT X a (tGT X.K W ta)) (hb : PW X (.BoolOp .Or (b :: rest) pos) (tGT X.K W tb)) : PW X (.BoolOp .Or (a :: b :: rest) pos) (tGT X.K W (gOr ta tb)) := by
  refine pw_imp (pw_or ha hb) fun σ H Q ⟨w, ρ, st, ok, sl, po⟩ => ?_
  refine ⟨w, ρ, st, ok, sl, post_bind (rel2 := rlB) po fun c st1 w1 H1 c' l1 ok1 e po1 => ?_⟩
  subst e
  cases c with
  | false => exact ⟨w1, ρ, st1, ok1, sl.mono l1, po1⟩
  | true => exact po1 w1 H1 true (Le.refl _) ok1 rfl
theorem st_not (ha : PT X a (tGT X.K W ta)) : PT X (.UnaryOp .Not a pos) (tGT X.K W (gNot ta)) := by
  refine pt_imp (pt_not ha) fun σ H Q ⟨w, ρ, st, ok, sl, po⟩ => ?_
  refine ⟨w, ρ, st, ok, sl, post_bind (rel2 := rlB) po fun c st1 w1 H1 c' l1 ok1 e po1 => ?_⟩
  subst e
  exact po1 w1 H1 (!c) (Le.refl _) ok1 rfl
/-- and, or, not as values: of bools -/
theorem se_and1 {op : BoolOp} (h : PE X a (tG X.K W ga)) : PE X (.BoolOp op [a] pos) (tG X.K W ga) := pe_one h
theorem se_and (ha : PE X a (tG X.K W ga)) (hb : PE X (.BoolOp .And (b :: rest) pos) (tG X.K W (gVT tb))) : PE X (.BoolOp .And (a :: b :: rest) pos) (tG X.K W (gVT (gAnd (gB ga) tb))) := by
  refine pe_imp (pe_and ha hb) fun σ H Q ⟨w, ρ, st, ok, sl, po⟩ => ?_
  have po : Post X.K W (Rep X.K) w σ (bnd (bnd (bnd (ga ρ st) fun v st => match v with | .bl b => .ok b st | _ => .bad) fun c st => if c = true then tb ρ st else .ok false st) fun c st => .ok (.bl c) st) Q := po
  cases e : ga ρ st with
  | ok v st1 =>
    refine ⟨w, ρ, st, ok, sl, ?_⟩
    rw [e] at po ⊢
    intro w1 H1 vx l1 ok1 rx
    cases v with
    | bl c =>
      have ev : vx = .bl c := rx
      refine ⟨c, ev, ?_⟩
      cases c with
      | true => exact ⟨w1, ρ, st1, ok1, sl.mono l1, Post.mono l1 po⟩
      | false => exact po w1 H1 (.bl false) l1 ok1 rfl
    | _ => exact po.elim
  | exc c st1 => rw [e] at po; exact ⟨w, ρ, st, ok, sl, by rw [e]; exact po⟩
  | bad => rw [e] at po; exact po.elim
theorem se_or (ha : PE X a (tG X.K W ga)) (hb : PE X (.BoolOp .Or (b :: rest) pos) (tG X.K W (gVT tb))) : PE X (.BoolOp .Or (a :: b :: rest) pos) (tG X.K W (gVT (gOr (gB ga) tb))) := by
  refine pe_imp (pe_or ha hb) fun σ H Q ⟨w, ρ, st, ok, sl, po⟩ => ?_
  have po : Post X.K W (Rep X.K) w σ (bnd (bnd (bnd (ga ρ st) fun v st => match v with | .bl b => .ok b st | _ => .bad) fun c st => if c = true then .ok true st else tb ρ st) fun c st => .ok (.bl c) st) Q := po
  cases e : ga ρ st with
  | ok v st1 =>
    refine ⟨w, ρ, st, ok, sl, ?_⟩
    rw [e] at po ⊢
    intro w1 H1 vx l1 ok1 rx
    cases v with
    | bl c =>
      have ev : vx = .bl c := rx
      refine ⟨c, ev, ?_⟩
      cases c with
      | false => exact ⟨w1, ρ, st1, ok1, sl.mono l1, Post.mono l1 po⟩
      | true => exact po w1 H1 (.bl true) l1 ok1 rfl
    | _ => exact po.elim
  | exc c st1 => rw [e] at po; exact ⟨w, ρ, st, ok, sl, by rw [e]; exact po⟩
  | bad => rw [e] at po; exact po.elim
theorem se_not (ha : PE X a (tG X.K W ga)) : PE X (.UnaryOp .Not a pos) (tG X.K W (gVT (gNot (gB ga)))) := by
  refine pe_imp (pe_not ha) fun σ H Q ⟨w, ρ, st, ok, sl, po⟩ => ?_
  have po : Post X.K W (Rep X.K) w σ (bnd (bnd (bnd (ga ρ st) fun v st => match v with | .bl b => .ok b st | _ => .bad) fun c st => .ok (!c) st) fun c st => .ok (.bl c) st) Q := po
  cases e : ga ρ st with
  | ok v st1 =>
    refine ⟨w, ρ, st, ok, sl, ?_⟩
    rw [e] at po ⊢
    intro w1 H1 vx l1 ok1 rx
    cases v with
    | bl c => exact ⟨c, rx, po w1 H1 (.bl (!c)) l1 ok1 rfl⟩
    | _ => exact po.elim
  | exc c st1 => rw [e] at po; exact ⟨w, ρ, st, ok, sl, by rw [e]; exact po⟩
  | bad => rw [e] at po; exact po.elim
/-- a value, seen as a truth that is a value -/
theorem se_vt (ha : PE X a (tG X.K W ga)) : PE X a (tG X.K W (gVT (gB ga))) := by
  refine pe_imp ha fun σ H Q ⟨w, ρ, st, ok, sl, po⟩ => ⟨w, ρ, st, ok, sl, ?_⟩
  have po : Post X.K W (Rep X.K) w σ (bnd (bnd (ga ρ st) fun v st => match v with | .bl b => .ok b st | _ => .bad) fun c st => .ok (.bl c) st) Q := po
  cases e : ga ρ st with
  | ok v st1 =>
    rw [e] at po
    cases v with
    | bl c => exact po
    | _ => exact po.elim
  | exc c st1 => rw [e] at po; exact po
  | bad => rw [e] at po; exact po.elim
theorem se_if {c : Expr} {gc : GT} (hc : PT X c (tGT X.K W gc)) (ha : PE X a (tG X.K W ga)) (hb : PE X b (tG X.K W gb)) : PE X (.IfExp c a b pos) (tG X.K W (gIf gc ga gb)) := by
  refine pe_imp (pe_ifExp hc ha hb) fun σ H Q ⟨w, ρ, st, ok, sl, po⟩ => ?_
  refine ⟨w, ρ, st, ok, sl, post_bind (rel2 := Rep X.K) po fun c st1 w1 H1 c' l1 ok1 e po1 => ?_⟩
  subst e
  cases c with
  | true => exact ⟨w1, ρ, st1, ok1, sl.mono l1, po1⟩
  | false => exact ⟨w1, ρ, st1, ok1, sl.mono l1, po1⟩

/-! ### argument lists, displays -/
theorem sa_nil : PA X [] (tGA X.K W (gArgs [])) := by
  refine pa_imp pa_nil fun σ H Q ⟨w, ρ, st, ok, sl, po⟩ => ?_
  exact po w H [] (Le.refl _) ok rfl
theorem sa_cons (ha : PE X e (tG X.K W g)) (hr : PA X es (tGA X.K W (gArgs gs))) (hs : starEach (e :: es) X.env = (false, eval e X.env) :: starEach es X.env := by rfl) : PA X (e :: es) (tGA X.K W (gArgs (g :: gs))) := by
  refine pa_imp (pa_cons ha hr hs) fun σ H Q ⟨w, ρ, st, ok, sl, po⟩ => ?_
  refine ⟨w, ρ, st, ok, sl, post_bind (rel2 := RepL X.K) po fun x st1 w1 H1 vx l1 ok1 rx po1 => ?_⟩
  refine ⟨w1, ρ, st1, ok1, sl.mono l1, post_bind (rel2 := RepL X.K) po1 fun xs st2 w2 H2 vs l2 ok2 rs po2 => ?_⟩
  exact po2 w2 H2 (vx :: vs) (Le.refl _) ok2 ⟨vx, vs, rfl, rx.mono l2, rs⟩
theorem small_line {n : Nat} (h : n ≤ 1000) : n ≤ sizeLine := Nat.le_of_lt (small1000 h)
/-- an argument list, its length known -/
theorem tGA_len {σ : L2.St} {H : Hp} {rel : Wd → PV → V → Prop} {Q : VK} {k : List PV → List SO → Res PV} {w : Wd} {ρ : REnv} {st : List SO} (ok : WOk X.K w H st) (sl : Slots X.K w ρ σ)
    (po : Post X.K W rel w σ (bnd (gArgs gs ρ st) k) Q) {R : List V → Hp → Prop}
    (i : ∀ xs st' w' H' vs, xs.length = gs.length → Le w w' → WOk X.K w' H' st' → RepL X.K w' xs vs → Post X.K W rel w' σ (k xs st') Q → R vs H') : tGA X.K W (gArgs gs) σ H R := by
  refine ⟨w, ρ, st, ok, sl, ?_⟩
  cases e : gArgs gs ρ st with
  | ok xs st1 =>
    rw [e] at po
    exact fun w1 H1 vs l1 ok1 rs => i xs st1 w1 H1 vs (gArgs_len e) l1 ok1 rs (Post.mono l1 po)
  | exc c st1 => rw [e] at po; exact po
  | bad => rw [e] at po; exact po.elim
end
end Z
/-! Displays, calls, statements, loops, defs. -/
namespace Z
open PySem PySem.Spec PyProof.Rows L2
section
variable {X : Cx} {W : WX} {pos : Pos} {a b e : Expr} {es : List Expr} {ga gb g : G} {gs : List G}
theorem se_tup {k : Nat} (h : PA X es (tGA X.K W (gArgs gs))) (hl : gs.length ≤ 1000 := by first | decide | exact Nat.le_of_ble_eq_true rfl) : PE X (.Tuple es k pos) (tG X.K W (gTupE gs)) := by
  refine pe_imp (pe_tup h) fun σ H Q ⟨w, ρ, st, ok, sl, po⟩ => ?_
  refine tGA_len ok sl po fun xs st1 w1 H1 vs hx l1 ok1 rs po1 => ⟨by rw [rs.length, hx]; exact small_line hl, fun p hp => ?_⟩
  exact po1 (w1.frz p (.tup vs)) _ _ (le_frz ok1 hp _) (ok1.frz hp _) ⟨p, vs, rfl, .inl (.inl upd_same), rs.mono (le_frz ok1 hp _)⟩
/-- a list that nobody changes -/
theorem se_lst (h : PA X es (tGA X.K W (gArgs gs))) (hl : gs.length ≤ 1000 := by first | decide | exact Nat.le_of_ble_eq_true rfl) : PE X (.List es pos) (tG X.K W (gLstE gs)) := by
  refine pe_imp (pe_lst h) fun σ H Q ⟨w, ρ, st, ok, sl, po⟩ => ?_
  refine tGA_len ok sl po fun xs st1 w1 H1 vs hx l1 ok1 rs po1 => ⟨by rw [rs.length, hx]; exact small_line hl, fun p hp => ?_⟩
  exact po1 (w1.frz p (.lst vs)) _ _ (le_frz ok1 hp _) (ok1.frz hp _) ⟨p, vs, rfl, .inl (.inl upd_same), rs.mono (le_frz ok1 hp _)⟩
/-- a list that is to be changed -/
theorem se_new (h : PA X es (tGA X.K W (gArgs gs))) (hl : gs.length ≤ 1000 := by first | decide | exact Nat.le_of_ble_eq_true rfl) : PE X (.List es pos) (tG X.K W (gNewE gs)) := by
  refine pe_imp (pe_lst h) fun σ H Q ⟨w, ρ, st, ok, sl, po⟩ => ?_
  refine tGA_len ok sl po fun xs st1 w1 H1 vs hx l1 ok1 rs po1 => ⟨by rw [rs.length, hx]; exact small_line hl, fun p hp => ?_⟩
  have l := le_new w1 p
  refine po1 (w1.new p) _ _ l (ok1.new hp (c := .lst xs) ⟨vs, rfl, rs⟩) ⟨p, rfl, ?_⟩
  show (w1.adr ++ [p])[st1.length]? = some p
  rw [← ok1.len]; simp
/-! ### calls -/
theorem se_bi {id : String} {x : Str} {p : Pos} {f : FL} {r : List V → Hp → VK → Prop} (hc : CallR X (.builtin id) r) (hs : SndL X.K f r) (hv : bootBuiltins x = some (.builtin id)) (hm : X.mg x = none) (ha : PA X (e :: es) (tGA X.K W (gArgs gs))) (hg : Gl X x := by rfl) (hn : x ≠ "__name__" := by decide) (hdb : (x == ("__debug__" : Str)) = false := by decide)
    (he : starEach (e :: es) X.env = (false, eval e X.env) :: starEach es X.env := by rfl) (hpl : (backTo pos (starEach es X.env)).any (·.1) = false := by rfl) : PE X (.Call (.Name x p) (e :: es) [] pos) (tG X.K W (gBi f gs)) := by
  refine pe_imp (pe_callB hc hg hm hv ha hn hdb he hpl) fun σ H Q ⟨w, ρ, st, ok, sl, po⟩ => ?_
  refine ⟨w, ρ, st, ok, sl, post_bind (rel2 := Rep X.K) po fun xs st1 w1 H1 vs l1 ok1 rs po1 => ?_⟩
  cases q : f st1 xs with
  | none => rw [q] at po1; exact po1.elim
  | some z =>
    rw [q] at po1
    exact hs w1 H1 st1 xs z vs Q ok1 rs q fun w' H' vz l o r => po1 w' H' vz l o r
theorem se_bt {T : String} {x : Str} {p : Pos} {f : FL} {r : List V → Hp → VK → Prop} (hc : CallR X (.type T) r) (hs : SndL X.K f r) (hv : bootBuiltins x = some (.type T)) (hm : X.mg x = none) (ha : PA X (e :: es) (tGA X.K W (gArgs gs))) (hg : Gl X x := by rfl) (hn : x ≠ "__name__" := by decide) (hdb : (x == ("__debug__" : Str)) = false := by decide)
    (he : starEach (e :: es) X.env = (false, eval e X.env) :: starEach es X.env := by rfl) (hpl : (backTo pos (starEach es X.env)).any (·.1) = false := by rfl) : PE X (.Call (.Name x p) (e :: es) [] pos) (tG X.K W (gBi f gs)) := by
  refine pe_imp (pe_callTy hc hg hm hv ha hn hdb he hpl) fun σ H Q ⟨w, ρ, st, ok, sl, po⟩ => ?_
  refine ⟨w, ρ, st, ok, sl, post_bind (rel2 := Rep X.K) po fun xs st1 w1 H1 vs l1 ok1 rs po1 => ?_⟩
  cases q : f st1 xs with
  | none => rw [q] at po1; exact po1.elim
  | some z =>
    rw [q] at po1
    exact hs w1 H1 st1 xs z vs Q ok1 rs q fun w' H' vz l o r => po1 w' H' vz l o r

/-! ### what a def does -/
abbrev Fn := List PV → List SO → Res PV
/-- where a call lands -/
def PostF (K : PySem.W.Frag) (w : Wd) (r : Res PV) (Q : VK) (E : XK) : Prop := match r with
  | .ok v st' => ∀ w' H' x, Le w w' → WOk K w' H' st' → Rep K w' v x → Q x H'
  | .exc c st' => ∀ w' H', Le w w' → WOk K w' H' st' → E (.ref (He.ga K c)) none H'
  | .bad => False
def spF (K : PySem.W.Frag) (n : Nat) (F : Fn) : Sp := fun vs H Q E => ∃ w xs st, xs.length = n ∧ WOk K w H st ∧ RepL K w xs vs ∧ PostF K w (F xs st) Q E
/-- the def x of the module does F -/
def Def (P : Program) (w : World) (K : PySem.W.Frag) (mg : Str → Option Value) (base : Heap) (x : Str) (n k : Nat) (F : Fn) : Prop :=
  ∃ f fd ps, ps.length = n ∧ FnOk P w K mg base (L2N.CX P w) k f fd ps (spF K n F) ∧ mg x = some (.ref f) ∧ PySem.W.keepIn K (.ref f) = true ∧ Binds K fd ps []
theorem takes0N {X : Cx} : L2N.Takes X (fun _ _ _ _ => False) := fun _ _ ⟨_, _, _, _, _, _, _, _, _, _, _, _, _, _, _, _, no⟩ => no.elim
theorem se_call {x : Str} {n k : Nat} {F : Fn} {p : Pos} (D : Def X.prog X.w X.K X.mg X.base x n k F) (hr : Room k X.A) (tk : L2N.Takes X W) (ha : PA X (e :: es) (tGA X.K W (gArgs gs))) (hg : Gl X x := by rfl) (hn : gs.length = n := by rfl) (hdb : (x == ("__debug__" : Str)) = false := by decide)
    (he : starEach (e :: es) X.env = (false, eval e X.env) :: starEach es X.env := by rfl) (hpl : (backTo pos (starEach es X.env)).any (·.1) = false := by rfl) : PE X (.Call (.Name x p) (e :: es) [] pos) (tG X.K W (gCall F gs)) := by
  obtain ⟨f, fd, ps, hps, FO, hm, hk, hb⟩ := D
  refine pe_imp (pe_callS FO hr hg hm hk hb (fun σ => L2N.passAt tk σ) ha hdb he hpl) fun σ H Q ⟨w, ρ, st, ok, sl, po⟩ => ?_
  refine tGA_len ok sl po fun xs st1 w1 H1 vs hx l1 ok1 rs po1 => ⟨w1, xs, st1, by rw [hx, hn], ok1, rs, ?_⟩
  cases q : F xs st1 with
  | ok v st2 => rw [q] at po1; exact po1
  | exc c st2 => rw [q] at po1; exact po1
  | bad => rw [q] at po1; exact po1.elim

/-! ### statements -/
def gSkip : GS := fun ρ st => .nx ρ st
def gSeq (a b : GS) : GS := fun ρ st => match a ρ st with
  | .nx ρ' st' => b ρ' st'
  | r => r
def toS (ρ : REnv) (r : Res PV) (k : PV → List SO → SRes) : SRes := match r with
  | .ok v st => k v st
  | .exc c st => .exc c ρ st
  | .bad => .bad
def toST (ρ : REnv) (r : Res Bool) (k : Bool → List SO → SRes) : SRes := match r with
  | .ok v st => k v st
  | .exc c st => .exc c ρ st
  | .bad => .bad
def gRet (g : G) : GS := fun ρ st => toS ρ (g ρ st) fun v st => .ret v st
def gAsg (g : G) (t : PV → GS) : GS := fun ρ st => toS ρ (g ρ st) fun v st => t v ρ st
def gSet (i : Nat) (g : G) : GS := fun ρ st => toS ρ (g ρ st) fun v st => .nx (ρ.set i (some v)) st
def gExpr (g : G) : GS := fun ρ st => toS ρ (g ρ st) fun _ st => .nx ρ st
def gIfS (c : GT) (a b : GS) : GS := fun ρ st => toST ρ (c ρ st) fun c st => if c = true then a ρ st else b ρ st
def gRaise (c : Str) : GS := fun ρ st => .exc c ρ st
def whl (c : GT) (b : GS) : Nat → GS
  | 0 => fun _ _ => .bad
  | n + 1 => fun ρ st => toST ρ (c ρ st) fun t st => if t = true then (match b ρ st with
    | .nx ρ' st' => whl c b n ρ' st'
    | r => r) else .nx ρ st
/-- μ: turns enough -/
def gWhile (μ : REnv → Nat) (c : GT) (b : GS) : GS := fun ρ st => whl c b (μ ρ) ρ st

variable {K : PySem.W.Frag} {w : Wd} {σ : L2.St} {H : Hp} {ρ : REnv} {st : List SO} {D : Ends}
theorem post_toS {r : Res PV} {k : PV → List SO → SRes} (sl : Slots K w ρ σ) (h : PostS K W w (toS ρ r k) D) {R : VK}
    (i : ∀ v st' w' H' x, Le w w' → WOk K w' H' st' → Rep K w' v x → PostS K W w' (k v st') D → R x H') : Post K W (Rep K) w σ r R := by
  cases r with
  | ok v st => exact fun w' H' x l o q => i v st w' H' x l o q (PostS.mono l h)
  | exc c st => exact fun w' H' l o => h w' σ H' l o (sl.mono l)
  | bad => exact h
theorem post_toST {r : Res Bool} {k : Bool → List SO → SRes} (sl : Slots K w ρ σ) (h : PostS K W w (toST ρ r k) D) {R : Bool → Hp → Prop}
    (i : ∀ v st' w' H', Le w w' → WOk K w' H' st' → PostS K W w' (k v st') D → R v H') : Post K W rlB w σ r R := by
  cases r with
  | ok v st => exact fun w' H' x l o q => by subst q; exact i v st w' H' l o (PostS.mono l h)
  | exc c st => exact fun w' H' l o => h w' σ H' l o (sl.mono l)
  | bad => exact h
variable {sa sb : GS} {s1 : Stmt} {rest : List Stmt}
theorem ss_nil : PSs X [] (tS X.K W gSkip) := pss_imp pss_nil fun D σ H ⟨w, ρ, st, ok, sl, po⟩ => po w σ H (Le.refl w) ok sl
theorem ss_one (h : PS X s1 (tS X.K W sa)) : PSs X [s1] (tS X.K W sa) := pss_one h
theorem ss_cons (h : PS X s1 (tS X.K W sa)) (hr : PSs X rest (tS X.K W sb)) : PSs X (s1 :: rest) (tS X.K W (gSeq sa sb)) := by
  refine pss_imp (pss_cons h hr) fun D σ H ⟨w, ρ, st, ok, sl, po⟩ => ⟨w, ρ, st, ok, sl, ?_⟩
  have po : PostS X.K W w (match sa ρ st with | .nx ρ' st' => sb ρ' st' | r => r) D := po
  cases e : sa ρ st with
  | nx ρ' st' => rw [e] at po; exact fun w' σ' H' l o s => ⟨w', ρ', st', o, s, PostS.mono l po⟩
  | ret v st' => rw [e] at po; exact po
  | exc c ρ' st' => rw [e] at po; exact po
  | bad => rw [e] at po; exact po.elim
theorem ss_pass : PS X (.Pass pos) (tS X.K W gSkip) := ps_imp ps_pass fun D σ H ⟨w, ρ, st, ok, sl, po⟩ => po w σ H (Le.refl w) ok sl
theorem ss_ret (he : PE X e (tG X.K W g)) : PS X (.Return (some e) pos) (tS X.K W (gRet g)) := by
  refine ps_imp (ps_ret he) fun D σ H ⟨w, ρ, st, ok, sl, po⟩ => ⟨w, ρ, st, ok, sl, post_toS sl po fun v st' w' H' x l o r q => ?_⟩
  exact q w' H' x (Le.refl _) o r
theorem ss_expr (he : PE X e (tG X.K W g)) (hs : swapsWith e none pos.line X.env = pure false := by rfl) : PS X (.Expr e pos) (tS X.K W (gExpr g)) := by
  refine ps_imp (ps_expr he hs) fun D σ H ⟨w, ρ, st, ok, sl, po⟩ => ⟨w, ρ, st, ok, sl, post_toS sl po fun v st' w' H' x l o r q => ?_⟩
  exact q w' σ H' (Le.refl _) o (sl.mono l)
theorem ss_set {x : Str} {pos' : Pos} (i : Nat) (hN : X.N.Nodup) (he : PE X e (tG X.K W g)) (hi : X.N[i]? = some x := by rfl) (hx : Loc X.env.scope x := by first | exact Or.inl rfl | exact Or.inr rfl) (hs : swapsWith e (some (.Name x pos')) pos.line X.env = pure false := by rfl)
    (hf : X.fn x = true ∨ X.env.scope.names.lookup x = some .local := by first | exact .inl rfl | exact .inr rfl) : PS X (.Assign [.Name x pos'] e pos) (tS X.K W (gSet i g)) := by
  refine ps_imp (ps_set hN hi hx he hs hf) fun D σ H ⟨w, ρ, st, ok, sl, po⟩ => ⟨w, ρ, st, ok, sl, post_toS sl po fun v st' w' H' y l o r q => ?_⟩
  exact q w' _ H' (Le.refl _) o ((sl.mono l).set r)
theorem ss_if {c : Expr} {as bs : List Stmt} {gc : GT} (hc : PT X c (tGT X.K W gc)) (ha : PSs X as (tS X.K W sa)) (hb : PSs X bs (tS X.K W sb)) : PS X (.If c as bs pos) (tS X.K W (gIfS gc sa sb)) := by
  refine ps_imp (ps_if hc ha hb) fun D σ H ⟨w, ρ, st, ok, sl, po⟩ => ⟨w, ρ, st, ok, sl, post_toST sl po fun c st' w' H' l o q => ?_⟩
  cases c with
  | true => exact ⟨w', ρ, st', o, sl.mono l, q⟩
  | false => exact ⟨w', ρ, st', o, sl.mono l, q⟩

/-! ### targets -/
/-- a target takes a value -/
def tTg (K : PySem.W.Frag) (is : List Nat) (t : PV → REnv → Option REnv) : TG := fun v σ H Q => ∃ w ρ st x ρ', WOk K w H st ∧ Slots K w ρ σ ∧ Rep K w x v ∧ t x ρ = some ρ' ∧ ∀ w' σ' H', Le w w' → WOk K w' H' st → Slots K w' ρ' σ' → wipe σ' is = wipe σ is → Q σ' H'
def tTgs (K : PySem.W.Frag) (is : List Nat) (t : List PV → REnv → Option REnv) : TGs := fun vs σ H Q => ∃ w ρ st xs ρ', WOk K w H st ∧ Slots K w ρ σ ∧ RepL K w xs vs ∧ t xs ρ = some ρ' ∧ ∀ w' σ' H', Le w w' → WOk K w' H' st → Slots K w' ρ' σ' → wipe σ' is = wipe σ is → Q σ' H'
theorem wipe_set1 (σ : L2.St) (i : Nat) (x : Option V) : ∀ is : List Nat, (wipe (σ.set i x) is).set i none = (wipe σ is).set i none
  | [] => by simp [wipe]
  | j :: is => by
    show ((wipe (σ.set i x) is).set j none).set i none = ((wipe σ is).set j none).set i none
    by_cases h : j = i
    · subst h; rw [wipe_set1 σ j x is]
    · rw [List.set_comm _ _ h, wipe_set1 σ i x is, List.set_comm _ _ (Ne.symm h)]
theorem wipe_set {σ : L2.St} {i : Nat} {x : Option V} : ∀ {is : List Nat}, i ∈ is → wipe (σ.set i x) is = wipe σ is
  | [], h => by cases h
  | j :: is, h => by
    show (wipe (σ.set i x) is).set j none = (wipe σ is).set j none
    by_cases e : i = j
    · subst e; exact wipe_set1 σ i x is
    · rw [wipe_set (is := is) (by cases h with | head => exact absurd rfl e | tail _ h => exact h)]
def tgName (i : Nat) : PV → REnv → Option REnv := fun v ρ => some (ρ.set i (some v))
def tgNil : List PV → REnv → Option REnv
  | [], ρ => some ρ
  | _ :: _, _ => none
def tgCons (t : PV → REnv → Option REnv) (u : List PV → REnv → Option REnv) : List PV → REnv → Option REnv
  | [], _ => none
  | x :: xs, ρ => (t x ρ).bind (u xs)
def tgTup (n : Nat) (u : List PV → REnv → Option REnv) : PV → REnv → Option REnv
  | .tup xs, ρ => if xs.length = n then u xs ρ else none
  | _, _ => none
theorem pg_imp {tg : Expr} {t t' : TG} (h : PG X tg t) (i : ∀ v σ H Q, t' v σ H Q → t v σ H Q) : PG X tg t' := ⟨fun pins s σ H v u Q I r q => h.run pins s σ H v u Q I r (i v σ H Q q)⟩
theorem pgs_imp {tg : List Expr} {t t' : TGs} (h : PGs X tg t) (i : ∀ v σ H Q, t' v σ H Q → t v σ H Q) : PGs X tg t' := ⟨fun pins s σ H v u Q I r q => h.run pins s σ H v u Q I r (i v σ H Q q)⟩
variable {is : List Nat}
theorem sg_name {x : Str} (i : Nat) (hN : X.N.Nodup) (hi : X.N[i]? = some x := by rfl) (hx : Loc X.env.scope x := by first | exact Or.inl rfl | exact Or.inr rfl)
    (hf : X.fn x = true ∨ X.env.scope.names.lookup x = some .local := by first | exact .inl rfl | exact .inr rfl) (him : i ∈ is := by decide) : PG X (.Name x pos) (tTg X.K is (tgName i)) := by
  refine pg_imp (pg_name hN hi hx hf) fun v σ H Q ⟨w, ρ, st, x, ρ', ok, sl, r, e, q⟩ => ?_
  cases e
  exact q w _ H (Le.refl _) ok (sl.set r) (wipe_set him)
theorem sgs_nil : PGs X [] (tTgs X.K is tgNil) := by
  refine pgs_imp pgs_nil fun v σ H Q ⟨w, ρ, st, xs, ρ', ok, sl, r, e, q⟩ => ?_
  cases xs with
  | nil => cases e; exact ⟨r, q w σ H (Le.refl _) ok sl rfl⟩
  | cons x xs => cases e
theorem sgs_cons {t : PV → REnv → Option REnv} {u : List PV → REnv → Option REnv} (h1 : PG X e (tTg X.K is t)) (h2 : PGs X es (tTgs X.K is u))
    (hs : (assignEach (e :: es) X.env).map (·.2) = assign e X.env :: (assignEach es X.env).map (·.2) := by rfl) : PGs X (e :: es) (tTgs X.K is (tgCons t u)) := by
  refine pgs_imp (pgs_cons h1 h2 hs) fun v σ H Q ⟨w, ρ, st, xs, ρ', ok, sl, r, e, q⟩ => ?_
  cases xs with
  | nil => cases e
  | cons x xs =>
    obtain ⟨vx, vr, ev, rx, rr⟩ := r
    have e' : (t x ρ).bind (u xs) = some ρ' := e
    cases e1 : t x ρ with
    | none => rw [e1] at e'; cases e'
    | some ρ1 =>
      rw [e1] at e'
      refine ⟨vx, vr, ev, w, ρ, st, x, ρ1, ok, sl, rx, e1, fun w1 σ1 H1 l1 o1 s1 z1 => ?_⟩
      exact ⟨w1, ρ1, st, xs, ρ', o1, s1, rr.mono l1, e', fun w2 σ2 H2 l2 o2 s2 z2 => q w2 σ2 H2 (l1.trans l2) o2 s2 (z2.trans z1)⟩
theorem sg_tup {k n : Nat} {u : List PV → REnv → Option REnv} (hc : X.calm = true) (h : PGs X es (tTgs X.K is u))
    (hn : (assignEach es X.env).length = n := by rfl) (hst : (assignEach es X.env).findIdx? (·.1) = none := by rfl) : PG X (.Tuple es k pos) (tTg X.K is (tgTup n u)) := by
  refine pg_imp (pg_tup hc h hn hst) fun v σ H Q ⟨w, ρ, st, x, ρ', ok, sl, r, e, q⟩ => ?_
  cases x with
  | tup xs =>
    obtain ⟨a, vs, ev, hq, rs⟩ := r
    have e' : (if xs.length = n then u xs ρ else none) = some ρ' := e
    by_cases hx : xs.length = n
    · rw [if_pos hx] at e'
      exact ⟨a, vs, ev, sqt_mono ok.fz hq, by rw [rs.length]; exact hx, w, ρ, st, xs, ρ', ok, sl, rs, e', q⟩
    · rw [if_neg hx] at e'; cases e'
  | _ => cases e
def gTo (t : PV → REnv → Option REnv) : PV → GS := fun v ρ st => match t v ρ with
  | some ρ' => .nx ρ' st
  | none => .bad
theorem ss_asg {tg : Expr} {t : PV → REnv → Option REnv} (he : PE X e (tG X.K W g)) (hg : PG X tg (tTg X.K is t)) (hs : swapsWithSole [tg] e pos.line X.env = pure false := by rfl) (hw : swappedStores [tg] e X.env = pure none := by rfl)
    (h1 : (assignEach [tg] X.env).map (·.2) = [assign tg X.env] := by rfl) : PS X (.Assign [tg] e pos) (tS X.K W (gAsg g (gTo t))) := by
  refine ps_imp (ps_asg he hg hs hw h1) fun D σ H ⟨w, ρ, st, ok, sl, po⟩ => ⟨w, ρ, st, ok, sl, post_toS sl po fun v st' w' H' y l o r q => ?_⟩
  have q : PostS X.K W w' (match t v ρ with | some ρ' => .nx ρ' st' | none => .bad) D := q
  cases e1 : t v ρ with
  | none => rw [e1] at q; exact q.elim
  | some ρ1 =>
    rw [e1] at q
    exact ⟨w', ρ, st', v, ρ1, o, sl.mono l, r, e1, fun w2 σ2 H2 l2 o2 s2 _ => q w2 σ2 H2 l2 o2 s2⟩
/-- a, b = x, y of plain local names -/
def gPar (i j : Nat) (a b : G) : GS := fun ρ st => match gArgs [a, b] ρ st with
  | .ok [x, y] st' => .nx ((ρ.set i (some x)).set j (some y)) st'
  | .ok _ _ => .bad
  | .exc c st' => .exc c ρ st'
  | .bad => .bad
/-! ### while -/
theorem ss_while {c : Expr} {body : List Stmt} {gc : GT} (μ : REnv → Nat) (hp : PassesOwn (model X.prog X.w) X.A X.env X.xe) (hc : PT X c (tGT X.K W gc)) (hb : PSs X body (tS X.K W sb)) : PS X (.While c body [] pos) (tS X.K W (gWhile μ gc sb)) := by
  refine ps_imp (ps_while hp hc hb) fun D σ H ⟨w, ρ, st, ok, sl, po⟩ => ?_
  refine ⟨fun m σ H => ∃ w ρ st, WOk X.K w H st ∧ Slots X.K w ρ σ ∧ PostS X.K W w (whl gc sb m ρ st) D, ⟨μ ρ, w, ρ, st, ok, sl, po⟩, ?_⟩
  rintro m σ H ⟨w, ρ, st, ok, sl, po⟩
  cases m with
  | zero => exact po.elim
  | succ m =>
    refine ⟨w, ρ, st, ok, sl, post_toST sl po fun t st' w' H' l o q => ?_⟩
    cases t with
    | false => exact q w' σ H' (Le.refl _) o (sl.mono l)
    | true =>
      refine ⟨fun σ H => ∃ w ρ st, WOk X.K w H st ∧ Slots X.K w ρ σ ∧ PostS X.K W w (whl gc sb m ρ st) D, fun σ' H' h => ⟨m, Nat.lt_succ_self m, h⟩, w', ρ, st', o, sl.mono l, ?_⟩
      have q : PostS X.K W w' (match sb ρ st' with | .nx ρ' st' => whl gc sb m ρ' st' | r => r) D := q
      cases e : sb ρ st' with
      | nx ρ' st2 => rw [e] at q; exact fun w2 σ2 H2 l2 o2 s2 => ⟨w2, ρ', st2, o2, s2, PostS.mono l2 q⟩
      | ret v st2 => rw [e] at q; exact q
      | exc c ρ' st2 => rw [e] at q; exact q
      | bad => rw [e] at q; exact q.elim
end
end Z
/-! Loops over items, comprehensions, raising, methods, defs. -/
namespace Z
open PySem PySem.Spec PyProof.Rows L2

/-! ### what is walked -/
/-- J walks the items xs (from the world w on) -/
structure Itm (K : PySem.W.Frag) (w : Wd) (J : It) (xs : List PV) : Prop where
  go : ∀ i w1 H st, LeF w w1 → WOk K w1 H st → i < xs.length → J.go i H
  yld : ∀ i w1 H st x H', LeF w w1 → WOk K w1 H st → i < xs.length → J.yld i H x H' → ∃ w2 pv, Le w1 w2 ∧ WOk K w2 H' st ∧ xs[i]? = some pv ∧ Rep K w2 pv x
  stop : ∀ w1 H st, LeF w w1 → WOk K w1 H st → J.stop xs.length H
theorem Itm.mono {K : PySem.W.Frag} {w w' : Wd} {J : It} {xs : List PV} (l : LeF w w') (h : Itm K w J xs) : Itm K w' J xs :=
  ⟨fun i w1 H st l1 => h.go i w1 H st (l.trans l1), fun i w1 H st x H' l1 => h.yld i w1 H st x H' (l.trans l1), fun w1 H st l1 => h.stop w1 H st (l.trans l1)⟩
def tI (K : PySem.W.Frag) (W : WX) (g : GL) : TI := fun σ H R => ∃ w ρ st, WOk K w H st ∧ Slots K w ρ σ ∧ Post K W (fun w xs J => Itm K w J xs) w σ (g ρ st) R
theorem pi_imp {X : Cx} {tg e : Expr} {t t' : TI} (h : PI X tg e t) (i : ∀ σ H Q, t' σ H Q → t σ H Q) : PI X tg e t' := ⟨fun pins s σ H Q I q => h.run pins s σ H Q I (i σ H Q q)⟩

theorem itm_list {K : PySem.W.Frag} {w : Wd} {a : Addr} {vs : List V} {xs : List PV} (h : SqL K w.F a vs) (r : RepL K w xs vs) : Itm K w (Itl K a) xs := by
  have len := r.length
  have sq : ∀ {w1 : Wd} {H : Hp} {st : List SO}, LeF w w1 → WOk K w1 H st → SqL K H a vs := fun l ok => sql_mono ok.fz (sql_mono l.F h)
  refine ⟨fun i w1 H st l ok hi => ⟨vs, vs[i]'(by omega), sq l ok, by simp⟩, fun i w1 H st x H' l ok hi y => ?_, fun w1 H st l ok => ⟨vs, sq l ok, by omega⟩⟩
  obtain ⟨e, y⟩ := y
  subst e
  have hx := y vs (sq l ok)
  obtain ⟨v, hv, rv⟩ := (r.monoF l).get (i := i) (x := xs[i]) (by simp)
  rw [hx] at hv
  cases hv
  exact ⟨w1, xs[i], Le.refl _, ok, by simp, rv⟩
theorem itm_tup {K : PySem.W.Frag} {w : Wd} {a : Addr} {vs : List V} {xs : List PV} (h : SqT K w.F a vs) (r : RepL K w xs vs) : Itm K w (Itt K a) xs := by
  have len := r.length
  have sq : ∀ {w1 : Wd} {H : Hp} {st : List SO}, LeF w w1 → WOk K w1 H st → SqT K H a vs := fun l ok => sqt_mono ok.fz (sqt_mono l.F h)
  refine ⟨fun i w1 H st l ok hi => ⟨vs, vs[i]'(by omega), sq l ok, by simp⟩, fun i w1 H st x H' l ok hi y => ?_, fun w1 H st l ok => ⟨vs, sq l ok, by omega⟩⟩
  obtain ⟨e, y⟩ := y
  subst e
  have hx := y vs (sq l ok)
  obtain ⟨v, hv, rv⟩ := (r.monoF l).get (i := i) (x := xs[i]) (by simp)
  rw [hx] at hv
  cases hv
  exact ⟨w1, xs[i], Le.refl _, ok, by simp, rv⟩
/-- the ints lo, lo + 1, .. -/
def rng (lo : Int) (n : Nat) : List PV := (List.range n).map fun i => .int (lo + (i : Nat))
theorem rng_len (lo : Int) (n : Nat) : (rng lo n).length = n := by simp [rng]
theorem itm_rng {K : PySem.W.Frag} {w : Wd} {lo : Int} {n : Nat} : Itm K w (Itr lo n) (rng lo n) := by
  refine ⟨fun i w1 H st l ok hi => by rw [rng_len] at hi; exact hi, fun i w1 H st x H' l ok hi y => ?_, fun w1 H st l ok => by rw [rng_len]; exact Nat.le_refl n⟩
  obtain ⟨e, y⟩ := y
  subst e
  rw [rng_len] at hi
  exact ⟨w1, .int (lo + i), Le.refl _, ok, by simp [rng, hi], y⟩

/-- the items of a list or tuple that stands -/
def seqOf : PV → Option (List PV)
  | .lst xs => some xs
  | .tup xs => some xs
  | _ => none
def gItL (g : G) : GL := fun ρ st => bnd (g ρ st) fun v st => match v with
  | .lst xs => .ok xs st
  | _ => .bad
def gItT (g : G) : GL := fun ρ st => bnd (g ρ st) fun v st => match v with
  | .tup xs => .ok xs st
  | _ => .bad
/-- bounds that a range takes -/
def RngOk (j : Int) : Prop := -(2 ^ 62) ≤ j ∧ j < 2 ^ 62
def LenOk (n : Nat) : Prop := n < sizeLine
open Classical in
noncomputable def gRng1 (g : G) : GL := fun ρ st => bnd (g ρ st) fun v st => match v with
  | .int j => if RngOk j then .ok (rng 0 j.toNat) st else .bad
  | _ => .bad
open Classical in
noncomputable def gRng2 (g h : G) : GL := fun ρ st => bnd (gArgs [g, h] ρ st) fun v st => match v with
  | [.int i, .int j] => if RngOk i ∧ RngOk j then .ok (rng i (j - i).toNat) st else .bad
  | _ => .bad
/-- run over items -/
def forg (t : PV → REnv → Option REnv) (b : GS) : List PV → GS
  | [] => fun ρ st => .nx ρ st
  | x :: xs => fun ρ st => match t x ρ with
    | some ρ1 => (match b ρ1 st with
      | .nx ρ2 st2 => forg t b xs ρ2 st2
      | r => r)
    | none => .bad
def toSL (ρ : REnv) (r : Res (List PV)) (k : List PV → List SO → SRes) : SRes := match r with
  | .ok v st => k v st
  | .exc c st => .exc c ρ st
  | .bad => .bad
def gFor (it : GL) (t : PV → REnv → Option REnv) (b : GS) : GS := fun ρ st => toSL ρ (it ρ st) fun xs st => forg t b xs ρ st
/-- what a comprehension makes of the items -/
def compg (t : PV → REnv → Option REnv) (c : GT) (e : G) (ρ : REnv) : List PV → List SO → Res (List PV)
  | [], st => .ok [] st
  | x :: xs, st => match t x ρ with
    | some ρ1 => bnd (c ρ1 st) fun b st1 => if b = true then bnd (e ρ1 st1) fun y st2 => bnd (compg t c e ρ xs st2) fun ys st3 => .ok (y :: ys) st3 else compg t c e ρ xs st1
    | none => .bad
def gYes : GT := fun _ st => .ok true st
def wipeR (ρ : REnv) : List Nat → REnv
  | [] => ρ
  | v :: vs => (wipeR ρ vs).set v none
open Classical in
noncomputable def gComp (it : GL) (t : PV → REnv → Option REnv) (c : GT) (e : G) (vs : List Nat) : G := fun ρ st => bnd (it ρ st) fun xs st => match compg t c e (wipeR ρ vs) xs st with
  | .ok ys st' => if LenOk ys.length then .ok (.lst ys) st' else .bad
  | _ => .bad

section
variable {X : Cx} {W : WX} {pos : Pos} {a b e tg : Expr} {es : List Expr} {ga gb g : G} {gs : List G}
theorem si_list (h : PE X e (tG X.K W g)) : PI X tg e (tI X.K W (gItL g)) := by
  refine pi_imp (pi_list h) fun σ H R ⟨w, ρ, st, ok, sl, po⟩ => ⟨w, ρ, st, ok, sl, post_bind (rel2 := fun w xs J => Itm X.K w J xs) po fun v st' w' H' x l o r q => ?_⟩
  cases v with
  | lst xs =>
    obtain ⟨a, vs, ev, sq, rs⟩ := r
    exact ⟨a, ev, ⟨vs, sql_mono o.fz sq⟩, q w' H' _ (Le.refl _) o (itm_list sq rs)⟩
  | _ => exact q.elim
theorem si_tup (h : PE X e (tG X.K W g)) : PI X tg e (tI X.K W (gItT g)) := by
  refine pi_imp (pi_tup h) fun σ H R ⟨w, ρ, st, ok, sl, po⟩ => ⟨w, ρ, st, ok, sl, post_bind (rel2 := fun w xs J => Itm X.K w J xs) po fun v st' w' H' x l o r q => ?_⟩
  cases v with
  | tup xs =>
    obtain ⟨a, vs, ev, sq, rs⟩ := r
    exact ⟨a, ev, ⟨vs, sqt_mono o.fz sq⟩, q w' H' _ (Le.refl _) o (itm_tup sq rs)⟩
  | _ => exact q.elim
open Classical in
theorem si_rng1 {p : Pos} (hm : X.mg "range" = none) (ha : PE X a (tG X.K W ga)) (hg : Gl X "range" := by rfl) (hs : starEach [a] X.env = [(false, eval a X.env)] := by rfl) : PI X tg (.Call (.Name "range" p) [a] [] pos) (tI X.K W (gRng1 ga)) := by
  refine pi_imp (pi_range1 hg hm (pa_cons ha pa_nil hs) hs) fun σ H R ⟨w, ρ, st, ok, sl, po⟩ => ⟨w, ρ, st, ok, sl, post_bind (rel2 := fun w xs J => Itm X.K w J xs) po fun v st' w' H' x l o r q => ?_⟩
  cases v with
  | int j =>
    have ex : x = .int j := r
    subst ex
    have q : Post X.K W (fun w xs J => Itm X.K w J xs) w' σ (if RngOk j then .ok (rng 0 j.toNat) st' else .bad) R := q
    by_cases h1 : RngOk j
    · rw [if_pos h1] at q
      exact ⟨j, rfl, h1.1, h1.2, q w' H' _ (Le.refl _) o itm_rng⟩
    · rw [if_neg h1] at q; exact q.elim
  | _ => exact q.elim
open Classical in
theorem si_rng2 {p : Pos} (hm : X.mg "range" = none) (ha : PA X [a, b] (tGA X.K W (gArgs [ga, gb]))) (hg : Gl X "range" := by rfl) (hs : starEach [a, b] X.env = [(false, eval a X.env), (false, eval b X.env)] := by rfl) (hs2 : starEach [b] X.env = [(false, eval b X.env)] := by rfl) : PI X tg (.Call (.Name "range" p) [a, b] [] pos) (tI X.K W (gRng2 ga gb)) := by
  refine pi_imp (pi_range2 hg hm ha hs hs2) fun σ H R ⟨w, ρ, st, ok, sl, po⟩ => ⟨w, ρ, st, ok, sl, post_bind (rel2 := fun w xs J => Itm X.K w J xs) po fun v st' w' H' vs l o r q => ?_⟩
  have key : ∃ i j, v = [.int i, .int j] := by
    rcases v with _ | ⟨v1, _ | ⟨v2, _ | ⟨v3, v4⟩⟩⟩
    · exact q.elim
    · cases v1 <;> exact q.elim
    · cases v1 with
      | int i => cases v2 with
        | int j => exact ⟨i, j, rfl⟩
        | _ => exact q.elim
      | _ => exact q.elim
    · cases v1 with
      | int i => cases v2 <;> exact q.elim
      | _ => exact q.elim
  obtain ⟨i, j, rfl⟩ := key
  obtain ⟨v1, r1, e1, h1, v2, r2, e2, h2, e3⟩ := r
  have ex : vs = [.int i, .int j] := by
    rw [e1, e2, show r2 = [] from e3, show v1 = .int i from h1, show v2 = .int j from h2]
  have q : Post X.K W (fun w xs J => Itm X.K w J xs) w' σ (if RngOk i ∧ RngOk j then .ok (rng i (j - i).toNat) st' else .bad) R := q
  by_cases hc : RngOk i ∧ RngOk j
  · rw [if_pos hc] at q
    exact ⟨i, j, ex, ⟨hc.1.1, hc.1.2, hc.2.1, hc.2.2⟩, q w' H' _ (Le.refl _) o itm_rng⟩
  · rw [if_neg hc] at q; exact q.elim

theorem PostS.ends {w : Wd} {r : SRes} {D D' : Ends} (h : PostS X.K W w r D) (hn : ∀ σ H, D.nx σ H → D'.nx σ H) (hr : D'.rt = D.rt) : PostS X.K W w r D' := by
  cases r with
  | nx a st => exact fun w' H' x l o s => hn _ _ (h w' H' x l o s)
  | ret a st => exact fun w' H' x l o s => by rw [hr]; exact h w' H' x l o s
  | exc c ρ st => exact h
  | bad => exact h
theorem ss_for {iter : Expr} {body : List Stmt} {gi : GL} {t : PV → REnv → Option REnv} {sb : GS} {is : List Nat} (hp : PassesOwn (model X.prog X.w) X.A X.env X.xe) (hc : X.calm = true) (hi : PI X tg iter (tI X.K W gi)) (hg : PG X tg (tTg X.K is t)) (hb : PSs X body (tS X.K W sb))
    (hs : ∀ x, foldedSetIterable iter X.env x = pure x := by intro _; rfl) : PS X (.For tg iter body [] pos) (tS X.K W (gFor gi t sb)) := by
  refine ps_imp (ps_for hp hc hi hg hb hs) fun D σ H ⟨w, ρ, st, ok, sl, po⟩ => ⟨w, ρ, st, ok, sl, ?_⟩
  have po : PostS X.K W w (toSL ρ (gi ρ st) fun xs st => forg t sb xs ρ st) D := po
  cases e : gi ρ st with
  | exc c st1 => rw [e] at po; exact fun w' H' l o => po w' σ H' l o (sl.mono l)
  | bad => rw [e] at po; exact po.elim
  | ok xs st1 =>
    rw [e] at po
    intro w1 H1 J l1 ok1 it
    have po1 : PostS X.K W w1 (forg t sb xs ρ st1) D := PostS.mono l1 po
    refine ⟨fun i m σ H => ∃ w2 ρ st, m = xs.length - i ∧ i ≤ xs.length ∧ Le w1 w2 ∧ WOk X.K w2 H st ∧ Slots X.K w2 ρ σ ∧ PostS X.K W w2 (forg t sb (xs.drop i) ρ st) D, ⟨_, w1, ρ, st1, rfl, Nat.zero_le _, Le.refl _, ok1, sl.mono l1, by simpa using po1⟩, ?_⟩
    rintro i m σ2 H2 ⟨w2, ρ2, st2, rfl, hi2, l2, ok2, sl2, po2⟩
    by_cases hlt : i < xs.length
    · right
      refine ⟨it.go i w2 H2 st2 l2.toLeF ok2 hlt, fun σ H => ∃ w2 ρ st, Le w1 w2 ∧ WOk X.K w2 H st ∧ Slots X.K w2 ρ σ ∧ PostS X.K W w2 (forg t sb (xs.drop (i + 1)) ρ st) D, ?_, ?_⟩
      · rintro σ' H' ⟨w3, ρ3, st3, l3, ok3, sl3, po3⟩
        exact ⟨xs.length - (i + 1), by omega, w3, ρ3, st3, rfl, hlt, l3, ok3, sl3, po3⟩
      · intro x H' y
        obtain ⟨w3, pv, l3, ok3, hx, rx⟩ := it.yld i w2 H2 st2 x H' l2.toLeF ok2 hlt y
        rw [List.drop_eq_getElem_cons hlt] at po2
        have epv : xs[i] = pv := by rw [List.getElem?_eq_getElem hlt] at hx; exact Option.some.inj hx
        rw [epv] at po2
        have po2 : PostS X.K W w2 (match t pv ρ2 with | some ρ1 => (match sb ρ1 st2 with | .nx ρ2 st2 => forg t sb (xs.drop (i + 1)) ρ2 st2 | r => r) | none => .bad) D := po2
        cases e1 : t pv ρ2 with
        | none => rw [e1] at po2; exact po2.elim
        | some ρ3 =>
          rw [e1] at po2
          refine ⟨w3, ρ2, st2, pv, ρ3, ok3, sl2.mono l3, rx, e1, fun w4 σ4 H4 l4 ok4 sl4 _ => ⟨w4, ρ3, st2, ok4, sl4, ?_⟩⟩
          have l24 := l3.trans l4
          have po2 : PostS X.K W w2 (match sb ρ3 st2 with | .nx ρ2 st2 => forg t sb (xs.drop (i + 1)) ρ2 st2 | r => r) D := po2
          cases e2 : sb ρ3 st2 with
          | nx ρ5 st5 => rw [e2] at po2; exact fun w5 σ5 H5 l5 ok5 sl5 => ⟨w5, ρ5, st5, (l2.trans l24).trans l5, ok5, sl5, PostS.mono (l24.trans l5) po2⟩
          | ret v st5 => rw [e2] at po2; exact PostS.mono l24 po2
          | exc c ρ5 st5 => rw [e2] at po2; exact PostS.mono l24 po2
          | bad => rw [e2] at po2; exact po2.elim
    · left
      have hi3 : i = xs.length := by omega
      subst hi3
      refine ⟨it.stop w2 H2 st2 l2.toLeF ok2, ?_⟩
      rw [List.drop_length] at po2
      exact po2 w2 σ2 H2 (Le.refl _) ok2 sl2
end
end Z
/-! Comprehensions, methods, stores, raising, defs. -/
namespace Z
open PySem PySem.Spec PyProof.Rows L2
abbrev W0 : WX := fun _ _ _ _ => False
theorem Slots.wipe {K : PySem.W.Frag} {w : Wd} {ρ : REnv} {σ : L2.St} (h : Slots K w ρ σ) : ∀ vs : List Nat, Slots K w (wipeR ρ vs) (L2.wipe σ vs)
  | [] => h
  | v :: vs => by
    have ih := Slots.wipe h vs
    refine ⟨by show ((wipeR ρ vs).set v none).length = ((L2.wipe σ vs).set v none).length; rw [List.length_set, List.length_set, ih.len], fun i x e => ?_⟩
    have e' : ((wipeR ρ vs).set v none)[i]? = some (some x) := e
    show ∃ u, ((L2.wipe σ vs).set v none)[i]? = some (some u) ∧ _
    by_cases hv : v = i
    · subst hv
      by_cases hl : v < (wipeR ρ vs).length
      · rw [List.getElem?_set_self hl] at e'; cases e'
      · rw [List.getElem?_eq_none (by simpa using hl)] at e'; cases e'
    · rw [List.getElem?_set_ne hv] at e' ⊢
      exact ih.get i x e'
theorem compg_cons {t : PV → REnv → Option REnv} {c : GT} {e : G} {ρ : REnv} {x : PV} {xs ys : List PV} {st st' : List SO} (h : compg t c e ρ (x :: xs) st = .ok ys st') :
    ∃ ρ1 b st1, t x ρ = some ρ1 ∧ c ρ1 st = .ok b st1 ∧ ((b = true ∧ ∃ y st2 zs, e ρ1 st1 = .ok y st2 ∧ compg t c e ρ xs st2 = .ok zs st' ∧ ys = y :: zs) ∨ (b = false ∧ compg t c e ρ xs st1 = .ok ys st')) := by
  have h : (match t x ρ with
    | some ρ1 => bnd (c ρ1 st) fun b st1 => if b = true then bnd (e ρ1 st1) fun y st2 => bnd (compg t c e ρ xs st2) fun ys st3 => .ok (y :: ys) st3 else compg t c e ρ xs st1
    | none => .bad) = .ok ys st' := h
  cases e1 : t x ρ with
  | none => rw [e1] at h; cases h
  | some ρ1 =>
    rw [e1] at h
    have h : bnd (c ρ1 st) (fun b st1 => if b = true then bnd (e ρ1 st1) fun y st2 => bnd (compg t c e ρ xs st2) fun ys st3 => .ok (y :: ys) st3 else compg t c e ρ xs st1) = .ok ys st' := h
    cases e2 : c ρ1 st with
    | exc _ _ => rw [e2] at h; cases h
    | bad => rw [e2] at h; cases h
    | ok b st1 =>
      rw [e2] at h
      refine ⟨ρ1, b, st1, rfl, e2, ?_⟩
      cases b with
      | false => exact .inr ⟨rfl, h⟩
      | true =>
        have h : bnd (e ρ1 st1) (fun y st2 => bnd (compg t c e ρ xs st2) fun ys st3 => .ok (y :: ys) st3) = .ok ys st' := h
        cases e3 : e ρ1 st1 with
        | exc _ _ => rw [e3] at h; cases h
        | bad => rw [e3] at h; cases h
        | ok y st2 =>
          rw [e3] at h
          have h : bnd (compg t c e ρ xs st2) (fun ys st3 => .ok (y :: ys) st3) = .ok ys st' := h
          cases e4 : compg t c e ρ xs st2 with
          | exc _ _ => rw [e4] at h; cases h
          | bad => rw [e4] at h; cases h
          | ok zs st3 => rw [e4] at h; cases h; exact .inl ⟨rfl, y, st2, zs, by first | exact e3 | rfl, by first | exact e4 | rfl, rfl⟩

/-- in the midst of a comprehension: the list at D so far, what is still to come -/
structure Mid (K : PySem.W.Frag) (w1 : Wd) (t : PV → REnv → Option REnv) (c : GT) (e : G) (ρ : REnv) (D : Addr) (xs fin : List PV) (stf : List SO) (H : Hp) : Prop where
  ex : ∃ w2 st2 vs ys zs, Le w1 w2 ∧ WOk K w2 H st2 ∧ Free w2 D ∧ H D = some (.lst vs) ∧ RepL K w2 ys vs ∧ compg t c e ρ xs st2 = .ok zs stf ∧ fin = ys ++ zs

section
variable {X : Cx} {W : WX} {pos : Pos} {a b e tg : Expr} {es : List Expr} {ga gb g : G} {gs : List G}
open Classical in
theorem tLc_of {K : PySem.W.Frag} {gi : GL} {t : PV → REnv → Option REnv} {gc : GT} {ge : G} {vs : List Nat} {σ : L2.St} {H : Hp} {Q : VK} (h : tG K W (gComp gi t gc ge vs) σ H Q) :
    tLc (tI K W gi) (tTg K vs t) (tGT K W0 gc) (tG K W0 ge) vs σ H Q := by
  obtain ⟨w, ρ, st, ok, sl, po⟩ := h
  refine ⟨w, ρ, st, ok, sl, post_bind (rel2 := Rep K) po fun xs st1 w1 H1 J l1 ok1 it po1 => ?_⟩
  have po1 : Post K W (Rep K) w1 σ (match compg t gc ge (wipeR ρ vs) xs st1 with | .ok ys st' => if LenOk ys.length then .ok (.lst ys) st' else .bad | _ => .bad) Q := po1
  cases e1 : compg t gc ge (wipeR ρ vs) xs st1 with
  | exc _ _ => rw [e1] at po1; exact po1.elim
  | bad => rw [e1] at po1; exact po1.elim
  | ok fin stf =>
    rw [e1] at po1
    by_cases hz : LenOk fin.length
    · have po1 : Post K W (Rep K) w1 σ (if LenOk fin.length then .ok (.lst fin) stf else .bad) Q := po1
      rw [if_pos hz] at po1
      intro D hD
      refine ⟨fun i m H => m = xs.length - i ∧ i ≤ xs.length ∧ Mid K w1 t gc ge (wipeR ρ vs) D (xs.drop i) fin stf H, ⟨_, rfl, Nat.zero_le _, ⟨w1, st1, [], [], fin, Le.refl _, ok1.updF (ok1.free hD) _, ok1.free hD, upd_same, rfl, by simpa using e1, rfl⟩⟩, ?_⟩
      rintro i m H2 ⟨rfl, hi, ⟨w2, st2, acc, ys, zs, l2, ok2, fr2, hD2, rs2, cm2, ef⟩⟩
      by_cases hlt : i < xs.length
      · right
        have okh := ok2.hold fr2 hD2
        have lh : LeF w1 (w2.hold D (.lst acc)) := l2.toLeF.trans ⟨fun _ _ z => z, [], by simp [Wd.hold]⟩
        refine ⟨it.go i _ H2 st2 lh okh hlt, fun H => Mid K w1 t gc ge (wipeR ρ vs) D (xs.drop (i + 1)) fin stf H, fun H' h' => ⟨xs.length - (i + 1), by omega, rfl, hlt, h'⟩, ?_⟩
        intro x H3 y
        obtain ⟨w3, pv, l3, ok3, hx, rx⟩ := it.yld i _ H2 st2 x H3 lh okh hlt y
        have epv : xs[i] = pv := by rw [List.getElem?_eq_getElem hlt] at hx; exact Option.some.inj hx
        rw [List.drop_eq_getElem_cons hlt, epv] at cm2
        obtain ⟨ρ1, bb, st3, et, ec, rest⟩ := compg_cons cm2
        have slw : Slots K w3 (wipeR ρ vs) (L2.wipe σ vs) := by
          have s0 : Slots K w1 (wipeR ρ vs) (L2.wipe σ vs) := (sl.mono l1).wipe vs
          have lf : LeF w1 w3 := lh.trans l3.toLeF
          exact ⟨s0.len, fun i x e => let ⟨v, e2, r⟩ := s0.get i x e; ⟨v, e2, r.monoF lf⟩⟩
        refine ⟨w3, wipeR ρ vs, st2, pv, ρ1, ok3, slw, rx, et, fun w4 σ4 H4 l4 ok4 sl4 hw4 => ⟨?_, ?_⟩⟩
        · have ww : ∀ σ : L2.St, ∀ us : List Nat, L2.wipe (L2.wipe σ us) us = L2.wipe σ us := fun σ us => by
            have : ∀ vs : List Nat, (∀ i ∈ vs, i ∈ us) → L2.wipe (L2.wipe σ vs) us = L2.wipe σ us := fun vs => by
              induction vs with
              | nil => intro _; rfl
              | cons v vs ih =>
                intro h
                show L2.wipe ((L2.wipe σ vs).set v none) us = _
                rw [wipe_set (h v List.mem_cons_self), ih fun i hi => h i (List.mem_cons_of_mem _ hi)]
            exact this us fun i hi => hi
          rw [hw4, ww]
        · refine ⟨w4, ρ1, st2, ok4, sl4, ?_⟩
          rw [ec]
          intro w5 H5 b5 l5 ok5 eb
          subst eb
          rcases rest with ⟨rfl, yv, st4, zs', ee, ecm, ez⟩ | ⟨rfl, ecm⟩
          · rw [if_pos rfl]
            refine ⟨w5, ρ1, st3, ok5, sl4.mono l5, ?_⟩
            rw [ee]
            intro w6 H6 vy l6 ok6 ry
            have l26 : Le (w2.hold D (.lst acc)) w6 := ((l3.trans l4).trans l5).trans l6
            obtain ⟨okU, leU, hDU, frU⟩ := ok6.unhold fr2 l26
            have rsU : RepL K { w6 with R := w2.R } ys acc := rs2.mono leU
            have ryU : Rep K { w6 with R := w2.R } yv vy := Rep.mono' (w := w6) (w' := { w6 with R := w2.R }) (fun _ _ z => z) (fun _ _ z => z) yv vy ry
            have len : acc.length < sizeLine := by
              have hz : fin.length < sizeLine := hz
              rw [ef, ez] at hz
              rw [rs2.length]
              simp at hz
              omega
            refine ⟨acc, hDU, len, ⟨{ w6 with R := w2.R }, st4, acc ++ [vy], ys ++ [yv], zs', l2.trans leU, okU.updF frU _, frU, upd_same, rsU.append (RepL.one ryU), ecm, by rw [ef, ez]; simp⟩⟩
          · rw [if_neg Bool.false_ne_true]
            have l26 : Le (w2.hold D (.lst acc)) w5 := (l3.trans l4).trans l5
            obtain ⟨okU, leU, hDU, frU⟩ := ok5.unhold fr2 l26
            exact ⟨_, st3, acc, ys, zs, l2.trans leU, okU, frU, hDU, rs2.mono leU, ecm, ef⟩
      · left
        have hi3 : i = xs.length := by omega
        subst hi3
        refine ⟨it.stop w2 H2 st2 l2.toLeF ok2, ?_⟩
        rw [List.drop_length] at cm2
        cases cm2
        rw [List.append_nil] at ef
        subst ef
        refine po1 (w2.frz D (.lst acc)) H2 (.ref D) (l2.trans (le_frz' fr2 _)) (ok2.frz' fr2 hD2) ⟨D, acc, rfl, .inl (.inl upd_same), rs2.mono (le_frz' fr2 _)⟩
    · have po1 : Post K W (Rep K) w1 σ (if LenOk fin.length then .ok (.lst fin) stf else .bad) Q := po1
      rw [if_neg hz] at po1; exact po1.elim
theorem se_comp {iter elt : Expr} {ifs : List Expr} {scope : Scope} {gi : GL} {t : PV → REnv → Option REnv} {gc : GT} {ge : G} (own : List (Str × Nat)) (hc : X.calm = true) (hN : X.N.Nodup) (hi : PI X tg iter (tI X.K W gi)) (ok : BlkOk X.N X.env.scope scope own)
    (hg : ∀ (s : Shared) (H : Hp) (C : Addr) (cl : List (Str × Addr)) (fp : List Addr), PG (X.blk s H scope (compEnvC scope cl C X.env) fp) tg (tTg X.K (own.map (·.2)) t))
    (ht : ∀ (s : Shared) (H : Hp) (C : Addr) (cl : List (Str × Addr)) (fp : List Addr), PTs (X.blk s H scope (compEnvC scope cl C X.env) fp) ifs (tGT X.K W0 gc))
    (he : ∀ (s : Shared) (H : Hp) (C : Addr) (cl : List (Str × Addr)) (fp : List Addr), PE (X.blk s H scope (compEnvC scope cl C X.env) fp) elt (tG X.K W0 ge)) (hs : ∀ x, foldedSetIterable iter X.env x = pure x := by intro _; rfl) :
    PE X (.ListComp elt [⟨tg, iter, ifs, 0⟩] scope pos) (tG X.K W (gComp gi t gc ge (own.map (·.2)))) :=
  pe_imp (pe_lc hc hN hi ok hg ht he hs) fun _ _ _ h => tLc_of h
theorem ss_setC {i : Nat} {y : Str} {py spos : Pos} {iter elt : Expr} {ifs : List Expr} {scope : Scope} {gi : GL} {t : PV → REnv → Option REnv} {gc : GT} {ge : G} (own : List (Str × Nat)) (hc : X.calm = true) (hN : X.N.Nodup) (hy : X.N[i]? = some y) (hyl : X.env.scope.names.lookup y = some .local)
    (hsw : swapsWith (.ListComp elt [⟨tg, iter, ifs, 0⟩] scope pos) (some (.Name y py)) spos.line X.env = pure true) (hi : PI X tg iter (tI X.K W gi)) (ok : BlkOk X.N X.env.scope scope own)
    (hg : ∀ (s : Shared) (H : Hp) (C : Addr) (cl : List (Str × Addr)) (fp : List Addr), PG (X.blk s H scope (compEnvC scope cl C X.env) fp) tg (tTg X.K (own.map (·.2)) t))
    (ht : ∀ (s : Shared) (H : Hp) (C : Addr) (cl : List (Str × Addr)) (fp : List Addr), PTs (X.blk s H scope (compEnvC scope cl C X.env) fp) ifs (tGT X.K W0 gc))
    (he : ∀ (s : Shared) (H : Hp) (C : Addr) (cl : List (Str × Addr)) (fp : List Addr), PE (X.blk s H scope (compEnvC scope cl C X.env) fp) elt (tG X.K W0 ge)) (hs : ∀ x, foldedSetIterable iter X.env x = pure x := by intro _; rfl) :
    PS X (.Assign [.Name y py] (.ListComp elt [⟨tg, iter, ifs, 0⟩] scope pos) spos) (tS X.K W (gSet i (gComp gi t gc ge (own.map (·.2))))) := by
  refine ps_imp (ps_setLc hc hN hy hyl hsw hi ok hg ht he hs) fun D σ H ⟨w, ρ, st, ok, sl, po⟩ => ?_
  show tLc _ _ _ _ _ σ H fun x H1 => gName i x σ H1 D.nx
  refine tLc_of ⟨w, ρ, st, ok, sl, post_toS sl po fun v st' w' H' y l o r q => ?_⟩
  exact q w' _ H' (Le.refl _) o ((sl.mono l).set r)
theorem tt_nil : PTs X [] (tGT X.K W gYes) := ⟨fun pins s σ H Q I ⟨w, ρ, st, ok, sl, po⟩ => pts_nil.run pins s σ H Q I (po w H true (Le.refl _) ok rfl)⟩
theorem tt_one {c : Expr} {gc : GT} (h : PT X c (tGT X.K W gc)) : PTs X [c] (tGT X.K W gc) := pts_one h

/-! ### methods of built-in types -/
abbrev FM := List SO → PV → List PV → Res PV
def SndM (K : PySem.W.Frag) (f : FM) (r : V → List V → Hp → VK → Prop) : Prop :=
  ∀ (w : Wd) (H : Hp) (st st' : List SO) (x z : PV) (xs : List PV) (vx : V) (vs : List V) (Q : VK), WOk K w H st → Rep K w x vx → RepL K w xs vs → f st x xs = .ok z st' →
    (∀ w' H' vz, Le w w' → WOk K w' H' st' → Rep K w' z vz → Q vz H') → r vx vs H Q
def NoExc (f : FM) : Prop := ∀ st x xs c st', f st x xs ≠ .exc c st'
def isT (T : String) (st : List SO) : PV → Bool
  | .str _ => T == "str"
  | .int _ => T == "int"
  | .lst _ => T == "list"
  | .dct _ => T == "dict"
  | .ref k => match st[k]? with
    | some (.lst _) => T == "list"
    | some (.dK _) => T == "dict"
    | none => false
  | _ => false
theorem isT_tyV {K : PySem.W.Frag} {T : String} {st : List SO} {w : Wd} {H : Hp} {x : PV} {vx : V} (ok : WOk K w H st) (r : Rep K w x vx) (h : isT T st x = true) : tyV K T vx H := by
  cases x with
  | str s => rw [show vx = .str s from r]; exact beq_iff_eq.mp h
  | int s => rw [show vx = .int s from r]; exact beq_iff_eq.mp h
  | lst xs => obtain ⟨a, vs, e, q, _⟩ := r; rw [e]; exact .inl ⟨beq_iff_eq.mp h, vs, sql_mono ok.fz q⟩
  | dct xs => obtain ⟨a, vs, e, q, _⟩ := r; rw [e]; exact .inr (.inr (.inl ⟨beq_iff_eq.mp h, .inl ⟨vs, ok.fz _ _ q⟩⟩))
  | ref k =>
    obtain ⟨a, e, q⟩ := r
    obtain ⟨c, o, h1, h2, h3⟩ := ok.obj q
    have h : (match st[k]? with | some (.lst _) => T == "list" | some (.dK _) => T == "dict" | none => false) = true := h
    rw [h1] at h
    rw [e]
    cases c with
    | lst xs => obtain ⟨vs, e2, _⟩ := h3; rw [e2] at h2; exact .inl ⟨beq_iff_eq.mp h, vs, .inl (.inl h2)⟩
    | dK xs => obtain ⟨vs, e2, _⟩ := h3; rw [e2] at h2; exact .inr (.inr (.inl ⟨beq_iff_eq.mp h, .inl ⟨vs, h2⟩⟩))
  | _ => cases h
def gMeth (T : String) (f : FM) (go : G) (gs : List G) : G := fun ρ st => bnd (go ρ st) fun x st1 => if isT T st1 x = true then bnd (gArgs gs ρ st1) fun xs st2 => f st2 x xs else .bad
variable {o : Expr} {go : G} {name : Str} {apos cpos : Pos} {T id : String} {r : V → List V → Hp → VK → Prop} {f : FM}
theorem se_m (pa : PlainAttrs T) (slot : Slot T name id) (hty : typeOf (.builtin id) = pure (.type "method_descriptor")) (hm : MtR X id r) (hs : SndM X.K f r) (hne : NoExc f) (ho : PE X o (tG X.K W go)) (ha : PA X (e :: es) (tGA X.K W (gArgs gs)))
    (hbase : attributeBase o name X.env (eval o X.env) = eval o X.env := by rfl)
    (hfew : ((backTo cpos (starEach (e :: es) X.env)).all (fun x => !x.1) && (backToKw cpos (keywordEach [] X.env)).all (fun x => x.1.isSome)
      && decide ((e :: es).length + ([] : List Keyword).length + (if ([] : List Keyword).isEmpty then 0 else 1) < 30)) = true := by rfl)
    (hline : (apos.endLine == cpos.line) = true := by rfl) (hst : starEach (e :: es) X.env = (false, eval e X.env) :: starEach es X.env := by rfl) (hplain : (backTo cpos (starEach es X.env)).any (·.1) = false := by rfl) :
    PE X (.Call (.Attribute o name apos) (e :: es) [] cpos) (tG X.K W (gMeth T f go gs)) := by
  refine pe_imp (pe_bm pa slot hty hm ho ha hbase hfew hline hst hplain) fun σ H Q ⟨w, ρ, st, ok, sl, po⟩ => ?_
  refine ⟨w, ρ, st, ok, sl, post_bind (rel2 := Rep X.K) po fun x st1 w1 H1 vx l1 ok1 rx po1 => ?_⟩
  have po1 : Post X.K W (Rep X.K) w1 σ (if isT T st1 x = true then bnd (gArgs gs ρ st1) fun xs st2 => f st2 x xs else .bad) Q := po1
  by_cases ht : isT T st1 x = true
  · rw [if_pos ht] at po1
    refine ⟨isT_tyV ok1 rx ht, w1, ρ, st1, ok1, sl.mono l1, post_bind (rel2 := Rep X.K) po1 fun xs st2 w2 H2 vs l2 ok2 rs po2 => ?_⟩
    cases e1 : f st2 x xs with
    | ok z st3 => rw [e1] at po2; exact hs w2 H2 st2 st3 x z xs vx vs Q ok2 (rx.mono l2) rs e1 po2
    | exc c st3 => exact (hne _ _ _ _ _ e1).elim
    | bad => rw [e1] at po2; exact po2.elim
  · rw [if_neg ht] at po1; exact po1.elim
theorem se_m0 (pa : PlainAttrs T) (slot : Slot T name id) (hty : typeOf (.builtin id) = pure (.type "method_descriptor")) (hm : MtR X id r) (hs : SndM X.K f r) (hne : NoExc f) (ho : PE X o (tG X.K W go))
    (hbase : attributeBase o name X.env (eval o X.env) = eval o X.env := by rfl) (hline : (apos.endLine == cpos.line) = true := by rfl) : PE X (.Call (.Attribute o name apos) [] [] cpos) (tG X.K W (gMeth T f go [])) := by
  refine pe_imp (pe_bm0 pa slot hty hm ho hbase hline) fun σ H Q ⟨w, ρ, st, ok, sl, po⟩ => ?_
  refine ⟨w, ρ, st, ok, sl, post_bind (rel2 := Rep X.K) po fun x st1 w1 H1 vx l1 ok1 rx po1 => ?_⟩
  have po1 : Post X.K W (Rep X.K) w1 σ (if isT T st1 x = true then f st1 x [] else .bad) Q := po1
  by_cases ht : isT T st1 x = true
  · rw [if_pos ht] at po1
    refine ⟨isT_tyV ok1 rx ht, ?_⟩
    cases e1 : f st1 x [] with
    | ok z st3 => rw [e1] at po1; exact hs w1 H1 st1 st3 x z [] vx [] Q ok1 rx rfl e1 po1
    | exc c st3 => exact (hne _ _ _ _ _ e1).elim
    | bad => rw [e1] at po1; exact po1.elim
  · rw [if_neg ht] at po1; exact po1.elim

/-! ### stores -/
/-- o[i] = v -/
def SndSet (K : PySem.W.Frag) (f : List SO → PV → PV → PV → Option (List SO)) (t : TSet) : Prop :=
  ∀ (w : Wd) (H : Hp) (st st' : List SO) (o i v : PV) (vo vi vv : V) (Q : Hp → Prop), WOk K w H st → Rep K w o vo → Rep K w i vi → Rep K w v vv → f st o i v = some st' →
    (∀ w' H', Le w w' → WOk K w' H' st' → Q H') → t vo vi vv H Q
def gStore (f : List SO → PV → PV → PV → Option (List SO)) (ge go gi : G) : GS := fun ρ st => toS ρ (ge ρ st) fun v st1 => toS ρ (go ρ st1) fun o st2 => toS ρ (gi ρ st2) fun i st3 => match f st3 o i v with
  | some st4 => .nx ρ st4
  | none => .bad
theorem ss_store {i : Expr} {f : List SO → PV → PV → PV → Option (List SO)} {t : TSet} {gi : G} {tpos : Pos} (hset : PSet X t) (hs : SndSet X.K f t) (he : PE X e (tG X.K W g)) (ho : PE X o (tG X.K W go)) (hi : PE X i (tG X.K W gi))
    (ha : ∀ v, assign (.Subscript o i tpos) X.env v = (do
      let ov ← holding [v] (eval o X.env)
      let iv ← holding [v, ov] (eval i X.env)
      standAt tpos
      holding [v, ov, iv] (setItem ov iv v)
      release [v, ov, iv] []) := by intro _; rfl) (hsw : swapsWithSole [.Subscript o i tpos] e pos.line X.env = pure false := by rfl) (hw : swappedStores [.Subscript o i tpos] e X.env = pure none := by rfl)
    (h1 : (assignEach [.Subscript o i tpos] X.env).map (·.2) = [assign (.Subscript o i tpos) X.env] := by rfl) : PS X (.Assign [.Subscript o i tpos] e pos) (tS X.K W (gStore f g go gi)) := by
  refine ps_imp (ps_asg he (pg_sub ho hi hset ha) hsw hw h1) fun D σ H ⟨w, ρ, st, ok, sl, po⟩ => ⟨w, ρ, st, ok, sl, post_toS sl po fun v st1 w1 H1 vv l1 ok1 rv po1 => ?_⟩
  refine ⟨w1, ρ, st1, ok1, sl.mono l1, post_toS (sl.mono l1) po1 fun ov st2 w2 H2 vo l2 ok2 ro po2 => ?_⟩
  have sl2 := (sl.mono l1).mono l2
  refine ⟨w2, ρ, st2, ok2, sl2, post_toS sl2 po2 fun iv st3 w3 H3 vi l3 ok3 ri po3 => ?_⟩
  cases e1 : f st3 ov iv v with
  | none => rw [e1] at po3; exact po3.elim
  | some st4 =>
    rw [e1] at po3
    exact hs w3 H3 st3 st4 ov iv v vo vi vv _ ok3 (ro.mono l3) ri ((rv.mono l2).mono l3) e1 fun w4 H4 l4 ok4 => po3 w4 σ H4 l4 ok4 ((sl2.mono l3).mono l4)

/-! ### raising -/
theorem ss_raise {x m : Str} {j : Nat} {p p2 : Pos} (hc : X.calm = true) (tk : L2N.Takes X W) (q : PySem.W.excIn X.K (He.ga X.K x) He.veBase "ValueError.__new__" = true) (gC : X.mg x = some (.ref (He.ga X.K x))) (kC : PySem.W.keepIn X.K (.ref (He.ga X.K x)) = true)
    (s1 : PySem.W.subIn X.K (.ref (He.ga X.K x)) (.type "BaseException") = some true) (s2 : PySem.W.typeIn X.K (.ref (He.ga X.K x)) = some (.type "type")) (hg : Gl X x := by rfl) (hdb : (x == ("__debug__" : Str)) = false := by decide) :
    PS X (.Raise (some (.Call (.Name x p) [.Constant (.str m) j p2] [] cpos)) none pos) (tS X.K W (gRaise x)) := by
  refine ps_imp (L2N.ps_raise hc tk (L2N.pmk_own PySem.F.excBase_ValueError q gC kC (raises_own s1 s2) hg hdb)) fun D σ H ⟨w, ρ, st, ok, sl, po⟩ => ?_
  exact po w σ H (Le.refl _) ok sl
end

/-! ### a def by its body -/
/-- what is left behind a call: as much as was there -/
def keepR (n : Nat) (r : SRes) : Res PV := match r with
  | .nx _ st => if st.length = n then .ok .non st else .bad
  | .ret v st => if st.length = n then .ok v st else .bad
  | .exc c _ st => if st.length = n then .exc c st else .bad
  | .bad => .bad
/-- all that was made goes on -/
def allR (r : SRes) : Res PV := match r with
  | .nx _ st => .ok .non st
  | .ret v st => .ok v st
  | .exc c _ st => .exc c st
  | .bad => .bad
def begin (N n : Nat) (xs : List PV) : REnv := xs.map some ++ List.replicate (N - n) none
section
variable {P : Program} {w : World} {K : PySem.W.Frag} {mg : Str → Option Value} {base : Heap}
theorem slots_start {K : PySem.W.Frag} {wd : Wd} {N : List Str} {xs : List PV} {vs : List V} {n : Nat} (r : RepL K wd xs vs) (hn : xs.length = n) : Slots K wd (begin N.length n xs) (L2.start N vs) := by
  have hl := r.length
  refine ⟨by unfold begin L2.start; simp only [List.length_append, List.length_map, List.length_replicate]; omega, fun i x e => ?_⟩
  unfold begin at e
  by_cases hi : i < xs.length
  · rw [List.getElem?_append_left (by simpa using hi), List.getElem?_map] at e
    cases q : xs[i]? with
    | none => rw [q] at e; cases e
    | some y =>
      rw [q] at e
      cases e
      obtain ⟨v, hv, rv⟩ := r.get q
      refine ⟨v, ?_, rv⟩
      unfold L2.start
      rw [List.getElem?_append_left (by simp; omega), List.getElem?_map, hv]
      rfl
  · rw [List.getElem?_append_right (by simpa using hi), List.getElem?_replicate] at e
    split at e <;> cases e
/-- THE RULE: F says no more than the body does -/
theorem def_of {x : Str} {params : Arguments} {body : List Stmt} {scope : Scope} {fd : FuncData} {f : Addr} {N ps : List Str} {k n : Nat} {F : Fn} {g : GS} (FD : FunD K x x params body scope [] [] f fd) (S : FnScope N ps scope) (hps : ps.length = n) (hm : mg x = some (.ref f))
    (hb : Binds K fd ps [])
    (hbody : ∀ (cdv : Value) (A : Around) (outer : List PySem.Env) (s : Shared) (H : Hp) (E : XK), Room k (A.deeper (envOfC x scope s.heap.objs.size f cdv)) →
      PSs (cxOf (L2N.CX P w) P w K mg base N x scope f cdv A outer s H E) body (tS K (fun cls d _ H => E cls d H) g))
    (hF : ∀ xs st, xs.length = n → F xs st = .bad ∨ F xs st = allR (g (begin N.length n xs) st)) : Def P w K mg base x n (k + 1) F := by
  refine ⟨f, fd, ps, hps, ?_, hm, FD.kp, hb⟩
  refine FD.ok S (fun vs H Q E h => ?_) fun cdv A outer s H vs Q E hr h => ⟨tS K (fun cls d _ H => E cls d H) g, hbody cdv A outer s H E hr, ?_⟩
  · obtain ⟨wd, xs, st, hn, _, r, _⟩ := h
    rw [r.length, hn, hps]
  · obtain ⟨wd, xs, st, hn, ok, r, po⟩ := h
    refine ⟨wd, begin N.length n xs, st, ok, slots_start r hn, ?_⟩
    rcases hF xs st hn with e | e
    · rw [e] at po; exact po.elim
    · rw [e] at po
      cases q : g (begin N.length n xs) st with
      | nx ρ' st' => rw [q] at po; exact fun w' σ' H' l o _ => po w' H' .non l o rfl
      | ret v st' => rw [q] at po; exact po
      | exc c ρ' st' => rw [q] at po; exact fun w' σ' H' l o _ => po w' H' l o
      | bad => rw [q] at po; exact po.elim
end
end Z
/-! Operators. -/
namespace Z
open PySem PySem.Spec PyProof.Rows L2
section
variable {K : PySem.W.Frag} {X : Cx}
/-! ### ints -/
def MulOk (i j : Int) : Prop := i.natAbs.log2 + j.natAbs.log2 < 1000000
noncomputable instance (i j : Int) : Decidable (MulOk i j) := Classical.propDecidable _
def DivOk (i j : Int) : Prop := Builtin.divisionGoesByPylong i j = false
noncomputable instance (i j : Int) : Decidable (DivOk i j) := Classical.propDecidable _
noncomputable instance (n : Nat) : Decidable (LenOk n) := Classical.propDecidable _
def LineOk (n : Nat) : Prop := n ≤ sizeLine
noncomputable instance (n : Nat) : Decidable (LineOk n) := Classical.propDecidable _
theorem op_fdivG : OpR X (binaryOp .FloorDiv) (rI (fun i j => j ≠ 0 ∧ DivOk i j) fun i j => .int (i.fdiv j)) := opI fun i j _ _ _ _ _ hc q => floordiv_int hc.1 q (.inl hc.2)
noncomputable def addV : F2 := fun _ x y => match x, y with
  | .int i, .int j => some (.int (i + j))
  | .str a, .str b => if LineOk (a.length + b.length) then some (.str (a ++ b)) else none
  | _, _ => none
def subV : F2 := fun _ x y => match x, y with
  | .int i, .int j => some (.int (i - j))
  | _, _ => none
noncomputable def mulV : F2 := fun _ x y => match x, y with
  | .int i, .int j => if MulOk i j then some (.int (i * j)) else none
  | _, _ => none
noncomputable def fdivV : F2 := fun _ x y => match x, y with
  | .int i, .int j => if j ≠ 0 ∧ DivOk i j then some (.int (i.fdiv j)) else none
  | _, _ => none
def modV : F2 := fun _ x y => match x, y with
  | .int i, .int j => if j ≠ 0 then some (.int (i.fmod j)) else none
  | _, _ => none
def powV : F2 := fun _ x y => match x, y with
  | .int i, .int j => if 0 ≤ j ∧ j ≤ 1000000 ∧ i.natAbs < 2 ^ 64 then some (.int (i ^ j.toNat)) else none
  | _, _ => none
def ShlOk (i j : Int) : Prop := 0 ≤ j ∧ (Builtin.Int.intBits i : Int) + j ≤ 134217728
noncomputable instance (i j : Int) : Decidable (ShlOk i j) := Classical.propDecidable _
noncomputable def shlV : F2 := fun _ x y => match x, y with
  | .int i, .int j => if ShlOk i j then some (.int (i * 2 ^ j.toNat)) else none
  | _, _ => none
def ltV : F2 := fun _ x y => match x, y with
  | .int i, .int j => some (.bl (decide (i < j)))
  | _, _ => none
def leV : F2 := fun _ x y => match x, y with
  | .int i, .int j => some (.bl (decide (i ≤ j)))
  | _, _ => none
def gtV : F2 := fun _ x y => match x, y with
  | .int i, .int j => some (.bl (decide (j < i)))
  | _, _ => none
def geV : F2 := fun _ x y => match x, y with
  | .int i, .int j => some (.bl (decide (j ≤ i)))
  | _, _ => none
def negV : F1 := fun _ x => match x with
  | .int i => some (.int (-i))
  | _ => none
/-- two ints, by a rule over ints -/
theorem snd_ii {f : F2} {C : Int → Int → Prop} {h : Int → Int → V} {h' : Int → Int → PV} (hr : ∀ w i j, Rep K w (h' i j) (h i j)) (hf : ∀ st x y z, f st x y = some z → ∃ i j, x = .int i ∧ y = .int j ∧ C i j ∧ z = h' i j) : Snd2 K f (rI C h) := by
  intro w H st x y z vx vy Q ok rx ry e q
  obtain ⟨i, j, rfl, rfl, c, rfl⟩ := hf st x y z e
  exact ⟨i, j, rx, ry, c, q w H _ (Le.refl _) ok (hr w i j)⟩
theorem snd_i0 {f : F2} {h : Int → Int → V} {h' : Int → Int → PV} (hr : ∀ w i j, Rep K w (h' i j) (h i j)) (hf : ∀ st x y z, f st x y = some z → ∃ i j, x = .int i ∧ y = .int j ∧ z = h' i j) : Snd2 K f (rI0 h) := by
  intro w H st x y z vx vy Q ok rx ry e q
  obtain ⟨i, j, rfl, rfl, rfl⟩ := hf st x y z e
  exact ⟨i, j, rx, ry, q w H _ (Le.refl _) ok (hr w i j)⟩
theorem snd_or {f : F2} {r r' : R2} (h : ∀ w H st x y z vx vy Q, WOk K w H st → Rep K w x vx → Rep K w y vy → f st x y = some z → (∀ w' H' vz, Le w w' → WOk K w' H' st → Rep K w' z vz → Q vz H') → r vx vy H Q ∨ r' vx vy H Q) :
    Snd2 K f (fun x y H Q => r x y H Q ∨ r' x y H Q) := fun w H st x y z vx vy Q ok rx ry e q => h w H st x y z vx vy Q ok rx ry e q
theorem ex_int2 {α : Type} {x y : PV} {k : Int → Int → Option α} {z : α} (h : (match x, y with | .int i, .int j => k i j | _, _ => none) = some z) : ∃ i j, x = .int i ∧ y = .int j ∧ k i j = some z := by
  cases x <;> cases y <;> first | exact ⟨_, _, rfl, rfl, h⟩ | cases h
theorem o_add : OpR X (binaryOp .Add) (fun x y H Q => rI0 (fun i j => .int (i + j)) x y H Q ∨ ∃ i j, x = .str i ∧ y = .str j ∧ i.length + j.length ≤ sizeLine ∧ Q (.str (i ++ j)) H) := op_add.or op_add_str
theorem s_add : Snd2 K addV (fun x y H Q => rI0 (fun i j => .int (i + j)) x y H Q ∨ ∃ i j, x = .str i ∧ y = .str j ∧ i.length + j.length ≤ sizeLine ∧ Q (.str (i ++ j)) H) := by
  intro w H st x y z vx vy Q ok rx ry e q
  cases x with
  | int i => cases y with
    | int j => cases e; exact .inl ⟨i, j, rx, ry, q w H _ (Le.refl _) ok rfl⟩
    | _ => cases e
  | str i => cases y with
    | str j =>
      have e : (if LineOk (i.length + j.length) then some (PV.str (i ++ j)) else none) = some z := e
      by_cases hc : LineOk (i.length + j.length)
      · rw [if_pos hc] at e; cases e; exact .inr ⟨i, j, rx, ry, hc, q w H _ (Le.refl _) ok rfl⟩
      · rw [if_neg hc] at e; cases e
    | _ => cases e
  | _ => cases e
theorem s_sub : Snd2 K subV (rI0 fun i j => .int (i - j)) := snd_i0 (h' := fun i j => .int (i - j)) (fun _ _ _ => rfl) fun st x y z e => by
  obtain ⟨i, j, e1, e2, e3⟩ := ex_int2 e
  exact ⟨i, j, e1, e2, (Option.some.inj e3).symm⟩
theorem s_mul : Snd2 K mulV (rI CMulW fun i j => .int (i * j)) := snd_ii (h' := fun i j => .int (i * j)) (fun _ _ _ => rfl) fun st x y z e => by
  obtain ⟨i, j, e1, e2, e3⟩ := ex_int2 e
  by_cases hc : MulOk i j
  · rw [if_pos hc] at e3; exact ⟨i, j, e1, e2, hc, (Option.some.inj e3).symm⟩
  · rw [if_neg hc] at e3; cases e3
theorem s_fdiv : Snd2 K fdivV (rI (fun i j => j ≠ 0 ∧ DivOk i j) fun i j => .int (i.fdiv j)) := snd_ii (h' := fun i j => .int (i.fdiv j)) (fun _ _ _ => rfl) fun st x y z e => by
  obtain ⟨i, j, e1, e2, e3⟩ := ex_int2 e
  by_cases hc : j ≠ 0 ∧ DivOk i j
  · rw [if_pos hc] at e3; exact ⟨i, j, e1, e2, hc, (Option.some.inj e3).symm⟩
  · rw [if_neg hc] at e3; cases e3
theorem s_mod : Snd2 K modV (rI (fun _ j => j ≠ 0) fun i j => .int (i.fmod j)) := snd_ii (h' := fun i j => .int (i.fmod j)) (fun _ _ _ => rfl) fun st x y z e => by
  obtain ⟨i, j, e1, e2, e3⟩ := ex_int2 e
  by_cases hc : j ≠ 0
  · rw [if_pos hc] at e3; exact ⟨i, j, e1, e2, hc, (Option.some.inj e3).symm⟩
  · rw [if_neg hc] at e3; cases e3
theorem s_pow : Snd2 K powV (rI CPow fun i j => .int (i ^ j.toNat)) := snd_ii (h' := fun i j => .int (i ^ j.toNat)) (fun _ _ _ => rfl) fun st x y z e => by
  obtain ⟨i, j, e1, e2, e3⟩ := ex_int2 e
  by_cases hc : 0 ≤ j ∧ j ≤ 1000000 ∧ i.natAbs < 2 ^ 64
  · rw [if_pos hc] at e3; exact ⟨i, j, e1, e2, hc, (Option.some.inj e3).symm⟩
  · rw [if_neg hc] at e3; cases e3
theorem s_shl : Snd2 K shlV (rI CShl fun i j => .int (i * 2 ^ j.toNat)) := snd_ii (h' := fun i j => .int (i * 2 ^ j.toNat)) (fun _ _ _ => rfl) fun st x y z e => by
  obtain ⟨i, j, e1, e2, e3⟩ := ex_int2 e
  by_cases hc : ShlOk i j
  · rw [if_pos hc] at e3
    refine ⟨i, j, e1, e2, ⟨hc.1, ?_⟩, (Option.some.inj e3).symm⟩
    rw [show (2 : Int) ^ 27 = 134217728 by decide]; exact hc.2
  · rw [if_neg hc] at e3; cases e3
theorem s_lt : Snd2 K ltV (rI0 fun i j => .bl (decide (i < j))) := snd_i0 (h' := fun i j => .bl (decide (i < j))) (fun _ _ _ => rfl) fun st x y z e => by
  obtain ⟨i, j, e1, e2, e3⟩ := ex_int2 e; exact ⟨i, j, e1, e2, (Option.some.inj e3).symm⟩
theorem s_le : Snd2 K leV (rI0 fun i j => .bl (decide (i ≤ j))) := snd_i0 (h' := fun i j => .bl (decide (i ≤ j))) (fun _ _ _ => rfl) fun st x y z e => by
  obtain ⟨i, j, e1, e2, e3⟩ := ex_int2 e; exact ⟨i, j, e1, e2, (Option.some.inj e3).symm⟩
theorem s_gt : Snd2 K gtV (rI0 fun i j => .bl (decide (j < i))) := snd_i0 (h' := fun i j => .bl (decide (j < i))) (fun _ _ _ => rfl) fun st x y z e => by
  obtain ⟨i, j, e1, e2, e3⟩ := ex_int2 e; exact ⟨i, j, e1, e2, (Option.some.inj e3).symm⟩
theorem s_ge : Snd2 K geV (rI0 fun i j => .bl (decide (j ≤ i))) := snd_i0 (h' := fun i j => .bl (decide (j ≤ i))) (fun _ _ _ => rfl) fun st x y z e => by
  obtain ⟨i, j, e1, e2, e3⟩ := ex_int2 e; exact ⟨i, j, e1, e2, (Option.some.inj e3).symm⟩
theorem s_neg : Snd1 K negV (rU fun i => .int (-i)) := by
  intro w H st x z vx Q ok rx e q
  cases x with
  | int i => cases e; exact ⟨i, rx, q w H _ (Le.refl _) ok rfl⟩
  | _ => cases e
/-! ### None -/
def isNV : F2 := fun _ x y => match y with
  | .non => (match x with
    | .non => some (.bl true)
    | _ => some (.bl false))
  | _ => none
def notNV : F2 := fun _ x y => match y with
  | .non => (match x with
    | .non => some (.bl false)
    | _ => some (.bl true))
  | _ => none
theorem rep_non {w : Wd} {x : PV} {v : V} (r : Rep K w x v) (h : ∀ y, x = y → y ≠ .non) : v ≠ .non := by
  cases x with
  | non => exact absurd rfl (h _ rfl)
  | bl b => rw [show v = .bl b from r]; intro z; cases z
  | int b => rw [show v = .int b from r]; intro z; cases z
  | str b => rw [show v = .str b from r]; intro z; cases z
  | tup xs => obtain ⟨a, _, e, _⟩ := r; rw [e]; intro z; cases z
  | lst xs => obtain ⟨a, _, e, _⟩ := r; rw [e]; intro z; cases z
  | dct xs => obtain ⟨a, _, e, _⟩ := r; rw [e]; intro z; cases z
  | exc c => rw [show v = .ref c from r]; intro z; cases z
  | ref k => obtain ⟨a, e, _⟩ := r; rw [e]; intro z; cases z
  | ty n => rw [show v = .ty n from r]; intro z; cases z
  | cls n => rw [show v = .ref (He.ga K n) from r]; intro z; cases z
theorem s_isN : Snd2 K isNV (fun x y H Q => y = .non ∧ Q (.bl (decide (x = .non))) H) := by
  intro w H st x y z vx vy Q ok rx ry e q
  cases y with
  | non =>
    refine ⟨ry, ?_⟩
    by_cases hx : x = .non
    · subst hx; cases e
      rw [show vx = .non from rx]
      exact q w H _ (Le.refl _) ok rfl
    · have hv : vx ≠ .non := rep_non rx fun y hy z => hx (hy.trans z)
      rw [decide_eq_false hv]
      have ez : z = .bl false := by cases x <;> first | exact absurd rfl hx | (cases e; rfl)
      rw [ez] at q
      exact q w H _ (Le.refl _) ok rfl
  | _ => cases e
theorem s_notN : Snd2 K notNV (fun x y H Q => y = .non ∧ Q (.bl (!decide (x = .non))) H) := by
  intro w H st x y z vx vy Q ok rx ry e q
  cases y with
  | non =>
    refine ⟨ry, ?_⟩
    by_cases hx : x = .non
    · subst hx; cases e
      rw [show vx = .non from rx]
      exact q w H _ (Le.refl _) ok rfl
    · have hv : vx ≠ .non := rep_non rx fun y hy z => hx (hy.trans z)
      rw [decide_eq_false hv]
      have ez : z = .bl true := by cases x <;> first | exact absurd rfl hx | (cases e; rfl)
      rw [ez] at q
      exact q w H _ (Le.refl _) ok rfl
  | _ => cases e
/-! ### equality of data -/
mutual
def toD : PV → Option PyData
  | .non => some .none
  | .bl b => some (.bool b)
  | .int i => some (.int i)
  | .str s => some (.str s)
  | .tup xs => match toDL xs with
    | some ds => some (.tuple ds)
    | none => none
  | .lst xs => match toDL xs with
    | some ds => some (.list ds)
    | none => none
  | .dct _ => none
  | .exc _ => none
  | .ref _ => none
  | .ty _ => none
  | .cls _ => none
def toDL : List PV → Option (List PyData)
  | [] => some []
  | x :: xs => match toD x with
    | some d => (match toDL xs with
      | some ds => some (d :: ds)
      | none => none)
    | none => none
end
mutual
theorem toD_dp {w : Wd} : ∀ (x : PV) (d : PyData) (v : V), toD x = some d → Rep K w x v → Dp K w.F v d
  | .non, d, v, e, r => by cases e; rw [show v = .non from r]; exact .non
  | .bl b, d, v, e, r => by cases e; rw [show v = .bl b from r]; exact .bl b
  | .int b, d, v, e, r => by cases e; rw [show v = .int b from r]; exact .int b
  | .str b, d, v, e, r => by cases e; rw [show v = .str b from r]; exact .str b
  | .tup xs, d, v, e, ⟨a, vs, ev, sq, rs⟩ => by
    unfold toD at e
    cases q : toDL xs with
    | none => rw [q] at e; cases e
    | some ds => rw [q] at e; cases e; rw [ev]; exact .tup sq (toDL_dp xs ds vs q rs)
  | .lst xs, d, v, e, ⟨a, vs, ev, sq, rs⟩ => by
    unfold toD at e
    cases q : toDL xs with
    | none => rw [q] at e; cases e
    | some ds => rw [q] at e; cases e; rw [ev]; exact .lst sq (toDL_dp xs ds vs q rs)
  | .dct _, d, v, e, r => by cases e
  | .exc _, d, v, e, r => by cases e
  | .ref _, d, v, e, r => by cases e
  | .ty _, d, v, e, r => by cases e
  | .cls _, d, v, e, r => by cases e
theorem toDL_dp {w : Wd} : ∀ (xs : List PV) (ds : List PyData) (vs : List V), toDL xs = some ds → RepL K w xs vs → DpAll K w.F vs ds
  | [], ds, vs, e, r => by cases e; rw [show vs = [] from r]; exact .nil
  | x :: xs, ds, vs, e, ⟨v, vr, ev, rx, rr⟩ => by
    unfold toDL at e
    cases q : toD x with
    | none => rw [q] at e; cases e
    | some d =>
      rw [q] at e
      cases q2 : toDL xs with
      | none => rw [q2] at e; cases e
      | some dr => rw [q2] at e; cases e; rw [ev]; exact .cons (toD_dp x d v q rx) (toDL_dp xs dr vr q2 rr)
end
mutual
theorem dp_mono {F H : Hp} (hF : ∀ a o, F a = some o → H a = some o) : ∀ {v : V} {d : PyData}, Dp K F v d → Dp K H v d
  | _, _, .non => .non
  | _, _, .bl b => .bl b
  | _, _, .int b => .int b
  | _, _, .str b => .str b
  | _, _, .lst s d => .lst (sql_mono hF s) (dpa_mono hF d)
  | _, _, .tup s d => .tup (sqt_mono hF s) (dpa_mono hF d)
theorem dpa_mono {F H : Hp} (hF : ∀ a o, F a = some o → H a = some o) : ∀ {v : List V} {d : List PyData}, DpAll K F v d → DpAll K H v d
  | _, _, .nil => .nil
  | _, _, .cons a b => .cons (dp_mono hF a) (dpa_mono hF b)
end
/-- a mutable list as it stands -/
def de (st : List SO) : PV → PV
  | .ref k => match st[k]? with
    | some (.lst xs) => .lst xs
    | _ => .ref k
  | x => x
theorem de_dp {w : Wd} {H : Hp} {st : List SO} {x : PV} {v : V} {d : PyData} (ok : WOk K w H st) (r : Rep K w x v) (e : toD (de st x) = some d) : Dp K H v d := by
  have plain : ∀ y, toD y = some d → Rep K w y v → Dp K H v d := fun y e r => dp_mono ok.fz (toD_dp y d v e r)
  cases x with
  | ref k =>
    obtain ⟨a, ev, q⟩ := r
    obtain ⟨c, o, h1, h2, h3⟩ := ok.obj q
    cases c with
    | lst xs =>
      have e2 : de st (.ref k) = .lst xs := by simp [de, h1]
      rw [e2] at e
      unfold toD at e
      obtain ⟨vs, e3, rs⟩ := h3
      rw [e3] at h2
      cases q2 : toDL xs with
      | none => rw [q2] at e; cases e
      | some ds => rw [q2] at e; cases e; rw [ev]; exact .lst (.inl (.inl h2)) (dpa_mono ok.fz (toDL_dp xs ds vs q2 rs))
    | dK kvs =>
      have e2 : de st (.ref k) = .ref k := by simp [de, h1]
      rw [e2] at e; cases e
  | _ => exact plain _ e r
def eqD (st : List SO) (x y : PV) : Option Bool := match toD (de st x), toD (de st y) with
  | some d, some e => if SeqAt.shaped d = true ∧ SeqAt.shaped e = true then some (PyData.eqv d e) else none
  | _, _ => none
def eqV : F2 := fun st x y => (eqD st x y).map fun b => .bl b
def neV : F2 := fun st x y => (eqD st x y).map fun b => .bl (!b)
theorem eqD_some {st : List SO} {x y : PV} {b : Bool} (h : eqD st x y = some b) : ∃ d e, toD (de st x) = some d ∧ toD (de st y) = some e ∧ SeqAt.shaped d = true ∧ SeqAt.shaped e = true ∧ PyData.eqv d e = b := by
  unfold eqD at h
  cases e1 : toD (de st x) with
  | none => rw [e1] at h; cases h
  | some d =>
    cases e2 : toD (de st y) with
    | none => rw [e1, e2] at h; cases h
    | some e =>
      rw [e1, e2] at h
      have h : (if SeqAt.shaped d = true ∧ SeqAt.shaped e = true then some (PyData.eqv d e) else none) = some b := h
      by_cases hc : SeqAt.shaped d = true ∧ SeqAt.shaped e = true
      · rw [if_pos hc] at h; exact ⟨d, e, rfl, rfl, hc.1, hc.2, Option.some.inj h⟩
      · rw [if_neg hc] at h; cases h
theorem s_eq : Snd2 K eqV (rEqD K) := by
  intro w H st x y z vx vy Q ok rx ry e q
  obtain ⟨b, hb, rfl⟩ := Option.map_eq_some_iff.mp (show (eqD st x y).map (fun b => PV.bl b) = some z from e)
  obtain ⟨d, d', e1, e2, s1, s2, rfl⟩ := eqD_some hb
  exact ⟨d, d', de_dp ok rx e1, de_dp ok ry e2, s1, s2, q w H _ (Le.refl _) ok rfl⟩
theorem s_ne : Snd2 K neV (rNeD K) := by
  intro w H st x y z vx vy Q ok rx ry e q
  obtain ⟨b, hb, rfl⟩ := Option.map_eq_some_iff.mp (show (eqD st x y).map (fun b => PV.bl (!b)) = some z from e)
  obtain ⟨d, d', e1, e2, s1, s2, rfl⟩ := eqD_some hb
  exact ⟨d, d', de_dp ok rx e1, de_dp ok ry e2, s1, s2, q w H _ (Le.refl _) ok rfl⟩

/-! ### items -/
noncomputable def ixV : F2 := fun st x y => match x, y with
  | .tup xs, .int i => atI xs i
  | .lst xs, .int i => atI xs i
  | .ref k, .int i => (match st[k]? with
    | some (.lst xs) => atI xs i
    | _ => none)
  | .str z, .int i => if LineOk z.length then (match atI z.cps.toList i with
    | some c => some (.str ⟨#[c]⟩)
    | none => none) else none
  | _, _ => none
theorem atI_rep {w : Wd} {xs : List PV} {vs : List V} {i : Int} {z : PV} (r : RepL K w xs vs) (h : atI xs i = some z) : ∃ v, atI vs i = some v ∧ Rep K w z v := by
  unfold atI at h ⊢
  cases e : ixN xs.length i with
  | none => rw [e] at h; cases h
  | some j =>
    rw [e] at h
    obtain ⟨v, hv, rv⟩ := r.get (i := j) (x := z) h
    rw [r.length, e]
    exact ⟨v, hv, rv⟩
theorem s_ix : Snd2 K ixV (rIx K) := by
  intro w H st x y z vx vy Q ok rx ry e q
  cases x with
  | tup xs => cases y with
    | int i =>
      obtain ⟨a, vs, ev, sq, rs⟩ := rx
      obtain ⟨v, hv, rv⟩ := atI_rep rs e
      exact .inr (.inl ⟨a, vs, i, v, ev, ry, sqt_mono ok.fz sq, hv, q w H v (Le.refl _) ok rv⟩)
    | _ => cases e
  | lst xs => cases y with
    | int i =>
      obtain ⟨a, vs, ev, sq, rs⟩ := rx
      obtain ⟨v, hv, rv⟩ := atI_rep rs e
      exact .inl ⟨a, vs, i, v, ev, ry, sql_mono ok.fz sq, hv, q w H v (Le.refl _) ok rv⟩
    | _ => cases e
  | ref k => cases y with
    | int i =>
      obtain ⟨a, ev, qa⟩ := rx
      obtain ⟨c, o, h1, h2, h3⟩ := ok.obj qa
      have e : (match st[k]? with | some (.lst xs) => atI xs i | _ => none) = some z := e
      rw [h1] at e
      cases c with
      | lst xs =>
        obtain ⟨vs, e3, rs⟩ := h3
        rw [e3] at h2
        obtain ⟨v, hv, rv⟩ := atI_rep rs e
        exact .inl ⟨a, vs, i, v, ev, ry, .inl (.inl h2), hv, q w H v (Le.refl _) ok rv⟩
      | dK kvs => cases e
    | _ => cases e
  | str s => cases y with
    | int i =>
      have e : (if LineOk s.length then (match atI s.cps.toList i with | some c => some (PV.str ⟨#[c]⟩) | none => none) else none) = some z := e
      by_cases hc : LineOk s.length
      · rw [if_pos hc] at e
        cases e2 : atI s.cps.toList i with
        | none => rw [e2] at e; cases e
        | some c => rw [e2] at e; cases e; exact .inr (.inr ⟨s, i, c, rx, ry, hc, e2, q w H _ (Le.refl _) ok rfl⟩)
      · rw [if_neg hc] at e; cases e
    | _ => cases e
  | _ => cases e
/-! ### built-ins -/
noncomputable def lenV : FL := fun st xs => match xs with
  | [.tup xs] => some (.int xs.length)
  | [.lst xs] => some (.int xs.length)
  | [.ref k] => (match st[k]? with
    | some (.lst xs) => some (.int xs.length)
    | _ => none)
  | [.str z] => if LineOk z.length then some (.int z.length) else none
  | _ => none
theorem repl1 {w : Wd} {x : PV} {vs : List V} (r : RepL K w [x] vs) : ∃ v, vs = [v] ∧ Rep K w x v := by
  obtain ⟨v, r, e, h, z⟩ := r
  exact ⟨v, by rw [e, show r = [] from z], h⟩
theorem repl2 {w : Wd} {x y : PV} {vs : List V} (r : RepL K w [x, y] vs) : ∃ v u, vs = [v, u] ∧ Rep K w x v ∧ Rep K w y u := by
  obtain ⟨v, r, e, h, u, r2, e2, h2, z⟩ := r
  exact ⟨v, u, by rw [e, e2, show r2 = [] from z], h, h2⟩
theorem s_len : SndL K lenV (fun xs H Q => ∃ x n, xs = [x] ∧ LenV K x H n ∧ Q (.int n) H) := by
  intro w H st xs z vs Q ok rs e q
  rcases xs with _ | ⟨x, _ | ⟨y, ys⟩⟩
  · cases e
  · obtain ⟨v, ev, rx⟩ := repl1 rs
    cases x with
    | tup xs =>
      obtain ⟨a, us, e2, sq, rr⟩ := rx
      cases e
      exact ⟨v, us.length, ev, by rw [e2]; exact .inr ⟨us, sqt_mono ok.fz sq, rfl⟩, by rw [rr.length]; exact q w H _ (Le.refl _) ok rfl⟩
    | lst xs =>
      obtain ⟨a, us, e2, sq, rr⟩ := rx
      cases e
      exact ⟨v, us.length, ev, by rw [e2]; exact .inl ⟨us, sql_mono ok.fz sq, rfl⟩, by rw [rr.length]; exact q w H _ (Le.refl _) ok rfl⟩
    | ref k =>
      obtain ⟨a, e2, qa⟩ := rx
      obtain ⟨c, o, h1, h2, h3⟩ := ok.obj qa
      have e : (match st[k]? with | some (.lst xs) => some (PV.int xs.length) | _ => none) = some z := e
      rw [h1] at e
      cases c with
      | lst xs =>
        obtain ⟨us, e3, rr⟩ := h3
        rw [e3] at h2
        cases e
        exact ⟨v, us.length, ev, by rw [e2]; exact .inl ⟨us, .inl (.inl h2), rfl⟩, by rw [rr.length]; exact q w H _ (Le.refl _) ok rfl⟩
      | dK kvs => cases e
    | str s =>
      have e : (if LineOk s.length then some (PV.int s.length) else none) = some z := e
      by_cases hc : LineOk s.length
      · rw [if_pos hc] at e; cases e
        exact ⟨v, s.length, ev, by rw [show v = .str s from rx]; exact ⟨hc, rfl⟩, q w H _ (Le.refl _) ok rfl⟩
      · rw [if_neg hc] at e; cases e
    | _ => cases e
  · cases x <;> cases e
def absV : FL := fun _ xs => match xs with
  | [.int i] => some (.int i.natAbs)
  | _ => none
theorem s_abs : SndL K absV (fun xs H Q => ∃ i, xs = [.int i] ∧ Q (.int (if i < 0 then -i else i)) H) := by
  intro w H st xs z vs Q ok rs e q
  rcases xs with _ | ⟨x, _ | ⟨y, ys⟩⟩
  · cases e
  · obtain ⟨v, ev, rx⟩ := repl1 rs
    cases x with
    | int i =>
      cases e
      refine ⟨i, by rw [ev, show v = .int i from rx], ?_⟩
      have : (if i < 0 then -i else i) = (i.natAbs : Int) := by split <;> omega
      rw [this]
      exact q w H _ (Le.refl _) ok rfl
    | _ => cases e
  · cases x <;> cases e
def max2V : FL := fun _ xs => match xs with
  | [.int i, .int j] => some (.int (if j > i then j else i))
  | _ => none
def min2V : FL := fun _ xs => match xs with
  | [.int i, .int j] => some (.int (if j < i then j else i))
  | _ => none
theorem ex_l2 {α : Type} {xs : List PV} {k : Int → Int → Option α} {z : α} (h : (match xs with | [.int i, .int j] => k i j | _ => none) = some z) : ∃ i j, xs = [.int i, .int j] ∧ k i j = some z := by
  rcases xs with _ | ⟨x, _ | ⟨y, _ | ⟨u, ys⟩⟩⟩
  · cases h
  · cases x <;> cases h
  · cases x with
    | int i => cases y with
      | int j => exact ⟨i, j, rfl, h⟩
      | _ => cases h
    | _ => cases h
  · cases x with
    | int i => cases y <;> cases h
    | _ => cases h
theorem s_max2 : SndL K max2V (fun xs H Q => ∃ i j, xs = [.int i, .int j] ∧ Q (.int (if j > i then j else i)) H) := by
  intro w H st xs z vs Q ok rs e q
  obtain ⟨i, j, rfl, e⟩ := ex_l2 e
  cases e
  obtain ⟨v, u, ev, rv, ru⟩ := repl2 rs
  exact ⟨i, j, by rw [ev, show v = .int i from rv, show u = .int j from ru], q w H _ (Le.refl _) ok rfl⟩
theorem s_min2 : SndL K min2V (fun xs H Q => ∃ i j, xs = [.int i, .int j] ∧ Q (.int (if j < i then j else i)) H) := by
  intro w H st xs z vs Q ok rs e q
  obtain ⟨i, j, rfl, e⟩ := ex_l2 e
  cases e
  obtain ⟨v, u, ev, rv, ru⟩ := repl2 rs
  exact ⟨i, j, by rw [ev, show v = .int i from rv, show u = .int j from ru], q w H _ (Le.refl _) ok rfl⟩
/-! ### isinstance -/
def tyN (st : List SO) : PV → Option String
  | .non => some "NoneType"
  | .bl _ => some "bool"
  | .int _ => some "int"
  | .str _ => some "str"
  | .tup _ => some "tuple"
  | .lst _ => some "list"
  | .dct _ => some "dict"
  | .ref k => match st[k]? with
    | some (.lst _) => some "list"
    | some (.dK _) => some "dict"
    | none => none
  | _ => none
def isiV : FL := fun st xs => match xs with
  | [x, .ty n] => (match tyN st x with
    | some t => (kitB t n).map fun b => .bl b
    | none => none)
  | _ => none
theorem tyN_x {w : Wd} {H : Hp} {st : List SO} {x : PV} {v : V} {t : String} (ok : WOk K w H st) (r : Rep K w x v) (e : tyN st x = some t) : TyX K H v (.type t) := by
  cases x with
  | non => cases e; rw [show v = .non from r]; exact .base .non
  | bl b => cases e; rw [show v = .bl b from r]; exact .base (.bl b)
  | int b => cases e; rw [show v = .int b from r]; exact .base (.int b)
  | str b => cases e; rw [show v = .str b from r]; exact .base (.str b)
  | tup xs =>
    cases e
    obtain ⟨a, vs, ev, sq, _⟩ := r
    rw [ev]
    rcases sqt_mono ok.fz sq with (h | ⟨o, h⟩) | ⟨o, its, n, h, hc, _⟩
    · exact .base (.tup h)
    · exact .fTuple h
    · exact .kTuple h hc
  | lst xs =>
    cases e
    obtain ⟨a, vs, ev, sq, _⟩ := r
    rw [ev]
    rcases sql_mono ok.fz sq with (h | ⟨o, h⟩) | ⟨o, its, n, h, hc, _⟩
    · exact .base (.lst h)
    · exact .base (.frz h)
    · exact .kList h hc
  | dct kvs =>
    cases e
    obtain ⟨a, vs, ev, sq, _⟩ := r
    rw [ev]
    exact .base (.dK (ok.fz _ _ sq))
  | ref k =>
    obtain ⟨a, ev, qa⟩ := r
    obtain ⟨c, o, h1, h2, h3⟩ := ok.obj qa
    have e : (match st[k]? with | some (.lst _) => some "list" | some (.dK _) => some "dict" | none => none) = some t := e
    rw [h1] at e
    rw [ev]
    cases c with
    | lst xs => cases e; obtain ⟨vs, e3, _⟩ := h3; rw [e3] at h2; exact .base (.lst h2)
    | dK xs => cases e; obtain ⟨vs, e3, _⟩ := h3; rw [e3] at h2; exact .base (.dK h2)
  | _ => cases e
theorem s_isi : SndL K isiV (rIsi K) := by
  intro w H st xs z vs Q ok rs e q
  rcases xs with _ | ⟨x, _ | ⟨y, _ | ⟨u, ys⟩⟩⟩
  · cases e
  · cases e
  · obtain ⟨v, u, ev, rx, ry⟩ := repl2 rs
    cases y with
    | ty n =>
      have e : (match tyN st x with | some t => (kitB t n).map fun b => PV.bl b | none => none) = some z := e
      cases e1 : tyN st x with
      | none => rw [e1] at e; cases e
      | some t =>
        rw [e1] at e
        obtain ⟨b, hb, rfl⟩ := Option.map_eq_some_iff.mp (show (kitB t n).map (fun b => PV.bl b) = some z from e)
        exact ⟨v, u, .type t, .type n, b, ev, by rw [show u = .ty n from ry]; exact .ty n, tyN_x ok rx e1, kit_ty hb, q w H _ (Le.refl _) ok rfl⟩
    | _ => cases e
  · cases y <;> cases e
/-! ### stores and methods of lists -/
def setIV : List SO → PV → PV → PV → Option (List SO) := fun st o i v => match o, i with
  | .ref k, .int j => (match st[k]? with
    | some (.lst xs) => (match ixN xs.length j with
      | some m => some (st.set k (.lst (xs.set m v)))
      | none => none)
    | _ => none)
  | _, _ => none
theorem s_setI : SndSet K setIV rSetL := by
  intro w H st st' o i v vo vi vv Q ok ro ri rv e q
  cases o with
  | ref k => cases i with
    | int j =>
      obtain ⟨a, ev, qa⟩ := ro
      obtain ⟨c, ho, h1, h2, h3⟩ := ok.obj qa
      have e : (match st[k]? with | some (.lst xs) => (match ixN xs.length j with | some m => some (st.set k (.lst (xs.set m v))) | none => none) | _ => none) = some st' := e
      rw [h1] at e
      cases c with
      | lst xs =>
        obtain ⟨vs, e3, rs⟩ := h3
        rw [e3] at h2
        have e : (match ixN xs.length j with | some m => some (st.set k (.lst (xs.set m v))) | none => none) = some st' := e
        cases e4 : ixN xs.length j with
        | none => rw [e4] at e; cases e
        | some m =>
          rw [e4] at e
          cases e
          exact ⟨a, vs, j, m, ev, ri, h2, by rw [rs.length]; exact e4, q w _ (Le.refl _) (ok.write qa ⟨_, rfl, rs.set rv⟩)⟩
      | dK _ => cases e
    | _ => cases e
  | _ => cases e
noncomputable def appendM : FM := fun st x xs => match x, xs with
  | .ref k, [v] => (match st[k]? with
    | some (.lst ys) => if LenOk ys.length then .ok .non (st.set k (.lst (ys ++ [v]))) else .bad
    | _ => .bad)
  | _, _ => .bad
theorem n_append : NoExc appendM := by
  intro st x xs c st' h
  unfold appendM at h
  split at h
  · split at h
    · split at h <;> cases h
    · cases h
  · cases h
theorem s_append : SndM K appendM rAppend := by
  intro w H st st' x z xs vx vs Q ok rx rs e q
  unfold appendM at e
  split at e
  · rename_i k v
    split at e
    · rename_i ys hk
      split at e
      · rename_i hz
        cases e
        obtain ⟨u, ev, ru⟩ := repl1 rs
        obtain ⟨a, ea, qa⟩ := rx
        obtain ⟨c, o, h1, h2, h3⟩ := ok.obj qa
        rw [hk] at h1
        cases h1
        obtain ⟨us, e3, rr⟩ := h3
        rw [e3] at h2
        exact ⟨a, us, u, ea, ev, h2, by rw [rr.length]; exact hz, q w _ .non (Le.refl _) (ok.write qa ⟨_, rfl, rr.append (RepL.one ru)⟩) rfl⟩
      · cases e
    · cases e
  · cases e
end
end Z
/-! More rules. -/
namespace Z
open PySem PySem.Spec PyProof.Rows L2
theorem zb_len : bootBuiltins "len" = some (.builtin "len") := by decide +kernel
theorem zb_abs : bootBuiltins "abs" = some (.builtin "abs") := by decide +kernel
theorem zb_isinstance : bootBuiltins "isinstance" = some (.builtin "isinstance") := by decide +kernel
theorem zb_max : bootBuiltins "max" = some (.builtin "max") := by decide +kernel
theorem zb_min : bootBuiltins "min" = some (.builtin "min") := by decide +kernel
theorem zb_all : bootBuiltins "all" = some (.builtin "all") := by decide +kernel
theorem zb_any : bootBuiltins "any" = some (.builtin "any") := by decide +kernel
theorem zb_sorted : bootBuiltins "sorted" = some (.builtin "sorted") := by decide +kernel
theorem zb_repr : bootBuiltins "repr" = some (.builtin "repr") := by decide +kernel
theorem zb_int : bootBuiltins "int" = some (.type "int") := by decide +kernel
theorem zb_bool : bootBuiltins "bool" = some (.type "bool") := by decide +kernel
theorem zb_str : bootBuiltins "str" = some (.type "str") := by decide +kernel
theorem zb_tuple : bootBuiltins "tuple" = some (.type "tuple") := by decide +kernel
theorem zb_list : bootBuiltins "list" = some (.type "list") := by decide +kernel
theorem zb_dict : bootBuiltins "dict" = some (.type "dict") := by decide +kernel
theorem zb_set : bootBuiltins "set" = some (.type "set") := by decide +kernel
theorem zb_ValueError : bootBuiltins "ValueError" = some (.type "ValueError") := by decide +kernel
/-- a constant of the module -/
def Con (K : PySem.W.Frag) (mg : Str → Option Value) (x : Str) (c : PV) : Prop := ∃ (u : Value) (v : V), mg x = some u ∧ RelV v u ∧ ∀ w, Rep K w c v
section
variable {X : Cx} {W : WX} {pos : Pos} {a b e tg : Expr} {es : List Expr} {ga gb g : G} {gs : List G}
theorem se_con {x : Str} {c : PV} (h : Con X.K X.mg x c) (hg : Gl X x := by rfl) (hd : (x == ("__debug__" : Str)) = false := by decide) : PE X (.Name x pos) (tG X.K W (gC c)) := by
  obtain ⟨u, v, hm, r, rc⟩ := h
  exact se_glob hg hm r rc hd
theorem se_ty {x : Str} {n : String} (hv : bootBuiltins x = some (.type n)) (hm : X.mg x = none) (hg : Gl X x := by rfl) (hn : x ≠ "__name__" := by decide) (hd : (x == ("__debug__" : Str)) = false := by decide) : PE X (.Name x pos) (tG X.K W (gC (.ty n))) :=
  se_c (pe_bltn (v := .ty n) hg hm hv rfl hn hd) fun _ => rfl
theorem se_cls {x : Str} (hm : X.mg x = some (.ref (He.ga X.K x))) (hg : Gl X x := by rfl) (hd : (x == ("__debug__" : Str)) = false := by decide) : PE X (.Name x pos) (tG X.K W (gC (.cls x))) :=
  se_c (pe_glob (v := .ref (He.ga X.K x)) hg hm rfl hd) fun _ => rfl
theorem ss_retN : PS X (.Return none pos) (tS X.K W (gRet (gC .non))) := ps_imp ps_retN fun D σ H ⟨w, ρ, st, ok, sl, po⟩ => po w H .non (Le.refl _) ok rfl
theorem ss_par {x y : Str} {px py pt : Pos} {kt k2 : Nat} {pt2 : Pos} (i j : Nat) (hc : X.calm = true) (hN : X.N.Nodup) (ha : PA X [a, b] (tGA X.K W (gArgs [ga, gb]))) (hi : X.N[i]? = some x := by rfl) (hj : X.N[j]? = some y := by rfl) (hij : i ≠ j := by decide)
    (hx : X.env.scope.names.lookup x = some .local := by rfl) (hy : X.env.scope.names.lookup y = some .local := by rfl)
    (hw : swappedStores [.Tuple [.Name x px, .Name y py] kt pt] (.Tuple [a, b] k2 pt2) X.env = pure (some [x, y]) := by rfl)
    (hs : swapsWithSole [.Tuple [.Name x px, .Name y py] kt pt] (.Tuple [a, b] k2 pt2) pos.line X.env = pure false := by rfl) :
    PS X (.Assign [.Tuple [.Name x px, .Name y py] kt pt] (.Tuple [a, b] k2 pt2) pos) (tS X.K W (gPar i j ga gb)) := by
  refine ps_imp (ps_par hc hN hi hj hij hx hy ha hw hs) fun D σ H ⟨w, ρ, st, ok, sl, po⟩ => ⟨w, ρ, st, ok, sl, ?_⟩
  have po : PostS X.K W w (match gArgs [ga, gb] ρ st with | .ok [x, y] st' => .nx ((ρ.set i (some x)).set j (some y)) st' | .ok _ _ => .bad | .exc c st' => .exc c ρ st' | .bad => .bad) D := po
  cases e : gArgs [ga, gb] ρ st with
  | exc c st1 => rw [e] at po; exact fun w' H' l o => po w' σ H' l o (sl.mono l)
  | bad => rw [e] at po; exact po.elim
  | ok xs st1 =>
    rw [e] at po
    have hl := gArgs_len e
    rcases xs with _ | ⟨u, _ | ⟨v, _ | ⟨z, zs⟩⟩⟩
    · simp at hl
    · simp at hl
    · intro w1 H1 vs l1 ok1 rs
      obtain ⟨vu, vv, ev, ru, rv⟩ := repl2 rs
      exact ⟨vu, vv, ev, po w1 _ H1 l1 ok1 (((sl.mono l1).set ru).set rv)⟩
    · simp at hl
/-- x.bit_length() -/
def bitsV : F1 := fun _ x => match x with
  | .int i => some (.int (Builtin.Int.intBits i : Nat))
  | _ => none
theorem se_bits {apos : Pos} (h : PE X e (tG X.K W g)) (hbase : attributeBase e "bit_length" X.env (eval e X.env) = eval e X.env := by rfl) (hline : (apos.endLine == pos.line) = true := by rfl) : PE X (.Call (.Attribute e "bit_length" apos) [] [] pos) (tG X.K W (gUn bitsV g)) := by
  refine pe_imp (pe_bits h hbase hline) fun σ H Q ⟨w, ρ, st, ok, sl, po⟩ => ⟨w, ρ, st, ok, sl, post_bind (rel2 := Rep X.K) po fun x st1 w1 H1 vx l1 ok1 rx po1 => ?_⟩
  cases x with
  | int i => exact ⟨i, rx, po1 w1 H1 _ (Le.refl _) ok1 rfl⟩
  | _ => exact po1.elim
/-- a < b < c -/
def gChain (f f' : F2) (ga gb gc : G) : G := fun ρ st => bnd (ga ρ st) fun x st => bnd (gb ρ st) fun y st => match f st x y with
  | some (.bl true) => bnd (gc ρ st) fun z st => oo (f' st y z) st
  | some (.bl false) => .ok (.bl false) st
  | _ => .bad
theorem tChain_of {f f' : F2} {r r' : R2} {gc : G} (hs : Snd2 X.K f r) (hs' : Snd2 X.K f' r') {σ : L2.St} {H : Hp} {Q : VK} (h : tG X.K W (gChain f f' ga gb gc) σ H Q) :
    tG X.K W ga σ H fun x H1 => tG X.K W gb σ H1 fun y H2 => r x y H2 fun z H3 => ∃ k, z = .bl k ∧ (if k = true then tG X.K W gc σ H3 fun u H4 => r' y u H4 Q else Q (.bl false) H3) := by
  obtain ⟨w, ρ, st, ok, sl, po⟩ := h
  refine ⟨w, ρ, st, ok, sl, post_bind (rel2 := Rep X.K) po fun x st1 w1 H1 vx l1 ok1 rx po1 => ?_⟩
  refine ⟨w1, ρ, st1, ok1, sl.mono l1, post_bind (rel2 := Rep X.K) po1 fun y st2 w2 H2 vy l2 ok2 ry po2 => ?_⟩
  have po2 : Post X.K W (Rep X.K) w2 σ (match f st2 x y with | some (.bl true) => bnd (gc ρ st2) fun z st => oo (f' st y z) st | some (.bl false) => .ok (.bl false) st2 | _ => .bad) Q := po2
  cases e : f st2 x y with
  | none => rw [e] at po2; exact po2.elim
  | some z =>
    rw [e] at po2
    refine hs w2 H2 st2 x y z vx vy _ ok2 (rx.mono l2) ry e fun w3 H3 vz l3 ok3 rz => ?_
    cases z with
    | bl k =>
      refine ⟨k, rz, ?_⟩
      cases k with
      | false => rw [if_neg Bool.false_ne_true]; exact po2 w3 H3 _ l3 ok3 rfl
      | true =>
        rw [if_pos rfl]
        refine ⟨w3, ρ, st2, ok3, ((sl.mono l1).mono l2).mono l3, post_bind (rel2 := Rep X.K) (Post.mono l3 po2) fun u st4 w4 H4 vu l4 ok4 ru po4 => ?_⟩
        cases e2 : f' st4 y u with
        | none => rw [e2] at po4; exact po4.elim
        | some z => rw [e2] at po4; exact hs' w4 H4 st4 y u z vy vu Q ok4 ((ry.mono l3).mono l4) ru e2 fun w' H' vz l o r => po4 w' H' vz l o r
    | _ => exact po2.elim
end
end Z
/-! What a call leaves: its own mutable objects are frozen. -/
namespace Z
open PySem PySem.Spec PyProof.Rows L2
def mapO {α β : Type} (f : α → Option β) : List α → Option (List β)
  | [] => some []
  | x :: xs => match f x with
    | some y => (match mapO f xs with
      | some ys => some (y :: ys)
      | none => none)
    | none => none
def frzV (st : List SO) (n : Nat) : Nat → PV → Option PV
  | 0, _ => none
  | d + 1, .ref k => if k < n then some (.ref k) else (match st[k]? with
    | some (.lst xs) => (mapO (frzV st n d) xs).map .lst
    | some (.dK kvs) => (mapO (fun p : Key × PV => (frzV st n d p.2).map fun v => (p.1, v)) kvs).map .dct
    | none => none)
  | d + 1, .tup xs => (mapO (frzV st n d) xs).map .tup
  | d + 1, .lst xs => (mapO (frzV st n d) xs).map .lst
  | d + 1, .dct kvs => (mapO (fun p : Key × PV => (frzV st n d p.2).map fun v => (p.1, v)) kvs).map .dct
  | _ + 1, x => some x
mutual
/-- no mutable object within -/
def flat : PV → Bool
  | .ref _ => false
  | .tup xs => flatL xs
  | .lst xs => flatL xs
  | .dct kvs => flatD kvs
  | .non => true
  | .bl _ => true
  | .int _ => true
  | .str _ => true
  | .exc _ => true
  | .ty _ => true
  | .cls _ => true
def flatL : List PV → Bool
  | [] => true
  | x :: xs => flat x && flatL xs
def flatD : List (Key × PV) → Bool
  | [] => true
  | (_, x) :: xs => flat x && flatD xs
end
def flatO : SO → Bool
  | .lst xs => flatL xs
  | .dK kvs => flatD kvs
/-- what was there is as it was, or flat -/
def OldOk (st st' : List SO) : Prop := st.length ≤ st'.length ∧ ∀ k : Nat, k < st.length → st'[k]? = st[k]? ∨ ∃ c, st'[k]? = some c ∧ flatO c = true
theorem OldOk.refl (st : List SO) : OldOk st st := ⟨Nat.le_refl _, fun _ _ => .inl rfl⟩
theorem OldOk.app {st st' new : List SO} (h : OldOk st st') : OldOk st (st' ++ new) :=
  ⟨by rw [List.length_append]; exact Nat.le_trans h.1 (Nat.le_add_right _ _), fun k hk => by rw [List.getElem?_append_left (Nat.lt_of_lt_of_le hk h.1)]; exact h.2 k hk⟩
theorem OldOk.set {st st' : List SO} {k : Nat} {c : SO} (h : OldOk st st') (hc : flatO c = true ∨ st.length ≤ k) : OldOk st (st'.set k c) := by
  refine ⟨by rw [List.length_set]; exact h.1, fun j hj => ?_⟩
  by_cases e : k = j
  · subst e
    rcases hc with hc | hc
    · rw [List.getElem?_set_self (Nat.lt_of_lt_of_le hj h.1)]; exact .inr ⟨c, rfl, hc⟩
    · exact absurd hj (Nat.not_lt.mpr hc)
  · rw [List.getElem?_set_ne e]; exact h.2 j hj
open Classical in
/-- a def's end: what it made itself is frozen -/
noncomputable def leave (st : List SO) (r : SRes) : Res PV := match r with
  | .ret v st' => (match frzV st' st.length 9 v with
    | some v' => if OldOk st st' then .ok v' (st'.take st.length) else .bad
    | none => .bad)
  | .nx _ st' => if OldOk st st' then .ok .non (st'.take st.length) else .bad
  | .exc c _ st' => if OldOk st st' then .exc c (st'.take st.length) else .bad
  | .bad => .bad
theorem leave_ret {st st' : List SO} {v v' : PV} (h : OldOk st st') (hv : frzV st' st.length 9 v = some v') : leave st (.ret v st') = .ok v' (st'.take st.length) := by
  unfold leave
  simp only [hv, if_pos h]
theorem leave_exc {st st' : List SO} {c : Str} {ρ : REnv} (h : OldOk st st') : leave st (.exc c ρ st') = .exc c (st'.take st.length) := by
  unfold leave
  simp only [if_pos h]

section
variable {K : PySem.W.Frag}
mutual
theorem flat_rep {w w' : Wd} (hF : ∀ a o, w.F a = some o → w'.F a = some o) : ∀ (x : PV) (v : V), flat x = true → Rep K w x v → Rep K w' x v
  | .non, v, _, h => h
  | .bl b, v, _, h => h
  | .int i, v, _, h => h
  | .str s, v, _, h => h
  | .tup xs, v, f, ⟨a, vs, e, q, r⟩ => ⟨a, vs, e, sqt_mono hF q, flatL_rep hF xs vs f r⟩
  | .lst xs, v, f, ⟨a, vs, e, q, r⟩ => ⟨a, vs, e, sql_mono hF q, flatL_rep hF xs vs f r⟩
  | .dct kvs, v, f, ⟨a, vs, e, q, r⟩ => ⟨a, vs, e, hF _ _ q, flatD_rep hF kvs vs f r⟩
  | .exc _, v, _, h => h
  | .ref k, v, f, _ => by cases f
  | .ty n, v, _, h => h
  | .cls n, v, _, h => h
theorem flatL_rep {w w' : Wd} (hF : ∀ a o, w.F a = some o → w'.F a = some o) : ∀ (x : List PV) (v : List V), flatL x = true → RepL K w x v → RepL K w' x v
  | [], vs, _, h => h
  | x :: xs, vs, f, ⟨v, r, e, h1, h2⟩ => by
    have f' : (flat x && flatL xs) = true := f
    rw [Bool.and_eq_true] at f'
    exact ⟨v, r, e, flat_rep hF x v f'.1 h1, flatL_rep hF xs r f'.2 h2⟩
theorem flatD_rep {w w' : Wd} (hF : ∀ a o, w.F a = some o → w'.F a = some o) : ∀ (x : List (Key × PV)) (v : List (Key × V)), flatD x = true → RepD K w x v → RepD K w' x v
  | [], vs, _, h => h
  | (k, x) :: xs, vs, f, ⟨v, r, e, h1, h2⟩ => by
    have f' : (flat x && flatD xs) = true := f
    rw [Bool.and_eq_true] at f'
    exact ⟨v, r, e, flat_rep hF x v f'.1 h1, flatD_rep hF xs r f'.2 h2⟩
end
theorem flatO_rep {w w' : Wd} (hF : ∀ a o, w.F a = some o → w'.F a = some o) {c : SO} {o : HO} (f : flatO c = true) (h : RepO K w c o) : RepO K w' c o := by
  cases c with
  | lst xs => obtain ⟨vs, e, r⟩ := h; exact ⟨vs, e, flatL_rep hF xs vs f r⟩
  | dK xs => obtain ⟨vs, e, r⟩ := h; exact ⟨vs, e, flatD_rep hF xs vs f r⟩
mutual
theorem sameV {w0 w w' : Wd} (hF : ∀ a o, w.F a = some o → w'.F a = some o) (hA : ∀ (k : Nat) (a0 a : Addr), w0.adr[k]? = some a0 → w.adr[k]? = some a → w'.adr[k]? = some a) : ∀ (x : PV) (v0 v : V), Rep K w0 x v0 → Rep K w x v → Rep K w' x v
  | .non, _, v, _, h => h
  | .bl b, _, v, _, h => h
  | .int i, _, v, _, h => h
  | .str s, _, v, _, h => h
  | .tup xs, _, v, ⟨_, vs0, _, _, r0⟩, ⟨a, vs, e, q, r⟩ => ⟨a, vs, e, sqt_mono hF q, sameL hF hA xs vs0 vs r0 r⟩
  | .lst xs, _, v, ⟨_, vs0, _, _, r0⟩, ⟨a, vs, e, q, r⟩ => ⟨a, vs, e, sql_mono hF q, sameL hF hA xs vs0 vs r0 r⟩
  | .dct kvs, _, v, ⟨_, vs0, _, _, r0⟩, ⟨a, vs, e, q, r⟩ => ⟨a, vs, e, hF _ _ q, sameD hF hA kvs vs0 vs r0 r⟩
  | .exc _, _, v, _, h => h
  | .ref k, _, v, ⟨a0, _, q0⟩, ⟨a, e, q⟩ => ⟨a, e, hA k a0 a q0 q⟩
  | .ty n, _, v, _, h => h
  | .cls n, _, v, _, h => h
theorem sameL {w0 w w' : Wd} (hF : ∀ a o, w.F a = some o → w'.F a = some o) (hA : ∀ (k : Nat) (a0 a : Addr), w0.adr[k]? = some a0 → w.adr[k]? = some a → w'.adr[k]? = some a) : ∀ (x : List PV) (v0 v : List V), RepL K w0 x v0 → RepL K w x v → RepL K w' x v
  | [], _, vs, _, h => h
  | x :: xs, _, vs, ⟨v0, r0, _, g1, g2⟩, ⟨v, r, e, h1, h2⟩ => ⟨v, r, e, sameV hF hA x v0 v g1 h1, sameL hF hA xs r0 r g2 h2⟩
theorem sameD {w0 w w' : Wd} (hF : ∀ a o, w.F a = some o → w'.F a = some o) (hA : ∀ (k : Nat) (a0 a : Addr), w0.adr[k]? = some a0 → w.adr[k]? = some a → w'.adr[k]? = some a) : ∀ (x : List (Key × PV)) (v0 v : List (Key × V)), RepD K w0 x v0 → RepD K w x v → RepD K w' x v
  | [], _, vs, _, h => h
  | (k, x) :: xs, _, vs, ⟨v0, r0, _, g1, g2⟩, ⟨v, r, e, h1, h2⟩ => ⟨v, r, e, sameV hF hA x v0 v g1 h1, sameD hF hA xs r0 r g2 h2⟩
end
/-- the world behind a call -/
def Wd.left (w : Wd) (n : Nat) (H : Hp) : Wd := { F := fun a => match w.F a with
  | some o => some o
  | none => if a ∈ w.adr.drop n then H a else none, R := w.R, adr := w.adr.take n }
theorem left_F {w : Wd} {n : Nat} {H : Hp} : ∀ a o, w.F a = some o → (w.left n H).F a = some o := fun a o e => by
  show (match w.F a with | some o => some o | none => if a ∈ w.adr.drop n then H a else none) = some o
  rw [e]
theorem left_new {w : Wd} {n : Nat} {H : Hp} {st : List SO} (ok : WOk K w H st) {k : Nat} {a : Addr} (e : w.adr[k]? = some a) (hk : n ≤ k) : (w.left n H).F a = H a := by
  show (match w.F a with | some o => some o | none => if a ∈ w.adr.drop n then H a else none) = H a
  rw [(ok.ad k a e).1]
  show (if a ∈ w.adr.drop n then H a else none) = H a
  rw [if_pos]
  refine List.mem_of_getElem? (i := k - n) ?_
  rw [List.getElem?_drop, show n + (k - n) = k by omega]
  exact e
theorem mapO_rep {w w' : Wd} {f : PV → Option PV} (hf : ∀ x x' v, f x = some x' → Rep K w x v → Rep K w' x' v) : ∀ (xs ys : List PV) (vs : List V), mapO f xs = some ys → RepL K w xs vs → RepL K w' ys vs
  | [], ys, vs, e, r => by cases e; exact r
  | x :: xs, ys, vs, e, ⟨v, r, ev, h1, h2⟩ => by
    unfold mapO at e
    cases q : f x with
    | none => rw [q] at e; cases e
    | some y =>
      rw [q] at e
      cases q2 : mapO f xs with
      | none => rw [q2] at e; cases e
      | some zs => rw [q2] at e; cases e; exact ⟨v, r, ev, hf x y v q h1, mapO_rep hf xs zs r q2 h2⟩
theorem mapO_repD {w w' : Wd} {f : PV → Option PV} (hf : ∀ x x' v, f x = some x' → Rep K w x v → Rep K w' x' v) : ∀ (xs ys : List (Key × PV)) (vs : List (Key × V)), mapO (fun p : Key × PV => (f p.2).map fun v => (p.1, v)) xs = some ys → RepD K w xs vs → RepD K w' ys vs
  | [], ys, vs, e, r => by cases e; exact r
  | (k, x) :: xs, ys, vs, e, ⟨v, r, ev, h1, h2⟩ => by
    unfold mapO at e
    cases q : f x with
    | none => simp only [q] at e; cases e
    | some y =>
      simp only [q] at e
      cases q2 : mapO (fun p : Key × PV => (f p.2).map fun v => (p.1, v)) xs with
      | none => rw [q2] at e; cases e
      | some zs => rw [q2] at e; cases e; exact ⟨v, r, ev, hf x y v q h1, mapO_repD hf xs zs r q2 h2⟩
theorem frz_rep {w : Wd} {H : Hp} {st : List SO} {n : Nat} (ok : WOk K w H st) : ∀ (d : Nat) (x x' : PV) (v : V), frzV st n d x = some x' → Rep K w x v → Rep K (w.left n H) x' v
  | 0, x, x', v, e, r => by cases e
  | d + 1, x, x', v, e, r => by
    cases x with
    | ref k =>
      obtain ⟨a, ev, qa⟩ := r
      have e : (if k < n then some (PV.ref k) else (match st[k]? with
        | some (.lst xs) => (mapO (frzV st n d) xs).map .lst
        | some (.dK kvs) => (mapO (fun p : Key × PV => (frzV st n d p.2).map fun v => (p.1, v)) kvs).map .dct
        | none => none)) = some x' := e
      by_cases hk : k < n
      · rw [if_pos hk] at e
        cases e
        refine ⟨a, ev, ?_⟩
        show (w.adr.take n)[k]? = some a
        rw [List.getElem?_take_of_lt hk]; exact qa
      · rw [if_neg hk] at e
        obtain ⟨c, o, h1, h2, h3⟩ := ok.obj qa
        rw [h1] at e
        have hF := left_new ok qa (show n ≤ k by omega)
        cases c with
        | lst xs =>
          obtain ⟨vs, eo, rs⟩ := h3
          obtain ⟨ys, ey, rfl⟩ := Option.map_eq_some_iff.mp (show (mapO (frzV st n d) xs).map PV.lst = some x' from e)
          exact ⟨a, vs, ev, .inl (.inl (by rw [hF, h2, eo])), mapO_rep (fun x x' v => frz_rep ok d x x' v) xs ys vs ey rs⟩
        | dK kvs =>
          obtain ⟨vs, eo, rs⟩ := h3
          obtain ⟨ys, ey, rfl⟩ := Option.map_eq_some_iff.mp (show (mapO (fun p : Key × PV => (frzV st n d p.2).map fun v => (p.1, v)) kvs).map PV.dct = some x' from e)
          exact ⟨a, vs, ev, by rw [hF, h2, eo], mapO_repD (fun x x' v => frz_rep ok d x x' v) kvs ys vs ey rs⟩
    | tup xs =>
      obtain ⟨a, vs, ev, sq, rs⟩ := r
      obtain ⟨ys, ey, rfl⟩ := Option.map_eq_some_iff.mp (show (mapO (frzV st n d) xs).map PV.tup = some x' from e)
      exact ⟨a, vs, ev, sqt_mono left_F sq, mapO_rep (fun x x' v => frz_rep ok d x x' v) xs ys vs ey rs⟩
    | lst xs =>
      obtain ⟨a, vs, ev, sq, rs⟩ := r
      obtain ⟨ys, ey, rfl⟩ := Option.map_eq_some_iff.mp (show (mapO (frzV st n d) xs).map PV.lst = some x' from e)
      exact ⟨a, vs, ev, sql_mono left_F sq, mapO_rep (fun x x' v => frz_rep ok d x x' v) xs ys vs ey rs⟩
    | dct xs =>
      obtain ⟨a, vs, ev, sq, rs⟩ := r
      obtain ⟨ys, ey, rfl⟩ := Option.map_eq_some_iff.mp (show (mapO (fun p : Key × PV => (frzV st n d p.2).map fun v => (p.1, v)) xs).map PV.dct = some x' from e)
      exact ⟨a, vs, ev, left_F _ _ sq, mapO_repD (fun x x' v => frz_rep ok d x x' v) xs ys vs ey rs⟩
    | non => cases e; exact r
    | bl b => cases e; exact r
    | int b => cases e; exact r
    | str b => cases e; exact r
    | exc b => cases e; exact r
    | ty b => cases e; exact r
    | cls b => cases e; exact r
theorem left_ok {w0 w : Wd} {H H0 : Hp} {st st' : List SO} (ok0 : WOk K w0 H0 st) (l : Le w0 w) (ok : WOk K w H st') (old : OldOk st st') : WOk K (w.left st.length H) H (st'.take st.length) ∧ Le w0 (w.left st.length H) := by
  have hadr : w.adr.take st.length = w0.adr := by
    obtain ⟨m, e⟩ := l.adr
    rw [e, ← ok0.len, List.take_left]
  have le : Le w0 (w.left st.length H) := ⟨⟨fun a o e => left_F a o (l.F a o e), [], by rw [List.append_nil]; exact hadr⟩, l.R⟩
  have newIn : ∀ a, a ∈ w.adr.drop st.length → ∃ k, st.length ≤ k ∧ w.adr[k]? = some a := fun a hm => by
    obtain ⟨j, hj, e⟩ := List.getElem_of_mem hm
    refine ⟨st.length + j, Nat.le_add_right _ _, ?_⟩
    rw [← List.getElem?_drop, List.getElem?_eq_getElem hj, e]
  have oldAdr : ∀ (k : Nat) (a : Addr), w0.adr[k]? = some a → k < st.length ∧ w.adr[k]? = some a := fun k a e => ⟨by rw [← ok0.len]; exact (List.getElem?_eq_some_iff.mp e).1, l.at e⟩
  have notNew : ∀ (k : Nat) (a : Addr), w0.adr[k]? = some a → a ∉ w.adr.drop st.length := fun k a e hm => by
    obtain ⟨j, hj, e2⟩ := newIn a hm
    obtain ⟨hk, e1⟩ := oldAdr k a e
    have := nd_ix ok.nd e1 e2
    omega
  refine ⟨⟨fun a o e => ?_, ok.fr, fun a o e => ?_, ?_, ?_, fun k a e => ?_, fun k a c e1 e2 => ?_⟩, le⟩
  · have e : (match w.F a with | some o => some o | none => if a ∈ w.adr.drop st.length then H a else none) = some o := e
    cases q : w.F a with
    | some u => rw [q] at e; cases e; exact ok.fz a _ q
    | none =>
      rw [q] at e
      by_cases hm : a ∈ w.adr.drop st.length
      · have e : (if a ∈ w.adr.drop st.length then H a else none) = some o := e
        rw [if_pos hm] at e; exact e
      · have e : (if a ∈ w.adr.drop st.length then H a else none) = some o := e
        rw [if_neg hm] at e; cases e
  · show (match w.F a with | some o => some o | none => if a ∈ w.adr.drop st.length then H a else none) = none
    rw [ok.dj a o e]
    show (if a ∈ w.adr.drop st.length then H a else none) = none
    rw [if_neg]
    intro hm
    obtain ⟨k, _, e2⟩ := newIn a hm
    have := (ok.ad k a e2).2
    rw [show w.R a = some o from e] at this; cases this
  · show (w.adr.take st.length).Nodup
    rw [hadr]; exact ok0.nd
  · show (w.adr.take st.length).length = (st'.take st.length).length
    rw [hadr, ok0.len, List.length_take]
    have := old.1
    omega
  · have e : (w.adr.take st.length)[k]? = some a := e
    rw [hadr] at e
    obtain ⟨hk, e1⟩ := oldAdr k a e
    refine ⟨?_, (ok.ad k a e1).2⟩
    show (match w.F a with | some o => some o | none => if a ∈ w.adr.drop st.length then H a else none) = none
    rw [(ok.ad k a e1).1]
    exact if_neg (notNew k a e)
  · have e1 : (w.adr.take st.length)[k]? = some a := e1
    rw [hadr] at e1
    obtain ⟨hk, e3⟩ := oldAdr k a e1
    rw [List.getElem?_take_of_lt hk] at e2
    obtain ⟨o, h1, h2⟩ := ok.ob k a c e3 e2
    refine ⟨o, h1, ?_⟩
    have hA : ∀ (k : Nat) (a0 a : Addr), w0.adr[k]? = some a0 → w.adr[k]? = some a → (w.left st.length H).adr[k]? = some a := fun k a0 a q0 q => by
      show (w.adr.take st.length)[k]? = some a
      rw [List.getElem?_take_of_lt (oldAdr k a0 q0).1]; exact q
    rcases old.2 k hk with q | ⟨c', q, fl⟩
    · rw [e2] at q
      obtain ⟨o0, g1, g2⟩ := ok0.ob k a c e1 q.symm
      -- the content is one that the earlier world knew: its values are told again by that world
      cases c with
      | lst xs =>
        obtain ⟨vs, rfl, rs⟩ := h2
        obtain ⟨vs0, rfl, rs0⟩ := g2
        exact ⟨vs, rfl, sameL left_F hA xs vs0 vs rs0 rs⟩
      | dK xs =>
        obtain ⟨vs, rfl, rs⟩ := h2
        obtain ⟨vs0, rfl, rs0⟩ := g2
        exact ⟨vs, rfl, sameD left_F hA xs vs0 vs rs0 rs⟩
    · rw [e2] at q
      cases q
      exact flatO_rep left_F fl h2
end
section
variable {P : Program} {w : World} {K : PySem.W.Frag} {mg : Str → Option Value} {base : Heap}
open Classical in
theorem def_leave {x : Str} {params : Arguments} {body : List Stmt} {scope : Scope} {fd : FuncData} {f : Addr} {N ps : List Str} {k n : Nat} {F : Fn} {g : GS} (FD : FunD K x x params body scope [] [] f fd) (S : FnScope N ps scope) (hps : ps.length = n) (hm : mg x = some (.ref f))
    (hb : Binds K fd ps [])
    (hbody : ∀ (cdv : Value) (A : Around) (outer : List PySem.Env) (s : Shared) (H : Hp) (E : XK), Room k (A.deeper (envOfC x scope s.heap.objs.size f cdv)) →
      PSs (cxOf (L2N.CX P w) P w K mg base N x scope f cdv A outer s H E) body (tS K (fun cls d _ H => E cls d H) g))
    (hF : ∀ xs st, xs.length = n → F xs st = .bad ∨ F xs st = leave st (g (begin N.length n xs) st)) : Def P w K mg base x n (k + 1) F := by
  refine ⟨f, fd, ps, hps, ?_, hm, FD.kp, hb⟩
  refine FD.ok S (fun vs H Q E h => ?_) fun cdv A outer s H vs Q E hr h => ⟨tS K (fun cls d _ H => E cls d H) g, hbody cdv A outer s H E hr, ?_⟩
  · obtain ⟨wd, xs, st, hn, _, r, _⟩ := h
    rw [r.length, hn, hps]
  · obtain ⟨wd, xs, st, hn, ok, r, po⟩ := h
    refine ⟨wd, begin N.length n xs, st, ok, slots_start r hn, ?_⟩
    rcases hF xs st hn with e | e
    · rw [e] at po; exact po.elim
    · rw [e] at po
      cases q : g (begin N.length n xs) st with
      | nx ρ' st' =>
        rw [q] at po
        by_cases old : OldOk st st'
        · have po : PostF K wd (if OldOk st st' then .ok .non (st'.take st.length) else .bad) Q E := po
          rw [if_pos old] at po
          intro w' σ' H' l o _
          obtain ⟨ok2, le2⟩ := left_ok ok l o old
          exact po _ H' .non le2 ok2 rfl
        · have po : PostF K wd (if OldOk st st' then .ok .non (st'.take st.length) else .bad) Q E := po
          rw [if_neg old] at po; exact po.elim
      | ret v st' =>
        rw [q] at po
        have po : PostF K wd (match frzV st' st.length 9 v with | some v' => if OldOk st st' then .ok v' (st'.take st.length) else .bad | none => .bad) Q E := po
        cases e2 : frzV st' st.length 9 v with
        | none => rw [e2] at po; exact po.elim
        | some v' =>
          rw [e2] at po
          by_cases old : OldOk st st'
          · have po : PostF K wd (if OldOk st st' then .ok v' (st'.take st.length) else .bad) Q E := po
            rw [if_pos old] at po
            intro w' H' x l o rx
            obtain ⟨ok2, le2⟩ := left_ok ok l o old
            exact po _ H' x le2 ok2 (frz_rep o 9 v v' x e2 rx)
          · have po : PostF K wd (if OldOk st st' then .ok v' (st'.take st.length) else .bad) Q E := po
            rw [if_neg old] at po; exact po.elim
      | exc c ρ' st' =>
        rw [q] at po
        by_cases old : OldOk st st'
        · have po : PostF K wd (if OldOk st st' then .exc c (st'.take st.length) else .bad) Q E := po
          rw [if_pos old] at po
          intro w' σ' H' l o _
          obtain ⟨ok2, le2⟩ := left_ok ok l o old
          exact po _ H' le2 ok2
        · have po : PostF K wd (if OldOk st st' then .exc c (st'.take st.length) else .bad) Q E := po
          rw [if_neg old] at po; exact po.elim
      | bad => rw [q] at po; exact po.elim
end
end Z
/-! The codes' equations, for reckoning. -/
namespace Z
open PySem PySem.Spec PyProof.Rows L2
section
variable {α β : Type} {ρ ρ' : REnv} {st st' : List SO} {v x y : PV} {c : Str} {b : Bool}
theorem bnd_ok {a : α} {k : α → List SO → Res β} : bnd (.ok a st) k = k a st := rfl
theorem bnd_exc {k : α → List SO → Res β} : bnd (.exc c st) k = .exc c st := rfl
theorem bnd_bad {k : α → List SO → Res β} : bnd .bad k = .bad := rfl
theorem toS_ok {k : PV → List SO → SRes} : toS ρ (.ok v st) k = k v st := rfl
theorem toS_exc {k : PV → List SO → SRes} : toS ρ (.exc c st) k = .exc c ρ st := rfl
theorem toST_ok {k : Bool → List SO → SRes} : toST ρ (.ok b st) k = k b st := rfl
theorem toST_exc {k : Bool → List SO → SRes} : toST ρ (.exc c st) k = .exc c ρ st := rfl
theorem toSL_ok {l : List PV} {k : List PV → List SO → SRes} : toSL ρ (.ok l st) k = k l st := rfl
theorem toSL_exc {k : List PV → List SO → SRes} : toSL ρ (.exc c st) k = .exc c ρ st := rfl
theorem oo_some : oo (some v) st = .ok v st := rfl
theorem oo_none : oo none st = .bad := rfl
def slotR : Option (Option PV) → List SO → Res PV
  | some (some v), st => .ok v st
  | _, _ => .bad
theorem gVar_eq {i : Nat} : gVar i ρ st = slotR ρ[i]? st := by
  unfold gVar slotR
  rcases ρ[i]? with _ | _ | _ <;> rfl
theorem slotR_some : slotR (some (some v)) st = .ok v st := rfl
theorem gC_eq : gC v ρ st = .ok v st := rfl
theorem gBin_eq {f : F2} {ga gb : G} : gBin f ga gb ρ st = bnd (ga ρ st) fun x st => bnd (gb ρ st) fun y st => oo (f st x y) st := rfl
theorem gUn_eq {f : F1} {ga : G} : gUn f ga ρ st = bnd (ga ρ st) fun x st => oo (f st x) st := rfl
theorem gArgs_nil : gArgs [] ρ st = .ok [] st := rfl
theorem gArgs_cons {g : G} {gs : List G} : gArgs (g :: gs) ρ st = bnd (g ρ st) fun x st => bnd (gArgs gs ρ st) fun xs st => .ok (x :: xs) st := rfl
theorem gTupE_eq {gs : List G} : gTupE gs ρ st = bnd (gArgs gs ρ st) fun xs st => .ok (.tup xs) st := rfl
theorem gLstE_eq {gs : List G} : gLstE gs ρ st = bnd (gArgs gs ρ st) fun xs st => .ok (.lst xs) st := rfl
theorem gNewE_eq {gs : List G} : gNewE gs ρ st = bnd (gArgs gs ρ st) fun xs st => .ok (.ref st.length) (st ++ [.lst xs]) := rfl
theorem gCall_eq {F : List PV → List SO → Res PV} {gs : List G} : gCall F gs ρ st = bnd (gArgs gs ρ st) fun xs st => F xs st := rfl
theorem gBi_eq {f : FL} {gs : List G} : gBi f gs ρ st = bnd (gArgs gs ρ st) fun xs st => oo (f st xs) st := rfl
def asB : PV → List SO → Res Bool
  | .bl b, st => .ok b st
  | _, _ => .bad
theorem gB_eq {g : G} : gB g ρ st = bnd (g ρ st) asB := by
  unfold gB
  cases g ρ st with
  | ok v st => cases v <;> rfl
  | _ => rfl
theorem asB_bl : asB (.bl b) st = .ok b st := rfl
theorem gAnd_eq {p q : GT} : gAnd p q ρ st = bnd (p ρ st) fun c st => if c = true then q ρ st else .ok false st := rfl
theorem gOr_eq {p q : GT} : gOr p q ρ st = bnd (p ρ st) fun c st => if c = true then .ok true st else q ρ st := rfl
theorem gNot_eq {p : GT} : gNot p ρ st = bnd (p ρ st) fun c st => .ok (!c) st := rfl
theorem gVT_eq {p : GT} : gVT p ρ st = bnd (p ρ st) fun c st => .ok (.bl c) st := rfl
theorem gIf_eq {p : GT} {g h : G} : gIf p g h ρ st = bnd (p ρ st) fun c st => if c = true then g ρ st else h ρ st := rfl
def chK (o : Option PV) (st : List SO) (k : List SO → Res PV) : Res PV := match o with
  | some (.bl true) => k st
  | some (.bl false) => .ok (.bl false) st
  | _ => .bad
theorem gChain_eq {f f' : F2} {ga gb gc : G} : gChain f f' ga gb gc ρ st = bnd (ga ρ st) fun x st => bnd (gb ρ st) fun y st => chK (f st x y) st fun st => bnd (gc ρ st) fun z st => oo (f' st y z) st := by
  unfold gChain chK
  rfl
theorem chK_t {k : List SO → Res PV} : chK (some (.bl true)) st k = k st := rfl
theorem chK_f {k : List SO → Res PV} : chK (some (.bl false)) st k = .ok (.bl false) st := rfl
theorem chK_b {k : List SO → Res PV} : chK (some (.bl b)) st k = if b = true then k st else .ok (.bl false) st := by cases b <;> rfl
def seqK : SRes → GS → SRes
  | .nx ρ' st', b => b ρ' st'
  | r, _ => r
theorem gSeq_eq {p q : GS} : gSeq p q ρ st = seqK (p ρ st) q := by unfold gSeq seqK; cases p ρ st <;> rfl
theorem seqK_nx {q : GS} : seqK (.nx ρ st) q = q ρ st := rfl
theorem seqK_ret {q : GS} : seqK (.ret v st) q = .ret v st := rfl
theorem seqK_exc {q : GS} : seqK (.exc c ρ st) q = .exc c ρ st := rfl
theorem seqK_ite {p : Prop} [Decidable p] {r s : SRes} {q : GS} : seqK (if p then r else s) q = if p then seqK r q else seqK s q := by split <;> rfl
theorem gRet_eq {g : G} : gRet g ρ st = toS ρ (g ρ st) fun v st => .ret v st := rfl
theorem gSet_eq {i : Nat} {g : G} : gSet i g ρ st = toS ρ (g ρ st) fun v st => .nx (ρ.set i (some v)) st := rfl
theorem gExpr_eq {g : G} : gExpr g ρ st = toS ρ (g ρ st) fun _ st => .nx ρ st := rfl
theorem gIfS_eq {p : GT} {s t : GS} : gIfS p s t ρ st = toST ρ (p ρ st) fun c st => if c = true then s ρ st else t ρ st := rfl
theorem gRaise_eq : gRaise c ρ st = .exc c ρ st := rfl
theorem gSkip_eq : gSkip ρ st = .nx ρ st := rfl
theorem gAsg_eq {g : G} {t : PV → GS} : gAsg g t ρ st = toS ρ (g ρ st) fun v st => t v ρ st := rfl
def toK : Option REnv → List SO → SRes
  | some ρ', st => .nx ρ' st
  | none, _ => .bad
theorem gTo_eq {t : PV → REnv → Option REnv} : gTo t v ρ st = toK (t v ρ) st := by unfold gTo toK; cases t v ρ <;> rfl
theorem toK_some : toK (some ρ') st = .nx ρ' st := rfl
theorem tgName_eq {i : Nat} : tgName i v ρ = some (ρ.set i (some v)) := rfl
theorem tgNil_eq : tgNil [] ρ = some ρ := rfl
theorem tgCons_eq {t : PV → REnv → Option REnv} {u : List PV → REnv → Option REnv} {xs : List PV} : tgCons t u (x :: xs) ρ = (t x ρ).bind (u xs) := rfl
theorem tgTup_eq {n : Nat} {u : List PV → REnv → Option REnv} {xs : List PV} : tgTup n u (.tup xs) ρ = if xs.length = n then u xs ρ else none := rfl
theorem bind_some {f : REnv → Option REnv} : (some ρ).bind f = f ρ := rfl
def parK (i j : Nat) (ρ : REnv) : Res (List PV) → SRes
  | .ok [x, y] st' => .nx ((ρ.set i (some x)).set j (some y)) st'
  | .ok _ _ => .bad
  | .exc c st' => .exc c ρ st'
  | .bad => .bad
theorem gPar_eq {i j : Nat} {g h : G} : gPar i j g h ρ st = parK i j ρ (gArgs [g, h] ρ st) := by
  unfold gPar parK
  cases gArgs [g, h] ρ st <;> rfl
theorem parK_ok {i j : Nat} : parK i j ρ (.ok [x, y] st) = .nx ((ρ.set i (some x)).set j (some y)) st := rfl
theorem parK_exc {i j : Nat} : parK i j ρ (.exc c st) = .exc c ρ st := rfl
def stK (ρ : REnv) : Option (List SO) → SRes
  | some st4 => .nx ρ st4
  | none => .bad
theorem gStore_eq {f : List SO → PV → PV → PV → Option (List SO)} {ge go gi : G} : gStore f ge go gi ρ st = toS ρ (ge ρ st) fun v st1 => toS ρ (go ρ st1) fun o st2 => toS ρ (gi ρ st2) fun i st3 => stK ρ (f st3 o i v) := by
  unfold gStore stK
  rfl
theorem stK_some : stK ρ (some st) = .nx ρ st := rfl
theorem gMeth_eq {T : String} {f : FM} {go : G} {gs : List G} : gMeth T f go gs ρ st = bnd (go ρ st) fun x st1 => if isT T st1 x = true then bnd (gArgs gs ρ st1) fun xs st2 => f st2 x xs else .bad := rfl
theorem allR_nx : allR (.nx ρ st) = .ok .non st := rfl
theorem allR_ret : allR (.ret v st) = .ok v st := rfl
theorem allR_exc : allR (.exc c ρ st) = .exc c st := rfl
theorem allR_ite {p : Prop} [Decidable p] {r s : SRes} : allR (if p then r else s) = if p then allR r else allR s := by split <;> rfl
theorem begin_eq {N n : Nat} {xs : List PV} : begin N n xs = xs.map some ++ List.replicate (N - n) none := rfl
/-! values -/
variable {i j : Int} {s t : Str} {k : Nat} {xs : List PV}
theorem addV_ii : addV st (.int i) (.int j) = some (.int (i + j)) := rfl
theorem addV_ss (h : LineOk (s.length + t.length)) : addV st (.str s) (.str t) = some (.str (s ++ t)) := if_pos h
theorem subV_ii : subV st (.int i) (.int j) = some (.int (i - j)) := rfl
theorem mulV_ii (h : MulOk i j) : mulV st (.int i) (.int j) = some (.int (i * j)) := if_pos h
theorem fdivV_ii (h0 : j ≠ 0) (h : DivOk i j) : fdivV st (.int i) (.int j) = some (.int (i.fdiv j)) := if_pos ⟨h0, h⟩
theorem modV_ii (h0 : j ≠ 0) : modV st (.int i) (.int j) = some (.int (i.fmod j)) := if_pos h0
theorem shlV_ii (h : ShlOk i j) : shlV st (.int i) (.int j) = some (.int (i * 2 ^ j.toNat)) := if_pos h
theorem ltV_ii : ltV st (.int i) (.int j) = some (.bl (decide (i < j))) := rfl
theorem leV_ii : leV st (.int i) (.int j) = some (.bl (decide (i ≤ j))) := rfl
theorem gtV_ii : gtV st (.int i) (.int j) = some (.bl (decide (j < i))) := rfl
theorem geV_ii : geV st (.int i) (.int j) = some (.bl (decide (j ≤ i))) := rfl
theorem negV_i : negV st (.int i) = some (.int (-i)) := rfl
theorem isNV_n : isNV st .non .non = some (.bl true) := rfl
theorem isNV_t : isNV st (.tup xs) .non = some (.bl false) := rfl
theorem isNV_l : isNV st (.lst xs) .non = some (.bl false) := rfl
theorem isNV_i : isNV st (.int i) .non = some (.bl false) := rfl
theorem isNV_s : isNV st (.str s) .non = some (.bl false) := rfl
theorem isNV_r : isNV st (.ref k) .non = some (.bl false) := rfl
theorem isNV_b : isNV st (.bl b) .non = some (.bl false) := rfl
theorem notNV_n : notNV st .non .non = some (.bl false) := rfl
theorem notNV_t : notNV st (.tup xs) .non = some (.bl true) := rfl
theorem notNV_l : notNV st (.lst xs) .non = some (.bl true) := rfl
theorem notNV_i : notNV st (.int i) .non = some (.bl true) := rfl
theorem notNV_s : notNV st (.str s) .non = some (.bl true) := rfl
theorem notNV_r : notNV st (.ref k) .non = some (.bl true) := rfl
theorem notNV_b : notNV st (.bl b) .non = some (.bl true) := rfl
theorem ixV_t : ixV st (.tup xs) (.int i) = atI xs i := rfl
theorem ixV_l : ixV st (.lst xs) (.int i) = atI xs i := rfl
def lstK (o : Option SO) (f : List PV → Option PV) : Option PV := match o with
  | some (.lst xs) => f xs
  | _ => none
theorem lstK_some {f : List PV → Option PV} : lstK (some (.lst xs)) f = f xs := rfl
theorem ixV_r : ixV st (.ref k) (.int i) = lstK st[k]? fun xs => atI xs i := rfl
theorem lenV_t : lenV st [.tup xs] = some (.int xs.length) := rfl
theorem lenV_l : lenV st [.lst xs] = some (.int xs.length) := rfl
theorem lenV_r : lenV st [.ref k] = lstK st[k]? fun xs => some (.int xs.length) := rfl
theorem lenV_s (h : LineOk s.length) : lenV st [.str s] = some (.int s.length) := if_pos h
theorem absV_i : absV st [.int i] = some (.int i.natAbs) := rfl
theorem max2V_ii : max2V st [.int i, .int j] = some (.int (if j > i then j else i)) := rfl
theorem min2V_ii : min2V st [.int i, .int j] = some (.int (if j < i then j else i)) := rfl
theorem bitsV_i : bitsV st (.int i) = some (.int (Builtin.Int.intBits i : Nat)) := rfl
noncomputable def appN (ys : List PV) (st : List SO) (k : Nat) (v : PV) : Res PV := if LenOk ys.length then .ok .non (st.set k (.lst (ys ++ [v]))) else .bad
theorem appN_ok (h : LenOk xs.length) : appN xs st k v = .ok .non (st.set k (.lst (xs ++ [v]))) := if_pos h
def setK (st : List SO) (k : Nat) (xs : List PV) (v : PV) : Option Nat → Option (List SO)
  | some m => some (st.set k (.lst (xs.set m v)))
  | none => none
def setL (o : Option SO) (st : List SO) (k : Nat) (i : Int) (v : PV) : Option (List SO) := match o with
  | some (.lst xs) => setK st k xs v (ixN xs.length i)
  | _ => none
theorem setL_some : setL (some (.lst xs)) st k i v = setK st k xs v (ixN xs.length i) := rfl
theorem setIV_r : setIV st (.ref k) (.int i) v = setL st[k]? st k i v := by
  show (match st[k]? with | some (.lst xs) => (match ixN xs.length i with | some m => some (st.set k (.lst (xs.set m v))) | none => none) | _ => none) = _
  unfold setL
  split
  · rename_i xs h
    show _ = setK st k xs v (ixN xs.length i)
    cases ixN xs.length i <;> rfl
  · rfl
theorem setK_some {m : Nat} : setK st k xs v (some m) = some (st.set k (.lst (xs.set m v))) := rfl
noncomputable def appK (o : Option SO) (st : List SO) (k : Nat) (v : PV) : Res PV := match o with
  | some (.lst ys) => appN ys st k v
  | _ => .bad
theorem appK_some : appK (some (.lst xs)) st k v = appN xs st k v := rfl
theorem appendM_r : appendM st (.ref k) [v] = appK st[k]? st k v := rfl
def isK (T : String) (o : Option SO) : Bool := match o with
  | some (.lst _) => T == "list"
  | some (.dK _) => T == "dict"
  | none => false
theorem isT_r {T : String} : isT T st (.ref k) = isK T st[k]? := rfl
theorem isK_l : isK "list" (some (.lst xs)) = true := rfl
theorem isT_s : isT "str" st (.str s) = true := rfl
/-! isinstance -/
def kitK (n : String) : Option String → Option PV
  | some t => (kitB t n).map fun b => .bl b
  | none => none
theorem isiV_eq {n : String} : isiV st [x, .ty n] = kitK n (tyN st x) := by
  show (match tyN st x with | some t => (kitB t n).map fun b => PV.bl b | none => none) = _
  unfold kitK
  cases tyN st x <;> rfl
theorem tyN_int : tyN st (.int i) = some "int" := rfl
theorem tyN_bl : tyN st (.bl b) = some "bool" := rfl
theorem tyN_non : tyN st .non = some "NoneType" := rfl
theorem tyN_str : tyN st (.str s) = some "str" := rfl
theorem tyN_tup : tyN st (.tup xs) = some "tuple" := rfl
theorem tyN_lst : tyN st (.lst xs) = some "list" := rfl
theorem tyN_dct {kvs : List (Key × PV)} : tyN st (.dct kvs) = some "dict" := rfl
def tyK (o : Option SO) : Option String := match o with
  | some (.lst _) => some "list"
  | some (.dK _) => some "dict"
  | none => none
theorem tyN_r : tyN st (.ref k) = tyK st[k]? := rfl
theorem tyK_l : tyK (some (.lst xs)) = some "list" := rfl
end
theorem kk_int_int : kitK "int" (some "int") = some (.bl true) := rfl
theorem kk_int_bool : kitK "int" (some "bool") = some (.bl true) := by
  show (kitB "bool" "int").map (fun b => PV.bl b) = _
  rw [show kitB "bool" "int" = some true by decide +kernel]; rfl
theorem kk_bool_bool : kitK "bool" (some "bool") = some (.bl true) := rfl
theorem kitK_f {n t : String} (h : kitB t n = some false) : kitK n (some t) = some (.bl false) := by
  show (kitB t n).map (fun b => PV.bl b) = _
  rw [h]; rfl
theorem kitK_t {n : String} : kitK n (some n) = some (.bl true) := by
  show (kitB n n).map (fun b => PV.bl b) = _
  have : kitB n n = some true := by unfold kitB; rw [if_pos (by simp)]
  rw [this]; rfl
theorem kk_int_str : kitK "int" (some "str") = some (.bl false) := kitK_f (by decide +kernel)
theorem kk_int_tuple : kitK "int" (some "tuple") = some (.bl false) := kitK_f (by decide +kernel)
theorem kk_int_list : kitK "int" (some "list") = some (.bl false) := kitK_f (by decide +kernel)
theorem kk_int_dict : kitK "int" (some "dict") = some (.bl false) := kitK_f (by decide +kernel)
theorem kk_int_NoneType : kitK "int" (some "NoneType") = some (.bl false) := kitK_f (by decide +kernel)
theorem kk_bool_int : kitK "bool" (some "int") = some (.bl false) := kitK_f (by decide +kernel)
theorem kk_bool_str : kitK "bool" (some "str") = some (.bl false) := kitK_f (by decide +kernel)
theorem kk_bool_tuple : kitK "bool" (some "tuple") = some (.bl false) := kitK_f (by decide +kernel)
theorem kk_bool_list : kitK "bool" (some "list") = some (.bl false) := kitK_f (by decide +kernel)
theorem kk_bool_dict : kitK "bool" (some "dict") = some (.bl false) := kitK_f (by decide +kernel)
theorem kk_bool_NoneType : kitK "bool" (some "NoneType") = some (.bl false) := kitK_f (by decide +kernel)
theorem kk_str_int : kitK "str" (some "int") = some (.bl false) := kitK_f (by decide +kernel)
theorem kk_str_bool : kitK "str" (some "bool") = some (.bl false) := kitK_f (by decide +kernel)
theorem kk_str_tuple : kitK "str" (some "tuple") = some (.bl false) := kitK_f (by decide +kernel)
theorem kk_str_list : kitK "str" (some "list") = some (.bl false) := kitK_f (by decide +kernel)
theorem kk_str_dict : kitK "str" (some "dict") = some (.bl false) := kitK_f (by decide +kernel)
theorem kk_str_NoneType : kitK "str" (some "NoneType") = some (.bl false) := kitK_f (by decide +kernel)
theorem kk_tuple_int : kitK "tuple" (some "int") = some (.bl false) := kitK_f (by decide +kernel)
theorem kk_tuple_bool : kitK "tuple" (some "bool") = some (.bl false) := kitK_f (by decide +kernel)
theorem kk_tuple_str : kitK "tuple" (some "str") = some (.bl false) := kitK_f (by decide +kernel)
theorem kk_tuple_list : kitK "tuple" (some "list") = some (.bl false) := kitK_f (by decide +kernel)
theorem kk_tuple_dict : kitK "tuple" (some "dict") = some (.bl false) := kitK_f (by decide +kernel)
theorem kk_tuple_NoneType : kitK "tuple" (some "NoneType") = some (.bl false) := kitK_f (by decide +kernel)
theorem kk_list_int : kitK "list" (some "int") = some (.bl false) := kitK_f (by decide +kernel)
theorem kk_list_bool : kitK "list" (some "bool") = some (.bl false) := kitK_f (by decide +kernel)
theorem kk_list_str : kitK "list" (some "str") = some (.bl false) := kitK_f (by decide +kernel)
theorem kk_list_tuple : kitK "list" (some "tuple") = some (.bl false) := kitK_f (by decide +kernel)
theorem kk_list_dict : kitK "list" (some "dict") = some (.bl false) := kitK_f (by decide +kernel)
theorem kk_list_NoneType : kitK "list" (some "NoneType") = some (.bl false) := kitK_f (by decide +kernel)
theorem kk_dict_int : kitK "dict" (some "int") = some (.bl false) := kitK_f (by decide +kernel)
theorem kk_dict_bool : kitK "dict" (some "bool") = some (.bl false) := kitK_f (by decide +kernel)
theorem kk_dict_str : kitK "dict" (some "str") = some (.bl false) := kitK_f (by decide +kernel)
theorem kk_dict_tuple : kitK "dict" (some "tuple") = some (.bl false) := kitK_f (by decide +kernel)
theorem kk_dict_list : kitK "dict" (some "list") = some (.bl false) := kitK_f (by decide +kernel)
theorem kk_dict_NoneType : kitK "dict" (some "NoneType") = some (.bl false) := kitK_f (by decide +kernel)
end Z
namespace Z
open PySem PySem.Spec PyProof.Rows L2
open Classical in
noncomputable def asI (v : PV) (st : List SO) : Res (List PV) := match v with
  | .int j => if RngOk j then .ok (rng 0 j.toNat) st else .bad
  | _ => .bad
theorem gRng1_eq {g : G} {ρ : REnv} {st : List SO} : gRng1 g ρ st = bnd (g ρ st) asI := by
  unfold gRng1
  cases g ρ st with
  | ok v st => cases v <;> rfl
  | _ => rfl
theorem asI_i {j : Int} {st : List SO} (h : RngOk j) : asI (.int j) st = .ok (rng 0 j.toNat) st := if_pos h
theorem gFor_eq {it : GL} {t : PV → REnv → Option REnv} {b : GS} {ρ : REnv} {st : List SO} : gFor it t b ρ st = toSL ρ (it ρ st) fun xs st => forg t b xs ρ st := rfl
def asLst (v : PV) (st : List SO) : Res (List PV) := match v with
  | .lst xs => .ok xs st
  | _ => .bad
def asTup (v : PV) (st : List SO) : Res (List PV) := match v with
  | .tup xs => .ok xs st
  | _ => .bad
theorem gItL_eq {g : G} {ρ : REnv} {st : List SO} : gItL g ρ st = bnd (g ρ st) asLst := by
  unfold gItL
  cases g ρ st with
  | ok v st => cases v <;> rfl
  | _ => rfl
theorem gItT_eq {g : G} {ρ : REnv} {st : List SO} : gItT g ρ st = bnd (g ρ st) asTup := by
  unfold gItT
  cases g ρ st with
  | ok v st => cases v <;> rfl
  | _ => rfl
theorem asLst_l {xs : List PV} {st : List SO} : asLst (.lst xs) st = .ok xs st := rfl
theorem asTup_t {xs : List PV} {st : List SO} : asTup (.tup xs) st = .ok xs st := rfl
/-- one turn of a for -/
theorem forg_nil {t : PV → REnv → Option REnv} {b : GS} {ρ : REnv} {st : List SO} : forg t b [] ρ st = .nx ρ st := rfl
def forK (t : PV → REnv → Option REnv) (b : GS) (xs : List PV) : SRes → SRes
  | .nx ρ st => forg t b xs ρ st
  | r => r
def forT (t : PV → REnv → Option REnv) (b : GS) (xs : List PV) (st : List SO) : Option REnv → SRes
  | some ρ1 => forK t b xs (b ρ1 st)
  | none => .bad
theorem forg_cons {t : PV → REnv → Option REnv} {b : GS} {x : PV} {xs : List PV} {ρ : REnv} {st : List SO} : forg t b (x :: xs) ρ st = forT t b xs st (t x ρ) := by
  show (match t x ρ with | some ρ1 => (match b ρ1 st with | .nx ρ2 st2 => forg t b xs ρ2 st2 | r => r) | none => .bad) = _
  unfold forT forK
  cases t x ρ with
  | none => rfl
  | some ρ1 => cases b ρ1 st <;> rfl
theorem forT_some {t : PV → REnv → Option REnv} {b : GS} {xs : List PV} {ρ : REnv} {st : List SO} : forT t b xs st (some ρ) = forK t b xs (b ρ st) := rfl
theorem forK_nx {t : PV → REnv → Option REnv} {b : GS} {xs : List PV} {ρ : REnv} {st : List SO} : forK t b xs (.nx ρ st) = forg t b xs ρ st := rfl
theorem forK_ret {t : PV → REnv → Option REnv} {b : GS} {xs : List PV} {v : PV} {st : List SO} : forK t b xs (.ret v st) = .ret v st := rfl
/-- a for that goes on at each turn, whatever its state -/
theorem forg_inv {t : PV → REnv → Option REnv} {b : GS} (I : REnv → List SO → Prop) : ∀ (xs : List PV) (ρ : REnv) (st : List SO), I ρ st →
    (∀ x ∈ xs, ∀ ρ st, I ρ st → ∃ ρ1 ρ2 st2, t x ρ = some ρ1 ∧ b ρ1 st = .nx ρ2 st2 ∧ I ρ2 st2) → ∃ ρ' st', forg t b xs ρ st = .nx ρ' st' ∧ I ρ' st'
  | [], ρ, st, h, _ => ⟨ρ, st, rfl, h⟩
  | x :: xs, ρ, st, h, hs => by
    obtain ⟨ρ1, ρ2, st2, e1, e2, h2⟩ := hs x List.mem_cons_self ρ st h
    obtain ⟨ρ3, st3, e3, h3⟩ := forg_inv I xs ρ2 st2 h2 fun y hy => hs y (List.mem_cons_of_mem _ hy)
    exact ⟨ρ3, st3, by rw [forg_cons, e1, forT_some, e2, forK_nx, e3], h3⟩
end Z
/-! Reckoning with the codes. -/
namespace Z
open PySem PySem.Spec PyProof.Rows L2
theorem seq_nx {a b : GS} {ρ ρ' : REnv} {st st' : List SO} {r : SRes} (h : a ρ st = .nx ρ' st') (h2 : b ρ' st' = r) : gSeq a b ρ st = r := by unfold gSeq; rw [h]; exact h2
theorem seq_ret {a b : GS} {ρ : REnv} {st st' : List SO} {v : PV} (h : a ρ st = .ret v st') : gSeq a b ρ st = .ret v st' := by unfold gSeq; rw [h]
theorem seq_exc {a b : GS} {ρ ρ' : REnv} {st st' : List SO} {c : Str} (h : a ρ st = .exc c ρ' st') : gSeq a b ρ st = .exc c ρ' st' := by unfold gSeq; rw [h]
section
variable {α : Type} {a b c d e f : α} {xs : List α}
theorem at0 : atI (a :: xs) 0 = some a := by simp [atI, ixN]
theorem at1 : atI (a :: b :: xs) 1 = some b := atI_nat (j := 1) rfl
theorem at2 : atI (a :: b :: c :: xs) 2 = some c := atI_nat (j := 2) rfl
theorem at3 : atI (a :: b :: c :: d :: xs) 3 = some d := atI_nat (j := 3) rfl
theorem at4 : atI (a :: b :: c :: d :: e :: xs) 4 = some e := atI_nat (j := 4) rfl
theorem at5 : atI (a :: b :: c :: d :: e :: f :: xs) 5 = some f := atI_nat (j := 5) rfl
theorem atN {n : Nat} (h : xs[n]? = some a) : atI xs (n : Int) = some a := atI_nat h
theorem ixN0 {n : Nat} : ixN (n + 1) 0 = some 0 := by simp [ixN]
theorem ixN1 {n : Nat} : ixN (n + 1 + 1) 1 = some 1 := by
  unfold ixN
  rw [if_pos (by decide), if_pos (by omega)]
  rfl
end
/-! ### powers of ten -/
theorem pw6 {st : List SO} : powV st (.int 10) (.int 6) = some (.int 1000000) := rfl
theorem pw9 {st : List SO} : powV st (.int 10) (.int 9) = some (.int 1000000000) := rfl
theorem pw18 {st : List SO} : powV st (.int 10) (.int 18) = some (.int 1000000000000000000) := rfl
theorem pw19 {st : List SO} : powV st (.int 10) (.int 19) = some (.int 10000000000000000000) := rfl
theorem pw20 {st : List SO} : powV st (.int 10) (.int 20) = some (.int 100000000000000000000) := rfl
theorem pw25 {st : List SO} : powV st (.int 10) (.int 25) = some (.int 10000000000000000000000000) := rfl
theorem pw30 {st : List SO} : powV st (.int 10) (.int 30) = some (.int 1000000000000000000000000000000) := rfl
theorem pw39 {st : List SO} : powV st (.int 10) (.int 39) = some (.int 1000000000000000000000000000000000000000) := rfl
/-! ### sizes -/
theorem two_big : (2 : Nat) ≤ sizeLine := by decide
theorem mulOk_of {i j : Int} {a b : Nat} (ha : i.natAbs < 2 ^ a) (hb : j.natAbs < 2 ^ b) (h : a + b ≤ 900000) : MulOk i j := by
  have ha' : i.natAbs < 2 ^ (a + 1) := Nat.lt_of_lt_of_le ha (Nat.pow_le_pow_right (by omega) (by omega))
  have hb' : j.natAbs < 2 ^ (b + 1) := Nat.lt_of_lt_of_le hb (Nat.pow_le_pow_right (by omega) (by omega))
  exact wide_mul ha' hb' (by omega) (by omega) (by omega)
theorem divOk_of {i j : Int} {b : Nat} (hb : j.natAbs < 2 ^ b) (h : b ≤ 9000) : DivOk i j := by
  by_cases h0 : b = 0
  · subst h0
    have : j = 0 := by omega
    subst this
    exact PyProof.noPylong_of_log2 (by decide)
  · exact PyProof.noPylong_of_log2 (Nat.lt_of_lt_of_le (PySem.Flt.log2_lt_of (by omega) hb) h)
/-! ### data that are equal -/
theorem sh_int (i : Int) : SeqAt.shaped (.int i) = true := rfl
theorem eqD_int {st : List SO} {i j : Int} : eqD st (.int i) (.int j) = some (i == j) := by
  unfold eqD
  simp only [de, toD, sh_int, and_self, if_true, PyData.eqv]
theorem eqV_int {st : List SO} {i j : Int} : eqV st (.int i) (.int j) = some (.bl (i == j)) := by unfold eqV; rw [eqD_int]; rfl
theorem neV_int {st : List SO} {i j : Int} : neV st (.int i) (.int j) = some (.bl (!(i == j))) := by unfold neV; rw [eqD_int]; rfl
theorem sh_ii (i j : Int) : SeqAt.shaped (.tuple [.int i, .int j]) = true := rfl
theorem eqD_ii {st : List SO} {i j k l : Int} : eqD st (.tup [.int i, .int j]) (.tup [.int k, .int l]) = some (i == k && j == l) := by
  unfold eqD
  simp only [de, toD, toDL, sh_ii, and_self, if_true, PyData.eqv, PyData.eqvAll, Bool.and_true]
theorem eqV_ii {st : List SO} {i j k l : Int} : eqV st (.tup [.int i, .int j]) (.tup [.int k, .int l]) = some (.bl (i == k && j == l)) := by unfold eqV; rw [eqD_ii]; rfl
theorem neV_ii {st : List SO} {i j k l : Int} : neV st (.tup [.int i, .int j]) (.tup [.int k, .int l]) = some (.bl (!(i == k && j == l))) := by unfold neV; rw [eqD_ii]; rfl
end Z
/-! Plain mathematics: fractions as rationals, sizes. -/
namespace Z
open PySem PySem.Spec PyProof.Rows L2
/-- a measure: the int in a slot -/
def muI (i : Nat) : REnv → Nat := fun r => match r[i]? with
  | some (some (.int b)) => b.natAbs + 1
  | _ => 0
/-- a fraction -/
def fr (q : Rat) : PV := .tup [.int q.num, .int (q.den : Int)]
/-- below 2 ^ n in size -/
def Sz (n : Nat) (i : Int) : Prop := i.natAbs < 2 ^ n
theorem Sz.mono {n m : Nat} {i : Int} (h : Sz n i) (l : n ≤ m) : Sz m i := Nat.lt_of_lt_of_le h (Nat.pow_le_pow_right (by omega) l)
theorem Sz.mul {n m : Nat} {i j : Int} (h : Sz n i) (k : Sz m j) : Sz (n + m) (i * j) := wide_lt h k
theorem Sz.add {n m : Nat} {i j : Int} (h : Sz n i) (k : Sz m j) : Sz (n + m + 1) (i + j) := by
  have h' := h.mono (show n ≤ n + m by omega)
  have k' := k.mono (show m ≤ n + m by omega)
  unfold Sz at *
  have : (i + j).natAbs ≤ i.natAbs + j.natAbs := Int.natAbs_add_le i j
  rw [Nat.pow_succ]
  omega
theorem Sz.addm {n : Nat} {i j : Int} (h : Sz n i) (k : Sz n j) : Sz (n + 1) (i + j) := by
  unfold Sz at *
  have : (i + j).natAbs ≤ i.natAbs + j.natAbs := Int.natAbs_add_le i j
  rw [Nat.pow_succ]
  omega
theorem Sz.neg {n : Nat} {i : Int} (h : Sz n i) : Sz n (-i) := by unfold Sz at *; rw [Int.natAbs_neg]; exact h
theorem Sz.sub {n : Nat} {i j : Int} (h : Sz n i) (k : Sz n j) : Sz (n + 1) (i - j) := by rw [Int.sub_eq_add_neg]; exact h.addm k.neg
theorem Sz.mulOk {n m : Nat} {i j : Int} (h : Sz n i) (k : Sz m j) (l : n + m ≤ 900000) : MulOk i j := mulOk_of h k l
theorem Sz.divOk {n : Nat} {i j : Int} (k : Sz n j) (l : n ≤ 9000) : DivOk i j := divOk_of k l
theorem Sz.le {n : Nat} {i j : Int} (k : Sz n j) (l : i.natAbs ≤ j.natAbs) : Sz n i := Nat.lt_of_le_of_lt l k
/-- both parts of a fraction -/
def RS (n : Nat) (q : Rat) : Prop := Sz n q.num ∧ q.den < 2 ^ n
theorem RS.mono {n m : Nat} {q : Rat} (h : RS n q) (l : n ≤ m) : RS m q := ⟨h.1.mono l, Nat.lt_of_lt_of_le h.2 (Nat.pow_le_pow_right (by omega) l)⟩
theorem RS.den {n : Nat} {q : Rat} (h : RS n q) : Sz n (q.den : Int) := by unfold Sz; rw [Int.natAbs_natCast]; exact h.2
/-! ### a slot -/
theorem set_id {ρ : REnv} {i : Nat} {x : Option PV} (h : ρ[i]? = some x) : ρ.set i x = ρ := by
  apply List.ext_getElem?
  intro j
  by_cases e : i = j
  · subst e
    rw [List.getElem?_set_self (List.getElem?_eq_some_iff.mp h).1, h]
  · rw [List.getElem?_set_ne e]
theorem lt_of_slot {ρ : REnv} {i : Nat} {x : Option PV} (h : ρ[i]? = some x) : i < ρ.length := (List.getElem?_eq_some_iff.mp h).1
theorem gVar_of {ρ : REnv} {i : Nat} {x : PV} {st : List SO} (h : ρ[i]? = some (some x)) : gVar i ρ st = .ok x st := by unfold gVar; rw [h]
/-- while b > 0: a, b = b, a % b -/
theorem whl_gcd {i j : Nat} (hij : i ≠ j) : ∀ (n : Nat) (ρ : REnv) (a b : Nat) (st : List SO), ρ[i]? = some (some (.int a)) → ρ[j]? = some (some (.int b)) → b < n →
    whl (gB (gBin gtV (gVar j) (gC (.int 0)))) (gPar i j (gVar j) (gBin modV (gVar i) (gVar j))) n ρ st = .nx ((ρ.set i (some (.int (Nat.gcd a b)))).set j (some (.int 0))) st
  | 0, ρ, a, b, st, hi, hj, h => by omega
  | n + 1, ρ, a, b, st, hi, hj, h => by
    have hb0 : (decide ((0 : Int) < (b : Int))) = decide (0 < b) := by
      by_cases q : 0 < b
      · rw [decide_eq_true q, decide_eq_true (by omega)]
      · rw [decide_eq_false q, decide_eq_false (by omega)]
    unfold whl
    simp only [gB, gBin, gVar_of hj, bnd, gC, oo, gtV, toST, hb0, decide_eq_true_eq]
    by_cases hb : 0 < b
    · rw [if_pos hb]
      have e : gPar i j (gVar j) (gBin modV (gVar i) (gVar j)) ρ st = .nx ((ρ.set i (some (.int b))).set j (some (.int ((a % b : Nat) : Int)))) st := by
        have hne : ¬ ((b : Int) = 0) := by omega
        have em : Int.fmod (a : Int) (b : Int) = ((a % b : Nat) : Int) := by rw [Int.fmod_eq_emod_of_nonneg _ (by omega)]; exact (Int.natCast_emod a b).symm
        simp only [gPar, gArgs, gBin, gVar_of hj, gVar_of hi, bnd, oo, modV, ne_eq, hne, not_false_eq_true, if_true, em]
      rw [e]
      have li := lt_of_slot hi
      have lj := lt_of_slot hj
      have ih := whl_gcd hij n ((ρ.set i (some (.int b))).set j (some (.int ((a % b : Nat) : Int)))) b (a % b) st
        (by rw [List.getElem?_set_ne (Ne.symm hij), List.getElem?_set_self li]) (by rw [List.getElem?_set_self (by rw [List.length_set]; exact lj)]) (by have := Nat.mod_lt a hb; omega)
      show whl _ _ n ((ρ.set i (some (.int b))).set j (some (.int ((a % b : Nat) : Int)))) st = _
      rw [ih]
      have eg : Nat.gcd b (a % b) = Nat.gcd a b := by rw [Nat.gcd_comm b, ← Nat.gcd_rec, Nat.gcd_comm]
      rw [eg]
      have : ((((ρ.set i (some (.int b))).set j (some (.int ((a % b : Nat) : Int)))).set i (some (.int (Nat.gcd a b)))).set j (some (.int 0))) = ((ρ.set i (some (.int (Nat.gcd a b)))).set j (some (.int 0))) := by
        rw [List.set_comm _ _ (Ne.symm hij), List.set_set, List.set_set]
      rw [this]
    · rw [if_neg hb]
      have b0 : b = 0 := by omega
      subst b0
      rw [Nat.gcd_zero_right, set_id hi]
      have hj' : ρ[j]? = some (some (PV.int 0)) := hj
      rw [set_id hj']
/-! ### a pot: one int in a list -/
def PS (st : List SO) (k : Nat) (n : Int) : List SO := st.set k (.lst [.int n])
theorem PS_at {st : List SO} {k : Nat} {n : Int} (hk : k < st.length) : (PS st k n)[k]? = some (.lst [.int n]) := List.getElem?_set_self hk
theorem PS_set {st : List SO} {k : Nat} {n m : Int} : (PS st k n).set k (.lst [.int m]) = PS st k m := List.set_set ..
theorem PS_len {st : List SO} {k : Nat} {n : Int} : (PS st k n).length = st.length := List.length_set ..
theorem PS_new {st : List SO} {n : Int} : st ++ [SO.lst [.int n]] = PS (st ++ [.lst []]) st.length n := by
  unfold PS
  rw [List.set_append_right _ _ (Nat.le_refl _), Nat.sub_self]
  rfl
theorem new_lt {st : List SO} {c : SO} : st.length < (st ++ [c]).length := by simp
/-! ### lowest terms -/
theorem fdiv_exact {g k : Int} (hg : g ≠ 0) : (g * k).fdiv g = k := Int.mul_fdiv_cancel_left _ hg
theorem gcd_pos_of {t b : Int} (hb : b ≠ 0) : (0 : Int) < (Int.gcd t b : Int) := by
  have : 0 < Int.gcd t b := Int.gcd_pos_of_ne_zero_right t hb
  omega
/-- t and b by the gcd, the bottom above 0: as the program and as the laws reckon it -/
theorem low_num {t b : Int} (hb : b ≠ 0) : t.fdiv (if b < 0 then -(Int.gcd t b : Int) else Int.gcd t b) = (Rat.divInt t b).num := by
  have hg := gcd_pos_of (t := t) hb
  obtain ⟨k, hk⟩ := Int.gcd_dvd_left t b
  rw [Rat.num_divInt, Int.gcd_comm b t]
  by_cases h : b < 0
  · rw [if_pos h, Int.sign_eq_neg_one_of_neg h]
    generalize (Int.gcd t b : Int) = g at hg hk
    subst hk
    have e1 : (g * k).fdiv (-g) = -k := by
      have : g * k = (-g) * (-k) := by rw [Int.neg_mul_neg]
      rw [this]; exact fdiv_exact (by omega)
    have e2 : -1 * (g * k) / g = -k := by
      have : -1 * (g * k) = g * (-k) := by rw [Int.neg_mul, Int.one_mul, Int.mul_neg]
      rw [this]; exact Int.mul_ediv_cancel_left _ (by omega)
    rw [e1, e2]
  · rw [if_neg h, Int.sign_eq_one_of_pos (by omega)]
    generalize (Int.gcd t b : Int) = g at hg hk
    subst hk
    rw [fdiv_exact (by omega), Int.one_mul]
    exact (Int.mul_ediv_cancel_left _ (by omega)).symm
theorem low_den {t b : Int} (hb : b ≠ 0) : b.fdiv (if b < 0 then -(Int.gcd t b : Int) else Int.gcd t b) = ((Rat.divInt t b).den : Int) := by
  have hg := gcd_pos_of (t := t) hb
  obtain ⟨k, hk⟩ := Int.gcd_dvd_right t b
  rw [Rat.den_divInt, if_neg hb, Int.gcd_comm b t, Int.natCast_ediv]
  by_cases h : b < 0
  · rw [if_pos h]
    have hn : (b.natAbs : Int) = -b := by omega
    rw [hn]
    generalize (Int.gcd t b : Int) = g at hg hk
    subst hk
    have e1 : (g * k).fdiv (-g) = -k := by
      have : g * k = (-g) * (-k) := by rw [Int.neg_mul_neg]
      rw [this]; exact fdiv_exact (by omega)
    have e2 : -(g * k) / g = -k := by
      have : -(g * k) = g * (-k) := by rw [Int.mul_neg]
      rw [this]; exact Int.mul_ediv_cancel_left _ (by omega)
    rw [e1, e2]
  · rw [if_neg h]
    have hn : (b.natAbs : Int) = b := by omega
    rw [hn]
    generalize (Int.gcd t b : Int) = g at hg hk
    subst hk
    rw [fdiv_exact (by omega)]
    exact (Int.mul_ediv_cancel_left _ (by omega)).symm
theorem gcd_neg2 (t b : Int) : Int.gcd (-t) (-b) = Int.gcd t b := by rw [Int.gcd_neg, Int.neg_gcd]
theorem low_num' {t b : Int} (hb : b ≠ 0) : (if b < 0 then 0 - t else t).fdiv (Int.gcd t b : Int) = (Rat.divInt t b).num := by
  rw [← low_num hb]
  have hg := gcd_pos_of (t := t) hb
  obtain ⟨k, hk⟩ := Int.gcd_dvd_left t b
  by_cases h : b < 0
  · rw [if_pos h, if_pos h]
    generalize (Int.gcd t b : Int) = g at hg hk
    subst hk
    have e1 : (g * k).fdiv (-g) = -k := by
      have : g * k = (-g) * (-k) := by rw [Int.neg_mul_neg]
      rw [this]; exact fdiv_exact (by omega)
    have e2 : (0 - g * k).fdiv g = -k := by
      have : 0 - g * k = g * (-k) := by rw [Int.mul_neg]; omega
      rw [this]; exact fdiv_exact (by omega)
    rw [e1, e2]
  · rw [if_neg h, if_neg h]
theorem low_den' {t b : Int} (hb : b ≠ 0) : (if b < 0 then 0 - b else b).fdiv (Int.gcd t b : Int) = ((Rat.divInt t b).den : Int) := by
  rw [← low_den hb]
  have hg := gcd_pos_of (t := t) hb
  obtain ⟨k, hk⟩ := Int.gcd_dvd_right t b
  by_cases h : b < 0
  · rw [if_pos h, if_pos h]
    generalize (Int.gcd t b : Int) = g at hg hk
    subst hk
    have e1 : (g * k).fdiv (-g) = -k := by
      have : g * k = (-g) * (-k) := by rw [Int.neg_mul_neg]
      rw [this]; exact fdiv_exact (by omega)
    have e2 : (0 - g * k).fdiv g = -k := by
      have : 0 - g * k = g * (-k) := by rw [Int.mul_neg]; omega
      rw [this]; exact fdiv_exact (by omega)
    rw [e1, e2]
  · rw [if_neg h, if_neg h]
/-- what is told of a fraction of two ints -/
theorem RS.divInt {n : Nat} {t b : Int} (ht : Sz n t) (hb : Sz n b) (h0 : b ≠ 0) : RS n (Rat.divInt t b) := by
  have hg := gcd_pos_of (t := t) h0
  constructor
  · rw [Rat.num_divInt]
    refine Sz.le ht ?_
    have : (b.sign * t / (b.gcd t : Int)).natAbs ≤ (b.sign * t).natAbs := Int.natAbs_ediv_le_natAbs _ _
    have h2 : (b.sign * t).natAbs ≤ t.natAbs := by
      rw [Int.natAbs_mul, Int.natAbs_sign_of_ne_zero h0, Nat.one_mul]; exact Nat.le_refl _
    omega
  · rw [Rat.den_divInt, if_neg h0]
    exact Nat.lt_of_le_of_lt (Nat.div_le_self _ _) hb
/-! ### the four operations over numerators and denominators -/
theorem den0 (q : Rat) : ((q.den : Int)) ≠ 0 := by have := q.den_pos; omega
theorem dpos (q : Rat) : (0 : Int) < (q.den : Int) := by have := q.den_pos; omega
theorem add_eq (q r : Rat) : Rat.divInt (q.num * r.den + r.num * q.den) (q.den * r.den) = q + r := by
  rw [← Rat.divInt_add_divInt _ _ (den0 q) (den0 r), Rat.num_divInt_den, Rat.num_divInt_den]
theorem sub_eq (q r : Rat) : Rat.divInt (q.num * r.den - r.num * q.den) (q.den * r.den) = q - r := by
  rw [← Rat.divInt_sub_divInt _ _ (den0 q) (den0 r), Rat.num_divInt_den, Rat.num_divInt_den]
theorem mul_eq (q r : Rat) : Rat.divInt (q.num * r.num) (q.den * r.den) = q * r := by
  rw [← Rat.divInt_mul_divInt, Rat.num_divInt_den, Rat.num_divInt_den]
theorem div_eq (q r : Rat) : Rat.divInt (q.num * r.den) (q.den * r.num) = q / r := by
  rw [Rat.div_def, ← Rat.divInt_mul_divInt, Rat.num_divInt_den, ← Rat.inv_divInt, Rat.num_divInt_den]
theorem lt_eq (q r : Rat) : (decide (q.num * r.den < r.num * q.den)) = decide (q < r) := by
  have := Rat.lt_iff q r
  by_cases h : q < r
  · rw [decide_eq_true h, decide_eq_true (this.mp h)]
  · rw [decide_eq_false h, decide_eq_false (fun z => h (this.mpr z))]
theorem num_ne {q : Rat} (h : q ≠ 0) : q.num ≠ 0 := fun e => h (Rat.num_eq_zero.mp e)
theorem RS.add {n m : Nat} {q r : Rat} (h : RS n q) (k : RS m r) : RS (n + m + 1) (q + r) := by
  rw [← add_eq]
  have d0 : (q.den * r.den : Int) ≠ 0 := Int.mul_ne_zero (den0 q) (den0 r)
  exact RS.divInt ((h.1.mul k.den).addm (by rw [Nat.add_comm]; exact k.1.mul h.den)) ((h.den.mul k.den).mono (by omega)) d0
theorem RS.sub {n m : Nat} {q r : Rat} (h : RS n q) (k : RS m r) : RS (n + m + 1) (q - r) := by
  rw [← sub_eq]
  have d0 : (q.den * r.den : Int) ≠ 0 := Int.mul_ne_zero (den0 q) (den0 r)
  exact RS.divInt ((h.1.mul k.den).sub (by rw [Nat.add_comm]; exact k.1.mul h.den)) ((h.den.mul k.den).mono (by omega)) d0
theorem RS.mul {n m : Nat} {q r : Rat} (h : RS n q) (k : RS m r) : RS (n + m) (q * r) := by
  rw [← mul_eq]
  exact RS.divInt (h.1.mul k.1) (h.den.mul k.den) (Int.mul_ne_zero (den0 q) (den0 r))
theorem RS.div {n m : Nat} {q r : Rat} (h : RS n q) (k : RS m r) (hr : r ≠ 0) : RS (n + m) (q / r) := by
  rw [← div_eq]
  exact RS.divInt (h.1.mul k.den) (h.den.mul k.1) (Int.mul_ne_zero (den0 q) (num_ne hr))
theorem RS.neg {n : Nat} {q : Rat} (h : RS n q) : RS n (-q) := ⟨by rw [Rat.neg_num]; exact h.1.neg, h.2⟩
theorem gcd_sz {n : Nat} {t b : Int} (h : Sz n b) (hb : b ≠ 0) : Sz n (Int.gcd t b) := by
  refine Sz.le h ?_
  rw [Int.natAbs_natCast]
  exact Nat.le_of_dvd (by omega) (Int.natAbs_dvd_natAbs.mpr (Int.gcd_dvd_right t b) |> fun z => by simpa using z)
theorem fr_inj {q r : Rat} : (q.num == r.num && (q.den : Int) == (r.den : Int)) = decide (q = r) := by
  by_cases h : q = r
  · subst h; simp
  · rw [decide_eq_false h]
    by_cases h1 : q.num = r.num
    · have h2 : q.den ≠ r.den := fun e => h (Rat.ext h1 e)
      have h3 : ¬ ((q.den : Int) = (r.den : Int)) := by omega
      simp [h1, h3]
    · simp [h1]
end Z
namespace Z
open PySem PySem.Spec PyProof.Rows L2
/-! ### whole roots -/
theorem exists_sqrt : ∀ N : Nat, ∃ r : Nat, r * r ≤ N ∧ N < (r + 1) * (r + 1)
  | 0 => ⟨0, by omega, by omega⟩
  | N + 1 => by
    obtain ⟨r, h1, h2⟩ := exists_sqrt N
    by_cases h : (r + 1) * (r + 1) ≤ N + 1
    · refine ⟨r + 1, h, ?_⟩
      have : (r + 1 + 1) * (r + 1 + 1) = (r + 1) * (r + 1) + (r + 1) + (r + 1) + 1 := by
        rw [Nat.add_mul, Nat.mul_add]; omega
      omega
    · exact ⟨r, by omega, by omega⟩
noncomputable def isq (N : Nat) : Nat := Classical.choose (exists_sqrt N)
theorem isq_le (N : Nat) : isq N * isq N ≤ N := (Classical.choose_spec (exists_sqrt N)).1
theorem isq_lt (N : Nat) : N < (isq N + 1) * (isq N + 1) := (Classical.choose_spec (exists_sqrt N)).2
theorem isq_of {N r : Nat} (h1 : r * r ≤ N) (h2 : N < (r + 1) * (r + 1)) : isq N = r := by
  have a := isq_le N
  have b := isq_lt N
  by_cases h : isq N < r
  · have : (isq N + 1) * (isq N + 1) ≤ r * r := Nat.mul_le_mul (by omega) (by omega)
    omega
  · by_cases h' : r < isq N
    · have : (r + 1) * (r + 1) ≤ isq N * isq N := Nat.mul_le_mul (by omega) (by omega)
      omega
    · omega
theorem isq_sq (r : Nat) : isq (r * r) = r := isq_of (Nat.le_refl _) (by rw [Nat.add_mul, Nat.mul_add]; omega)
theorem isq_self_le (N : Nat) : isq N ≤ N := by
  have h := isq_le N
  by_cases z : isq N = 0
  · omega
  · have : isq N * 1 ≤ isq N * isq N := Nat.mul_le_mul_left _ (by omega)
    omega
theorem newton_ge {f N : Nat} (hf : 0 < f) : N < ((f + N / f) / 2 + 1) * ((f + N / f) / 2 + 1) := by
  have h1 : N < f * (N / f + 1) := by
    have := Nat.div_add_mod N f
    have := Nat.mod_lt N hf
    rw [Nat.mul_add]; omega
  generalize N / f = q at *
  have h2 : f + q ≤ 2 * ((f + q) / 2) + 1 := by omega
  generalize (f + q) / 2 = m at *
  have h3 : (f + q + 1) * (f + q + 1) ≤ (2 * (m + 1)) * (2 * (m + 1)) := Nat.mul_le_mul (by omega) (by omega)
  have h4 : 4 * (f * (q + 1)) ≤ (f + q + 1) * (f + q + 1) := by
    have e : ((f : Int) + q + 1) * (f + q + 1) - 4 * (f * (q + 1)) = ((f : Int) - (q + 1)) * (f - (q + 1)) := by grind
    have p : 0 ≤ ((f : Int) - (q + 1)) * (f - (q + 1)) := by
      by_cases s : (0 : Int) ≤ (f : Int) - (q + 1)
      · exact Int.mul_nonneg s s
      · have : ((f : Int) - (q + 1)) * (f - (q + 1)) = (-((f : Int) - (q + 1))) * (-((f : Int) - (q + 1))) := by rw [Int.neg_mul_neg]
        rw [this]; exact Int.mul_nonneg (by omega) (by omega)
    have : (4 * ((f : Int) * (q + 1))) ≤ ((f : Int) + q + 1) * (f + q + 1) := by omega
    exact_mod_cast this
  have h5 : (2 * (m + 1)) * (2 * (m + 1)) = 4 * ((m + 1) * (m + 1)) := by grind
  omega
theorem newton_lt {f N : Nat} (h : N < f * f) : (f + N / f) / 2 < f := by
  have hf : 0 < f := by
    by_cases z : f = 0
    · subst z; omega
    · omega
  have : N / f < f := (Nat.div_lt_iff_lt_mul hf).mpr h
  omega
end Z
namespace Z
open PySem PySem.Spec PyProof.Rows L2
/-! ### the root of a fraction -/
theorem sq_num (r : Rat) : (r * r).num = r.num * r.num := by
  have := Rat.num_pow r 2
  rw [show r ^ 2 = r * r by grind] at this
  rw [this]; grind
theorem sq_den (r : Rat) : (r * r).den = r.den * r.den := by
  have := Rat.den_pow r 2
  rw [show r ^ 2 = r * r by grind] at this
  rw [this]; grind
def isSq (q : Rat) : Prop := 0 ≤ q.num ∧ isq q.num.toNat * isq q.num.toNat = q.num.toNat ∧ isq q.den * isq q.den = q.den
open Classical in
noncomputable def rootQ (q : Rat) : Option Rat := if isSq q then some (Rat.divInt (isq q.num.toNat) (isq q.den)) else none
/-- a root told, or None -/
noncomputable def frO (o : Option Rat) : PV := match o with
  | some r => fr r
  | none => .non
theorem isSq_parts {q : Rat} (h : isSq q) : (Rat.divInt (isq q.num.toNat) (isq q.den)).num = isq q.num.toNat ∧ (Rat.divInt (isq q.num.toNat) (isq q.den)).den = isq q.den := by
  obtain ⟨h0, h1, h2⟩ := h
  have d0 : isq q.den ≠ 0 := fun z => by rw [z] at h2; have := q.den_pos; omega
  have cop : Int.gcd (isq q.den : Int) (isq q.num.toNat : Int) = 1 := by
    have hc : Nat.gcd q.num.natAbs q.den = 1 := q.reduced
    have hn : q.num.natAbs = q.num.toNat := by omega
    rw [hn, ← h1, ← h2] at hc
    have hd : Nat.gcd (isq q.den) (isq q.num.toNat) ∣ 1 := by
      rw [← hc]
      exact Nat.dvd_gcd (Nat.dvd_trans (Nat.gcd_dvd_right _ _) (Nat.dvd_mul_left _ _)) (Nat.dvd_trans (Nat.gcd_dvd_left _ _) (Nat.dvd_mul_left _ _))
    exact Nat.dvd_one.mp hd
  constructor
  · rw [Rat.num_divInt, cop, Int.sign_eq_one_of_pos (by omega)]; simp
  · rw [Rat.den_divInt, cop, if_neg (by omega)]; simp
theorem rootQ_sq (r : Rat) : rootQ (r * r) = some (if 0 ≤ r then r else -r) := by
  have hs : isSq (r * r) := by
    refine ⟨?_, ?_, ?_⟩
    · rw [sq_num]
      by_cases s : 0 ≤ r.num
      · exact Int.mul_nonneg s s
      · have : r.num * r.num = (-r.num) * (-r.num) := by rw [Int.neg_mul_neg]
        rw [this]; exact Int.mul_nonneg (by omega) (by omega)
    · rw [sq_num]
      have : (r.num * r.num).toNat = r.num.natAbs * r.num.natAbs := by
        have : r.num * r.num = ((r.num.natAbs * r.num.natAbs : Nat) : Int) := (Int.natAbs_mul_self).symm
        rw [this, Int.toNat_natCast]
      rw [this, isq_sq]
    · rw [sq_den, isq_sq]
  unfold rootQ
  rw [if_pos hs]
  congr 1
  obtain ⟨e1, e2⟩ := isSq_parts hs
  have en : isq (r * r).num.toNat = r.num.natAbs := by
    rw [sq_num]
    have : (r.num * r.num).toNat = r.num.natAbs * r.num.natAbs := by
      have : r.num * r.num = ((r.num.natAbs * r.num.natAbs : Nat) : Int) := (Int.natAbs_mul_self).symm
      rw [this, Int.toNat_natCast]
    rw [this, isq_sq]
  have ed : isq (r * r).den = r.den := by rw [sq_den, isq_sq]
  rw [en, ed] at e1 e2
  rw [en, ed]
  by_cases s : 0 ≤ r
  · rw [if_pos s]
    have sn := Rat.num_nonneg.mpr s
    refine Rat.ext ?_ ?_
    · rw [e1]; omega
    · exact e2
  · rw [if_neg s]
    have sn : ¬ 0 ≤ r.num := fun z => s (Rat.num_nonneg.mp z)
    refine Rat.ext ?_ ?_
    · rw [e1, Rat.neg_num]; omega
    · rw [Rat.neg_den]; exact e2
theorem rootQ_some {q r : Rat} (h : rootQ q = some r) : 0 ≤ r ∧ r * r = q := by
  unfold rootQ at h
  by_cases hs : isSq q
  · rw [if_pos hs] at h
    cases h
    obtain ⟨e1, e2⟩ := isSq_parts hs
    refine ⟨Rat.num_nonneg.mp (by rw [e1]; omega), Rat.ext ?_ ?_⟩
    · rw [sq_num, e1]
      have := hs.2.1
      have h0 := hs.1
      have : ((isq q.num.toNat * isq q.num.toNat : Nat) : Int) = (q.num.toNat : Int) := by rw [this]
      rw [Int.natCast_mul] at this
      omega
    · rw [sq_den, e2]; exact hs.2.2
  · rw [if_neg hs] at h; cases h
theorem rootQ_none {q : Rat} (h : rootQ q = none) (r : Rat) : r * r ≠ q := fun e => by
  rw [← e, rootQ_sq] at h; cases h
theorem RS.root {n : Nat} {q r : Rat} (hq : RS n q) (h : rootQ q = some r) : RS n r := by
  unfold rootQ at h
  by_cases hs : isSq q
  · rw [if_pos hs] at h
    cases h
    obtain ⟨e1, e2⟩ := isSq_parts hs
    constructor
    · rw [e1]; refine Sz.le hq.1 ?_; have := isq_self_le q.num.toNat; omega
    · rw [e2]; exact Nat.lt_of_le_of_lt (isq_self_le _) hq.2
  · rw [if_neg hs] at h; cases h
end Z
namespace Z
open PySem PySem.Spec PyProof.Rows L2
section
variable {st : List SO} {q r : Rat}
theorem isNV_fr : isNV st (fr q) .non = some (.bl false) := rfl
theorem notNV_fr : notNV st (fr q) .non = some (.bl true) := rfl
theorem ixV_fr0 : ixV st (fr q) (.int 0) = some (.int q.num) := at0
theorem ixV_fr1 : ixV st (fr q) (.int 1) = some (.int (q.den : Int)) := at1
theorem eqV_fr : eqV st (fr q) (fr r) = some (.bl (decide (q = r))) := by unfold fr; rw [eqV_ii, fr_inj]
theorem neV_fr : neV st (fr q) (fr r) = some (.bl (!decide (q = r))) := by unfold fr; rw [neV_ii, fr_inj]
theorem tyN_fr : tyN st (fr q) = some "tuple" := rfl
theorem lenV_fr : lenV st [fr q] = some (.int 2) := rfl
end
end Z
namespace Z
open PySem PySem.Spec PyProof.Rows L2
/-- a for that goes on at each turn -/
theorem for_of {t : PV → REnv → Option REnv} {b : GS} {xs : List PV} {ρ : REnv} {st : List SO} {r : SRes} (e : forg t b xs ρ st = r) (I : REnv → List SO → Prop) (h : I ρ st)
    (hs : ∀ x ∈ xs, ∀ ρ st, I ρ st → ∃ ρ1 ρ2 st2, t x ρ = some ρ1 ∧ b ρ1 st = .nx ρ2 st2 ∧ I ρ2 st2) : ∃ ρ' st', r = .nx ρ' st' ∧ I ρ' st' := by
  obtain ⟨ρ', st', e', h'⟩ := forg_inv I xs ρ st h hs
  exact ⟨ρ', st', by rw [← e, e'], h'⟩
theorem mem_rng {x : PV} {n : Nat} (h : x ∈ rng 0 n) : ∃ k : Nat, x = .int k ∧ k < n := by
  unfold rng at h
  obtain ⟨k, hk, e⟩ := List.mem_map.mp h
  exact ⟨k, by rw [← e, Int.zero_add], List.mem_range.mp hk⟩
theorem turn_name {b : GS} {i : Nat} {x : PV} {ρ : REnv} {st : List SO} {I : REnv → List SO → Prop} (h : ∃ ρ2 st2, b (ρ.set i (some x)) st = .nx ρ2 st2 ∧ I ρ2 st2) :
    ∃ ρ1 ρ2 st2, tgName i x ρ = some ρ1 ∧ b ρ1 st = .nx ρ2 st2 ∧ I ρ2 st2 := by
  obtain ⟨a, c, d, e⟩ := h
  exact ⟨_, a, c, rfl, d, e⟩
end Z
/-! Haps, words, refusals. -/
namespace Z
open PySem PySem.Spec PyProof.Rows L2
/-- int(x) of an int, a truth -/
def int1V : FL := fun _ xs => match xs with
  | [.int i] => some (.int i)
  | [.bl b] => some (.int (if b then 1 else 0))
  | _ => none
theorem s_int1 {K : PySem.W.Frag} : SndL K int1V (fun xs H Q => (∃ i, xs = [.int i] ∧ Q (.int i) H) ∨ ∃ k, xs = [.bl k] ∧ Q (.int (if k then 1 else 0)) H) := by
  intro w H st xs z vs Q ok rs e q
  rcases xs with _ | ⟨x, _ | ⟨y, ys⟩⟩
  · cases e
  · obtain ⟨v, ev, rx⟩ := repl1 rs
    cases x with
    | int i => cases e; exact .inl ⟨i, by rw [ev, show v = .int i from rx], q w H _ (Le.refl _) ok rfl⟩
    | bl b => cases e; exact .inr ⟨b, by rw [ev, show v = .bl b from rx], q w H _ (Le.refl _) ok rfl⟩
    | _ => cases e
  · cases x <;> cases e
theorem int1V_b {st : List SO} {b : Bool} : int1V st [.bl b] = some (.int (if b then 1 else 0)) := rfl
theorem int1V_i {st : List SO} {i : Int} : int1V st [.int i] = some (.int i) := rfl
/-- a class of refusals -/
def ExcF (K : PySem.W.Frag) (mg : Str → Option Value) (x : Str) : Prop :=
  PySem.W.excIn K (He.ga K x) He.veBase "ValueError.__new__" = true ∧ mg x = some (.ref (He.ga K x)) ∧ PySem.W.keepIn K (.ref (He.ga K x)) = true ∧ PySem.W.subIn K (.ref (He.ga K x)) (.type "BaseException") = some true ∧ PySem.W.typeIn K (.ref (He.ga K x)) = some (.type "type")
theorem excF_of {K : PySem.W.Frag} {mg : Str → Option Value} {x : Str} (h : mg x = some (.ref (He.ga K x))) (c : (He.Fa.exc x).ok K = true) : ExcF K mg x := by
  obtain ⟨c1, c2⟩ := He.ba (show (PySem.W.excIn K (He.ga K x) He.veBase "ValueError.__new__" && (PySem.W.keepIn K (.ref (He.ga K x)) && (decide (PySem.W.subIn K (.ref (He.ga K x)) (.type "BaseException") = some true) && decide (PySem.W.typeIn K (.ref (He.ga K x)) = some (.type "type"))))) = true from c)
  obtain ⟨c3, c4⟩ := He.ba c2
  obtain ⟨c5, c6⟩ := He.ba c4
  exact ⟨c1, h, c3, of_decide_eq_true c5, of_decide_eq_true c6⟩
theorem con_int {K : PySem.W.Frag} {mg : Str → Option Value} {x : Str} {i : Int} (h : ∃ t, mg x = some (.int i t)) : Con K mg x (.int i) := by
  obtain ⟨t, e⟩ := h
  exact ⟨_, .int i, e, ⟨t, rfl⟩, fun _ => rfl⟩
theorem con_str {K : PySem.W.Frag} {mg : Str → Option Value} {x z : Str} (h : ∃ t, mg x = some (.str z t)) : Con K mg x (.str z) := by
  obtain ⟨t, e⟩ := h
  exact ⟨_, .str z, e, ⟨t, rfl⟩, fun _ => rfl⟩
/-! a hap -/
def hp (t x : Rat) : PV := .tup [fr t, fr x]
section
variable {st : List SO} {t x u y q : Rat} {s z : Str} {xs : List PV} {i : Int}
/-- a text that may be compared -/
def StO (s : Str) : Prop := SeqAt.shaped (.str s) = true
theorem sh_hp (a b c d : Int) : SeqAt.shaped (.tuple [.tuple [.int a, .int b], .tuple [.int c, .int d]]) = true := rfl
theorem ixV_hp0 : ixV st (hp t x) (.int 0) = some (fr t) := at0
theorem ixV_hp1 : ixV st (hp t x) (.int 1) = some (fr x) := at1
theorem isNV_hp : isNV st (hp t x) .non = some (.bl false) := rfl
theorem eqD_hp : eqD st (hp t x) (hp u y) = some (decide (t = u ∧ x = y)) := by
  unfold eqD hp fr
  simp only [de, toD, toDL, sh_hp, and_self, if_true, PyData.eqv, PyData.eqvAll, Bool.and_true]
  rw [fr_inj, fr_inj, Bool.decide_and]
theorem eqV_hp : eqV st (hp t x) (hp u y) = some (.bl (decide (t = u ∧ x = y))) := by unfold eqV; rw [eqD_hp]; rfl
theorem neV_hp : neV st (hp t x) (hp u y) = some (.bl (!decide (t = u ∧ x = y))) := by unfold neV; rw [eqD_hp]; rfl
theorem eqD_str (hs : StO s) (hz : StO z) : eqD st (.str s) (.str z) = some (s == z) := by
  unfold StO at *
  unfold eqD
  simp only [de, toD, hs, hz, and_self, if_true, PyData.eqv]
theorem eqV_str (hs : StO s) (hz : StO z) : eqV st (.str s) (.str z) = some (.bl (s == z)) := by unfold eqV; rw [eqD_str hs hz]; rfl
theorem neV_str (hs : StO s) (hz : StO z) : neV st (.str s) (.str z) = some (.bl (!(s == z))) := by unfold neV; rw [eqD_str hs hz]; rfl
theorem eqD_frs (hs : StO s) : eqD st (fr q) (.str s) = some false := by
  unfold StO at *
  unfold eqD fr
  simp only [de, toD, toDL, sh_ii, hs, and_self, if_true, PyData.eqv]
theorem eqV_frs (hs : StO s) : eqV st (fr q) (.str s) = some (.bl false) := by unfold eqV; rw [eqD_frs hs]; rfl
theorem neV_frs (hs : StO s) : neV st (fr q) (.str s) = some (.bl true) := by unfold neV; rw [eqD_frs hs]; rfl
end
/-! the size of a fraction -/
def ab (q : Rat) : Rat := if 0 ≤ q then q else -q
theorem ab_fr (q : Rat) : PV.tup [.int (q.num.natAbs : Int), .int (q.den : Int)] = fr (ab q) := by
  unfold ab
  by_cases h : 0 ≤ q
  · rw [if_pos h]
    have : 0 ≤ q.num := Rat.num_nonneg.mpr h
    unfold fr
    rw [Int.natAbs_of_nonneg this]
  · rw [if_neg h]
    have : ¬ 0 ≤ q.num := fun z => h (Rat.num_nonneg.mp z)
    unfold fr
    rw [Rat.neg_num, Rat.neg_den]
    have e : (q.num.natAbs : Int) = -q.num := by omega
    rw [e]
theorem ab_num (q : Rat) : (ab q).num = (q.num.natAbs : Int) := by
  have := ab_fr q
  unfold fr at this
  injection this with h
  injection h with h1 h2
  injection h1 with h3
  exact h3.symm
theorem ab_den (q : Rat) : (ab q).den = q.den := by
  unfold ab; split
  · rfl
  · rw [Rat.neg_den]
theorem RS.ab {n : Nat} {q : Rat} (h : RS n q) : RS n (ab q) := by
  unfold Z.ab
  by_cases z : 0 ≤ q
  · rw [if_pos z]; exact h
  · rw [if_neg z]; exact h.neg
theorem neg_fr (q : Rat) : PV.tup [.int (0 - q.num), .int (q.den : Int)] = fr (-q) := by
  unfold fr
  rw [Rat.neg_num, Rat.neg_den, Int.zero_sub]
/-- below, by sizes -/
theorem lt_ab (a g : Rat) : (decide (((a.num * g.den).natAbs : Int) < ((g.num * a.den).natAbs : Int))) = decide (ab a < ab g) := by
  rw [← lt_eq, ab_num, ab_num, ab_den, ab_den, Int.natAbs_mul, Int.natAbs_mul, Int.natCast_mul, Int.natCast_mul, Int.natAbs_natCast, Int.natAbs_natCast]
theorem num0 (q : Rat) : (q.num == 0) = decide (q = 0) := by
  by_cases h : q = 0
  · subst h; rfl
  · rw [decide_eq_false h]
    exact beq_eq_false_iff_ne.mpr (num_ne h)
theorem num_pos (q r : Rat) : decide (0 < q.num * (r.den : Int)) = decide (0 < q) := by
  have h := lt_eq 0 q
  rw [Rat.zero_num, Rat.zero_den, Int.zero_mul] at h
  by_cases p : 0 < q
  · rw [decide_eq_true p] at h ⊢
    have p1 : 0 < q.num := by simpa using h
    exact decide_eq_true (Int.mul_pos p1 (dpos r))
  · rw [decide_eq_false p] at h ⊢
    have p1 : ¬ 0 < q.num := by simpa using h
    refine decide_eq_false fun z => p1 ?_
    exact Int.pos_of_mul_pos_left z (dpos r) |> fun y => y
end Z
/-! More rules: sums of tuples and lists, {}, list(), str(), all(), any(), a < b < c. -/
namespace Z
open PySem PySem.Spec PyProof.Rows L2
section
variable {K : PySem.W.Frag} {X : Cx} {W : WX} {pos : Pos} {a b c e tg : Expr} {es : List Expr} {ga gb gc g : G} {gs : List G}
/-- both lists of two slots -/
noncomputable def catL (st : List SO) : Option SO → Option SO → Res PV
  | some (.lst xs), some (.lst ys) => if LineOk (xs.length + ys.length) then .ok (.ref st.length) (st ++ [.lst (xs ++ ys)]) else .bad
  | _, _ => .bad
/-- one behind the other: two tuples, two lists that may be changed -/
noncomputable def catR (st : List SO) (x y : PV) : Res PV := match x, y with
  | .tup xs, .tup ys => if LineOk (xs.length + ys.length) then .ok (.tup (xs ++ ys)) st else .bad
  | .ref k, .ref j => catL st st[k]? st[j]?
  | _, _ => .bad
noncomputable def gCat (ga gb : G) : G := fun ρ st => bnd (ga ρ st) fun x st => bnd (gb ρ st) fun y st => catR st x y
theorem se_cat (ha : PE X a (tG X.K W ga)) (hb : PE X b (tG X.K W gb)) : PE X (.BinOp a .Add b pos) (tG X.K W (gCat ga gb)) := by
  refine pe_imp (pe_op (op_cat.or op_catA) ha hb) fun σ H Q ⟨w, ρ, st, ok, sl, po⟩ => ?_
  refine ⟨w, ρ, st, ok, sl, post_bind (rel2 := Rep X.K) po fun x st1 w1 H1 vx l1 ok1 rx po1 => ?_⟩
  refine ⟨w1, ρ, st1, ok1, sl.mono l1, post_bind (rel2 := Rep X.K) po1 fun y st2 w2 H2 vy l2 ok2 ry po2 => ?_⟩
  have rx := rx.mono l2
  cases x with
  | tup xs => cases y with
    | tup ys =>
      have po3 : Post X.K W (Rep X.K) w2 σ (if LineOk (xs.length + ys.length) then .ok (.tup (xs ++ ys)) st2 else .bad) Q := po2
      by_cases hl : LineOk (xs.length + ys.length)
      · rw [if_pos hl] at po3
        obtain ⟨p, us, e1, s1, r1⟩ := rx
        obtain ⟨q, zs, e2, s2, r2⟩ := ry
        refine .inr ⟨p, q, us, zs, e1, e2, sqt_mono ok2.fz s1, sqt_mono ok2.fz s2, by rw [r1.length, r2.length]; exact hl, fun hx => ?_, fun hx hy => ?_, fun hx hy r hr => ?_⟩
        · subst hx
          have : xs = [] := by cases xs with | nil => rfl | cons _ _ => obtain ⟨_, _, e, _⟩ := r1; cases e
          subst this
          exact po3 w2 H2 _ (Le.refl _) ok2 ⟨q, zs, rfl, s2, r2⟩
        · subst hy
          have : ys = [] := by cases ys with | nil => rfl | cons _ _ => obtain ⟨_, _, e, _⟩ := r2; cases e
          subst this
          rw [List.append_nil] at po3
          exact po3 w2 H2 _ (Le.refl _) ok2 ⟨p, us, rfl, s1, r1⟩
        · exact po3 (w2.frz r (.tup (us ++ zs))) _ _ (le_frz ok2 hr _) (ok2.frz hr _) ⟨r, _, rfl, .inl (.inl upd_same), (r1.append r2).mono (le_frz ok2 hr _)⟩
      · rw [if_neg hl] at po3; exact po3.elim
    | _ => exact po2.elim
  | ref k => cases y with
    | ref j =>
      have po3 : Post X.K W (Rep X.K) w2 σ (catL st2 st2[k]? st2[j]?) Q := po2
      obtain ⟨p, e1, q1⟩ := rx
      obtain ⟨q, e2, q2⟩ := ry
      obtain ⟨c1, o1, h1, h2, h3⟩ := ok2.obj q1
      obtain ⟨c2, o2, g1, g2, g3⟩ := ok2.obj q2
      rw [h1, g1] at po3
      cases c1 with
      | lst xs => cases c2 with
        | lst ys =>
          obtain ⟨us, f1, r1⟩ := h3
          obtain ⟨zs, f2, r2⟩ := g3
          subst f1 f2
          have po3 : Post X.K W (Rep X.K) w2 σ (if LineOk (xs.length + ys.length) then .ok (.ref st2.length) (st2 ++ [.lst (xs ++ ys)]) else .bad) Q := po3
          by_cases hl : LineOk (xs.length + ys.length)
          · rw [if_pos hl] at po3
            refine .inl ⟨p, q, us, zs, e1, e2, h2, g2, by rw [r1.length, r2.length]; exact hl, fun r hr => ?_⟩
            refine po3 (w2.new r) _ _ (le_new w2 r) (ok2.new hr (c := .lst (xs ++ ys)) ⟨_, rfl, r1.append r2⟩) ⟨r, rfl, ?_⟩
            show (w2.adr ++ [r])[st2.length]? = some r
            rw [← ok2.len]; simp
          · rw [if_neg hl] at po3; exact po3.elim
        | dK _ => exact po3.elim
      | dK _ => exact po3.elim
    | _ => exact po2.elim
  | _ => exact po2.elim
/-- {} -/
theorem se_dnew : PE X (.Dict [] [] pos) (tG X.K W (gC (.dct []))) := by
  refine pe_imp pe_dnewK fun σ H Q ⟨w, ρ, st, ok, sl, po⟩ p hp => ?_
  exact po (w.frz p (.dK [])) _ _ (le_frz ok hp _) (ok.frz hp _) ⟨p, [], rfl, upd_same, rfl⟩
/-- list(x) -/
def listV : FL := fun st xs => match xs with
  | [.tup ys] => some (.lst ys)
  | [.lst ys] => some (.lst ys)
  | [.ref k] => lstK st[k]? fun ys => some (.lst ys)
  | _ => none
theorem s_listof : SndL K listV (fun xs H Q => ∃ p ys, xs = [.ref p] ∧ (SqL K H p ys ∨ SqT K H p ys) ∧ ∀ l, H l = none → Q (.ref l) (upd H l (.lst ys))) := by
  intro w H st xs z vs Q ok rs e q
  rcases xs with _ | ⟨x, _ | ⟨y, ys⟩⟩
  · cases e
  · obtain ⟨v, ev, rx⟩ := repl1 rs
    cases x with
    | tup ys =>
      cases e
      obtain ⟨p, us, e2, sq, rr⟩ := rx
      exact ⟨p, us, by rw [ev, e2], .inr (sqt_mono ok.fz sq), fun l hl => q (w.frz l (.lst us)) _ _ (le_frz ok hl _) (ok.frz hl _) ⟨l, us, rfl, .inl (.inl upd_same), rr.mono (le_frz ok hl _)⟩⟩
    | lst ys =>
      cases e
      obtain ⟨p, us, e2, sq, rr⟩ := rx
      exact ⟨p, us, by rw [ev, e2], .inl (sql_mono ok.fz sq), fun l hl => q (w.frz l (.lst us)) _ _ (le_frz ok hl _) (ok.frz hl _) ⟨l, us, rfl, .inl (.inl upd_same), rr.mono (le_frz ok hl _)⟩⟩
    | ref k =>
      obtain ⟨p, e2, q1⟩ := rx
      obtain ⟨c1, o1, h1, h2, h3⟩ := ok.obj q1
      have e : lstK st[k]? (fun ys => some (PV.lst ys)) = some z := e
      rw [h1] at e
      cases c1 with
      | lst ys =>
        cases e
        obtain ⟨us, f1, rr⟩ := h3
        subst f1
        exact ⟨p, us, by rw [ev, e2], .inl (.inl (.inl h2)), fun l hl => q (w.frz l (.lst us)) _ _ (le_frz ok hl _) (ok.frz hl _) ⟨l, us, rfl, .inl (.inl upd_same), rr.mono (le_frz ok hl _)⟩⟩
      | dK _ => cases e
    | _ => cases e
  · cases x <;> cases e
/-- an int that str() writes -/
def StrOk (i : Int) : Prop := i.natAbs.log2 < 1920
noncomputable instance (i : Int) : Decidable (StrOk i) := Classical.propDecidable _
noncomputable def strV : FL := fun _ xs => match xs with
  | [.int i] => if StrOk i then some (.str (toString i)) else none
  | _ => none
theorem s_str : SndL K strV (fun xs H Q => ∃ i, xs = [.int i] ∧ i.natAbs.log2 < 1920 ∧ Q (.str (toString i)) H) := by
  intro w H st xs z vs Q ok rs e q
  rcases xs with _ | ⟨x, _ | ⟨y, ys⟩⟩
  · cases e
  · obtain ⟨v, ev, rx⟩ := repl1 rs
    cases x with
    | int i =>
      have e : (if StrOk i then some (PV.str (toString i)) else none) = some z := e
      by_cases h : StrOk i
      · rw [if_pos h] at e; cases e
        exact ⟨i, by rw [ev, show v = .int i from rx], h, q w H _ (Le.refl _) ok rfl⟩
      · rw [if_neg h] at e; cases e
    | _ => cases e
  · cases x <;> cases e
/-- truths of a list -/
def blsOf : List PV → Option (List Bool)
  | [] => some []
  | .bl b :: xs => (blsOf xs).map fun bs => b :: bs
  | _ => none
theorem blsOf_rep {w : Wd} : ∀ (xs : List PV) (bs : List Bool) (vs : List V), blsOf xs = some bs → RepL K w xs vs → vs = bs.map V.bl
  | [], bs, vs, e, r => by cases e; exact r
  | x :: xs, bs, vs, e, ⟨v, us, ev, rx, rr⟩ => by
    cases x with
    | bl b =>
      have e : (blsOf xs).map (fun bs => b :: bs) = some bs := e
      cases q : blsOf xs with
      | none => rw [q] at e; cases e
      | some ds =>
        rw [q] at e; cases e
        rw [ev, blsOf_rep xs ds us q rr, show v = .bl b from rx]; rfl
    | _ => cases e
def allV : FL := fun _ xs => match xs with
  | [.lst ys] => (blsOf ys).map fun bs => .bl (bs.all id)
  | _ => none
theorem s_all : SndL K allV (rAll K) := by
  intro w H st xs z vs Q ok rs e q
  rcases xs with _ | ⟨x, _ | ⟨y, ys⟩⟩
  · cases e
  · obtain ⟨v, ev, rx⟩ := repl1 rs
    cases x with
    | lst ys =>
      have e : (blsOf ys).map (fun bs => PV.bl (bs.all id)) = some z := e
      cases h : blsOf ys with
      | none => rw [h] at e; cases e
      | some bs =>
        rw [h] at e; cases e
        obtain ⟨p, us, e2, sq, rr⟩ := rx
        rw [blsOf_rep ys bs us h rr] at sq
        exact ⟨p, bs, by rw [ev, e2], sql_mono ok.fz sq, q w H _ (Le.refl _) ok rfl⟩
    | _ => cases e
  · cases x <;> cases e
theorem se_chain {op op' : CmpOp} {f f' : F2} {r r' : R2} (ho : OpR X (compareOp op) r) (ho' : OpR X (compareOp op') r') (hs : Snd2 X.K f r) (hs' : Snd2 X.K f' r') (ha : PE X a (tG X.K W ga)) (hb : PE X b (tG X.K W gb)) (hc : PE X c (tG X.K W gc))
    (hm : lastMarks [op, op'] [b, c] = false := by with_unfolding_all rfl) : PE X (.Compare a [op, op'] [b, c] pos) (tG X.K W (gChain f f' ga gb gc)) :=
  pe_imp (pe_chain ho ho' ha hb hc hm) fun _ _ _ h => tChain_of hs hs' h
end
/-! the equations -/
section
variable {ρ : REnv} {st : List SO} {xs ys : List PV} {i : Int} {k j : Nat} {ga gb : G} {b : Bool} {kvs : List (Key × PV)}
theorem gCat_eq : gCat ga gb ρ st = bnd (ga ρ st) fun x st => bnd (gb ρ st) fun y st => catR st x y := rfl
theorem catR_t (h : LineOk (xs.length + ys.length)) : catR st (.tup xs) (.tup ys) = .ok (.tup (xs ++ ys)) st := if_pos h
theorem catR_r : catR st (.ref k) (.ref j) = catL st st[k]? st[j]? := rfl
theorem catL_s (h : LineOk (xs.length + ys.length)) : catL st (some (.lst xs)) (some (.lst ys)) = .ok (.ref st.length) (st ++ [.lst (xs ++ ys)]) := if_pos h
theorem listV_t : listV st [.tup xs] = some (.lst xs) := rfl
theorem listV_l : listV st [.lst xs] = some (.lst xs) := rfl
theorem strV_i (h : StrOk i) : strV st [.int i] = some (.str (toString i)) := if_pos h
theorem blsOf_nil : blsOf [] = some [] := rfl
theorem blsOf_cons : blsOf (.bl b :: xs) = (blsOf xs).map fun bs => b :: bs := rfl
theorem allV_l : allV st [.lst xs] = (blsOf xs).map fun bs => .bl (bs.all id) := rfl
theorem isNV_d : isNV st (.dct kvs) .non = some (.bl false) := rfl
theorem notNV_d : notNV st (.dct kvs) .non = some (.bl true) := rfl
end
end Z
namespace Z
open PySem PySem.Spec PyProof.Rows L2
/-- a plain value, its kind known -/
def P0 : PV → Prop
  | .int i => Sz 300 i
  | .ty _ | .cls _ | .exc _ | .ref _ => False
  | _ => True
def P1 (x : PV) : Prop := P0 x ∧ ∀ ys, x = .tup ys → ∀ y ∈ ys, P0 y
def P2 (x : PV) : Prop := P0 x ∧ ∀ ys, x = .tup ys → ∀ y ∈ ys, P1 y
def whB : PV → Bool
  | .int _ => true
  | _ => false
/-- whether it is a fraction -/
def frB : PV → Bool
  | .tup [.int a, .int b] => decide (0 < b) && (Int.gcd a b : Int) == 1
  | _ => false
theorem len3 (n : Nat) : (((n + 1 + 1 + 1 : Nat) : Int) == 2) = false := beq_eq_false_iff_ne.mpr (by omega)

/-- whether it is a hap -/
def hapB : PV → Bool
  | .tup [a, b] => frB a && frB b
  | _ => false
theorem gcd_one {a b : Int} (hb : 0 < b) : ((Rat.divInt a b).num == a && ((Rat.divInt a b).den : Int) == b) = ((Int.gcd a b : Int) == 1) := by
  have hg := gcd_pos_of (t := a) (show b ≠ 0 by omega)
  have hs : b.sign = 1 := Int.sign_eq_one_of_pos hb
  by_cases h : Int.gcd a b = 1
  · have h2 : Int.gcd b a = 1 := by rw [Int.gcd_comm]; exact h
    rw [Rat.num_divInt, Rat.den_divInt, if_neg (by omega), hs, h2, h]
    have : ((b.natAbs / 1 : Nat) : Int) = b := by rw [Nat.div_one]; omega
    rw [this]
    simp
  · have : ((Int.gcd a b : Int) == 1) = false := beq_eq_false_iff_ne.mpr (by omega)
    rw [this]
    have hd : (((Rat.divInt a b).den : Int) == b) = false := by
      refine beq_eq_false_iff_ne.mpr fun e => h ?_
      rw [Rat.den_divInt, if_neg (by omega), Int.gcd_comm] at e
      obtain ⟨k, hk⟩ := Int.gcd_dvd_right a b
      have hk2 : b.natAbs = Int.gcd a b * k.natAbs := by
        have := congrArg Int.natAbs hk
        rwa [Int.natAbs_mul, Int.natAbs_natCast] at this
      have hb2 : b.natAbs / Int.gcd a b = k.natAbs := by rw [hk2]; exact Nat.mul_div_cancel_left _ (by omega)
      rw [hb2] at e
      have e2 : b.natAbs = k.natAbs := by omega
      rw [e2] at hk2
      have k0 : 0 < k.natAbs := by omega
      have : Int.gcd a b * k.natAbs = 1 * k.natAbs := by omega
      exact Nat.eq_of_mul_eq_mul_right k0 this
    rw [hd, Bool.and_false]
theorem eqV_bl {st : List SO} {a b : Bool} : eqV st (.bl a) (.bl b) = some (.bl (a == b)) := by
  have h : ∀ c : Bool, SeqAt.shaped (.bool c) = true := fun _ => rfl
  unfold eqV eqD
  simp only [de, toD, h, and_self, if_true, PyData.eqv]
  rfl
end Z
namespace Z
open PySem PySem.Spec PyProof.Rows L2
/-! comprehensions -/
theorem comp_map {t : PV → REnv → Option REnv} {e : G} {ρ : REnv} {st : List SO} (f : PV → PV) : ∀ xs : List PV, (∀ x ∈ xs, ∃ ρ1, t x ρ = some ρ1 ∧ e ρ1 st = .ok (f x) st) → compg t gYes e ρ xs st = .ok (xs.map f) st
  | [], _ => rfl
  | x :: xs, h => by
    obtain ⟨ρ1, h1, h2⟩ := h x (by simp)
    have ih := comp_map f xs fun y hy => h y (by simp [hy])
    unfold compg
    rw [h1]
    show bnd (e ρ1 st) (fun y st2 => bnd (compg t gYes e ρ xs st2) fun ys st3 => .ok (y :: ys) st3) = _
    rw [h2, bnd_ok, ih, bnd_ok]
    rfl
theorem gComp_ok {it : GL} {t : PV → REnv → Option REnv} {c : GT} {e : G} {vs : List Nat} {ρ : REnv} {st st1 st2 : List SO} {xs ys : List PV} (h1 : it ρ st = .ok xs st1) (h2 : compg t c e (wipeR ρ vs) xs st1 = .ok ys st2) (h3 : LenOk ys.length) :
    gComp it t c e vs ρ st = .ok (.lst ys) st2 := by
  unfold gComp
  rw [h1, bnd_ok]
  simp only [h2]
  exact if_pos h3
theorem blsOf_true : ∀ xs : List PV, blsOf (xs.map fun _ => PV.bl true) = some (xs.map fun _ => true)
  | [] => rfl
  | x :: xs => by rw [List.map_cons, blsOf_cons, blsOf_true xs]; rfl
theorem allV_true {xs : List PV} {st : List SO} : allV st [.lst (xs.map fun _ => PV.bl true)] = some (.bl true) := by
  rw [allV_l, blsOf_true]
  show some (PV.bl ((xs.map fun _ => true).all id)) = _
  have : (xs.map fun _ => true).all id = true := by simp
  rw [this]
theorem lenOk_small {n : Nat} (h : n ≤ 1000) : LenOk n := small1000 h
theorem lineOk_small {n : Nat} (h : n ≤ 1000) : LineOk n := small_line h
/-! a pot beneath new objects -/
theorem PS_app {st l : List SO} {k : Nat} {n : Int} (hk : k < st.length) : PS st k n ++ l = PS (st ++ l) k n := by
  unfold PS
  rw [List.set_append_left _ _ hk]
theorem PS_ne {st : List SO} {k j : Nat} {n : Int} (h : k ≠ j) : (PS st k n)[j]? = st[j]? := List.getElem?_set_ne h
theorem PS_take {st l : List SO} {k : Nat} {n : Int} (hk : k < st.length) : (PS (st ++ l) k n).take st.length = PS st k n := by
  rw [← PS_app hk]
  have : (PS st k n).length = st.length := PS_len
  rw [← this, List.take_left]
theorem PS_old {st l : List SO} {k : Nat} {n m : Int} (hk : k < st.length) : OldOk (PS st k n) (PS (st ++ l) k m) := by
  have fl : flatO (SO.lst [PV.int m]) = true := rfl
  have h : OldOk (PS st k n) (PS st k m) := by
    have := (OldOk.refl (PS st k n)).set (k := k) (.inl fl)
    rwa [PS_set] at this
  rw [← PS_app hk]
  exact h.app
theorem leave_ps {st l : List SO} {k : Nat} {n m : Int} {x : PV} (hk : k < st.length) (h : ∀ st n, frzV st n 9 x = some x) : leave (PS st k n) (.ret x (PS (st ++ l) k m)) = .ok x (PS st k m) := by
  rw [leave_ret (PS_old hk) (h _ _), PS_len, PS_take hk]
theorem atI_mem {xs : List PV} {r : Int} (h0 : 0 ≤ r) (h : r < xs.length) : ∃ x ∈ xs, atI xs r = some x := by
  obtain ⟨k, rfl⟩ := Int.eq_ofNat_of_zero_le h0
  have hk : k < xs.length := by omega
  exact ⟨xs[k], List.getElem_mem hk, atN (by simp [hk])⟩
theorem P1_tup {xs : List PV} (h : ∀ y ∈ xs, P0 y) : P1 (.tup xs) := ⟨trivial, fun ys e => by cases e; exact h⟩
theorem P2_tup {xs : List PV} (h : ∀ y ∈ xs, P1 y) : P2 (.tup xs) := ⟨trivial, fun ys e => by cases e; exact h⟩
theorem P1_of {x : PV} (h : P0 x) (n : ∀ ys, x ≠ .tup ys) : P1 x := ⟨h, fun ys e => absurd e (n ys)⟩
theorem P2_of {x : PV} (h : P0 x) (n : ∀ ys, x ≠ .tup ys) : P2 x := ⟨h, fun ys e => absurd e (n ys)⟩
theorem P1.up {x : PV} (h : P1 x) (hs : ∀ y, P0 y → (∀ ys, y ≠ .tup ys) ∨ y = .tup []) : P2 x := ⟨h.1, fun ys e y hy => by
  have hp := h.2 ys e y hy
  rcases hs y hp with z | z
  · exact P1_of hp z
  · subst z; exact P1_tup (by simp)⟩
theorem P0_s {n : Nat} {i : Int} (h : Sz n i) (l : n ≤ 300) : P0 (.int i) := h.mono l
theorem P1_fr {n : Nat} {q : Rat} (h : RS n q) (l : n ≤ 300) : P1 (fr q) := P1_tup (by
  intro y hy
  simp only [List.mem_cons, List.not_mem_nil, or_false] at hy
  rcases hy with rfl | rfl
  · exact P0_s h.1 l
  · exact P0_s h.den l)
/-- plain and no tuple -/
def PA (x : PV) : Prop := P0 x ∧ ∀ ys, x ≠ .tup ys
theorem PA_s {n : Nat} {i : Int} (h : Sz n i) (l : n ≤ 300) : PA (.int i) := ⟨h.mono l, fun _ e => by cases e⟩
theorem PA_bl (b : Bool) : PA (.bl b) := ⟨trivial, fun _ e => by cases e⟩
theorem PA_str (s : Str) : PA (.str s) := ⟨trivial, fun _ e => by cases e⟩
theorem PA_non : PA .non := ⟨trivial, fun _ e => by cases e⟩
theorem P2a {xs : List PV} (h : ∀ y ∈ xs, PA y) : P2 (.tup xs) := P2_tup fun y hy => P1_of (h y hy).1 (h y hy).2
theorem P2.p1 {x : PV} (h : P2 x) : P1 x := ⟨h.1, fun ys e y hy => (h.2 ys e y hy).1⟩
theorem P2_fr {n : Nat} {q : Rat} (h : RS n q) (l : n ≤ 300) : P2 (fr q) := P2a (by
  intro y hy
  simp only [List.mem_cons, List.not_mem_nil, or_false] at hy
  rcases hy with rfl | rfl
  · exact PA_s h.1 l
  · exact PA_s h.den l)
end Z
namespace Z
open PySem PySem.Spec PyProof.Rows L2
/-- while b != 0: a, b = b, a % b -/
theorem whl_gcdN {i j : Nat} (hij : i ≠ j) : ∀ (n : Nat) (ρ : REnv) (a b : Nat) (st : List SO), ρ[i]? = some (some (.int a)) → ρ[j]? = some (some (.int b)) → b < n →
    whl (gB (gBin neV (gVar j) (gC (.int 0)))) (gPar i j (gVar j) (gBin modV (gVar i) (gVar j))) n ρ st = .nx ((ρ.set i (some (.int (Nat.gcd a b)))).set j (some (.int 0))) st
  | 0, ρ, a, b, st, hi, hj, h => by omega
  | n + 1, ρ, a, b, st, hi, hj, h => by
    have hb0 : (!((b : Int) == 0)) = decide (0 < b) := by
      by_cases q : 0 < b
      · have : ((b : Int) == 0) = false := beq_eq_false_iff_ne.mpr (by omega)
        rw [decide_eq_true q, this]; rfl
      · have : ((b : Int) == 0) = true := beq_iff_eq.mpr (by omega)
        rw [decide_eq_false q, this]; rfl
    unfold whl
    simp only [gB, gBin, gVar_of hj, bnd, gC, oo, neV_int, toST, hb0, decide_eq_true_eq]
    by_cases hb : 0 < b
    · rw [if_pos hb]
      have e : gPar i j (gVar j) (gBin modV (gVar i) (gVar j)) ρ st = .nx ((ρ.set i (some (.int b))).set j (some (.int ((a % b : Nat) : Int)))) st := by
        have hne : ¬ ((b : Int) = 0) := by omega
        have em : Int.fmod (a : Int) (b : Int) = ((a % b : Nat) : Int) := by rw [Int.fmod_eq_emod_of_nonneg _ (by omega)]; exact (Int.natCast_emod a b).symm
        simp only [gPar, gArgs, gBin, gVar_of hj, gVar_of hi, bnd, oo, modV, ne_eq, hne, not_false_eq_true, if_true, em]
      rw [e]
      have li := lt_of_slot hi
      have lj := lt_of_slot hj
      have ih := whl_gcdN hij n ((ρ.set i (some (.int b))).set j (some (.int ((a % b : Nat) : Int)))) b (a % b) st
        (by rw [List.getElem?_set_ne (Ne.symm hij), List.getElem?_set_self li]) (by rw [List.getElem?_set_self (by rw [List.length_set]; exact lj)]) (by have := Nat.mod_lt a hb; omega)
      show whl _ _ n ((ρ.set i (some (.int b))).set j (some (.int ((a % b : Nat) : Int)))) st = _
      rw [ih]
      have eg : Nat.gcd b (a % b) = Nat.gcd a b := by rw [Nat.gcd_comm b, ← Nat.gcd_rec, Nat.gcd_comm]
      rw [eg, List.set_comm _ _ (Ne.symm hij), List.set_set, List.set_set]
    · rw [if_neg hb]
      have b0 : b = 0 := by omega
      subst b0
      rw [Nat.gcd_zero_right, set_id hi]
      have hj' : ρ[j]? = some (some (PV.int 0)) := hj
      rw [set_id hj']
end Z
namespace Z
open PySem PySem.Spec PyProof.Rows L2
/-- a measure: how far apart two slots are -/
def muGap (i j : Nat) : REnv → Nat := fun r => match r[i]?, r[j]? with
  | some (some (.int a)), some (some (.int b)) => (b - a).natAbs + 1
  | _, _ => 0
/-- a measure: two turns -/
def muEq (i j : Nat) : REnv → Nat := fun _ => 3
theorem frB_ii {x : PV} (h : frB x = true) : ∃ a b, x = .tup [.int a, .int b] := by
  unfold frB at h
  split at h
  · exact ⟨_, _, rfl⟩
  · cases h
/-- whether it is a speed -/
def spB (x : PV) : Bool := frB x && (match x with
  | .tup [.int a, .int b] => decide ((a.natAbs : Int) < b)
  | _ => false)
end Z
namespace Z
open PySem PySem.Spec PyProof.Rows L2
/-- x is True, x is False -/
def isBV : F2 := fun _ x y => match x, y with
  | .bl a, .bl b => some (.bl (decide (a = b)))
  | _, _ => none
theorem s_isB {K : PySem.W.Frag} : Snd2 K isBV (fun x y H Q => ∃ a b, x = .bl a ∧ y = .bl b ∧ Q (.bl (decide (a = b))) H) := by
  intro w H st x y z vx vy Q ok rx ry e q
  cases x with
  | bl a => cases y with
    | bl b => cases e; exact ⟨a, b, rx, ry, q w H _ (Le.refl _) ok rfl⟩
    | _ => cases e
  | _ => cases y <;> cases e
theorem isBV_b {st : List SO} {a b : Bool} : isBV st (.bl a) (.bl b) = some (.bl (decide (a = b))) := rfl
theorem neV_bl {st : List SO} {a b : Bool} : neV st (.bl a) (.bl b) = some (.bl (!(a == b))) := by
  have h : ∀ c : Bool, SeqAt.shaped (.bool c) = true := fun _ => rfl
  unfold neV eqD
  simp only [de, toD, h, and_self, if_true, PyData.eqv]
  rfl
/-! values that a def's end leaves as they are -/
def FZ (k : Nat) (x : PV) : Prop := ∀ (d : Nat) (st : List SO) (n : Nat), frzV st n (d + k) x = some x
theorem FZ.up {k : Nat} {x : PV} (h : FZ k x) : FZ (k + 1) x := fun d st n => by
  have := h (d + 1) st n
  rwa [Nat.add_assoc, Nat.add_comm 1 k] at this
theorem FZ.mono {k m : Nat} {x : PV} (h : FZ k x) (l : k ≤ m) : FZ m x := by
  obtain ⟨j, rfl⟩ := Nat.exists_eq_add_of_le l
  clear l
  induction j with
  | zero => exact h
  | succ j ih => exact ih.up
theorem mapO_id {α : Type} {f : α → Option α} : ∀ xs : List α, (∀ x ∈ xs, f x = some x) → mapO f xs = some xs
  | [], _ => rfl
  | x :: xs, h => by
    have ih := mapO_id xs fun y hy => h y (by simp [hy])
    unfold mapO
    simp only [h x (by simp), ih]
    try rfl
theorem FZ_tup {k : Nat} {xs : List PV} (h : ∀ y ∈ xs, FZ k y) : FZ (k + 1) (.tup xs) := fun d st n => by
  show (mapO (frzV st n (d + k)) xs).map PV.tup = _
  rw [mapO_id xs fun y hy => h y hy d st n]; rfl
theorem FZ_lst {k : Nat} {xs : List PV} (h : ∀ y ∈ xs, FZ k y) : FZ (k + 1) (.lst xs) := fun d st n => by
  show (mapO (frzV st n (d + k)) xs).map PV.lst = _
  rw [mapO_id xs fun y hy => h y hy d st n]; rfl
theorem FZ_fr (q : Rat) : FZ 2 (fr q) := fun _ _ _ => rfl
theorem FZ_hp (t x : Rat) : FZ 3 (hp t x) := fun _ _ _ => rfl
theorem FZ.at9 {k : Nat} {x : PV} (h : FZ k x) (l : k ≤ 9) : ∀ st n, frzV st n 9 x = some x := fun st n => (h.mono l) 0 st n
def P3 (x : PV) : Prop := P0 x ∧ ∀ ys, x = .tup ys → ∀ y ∈ ys, P2 y
theorem P3_tup {xs : List PV} (h : ∀ y ∈ xs, P2 y) : P3 (.tup xs) := ⟨trivial, fun ys e => by cases e; exact h⟩
theorem P3_of {x : PV} (h : P0 x) (n : ∀ ys, x ≠ .tup ys) : P3 x := ⟨h, fun ys e => absurd e (n ys)⟩
theorem PA.p2 {x : PV} (h : PA x) : P2 x := P2_of h.1 h.2
theorem PA.p1 {x : PV} (h : PA x) : P1 x := P1_of h.1 h.2
theorem P2_hp {n : Nat} {t x : Rat} (h1 : RS n t) (h2 : RS n x) (l : n ≤ 300) : P2 (hp t x) := P2_tup (by
  intro y hy
  simp only [List.mem_cons, List.not_mem_nil, or_false] at hy
  rcases hy with rfl | rfl
  · exact P1_fr h1 l
  · exact P1_fr h2 l)
/-- a fraction told is one -/
theorem frB_fr (q : Rat) : frB (fr q) = true := by
  have h := gcd_one (a := q.num) (dpos q)
  rw [Rat.num_divInt_den] at h
  simp only [beq_self_eq_true, Bool.and_self] at h
  unfold frB fr
  have d := dpos q
  simp only [← h, d, decide_true, Bool.and_self]
theorem fr_of {x : PV} (h : P1 x) (hf : frB x = true) : ∃ q, x = fr q ∧ RS 300 q := by
  obtain ⟨a, b, rfl⟩ := frB_ii hf
  have hf2 : (decide (0 < b) && (Int.gcd a b : Int) == 1) = true := hf
  obtain ⟨h1, h2⟩ := Bool.and_eq_true_iff.mp hf2
  have hb : 0 < b := of_decide_eq_true h1
  have g := gcd_one (a := a) hb
  rw [h2] at g
  obtain ⟨g1, g2⟩ := Bool.and_eq_true_iff.mp g
  have e1 := beq_iff_eq.mp g1
  have e2 := beq_iff_eq.mp g2
  have ha : P0 (.int a) := h.2 _ rfl _ (by simp)
  have hb' : P0 (.int b) := h.2 _ rfl _ (by simp)
  refine ⟨Rat.divInt a b, ?_, ?_, ?_⟩
  · unfold fr; rw [e1, e2]
  · rw [e1]; exact ha
  · have : Sz 300 b := hb'
    unfold Sz at this
    have e3 : (Rat.divInt a b).den = b.natAbs := by omega
    rw [e3]; exact this
/-! the beat of a speed -/
theorem sp_num {q : Rat} (h : (q.num.natAbs : Int) < q.den) : (1 - q * q).num = (q.den : Int) * q.den - q.num * q.num ∧ ((1 - q * q).den : Int) = (q.den : Int) * q.den ∧ 0 < (q.den : Int) * q.den - q.num * q.num := by
  have hd : 0 < (q.den : Int) * q.den := Int.mul_pos (dpos q) (dpos q)
  have e : Rat.divInt ((q.den : Int) * q.den - q.num * q.num) ((q.den : Int) * q.den) = 1 - q * q := by
    have s := sub_eq 1 (q * q)
    rw [sq_num, sq_den] at s
    rw [← s]
    show _ = Rat.divInt (1 * ((q.den * q.den : Nat) : Int) - q.num * q.num * ((1 : Nat) : Int)) (((1 : Nat) : Int) * ((q.den * q.den : Nat) : Int))
    rw [Int.natCast_mul, Int.one_mul, Int.natCast_one, Int.mul_one, Int.one_mul]
  have g : (Int.gcd ((q.den : Int) * q.den - q.num * q.num) ((q.den : Int) * q.den) : Int) = 1 := by
    have r := (q * q).reduced
    rw [sq_num, sq_den] at r
    have : Int.gcd (q.num * q.num) ((q.den : Int) * q.den) = 1 := by
      have e : ((q.den : Int) * q.den) = ((q.den * q.den : Nat) : Int) := (Int.natCast_mul _ _).symm
      rw [e]; exact r
    have e2 : Int.gcd ((q.den : Int) * q.den - q.num * q.num) ((q.den : Int) * q.den) = Int.gcd (q.num * q.num) ((q.den : Int) * q.den) := by
      exact Int.gcd_self_sub_left _ _
    rw [e2, this]; rfl
  have k := gcd_one (a := (q.den : Int) * q.den - q.num * q.num) hd
  rw [g, e] at k
  obtain ⟨k1, k2⟩ := Bool.and_eq_true_iff.mp k
  refine ⟨beq_iff_eq.mp k1, beq_iff_eq.mp k2, ?_⟩
  have h2 : q.num.natAbs * q.num.natAbs < q.den * q.den := Nat.mul_lt_mul'' (by omega) (by omega)
  have h3 : ((q.num.natAbs * q.num.natAbs : Nat) : Int) = q.num * q.num := by rw [Int.natCast_mul]; exact Int.natAbs_mul_self' q.num |> fun z => by simpa using z
  have h4 : ((q.den * q.den : Nat) : Int) = (q.den : Int) * q.den := Int.natCast_mul _ _
  omega
end Z
namespace Z
open PySem PySem.Spec PyProof.Rows L2
theorem PS_get {st l : List SO} {k : Nat} {n : Int} (hk : k < st.length) (i : Nat) : (PS (st ++ l) k n)[st.length + i]? = l[i]? := by
  rw [PS_ne (by omega), List.getElem?_append_right (by omega)]
  congr 1
  omega
theorem PS_get0 {st l : List SO} {k : Nat} {n : Int} (hk : k < st.length) : (PS (st ++ l) k n)[st.length]? = l[0]? := PS_get hk 0
/-- plain, left as it is -/
def G2 (x : PV) : Prop := P2 x ∧ FZ 7 x
def G3 (x : PV) : Prop := P3 x ∧ FZ 9 x
theorem G3_tup {xs : List PV} (h : ∀ y ∈ xs, G2 y) : G3 (.tup xs) := ⟨P3_tup fun y hy => (h y hy).1, (FZ_tup fun y hy => (h y hy).2).mono (by omega)⟩
theorem G3_lst {xs : List PV} (h : ∀ y ∈ xs, FZ 7 y) : G3 (.lst xs) := ⟨P3_of trivial (by intro ys e; cases e), (FZ_lst h).mono (by omega)⟩
theorem G2_lst {xs : List PV} (h : ∀ y ∈ xs, FZ 6 y) : G2 (.lst xs) := ⟨P2_of trivial (by intro ys e; cases e), FZ_lst h⟩
theorem G2_tup {xs : List PV} (h : ∀ y ∈ xs, P1 y ∧ FZ 6 y) : G2 (.tup xs) := ⟨P2_tup fun y hy => (h y hy).1, FZ_tup fun y hy => (h y hy).2⟩
theorem G2_fr {n : Nat} {q : Rat} (h : RS n q) (l : n ≤ 300) : G2 (fr q) := ⟨P2_fr h l, (FZ_fr q).mono (by omega)⟩
theorem G2_hp {n : Nat} {t x : Rat} (h1 : RS n t) (h2 : RS n x) (l : n ≤ 300) : G2 (hp t x) := ⟨P2_hp h1 h2 l, (FZ_hp t x).mono (by omega)⟩
theorem P2.p3 {x : PV} (h : P2 x) (z : ∀ ys, x = .tup ys → ∀ y ∈ ys, P2 y) : P3 x := ⟨h.1, z⟩
end Z
/-! Plain speeds: a speed q and its beat b. -/
namespace Z
open PySem PySem.Spec PyProof.Rows L2
structure Pl (q b : Rat) : Prop where
  pos : 0 < b
  sq : b * b = 1 - q * q
theorem Pl.root {q b : Rat} (h : Pl q b) : rootQ (1 - q * q) = some b := by
  have p := h.pos
  rw [← h.sq, rootQ_sq, if_pos (by grind)]
theorem Pl.ne {q b : Rat} (h : Pl q b) : b ≠ 0 := by have := h.pos; grind
theorem sq_pos {b : Rat} (h : 0 < b) : 0 < b * b := Rat.mul_pos h h
theorem Pl.lt1 {q b : Rat} (h : Pl q b) : q < 1 := by
  have s := h.sq
  have p := sq_pos h.pos
  by_cases c : q < 1
  · exact c
  · have h1 : 0 ≤ (q - 1) * (q + 1) := Rat.mul_nonneg (by grind) (by grind)
    grind
theorem Pl.gt1 {q b : Rat} (h : Pl q b) : -1 < q := by
  have s := h.sq
  have p := sq_pos h.pos
  by_cases c : -1 < q
  · exact c
  · have h1 : 0 ≤ (-1 - q) * (1 - q) := Rat.mul_nonneg (by grind) (by grind)
    grind
theorem num_lt {q : Rat} (h1 : -1 < q) (h2 : q < 1) : (q.num.natAbs : Int) < q.den := by
  have a := (Rat.lt_iff q 1).mp h2
  have b := (Rat.lt_iff (-1) q).mp h1
  have a' : q.num * ((1 : Nat) : Int) < 1 * (q.den : Int) := a
  have b' : -1 * (q.den : Int) < q.num * ((1 : Nat) : Int) := b
  omega
theorem Pl.num {q b : Rat} (h : Pl q b) : (q.num.natAbs : Int) < q.den := num_lt h.gt1 h.lt1
theorem RS_1 {n : Nat} (h : 0 < n) : RS n 1 := by
  have : 1 < 2 ^ n := Nat.one_lt_two_pow (by omega)
  exact ⟨by show Sz n 1; unfold Sz; exact this, this⟩
theorem Pl.rs {n : Nat} {q b : Rat} (h : Pl q b) (hq : RS n q) (hn : 0 < n) : RS (3 * n + 1) b := by
  have r := ((RS_1 hn).sub (hq.mul hq)).root h.root
  exact r.mono (by omega)
/-- one less two speeds multiplied is above nought -/
theorem Pl.one_sub {p b q c : Rat} (h : Pl p b) (k : Pl q c) : 0 < 1 - p * q := by
  have h1 := h.lt1; have h2 := h.gt1; have k1 := k.lt1; have k2 := k.gt1
  have a : 0 < (1 - p) * (1 + q) := Rat.mul_pos (by grind) (by grind)
  have b' : 0 < (1 + p) * (1 - q) := Rat.mul_pos (by grind) (by grind)
  grind
theorem Pl.neg {q b : Rat} (h : Pl q b) : Pl (-q) b := ⟨h.pos, by have := h.sq; grind⟩
theorem div_pos' {a b : Rat} (h : 0 < a) (k : 0 < b) : 0 < a / b := by
  rw [Rat.div_def]; exact Rat.mul_pos h (Rat.inv_pos.mpr k)
/-- the one speed from the other -/
theorem Pl.sub {p b q c : Rat} (h : Pl p b) (k : Pl q c) : Pl ((p - q) / (1 - p * q)) (b * c / (1 - p * q)) := by
  have d := h.one_sub k
  have hs := h.sq; have ks := k.sq
  have n0 : 1 - p * q ≠ 0 := by grind
  refine ⟨div_pos' (Rat.mul_pos h.pos k.pos) d, ?_⟩
  grind
/-- the speed of two numbers, and its beat -/
theorem Pl_two {a b : Int} (ha : 0 < a) (hb : 0 < b) : ∃ c, Pl (Rat.divInt (a * a - b * b) (a * a + b * b)) c := by
  have p1 : 0 < a * a := Int.mul_pos ha ha
  have p2 : 0 < b * b := Int.mul_pos hb hb
  have s : (0 : Rat) < ((a * a + b * b : Int) : Rat) := Rat.intCast_pos.mpr (by omega)
  refine ⟨((2 * a * b : Int) : Rat) / ((a * a + b * b : Int) : Rat), div_pos' (Rat.intCast_pos.mpr (Int.mul_pos (Int.mul_pos (by decide) ha) hb)) s, ?_⟩
  rw [Rat.divInt_eq_div]
  have n0 : ((a * a + b * b : Int) : Rat) ≠ 0 := by grind
  have e1 : ((2 * a * b : Int) : Rat) = 2 * (a : Rat) * (b : Rat) := by simp [Rat.intCast_mul]
  have e2 : ((a * a + b * b : Int) : Rat) = (a : Rat) * a + (b : Rat) * b := by simp [Rat.intCast_mul, Rat.intCast_add]
  have e3 : ((a * a - b * b : Int) : Rat) = (a : Rat) * a - (b : Rat) * b := by simp [Rat.intCast_mul, Rat.intCast_sub]
  rw [e2] at n0
  rw [e1, e2, e3]
  grind
end Z
namespace Z
open PySem PySem.Spec PyProof.Rows L2
theorem num_gt0 (q : Rat) : decide (0 < q.num) = decide (0 < q) := by
  have h := lt_eq 0 q
  rw [Rat.zero_num, Rat.zero_den, Int.zero_mul] at h
  rw [← h]
  exact decide_eq_decide.mpr (by omega)
theorem num_lt' (q : Rat) : decide ((q.num.natAbs : Int) < q.den) = decide (-1 < q ∧ q < 1) := by
  have a := Rat.lt_iff q 1
  have b := Rat.lt_iff (-1) q
  have a' : q < 1 ↔ q.num * ((1 : Nat) : Int) < 1 * (q.den : Int) := a
  have b' : -1 < q ↔ -1 * (q.den : Int) < q.num * ((1 : Nat) : Int) := b
  refine decide_eq_decide.mpr ?_
  rw [a', b']
  omega
end Z
namespace Z
open PySem PySem.Spec PyProof.Rows L2
def whlK (c : GT) (b : GS) (n : Nat) : SRes → SRes
  | .nx ρ st => whl c b n ρ st
  | r => r
theorem whl_succ {c : GT} {b : GS} {n : Nat} {ρ : REnv} {st : List SO} : whl c b (n + 1) ρ st = toST ρ (c ρ st) fun t st => if t = true then whlK c b n (b ρ st) else .nx ρ st := by
  unfold whlK
  show toST ρ (c ρ st) (fun t st => if t = true then (match b ρ st with | .nx ρ' st' => whl c b n ρ' st' | r => r) else .nx ρ st) = _
  congr 1
theorem whlK_nx {c : GT} {b : GS} {n : Nat} {ρ : REnv} {st : List SO} : whlK c b n (.nx ρ st) = whl c b n ρ st := rfl
end Z
/-! zip; a def that calls itself; try. -/
namespace Z
open PySem PySem.Spec PyProof.Rows L2

/-! ### zip of two tuples, or of two lists -/
def zipP : List PV → List PV → List PV
  | x :: xs, y :: ys => .tup [x, y] :: zipP xs ys
  | _, _ => []
theorem zipP_len : ∀ xs ys : List PV, (zipP xs ys).length = min xs.length ys.length
  | [], ys => by simp [zipP]
  | x :: xs, [] => by simp [zipP]
  | x :: xs, y :: ys => by simp [zipP, zipP_len xs ys]
theorem zipP_get : ∀ {xs ys : List PV} {i : Nat} {x y : PV}, xs[i]? = some x → ys[i]? = some y → (zipP xs ys)[i]? = some (.tup [x, y])
  | [], _, _, _, _, h, _ => by simp at h
  | _ :: _, [], _, _, _, _, h => by simp at h
  | a :: xs, b :: ys, 0, x, y, h, k => by
    simp at h k
    subst h k
    rfl
  | a :: xs, b :: ys, i + 1, x, y, h, k => by
    simp only [List.getElem?_cons_succ] at h k
    show (zipP xs ys)[i]? = _
    exact zipP_get h k
def gZip (ga gb : G) : GL := fun ρ st => bnd (gArgs [ga, gb] ρ st) fun v st => match v with
  | [.tup xs, .tup ys] => .ok (zipP xs ys) st
  | [.lst xs, .lst ys] => .ok (zipP xs ys) st
  | _ => .bad
theorem itm_zipT {K : PySem.W.Frag} {w : Wd} {a b : Addr} {vs us : List V} {xs ys : List PV} (ha : SqT K w.F a vs) (hb : SqT K w.F b us) (ra : RepL K w xs vs) (rb : RepL K w ys us) : Itm K w (RZ.ItzT K a b) (zipP xs ys) := by
  have la := ra.length
  have lb := rb.length
  have lz := zipP_len xs ys
  have sq : ∀ {w1 : Wd} {H : Hp} {st : List SO} {c : Addr} {vs : List V}, LeF w w1 → WOk K w1 H st → SqT K w.F c vs → SqT K H c vs := fun l ok h => sqt_mono ok.fz (sqt_mono l.F h)
  refine ⟨fun i w1 H st l ok hi => ⟨vs, us, vs[i]'(by omega), us[i]'(by omega), sq l ok ha, sq l ok hb, by simp, by simp⟩, fun i w1 H st v H' l ok hi y => ?_, fun w1 H st l ok => ⟨vs, us, sq l ok ha, sq l ok hb, by omega⟩⟩
  obtain ⟨T, x, y, rfl, hT, rfl, f1, f2⟩ := y
  obtain ⟨v1, e1, r1⟩ := (ra.monoF l).get (i := i) (x := xs[i]'(by omega)) (by simp)
  obtain ⟨v2, e2, r2⟩ := (rb.monoF l).get (i := i) (x := ys[i]'(by omega)) (by simp)
  rw [f1 vs (sq l ok ha)] at e1
  rw [f2 us (sq l ok hb)] at e2
  cases e1
  cases e2
  have le := le_frz ok hT (.tup [x, y])
  exact ⟨w1.frz T (.tup [x, y]), .tup [xs[i]'(by omega), ys[i]'(by omega)], le, ok.frz hT _, zipP_get (by simp) (by simp), T, [x, y], rfl, .inl (.inl upd_same), x, [y], rfl, r1.mono le, y, [], rfl, r2.mono le, rfl⟩
theorem itm_zipL {K : PySem.W.Frag} {w : Wd} {a b : Addr} {vs us : List V} {xs ys : List PV} (ha : SqL K w.F a vs) (hb : SqL K w.F b us) (ra : RepL K w xs vs) (rb : RepL K w ys us) : Itm K w (Itz K a b) (zipP xs ys) := by
  have la := ra.length
  have lb := rb.length
  have lz := zipP_len xs ys
  have sq : ∀ {w1 : Wd} {H : Hp} {st : List SO} {c : Addr} {vs : List V}, LeF w w1 → WOk K w1 H st → SqL K w.F c vs → SqL K H c vs := fun l ok h => sql_mono ok.fz (sql_mono l.F h)
  refine ⟨fun i w1 H st l ok hi => ⟨vs, us, vs[i]'(by omega), us[i]'(by omega), sq l ok ha, sq l ok hb, by simp, by simp⟩, fun i w1 H st v H' l ok hi y => ?_, fun w1 H st l ok => ⟨vs, us, sq l ok ha, sq l ok hb, by omega⟩⟩
  obtain ⟨T, x, y, rfl, hT, rfl, f1, f2⟩ := y
  obtain ⟨v1, e1, r1⟩ := (ra.monoF l).get (i := i) (x := xs[i]'(by omega)) (by simp)
  obtain ⟨v2, e2, r2⟩ := (rb.monoF l).get (i := i) (x := ys[i]'(by omega)) (by simp)
  rw [f1 vs (sq l ok ha)] at e1
  rw [f2 us (sq l ok hb)] at e2
  cases e1
  cases e2
  have le := le_frz ok hT (.tup [x, y])
  exact ⟨w1.frz T (.tup [x, y]), .tup [xs[i]'(by omega), ys[i]'(by omega)], le, ok.frz hT _, zipP_get (by simp) (by simp), T, [x, y], rfl, .inl (.inl upd_same), x, [y], rfl, r1.mono le, y, [], rfl, r2.mono le, rfl⟩
theorem si_zip {X : Cx} {W : WX} {pos p tpos : Pos} {a b : Expr} {ga gb : G} {elts : List Expr} {kk : Nat} (hm : X.mg "zip" = none) (ha : L2.PA X [a, b] (tGA X.K W (gArgs [ga, gb]))) (hg : Gl X "zip" := by rfl)
    (hs : starEach [a, b] X.env = (false, eval a X.env) :: starEach [b] X.env := by rfl) (hpl : (backTo pos (starEach [b] X.env)).any (·.1) = false := by rfl) : PI X (.Tuple elts kk tpos) (.Call (.Name "zip" p) [a, b] [] pos) (tI X.K W (gZip ga gb)) := by
  refine pi_imp (RZ.pi_zipA hg hm ha hs hpl) fun σ H R ⟨w, ρ, st, ok, sl, po⟩ => ⟨w, ρ, st, ok, sl, post_bind (rel2 := fun w xs J => Itm X.K w J xs) po fun v st' w' H' vs l o r q => ?_⟩
  have key : (∃ xs ys, v = [.tup xs, .tup ys]) ∨ ∃ xs ys, v = [.lst xs, .lst ys] := by
    rcases v with _ | ⟨v1, _ | ⟨v2, _ | ⟨v3, v4⟩⟩⟩
    · exact q.elim
    · cases v1 <;> exact q.elim
    · cases v1 with
      | tup i => cases v2 with
        | tup j => exact .inl ⟨i, j, rfl⟩
        | _ => exact q.elim
      | lst i => cases v2 with
        | lst j => exact .inr ⟨i, j, rfl⟩
        | _ => exact q.elim
      | _ => exact q.elim
    · cases v1 with
      | tup i => cases v2 <;> exact q.elim
      | lst i => cases v2 <;> exact q.elim
      | _ => exact q.elim
  rcases key with ⟨xs, ys, rfl⟩ | ⟨xs, ys, rfl⟩
  · obtain ⟨v1, r1, e1, ⟨a, as, rfl, s1, h1⟩, v2, r2, e2, ⟨b, bs, rfl, s2, h2⟩, e3⟩ := r
    have ex : vs = [.ref a, .ref b] := by rw [e1, e2, show r2 = [] from e3]
    exact ⟨a, b, as, bs, ex, .inr ⟨sqt_mono o.fz s1, sqt_mono o.fz s2, q w' H' _ (Le.refl _) o (itm_zipT s1 s2 h1 h2)⟩⟩
  · obtain ⟨v1, r1, e1, ⟨a, as, rfl, s1, h1⟩, v2, r2, e2, ⟨b, bs, rfl, s2, h2⟩, e3⟩ := r
    have ex : vs = [.ref a, .ref b] := by rw [e1, e2, show r2 = [] from e3]
    exact ⟨a, b, as, bs, ex, .inl ⟨sql_mono o.fz s1, sql_mono o.fz s2, q w' H' _ (Le.refl _) o (itm_zipL s1 s2 h1 h2)⟩⟩
/-- what zip is given -/
def zipR (st : List SO) : List PV → Res (List PV)
  | [.tup xs, .tup ys] => .ok (zipP xs ys) st
  | [.lst xs, .lst ys] => .ok (zipP xs ys) st
  | _ => .bad
theorem gZip_eq {ga gb : G} {ρ : REnv} {st : List SO} : gZip ga gb ρ st = bnd (gArgs [ga, gb] ρ st) fun v st => zipR st v := by
  unfold gZip
  congr 1
theorem zipR_t {st : List SO} {xs ys : List PV} : zipR st [.tup xs, .tup ys] = .ok (zipP xs ys) st := rfl
theorem zipR_l {st : List SO} {xs ys : List PV} : zipR st [.lst xs, .lst ys] = .ok (zipP xs ys) st := rfl

/-! ### a def that calls itself: so deep -/
def recF (f : Fn → Fn) : Nat → Fn
  | 0 => fun _ _ => .bad
  | n + 1 => f (recF f n)
section
variable {P : Program} {w : World} {K : PySem.W.Frag} {mg : Str → Option Value} {base : Heap}
theorem def_none {x : Str} {params : Arguments} {body : List Stmt} {scope : Scope} {fd : FuncData} {f : Addr} {N ps : List Str} {k n : Nat} (FD : FunD K x x params body scope [] [] f fd) (S : FnScope N ps scope) (hps : ps.length = n) (hm : mg x = some (.ref f))
    (hb : Binds K fd ps []) : Def P w K mg base x n (k + 1) (fun _ _ => .bad) :=
  def_of (g := fun _ _ => .bad) FD S hps hm hb (fun cdv A outer s H E hr => ⟨fun pins s' σ H' D I ⟨w, ρ, st, ok, sl, po⟩ => po.elim⟩) fun _ _ _ => .inl rfl
theorem def_rec {x : Str} {n k : Nat} {f : Fn → Fn} (h0 : Def P w K mg base x n k (fun _ _ => .bad)) (hs : ∀ j F, Def P w K mg base x n (j + k) F → Def P w K mg base x n (j + k + 1) (f F)) : ∀ m, Def P w K mg base x n (m + k) (recF f m)
  | 0 => by rw [Nat.zero_add]; exact h0
  | m + 1 => by rw [Nat.add_right_comm]; exact hs m _ (def_rec h0 hs m)
end

/-! ### try: body, except the program's own errors: the word for the kind -/
def kinds : List (Str × Str) := [("NoDeed", "deed"), ("NoFlash", "flash"), ("NoFraction", "fraction"), ("NoHap", "hap"), ("NoHaps", "haps"), ("NoName", "name"), ("NoNumber", "number"), ("NoOrder", "order"), ("NoRod", "rod"), ("NoRow", "row"), ("NoSeat", "seat"), ("NoSpeed", "speed"), ("NoStep", "step"), ("NoStretch", "stretch"), ("NoText", "text"), ("NotPlain", "plain"), ("NoWay", "way"), ("TooMany", "many")]
def kdOf (c : Str) : Option Str := kinds.lookup c
def tryK : SRes → SRes
  | .exc c ρ st => (match kdOf c with
    | some s => .ret (.str s) st
    | none => .bad)
  | r => r
def gTry (g : GS) : GS := fun ρ st => tryK (g ρ st)
theorem gTry_eq {g : GS} {ρ : REnv} {st : List SO} : gTry g ρ st = tryK (g ρ st) := rfl
theorem tryK_nx {ρ : REnv} {st : List SO} : tryK (.nx ρ st) = .nx ρ st := rfl
theorem tryK_ret {v : PV} {st : List SO} : tryK (.ret v st) = .ret v st := rfl
theorem tryK_exc {c s : Str} {ρ : REnv} {st : List SO} (h : kdOf c = some s) : tryK (.exc c ρ st) = .ret (.str s) st := by
  show (match kdOf c with
    | some s => SRes.ret (.str s) st
    | none => .bad) = _
  rw [h]

theorem kk_tuple_tuple : kitK "tuple" (some "tuple") = some (.bl true) := rfl
theorem kk_list_list : kitK "list" (some "list") = some (.bl true) := rfl
theorem kk_str_str : kitK "str" (some "str") = some (.bl true) := rfl
/-! ### values that are compared with themselves -/
def Sm : Nat → PV → Prop
  | 0, _ => False
  | n + 1, .tup xs => xs.length ≤ 900 ∧ ∀ x ∈ xs, Sm n x
  | n + 1, .lst xs => xs.length ≤ 900 ∧ ∀ x ∈ xs, Sm n x
  | _ + 1, .non => True
  | _ + 1, .bl _ => True
  | _ + 1, .int _ => True
  | _ + 1, .str s => StO s
  | _ + 1, _ => False
theorem Sm_up : ∀ {n : Nat} {x : PV}, Sm n x → Sm (n + 1) x
  | 0, _, h => h.elim
  | n + 1, .tup xs, h => ⟨h.1, fun x hx => Sm_up (h.2 x hx)⟩
  | n + 1, .lst xs, h => ⟨h.1, fun x hx => Sm_up (h.2 x hx)⟩
  | n + 1, .non, _ => trivial
  | n + 1, .bl _, _ => trivial
  | n + 1, .int _, _ => trivial
  | n + 1, .str s, h => h
  | n + 1, .dct _, h => h.elim
  | n + 1, .exc _, h => h.elim
  | n + 1, .ref _, h => h.elim
  | n + 1, .ty _, h => h.elim
  | n + 1, .cls _, h => h.elim
theorem Sm_le {n m : Nat} {x : PV} (h : Sm n x) (l : n ≤ m) : Sm m x := by
  induction l with
  | refl => exact h
  | step _ ih => exact Sm_up ih
theorem Sm_tup {n : Nat} {xs : List PV} (l : xs.length ≤ 900) (h : ∀ x ∈ xs, Sm n x) : Sm (n + 1) (.tup xs) := ⟨l, h⟩
theorem Sm_lst {n : Nat} {xs : List PV} (l : xs.length ≤ 900) (h : ∀ x ∈ xs, Sm n x) : Sm (n + 1) (.lst xs) := ⟨l, h⟩
theorem Sm_fr (q : Rat) : Sm 2 (fr q) := by
  refine Sm_tup (by simp) fun x hx => ?_
  simp at hx
  rcases hx with rfl | rfl <;> exact trivial
theorem Sm_hp (t x : Rat) : Sm 3 (hp t x) := by
  refine Sm_tup (by simp) fun y hy => ?_
  simp at hy
  rcases hy with rfl | rfl <;> exact Sm_fr _
theorem Sm_st (q t x : Rat) : Sm 4 (.tup [fr q, hp t x]) := by
  refine Sm_tup (by simp) fun y hy => ?_
  simp at hy
  rcases hy with rfl | rfl
  · exact Sm_up (Sm_fr _)
  · exact Sm_hp _ _
theorem zipP_self : ∀ {xs : List PV} {z : PV}, z ∈ zipP xs xs → ∃ x ∈ xs, z = .tup [x, x]
  | [], _, h => by cases h
  | x :: xs, z, h => by
    rcases List.mem_cons.mp h with rfl | h
    · exact ⟨x, by simp, rfl⟩
    · obtain ⟨y, hy, e⟩ := zipP_self h
      exact ⟨y, by simp [hy], e⟩
end Z
/-! A list made in an expression is left as it is; a list so often. -/
namespace Z
open PySem PySem.Spec PyProof.Rows L2
open Classical in
/-- what an expression made itself is frozen -/
noncomputable def leaveE (st : List SO) (r : Res PV) : Res PV := match r with
  | .ok v st' => (match frzV st' st.length 9 v with
    | some v' => if OldOk st st' then .ok v' (st'.take st.length) else .bad
    | none => .bad)
  | .exc c st' => if OldOk st st' then .exc c (st'.take st.length) else .bad
  | .bad => .bad
noncomputable def gFz (g : G) : G := fun ρ st => leaveE st (g ρ st)
theorem gFz_eq {g : G} {ρ : REnv} {st : List SO} : gFz g ρ st = leaveE st (g ρ st) := rfl
theorem leaveE_ok {st st' : List SO} {v v' : PV} (h : OldOk st st') (hv : frzV st' st.length 9 v = some v') : leaveE st (.ok v st') = .ok v' (st'.take st.length) := by
  unfold leaveE
  simp only [hv, if_pos h]
open Classical in
theorem se_fz {X : Cx} {W : WX} {e : Expr} {g : G} (he : PE X e (tG X.K W g)) : PE X e (tG X.K W (gFz g)) := by
  refine pe_imp he fun σ H Q ⟨w, ρ, st, ok, sl, po⟩ => ⟨w, ρ, st, ok, sl, ?_⟩
  have po : Post X.K W (Rep X.K) w σ (leaveE st (g ρ st)) Q := po
  cases q : g ρ st with
  | ok v st' =>
    rw [q] at po
    have po : Post X.K W (Rep X.K) w σ (match frzV st' st.length 9 v with | some v' => if OldOk st st' then .ok v' (st'.take st.length) else .bad | none => .bad) Q := po
    cases e2 : frzV st' st.length 9 v with
    | none => rw [e2] at po; exact po.elim
    | some v' =>
      rw [e2] at po
      by_cases old : OldOk st st'
      · have po : Post X.K W (Rep X.K) w σ (if OldOk st st' then .ok v' (st'.take st.length) else .bad) Q := po
        rw [if_pos old] at po
        intro w' H' x l o rx
        obtain ⟨ok2, le2⟩ := left_ok ok l o old
        exact po _ H' x le2 ok2 (frz_rep o 9 v v' x e2 rx)
      · have po : Post X.K W (Rep X.K) w σ (if OldOk st st' then .ok v' (st'.take st.length) else .bad) Q := po
        rw [if_neg old] at po; exact po.elim
  | exc c st' =>
    rw [q] at po
    by_cases old : OldOk st st'
    · have po : Post X.K W (Rep X.K) w σ (if OldOk st st' then .exc c (st'.take st.length) else .bad) Q := po
      rw [if_pos old] at po
      intro w' H' l o
      obtain ⟨ok2, le2⟩ := left_ok ok l o old
      exact po _ H' le2 ok2
    · have po : Post X.K W (Rep X.K) w σ (if OldOk st st' then .exc c (st'.take st.length) else .bad) Q := po
      rw [if_neg old] at po; exact po.elim
  | bad => rw [q] at po; exact po.elim
/-! ### a list so often -/
def RepOk (n : Nat) (j : Int) : Prop := -(2 ^ 63) ≤ j ∧ j < 2 ^ 63 ∧ n * j.toNat ≤ sizeLine
theorem repOk1 {n : Nat} {j : Int} (h0 : -5 ≤ j) (h1 : j ≤ 5) (hn : n ≤ 100) : RepOk n j := by
  refine ⟨by omega, by omega, ?_⟩
  have : n * j.toNat ≤ 100 * 5 := Nat.mul_le_mul hn (by omega)
  exact small_line (by omega)
theorem RepL.times {K : PySem.W.Frag} {w : Wd} {xs : List PV} {vs : List V} (r : RepL K w xs vs) : ∀ n : Nat, RepL K w (List.replicate n xs).flatten (List.replicate n vs).flatten
  | 0 => rfl
  | n + 1 => by
    rw [List.replicate_succ, List.replicate_succ, List.flatten_cons, List.flatten_cons]
    exact r.append (RepL.times r n)
open Classical in
noncomputable def repL (st : List SO) : Option SO → PV → Res PV
  | some (.lst xs), .int j => if RepOk xs.length j then .ok (.ref st.length) (st ++ [.lst (List.replicate j.toNat xs).flatten]) else .bad
  | _, _ => .bad
noncomputable def repR (st : List SO) (x y : PV) : Res PV := match x with
  | .ref k => repL st st[k]? y
  | _ => .bad
noncomputable def gRep (ga gb : G) : G := fun ρ st => bnd (ga ρ st) fun x st => bnd (gb ρ st) fun y st => repR st x y
theorem gRep_eq {ga gb : G} {ρ : REnv} {st : List SO} : gRep ga gb ρ st = bnd (ga ρ st) fun x st => bnd (gb ρ st) fun y st => repR st x y := rfl
theorem repR_r {st : List SO} {k : Nat} {y : PV} : repR st (.ref k) y = repL st st[k]? y := rfl
theorem repL_ok {st : List SO} {xs : List PV} {j : Int} (h : RepOk xs.length j) : repL st (some (.lst xs)) (.int j) = .ok (.ref st.length) (st ++ [.lst (List.replicate j.toNat xs).flatten]) := if_pos h
open Classical in
theorem se_rep {X : Cx} {W : WX} {pos : Pos} {a b : Expr} {ga gb : G} (ha : PE X a (tG X.K W ga)) (hb : PE X b (tG X.K W gb)) : PE X (.BinOp a .Mult b pos) (tG X.K W (gRep ga gb)) := by
  refine pe_imp (pe_op op_rep ha hb) fun σ H Q ⟨w, ρ, st, ok, sl, po⟩ => ?_
  refine ⟨w, ρ, st, ok, sl, post_bind (rel2 := Rep X.K) po fun x st1 w1 H1 vx l1 ok1 rx po1 => ?_⟩
  refine ⟨w1, ρ, st1, ok1, sl.mono l1, post_bind (rel2 := Rep X.K) po1 fun y st2 w2 H2 vy l2 ok2 ry po2 => ?_⟩
  have rx := rx.mono l2
  cases x with
  | ref k =>
    have po2 : Post X.K W (Rep X.K) w2 σ (repL st2 st2[k]? y) Q := po2
    obtain ⟨p, e1, q1⟩ := rx
    obtain ⟨c1, o1, h1, h2, h3⟩ := ok2.obj q1
    rw [h1] at po2
    cases c1 with
    | dK _ => exact po2.elim
    | lst xs =>
      cases y with
      | int j =>
        obtain ⟨us, f1, r1⟩ := h3
        subst f1
        have po2 : Post X.K W (Rep X.K) w2 σ (if RepOk xs.length j then .ok (.ref st2.length) (st2 ++ [.lst (List.replicate j.toNat xs).flatten]) else .bad) Q := po2
        by_cases hc : RepOk xs.length j
        · rw [if_pos hc] at po2
          refine ⟨p, j, us, e1, ry, h2, hc.1, hc.2.1, by rw [r1.length]; exact hc.2.2, fun r hr => ?_⟩
          refine po2 (w2.new r) _ _ (le_new w2 r) (ok2.new hr (c := .lst (List.replicate j.toNat xs).flatten) ⟨_, rfl, r1.times _⟩) ⟨r, rfl, ?_⟩
          show (w2.adr ++ [r])[st2.length]? = some r
          rw [← ok2.len]; simp
        · rw [if_neg hc] at po2; exact po2.elim
      | _ => exact po2.elim
  | _ => exact po2.elim
/-! ### sizes, speeds -/
theorem one_rs {n : Nat} {q : Rat} (h : RS n q) : RS n 1 := by
  have : 1 < 2 ^ n := Nat.lt_of_le_of_lt q.den_pos h.2
  exact ⟨by show Sz n 1; unfold Sz; exact this, this⟩
theorem one_sub2 {p q : Rat} (h1 : -1 < p) (h2 : p < 1) (k1 : -1 < q) (k2 : q < 1) : 0 < 1 - p * q := by
  have a : 0 < (1 - p) * (1 + q) := Rat.mul_pos (by grind) (by grind)
  have b' : 0 < (1 + p) * (1 - q) := Rat.mul_pos (by grind) (by grind)
  grind
theorem rs0 {m : Nat} {t : Rat} (ht : RS m t) : RS m 0 := by
  have : 1 < 2 ^ m := Nat.lt_of_le_of_lt t.den_pos ht.2
  exact ⟨by show Sz m 0; unfold Sz; show 0 < 2 ^ m; omega, this⟩
theorem rootQ_sp {q : Rat} (h : (q.num.natAbs : Int) < q.den) : rootQ (1 - q * q) = if isq ((q.den : Int) * q.den - q.num * q.num).toNat * isq ((q.den : Int) * q.den - q.num * q.num).toNat = ((q.den : Int) * q.den - q.num * q.num).toNat then some (Rat.divInt (isq ((q.den : Int) * q.den - q.num * q.num).toNat) q.den) else none := by
  obtain ⟨h1, h2, h3⟩ := sp_num h
  have d : (1 - q * q).den = q.den * q.den := by
    have e : ((q.den * q.den : Nat) : Int) = (q.den : Int) * q.den := Int.natCast_mul _ _
    omega
  unfold rootQ
  have k : isSq (1 - q * q) ↔ isq ((q.den : Int) * q.den - q.num * q.num).toNat * isq ((q.den : Int) * q.den - q.num * q.num).toNat = ((q.den : Int) * q.den - q.num * q.num).toNat := by
    unfold isSq
    rw [h1, d, isq_sq]
    exact ⟨fun z => z.2.1, fun z => ⟨by omega, z, rfl⟩⟩
  by_cases c : isSq (1 - q * q)
  · rw [if_pos c, if_pos (k.mp c), h1, d, isq_sq]
  · rw [if_neg c, if_neg (fun z => c (k.mpr z))]
theorem mpos {d v : Rat} (h : 0 < v) : 0 < d * v ↔ 0 < d := by
  refine ⟨fun p => ?_, fun c => Rat.mul_pos c h⟩
  by_cases c : 0 < d
  · exact c
  · have := Rat.mul_nonneg (a := -d) (b := v) (by grind) (by grind)
    grind
theorem Pl_of {q c : Rat} (h1 : -1 < q) (h2 : q < 1) (h : rootQ (1 - q * q) = some c) : Pl q c := by
  obtain ⟨a, b⟩ := rootQ_some h
  have p := one_sub2 h1 h2 h1 h2
  refine ⟨?_, b⟩
  by_cases z : c = 0
  · subst z; grind
  · grind
/-! ### a def picked out of a list of defs -/
def callI (Fs : List Fn) : PV → Option Fn
  | .int j => if 0 ≤ j then Fs[j.toNat]? else none
  | _ => none
def callK (o : Option Fn) (r : Res (List PV)) : Res PV := match o with
  | some F => bnd r F
  | none => .bad
def gCallI (Fs : List Fn) (gi : G) (gs : List G) : G := fun ρ st => bnd (gi ρ st) fun v st1 => callK (callI Fs v) (gArgs gs ρ st1)
theorem gCallI_eq {Fs : List Fn} {gi : G} {gs : List G} {ρ : REnv} {st : List SO} : gCallI Fs gi gs ρ st = bnd (gi ρ st) fun v st1 => callK (callI Fs v) (gArgs gs ρ st1) := rfl
theorem callK_some {F : Fn} {r : Res (List PV)} : callK (some F) r = bnd r F := rfl
theorem callI0 {F : Fn} {l : List Fn} : callI (F :: l) (.int 0) = some F := rfl
theorem callI1 {a F : Fn} {l : List Fn} : callI (a :: F :: l) (.int 1) = some F := rfl
theorem callI2 {a b F : Fn} {l : List Fn} : callI (a :: b :: F :: l) (.int 2) = some F := rfl
theorem callI3 {a b c F : Fn} {l : List Fn} : callI (a :: b :: c :: F :: l) (.int 3) = some F := rfl
/-! ### lists that are compared -/
theorem eqD_self {st : List SO} {x : PV} {d : PyData} (h : toD (de st x) = some d) (hs : SeqAt.shaped d = true) : eqD st x x = some true := by
  unfold eqD
  simp only [h, hs, and_self, if_true]
  rw [SeqAt.eqv_refl d (SeqAt.canLay_of_shaped hs)]
theorem neV_self {st : List SO} {x : PV} {d : PyData} (h : toD (de st x) = some d) (hs : SeqAt.shaped d = true) : neV st x x = some (.bl false) := by
  unfold neV
  rw [eqD_self h hs]
  rfl
theorem frz_str {st : List SO} {n d : Nat} {s : Str} : frzV st n (d + 1) (.str s) = some (.str s) := rfl
theorem mapO_strs {st : List SO} {n d : Nat} {s : Str} : ∀ k : Nat, mapO (frzV st n (d + 1)) (List.replicate k (.str s)) = some (List.replicate k (.str s))
  | 0 => rfl
  | k + 1 => by
    rw [List.replicate_succ]
    unfold mapO
    rw [frz_str]
    simp only [mapO_strs k]
theorem frz_at {st : List SO} {k n : Nat} {xs ys : List PV} (hk : n ≤ k) (h : st[k]? = some (.lst xs)) (e : mapO (frzV st n 8) xs = some ys) : frzV st n 9 (.ref k) = some (.lst ys) := by
  have z : frzV st n 9 (.ref k) = if k < n then some (PV.ref k) else (match st[k]? with
    | some (.lst xs) => (mapO (frzV st n 8) xs).map .lst
    | some (.dK kvs) => (mapO (fun p : Key × PV => (frzV st n 8 p.2).map fun v => (p.1, v)) kvs).map .dct
    | none => none) := rfl
  rw [z, if_neg (by omega), h]
  show (mapO (frzV st n 8) xs).map PV.lst = _
  rw [e]
  rfl
/-- ['word'] * n, compared -/
theorem fz_rep {ρ : REnv} {st : List SO} {s : Str} {n : Nat} (hn : n ≤ 100) : gFz (gRep (gNewE [gC (.str s)]) (gC (.int n))) ρ st = .ok (.lst (List.replicate n (.str s))) st := by
  have ro : RepOk ([PV.str s] : List PV).length (n : Int) := by
    refine ⟨by omega, by omega, ?_⟩
    have : ([PV.str s] : List PV).length * ((n : Int)).toNat = n := by simp
    rw [this]
    exact small_line (by omega)
  have fl : ∀ k : Nat, (List.replicate k [PV.str s]).flatten = List.replicate k (PV.str s) := fun k => by
    induction k with
    | zero => rfl
    | succ k ih => rw [List.replicate_succ, List.flatten_cons, ih, List.replicate_succ]; rfl
  have e : gRep (gNewE [gC (.str s)]) (gC (.int n)) ρ st = .ok (.ref (st.length + 1)) (st ++ [.lst [.str s], .lst (List.replicate n (.str s))]) := by
    show repL (st ++ [SO.lst [PV.str s]]) (st ++ [SO.lst [PV.str s]])[st.length]? (.int n) = _
    rw [List.getElem?_append_right (Nat.le_refl _), Nat.sub_self]
    show repL (st ++ [SO.lst [PV.str s]]) (some (.lst [PV.str s])) (.int n) = _
    rw [repL_ok ro, Int.toNat_natCast, fl]
    simp
  rw [gFz_eq, e]
  have g : (st ++ [SO.lst [PV.str s], .lst (List.replicate n (PV.str s))])[st.length + 1]? = some (.lst (List.replicate n (.str s))) := by
    rw [List.getElem?_append_right (by omega)]
    simp
  rw [leaveE_ok (OldOk.refl st).app (frz_at (by omega) g (mapO_strs n)), List.take_left]
theorem map_const (f : PV → PV) (c : PV) : ∀ xs : List PV, (∀ x ∈ xs, f x = c) → xs.map f = List.replicate xs.length c
  | [], _ => rfl
  | x :: xs, h => by rw [List.map_cons, h x (by simp), map_const f c xs fun y hy => h y (by simp [hy])]; rfl
/-- a comprehension that tells the same for all -/
theorem comp_same {it : GL} {t : PV → REnv → Option REnv} {e : G} {vs : List Nat} {ρ : REnv} {st : List SO} {xs : List PV} {c : PV} (h1 : it ρ st = .ok xs st) (hl : xs.length ≤ 900) (h : ∀ x ∈ xs, ∃ ρ1, t x (wipeR ρ vs) = some ρ1 ∧ e ρ1 st = .ok c st) :
    gComp it t gYes e vs ρ st = .ok (.lst (List.replicate xs.length c)) st := by
  have m := comp_map (t := t) (e := e) (ρ := wipeR ρ vs) (st := st) (fun _ => c) xs h
  rw [map_const _ c xs fun _ _ => rfl] at m
  exact gComp_ok h1 m (lenOk_small (by rw [List.length_replicate]; omega))
/-! ### a part of a tuple or list, by numbers written there -/
def cutP (xs : List PV) (lo hi : Option Int) : List PV := (xs.drop (HT.sIx xs.length 0 lo)).take (HT.sIx xs.length xs.length hi - HT.sIx xs.length 0 lo)
def slR (lo hi : Option Int) (st : List SO) : PV → Res PV
  | .tup xs => if HT.sIx xs.length 0 lo = 0 ∧ HT.sIx xs.length xs.length hi = xs.length then .bad else .ok (.tup (cutP xs lo hi)) st
  | .lst xs => .ok (.lst (cutP xs lo hi)) st
  | _ => .bad
def gSl (g : G) (lo hi : Option Int) : G := fun ρ st => bnd (g ρ st) fun v st => slR lo hi st v
theorem gSl_eq {g : G} {lo hi : Option Int} {ρ : REnv} {st : List SO} : gSl g lo hi ρ st = bnd (g ρ st) fun v st => slR lo hi st v := rfl
theorem slR_t {xs : List PV} {lo hi : Option Int} {st : List SO} (h : ¬ (HT.sIx xs.length 0 lo = 0 ∧ HT.sIx xs.length xs.length hi = xs.length)) : slR lo hi st (.tup xs) = .ok (.tup (cutP xs lo hi)) st := if_neg h
def tOI : Option Int → TO
  | none => tNoPart
  | some i => tPart (tC (.int i))
theorem po_nil {X : Cx} : PO X none (tOI none) := po_none
theorem po_one {X : Cx} {i : Int} {j : Nat} {pos : Pos} : PO X (some (.Constant (.int i) j pos)) (tOI (some i)) := po_some pe_int
theorem se_sl {X : Cx} {W : WX} {pos p2 : Pos} {e : Expr} {elo ehi : Option Expr} {lo hi : Option Int} {g : G} (he : PE X e (tG X.K W g)) (hl : PO X elo (tOI lo)) (hh : PO X ehi (tOI hi)) : PE X (.Subscript e (.Slice elo ehi none p2) pos) (tG X.K W (gSl g lo hi)) := by
  refine pe_imp (pe_slice (SlR.or sl_tup sl_list) he hl hh) fun σ H Q ⟨w, ρ, st, ok, sl, po⟩ => ⟨w, ρ, st, ok, sl, post_bind (rel2 := Rep X.K) po fun v st1 w1 H1 vx l1 ok1 rx po1 => ?_⟩
  have pick : ∀ {o : Option Int} {H : Hp} {Q : Option Int → Hp → Prop}, Q o H → tOI o σ H Q := fun {o H Q} q => by
    cases o with
    | none => exact q
    | some i => exact ⟨i, rfl, q⟩
  refine pick (pick ?_)
  cases v with
  | tup xs =>
    obtain ⟨a, vs, ev, sq, rs⟩ := rx
    have len := rs.length
    have po1 : Post X.K W (Rep X.K) w1 σ (if HT.sIx xs.length 0 lo = 0 ∧ HT.sIx xs.length xs.length hi = xs.length then .bad else .ok (.tup (cutP xs lo hi)) st1) Q := po1
    by_cases hc : HT.sIx xs.length 0 lo = 0 ∧ HT.sIx xs.length xs.length hi = xs.length
    · rw [if_pos hc] at po1; exact po1.elim
    · rw [if_neg hc] at po1
      refine .inl ⟨a, vs, ev, sqt_mono ok1.fz sq, by rw [len]; exact hc, fun p hp => ?_⟩
      refine po1 (w1.frz p (.tup (cutV vs lo hi))) _ _ (le_frz ok1 hp _) (ok1.frz hp _) ⟨p, _, rfl, .inl (.inl upd_same), ?_⟩
      unfold cutV cutP
      rw [len]
      exact ((rs.drop _).take _).mono (le_frz ok1 hp _)
  | lst xs =>
    obtain ⟨a, vs, ev, sq, rs⟩ := rx
    have len := rs.length
    refine .inr ⟨a, vs, ev, sql_mono ok1.fz sq, fun p hp => ?_⟩
    refine po1 (w1.frz p (.lst (cutV vs lo hi))) _ _ (le_frz ok1 hp _) (ok1.frz hp _) ⟨p, _, rfl, .inl (.inl upd_same), ?_⟩
    unfold cutV cutP
    rw [len]
    exact ((rs.drop _).take _).mono (le_frz ok1 hp _)
  | _ => exact po1.elim
/-! ### x is not True, x is not False -/
def isNotBV : F2 := fun _ x y => match x, y with
  | .bl a, .bl b => some (.bl (!decide (a = b)))
  | _, _ => none
theorem isNotBV_b {st : List SO} {a b : Bool} : isNotBV st (.bl a) (.bl b) = some (.bl (!decide (a = b))) := rfl
theorem divInt_lt1 {t b : Int} (hb : 0 < b) (h : (t.natAbs : Int) < b) : -1 < Rat.divInt t b ∧ Rat.divInt t b < 1 := by
  have bp : (0 : Rat) < ((b : Int) : Rat) := Rat.intCast_pos.mpr hb
  constructor
  · rw [Rat.divInt_eq_div, Rat.lt_div_iff bp]
    have : ((-b : Int) : Rat) < ((t : Int) : Rat) := Rat.intCast_lt_intCast.mpr (by omega)
    have e : ((-b : Int) : Rat) = -1 * ((b : Int) : Rat) := by rw [Rat.intCast_neg]; grind
    rw [← e]; exact this
  · rw [Rat.divInt_eq_div, Rat.div_lt_iff bp, Rat.one_mul]
    exact Rat.intCast_lt_intCast.mpr (by omega)
/-! ### t[::-1] of a tuple -/
def gRevT (g : G) : G := fun ρ st => bnd (g ρ st) fun v st => match v with
  | .tup xs => .ok (.tup xs.reverse) st
  | _ => .bad
def revR (st : List SO) : PV → Res PV
  | .tup xs => .ok (.tup xs.reverse) st
  | _ => .bad
theorem gRevT_eq {g : G} {ρ : REnv} {st : List SO} : gRevT g ρ st = bnd (g ρ st) fun v st => revR st v := rfl
theorem revR_t {st : List SO} {xs : List PV} : revR st (.tup xs) = .ok (.tup xs.reverse) st := rfl
/-! ### speeds put together -/
theorem join_lt {p q : Rat} (h1 : -1 < p) (h2 : p < 1) (k1 : -1 < q) (k2 : q < 1) : 0 < 1 + p * q ∧ -1 < (p + q) / (1 + p * q) ∧ (p + q) / (1 + p * q) < 1 := by
  have d := one_sub2 h1 h2 (q := -q) (by grind) (by grind)
  have d' : 0 < 1 + p * q := by grind
  have a : 0 < (1 - p) * (1 - q) := Rat.mul_pos (by grind) (by grind)
  have b : 0 < (1 + p) * (1 + q) := Rat.mul_pos (by grind) (by grind)
  refine ⟨d', ?_, ?_⟩
  · rw [Rat.lt_div_iff d']; grind
  · rw [Rat.div_lt_iff d']; grind
theorem join_off {p q : Rat} (h1 : -1 < p) (h2 : p < 1) (k1 : -1 < q) (k2 : q < 1) : ((p + q) / (1 + p * q) - q) / (1 - (p + q) / (1 + p * q) * q) = p := by
  obtain ⟨d, j1, j2⟩ := join_lt h1 h2 k1 k2
  have y : (p + q) / (1 + p * q) * (1 + p * q) = p + q := by grind
  generalize (p + q) / (1 + p * q) = j at *
  have e := one_sub2 j1 j2 k1 k2
  have n : 1 - j * q ≠ 0 := by grind
  have k : j - q = p * (1 - j * q) := by
    have z : (j - q - p * (1 - j * q)) = 0 := by grind
    grind
  rw [k]
  grind
theorem join_rs {n m : Nat} {p q : Rat} (hp : RS n p) (hq : RS m q) (h0 : 1 + p * q ≠ 0) : RS (n + m + 1) ((p + q) / (1 + p * q)) := by
  have bn : ((p.den : Int) : Rat) ≠ 0 := by have := Rat.intCast_pos.mpr (dpos p); grind
  have dn : ((q.den : Int) : Rat) ≠ 0 := by have := Rat.intCast_pos.mpr (dpos q); grind
  have e1 : p * ((p.den : Int) : Rat) = (p.num : Rat) := by
    have e : p = (p.num : Rat) / ((p.den : Int) : Rat) := by rw [← Rat.divInt_eq_div, Rat.num_divInt_den]
    rw [Rat.div_def] at e
    grind
  have e2 : q * ((q.den : Int) : Rat) = (q.num : Rat) := by
    have e : q = (q.num : Rat) / ((q.den : Int) : Rat) := by rw [← Rat.divInt_eq_div, Rat.num_divInt_den]
    rw [Rat.div_def] at e
    grind
  have e3 : (((p.num * q.den + q.num * p.den : Int)) : Rat) = (p + q) * (((p.den : Int) : Rat) * ((q.den : Int) : Rat)) := by
    rw [Rat.intCast_add, Rat.intCast_mul, Rat.intCast_mul, ← e1, ← e2]; grind
  have e4 : (((p.den * q.den + p.num * q.num : Int)) : Rat) = (1 + p * q) * (((p.den : Int) : Rat) * ((q.den : Int) : Rat)) := by
    rw [Rat.intCast_add, Rat.intCast_mul, Rat.intCast_mul, ← e1, ← e2]; grind
  have n0 : (p.den * q.den + p.num * q.num : Int) ≠ 0 := fun z => by
    have z' : (((p.den * q.den + p.num * q.num : Int)) : Rat) = 0 := by rw [z]; rfl
    rw [e4] at z'
    rcases Rat.mul_eq_zero.mp z' with y | y
    · exact h0 y
    · rcases Rat.mul_eq_zero.mp y with y | y
      · exact bn y
      · exact dn y
  have e : (p + q) / (1 + p * q) = Rat.divInt (p.num * q.den + q.num * p.den) (p.den * q.den + p.num * q.num) := by
    rw [Rat.divInt_eq_div, e3, e4]
    have b : ((p.den : Int) : Rat) * ((q.den : Int) : Rat) ≠ 0 := fun z => by
      rcases Rat.mul_eq_zero.mp z with y | y
      · exact bn y
      · exact dn y
    generalize ((p.den : Int) : Rat) * ((q.den : Int) : Rat) = B at *
    clear e1 e2 e3 e4 n0
    grind
  rw [e]
  have s2 : Sz (n + m) (q.num * p.den) := by rw [Nat.add_comm]; exact hq.1.mul hp.den
  exact RS.divInt ((hp.1.mul hq.den).addm s2) ((hp.den.mul hq.den).addm (hp.1.mul hq.1)) n0
/-- a speed so often -/
def jn (q : Rat) : Nat → Rat
  | 0 => 0
  | k + 1 => (jn q k + q) / (1 + jn q k * q)
theorem jn_ok {m : Nat} {q : Rat} (h1 : -1 < q) (h2 : q < 1) (hq : RS m q) : ∀ k : Nat, -1 < jn q k ∧ jn q k < 1 ∧ RS (1 + k * (m + 1)) (jn q k)
  | 0 => ⟨by show (-1 : Rat) < 0; grind, by show (0 : Rat) < 1; grind, rs0 (RS_1 (n := 1 + 0 * (m + 1)) (by omega))⟩
  | k + 1 => by
    obtain ⟨a, b, c⟩ := jn_ok h1 h2 hq k
    obtain ⟨d, e, f⟩ := join_lt a b h1 h2
    exact ⟨e, f, (join_rs c hq (by grind)).mono (by rw [Nat.add_mul]; omega)⟩
/-- a loop, turn by turn -/
theorem forg_idx {t : PV → REnv → Option REnv} {b : GS} : ∀ (xs : List PV) (I : Nat → REnv → List SO → Prop) (ρ : REnv) (st : List SO), I 0 ρ st →
    (∀ (i : Nat) (x : PV) ρ st, xs[i]? = some x → I i ρ st → ∃ ρ1 ρ2 st2, t x ρ = some ρ1 ∧ b ρ1 st = .nx ρ2 st2 ∧ I (i + 1) ρ2 st2) → ∃ ρ' st', forg t b xs ρ st = .nx ρ' st' ∧ I xs.length ρ' st'
  | [], I, ρ, st, h, _ => ⟨ρ, st, rfl, h⟩
  | x :: xs, I, ρ, st, h, hs => by
    obtain ⟨ρ1, ρ2, st2, e1, e2, h2⟩ := hs 0 x ρ st rfl h
    obtain ⟨ρ', st', e3, h3⟩ := forg_idx xs (fun i => I (i + 1)) ρ2 st2 h2 fun i y ρ st hy => hs (i + 1) y ρ st (by simpa using hy)
    refine ⟨ρ', st', ?_, h3⟩
    show (match t x ρ with | some ρ1 => (match b ρ1 st with | .nx ρ2 st2 => forg t b xs ρ2 st2 | r => r) | none => .bad) = _
    rw [e1]
    show (match b ρ1 st with | .nx ρ2 st2 => forg t b xs ρ2 st2 | r => r) = _
    rw [e2]
    exact e3
end Z
/-! The refusal that is handled: its kind; try. -/
namespace Z
open PySem PySem.Spec PyProof.Rows L2
/-! ### what the classes say -/
def kindNames : List Str := kinds.map Prod.fst
def excCB (K : PySem.W.Frag) (D : Addr) : Bool :=
  He.eqO (PySem.W.findIn K (.ref D) "__getattribute__") (some (some (.builtin "BaseException.__getattribute__"))) && (He.eqO (PySem.W.findIn K (.ref D) "__getattr__") (some none) && (decide (PySem.W.subIn K (.ref D) (.type "BaseException") = some true) &&
    (PySem.W.hasDictIn K D && (He.eqO (PySem.W.findIn K (.ref D) "__class__") (some (some (.builtin "object.__class__"))) && (decide (PySem.W.mroIn K D (.type "object") = some true) && (decide (PySem.W.exmOne K (.ref D) (.ref (He.ga K "MotionError")) = some true) && decide (PySem.W.kitOne K (.ref D) (.type "ValueError") = some true)))))))
def kindB (K : PySem.W.Frag) : Bool := He.eqO (PySem.W.specialIn K (.builtin "object.__class__") "__get__") (some (some (.builtin "getset_descriptor.__get__"))) && (decide (PySem.W.takesIn K (.builtin "object.__class__") = some true) &&
  (kindNames.all (fun d => excCB K (He.ga K d)) && kindNames.all fun d => kindNames.all fun c => decide (PySem.W.kitOne K (.ref (He.ga K d)) (.ref (He.ga K c)) = some (decide (c = d)))))
structure KindF (K : PySem.W.Frag) (d : Str) : Prop where
  exc : ExcC K (He.ga K d)
  exm : PySem.W.exmOne K (.ref (He.ga K d)) (.ref (He.ga K "MotionError")) = some true
  val : PySem.W.kitOne K (.ref (He.ga K d)) (.type "ValueError") = some true
  kit : ∀ c ∈ kindNames, PySem.W.kitOne K (.ref (He.ga K d)) (.ref (He.ga K c)) = some (decide (c = d))
theorem kindF_of {K : PySem.W.Frag} (h : kindB K = true) {d : Str} (hd : d ∈ kindNames) : KindF K d := by
  unfold kindB at h
  simp only [Bool.and_eq_true, List.all_eq_true, decide_eq_true_eq] at h
  obtain ⟨h1, h2, h3, h4⟩ := h
  have e := h3 d hd
  unfold excCB at e
  simp only [Bool.and_eq_true, decide_eq_true_eq] at e
  obtain ⟨e1, e2, e3, e4, e5, e6, e7, e8⟩ := e
  exact ⟨⟨He.eqO_ok e1, He.eqO_ok e2, e3, e4, He.eqO_ok e5, He.eqO_ok h1, h2, e6⟩, e7, e8, fun c hc => h4 d hd c hc⟩
theorem kind_mem {d s : Str} (h : kdOf d = some s) : d ∈ kindNames := by
  unfold kdOf at h
  exact List.mem_map.mpr ⟨(d, s), PySem.mem_of_lookup h, rfl⟩

/-! ### isinstance of the one that is handled -/
section
variable {X : Cx}
theorem call_isX {p : Addr × Obj} {D : Addr} (C : ExcC X.K D) (hp : p ∈ X.pn) (hz : Zc (.ref D) none p.2) (hf : ∃ fs, p.2.data = .fields fs) : CallR X (.builtin "isinstance") (rIsE X.K D p.1) := by
  intro pins sh sg Hh ys ws Q I rel ⟨c, cv, b, ey, look, kit, q⟩
  subst ey
  obtain ⟨w1, rel1, ews⟩ : ∃ w1, RelV c w1 ∧ ws = [Value.ref p.1, w1] := by
    cases rel with
    | cons ra rb => cases rb with
      | cons rc rd => cases rd; cases ra; exact ⟨_, rc, rfl⟩
  subst ews
  cases look w1 rel1
  obtain ⟨there, -⟩ := I.pin p (List.mem_append_left _ hp)
  have at1 : PySem.W.InstAt sh.heap p.1 p.2 D none := by
    obtain ⟨a, oc, od, oda, osl⟩ := p
    obtain ⟨fs, z0⟩ := hf
    obtain ⟨z1, z2⟩ := hz
    dsimp only at z0 z1 z2 there
    subst z0 z1 z2
    exact ⟨there, rfl, rfl, trivial⟩
  refine PySem.W.kia_one (PySem.W.handS_kitx_exc C.hg C.hk C.hs C.hd C.ha C.hn C.ht C.hm) I.kIn at1 kit (fun z => nomatch z) fun tk => ?_
  exact ⟨.bl b, Hh, I.kept (t' := tk) fun _ _ z => z, rfl, q⟩
end
/-- the exception at a, of the class d: whether it is one of a class -/
def isE (a : Addr) (d : Str) : FL := fun _ xs => match xs with
  | [.exc b, .cls c] => if b = a ∧ c ∈ kindNames then some (.bl (decide (c = d))) else none
  | [.exc b, .ty n] => if b = a ∧ n = "ValueError" then some (.bl true) else none
  | _ => none
theorem s_isE {K : PySem.W.Frag} {a : Addr} {d : Str} (k : KindF K d) : SndL K (isE a d) (rIsE K (He.ga K d) a) := by
  intro w H st xs z vs Q ok rs e q
  rcases xs with _ | ⟨x, _ | ⟨y, _ | ⟨u, us⟩⟩⟩
  · cases e
  · cases x <;> cases e
  · obtain ⟨v1, r1, e1, h1, v2, r2, e2, h2, e3⟩ := rs
    have e3 : r2 = [] := e3
    subst e3
    cases x with
    | exc b =>
      have h1 : v1 = .ref b := h1
      cases y with
      | cls c =>
        have h2 : v2 = .ref (He.ga K c) := h2
        have e : (if b = a ∧ c ∈ kindNames then some (PV.bl (decide (c = d))) else none) = some z := e
        by_cases hc : b = a ∧ c ∈ kindNames
        · rw [if_pos hc] at e
          cases e
          exact ⟨v2, .ref (He.ga K c), decide (c = d), by rw [e1, e2, h1, hc.1], fun u r => by rw [h2] at r; exact r, k.kit c hc.2, q w H _ (Le.refl _) ok rfl⟩
        · rw [if_neg hc] at e; cases e
      | ty n =>
        have h2 : v2 = .ty n := h2
        have e : (if b = a ∧ n = "ValueError" then some (PV.bl true) else none) = some z := e
        by_cases hc : b = a ∧ n = "ValueError"
        · rw [if_pos hc] at e
          cases e
          exact ⟨v2, .type "ValueError", true, by rw [e1, e2, h1, hc.1], fun u r => by rw [h2, hc.2] at r; exact r, k.val, q w H _ (Le.refl _) ok rfl⟩
        · rw [if_neg hc] at e; cases e
      | _ => cases e
    | _ => cases e
  · cases x <;> cases y <;> cases e
/-! ### how often, where: truths in a list -/
section
variable {X : Cx}
def rCntB (K : PySem.W.Frag) : V → List V → Hp → VK → Prop := fun x xs H Q => ∃ (p : Addr) (bs : List Bool) (b : Bool), x = .ref p ∧ xs = [.bl b] ∧ SqL K H p (bs.map V.bl) ∧ Q (.int (bs.count b : Nat)) H
theorem flat_bls (bs : List Bool) : (bs.map V.bl).all flatV = true := by simp [flatV]
theorem cntB {b : Bool} : ∀ {bs : List Bool} {us : List Value}, Vals (bs.map V.bl) us → us.countP (eqU (.bl b)) = bs.count b
  | [], _, r => by cases r; rfl
  | c :: bs, _, r => by
    cases r with
    | cons ra rb =>
      cases ra
      rw [List.countP_cons, List.count_cons, cntB rb]
      rfl
theorem mt_countB : MtR X "list.count" (rCntB X.K) := by
  intro pins sh sg Hh x xs v ws Q I rx rl ⟨p, bs, b, e1, e2, sq, q⟩
  subst e1 e2
  cases rx
  obtain ⟨its, rv, ⟨⟨oc, od, odata, osl⟩, n, there, z1, z2, z3⟩, -⟩ := I.list sq
  simp only at z1 z3
  subst z1 z3
  have fin : Q (.int (its.toArray.toList.countP (eqU (.bl b)) : Nat)) Hh := by rw [cntB rv]; exact q
  cases rl with
  | cons ry rt =>
    cases rt
    refine call_meets PySem.F.slot_list_count ⟨_, there, rfl⟩ PySem.F.entry_list_count (PySem.F.args_list_count_2 _ _) (SeqAt.list_countAt p its.toArray n od osl _ (eqU (.bl b))) ?_
    exact ⟨there, fun u hu => mem_eqAt ry rfl rv (flat_bls bs) u (by simpa using hu), .int (its.toArray.toList.countP (eqU (.bl b)) : Nat), Hh, I.tok _, ⟨_, rfl⟩, fin⟩
end
/-- x.count(b), x.index(b) of a changeable list of truths -/
def bsK (st : List SO) (k : Nat) (f : List Bool → Res PV) : Res PV := match st[k]? with
  | some (.lst ys) => (match blsOf ys with
    | some bs => f bs
    | none => .bad)
  | _ => .bad
def countM : FM := fun st x xs => match x, xs with
  | .ref k, [.bl b] => bsK st k fun bs => .ok (.int (bs.count b : Nat)) st
  | _, _ => .bad
def indexM : FM := fun st x xs => match x, xs with
  | .ref k, [.bl b] => bsK st k fun bs => if b ∈ bs then .ok (.int (bs.idxOf b : Nat)) st else .bad
  | _, _ => .bad
theorem bsK_ok {K : PySem.W.Frag} {w : Wd} {H : Hp} {st st' : List SO} {k : Nat} {f : List Bool → Res PV} {z : PV} {vx : V} (ok : WOk K w H st) (rx : Rep K w (.ref k) vx) (e : bsK st k f = .ok z st') : ∃ p bs, vx = .ref p ∧ SqL K H p (bs.map V.bl) ∧ f bs = .ok z st' := by
  obtain ⟨p, e1, q1⟩ := rx
  obtain ⟨c1, o1, h1, h2, h3⟩ := ok.obj q1
  unfold bsK at e
  rw [h1] at e
  cases c1 with
  | dK _ => cases e
  | lst ys =>
    have e : (match blsOf ys with | some bs => f bs | none => .bad) = .ok z st' := e
    cases q : blsOf ys with
    | none => rw [q] at e; cases e
    | some bs =>
      rw [q] at e
      obtain ⟨us, f1, r1⟩ := h3
      rw [blsOf_rep ys bs us q r1] at f1
      subst f1
      exact ⟨p, bs, e1, .inl (.inl h2), e⟩
theorem repl_bl {K : PySem.W.Frag} {w : Wd} {b : Bool} {vs : List V} (r : RepL K w [.bl b] vs) : vs = [.bl b] := by
  obtain ⟨v, r', e, h1, h2⟩ := r
  rw [e, show v = .bl b from h1, show r' = [] from h2]
theorem s_countM {K : PySem.W.Frag} : SndM K countM (rCntB K) := by
  intro w H st st' x z xs vx vs Q ok rx rs e q
  cases x with
  | ref k =>
    rcases xs with _ | ⟨y, _ | ⟨u, us⟩⟩
    · cases e
    · cases y with
      | bl b =>
        obtain ⟨p, bs, e1, sq, e2⟩ := bsK_ok ok rx (show bsK st k (fun bs => .ok (.int (bs.count b : Nat)) st) = .ok z st' from e)
        cases e2
        exact ⟨p, bs, b, e1, repl_bl rs, sq, q w H _ (Le.refl _) ok rfl⟩
      | _ => cases e
    · cases y <;> cases e
  | _ => cases e
theorem s_indexM {K : PySem.W.Frag} : SndM K indexM (rIndex K) := by
  intro w H st st' x z xs vx vs Q ok rx rs e q
  cases x with
  | ref k =>
    rcases xs with _ | ⟨y, _ | ⟨u, us⟩⟩
    · cases e
    · cases y with
      | bl b =>
        obtain ⟨p, bs, e1, sq, e2⟩ := bsK_ok ok rx (show bsK st k (fun bs => if b ∈ bs then .ok (.int (bs.idxOf b : Nat)) st else .bad) = .ok z st' from e)
        by_cases hb : b ∈ bs
        · rw [if_pos hb] at e2
          cases e2
          have hl := List.idxOf_lt_length_of_mem hb
          refine ⟨p, bs.map V.bl, .bl b, bs.idxOf b, .bl b, e1, repl_bl rs, sq, rfl, flat_bls bs, ?_, ?_, ?_, q w H _ (Le.refl _) ok rfl⟩
          · rw [List.getElem?_map, List.getElem?_eq_getElem hl, List.getElem_idxOf hl]; rfl
          · show (b == b) = true; exact beq_self_eq_true b
          · intro m z' hm hz
            rw [List.getElem?_map] at hz
            obtain ⟨c, hc, rfl⟩ := Option.map_eq_some_iff.mp hz
            show (c == b) = false
            have nt := List.not_of_lt_findIdx (p := (· == b)) hm
            obtain ⟨hm2, ec⟩ := List.getElem?_eq_some_iff.mp hc
            rw [ec] at nt
            simpa using nt
        · rw [if_neg hb] at e2; cases e2
      | _ => cases e
    · cases y <;> cases e
  | _ => cases e
theorem bsK_exc {st : List SO} {k : Nat} {f : List Bool → Res PV} (h : ∀ bs c st', f bs ≠ .exc c st') (c : Str) (st' : List SO) : bsK st k f ≠ .exc c st' := by
  intro e
  unfold bsK at e
  cases q : st[k]? with
  | none => rw [q] at e; cases e
  | some o =>
    rw [q] at e
    cases o with
    | dK _ => cases e
    | lst ys =>
      have e : (match blsOf ys with | some bs => f bs | none => .bad) = .exc c st' := e
      cases q2 : blsOf ys with
      | none => rw [q2] at e; cases e
      | some bs => rw [q2] at e; exact h bs c st' e
theorem n_countM : NoExc countM := by
  intro st x xs c st' e
  cases x with
  | ref k =>
    rcases xs with _ | ⟨y, _ | ⟨u, us⟩⟩
    · cases e
    · cases y with
      | bl b => exact bsK_exc (fun bs c st' h => by cases h) c st' e
      | _ => cases e
    · cases y <;> cases e
  | _ => cases e
theorem n_indexM : NoExc indexM := by
  intro st x xs c st' e
  cases x with
  | ref k =>
    rcases xs with _ | ⟨y, _ | ⟨u, us⟩⟩
    · cases e
    · cases y with
      | bl b => exact bsK_exc (fun bs c st' h => by split at h <;> cases h) c st' e
      | _ => cases e
    · cases y <;> cases e
  | _ => cases e
theorem isE_c {a : Addr} {d x : Str} {st : List SO} (h : x ∈ kindNames) : isE a d st [.exc a, .cls x] = some (.bl (decide (x = d))) := if_pos ⟨rfl, h⟩
theorem isE_v {a : Addr} {d : Str} {st : List SO} : isE a d st [.exc a, .ty "ValueError"] = some (.bl true) := if_pos ⟨rfl, rfl⟩
theorem catL_ok {st : List SO} {xs ys : List PV} (h : LineOk (xs.length + ys.length)) : catL st (some (.lst xs)) (some (.lst ys)) = .ok (.ref st.length) (st ++ [.lst (xs ++ ys)]) := if_pos h
theorem countM_ok {st : List SO} {k : Nat} {b : Bool} : countM st (.ref k) [.bl b] = bsK st k fun bs => .ok (.int (bs.count b : Nat)) st := rfl
theorem indexM_ok {st : List SO} {k : Nat} {b : Bool} : indexM st (.ref k) [.bl b] = bsK st k fun bs => if b ∈ bs then .ok (.int (bs.idxOf b : Nat)) st else .bad := rfl
theorem bsK_at {st : List SO} {k : Nat} {f : List Bool → Res PV} {ys : List PV} {bs : List Bool} (h : st[k]? = some (.lst ys)) (e : blsOf ys = some bs) : bsK st k f = f bs := by
  unfold bsK
  rw [h]
  simp only [e]
theorem new_at {st l : List SO} {i : Nat} : (st ++ l)[st.length + i]? = l[i]? := by
  rw [List.getElem?_append_right (by omega)]
  congr 1
  omega
theorem new_at0 {st l : List SO} : (st ++ l)[st.length]? = l[0]? := new_at (i := 0)
theorem blsOf_map : ∀ bs : List Bool, blsOf (bs.map .bl) = some bs
  | [] => rfl
  | b :: bs => by rw [List.map_cons, blsOf_cons, blsOf_map bs]; rfl
theorem leave_new {st l : List SO} {v v' : PV} (h : frzV (st ++ l) st.length 9 v = some v') : leave st (.ret v (st ++ l)) = .ok v' st := by
  rw [leave_ret (OldOk.refl st).app h, List.take_left]
def bsO (o : Option SO) (f : List Bool → Res PV) : Res PV := match o with
  | some (.lst ys) => (match blsOf ys with
    | some bs => f bs
    | none => .bad)
  | _ => .bad
theorem bsK_eq {st : List SO} {k : Nat} {f : List Bool → Res PV} : bsK st k f = bsO st[k]? f := rfl
theorem bsO_some {ys : List PV} {bs : List Bool} {f : List Bool → Res PV} (h : blsOf ys = some bs) : bsO (some (.lst ys)) f = f bs := by
  unfold bsO
  simp only [h]
end Z
/-! A def that is told the refusal that is handled; try. -/
namespace Z
open PySem PySem.Spec PyProof.Rows L2
/-- a def that is told the exception that is handled, one of the class C -/
structure FnE (P : Program) (w : World) (K : PySem.W.Frag) (mg : Str → Option Value) (base : Heap) (k : Nat) (f : Addr) (fd : FuncData) (ps : List Str) (C : Value) (sp : Addr → Sp) : Prop where
  len : ∀ a vs H Q E, sp a vs H Q E → vs.length = ps.length
  run : ∀ (A : Around) (out : List PySem.Env) (sh : Shared) (H : Hp) (args : Args) (us : List Value) (vs : List V) (Q : VK) (E : XK) (p : Addr × Obj), L2H.RoomH k A → L2H.Hot1 A p → Zc C none p.2 → L2H.PinOk out H sh p → Env0 P w K mg base A out sh H →
    BindsTo sh fd args (ps.zip us) → Vals vs us → sp p.1 vs H Q E → codeAny (model P w) A (.call (.ref f) args) (CR (L2N.CX P w) out P w H sh Q E) sh
theorem fnE_of {P : Program} {w : World} {K : PySem.W.Frag} {mg : Str → Option Value} {base : Heap} {x : Str} {params : Arguments} {body : List Stmt} {scope : Scope} {fd : FuncData} {f : Addr} {N ps : List Str} {k : Nat} {C : Value} {sp : Addr → Sp}
    (FD : FunD K x x params body scope [] [] f fd) (S : FnScope N ps scope) (len : ∀ a vs H Q E, sp a vs H Q E → vs.length = ps.length)
    (walk : ∀ (cdv : Value) (A : Around) (out : List PySem.Env) (sh : Shared) (H : Hp) (vs : List V) (Q : VK) (E : XK) (p : Addr × Obj), L2H.Hot1 A p → Zc C none p.2 → L2H.RoomH k (A.deeper (envOfC x scope sh.heap.objs.size f cdv)) → sp p.1 vs H Q E →
      ∃ t, PSs (L2H.cxH (L2N.CX P w) P w K mg base N x scope f cdv A out sh H E p) body t ∧ t { nx := fun _ H' => Q .non H', rt := Q } (L2.start N vs) H) :
    FnE P w K mg base (k + 1) f fd ps C sp := by
  obtain ⟨oc, od, dV, kV, doc, pm, an, cdv, ct, osl, rfl, lk, hcd, -, -⟩ := FD.ex
  refine ⟨len, fun A out sh H args us vs Q E p room hot hz pin e0 bd rv here => ?_⟩
  have same := len _ _ _ _ _ here
  have inK : K.In sh.heap := e0.mod.kin.keeps fun b o e => (e0.bs b o e).1
  have noLimit : sh.heap.NoLimit := e0.mod.nolimit.keeps fun b o e => (e0.bs b o e).1
  have kinds : ∀ y ∈ ps.zip us, scope.names.lookup y.1 = some .local ∨ (scope.names.lookup y.1 = some .cell ∧ ((cellsFrom (sh.heap.objs.size + 1) scope.names []).lookup y.1).isSome = true) := by
    rintro ⟨nm, val⟩ hy
    exact (S.par nm (List.of_mem_zip hy).1).imp id fun q => ⟨q, PySem.W.cellsFrom_some _ _ _ (.inl q)⟩
  refine codeAny_call_function room.depth (inK _ _ lk) rfl S.co S.gen rfl (PySem.W.codeRec_of inK hcd) (bd _ _ _ _ (wpAny_newFunctionEnv_cells S.kind kinds fun env he s1 began => ?_))
  cases he
  refine ⟨noLimit.keeps began.toInCall.keep, codeAny_func ?_⟩
  obtain ⟨t, goes, wish⟩ := walk cdv A out sh H vs Q E p hot hz (room.deeper _) here
  refine wpAny_mono (goes.run [] s1 (L2.start N vs) H _ (L2H.inv_startH S pin e0 same rv began) wish) (fun fl s' done => ?_) fun _ _ z => z
  cases fl with
  | ret u => obtain ⟨v, σ', H', J, ru, q⟩ := done; exact ⟨v, H', J.os, J.bare, J.base, J.hok, ru, q⟩
  | next => obtain ⟨σ', H', J, q⟩ := done; exact ⟨V.non, H', J.os, J.bare, J.base, J.hok, rfl, q⟩
  | brk => obtain ⟨_, _, _, no⟩ := done; exact no.elim
  | cont => obtain ⟨_, _, _, no⟩ := done; exact no.elim
theorem _root_.L2H.RoomH.units {k : Nat} {A : Around} (r : L2H.RoomH k A) : A.units + 64 < cLine := by have := r.un; omega
/-- such a def called in the suite -/
theorem pe_callE {X : Cx} {k : Nat} {f : Addr} {fd : FuncData} {ps : List Str} {C : Value} {sp : Addr → Sp} {p : Addr × Obj} {x : Str} {q pos : Pos} {e : Expr} {es : List Expr} {t : TA} (F : FnE X.prog X.w X.K X.mg X.base k f fd ps C sp) (room : L2H.RoomH k X.A) (hot : L2H.Hot1 X.A p) (hp : p ∈ X.pn) (hz : Zc C none p.2)
    (hg : Gl X x) (hm : X.mg x = some (.ref f)) (hk : PySem.W.keepIn X.K (.ref f) = true) (hb : Binds X.K fd ps []) (ha : L2.PA X (e :: es) t) (hdb : (x == ("__debug__" : Str)) = false := by decide)
    (he : starEach (e :: es) X.env = (false, eval e X.env) :: starEach es X.env := by rfl) (hpl : (backTo pos (starEach es X.env)).any (·.1) = false := by rfl) : PE X (.Call (.Name x q) (e :: es) [] pos) (tCallS (sp p.1) (fun _ _ _ _ => False) t) := by
  refine ⟨fun pins sh sg Hh Q I h => wpAny_Call_Name_kw (ld_glob I hg hm ?_ hdb)⟩
  refine PySem.W.callWith_K (h₀ := X.base) I.ok.mod.kin hk (thn (ha.run pos pins sh sg Hh _ I h) ?_) he hpl
  rintro us s1 ⟨vs, H1, I1, rv, here⟩
  refine ⟨I1.kIn, ?_⟩
  have there := I1.pin p (List.mem_append_left _ hp)
  have pin : L2H.PinOk X.stack H1 s1 p := by
    refine ⟨there.1, there.2.1, fun hin => ?_, there.2.2.2.2⟩
    rcases List.mem_cons.mp (I1.stkSub p.1 hin) with z | z
    · exact there.2.2.1 z
    · exact there.2.2.2.1 z
  have bd := hb s1 us I1.kIn (by rw [List.append_nil, ← rv.length]; exact F.len _ _ _ _ _ here)
  rw [List.append_nil] at bd
  refine wpAny_call (codeAny_mono (F.run X.A X.stack s1 H1 ⟨us, []⟩ us vs Q _ p room hot hz pin I1.env0 bd rv here) fun r s' done => ?_)
  cases r with
  | error _ => obtain ⟨_, _, _, _, _, _, _, _, _, _, _, _, no⟩ := done; exact no.elim
  | ok fl => cases fl with
    | ret u => exact I1.after done
    | next => exact done.elim
    | brk => exact done.elim
    | cont => exact done.elim
/-! ### the def that tells the kind -/
def spE (K : PySem.W.Frag) (s : Str) (a : Addr) : Sp := fun vs H Q _ => ∃ w st, vs = [.ref a] ∧ WOk K w H st ∧ ∀ w' H', Le w w' → WOk K w' H' st → Q (.str s) H'
def DefE (P : Program) (w : World) (K : PySem.W.Frag) (mg : Str → Option Value) (base : Heap) (x : Str) (k : Nat) : Prop :=
  ∃ f fd ps, ps.length = 1 ∧ mg x = some (.ref f) ∧ PySem.W.keepIn K (.ref f) = true ∧ Binds K fd ps [] ∧ ∀ c s, kdOf c = some s → FnE P w K mg base k f fd ps (.ref (He.ga K c)) (spE K s)
open Classical in
theorem defE_of {P : Program} {w : World} {K : PySem.W.Frag} {mg : Str → Option Value} {base : Heap} {x : Str} {params : Arguments} {body : List Stmt} {scope : Scope} {fd : FuncData} {f : Addr} {N ps : List Str} {k : Nat} {g : Addr → Str → GS}
    (FD : FunD K x x params body scope [] [] f fd) (S : FnScope N ps scope) (hps : ps.length = 1) (hm : mg x = some (.ref f)) (hb : Binds K fd ps []) (B : kindB K = true)
    (hbody : ∀ (cdv : Value) (A : Around) (out : List PySem.Env) (sh : Shared) (H : Hp) (E : XK) (p : Addr × Obj) (c : Str), L2H.Hot1 A p → Zc (.ref (He.ga K c)) none p.2 → (∃ fs, p.2.data = .fields fs) → KindF K c → L2H.RoomH k (A.deeper (envOfC x scope sh.heap.objs.size f cdv)) →
      PSs (L2H.cxH (L2N.CX P w) P w K mg base N x scope f cdv A out sh H E p) body (tS K W0 (g p.1 c)))
    (hg : ∀ a c s st, kdOf c = some s → leave st (g a c (begin N.length 1 [.exc a]) st) = .ok (.str s) st) : DefE P w K mg base x (k + 1) := by
  refine ⟨f, fd, ps, hps, hm, FD.kp, hb, fun c s hc => fnE_of FD S (fun a vs H Q E ⟨_, _, ev, _⟩ => by rw [ev, hps]; rfl) fun cdv A out sh H vs Q E p hot hz room ⟨wd, st, ev, ok, wish⟩ => ?_⟩
  obtain ⟨-, fs, hfs, -⟩ := id hot
  refine ⟨tS K W0 (g p.1 c), hbody cdv A out sh H E p c hot hz ⟨fs, hfs⟩ (kindF_of B (kind_mem hc)) room, wd, begin N.length 1 [.exc p.1], st, ok, slots_start (ev ▸ (⟨V.ref p.1, [], rfl, rfl, rfl⟩ : RepL K wd [.exc p.1] [V.ref p.1])) rfl, ?_⟩
  have e := hg p.1 c s st hc
  cases q : g p.1 c (begin N.length 1 [.exc p.1]) st with
  | ret v st' =>
    rw [q] at e
    have e : (match frzV st' st.length 9 v with | some v' => if OldOk st st' then Res.ok v' (st'.take st.length) else .bad | none => .bad) = .ok (.str s) st := e
    cases e2 : frzV st' st.length 9 v with
    | none => rw [e2] at e; cases e
    | some v' =>
      rw [e2] at e
      by_cases old : OldOk st st'
      · have e : (if OldOk st st' then Res.ok v' (st'.take st.length) else .bad) = .ok (.str s) st := e
        rw [if_pos old] at e
        injection e with ea eb
        subst ea
        intro w' H' x l o rx
        obtain ⟨ok2, le2⟩ := left_ok ok l o old
        rw [eb] at ok2
        have rs : x = V.str s := frz_rep o 9 v _ x e2 rx
        rw [rs]
        exact wish _ H' le2 ok2
      · have e : (if OldOk st st' then Res.ok v' (st'.take st.length) else .bad) = .ok (.str s) st := e
        rw [if_neg old] at e; cases e
  | nx ρ' st' =>
    rw [q] at e
    have e : (if OldOk st st' then Res.ok PV.non (st'.take st.length) else .bad) = .ok (.str s) st := e
    split at e <;> cases e
  | exc c' ρ' st' =>
    rw [q] at e
    have e : (if OldOk st st' then Res.exc (α := PV) c' (st'.take st.length) else .bad) = .ok (PV.str s) st := e
    split at e <;> cases e
  | bad => rw [q] at e; cases e

/-! ### try: body, except MotionError as n: return kind(n) -/
def tsK (K : PySem.W.Frag) (i : Nat) (a : Addr) (cls : Value) (d : Option Addr) : TS := fun D σ H =>
  ∃ (c s : Str) (w : Wd) (st : List SO) (σ0 : L2.St), cls = .ref (He.ga K c) ∧ d = none ∧ kdOf c = some s ∧ σ = σ0.set i (some (.ref a)) ∧ WOk K w H st ∧ ∀ w' H', Le w w' → WOk K w' H' st → D.rt (V.str s) H'
theorem ss_try {X : Cx} {W : WX} {g : GS} {n nk : Str} {k : Nat} {body : List Stmt} {np pos pos' rp cp p1 p2 : Pos} (i : Nat) (B : kindB X.K = true) (hME : X.mg "MotionError" = some (.ref (He.ga X.K "MotionError"))) (D : DefE X.prog X.w X.K X.mg X.base nk k) (hr : Room k X.A) (hN : X.N.Nodup) (tk : L2N.Takes X W)
    (hb : ∀ (W : WX) (pn : List (Addr × Obj)) (xe : Value → Shared → Prop), L2N.Takes (X.tr pn xe) W → PassesOwn (model X.prog X.w) X.A X.env xe → PSs (X.tr pn xe) body (tS X.K W g))
    (hs : X.stack = X.env :: X.outer := by rfl) (hf : X.env.frame = some X.env.locals := by rfl) (hi : X.N[i]? = some n := by rfl) (hln : X.env.kindOf n = some .local := by rfl) (hGl : Gl X "MotionError" := by rfl) (hg : Gl X nk := by rfl)
    (hv : Vis X.env.scope n := by first | exact Or.inl rfl | exact Or.inr (Or.inl rfl) | exact Or.inr (Or.inr rfl)) (hd1 : (n == ("__debug__" : Str)) = false := by decide) (hd2 : (n == ("__classdict__" : Str)) = false := by decide) (hd3 : (nk == ("__debug__" : Str)) = false := by decide)
    (hq : ∀ a pn, starEach [Expr.Name n p2] (X.suite a pn).env = [(false, eval (.Name n p2) (X.suite a pn).env)] := by intro _ _; rfl) :
    L2.PS X (.Try body [.ExceptHandler (some (.Name "MotionError" np)) (some n) [.Return (some (.Call (.Name nk p1) [.Name n p2] [] cp)) rp] pos'] [] [] pos) (tS X.K W (gTry g)) := by
  refine ps_imp (L2N.ps_try_as (i := i) (c := .ref (He.ga X.K "MotionError")) (ts := tsK X.K i) (tb := fun W => tS X.K W g) hs hf hN hi hln ⟨hGl, by decide, .inl hME⟩ tk hb fun a oe cls d pn hz hfs => ⟨fun pins sh σ H Dn I ⟨c, s, wd, st, σ0, e1, e2, hc, eσ, ok, wish⟩ => ?_⟩) fun Dn σ H ⟨wd, ρ, st, ok, sl, po⟩ => ⟨wd, ρ, st, ok, sl, ?_⟩
  · subst e1 e2
    obtain ⟨f, fd, ps, hps, hm, hk, hbd, FE⟩ := D
    obtain ⟨fs, hfs⟩ := hfs
    have hot : L2H.Hot1 (X.suite a ((a, oe) :: pn)).A (a, oe) := ⟨rfl, fs, hfs, hz.2.2 fs hfs⟩
    have arg : PE (X.suite a ((a, oe) :: pn)) (.Name n p2) _ := pe_var (i := i) hi hv hd1 hd2
    have call := pe_callE (q := p1) (pos := cp) (X := X.suite a ((a, oe) :: pn)) (FE c s hc) ⟨hr.dp, hr.un⟩ hot List.mem_cons_self hz.zc hg hm hk hbd (pa_cons arg pa_nil (hq _ _)) hd3 (hq _ _) rfl
    refine (pss_one (ps_ret (pos := rp) call)).run pins sh σ H Dn I ?_
    have hl : i < σ0.length := by
      have h1 : σ.length = X.N.length := I.len
      have h2 := (List.getElem?_eq_some_iff.mp hi).1
      rw [eσ, List.length_set] at h1
      omega
    refine ⟨.ref a, by rw [eσ, List.getElem?_set_self hl], wd, st, rfl, ok, wish⟩
  · have po : PostS X.K W wd (tryK (g ρ st)) Dn := po
    cases e : g ρ st with
    | nx ρ' st' => rw [e] at po; exact po
    | ret v st' => rw [e] at po; exact po
    | bad => rw [e] at po; exact po.elim
    | exc c ρ' st' =>
      rw [e] at po
      have po : PostS X.K W wd (match kdOf c with | some s => .ret (.str s) st' | none => .bad) Dn := po
      cases hc : kdOf c with
      | none => rw [hc] at po; exact po.elim
      | some s =>
        rw [hc] at po
        intro w' σ' H' l o sl'
        exact ⟨true, (kindF_of B (kind_mem hc)).exm, fun _ a ha => ⟨c, s, w', st', σ', rfl, rfl, hc, rfl, o, fun w2 H2 l2 o2 => po w2 H2 (V.str s) (l.trans l2) o2 rfl⟩, fun z => nomatch z⟩
/-! ### a def picked out of a list of defs -/
/-- the defs of these names, one by one, at their own places -/
def DefsAt (P : Program) (w : World) (K : PySem.W.Frag) (mg : Str → Option Value) (base : Heap) (n k : Nat) : List Str → List Fn → Prop
  | [], [] => True
  | x :: xs, F :: Fs => (∃ j fd ps, j ≤ k ∧ ps.length = n ∧ FnOk P w K mg base (L2N.CX P w) j (He.ga K x) fd ps (spF K n F) ∧ PySem.W.keepIn K (.ref (He.ga K x)) = true ∧ Binds K fd ps []) ∧ DefsAt P w K mg base n k xs Fs
  | _, _ => False
theorem defsAt_get {P : Program} {w : World} {K : PySem.W.Frag} {mg : Str → Option Value} {base : Heap} {n k : Nat} : ∀ {xs : List Str} {Fs : List Fn} {i : Nat} {F : Fn}, DefsAt P w K mg base n k xs Fs → Fs[i]? = some F →
    ∃ x, xs[i]? = some x ∧ ∃ j fd ps, j ≤ k ∧ ps.length = n ∧ FnOk P w K mg base (L2N.CX P w) j (He.ga K x) fd ps (spF K n F) ∧ PySem.W.keepIn K (.ref (He.ga K x)) = true ∧ Binds K fd ps []
  | [], [], _, _, _, h => by simp at h
  | [], _ :: _, _, _, d, _ => d.elim
  | _ :: _, [], _, _, d, _ => d.elim
  | x :: xs, F :: Fs, 0, G, d, h => by simp at h; subst h; exact ⟨x, rfl, d.1⟩
  | x :: xs, F :: Fs, i + 1, G, d, h => by
    obtain ⟨y, h1, h2⟩ := defsAt_get (i := i) d.2 (by simpa using h)
    exact ⟨y, by simpa using h1, h2⟩
theorem defsAt_cons {P : Program} {w : World} {K : PySem.W.Frag} {mg : Str → Option Value} {base : Heap} {n j k : Nat} {x : Str} {xs : List Str} {F : Fn} {Fs : List Fn} (m : mg x = some (.ref (He.ga K x))) (D : Def P w K mg base x n j F) (h : j ≤ k) (r : DefsAt P w K mg base n k xs Fs) : DefsAt P w K mg base n k (x :: xs) (F :: Fs) := by
  obtain ⟨f, fd, ps, hps, FO, hm, hk, hb⟩ := D
  rw [m] at hm
  cases hm
  exact ⟨⟨j, fd, ps, h, hps, FO, hk, hb⟩, r⟩
theorem defsAt_nil {P : Program} {w : World} {K : PySem.W.Frag} {mg : Str → Option Value} {base : Heap} {n k : Nat} : DefsAt P w K mg base n k [] [] := trivial
theorem gLst_cls (ρ : REnv) (st : List SO) : ∀ xs : List Str, gArgs (xs.map fun x => gC (.cls x)) ρ st = .ok (xs.map .cls) st
  | [] => rfl
  | x :: xs => by
    show bnd (gC (.cls x) ρ st) (fun y st => bnd (gArgs (xs.map fun x => gC (.cls x)) ρ st) fun ys st => .ok (y :: ys) st) = _
    show bnd (gArgs (xs.map fun x => gC (.cls x)) ρ st) (fun ys st => .ok (PV.cls x :: ys) st) = _
    rw [gLst_cls ρ st xs]
    rfl
theorem se_callI {X : Cx} {W : WX} {pos : Pos} {fe e : Expr} {es : List Expr} {n k : Nat} {xs : List Str} {Fs : List Fn} {gi : G} {gs : List G} (D : DefsAt X.prog X.w X.K X.mg X.base n k xs Fs) (hr : Room k X.A) (tk : L2N.Takes X W)
    (hf : PE X fe (tG X.K W (gBin ixV (gLstE (xs.map fun x => gC (.cls x))) gi))) (ha : L2.PA X (e :: es) (tGA X.K W (gArgs gs))) (hn : gs.length = n := by rfl)
    (ht : eval (.Call fe (e :: es) [] pos) X.env = (do callWith pos (← eval fe X.env) [] (backTo pos (starEach (e :: es) X.env)) (backToKw pos (keywordEach [] X.env))) := by rfl)
    (he : starEach (e :: es) X.env = (false, eval e X.env) :: starEach es X.env := by rfl) (hpl : (backTo pos (starEach es X.env)).any (·.1) = false := by rfl) : PE X (.Call fe (e :: es) [] pos) (tG X.K W (gCallI Fs gi gs)) := by
  refine ⟨fun pins sh σ H Q I ⟨w, ρ, st, ok, sl, po⟩ => ?_⟩
  have po : Post X.K W (Rep X.K) w σ (bnd (gi ρ st) fun v st1 => callK (callI Fs v) (gArgs gs ρ st1)) Q := po
  have body : tG X.K W (gBin ixV (gLstE (xs.map fun x => gC (.cls x))) gi) σ H (fun y H1 => ∃ (x : Str) (F : Fn) (i : Nat), y = V.ref (He.ga X.K x) ∧ xs[i]? = some x ∧ Fs[i]? = some F ∧ tGA X.K W (gArgs gs) σ H1 fun vs H2 => spF X.K n F vs H2 Q (WE W σ)) := by
    refine ⟨w, ρ, st, ok, sl, ?_⟩
    show Post X.K W (Rep X.K) w σ (bnd (bnd (gArgs (xs.map fun x => gC (.cls x)) ρ st) fun ys st => .ok (.lst ys) st) fun x st => bnd (gi ρ st) fun y st => oo (ixV st x y) st) _
    rw [gLst_cls]
    show Post X.K W (Rep X.K) w σ (bnd (gi ρ st) fun y st => oo (ixV st (.lst (xs.map .cls)) y) st) _
    cases eg : gi ρ st with
    | exc c st1 => rw [eg] at po; exact po
    | bad => rw [eg] at po; exact po.elim
    | ok v st1 =>
      rw [eg] at po
      have po : Post X.K W (Rep X.K) w σ (callK (callI Fs v) (gArgs gs ρ st1)) Q := po
      cases ec : callI Fs v with
      | none => rw [ec] at po; exact po.elim
      | some F =>
        rw [ec] at po
        have po3 : Post X.K W (Rep X.K) w σ (bnd (gArgs gs ρ st1) F) Q := po
        obtain ⟨i, rfl, hF⟩ : ∃ i : Nat, v = .int i ∧ Fs[i]? = some F := by
          cases v with
          | int j =>
            have ec : (if 0 ≤ j then Fs[j.toNat]? else none) = some F := ec
            by_cases hj : 0 ≤ j
            · rw [if_pos hj] at ec
              exact ⟨j.toNat, by rw [Int.toNat_of_nonneg hj], ec⟩
            · rw [if_neg hj] at ec; cases ec
          | _ => cases ec
        obtain ⟨x, hx, -⟩ := defsAt_get D hF
        have at1 : ixV st1 (.lst (xs.map .cls)) (.int (i : Int)) = some (.cls x) := by
          show atI (xs.map PV.cls) (i : Int) = some (.cls x)
          exact atN (by rw [List.getElem?_map, hx]; rfl)
        show Post X.K W (Rep X.K) w σ (oo (ixV st1 (.lst (xs.map .cls)) (.int (i : Int))) st1) _
        rw [at1]
        intro w' H' y l o ry
        refine ⟨x, F, i, ry, hx, hF, ?_⟩
        refine tGA_len o (sl.mono l) (Post.mono l po3) fun ys st2 w2 H2 vs hl l2 ok2 rs po2 => ⟨w2, ys, st2, by rw [hl, hn], ok2, rs, ?_⟩
        cases q : F ys st2 with
        | ok v st3 => rw [q] at po2; exact po2
        | exc c st3 => rw [q] at po2; exact po2
        | bad => rw [q] at po2; exact po2.elim
  refine Call_ (thn (hf.run pins sh σ H _ I body) ?_) ht
  rintro u s1 ⟨y, H1, I1, ry, x, F, i, ey, hx, hF, q⟩
  subst ey
  cases ry
  obtain ⟨x', hx', j, fd, ps, hj, hps, FO, hk, hb⟩ := defsAt_get D hF
  rw [hx] at hx'
  cases hx'
  refine PySem.W.callWith_K (first := []) (h₀ := X.base) I1.ok.mod.kin hk (thn (ha.run pos pins s1 σ H1 _ I1 q) ?_) he hpl
  rintro us s2 ⟨vs, H2, I2, rv, here⟩
  exact ⟨I2.kIn, run_fnS FO (hr.mono hj) hb (L2N.passAt tk σ) I2 rv here⟩
theorem s_isNotB {K : PySem.W.Frag} : Snd2 K isNotBV (fun x y H Q => ∃ a b : Bool, x = .bl a ∧ y = .bl b ∧ Q (.bl (!decide (a = b))) H) := by
  intro w H st x y z vx vy Q ok rx ry e q
  cases x with
  | bl a => cases y with
    | bl b => cases e; exact ⟨a, b, rx, ry, q w H _ (Le.refl _) ok rfl⟩
    | _ => cases e
  | _ => cases y <;> cases e
end Z
/-! Speeds put together: the law of it in plain Lean. -/
namespace Z
open PySem PySem.Spec PyProof.Rows L2
theorem div_cross {a b c d : Rat} (hb : b ≠ 0) (hd : d ≠ 0) (h : a * d = c * b) : a / b = c / d := by
  have e1 : a / b * b = a := Rat.div_mul_cancel hb
  have e2 : c / d * d = c := Rat.div_mul_cancel hd
  generalize a / b = x at *
  generalize c / d = y at *
  have : (x - y) * (b * d) = 0 := by grind
  rcases Rat.mul_eq_zero.mp this with z | z
  · grind
  · rcases Rat.mul_eq_zero.mp z with z | z
    · exact absurd z hb
    · exact absurd z hd
theorem jq_comm (p q : Rat) : (p + q) / (1 + p * q) = (q + p) / (1 + q * p) := by rw [Rat.add_comm p q, Rat.mul_comm p q]
theorem jq3 {p q r : Rat} (h1 : -1 < p) (h2 : p < 1) (k1 : -1 < q) (k2 : q < 1) (r1 : -1 < r) (r2 : r < 1) :
    1 + p * q + p * r + q * r ≠ 0 ∧ ((p + q) / (1 + p * q) + r) / (1 + (p + q) / (1 + p * q) * r) = (p + q + r + p * q * r) / (1 + p * q + p * r + q * r) := by
  obtain ⟨d, a, b⟩ := join_lt h1 h2 k1 k2
  obtain ⟨e, -, -⟩ := join_lt a b r1 r2
  have y : (p + q) / (1 + p * q) * (1 + p * q) = p + q := Rat.div_mul_cancel (by grind)
  generalize (p + q) / (1 + p * q) = s at *
  have m : 0 < (1 + p * q) * (1 + s * r) := Rat.mul_pos d e
  have m' : (1 + p * q) * (1 + s * r) = 1 + p * q + p * r + q * r := by grind
  have n0 : 1 + p * q + p * r + q * r ≠ 0 := by grind
  refine ⟨n0, div_cross (by grind) n0 ?_⟩
  rw [← m']
  have : (s + r) * (1 + p * q) = p + q + r + p * q * r := by grind
  grind
theorem jq_assoc {p q r : Rat} (h1 : -1 < p) (h2 : p < 1) (k1 : -1 < q) (k2 : q < 1) (r1 : -1 < r) (r2 : r < 1) :
    ((p + q) / (1 + p * q) + r) / (1 + (p + q) / (1 + p * q) * r) = (p + (q + r) / (1 + q * r)) / (1 + p * ((q + r) / (1 + q * r))) := by
  rw [(jq3 h1 h2 k1 k2 r1 r2).2, jq_comm p, (jq3 k1 k2 r1 r2 h1 h2).2]
  congr 1 <;> grind
theorem jq_neg (p q : Rat) : (-p + -q) / (1 + -p * -q) = -((p + q) / (1 + p * q)) := by
  have : -p * -q = p * q := by grind
  rw [this, Rat.div_def, Rat.div_def]
  grind
theorem jq_zero (q : Rat) : (0 + q) / (1 + 0 * q) = q := by
  rw [Rat.zero_add, Rat.zero_mul, Rat.add_zero, Rat.div_def]; grind
theorem jq_self (q : Rat) (h1 : -1 < q) (h2 : q < 1) : (q + -q) / (1 + q * -q) = 0 := by
  have : q + -q = 0 := by grind
  rw [this, Rat.div_def]; grind
theorem jq_off {p q : Rat} (h1 : -1 < p) (h2 : p < 1) (k1 : -1 < q) (k2 : q < 1) : ((p + q) / (1 + p * q) + -q) / (1 + (p + q) / (1 + p * q) * -q) = p := by
  rw [jq_assoc h1 h2 k1 k2 (by grind) (by grind), jq_self q k1 k2, jq_comm, jq_zero]
theorem jn_lt {q : Rat} (h1 : -1 < q) (h2 : q < 1) : ∀ k, -1 < jn q k ∧ jn q k < 1
  | 0 => ⟨by show (-1 : Rat) < 0; grind, by show (0 : Rat) < 1; grind⟩
  | k + 1 => by
    obtain ⟨a, b⟩ := jn_lt h1 h2 k
    exact (join_lt a b h1 h2).2
theorem jn_add {q : Rat} (h1 : -1 < q) (h2 : q < 1) (i : Nat) : ∀ k, (jn q i + jn q k) / (1 + jn q i * jn q k) = jn q (i + k)
  | 0 => by show (jn q i + 0) / (1 + jn q i * 0) = jn q i; rw [jq_comm, jq_zero]
  | k + 1 => by
    obtain ⟨a, b⟩ := jn_lt h1 h2 i
    obtain ⟨c, d⟩ := jn_lt h1 h2 k
    show (jn q i + (jn q k + q) / (1 + jn q k * q)) / (1 + jn q i * ((jn q k + q) / (1 + jn q k * q))) = (jn q (i + k) + q) / (1 + jn q (i + k) * q)
    rw [← jq_assoc a b c d h1 h2, jn_add h1 h2 i k]
theorem jn_sub {q : Rat} (h1 : -1 < q) (h2 : q < 1) {i k : Nat} (l : k ≤ i) : (jn q i + -jn q k) / (1 + jn q i * -jn q k) = jn q (i - k) := by
  obtain ⟨a, b⟩ := jn_lt h1 h2 (i - k)
  obtain ⟨c, d⟩ := jn_lt h1 h2 k
  have e := jn_add h1 h2 (i - k) k
  rw [Nat.sub_add_cancel l] at e
  rw [← e]
  exact jq_off a b c d
theorem jq_mono {p r q s : Rat} (h1 : -1 < p) (h2 : p ≤ r) (h3 : r < 1) (k1 : -1 < q) (k2 : q ≤ s) (k3 : s < 1) : (p + q) / (1 + p * q) ≤ (r + s) / (1 + r * s) := by
  have one : ∀ {p r q : Rat}, -1 < p → p ≤ r → r < 1 → -1 < q → q < 1 → (p + q) / (1 + p * q) ≤ (r + q) / (1 + r * q) := by
    intro p r q h1 h2 h3 k1 k3
    have d1 := (join_lt h1 (by grind) k1 k3).1
    have d2 := (join_lt (show -1 < r by grind) h3 k1 k3).1
    have y1 : (p + q) / (1 + p * q) * (1 + p * q) = p + q := Rat.div_mul_cancel (by grind)
    have y2 : (r + q) / (1 + r * q) * (1 + r * q) = r + q := Rat.div_mul_cancel (by grind)
    generalize (p + q) / (1 + p * q) = x at *
    generalize (r + q) / (1 + r * q) = y at *
    by_cases l : x ≤ y
    · exact l
    · exfalso
      have a : 0 < (x - y) * ((1 + p * q) * (1 + r * q)) := Rat.mul_pos (by grind) (Rat.mul_pos d1 d2)
      have b : (x - y) * ((1 + p * q) * (1 + r * q)) = (p - r) * (1 - q * q) := by grind
      have c : 0 ≤ (r - p) * ((1 - q) * (1 + q)) := Rat.mul_nonneg (by grind) (Rat.mul_nonneg (by grind) (by grind))
      grind
  have a := one h1 h2 h3 k1 (show q < 1 by grind)
  have b := one k1 k2 k3 (show -1 < r by grind) h3
  rw [jq_comm q r, jq_comm s r] at b
  exact Rat.le_trans a b
theorem jn_mono {p q : Rat} (h1 : -1 < p) (h2 : p ≤ q) (h3 : q < 1) : ∀ k, jn p k ≤ jn q k
  | 0 => by show (0 : Rat) ≤ 0; grind
  | k + 1 => by
    have a := jn_lt h1 (show p < 1 by grind) k
    have b := jn_lt (show -1 < q by grind) h3 k
    exact jq_mono a.1 (jn_mono h1 h2 h3 k) b.2 h1 h2 h3
/-- plain ones put together -/
theorem Pl.add {p b q c : Rat} (h : Pl p b) (k : Pl q c) : Pl ((p + q) / (1 + p * q)) (b * c / (1 + p * q)) := by
  have e := Pl.sub h k.neg
  have y1 : p - -q = p + q := by grind
  have y2 : 1 - p * -q = 1 + p * q := by grind
  rwa [y1, y2] at e
theorem Pl.add0 {p b q c : Rat} (h : Pl p b) (k : Pl q c) : 0 < 1 + p * q := (join_lt h.gt1 h.lt1 k.gt1 k.lt1).1
/-- the stretch -/
theorem Pl.str_sq {p b : Rat} (h : Pl p b) : (1 + p) / b * ((1 + p) / b) = (1 + p) / (1 - p) := by
  have s := h.sq; have n := h.ne; have l := h.lt1; have g := h.gt1
  have y : (1 + p) / b * b = 1 + p := Rat.div_mul_cancel n
  have z : (1 + p) / (1 - p) * (1 - p) = 1 + p := Rat.div_mul_cancel (by grind)
  generalize (1 + p) / b = x at *
  generalize (1 + p) / (1 - p) = w at *
  have : (x * x - w) * (b * b) = 0 := by grind
  rcases Rat.mul_eq_zero.mp this with u | u
  · grind
  · have := sq_pos h.pos; grind
theorem Pl.str_pos {p b : Rat} (h : Pl p b) : 0 < (1 + p) / b := div_pos' (by have := h.gt1; grind) h.pos
theorem Pl.str_root {p b : Rat} (h : Pl p b) : rootQ ((1 + p) / (1 - p)) = some ((1 + p) / b) := by
  have := h.str_pos
  rw [← h.str_sq, rootQ_sq, if_pos (by grind)]
theorem Pl.str_mul {p b q c : Rat} (h : Pl p b) (k : Pl q c) : (1 + (p + q) / (1 + p * q)) / (b * c / (1 + p * q)) = (1 + p) / b * ((1 + q) / c) := by
  have d := h.add0 k
  have n1 := h.ne; have n2 := k.ne
  have y : (p + q) / (1 + p * q) * (1 + p * q) = p + q := Rat.div_mul_cancel (by grind)
  have n3 : b * c ≠ 0 := fun z => by rcases Rat.mul_eq_zero.mp z with u | u <;> contradiction
  have n4 := (h.add k).ne
  have y2 : b * c / (1 + p * q) * (1 + p * q) = b * c := Rat.div_mul_cancel (by grind)
  have e : (1 + p) / b * ((1 + q) / c) = ((1 + p) * (1 + q)) / (b * c) := by
    have e1 : (1 + p) / b * b = 1 + p := Rat.div_mul_cancel n1
    have e2 : (1 + q) / c * c = 1 + q := Rat.div_mul_cancel n2
    have e3 : ((1 + p) * (1 + q)) / (b * c) * (b * c) = (1 + p) * (1 + q) := Rat.div_mul_cancel n3
    generalize (1 + p) / b = x at *
    generalize (1 + q) / c = z at *
    generalize ((1 + p) * (1 + q)) / (b * c) = w at *
    have : (x * z - w) * (b * c) = 0 := by grind
    rcases Rat.mul_eq_zero.mp this with u | u
    · grind
    · exact absurd u n3
  rw [e]
  refine div_cross n4 n3 ?_
  generalize (p + q) / (1 + p * q) = x at *
  generalize b * c / (1 + p * q) = w at *
  rw [← y2]
  grind
theorem Pl.str_neg {p b : Rat} (h : Pl p b) : (1 + -p) / b = ((1 + p) / b)⁻¹ := by
  have n1 := h.ne; have s := h.sq; have l := h.lt1; have g := h.gt1
  have e1 : (1 + p) / b * b = 1 + p := Rat.div_mul_cancel n1
  have e2 : (1 + -p) / b * b = 1 + -p := Rat.div_mul_cancel n1
  have sp := h.str_pos
  have e3 : (1 + p) / b * ((1 + p) / b)⁻¹ = 1 := Rat.mul_inv_cancel _ (by grind)
  generalize ((1 + p) / b)⁻¹ = v at *
  generalize (1 + p) / b = x at *
  generalize (1 + -p) / b = w at *
  have : (w - v) * (b * b * x) = 0 := by grind
  rcases Rat.mul_eq_zero.mp this with u | u
  · grind
  · rcases Rat.mul_eq_zero.mp u with u | u
    · rcases Rat.mul_eq_zero.mp u with u | u <;> contradiction
    · grind
/-- the speed of a stretch, back -/
theorem str_back {s : Rat} (h : 0 < s) : s * s + 1 ≠ 0 ∧ -1 < (s * s - 1) / (s * s + 1) ∧ (s * s - 1) / (s * s + 1) < 1 ∧ Pl ((s * s - 1) / (s * s + 1)) (2 * s / (s * s + 1)) := by
  have p := sq_pos h
  have n : s * s + 1 ≠ 0 := by grind
  have P : Pl ((s * s - 1) / (s * s + 1)) (2 * s / (s * s + 1)) := by
    refine ⟨div_pos' (by grind) (by grind), ?_⟩
    have e1 : 2 * s / (s * s + 1) * (s * s + 1) = 2 * s := Rat.div_mul_cancel n
    have e2 : (s * s - 1) / (s * s + 1) * (s * s + 1) = s * s - 1 := Rat.div_mul_cancel n
    generalize 2 * s / (s * s + 1) = x at *
    generalize (s * s - 1) / (s * s + 1) = y at *
    have : (x * x - (1 - y * y)) * ((s * s + 1) * (s * s + 1)) = 0 := by grind
    rcases Rat.mul_eq_zero.mp this with u | u
    · grind
    · rcases Rat.mul_eq_zero.mp u with u | u <;> contradiction
  exact ⟨n, P.gt1, P.lt1, P⟩
theorem Pl.back {p b : Rat} (h : Pl p b) : ((1 + p) / b * ((1 + p) / b) - 1) / ((1 + p) / b * ((1 + p) / b) + 1) = p := by
  obtain ⟨n, -, -, -⟩ := str_back h.str_pos
  rw [h.str_sq] at *
  have l := h.lt1
  have z : (1 + p) / (1 - p) * (1 - p) = 1 + p := Rat.div_mul_cancel (by grind)
  generalize (1 + p) / (1 - p) = w at *
  have e : (w - 1) / (w + 1) * (w + 1) = w - 1 := Rat.div_mul_cancel n
  generalize (w - 1) / (w + 1) = y at *
  have : (y - p) * ((w + 1) * (1 - p)) = 0 := by grind
  rcases Rat.mul_eq_zero.mp this with u | u
  · grind
  · rcases Rat.mul_eq_zero.mp u with u | u
    · contradiction
    · grind
theorem fr_inv {s : Rat} (h : 0 < s) : PV.tup [.int (s.den : Int), .int s.num] = fr s⁻¹ := by
  have a : 0 < s.num := by have := Rat.num_nonneg.mpr (Rat.le_of_lt h); have n : s.num ≠ 0 := num_ne (by grind); omega
  have e1 : s⁻¹.num = (s.den : Int) := by
    rw [Rat.num_inv, Int.sign_eq_one_of_pos a, Int.one_mul]
  have e2 : ((s⁻¹.den : Nat) : Int) = s.num := by
    rw [Rat.den_inv, if_neg (by omega)]
    omega
  unfold fr
  rw [e1, e2]
theorem sqs_rs {n : Nat} {q : Rat} (h2 : q < 1) (hq : RS n q) : RS (n + 1) ((1 + q) / (1 - q)) := by
  have dn : ((q.den : Int) : Rat) ≠ 0 := by have := Rat.intCast_pos.mpr (dpos q); grind
  have e2 : q * ((q.den : Int) : Rat) = (q.num : Rat) := by
    have e : q = (q.num : Rat) / ((q.den : Int) : Rat) := by rw [← Rat.divInt_eq_div, Rat.num_divInt_den]
    rw [Rat.div_def] at e
    grind
  have n0 : ((q.den : Int) - q.num) ≠ 0 := fun z => by
    have z' : (((q.den : Int) - q.num : Int) : Rat) = 0 := by rw [z]; rfl
    rw [Rat.intCast_sub, ← e2] at z'
    have : (1 - q) * ((q.den : Int) : Rat) = 0 := by grind
    rcases Rat.mul_eq_zero.mp this with y | y
    · grind
    · exact dn y
  have e : (1 + q) / (1 - q) = Rat.divInt ((q.den : Int) + q.num) ((q.den : Int) - q.num) := by
    rw [Rat.divInt_eq_div, Rat.intCast_add, Rat.intCast_sub, ← e2]
    generalize ((q.den : Int) : Rat) = B at *
    have b0 : B - q * B ≠ 0 := fun z => by
      have : (1 - q) * B = 0 := by grind
      rcases Rat.mul_eq_zero.mp this with y | y
      · grind
      · exact dn y
    have y1 : (1 + q) / (1 - q) * (1 - q) = 1 + q := Rat.div_mul_cancel (by grind)
    have y2 : (B + q * B) / (B - q * B) * (B - q * B) = B + q * B := Rat.div_mul_cancel b0
    generalize (1 + q) / (1 - q) = x at *
    generalize (B + q * B) / (B - q * B) = y at *
    have : (x - y) * (B - q * B) = 0 := by grind
    rcases Rat.mul_eq_zero.mp this with u | u
    · grind
    · exact absurd u b0
  rw [e]
  have a := hq.den.addm hq.1
  have b := hq.den.sub hq.1
  exact RS.divInt a b n0
end Z
/-! A call that is lent the mutable objects: it sees them frozen, and tells a plain thing. -/
namespace Z
open PySem PySem.Spec PyProof.Rows L2
def scal : PV → Bool
  | .non => true
  | .bl _ => true
  | .int _ => true
  | .str _ => true
  | _ => false
def lendK (F : Fn) (st : List SO) : Option (List PV) → Res PV
  | some ys => (match F ys [] with
    | .ok v _ => if scal v = true then .ok v st else .bad
    | .exc c _ => .exc c st
    | .bad => .bad)
  | none => .bad
def lendR (F : Fn) (xs : List PV) (st : List SO) : Res PV := lendK F st (mapO (frzV st 0 9) xs)
def gLend (F : Fn) (gs : List G) : G := fun ρ st => bnd (gArgs gs ρ st) (lendR F)
theorem gLend_eq {F : Fn} {gs : List G} {ρ : REnv} {st : List SO} : gLend F gs ρ st = bnd (gArgs gs ρ st) fun xs st => lendR F xs st := rfl
theorem lend_ok {F : Fn} {xs ys : List PV} {st s : List SO} {v : PV} (h : mapO (frzV st 0 9) xs = some ys) (e : F ys [] = .ok v s) (c : scal v = true := by rfl) : lendR F xs st = .ok v st := by
  unfold lendR
  rw [h]
  show (match F ys [] with
    | .ok v _ => if scal v = true then Res.ok v st else Res.bad
    | .exc c _ => Res.exc c st
    | .bad => Res.bad) = _
  rw [e]
  exact if_pos c
theorem scal_rep {K : PySem.W.Frag} {w w' : Wd} {v : PV} {x : V} (c : scal v = true) (r : Rep K w v x) : Rep K w' v x := by
  cases v <;> first | exact r | cases c
/-- the world behind such a call -/
def Wd.back (w w' : Wd) : Wd := { F := fun a => if a ∈ w.adr then none else w'.F a, R := w.R, adr := w.adr }
theorem wback_ok {K : PySem.W.Frag} {w w' : Wd} {H H' : Hp} {st st' : List SO} (ok : WOk K w H st) (l : Le (w.left 0 H) w') (ok' : WOk K w' H' st') : WOk K (w.back w') H' st ∧ Le w (w.back w') := by
  have out : ∀ a o, w.F a = some o → a ∉ w.adr := fun a o e hm => by
    obtain ⟨k, hk, ek⟩ := List.getElem_of_mem hm
    have := (ok.ad k a (by rw [List.getElem?_eq_getElem hk, ek])).1
    rw [this] at e
    cases e
  have le : Le w (w.back w') := by
    refine ⟨⟨fun a o e => ?_, [], by rw [List.append_nil]; rfl⟩, rfl⟩
    show (if a ∈ w.adr then none else w'.F a) = some o
    rw [if_neg (out a o e)]
    exact l.F a o (left_F a o e)
  have R' : w'.R = w.R := l.R
  refine ⟨⟨fun a o e => ?_, fun a o e => ok'.fr a o (by rw [R']; exact e), fun a o e => ?_, ok.nd, ok.len, fun k a e => ⟨?_, (ok.ad k a e).2⟩, fun k a c e1 e2 => ?_⟩, le⟩
  · have e : (if a ∈ w.adr then none else w'.F a) = some o := e
    by_cases h : a ∈ w.adr
    · rw [if_pos h] at e; cases e
    · rw [if_neg h] at e; exact ok'.fz a o e
  · show (if a ∈ w.adr then none else w'.F a) = none
    have := ok'.dj a o (by rw [R']; exact e)
    rw [this]
    split <;> rfl
  · show (if a ∈ w.adr then none else w'.F a) = none
    exact if_pos (List.mem_of_getElem? e)
  · obtain ⟨o, h1, h2⟩ := ok.ob k a c e1 e2
    have e3 := left_new (n := 0) ok e1 (Nat.zero_le _)
    rw [h1] at e3
    refine ⟨o, ok'.fz a o (l.F a o e3), ?_⟩
    cases c with
    | lst xs => obtain ⟨vs, e, r⟩ := h2; exact ⟨vs, e, r.mono le⟩
    | dK xs => obtain ⟨vs, e, r⟩ := h2; exact ⟨vs, e, r.mono le⟩
theorem se_lend {X : Cx} {W : WX} {pos : Pos} {e : Expr} {es : List Expr} {gs : List G} {x : Str} {n k : Nat} {F : Fn} {p : Pos} (D : Def X.prog X.w X.K X.mg X.base x n k F) (hr : Room k X.A) (tk : L2N.Takes X W) (ha : L2.PA X (e :: es) (tGA X.K W (gArgs gs))) (hg : Gl X x := by rfl) (hn : gs.length = n := by rfl) (hdb : (x == ("__debug__" : Str)) = false := by decide)
    (he : starEach (e :: es) X.env = (false, eval e X.env) :: starEach es X.env := by rfl) (hpl : (backTo pos (starEach es X.env)).any (·.1) = false := by rfl) : PE X (.Call (.Name x p) (e :: es) [] pos) (tG X.K W (gLend F gs)) := by
  obtain ⟨f, fd, ps, hps, FO, hm, hk, hb⟩ := D
  refine pe_imp (pe_callS FO hr hg hm hk hb (fun σ => L2N.passAt tk σ) ha hdb he hpl) fun σ H Q ⟨w, ρ, st, ok, sl, po⟩ => ?_
  refine tGA_len ok sl po fun xs st1 w1 H1 vs hx l1 ok1 rs po1 => ?_
  have po1 : Post X.K W (Rep X.K) w1 σ (lendK F st1 (mapO (frzV st1 0 9) xs)) Q := po1
  have ok0 : WOk X.K { F := fun _ => none, R := w1.R, adr := [] } H1 [] := ⟨(fun a o e => by cases e), ok1.fr, (fun a o e => rfl), List.nodup_nil, rfl, (fun k a e => by cases e), (fun k a c e => by cases e)⟩
  have le0 : Le { F := fun _ => none, R := w1.R, adr := [] } w1 := ⟨⟨(fun a o e => by cases e), w1.adr, rfl⟩, rfl⟩
  obtain ⟨okL, -⟩ := left_ok ok0 le0 ok1 ⟨Nat.zero_le _, fun k hk => absurd hk (Nat.not_lt_zero _)⟩
  have okL : WOk X.K (w1.left 0 H1) H1 [] := okL
  cases ey : mapO (frzV st1 0 9) xs with
  | none => rw [ey] at po1; exact po1.elim
  | some ys =>
    rw [ey] at po1
    have ry : RepL X.K (w1.left 0 H1) ys vs := mapO_rep (fun x x' v => frz_rep ok1 9 x x' v) xs ys vs ey rs
    have hl : ys.length = n := by have := ry.length; have := rs.length; omega
    refine ⟨w1.left 0 H1, ys, [], hl, okL, ry, ?_⟩
    have po1 : Post X.K W (Rep X.K) w1 σ (match F ys [] with
      | .ok v _ => if scal v = true then .ok v st1 else .bad
      | .exc c _ => .exc c st1
      | .bad => .bad) Q := po1
    cases q : F ys [] with
    | bad => rw [q] at po1; exact po1.elim
    | exc c st2 =>
      rw [q] at po1
      intro w' H' l o
      obtain ⟨okB, leB⟩ := wback_ok ok1 l o
      exact po1 _ H' leB okB
    | ok v st2 =>
      rw [q] at po1
      have po1 : Post X.K W (Rep X.K) w1 σ (if scal v = true then .ok v st1 else .bad) Q := po1
      by_cases c : scal v = true
      · rw [if_pos c] at po1
        intro w' H' y l o ryy
        obtain ⟨okB, leB⟩ := wback_ok ok1 l o
        exact po1 _ H' y leB okB (scal_rep c ryy)
      · rw [if_neg c] at po1; exact po1.elim
/-! ### x in xs, flat things -/
def flV : PV → Option V
  | .non => some .non
  | .bl b => some (.bl b)
  | .int i => some (.int i)
  | .str s => some (.str s)
  | _ => none
def flL : List PV → Option (List V)
  | [] => some []
  | x :: xs => match flV x, flL xs with
    | some v, some vs => some (v :: vs)
    | _, _ => none
def seqIn (st : List SO) : PV → Option (List PV)
  | .tup xs => some xs
  | .lst xs => some xs
  | .ref k => match st[k]? with
    | some (.lst xs) => some xs
    | _ => none
  | _ => none
def inK (neg : Bool) : Option (List V) → Option V → Option PV
  | some vs, some v => some (.bl (if neg = true then !L2.inV v vs else L2.inV v vs))
  | _, _ => none
def inQ (neg : Bool) : F2 := fun st x y => inK neg ((seqIn st y).bind flL) (flV x)
theorem flV_rep {K : PySem.W.Frag} {w : Wd} {x : PV} {v u : V} (r : Rep K w x v) (e : flV x = some u) : v = u ∧ flatV u = true := by
  cases x <;> cases e <;> exact ⟨r, rfl⟩
theorem flL_rep {K : PySem.W.Frag} {w : Wd} : ∀ {xs : List PV} {vs us : List V}, RepL K w xs vs → flL xs = some us → vs = us ∧ us.all flatV = true
  | [], vs, us, r, e => by cases e; exact ⟨r, rfl⟩
  | x :: xs, vs, us, ⟨v, r, e1, h1, h2⟩, e => by
    have e : (match flV x, flL xs with | some v, some vs => some (v :: vs) | _, _ => none) = some us := e
    cases q1 : flV x with
    | none => rw [q1] at e; cases e
    | some u =>
      cases q2 : flL xs with
      | none => rw [q1, q2] at e; cases e
      | some us' =>
        rw [q1, q2] at e
        cases e
        obtain ⟨a, b⟩ := flV_rep h1 q1
        obtain ⟨c, d⟩ := flL_rep h2 q2
        subst a c
        exact ⟨e1, by rw [List.all_cons, b, d]; rfl⟩
theorem s_inQ {K : PySem.W.Frag} {neg : Bool} : Snd2 K (inQ neg) (rIn K neg) := by
  intro w H st x y z vx vy Q ok rx ry e q
  have e : inK neg ((seqIn st y).bind flL) (flV x) = some z := e
  cases e1 : (seqIn st y).bind flL with
  | none => rw [e1] at e; cases e
  | some us =>
    cases e2 : flV x with
    | none => rw [e1, e2] at e; cases e
    | some u =>
      rw [e1, e2] at e
      have e : some (PV.bl (if neg = true then !L2.inV u us else L2.inV u us)) = some z := e
      obtain ⟨rfl, f1⟩ := flV_rep rx e2
      cases e
      have fin := q w H _ (Le.refl _) ok rfl
      cases y with
      | tup xs =>
        obtain ⟨a, vs, rfl, sq, rs⟩ := ry
        obtain ⟨rfl, f2⟩ := flL_rep rs e1
        exact ⟨a, vs, rfl, .inr (sqt_mono ok.fz sq), f1, f2, fin⟩
      | lst xs =>
        obtain ⟨a, vs, rfl, sq, rs⟩ := ry
        obtain ⟨rfl, f2⟩ := flL_rep rs e1
        exact ⟨a, vs, rfl, .inl (sql_mono ok.fz sq), f1, f2, fin⟩
      | ref k =>
        obtain ⟨a, rfl, qa⟩ := ry
        obtain ⟨c, o, h1, h2, h3⟩ := ok.obj qa
        have e1 : (match st[k]? with | some (.lst xs) => some xs | _ => none).bind flL = some us := e1
        rw [h1] at e1
        cases c with
        | lst xs =>
          obtain ⟨vs, e3, rs⟩ := h3
          rw [e3] at h2
          obtain ⟨rfl, f2⟩ := flL_rep rs e1
          exact ⟨a, vs, rfl, .inl (.inl (.inl h2)), f1, f2, fin⟩
        | dK kvs => cases e1
      | _ => cases e1
/-- a number in a row of numbers -/
theorem flL_int : ∀ ns : List Int, flL (ns.map PV.int) = some (ns.map V.int)
  | [] => rfl
  | n :: ns => by
    show (match flV (PV.int n), flL (ns.map PV.int) with | some v, some vs => some (v :: vs) | _, _ => none) = _
    rw [flL_int ns]
    rfl
theorem inQ_int {neg : Bool} {st : List SO} {i : Int} {y : PV} {ns : List Int} (h : seqIn st y = some (ns.map .int)) : inQ neg st (.int i) y = some (.bl (if neg = true then !(ns.any fun y => y == i) else ns.any fun y => y == i)) := by
  unfold inQ
  rw [h]
  show inK neg (flL (ns.map PV.int)) (some (.int i)) = _
  rw [flL_int]
  show some (PV.bl (if neg = true then !L2.inV (.int i) (ns.map V.int) else L2.inV (.int i) (ns.map V.int))) = _
  have : L2.inV (.int i) (ns.map V.int) = ns.any fun y => y == i := by
    unfold L2.inV
    rw [List.any_map]
    rfl
  rw [this]
/-! ### an object that is new, grown -/
theorem set_new {st : List SO} {c d : SO} : (st ++ [c]).set st.length d = st ++ [d] := by
  rw [List.set_append_right _ _ (Nat.le_refl _), Nat.sub_self]
  rfl
theorem get_new {st : List SO} {c : SO} : (st ++ [c])[st.length]? = some c := by
  rw [List.getElem?_append_right (Nat.le_refl _), Nat.sub_self]
  rfl
theorem get_old {st l : List SO} {k : Nat} (h : k < st.length) : (st ++ l)[k]? = st[k]? := List.getElem?_append_left h
theorem set_old {st l : List SO} {k : Nat} {c : SO} (h : k < st.length) : (st ++ l).set k c = st.set k c ++ l := List.set_append_left _ _ h
theorem frz_list {st : List SO} {k : Nat} {xs : List PV} (h : st[k]? = some (.lst xs)) (hf : ∀ x ∈ xs, FZ 8 x) : frzV st 0 9 (.ref k) = some (.lst xs) := by
  have e : frzV st 0 9 (.ref k) = (match st[k]? with
    | some (.lst xs) => (mapO (frzV st 0 8) xs).map .lst
    | some (.dK kvs) => (mapO (fun p : Key × PV => (frzV st 0 8 p.2).map fun v => (p.1, v)) kvs).map .dct
    | none => none) := rfl
  rw [e, h]
  show (mapO (frzV st 0 8) xs).map PV.lst = _
  rw [mapO_id xs fun x hx => hf x hx 0 st 0]
  rfl
theorem lend2 {F : Fn} {x y x' y' : PV} {st s : List SO} {v : PV} (h1 : frzV st 0 9 x = some x') (h2 : frzV st 0 9 y = some y') (e : F [x', y'] [] = .ok v s) (c : scal v = true := by rfl) : lendR F [x, y] st = .ok v st := by
  refine lend_ok (ys := [x', y']) ?_ e c
  simp only [mapO, h1, h2]
theorem map_succ {α : Type} (f : Nat → α) (k : Nat) : (List.range (k + 1)).map f = (List.range k).map f ++ [f k] := by
  rw [List.range_succ, List.map_append]
  rfl
theorem st_chain {X : Cx} {W : WX} {pos : Pos} {a b c : Expr} {ga gb gc : G} {op op' : CmpOp} {f f' : F2} {r r' : R2} (ho : OpR X (compareOp op) r) (ho' : OpR X (compareOp op') r') (hs : Snd2 X.K f r) (hs' : Snd2 X.K f' r') (ha : PE X a (tG X.K W ga)) (hb : PE X b (tG X.K W gb)) (hc : PE X c (tG X.K W gc))
    (hm : lastMarks [op, op'] [b, c] = false := by with_unfolding_all rfl) : PT X (.Compare a [op, op'] [b, c] pos) (tGT X.K W (gB (gChain f f' ga gb gc))) :=
  pt_imp (pt_chain ho ho' ha hb hc hm) fun _ _ _ h => tTest_of (fun _ h' => tChain_of hs hs' h') h
end Z
/-! Parts of a list as new lists; tuple(); a def handed in. -/
namespace Z
open PySem PySem.Spec PyProof.Rows L2
/-! ### xs[lo:hi] of a list, a new list -/
def slNK (lo hi : Option Int) (st : List SO) : Option SO → Res PV
  | some (.lst xs) => .ok (.ref st.length) (st ++ [.lst (cutP xs lo hi)])
  | _ => .bad
def slN (lo hi : Option Int) (st : List SO) : PV → Res PV
  | .lst xs => .ok (.ref st.length) (st ++ [.lst (cutP xs lo hi)])
  | .ref k => slNK lo hi st st[k]?
  | _ => .bad
def gSlN (g : G) (lo hi : Option Int) : G := fun ρ st => bnd (g ρ st) fun v st => slN lo hi st v
theorem gSlN_eq {g : G} {lo hi : Option Int} {ρ : REnv} {st : List SO} : gSlN g lo hi ρ st = bnd (g ρ st) fun v st => slN lo hi st v := rfl
theorem slN_r {st : List SO} {k : Nat} {lo hi : Option Int} : slN lo hi st (.ref k) = slNK lo hi st st[k]? := rfl
theorem slN_l {st : List SO} {xs : List PV} {lo hi : Option Int} : slN lo hi st (.lst xs) = .ok (.ref st.length) (st ++ [.lst (cutP xs lo hi)]) := rfl
theorem slNK_s {st : List SO} {xs : List PV} {lo hi : Option Int} : slNK lo hi st (some (.lst xs)) = .ok (.ref st.length) (st ++ [.lst (cutP xs lo hi)]) := rfl
theorem se_slN {X : Cx} {W : WX} {pos p2 : Pos} {e : Expr} {elo ehi : Option Expr} {lo hi : Option Int} {g : G} (he : PE X e (tG X.K W g)) (hl : PO X elo (tOI lo)) (hh : PO X ehi (tOI hi)) : PE X (.Subscript e (.Slice elo ehi none p2) pos) (tG X.K W (gSlN g lo hi)) := by
  refine pe_imp (pe_slice (SlR.or sl_tup sl_list) he hl hh) fun σ H Q ⟨w, ρ, st, ok, sl, po⟩ => ⟨w, ρ, st, ok, sl, post_bind (rel2 := Rep X.K) po fun v st1 w1 H1 vx l1 ok1 rx po1 => ?_⟩
  have pick : ∀ {o : Option Int} {H : Hp} {Q : Option Int → Hp → Prop}, Q o H → tOI o σ H Q := fun {o H Q} q => by
    cases o with
    | none => exact q
    | some i => exact ⟨i, rfl, q⟩
  refine pick (pick ?_)
  have fin : ∀ (a : Addr) (xs : List PV) (vs : List V), RepL X.K w1 xs vs → Post X.K W (Rep X.K) w1 σ (.ok (.ref st1.length) (st1 ++ [.lst (cutP xs lo hi)])) Q → ∀ p, H1 p = none → Q (.ref p) (upd H1 p (.lst (cutV vs lo hi))) := fun a xs vs rs po p hp => by
    refine po (w1.new p) _ _ (le_new w1 p) (ok1.new hp (c := .lst (cutP xs lo hi)) ⟨_, rfl, ?_⟩) ⟨p, rfl, ?_⟩
    · unfold cutV cutP
      rw [rs.length]
      exact ((rs.drop _).take _)
    · show (w1.adr ++ [p])[st1.length]? = some p
      rw [← ok1.len]; simp
  cases v with
  | lst xs =>
    obtain ⟨a, vs, ev, sq, rs⟩ := rx
    exact .inr ⟨a, vs, ev, sql_mono ok1.fz sq, fin a xs vs rs po1⟩
  | ref k =>
    obtain ⟨a, ev, qa⟩ := rx
    obtain ⟨c, o, h1, h2, h3⟩ := ok1.obj qa
    have po1 : Post X.K W (Rep X.K) w1 σ (slNK lo hi st1 st1[k]?) Q := po1
    rw [h1] at po1
    cases c with
    | lst xs =>
      obtain ⟨vs, f1, rs⟩ := h3
      subst f1
      exact .inr ⟨a, vs, ev, .inl (.inl h2), fin a xs vs rs po1⟩
    | dK _ => exact po1.elim
  | _ => exact po1.elim
/-! ### xs[::-1] of a list, a new list -/
def revNK (st : List SO) : Option SO → Res PV
  | some (.lst xs) => .ok (.ref st.length) (st ++ [.lst xs.reverse])
  | _ => .bad
def revN (st : List SO) : PV → Res PV
  | .lst xs => .ok (.ref st.length) (st ++ [.lst xs.reverse])
  | .ref k => revNK st st[k]?
  | _ => .bad
def gRevN (g : G) : G := fun ρ st => bnd (g ρ st) fun v st => revN st v
theorem gRevN_eq {g : G} {ρ : REnv} {st : List SO} : gRevN g ρ st = bnd (g ρ st) fun v st => revN st v := rfl
theorem revN_r {st : List SO} {k : Nat} : revN st (.ref k) = revNK st st[k]? := rfl
theorem revNK_s {st : List SO} {xs : List PV} : revNK st (some (.lst xs)) = .ok (.ref st.length) (st ++ [.lst xs.reverse]) := rfl
theorem repL_rev {K : PySem.W.Frag} {w : Wd} : ∀ {xs : List PV} {vs : List V}, RepL K w xs vs → RepL K w xs.reverse vs.reverse
  | [], vs, r => by cases r; rfl
  | x :: xs, vs, ⟨v, r, e, h1, h2⟩ => by
    rw [e, List.reverse_cons, List.reverse_cons]
    exact (repL_rev h2).append ⟨v, [], rfl, h1, rfl⟩
theorem se_revN {X : Cx} {W : WX} {e : Expr} {g : G} {k : Nat} {p1 p2 p3 pos : Pos} (he : PE X e (tG X.K W g)) : PE X (.Subscript e (.Slice none none (some (.UnaryOp .USub (.Constant (.int 1) k p1) p2)) p3) pos) (tG X.K W (gRevN g)) := by
  refine pe_imp (pe_revL he) fun σ H Q ⟨w, ρ, st, ok, sl, po⟩ => ⟨w, ρ, st, ok, sl, post_bind (rel2 := Rep X.K) po fun v st1 w1 H1 vx l1 ok1 rx po1 => ?_⟩
  have fin : ∀ (xs : List PV) (vs : List V), RepL X.K w1 xs vs → Post X.K W (Rep X.K) w1 σ (.ok (.ref st1.length) (st1 ++ [.lst xs.reverse])) Q → ∀ p, H1 p = none → Q (.ref p) (upd H1 p (.lst vs.reverse)) := fun xs vs rs po p hp => by
    refine po (w1.new p) _ _ (le_new w1 p) (ok1.new hp (c := .lst xs.reverse) ⟨_, rfl, repL_rev rs⟩) ⟨p, rfl, ?_⟩
    show (w1.adr ++ [p])[st1.length]? = some p
    rw [← ok1.len]; simp
  cases v with
  | lst xs =>
    obtain ⟨a, vs, ev, sq, rs⟩ := rx
    exact ⟨a, vs, ev, sql_mono ok1.fz sq, fin xs vs rs po1⟩
  | ref k =>
    obtain ⟨a, ev, qa⟩ := rx
    obtain ⟨c, o, h1, h2, h3⟩ := ok1.obj qa
    have po1 : Post X.K W (Rep X.K) w1 σ (revNK st1 st1[k]?) Q := po1
    rw [h1] at po1
    cases c with
    | lst xs =>
      obtain ⟨vs, f1, rs⟩ := h3
      subst f1
      exact ⟨a, vs, ev, .inl (.inl h2), fin xs vs rs po1⟩
    | dK _ => exact po1.elim
  | _ => exact po1.elim
/-! ### tuple() -/
def tupleV : FL := fun st xs => match xs with
  | [.tup ys] => some (.tup ys)
  | [.lst ys] => some (.tup ys)
  | [.ref k] => lstK st[k]? fun ys => some (.tup ys)
  | _ => none
theorem tupleV_r {st : List SO} {k : Nat} : tupleV st [.ref k] = lstK st[k]? fun ys => some (.tup ys) := rfl
theorem tupleV_l {st : List SO} {xs : List PV} : tupleV st [.lst xs] = some (.tup xs) := rfl
theorem s_tupleof {K : PySem.W.Frag} : SndL K tupleV (fun xs H Q => ∃ p ys, xs = [.ref p] ∧ ((SqL K H p ys ∧ ∀ l, H l = none → Q (.ref l) (upd H l (.tup ys))) ∨ (SqT K H p ys ∧ Q (.ref p) H))) := by
  intro w H st xs z vs Q ok rs e q
  rcases xs with _ | ⟨x, _ | ⟨y, ys⟩⟩
  · cases e
  · obtain ⟨v, ev, rx⟩ := repl1 rs
    cases x with
    | tup ys =>
      cases e
      obtain ⟨p, us, e2, sq, rr⟩ := rx
      exact ⟨p, us, by rw [ev, e2], .inr ⟨sqt_mono ok.fz sq, q w H _ (Le.refl _) ok ⟨p, us, rfl, sq, rr⟩⟩⟩
    | lst ys =>
      cases e
      obtain ⟨p, us, e2, sq, rr⟩ := rx
      exact ⟨p, us, by rw [ev, e2], .inl ⟨sql_mono ok.fz sq, fun l hl => q (w.frz l (.tup us)) _ _ (le_frz ok hl _) (ok.frz hl _) ⟨l, us, rfl, .inl (.inl upd_same), rr.mono (le_frz ok hl _)⟩⟩⟩
    | ref k =>
      obtain ⟨p, e2, q1⟩ := rx
      obtain ⟨c1, o1, h1, h2, h3⟩ := ok.obj q1
      have e : lstK st[k]? (fun ys => some (PV.tup ys)) = some z := e
      rw [h1] at e
      cases c1 with
      | lst ys =>
        cases e
        obtain ⟨us, f1, rr⟩ := h3
        subst f1
        exact ⟨p, us, by rw [ev, e2], .inl ⟨.inl (.inl h2), fun l hl => q (w.frz l (.tup us)) _ _ (le_frz ok hl _) (ok.frz hl _) ⟨l, us, rfl, .inl (.inl upd_same), rr.mono (le_frz ok hl _)⟩⟩⟩
      | dK _ => cases e
    | _ => cases e
  · cases x <;> cases e
/-! ### a def that was handed in -/
def callV : List Str → List Fn → PV → Option Fn
  | x :: xs, F :: Fs, .cls c => if c = x then some F else callV xs Fs (.cls c)
  | _, _, _ => none
def gCallV (xs : List Str) (Fs : List Fn) (gv : G) (gs : List G) : G := fun ρ st => bnd (gv ρ st) fun v st1 => callK (callV xs Fs v) (gArgs gs ρ st1)
theorem gCallV_eq {xs : List Str} {Fs : List Fn} {gv : G} {gs : List G} {ρ : REnv} {st : List SO} : gCallV xs Fs gv gs ρ st = bnd (gv ρ st) fun v st1 => callK (callV xs Fs v) (gArgs gs ρ st1) := rfl
theorem callV_get : ∀ {xs : List Str} {Fs : List Fn} {v : PV} {F : Fn}, callV xs Fs v = some F → ∃ (c : Str) (i : Nat), v = .cls c ∧ xs[i]? = some c ∧ Fs[i]? = some F
  | [], [], _, _, e => by cases e
  | [], _ :: _, _, _, e => by cases e
  | _ :: _, [], _, _, e => by cases e
  | x :: xs, F :: Fs, v, G, e => by
    cases v with
    | cls c =>
      have e : (if c = x then some F else callV xs Fs (.cls c)) = some G := e
      by_cases h : c = x
      · rw [if_pos h] at e
        cases e
        exact ⟨c, 0, rfl, by rw [h]; rfl, rfl⟩
      · rw [if_neg h] at e
        obtain ⟨c', i, e1, e2, e3⟩ := callV_get e
        exact ⟨c', i + 1, e1, by simpa using e2, by simpa using e3⟩
    | _ => cases e
theorem se_callV {X : Cx} {W : WX} {pos : Pos} {fe e : Expr} {es : List Expr} {n k : Nat} {xs : List Str} {Fs : List Fn} {gv : G} {gs : List G} (D : DefsAt X.prog X.w X.K X.mg X.base n k xs Fs) (hr : Room k X.A) (tk : L2N.Takes X W)
    (hf : PE X fe (tG X.K W gv)) (ha : L2.PA X (e :: es) (tGA X.K W (gArgs gs))) (hn : gs.length = n := by rfl)
    (ht : eval (.Call fe (e :: es) [] pos) X.env = (do callWith pos (← eval fe X.env) [] (backTo pos (starEach (e :: es) X.env)) (backToKw pos (keywordEach [] X.env))) := by rfl)
    (he : starEach (e :: es) X.env = (false, eval e X.env) :: starEach es X.env := by rfl) (hpl : (backTo pos (starEach es X.env)).any (·.1) = false := by rfl) : PE X (.Call fe (e :: es) [] pos) (tG X.K W (gCallV xs Fs gv gs)) := by
  refine ⟨fun pins sh σ H Q I ⟨w, ρ, st, ok, sl, po⟩ => ?_⟩
  have po : Post X.K W (Rep X.K) w σ (bnd (gv ρ st) fun v st1 => callK (callV xs Fs v) (gArgs gs ρ st1)) Q := po
  have body : tG X.K W gv σ H (fun y H1 => ∃ (x : Str) (F : Fn) (i : Nat), y = V.ref (He.ga X.K x) ∧ xs[i]? = some x ∧ Fs[i]? = some F ∧ tGA X.K W (gArgs gs) σ H1 fun vs H2 => spF X.K n F vs H2 Q (WE W σ)) := by
    refine ⟨w, ρ, st, ok, sl, ?_⟩
    cases eg : gv ρ st with
    | exc c st1 => rw [eg] at po; exact po
    | bad => rw [eg] at po; exact po.elim
    | ok v st1 =>
      rw [eg] at po
      have po : Post X.K W (Rep X.K) w σ (callK (callV xs Fs v) (gArgs gs ρ st1)) Q := po
      cases ec : callV xs Fs v with
      | none => rw [ec] at po; exact po.elim
      | some F =>
        rw [ec] at po
        have po3 : Post X.K W (Rep X.K) w σ (bnd (gArgs gs ρ st1) F) Q := po
        obtain ⟨x, i, rfl, hx, hF⟩ := callV_get ec
        intro w' H' y l o ry
        refine ⟨x, F, i, ry, hx, hF, ?_⟩
        refine tGA_len o (sl.mono l) (Post.mono l po3) fun ys st2 w2 H2 vs hl l2 ok2 rs po2 => ⟨w2, ys, st2, by rw [hl, hn], ok2, rs, ?_⟩
        cases q : F ys st2 with
        | ok v st3 => rw [q] at po2; exact po2
        | exc c st3 => rw [q] at po2; exact po2
        | bad => rw [q] at po2; exact po2.elim
  refine Call_ (thn (hf.run pins sh σ H _ I body) ?_) ht
  rintro u s1 ⟨y, H1, I1, ry, x, F, i, ey, hx, hF, q⟩
  subst ey
  cases ry
  obtain ⟨x', hx', j, fd, ps, hj, hps, FO, hk, hb⟩ := defsAt_get D hF
  rw [hx] at hx'
  cases hx'
  refine PySem.W.callWith_K (first := []) (h₀ := X.base) I1.ok.mod.kin hk (thn (ha.run pos pins s1 σ H1 _ I1 q) ?_) he hpl
  rintro us s2 ⟨vs, H2, I2, rv, here⟩
  exact ⟨I2.kIn, run_fnS FO (hr.mono hj) hb (L2N.passAt tk σ) I2 rv here⟩
end Z
/-! len(set(xs)) of a list of tuples of ints and of such tuples. -/
namespace Z
open PySem PySem.Spec PyProof.Rows L2
/-! ### keys of numbers alone -/
mutual
def numK : NestedKey → Bool
  | .num _ => true
  | .tup ks => numKs ks
  | .none => false
  | .text _ => false
def numKs : List NestedKey → Bool
  | [] => true
  | k :: ks => numK k && numKs ks
end
/-- the tuple at b is the key k -/
structure IsK (h : Heap) (k : NestedKey) (b : Addr) : Prop where
  is : NestedIs h k (.ref b)
  dep : k.depth ≤ 8
  num : numK k = true
theorem IsK.keep {h h' : Heap} {k : NestedKey} {b : Addr} (x : IsK h k b) (hk : ∀ c o, h.get? c = some o → h'.get? c = some o) : IsK h' k b :=
  ⟨NestedIs.at (fun a o _ _ e _ => hk a o e) k _ x.is, x.dep, x.num⟩
theorem IsK.same {h h' : Heap} {k : NestedKey} {a b : Addr} {o : Obj} {es : Array (Int × Value)} {ep : Nat} {t : SetTable} (x : IsK h k b) (ho : h.get? a = some o) (hd : o.data = .set es ep t) (hs : Heap.SameBut a h h') : IsK h' k b :=
  ⟨NestedIs.at (fun c u _ _ e q => (hs.2 c (fun z => by
    subst z
    rw [ho] at e
    cases e
    rw [hd] at q
    cases q)).trans e) k _ x.is, x.dep, x.num⟩
section
variable {P : Program} {w : World} {A : Around} {E : Value → Shared → Prop} {s : Shared}
/-- a question of a value that tells b -/
def Says (P : Program) (w : World) (f : Value → Sem Bool) (b : Bool) (s : Shared) (v : Value) : Prop := ∀ (A : Around) (E : Value → Shared → Prop) (Q : Bool → Shared → Prop), Q b s → wpAny (model P w) A (f v) Q E s
mutual
theorem by_key : ∀ (k : NestedKey) (v : Value) (n : Nat) (s : Shared), NestedIs s.heap k v → numK k = true → k.depth ≤ n → Says P w (hashByValue n) true s v
  | .num i, _, n, s, x, _, _ => fun A E Q h => by
    cases x <;> cases n <;> exact wpAny_pure h
  | .tup ks, _, n, s, x, hm, hn => fun A E Q h => by
    cases x with
    | tup ho hc hd hk =>
      simp only [NestedKey.depth] at hn
      cases n with
      | zero => omega
      | succ n =>
        have all := by_keys ks _ n s hk hm (by omega)
        unfold hashByValue
        refine wpAny_bind (wpAny_specialOf ⟨_, ho, hc⟩ F.slot_tuple_hash.lookup ?_)
        show wpAny _ _ (seqItems? (.ref _) >>= _) _ _ s
        refine wpAny_bind (wpAny_seqItems ho hd (wpAny_bind ?_))
        show wpAny _ _ (forIn _ _ _) _ _ s
        rw [← Array.forIn_toList]
        refine wpAny_forIn_list _ (fun rest r s' => r.1 = none ∧ s' = s ∧ ∀ v ∈ rest, Says P w (hashByValue n) true s v) _ ?_ ?_ _ _ ⟨rfl, rfl, all⟩
        · rintro v rest r s' ⟨hr, rfl, ha⟩
          refine wpAny_bind (ha v List.mem_cons_self _ _ _ ?_)
          simp only [Bool.not_true, Bool.false_eq_true, if_false]
          exact wpAny_pure ⟨rfl, rfl, fun u hu => ha u (List.mem_cons_of_mem _ hu)⟩
        · rintro ⟨r1, r2⟩ s' ⟨hr, rfl, _⟩
          simp only at hr
          subst hr
          exact wpAny_pure h
  | .none, _, n, s, x, hm, _ => nomatch hm
  | .text _, _, n, s, x, hm, _ => nomatch hm
theorem by_keys : ∀ (ks : List NestedKey) (vs : List Value) (n : Nat) (s : Shared), NestedAll s.heap ks vs → numKs ks = true → NestedKey.depthAll ks ≤ n → ∀ v ∈ vs, Says P w (hashByValue n) true s v
  | [], _, n, s, x, _, _, v, hv => by cases x; cases hv
  | k :: ks, _, n, s, x, hm, hn, v, hv => by
    cases x with
    | cons x1 x2 =>
      simp only [NestedKey.depthAll] at hn
      unfold numKs at hm
      rw [Bool.and_eq_true] at hm
      rcases List.mem_cons.mp hv with e | hv
      · rw [e]; exact by_key k _ n s x1 hm.1 (by omega)
      · exact by_keys ks _ n s x2 hm.2 (by omega) v hv
end
mutual
theorem cls_key : ∀ (k : NestedKey) (v : Value) (n : Nat) (s : Shared), NestedIs s.heap k v → numK k = true → k.depth ≤ n → Says P w (ofAClassStatement n) false s v
  | .num i, _, n, s, x, _, _ => fun A E Q h => by
    cases x <;> cases n <;> exact wpAny_pure h
  | .tup ks, _, n, s, x, hm, hn => fun A E Q h => by
    cases x with
    | tup ho hc hd hk =>
      simp only [NestedKey.depth] at hn
      cases n with
      | zero => omega
      | succ n =>
        have all := cls_keys ks _ n s hk hm (by omega)
        unfold ofAClassStatement
        refine wpAny_bind (wpAny_typeOf ⟨_, ho, hc⟩ ?_)
        dsimp only
        have e : (("tuple" : String) == "tuple") = true := by decide
        simp only [e, if_true, Bool.not_true, Bool.false_eq_true, if_false]
        try refine wpAny_bind (wpAny_pure ?_)
        try simp only [Bool.not_true, Bool.false_eq_true, if_false]
        show wpAny _ _ (seqItems? (.ref _) >>= _) _ _ s
        refine wpAny_bind (wpAny_seqItems ho hd ?_)
        dsimp only
        refine wpAny_bind ?_
        show wpAny _ _ (forIn _ _ _) _ _ s
        rw [← Array.forIn_toList]
        refine wpAny_forIn_list _ (fun rest r s' => r.1 = none ∧ s' = s ∧ ∀ v ∈ rest, Says P w (ofAClassStatement n) false s v) _ ?_ ?_ _ _ ⟨rfl, rfl, all⟩
        · rintro v rest r s' ⟨hr, rfl, ha⟩
          refine wpAny_bind (ha v List.mem_cons_self _ _ _ ?_)
          simp only [Bool.false_eq_true, if_false]
          exact wpAny_pure ⟨rfl, rfl, fun u hu => ha u (List.mem_cons_of_mem _ hu)⟩
        · rintro ⟨r1, r2⟩ s' ⟨hr, rfl, _⟩
          simp only at hr
          subst hr
          exact wpAny_pure h
  | .none, _, n, s, x, hm, _ => nomatch hm
  | .text _, _, n, s, x, hm, _ => nomatch hm
theorem cls_keys : ∀ (ks : List NestedKey) (vs : List Value) (n : Nat) (s : Shared), NestedAll s.heap ks vs → numKs ks = true → NestedKey.depthAll ks ≤ n → ∀ v ∈ vs, Says P w (ofAClassStatement n) false s v
  | [], _, n, s, x, _, _, v, hv => by cases x; cases hv
  | k :: ks, _, n, s, x, hm, hn, v, hv => by
    cases x with
    | cons x1 x2 =>
      simp only [NestedKey.depthAll] at hn
      unfold numKs at hm
      rw [Bool.and_eq_true] at hm
      rcases List.mem_cons.mp hv with e | hv
      · rw [e]; exact cls_key k _ n s x1 hm.1 (by omega)
      · exact cls_keys ks _ n s x2 hm.2 (by omega) v hv
end
/-- the kit's kind of nested keys, at such a key -/
theorem IsK.kd {h : Heap} {k : NestedKey} {b : Addr} (x : IsK h k b) : (nestedKind P w).is h k b := ⟨x.is, x.dep⟩
/-- a search among such keys shows nothing -/
theorem seen_keys {k : NestedKey} {b : Addr} {Q : Bool → Shared → Prop} (hk : IsK s.heap k b) {ys : List Value} (hy : ∀ y ∈ ys, ∃ k' c, y = Value.ref c ∧ IsK s.heap k' c) (h : Q false s) :
    wpAny (model P w) A (searchCouldBeSeen (.ref b) ys) Q E s := by
  unfold searchCouldBeSeen
  refine wpAny_bind ?_
  refine wpAny_forIn_list _ (fun rest r s' => r.1 = none ∧ s' = s ∧ ∀ y ∈ rest, ∃ k' c, y = Value.ref c ∧ IsK s.heap k' c) _ ?_ ?_ _ _ ⟨rfl, rfl, hy⟩
  · rintro v rest r s' ⟨hr, rfl, ha⟩
    obtain ⟨k', c, rfl, hc⟩ := ha v List.mem_cons_self
    have rest' : ∀ y ∈ rest, ∃ k' c, y = Value.ref c ∧ IsK s'.heap k' c := fun u hu => ha u (List.mem_cons_of_mem _ hu)
    dsimp only
    by_cases hv : (b == c || (carriedByValue (.ref b) && carriedByValue (.ref c))) = true
    · exact wp_if_pos hv (wpAny_pure ⟨rfl, rfl, rest'⟩)
    · refine wp_if_neg hv ?_
      refine wpAny_bind ((nestedKind P w).quiet hk.kd ?_)
      simp only [Bool.not_true, Bool.false_eq_true, if_false]
      refine wpAny_bind ((nestedKind P w).quiet hc.kd ?_)
      simp only [Bool.not_true, Bool.false_eq_true, if_false]
      refine wpAny_bind (cls_key k _ 8 _ hk.is hk.num hk.dep _ _ _ ?_)
      simp only [Bool.false_eq_true, if_false]
      refine wpAny_bind (cls_key k' _ 8 _ hc.is hc.num hc.dep _ _ _ ?_)
      simp only [Bool.false_eq_true, if_false]
      exact wpAny_pure ⟨rfl, rfl, rest'⟩
  · rintro ⟨r1, r2⟩ s' ⟨hr, rfl, _⟩
    simp only at hr
    subst hr
    exact wpAny_pure h
end

/-! ### the table of a set of such keys -/
abbrev KL := List (Addr × NestedKey)
def rowK (w : World) (p : Addr × NestedKey) : Int × Value := (p.2.hash w, Value.ref p.1)
structure TabK (w : World) (h : Heap) (a : Addr) (L : KL) (es : Array (Int × Value)) (ep : Nat) (t : SetTable) : Prop where
  ob : ∃ o, h.get? a = some o ∧ o.ExactSet ∧ o.data = .set es ep t
  rows : es.toList = L.map (rowK w)
  tab : TabOk t (L.map fun p => p.2.hash w)
  nd : (L.map (·.2)).Nodup
  key : ∀ p ∈ L, IsK h p.2 p.1
  room : L.length * 5 < t.mask * 3
  few : L.length < 64
theorem size_of_rows {w : World} {L : KL} {es : Array (Int × Value)} (r : es.toList = L.map (rowK w)) : es.size = L.length := by
  have h := congrArg List.length r
  rwa [Array.length_toList, List.length_map] at h
theorem at_row {w : World} {L : KL} {es : Array (Int × Value)} (r : es.toList = L.map (rowK w)) (i : Nat) : es[i]? = L[i]?.map (rowK w) := by
  rw [← Array.getElem?_toList, r, List.getElem?_map]
section
variable {P : Program} {w : World} {A : Around} {E : Value → Shared → Prop} {s : Shared} {a : Addr} {L : KL} {es : Array (Int × Value)} {ep : Nat} {t : SetTable}
theorem TabK.fits {h : Heap} (R : TabK w h a L es ep t) : t.fits es.size = true := by
  have h1 := R.tab.sz
  rw [List.length_map] at h1
  have h2 := size_of_rows R.rows
  have h3 := R.room
  unfold SetTable.fits SetTable.fill
  rw [R.tab.dm, Bool.and_eq_true, beq_iff_eq, decide_eq_true_eq]
  show t.place.size = es.size ∧ t.place.size + 0 ≤ t.mask
  omega
theorem TabK.gw {h : Heap} (R : TabK w h a L es ep t) : ¬ t.gaveWay = true := by
  unfold SetTable.gaveWay
  rw [mask_odd R.tab.mok]
  decide
/-- the c-th step of a search for the hash g -/
abbrev stepAt (m : Nat) (g : Int) (c : Nat) : SetTable.Probe := nth m (runAt m (SetTable.bits g % (m + 1)) (SetTable.bits g)) c
theorem no_dummy (m : Nat) : ∀ (n : Nat) (p : SetTable.Probe), p.dummy = none → (nth m p n).dummy = none
  | 0, _, h => h
  | n + 1, p, h => no_dummy m n (adv m p) (by unfold adv; split <;> exact h)
theorem step_add (m : Nat) (g : Int) (c q : Nat) : nth m (stepAt m g c) q = stepAt m g (c + q) := (nth_add m c _ q).symm
/-- the search, from the c-th step on -/
theorem srch (R : TabK w s.heap a L es ep t) {x : Addr} {k : NestedKey} {g : Int} (eg : k.hash w = g) (hx : IsK s.heap k x) (hu : (nestedKind P w).room A) {K : Nat} (hKf : K < 10 * SetTable.turns t.mask)
    (hK : way t.mask g K ∉ t.place.toList) (hKb : ∀ c, c < K → way t.mask g c ∈ t.place.toList) {Q : SetFound → Shared → Prop} (hin : k ∈ L.map (·.2) → Q (.there none) s) (hout : k ∉ L.map (·.2) → Q (.free (way t.mask g K) false) s) :
    ∀ (f c : Nat) (stand : Option SetTable.Probe), stand.getD (t.probeStart g) = stepAt t.mask g c → c ≤ K → K - c < f → (∀ (i : Nat) p, L[i]? = some p → p.2 = k → ∃ c', c ≤ c' ∧ c' < K ∧ t.place.toList[i]? = some (way t.mask g c')) →
      wpAny (model P w) A (setSearchFrom a (.ref x) g true f stand) Q E s
  | 0, c, stand, _, _, hf, _ => absurd hf (Nat.not_lt_zero _)
  | f + 1, c, stand, hst, hc, hf, hre => by
    obtain ⟨o, ho, hex, hd⟩ := R.ob
    rw [setSearchFrom_succ]
    refine wpAny_bind (wpAny_setState_of ho hd R.fits ?_)
    dsimp only
    refine wp_if_neg R.gw ?_
    try refine wpAny_bind (wpAny_pure ?_)
    have jj : ∀ q, (nth t.mask (stepAt t.mask g c) q).j = way t.mask g (c + q) := fun q => congrArg SetTable.Probe.j (step_add t.mask g c q)
    have ends : c + (K - c) = K := by omega
    have spec := go_spec t R.tab.ris R.tab.dm (fun i => (es[i]?.map (·.1)).getD 0) g (10 * SetTable.turns t.mask) (K - c) (stepAt t.mask g c) (no_dummy _ _ _ rfl) (by omega) (fun q hq => by rw [jj]; exact hKb _ (by omega)) (by rw [jj, ends]; exact hK)
    have ha : ∀ (i : Nat) p, L[i]? = some p → (fun i => (es[i]?.map (·.1)).getD 0) i = p.2.hash w := fun i p hp => by
      show (es[i]?.map (·.1)).getD 0 = _
      rw [at_row R.rows, hp]
      rfl
    rcases spec with ⟨q, i, hq, hi, hh, hno, hpr⟩ | ⟨hno, hpr⟩
    · have hpr' : t.probe (fun i => (es[i]?.map (·.1)).getD 0) g (stand.getD (t.probeStart g)) = some (.candidate (way t.mask g (c + q)) i (stepAt t.mask g (c + (q + 1)))) := by
        rw [hst, ← jj, ← step_add]
        exact hpr
      rw [hpr']
      dsimp only
      rw [jj] at hi
      have hil : i < L.length := by
        have h1 := (List.getElem?_eq_some_iff.mp hi).1
        have h2 := R.tab.sz
        rw [List.length_map] at h2
        rw [Array.length_toList] at h1
        omega
      have hp : L[i]? = some L[i] := List.getElem?_eq_getElem hil
      generalize L[i] = p at hp
      have hmem : p ∈ L := List.mem_of_getElem? hp
      have row : es[i]? = some (p.2.hash w, Value.ref p.1) := by rw [at_row R.rows, hp]; rfl
      have hsl : t.slot (way t.mask g (c + q)) = .live i := slot_live R.tab.ris hi
      have rest : wpAny (model P w) A (searchRest a (.ref x) g true f es t (way t.mask g (c + q)) i (stepAt t.mask g (c + (q + 1)))) Q E s := by
        unfold searchRest
        rw [row]
        dsimp only
        refine wpAny_bind (wpAny_holding ((nestedKind P w).eqBool hu (R.key p hmem).kd hx.kd ?_))
        refine wpAny_bind (wpAny_setState_of ho hd R.fits ?_)
        dsimp only
        by_cases hkk : p.2 = k
        · refine wp_if_pos (by simp [hkk]) (wpAny_pure (hin (List.mem_map.mpr ⟨p, hmem, hkk⟩)))
        · refine wp_if_neg (by simp [hkk]) ?_
          try refine wpAny_bind (wpAny_pure ?_)
          rw [sameMem]
          dsimp only
          simp only [if_true, hsl, row]
          refine wpAny_bind (wpAny_isSame_ref_self (wpAny_bind (wpAny_pure ?_)))
          simp only [if_true]
          refine wp_if_neg (by simp [hkk]) ?_
          refine srch R eg hx hu hKf hK hKb hin hout f (c + (q + 1)) _ rfl (by omega) (by omega) fun i0 p0 h0 hk0 => ?_
          obtain ⟨c', a1, a2, a3⟩ := hre i0 p0 h0 hk0
          refine ⟨c', ?_, a2, a3⟩
          have hash0 := (ha i0 p0 h0).trans ((congrArg (NestedKey.hash w) hk0).trans eg)
          rcases Nat.lt_trichotomy c' (c + q) with z | z | z
          · exact absurd hash0 (hno (c' - c) i0 (by omega) (by rw [jj, show c + (c' - c) = c' by omega]; exact a3))
          · rw [z] at a3
            have s0 := slot_live R.tab.ris a3
            rw [hsl] at s0
            injection s0 with s0
            rw [← s0, hp] at h0
            exact absurd ((congrArg Prod.snd (Option.some.inj h0)).trans hk0) hkk
          · omega
      by_cases hl : t.led = true
      · refine wp_if_neg (by simp [hl]) ?_
        try refine wpAny_bind (wpAny_pure ?_)
        exact rest
      · refine wp_if_pos (by simp [hl]) ?_
        refine wpAny_bind (seen_keys hx (fun y hy => ?_) ?_)
        · obtain ⟨e, he, ee⟩ := List.mem_map.mp hy
          have he1 : e ∈ es ∧ e.1 = g := by simpa using he
          have he2 : e ∈ es.toList := by simpa using he1.1
          rw [R.rows] at he2
          obtain ⟨p2, hp2, e2⟩ := List.mem_map.mp he2
          exact ⟨p2.2, p2.1, by rw [← ee, ← e2]; rfl, R.key p2 hp2⟩
        · refine wp_if_neg (by decide) ?_
          try refine wpAny_bind (wpAny_pure ?_)
          exact rest
    · have hpr' : t.probe (fun i => (es[i]?.map (·.1)).getD 0) g (stand.getD (t.probeStart g)) = some (.empty (way t.mask g K) none) := by
        have e2 : way t.mask g K = (nth t.mask (stepAt t.mask g c) (K - c)).j := by rw [jj, ends]
        rw [hst, e2]
        exact hpr
      rw [hpr']
      dsimp only
      refine wpAny_pure (hout fun hm => ?_)
      obtain ⟨p0, h0, hk0⟩ := List.mem_map.mp hm
      obtain ⟨i0, hi0, e0⟩ := List.getElem_of_mem h0
      have h00 : L[i0]? = some p0 := by rw [List.getElem?_eq_getElem hi0, e0]
      obtain ⟨c', a1, a2, a3⟩ := hre i0 p0 h00 hk0
      exact hno (c' - c) i0 (by omega) (by rw [jj, show c + (c' - c) = c' by omega]; exact a3) ((ha i0 p0 h00).trans ((congrArg (NestedKey.hash w) hk0).trans eg))
/-- as adding asks for it -/
theorem srch_add (R : TabK w s.heap a L es ep t) {x : Addr} {k : NestedKey} (hx : IsK s.heap k x) (hu : (nestedKind P w).room A) {Q : SetFound → Shared → Prop} (hin : k ∈ L.map (·.2) → Q (.there none) s)
    (hout : ∀ K, k ∉ L.map (·.2) → way t.mask (k.hash w) K ∉ t.place.toList → (∀ c, c < K → way t.mask (k.hash w) c ∈ t.place.toList) → Q (.free (way t.mask (k.hash w) K) false) s) :
    wpAny (model P w) A (setSearch a (.ref x) (k.hash w) true) Q E s := by
  have hroom := R.room
  obtain ⟨K, hKf, hK, hKb⟩ := R.tab.first (by rw [List.length_map]; omega) (k.hash w)
  have hbig : K < 100000 := by
    have : 10 * SetTable.turns t.mask ≤ 1420 := by
      unfold SetTable.turns
      rcases R.tab.mok with e | e | e <;> omega
    omega
  unfold setSearch
  refine srch R rfl hx hu hKf hK hKb hin (fun hn => hout K hn hK hKb) 100000 0 none rfl (Nat.zero_le _) (by omega) fun i p hp hk => ?_
  have hi : (L.map fun p => p.2.hash w)[i]? = some (k.hash w) := by rw [List.getElem?_map, hp, ← hk]; rfl
  have hil : i < t.place.toList.length := by
    have h1 := (List.getElem?_eq_some_iff.mp hp).1
    have h2 := R.tab.sz
    rw [List.length_map] at h2
    rw [Array.length_toList]
    omega
  have hj := List.getElem?_eq_getElem hil
  obtain ⟨c, hc, e⟩ := R.tab.before hK hi hj
  exact ⟨c, Nat.zero_le _, hc, by rw [hj, e]⟩
theorem pick_all {α : Type} : ∀ L : List α, (List.range L.length).filterMap (fun i => L[i]?) = L
  | [] => rfl
  | a :: l => by
    rw [List.length_cons, List.range_succ_eq_map, List.filterMap_cons_some (f := fun i => (a :: l)[i]?) (b := a) rfl, List.filterMap_map]
    congr 1
    exact pick_all l
theorem pick_hash {α β : Type} (L : List α) (f : α → β) (z : β) : ∀ l : List Nat, (∀ i ∈ l, i < L.length) → (l.filterMap fun i => L[i]?).map f = l.map fun i => (L.map f).getD i z
  | [], _ => rfl
  | i :: l, h => by
    have hi := h i List.mem_cons_self
    rw [List.filterMap_cons_some (List.getElem?_eq_getElem hi), List.map_cons, List.map_cons, pick_hash L f z l fun j hj => h j (List.mem_cons_of_mem _ hj)]
    congr 1
    rw [List.getD_eq_getElem?_getD, List.getElem?_map, List.getElem?_eq_getElem hi]
    rfl
/-- the rows in another order -/
theorem rows_order (L : KL) {es : Array (Int × Value)} {order : Array Nat} (hr : es.toList = L.map (rowK w)) (hp : order.toList.Perm (List.range L.length)) :
    ∃ L' : KL, (order.filterMap (es[·]?)).toList = L'.map (rowK w) ∧ L'.Perm L ∧ (L'.map fun p => p.2.hash w) = order.toList.map fun i => (es.map (·.1)).getD i 0 := by
  refine ⟨order.toList.filterMap fun i => L[i]?, ?_, ?_, ?_⟩
  · rw [Array.toList_filterMap, List.map_filterMap]
    congr 1
    funext i
    exact at_row hr i
  · have h := hp.filterMap fun i => L[i]?
    rwa [pick_all] at h
  · rw [pick_hash L (fun p => p.2.hash w) 0 _ fun i hi => List.mem_range.mp (hp.mem_iff.mp hi)]
    refine List.map_congr_left fun i _ => ?_
    rw [List.getD_eq_getElem?_getD, List.getElem?_map, Array.getD_eq_getD_getElem?, Array.getElem?_map, at_row hr i]
    cases L[i]? <;> rfl
/-- the table laid anew, larger -/
theorem relay_keys {o : Obj} (ho : s.heap.get? a = some o) (hex : o.ExactSet) (hd : o.data = .set es ep t) (hr : es.toList = L.map (rowK w)) (hsz : t.place.size = es.size) (hdm : t.dummies = #[]) (hfl : es.size ≤ t.mask)
    (nd : (L.map (·.2)).Nodup) (key : ∀ p ∈ L, IsK s.heap p.2 p.1) (few : L.length < 64) {wanted M : Nat} (hw : SetTable.sizeAbove wanted - 1 = M) (hM : MaskOk M) (hw2 : SetTable.sizeAbove wanted ≤ 128) (hn : L.length * 5 < M * 3) {Q : Unit → Shared → Prop}
    (hQ : ∀ h' (L' : KL) es' ep' t', Heap.SameBut a s.heap h' → TabK w h' a L' es' ep' t' → L'.Perm L → Q () { s with heap := h' }) : wpAny (model P w) A (setRelay a wanted) Q E s := by
  have hsl := size_of_rows hr
  have hfits : t.fits es.size = true := by
    unfold SetTable.fits SetTable.fill
    rw [hdm, Bool.and_eq_true, beq_iff_eq, decide_eq_true_eq]
    show t.place.size = es.size ∧ t.place.size + 0 ≤ t.mask
    omega
  obtain ⟨t', order, e, hp, T, em, _, _, _⟩ := relaid_ok t (hs := es.map (·.1)) (wanted := wanted) hw hM (by rw [Array.size_map, hsl]; omega)
  rw [Array.size_map, hsl] at hp
  obtain ⟨L', r1, r2, r3⟩ := rows_order L hr hp
  rw [← r3] at T
  have hs2 : (order.filterMap (es[·]?)).size = es.size := by rw [size_of_rows r1, r2.length_eq, hsl]
  rw [setRelay_eq]
  refine wpAny_bind (wpAny_setState_of ho hd hfits ?_)
  dsimp only
  refine wp_if_neg (by rw [sizeLine_eq]; omega) ?_
  try refine wpAny_bind (wpAny_pure ?_)
  rw [e]
  dsimp only
  refine wpAny_bind ?_
  refine wp_if_neg (by rw [hs2]; simp) ?_
  try refine wpAny_bind (wpAny_pure ?_)
  refine wpAny_pure ?_
  dsimp only
  refine wpAny_storeSet_of ho hd ?_ (by rw [hs2, hsl, sizeLine_eq]; omega)
  have sb : Heap.SameBut a s.heap (s.heap.update a (Obj.putSet (order.filterMap (es[·]?)) t')) := Heap.SameBut.update ..
  refine hQ _ L' _ (ep + 1) t' sb ⟨⟨_, store_at ho hd, ⟨hex.1, hex.2.1, hex.2.2⟩, rfl⟩, r1, T, (r2.map (·.2)).nodup_iff.mpr nd, fun p hp => (key p (r2.mem_iff.mp hp)).same ho hd sb, ?_, by rw [r2.length_eq]; exact few⟩ r2
  rw [r2.length_eq, em]
  exact hn
/-- one put in -/
theorem add_key (R : TabK w s.heap a L es ep t) {x : Addr} {k : NestedKey} (hx : IsK s.heap k x) (hu : (nestedKind P w).room A) (hfew : L.length + 1 < 64) {Q : Bool → Shared → Prop}
    (hQ : ∀ b h' (L' : KL) es' ep' t', Heap.SameBut a s.heap h' → TabK w h' a L' es' ep' t' → (k ∈ L.map (·.2) → L' = L) → (k ∉ L.map (·.2) → L'.Perm ((x, k) :: L)) → Q b { s with heap := h' }) :
    wpAny (model P w) A (setAddHashed a (.ref x) (k.hash w)) Q E s := by
  obtain ⟨o, ho, hex, hd⟩ := R.ob
  have hsl := size_of_rows R.rows
  have hroom := R.room
  unfold setAddHashed
  refine wpAny_holding ?_
  rw [show (100000 : Nat) = 99999 + 1 from rfl, setAddHashedIn_succ]
  refine wpAny_bind (wpAny_setState_of ho hd R.fits ?_)
  dsimp only
  refine wp_if_neg (by simp [byScan, Value.scannable]) ?_
  try refine wpAny_bind (wpAny_pure ?_)
  refine wpAny_bind (srch_add R hx hu (fun hm => ?_) fun K hm hK hb => ?_)
  · dsimp only
    exact wpAny_pure (hQ false s.heap L es ep t (Heap.SameBut.refl a s.heap) R (fun _ => rfl) fun z => absurd hm z)
  · dsimp only
    refine wpAny_bind (wpAny_setState_of ho hd R.fits ?_)
    dsimp only
    obtain ⟨q1, q2, q3, q4, _, _, _, _, q9⟩ := R.tab.put hK hb
    generalize t.put (way t.mask (k.hash w) K) = pt at q1 q3 q4 q9 ⊢
    obtain ⟨t1, n⟩ := pt
    dsimp only at q1 q3 q4 q9 ⊢
    rw [← q1] at q2 q3
    clear q1
    have hin : (SetTable.insertAt es n (k.hash w, Value.ref x)).toList = (L.take n ++ (x, k) :: L.drop n).map (rowK w) := by
      rw [SetTable.toList_insertAt, R.rows, List.map_append, List.map_cons, List.map_take, List.map_drop]
      rfl
    have pm := L2.put_perm L n (x, k)
    have hlen : (L.take n ++ (x, k) :: L.drop n).length = L.length + 1 := pm.length_eq
    have hhs : (L.take n ++ (x, k) :: L.drop n).map (fun p => p.2.hash w) = (L.map fun p => p.2.hash w).take n ++ k.hash w :: (L.map fun p => p.2.hash w).drop n := by
      rw [List.map_append, List.map_cons, List.map_take, List.map_drop]
    rw [← hhs] at q3
    have nd1 : ((L.take n ++ (x, k) :: L.drop n).map (·.2)).Nodup := (pm.map (·.2)).nodup_iff.mpr (by rw [List.map_cons]; exact List.nodup_cons.mpr ⟨hm, R.nd⟩)
    have hes := (size_of_rows hin).trans hlen
    generalize SetTable.insertAt es n (k.hash w, Value.ref x) = es1 at hin hes ⊢
    generalize L.take n ++ (x, k) :: L.drop n = L1 at pm hlen q3 nd1 hin
    -- by value: with either flag the flag's new value is of no account
    have cont : ∀ t2 : SetTable, t2.place = t1.place → t2.dummies = t1.dummies → t2.mask = t1.mask → t2.fill = t1.fill → wpAny (model P w) A (do
        storeSet a es1 t2
        if !false && t2.tooFull then setRelay a (SetTable.grown (es.size + 1))
        return true) Q E s := fun t2 d1 d2 d3 d4 => by
      have T2 : TabOk t2 (L1.map fun p => p.2.hash w) := ⟨by rw [d1]; exact q3.ris, by rw [d2]; exact q3.dm, by rw [d1]; exact q3.sz, by rw [d3]; exact q3.mok, by rw [d1, d3]; exact q3.bd, by rw [d1, d3]; exact q3.reach⟩
      rw [← d3] at q4
      rw [← d4] at q9
      refine wpAny_bind (wpAny_storeSet_of ho hd ?_ (by rw [hes, sizeLine_eq]; omega))
      have sb : Heap.SameBut a s.heap (s.heap.update a (Obj.putSet es1 t2)) := Heap.SameBut.update ..
      have ho1 := store_at (es' := es1) (t' := t2) ho hd
      generalize s.heap.update a (Obj.putSet es1 t2) = h1 at sb ho1 ⊢
      have key1 : ∀ p ∈ L1, IsK h1 p.2 p.1 := fun p hp => by
        rcases List.mem_cons.mp (pm.mem_iff.mp hp) with e | hp
        · rw [e]; exact hx.same ho hd sb
        · exact (R.key p hp).same ho hd sb
      by_cases hf : t2.tooFull = true
      · first
          | (refine wpAny_bind ?_; refine wp_if_pos (by simp [hf]) ?_)
          | (refine wp_if_pos (by simp [hf]) ?_; refine wpAny_bind ?_)
        have hfull : (L.length + 1) * 5 ≥ t2.mask * 3 := by
          have h := hf
          unfold SetTable.tooFull at h
          rw [decide_eq_true_eq, q9, List.length_map] at h
          exact h
        rw [hsl]
        have hsz1 : t2.place.size = es1.size := by
          have h := T2.sz
          rw [List.length_map, hlen] at h
          rw [h, hes]
        have two : (t.mask = 7 ∧ L.length = 4) ∨ (t.mask = 31 ∧ L.length = 18) := by
          rcases R.tab.mok with e | e | e
          · left; rw [q4, e] at hfull; rw [e] at hroom; exact ⟨e, by omega⟩
          · right; rw [q4, e] at hfull; rw [e] at hroom; exact ⟨e, by omega⟩
          · exfalso; rw [q4, e] at hfull; omega
        have go : ∀ M, SetTable.sizeAbove (SetTable.grown (L.length + 1)) - 1 = M → MaskOk M → SetTable.sizeAbove (SetTable.grown (L.length + 1)) ≤ 128 → (L.length + 1) * 5 < M * 3 →
            wpAny (model P w) A (setRelay a (SetTable.grown (L.length + 1))) (fun _ s' => wpAny (model P w) A (pure true) Q E s') E { s with heap := h1 } := fun M h1' h2' h3' h4' => by
          refine relay_keys (s := { s with heap := h1 }) ho1 ⟨hex.1, hex.2.1, hex.2.2⟩ rfl hin hsz1 T2.dm (by rw [hes, q4]; rcases two with ⟨e, e2⟩ | ⟨e, e2⟩ <;> omega) nd1 key1 (by rw [hlen]; exact hfew) h1' h2' h3' (by rw [hlen]; exact h4') ?_
          intro h2 L3 es2 ep2 t3 sb2 R2 pm2
          exact wpAny_pure (hQ true h2 L3 es2 ep2 t3 (sb.trans sb2) R2 (fun z => absurd z hm) fun _ => pm2.trans pm)
        rcases two with ⟨_, e2⟩ | ⟨_, e2⟩
        · exact go 31 (by rw [e2, size_20]) (.inr (.inl rfl)) (by rw [e2, size_20]; decide) (by omega)
        · exact go 127 (by rw [e2, size_76]) (.inr (.inr rfl)) (by rw [e2, size_76]; decide) (by omega)
      · first
          | refine wp_if_neg (by simp [hf]) ?_
          | (refine wpAny_bind ?_; refine wp_if_neg (by simp [hf]) ?_; refine wpAny_pure ?_)
        refine wpAny_pure (hQ true h1 L1 es1 (ep + 1) t2 sb ⟨⟨_, ho1, ⟨hex.1, hex.2.1, hex.2.2⟩, rfl⟩, hin, T2, nd1, key1, ?_, by rw [hlen]; exact hfew⟩ (fun z => absurd z hm) fun _ => pm)
        have h := hf
        unfold SetTable.tooFull at h
        rw [decide_eq_true_eq, q9, List.length_map] at h
        rw [hlen]
        omega
    by_cases hp1 : t1.plain = true
    · first
        | (refine wpAny_bind ?_; refine wp_if_pos hp1 ?_; refine by_key k _ 8 _ hx.is hx.num hx.dep _ _ _ ?_)
        | refine wp_if_pos hp1 (wpAny_bind (by_key k _ 8 _ hx.is hx.num hx.dep _ _ _ ?_))
      simp only [if_true]
      exact cont t1 rfl rfl rfl rfl
    · first
        | (refine wpAny_bind ?_; refine wp_if_neg hp1 ?_; refine wpAny_pure ?_)
        | refine wp_if_neg hp1 (wpAny_bind (wpAny_pure ?_))
      simp only [if_true]
      exact cont t1 rfl rfl rfl rfl
/-- what the set holds of the first i -/
structure Has (ks : KL) (i : Nat) (L : KL) : Prop where
  sub : ∀ p ∈ L, p ∈ ks.take i
  all : ∀ p ∈ ks.take i, p.2 ∈ L.map (·.2)
  len : L.length ≤ i
theorem Has.next {ks L L' : KL} {i : Nat} {x : Addr × NestedKey} (g : Has ks i L) (h : ks[i]? = some x) (c1 : x.2 ∈ L.map (·.2) → L' = L) (c2 : x.2 ∉ L.map (·.2) → L'.Perm (x :: L)) : Has ks (i + 1) L' := by
  have tk : ks.take (i + 1) = ks.take i ++ [x] := by rw [List.take_succ, h]; rfl
  by_cases c : x.2 ∈ L.map (·.2)
  · rw [c1 c]
    refine ⟨fun p hp => by rw [tk]; exact List.mem_append_left _ (g.sub p hp), fun p hp => ?_, Nat.le_succ_of_le g.len⟩
    rw [tk] at hp
    rcases List.mem_append.mp hp with z | z
    · exact g.all p z
    · rw [List.mem_singleton.mp z]; exact c
  · have pm := c2 c
    refine ⟨fun p hp => ?_, fun p hp => ?_, by rw [pm.length_eq, List.length_cons]; exact Nat.succ_le_succ g.len⟩
    · rw [tk]
      rcases List.mem_cons.mp (pm.mem_iff.mp hp) with e | z
      · rw [e]; exact List.mem_append_right _ (List.mem_singleton.mpr rfl)
      · exact List.mem_append_left _ (g.sub p z)
    · rw [(pm.map (·.2)).mem_iff, List.map_cons]
      rw [tk] at hp
      rcases List.mem_append.mp hp with z | z
      · exact List.mem_cons_of_mem _ (g.all p z)
      · rw [List.mem_singleton.mp z]; exact List.mem_cons_self
theorem TabK.keep {h h' : Heap} (R : TabK w h a L es ep t) (ha : ∀ o, h.get? a = some o → h'.get? a = some o) (hk : ∀ p ∈ L, IsK h' p.2 p.1) : TabK w h' a L es ep t := by
  obtain ⟨o, ho, r⟩ := R.ob
  exact ⟨⟨o, ha o ho, r⟩, R.rows, R.tab, R.nd, hk, R.room, R.few⟩
theorem tab_new {h : Heap} (ho : h.get? a = some { cls := .type "set", dict := none, data := .set #[] 0 (.fresh 0 0 (!w.params.followText "set-order")) }) : TabK w h a [] #[] 0 (.fresh 0 0 (!w.params.followText "set-order")) where
  ob := ⟨_, ho, ⟨rfl, rfl, rfl⟩, rfl⟩
  rows := rfl
  tab := ⟨List.Pairwise.nil, rfl, rfl, .inl rfl, fun x hx => (by cases hx), fun i h j hi => (by simp at hi)⟩
  nd := List.nodup_nil
  key := fun p hp => (by cases hp)
  room := by
    show 0 * 5 < 7 * 3
    decide
  few := by
    show 0 < 64
    decide
/-- the loop that fills it -/
theorem fill_loop {I : Addr} {fp wr : List Addr} {G : Array GenState → Array GenState → Prop} {n : Nat} {Pv : Nat → Value → Prop} {St : Nat → Shared → Prop} {R : Result → Shared → Prop}
    (W : WalksS P w A.in1 I fp wr G n Pv St) (S : Addr) (hSf : S ∉ fp) (ks : KL) (hn : n = ks.length) (hfew : ks.length < 64) (hval : ∀ i v, Pv i v → ∃ p, ks[i]? = some p ∧ v = .ref p.1)
    (h0 : Heap) (hk : ∀ p ∈ ks, IsK h0 p.2 p.1) (hS0 : h0.get? S = none) (hw0 : ∀ b ∈ wr, h0.get? b = none) (hu : (nestedKind P w).room A.in1) :
    ∀ (k i : Nat) (s : Shared), n - i = k → i ≤ n → St i s → (∀ b o, h0.get? b = some o → s.heap.get? b = some o) → (∃ L es ep t, TabK w s.heap S L es ep t ∧ Has ks i L) →
      (∀ s' L es ep t, Moved (S :: wr) G s s' → TabK w s'.heap S L es ep t → Has ks n L → (∀ b o, h0.get? b = some o → s'.heap.get? b = some o) → R (.ok (.ret .none)) s') →
      codeAny (model P w) A (.builtin "set.update.loop" ⟨[.ref S, .ref I], []⟩) R s := by
  have hSw : S ∉ wr := fun h => hSf (W.sub _ h)
  have hsub : ∀ b ∈ wr, b ∈ S :: wr := fun b hb => List.mem_cons_of_mem _ hb
  have keepM : ∀ {s s' : Shared}, Moved wr G s s' → (∀ b o, h0.get? b = some o → s.heap.get? b = some o) → ∀ b o, h0.get? b = some o → s'.heap.get? b = some o := fun hm hkp b o e =>
    hm.heap b o (fun hb => by rw [hw0 b hb] at e; cases e) (hkp b o e)
  intro k
  induction k with
  | zero =>
    intro i s hk' hi hst hkp ⟨L, es, ep, t, hS, g⟩ hR
    have hin : i = n := by omega
    subst hin
    refine codeAny_builtin F.entry_set_update_loop ?_
    rw [Around.under_plainId F.plain_set_update_loop _]
    show wpAny _ A.in1 (pyNext (.ref I) >>= _) _ _ s
    refine wpAny_bind (W.done s _ _ hst fun s' hm => ?_)
    show wpAny _ A.in1 (ret Value.none) _ _ s'
    have hkp' := keepM hm hkp
    exact wpAny_pure (hR s' L es ep t (hm.mono hsub) (hS.keep (fun o e => hm.heap S o hSw e) fun p hp => (hk p (List.mem_of_mem_take (g.sub p hp))).keep hkp') g hkp')
  | succ k ih =>
    intro i s hk' hi hst hkp ⟨L, es, ep, t, hS, g⟩ hR
    have hlt : i < n := by omega
    refine codeAny_builtin F.entry_set_update_loop ?_
    rw [Around.under_plainId F.plain_set_update_loop _]
    show wpAny _ A.in1 (pyNext (.ref I) >>= _) _ _ s
    refine wpAny_bind (W.item i s _ _ hlt hst fun v s' hP hst' hm => ?_)
    obtain ⟨p, hp, rfl⟩ := hval i v hP
    have hkp' := keepM hm hkp
    have hS' : TabK w s'.heap S L es ep t := hS.keep (fun o e => hm.heap S o hSw e) fun q hq => (hk q (List.mem_of_mem_take (g.sub q hq))).keep hkp'
    have hx : IsK s'.heap p.2 p.1 := (hk p (List.mem_of_getElem? hp)).keep hkp'
    show wpAny _ A.in1 (holding [Value.ref p.1] (setAdd S (.ref p.1)) >>= _) _ _ s'
    refine wpAny_bind (wpAny_holding ?_)
    unfold setAdd
    refine wpAny_holding ?_
    refine wpAny_bind ((nestedKind P w).pyHash hu hx.kd ?_)
    refine add_key (s := { s' with toks := s'.toks + (nestedKind P w).draws p.2 }) hS' hx hu (by have := g.len; omega) fun b h' L' es' ep' t' hsb hS2 c1 c2 => ?_
    have hkp2 : ∀ b o, h0.get? b = some o → h'.get? b = some o := fun b o e => (hsb.2 b (fun z => by rw [z, hS0] at e; cases e)).trans (hkp' b o e)
    refine wpAny_pure ⟨plainId_quiet F.plain_set_update_loop _, ih (i + 1) _ (by omega) hlt (W.frame _ s' _ _ hst' (Nat.le_add_right _ _) fun b hb o e => ?_) hkp2 ⟨L', es', ep', t', hS2, g.next hp c1 c2⟩ fun s'' L2 es2 ep2 t2 hm'' hS'' g'' hkp'' => ?_⟩
    · rw [hsb.2 b (fun h : b = S => hSf (by rw [← h]; exact hb))]; exact e
    · refine hR s'' L2 es2 ep2 t2 (Moved.trans W.gtrans ((hm.mono hsub).then_heap (Nat.le_add_right _ _) fun b o hb e => ?_) hm'') hS'' g'' hkp''
      rw [hsb.2 b (fun h : b = S => hb (by rw [h]; exact List.mem_cons_self))]; exact e
abbrev setNew (w : World) : Obj := { cls := .type "set", dict := none, data := .set #[] 0 (.fresh 0 0 (!w.params.followText "set-order")) }
/-- set(xs) -/
theorem call_set_keys {l : Addr} {items : Array Value} (ks : KL) {Q : Value → Shared → Prop} (hh : A.handled = none) (hl : s.heap.IsList l items) (hit : items.toList = ks.map fun p => Value.ref p.1)
    (hk : ∀ p ∈ ks, IsK s.heap p.2 p.1) (hfew : ks.length < 64) (hu : A.units + 16 < cLine)
    (h : ∀ (h' : Heap) (tk : Nat) L es ep t, TabK w h' s.heap.objs.size L es ep t → Has ks ks.length L → (∀ b o, s.heap.get? b = some o → h'.get? b = some o) → Q (.ref s.heap.objs.size) { s with heap := h', toks := tk }) :
    wpAny (model P w) A (call (.type "set") [.ref l]) Q E s := by
  have hisz : items.size = ks.length := by
    have q := congrArg List.length hit
    rw [Array.length_toList, List.length_map] at q
    exact q
  obtain ⟨c, tl, hmro⟩ := F.called_set.mro
  have hmade := F.called_set.made
  have hsub := F.called_set.sub
  refine wpAny_call (codeAny_of_tree ?_)
  show wpAny _ _ (callAny (.type "set") _) _ _ _
  refine wpAny_pure ⟨Code.quiet_builtin _ (by decide +kernel), codeAny_builtin F.entry_type_call ?_⟩
  rw [Around.under_plain (weight_type_call_type "set" [.ref l] []) rfl]
  have h1 := F.called_set.notType
  have h2 := F.called_set.canCreate
  have hct := F.typeCall_set_1 (.ref l)
  repeat (any_goals (first | assumption | wp_step))

  refine codeAny_mono (code_set_led1 (.ref l) (E := E) (Q₁ := fun obj s₁ => obj = .ref s.heap.objs.size ∧ s₁ = { s with heap := s.heap.push (setNew w) }) ⟨rfl, rfl⟩) fun r s₁ hr => ?_
  cases r with
  | error e => exact hr
  | ok fl =>
    cases fl with
    | ret obj =>
      obtain ⟨rfl, rfl⟩ := hr
      have hS : (s.heap.push (setNew w)).get? s.heap.objs.size = some (setNew w) := Heap.get?_push_size _ rfl
      have hT : Shared.TypeIs { s with heap := s.heap.push (setNew w) } (.ref s.heap.objs.size) "set" := ⟨_, hS, rfl⟩
      have hli := F.called_set.init.lookup
      have hbi := F.called_set.init.bind (.ref s.heap.objs.size)
      repeat (any_goals (first | assumption | wp_step))

      refine codeAny_mono (codeAny_call_builtin (R := wants (fun r s₂ => r = .none ∧ ∃ h' tk L es ep t, s₂ = { s with heap := h', toks := tk } ∧ TabK w h' s.heap.objs.size L es ep t ∧ Has ks ks.length L ∧
          (∀ b o, s.heap.get? b = some o → h'.get? b = some o)) E) F.called_set.init.plain F.entry_set_init (check_set_init_1 hT ?_)) fun r₂ s₂ hr₂ => ?_
      · obtain ⟨ol, hol, hcl, nl, hdl⟩ := hl
        obtain ⟨ocls, odict, odata, oslots⟩ := ol
        simp only at hcl hdl
        subst hcl; subst hdl
        have hol' : (s.heap.push (setNew w)).get? l = some { cls := .type "list", dict := odict, data := .seq items nl, slots := oslots } := Heap.get?_push_of_some _ hol
        have hsls := F.sub_list_set
        have hslf := F.sub_list_frozenset
        have hne : (Value.type "list" == Value.type "dict") = false := by decide
        have hl1 : (s.heap.push (setNew w)).IsList l items := ⟨_, hol', rfl, nl, rfl⟩
        unfold Builtin.«set.__init__» noKeywords Builtin.Frozenset.updateFrom
        generalize hPI : pyIter = PI
        wp_walk
        subst hPI

        refine wpAny_pyIter_list hl1 ?_
        refine wpAny_bind (wpAny_runValue ?_)
        have hlS : l < s.heap.objs.size := Heap.lt_size hol
        have hh3 : A.in1.in1.in1.handled = none := by simp [hh]
        have hz1 : (s.heap.push (setNew w)).objs.size = s.heap.objs.size + 1 := Heap.size_push ..
        have hneI : l ≠ (s.heap.push (setNew w)).objs.size := by
          rw [Heap.size_push]; exact Nat.ne_of_lt (Nat.lt_succ_of_lt hlS)
        have hSf : s.heap.objs.size ∉ [(s.heap.push (setNew w)).objs.size, l] := by
          rw [Heap.size_push]; simp only [List.mem_cons, List.mem_singleton, List.not_mem_nil, or_false, not_or]
          exact ⟨Nat.ne_of_lt (Nat.lt_succ_self _), Nat.ne_of_gt hlS⟩
        have hval : ∀ (i : Nat) (v : Value), items[i]? = some v → ∃ p, ks[i]? = some p ∧ v = .ref p.1 := fun i v hv => by
          have q : items.toList[i]? = some v := by rw [Array.getElem?_toList]; exact hv
          rw [hit, List.getElem?_map] at q
          obtain ⟨p, e1, e2⟩ := Option.map_eq_some_iff.mp q
          exact ⟨p, e1, e2.symm⟩
        have none_of : ∀ b, s.heap.objs.size ≤ b → s.heap.get? b = none := fun b hb => by
          cases q : s.heap.get? b with
          | none => rfl
          | some o => exact absurd (Nat.lt_of_lt_of_le (Heap.lt_size q) hb) (Nat.lt_irrefl _)
        refine fill_loop ((Walks.list hh3 _ l hneI items).toS) s.heap.objs.size
          hSf ks hisz hfew hval s.heap hk (none_of _ (Nat.le_refl _)) (fun b hb => none_of b (by
            rw [List.mem_singleton.mp hb, Heap.size_push]
            exact Nat.le_succ _)) (show A.in1.in1.in1.units + 8 < cLine by simp only [Around.in1_units]; omega) (items.size - 0) 0 _ (by omega) (Nat.zero_le _)
          ⟨⟨_, Heap.get?_push_size _ rfl, rfl, rfl⟩, (hl1.push _)⟩ (fun b o e => Heap.get?_push_of_some _ (Heap.get?_push_of_some _ e)) ?hS0 ?hR
        case hS0 =>
          have hget : ((s.heap.push (setNew w)).push { cls := .type "list_iterator", data := .fields #[.ref l, .int 0 0] }).get? s.heap.objs.size = some (setNew w) := Heap.get?_push_of_some _ hS
          exact ⟨[], #[], 0, _, tab_new hget, ⟨fun p h => (by cases h), fun p h => (by simp at h), Nat.le_refl _⟩⟩
        case hR =>
          intro s' L es ep t hm hS' g' hkp
          obtain ⟨h', g2, d', tk', os'⟩ := s'
          have eg : g2 = s.gens := hm.gens
          have ed : d' = s.drawn := hm.drawn
          have eo : os' = s.os := hm.os
          subst eg; subst ed; subst eo
          show wpAny _ _ _ _ _ _
          refine wpAny_pure ?_
          show wpAny _ _ (ret Value.none) _ _ _
          rw [hisz] at g'
          exact wpAny_pure ⟨rfl, h', tk', L, es, ep, t, rfl, hS', g', hkp⟩
      · cases r₂ with
        | error e => exact hr₂
        | ok fl₂ =>
          cases fl₂ with
          | ret r =>
            obtain ⟨rfl, h', tk, L, es, ep, t, rfl, hS', g', hk'⟩ := hr₂
            repeat (any_goals (first | assumption | wp_step))
            exact h _ _ _ _ _ _ hS' g' hk'
          | _ => exact hr₂.elim
    | _ => exact hr.elim
end
end Z
/-! Plain values as keys, len(set(xs)), x in xs of any depth, == of lists of lists. -/
namespace Z
open PySem PySem.Spec PyProof.Rows L2
/-! ### plain values as keys -/
mutual
def keyP : PV → Option NestedKey
  | .int i => some (.num i)
  | .tup xs => (keysP xs).map .tup
  | .non => none
  | .bl _ => none
  | .str _ => none
  | .lst _ => none
  | .dct _ => none
  | .exc _ => none
  | .ref _ => none
  | .ty _ => none
  | .cls _ => none
def keysP : List PV → Option (List NestedKey)
  | [] => some []
  | x :: xs => match keyP x, keysP xs with
    | some k, some ks => some (k :: ks)
    | _, _ => none
end
theorem keysP_cons {x : PV} {xs : List PV} {ks : List NestedKey} (h : keysP (x :: xs) = some ks) : ∃ k r, keyP x = some k ∧ keysP xs = some r ∧ ks = k :: r := by
  have h : (match keyP x, keysP xs with
    | some k, some ks => some (k :: ks)
    | _, _ => none) = some ks := h
  cases q1 : keyP x with
  | none => rw [q1] at h; cases h
  | some k =>
    cases q2 : keysP xs with
    | none => rw [q1, q2] at h; cases h
    | some r => rw [q1, q2] at h; cases h; exact ⟨k, r, rfl, rfl, rfl⟩
mutual
theorem num_key : ∀ (x : PV) (k : NestedKey), keyP x = some k → numK k = true
  | .int i, k, h => by cases h; rfl
  | .tup xs, k, h => by
    obtain ⟨ks, e, rfl⟩ := Option.map_eq_some_iff.mp (show (keysP xs).map NestedKey.tup = some k from h)
    exact num_keys xs ks e
  | .non, k, h => by cases h
  | .bl _, k, h => by cases h
  | .str _, k, h => by cases h
  | .lst _, k, h => by cases h
  | .dct _, k, h => by cases h
  | .exc _, k, h => by cases h
  | .ref _, k, h => by cases h
  | .ty _, k, h => by cases h
  | .cls _, k, h => by cases h
theorem num_keys : ∀ (xs : List PV) (ks : List NestedKey), keysP xs = some ks → numKs ks = true
  | [], ks, h => by cases h; rfl
  | x :: xs, ks, h => by
    obtain ⟨k, r, e1, e2, rfl⟩ := keysP_cons h
    show (numK k && numKs r) = true
    rw [num_key x k e1, num_keys xs r e2]
    rfl
end
section
variable {X : Cx} {pins : List (Addr × Obj)} {σ : L2.St} {H : Hp} {s : Shared} {w : Wd}
mutual
theorem key_is (I : Inv X pins σ H s) (fz : ∀ a o, w.F a = some o → H a = some o) : ∀ (x : PV) (k : NestedKey) (v : V) (u : Value), keyP x = some k → Rep X.K w x v → RelV v u → NestedIs s.heap k u
  | .int i, k, v, u, h, r, q => by
    cases h
    have r : v = .int i := r
    subst r
    obtain ⟨t, rfl⟩ := q
    exact .int i t
  | .tup xs, k, v, u, h, ⟨a, vs, ev, sq, rs⟩, q => by
    obtain ⟨ks, e, rfl⟩ := Option.map_eq_some_iff.mp (show (keysP xs).map NestedKey.tup = some k from h)
    subst ev
    obtain rfl : u = .ref a := q
    obtain ⟨its, rv, ⟨o, ho, hc, n, hd⟩, _⟩ := I.tuple (sqt_mono fz sq)
    exact .tup ho hc hd (by simpa using keys_are I fz xs ks vs its e rs rv)
  | .non, k, v, u, h, _, _ => by cases h
  | .bl _, k, v, u, h, _, _ => by cases h
  | .str _, k, v, u, h, _, _ => by cases h
  | .lst _, k, v, u, h, _, _ => by cases h
  | .dct _, k, v, u, h, _, _ => by cases h
  | .exc _, k, v, u, h, _, _ => by cases h
  | .ref _, k, v, u, h, _, _ => by cases h
  | .ty _, k, v, u, h, _, _ => by cases h
  | .cls _, k, v, u, h, _, _ => by cases h
theorem keys_are (I : Inv X pins σ H s) (fz : ∀ a o, w.F a = some o → H a = some o) : ∀ (xs : List PV) (ks : List NestedKey) (vs : List V) (us : List Value), keysP xs = some ks → RepL X.K w xs vs → Vals vs us → NestedAll s.heap ks us
  | [], ks, vs, us, h, r, q => by
    cases h
    have r : vs = [] := r
    subst r
    cases q
    exact .nil
  | x :: xs, ks, vs, us, h, ⟨v, vr, ev, rx, rr⟩, q => by
    obtain ⟨k, r, e1, e2, rfl⟩ := keysP_cons h
    subst ev
    cases q with
    | cons q1 q2 => exact .cons (key_is I fz x k v _ e1 rx q1) (keys_are I fz xs r vr _ e2 rr q2)
end
end
/-- tuples as keys, not too deep -/
def keysT : List PV → Option (List NestedKey)
  | [] => some []
  | .tup xs :: r => match keysP xs, keysT r with
    | some ks, some rs => if NestedKey.depthAll ks ≤ 7 then some (.tup ks :: rs) else none
    | _, _ => none
  | _ :: _ => none
/-- how many different ones -/
def ndist : List NestedKey → Nat
  | [] => 0
  | k :: ks => (if k ∈ ks then 0 else 1) + ndist ks
theorem nodup_len {α : Type} [BEq α] [LawfulBEq α] : ∀ (l D : List α), l.Nodup → (∀ x ∈ l, x ∈ D) → l.length ≤ D.length
  | [], _, _, _ => Nat.zero_le _
  | x :: l, D, hn, hs => by
    obtain ⟨h1, h2⟩ := List.nodup_cons.mp hn
    have hx : x ∈ D := hs x List.mem_cons_self
    have ih := nodup_len l (D.erase x) h2 fun y hy => by
      have hne : y ≠ x := fun e => h1 (e ▸ hy)
      exact (List.mem_erase_of_ne hne).2 (hs y (List.mem_cons_of_mem _ hy))
    have e := List.length_erase_of_mem hx
    have hp : 0 < D.length := List.length_pos_of_mem hx
    rw [List.length_cons]
    omega
theorem ndist_list : ∀ ks : List NestedKey, ∃ l : List NestedKey, l.Nodup ∧ (∀ k, k ∈ l ↔ k ∈ ks) ∧ l.length = ndist ks
  | [] => ⟨[], List.nodup_nil, fun _ => Iff.rfl, rfl⟩
  | k :: ks => by
    obtain ⟨l, h1, h2, h3⟩ := ndist_list ks
    by_cases c : k ∈ ks
    · refine ⟨l, h1, fun z => ?_, by unfold ndist; rw [if_pos c, h3]; omega⟩
      rw [h2, List.mem_cons]
      exact ⟨.inr, fun z => z.elim (fun e => by rw [e]; exact c) id⟩
    · refine ⟨k :: l, List.nodup_cons.mpr ⟨fun z => c ((h2 k).mp z), h1⟩, fun z => ?_, by unfold ndist; rw [if_neg c, List.length_cons, h3]; omega⟩
      rw [List.mem_cons, List.mem_cons, h2]
theorem ndist_eq {l ks : List NestedKey} (h : l.Nodup) (m : ∀ k, k ∈ l ↔ k ∈ ks) : l.length = ndist ks := by
  obtain ⟨l', h1, h2, h3⟩ := ndist_list ks
  rw [← h3]
  exact Nat.le_antisymm (nodup_len l l' h fun x hx => (h2 x).mpr ((m x).mp hx)) (nodup_len l' l h1 fun x hx => (m x).mpr ((h2 x).mp hx))
noncomputable def lsK (st : List SO) : Option (List NestedKey) → Res PV
  | some ks => if ks.length < 64 then .ok (.int (ndist ks)) st else .bad
  | none => .bad
noncomputable def lsR (st : List SO) : PV → Res PV
  | .lst xs => lsK st (keysT xs)
  | .ref k => (match st[k]? with
    | some (.lst xs) => lsK st (keysT xs)
    | _ => .bad)
  | _ => .bad
noncomputable def gLenSet (g : G) : G := fun ρ st => bnd (g ρ st) fun v st => lsR st v
theorem gLenSet_eq {g : G} {ρ : REnv} {st : List SO} : gLenSet g ρ st = bnd (g ρ st) fun v st => lsR st v := rfl
theorem lsR_l {st : List SO} {xs : List PV} : lsR st (.lst xs) = lsK st (keysT xs) := rfl
section
variable {X : Cx}
theorem keysT_are {pins : List (Addr × Obj)} {σ : L2.St} {H : Hp} {s : Shared} {w : Wd} (I : Inv X pins σ H s) (fz : ∀ a o, w.F a = some o → H a = some o) : ∀ (xs : List PV) (ks : List NestedKey) (vs : List V) (us : List Value), keysT xs = some ks → RepL X.K w xs vs → Vals vs us →
    ∃ L : KL, us = L.map (fun p => Value.ref p.1) ∧ L.map (·.2) = ks ∧ ∀ p ∈ L, IsK s.heap p.2 p.1
  | [], ks, vs, us, h, r, q => by
    cases h
    have r : vs = [] := r
    subst r
    cases q
    exact ⟨[], rfl, rfl, fun p hp => by cases hp⟩
  | x :: xs, ks, vs, us, h, ⟨v, vr, ev, rx, rr⟩, q => by
    cases x with
    | tup ys =>
      have h : (match keysP ys, keysT xs with
        | some ks, some rs => if NestedKey.depthAll ks ≤ 7 then some (NestedKey.tup ks :: rs) else none
        | _, _ => none) = some ks := h
      cases q1 : keysP ys with
      | none => rw [q1] at h; cases h
      | some ky =>
        cases q2 : keysT xs with
        | none => rw [q1, q2] at h; cases h
        | some kr =>
          rw [q1, q2] at h
          have h : (if NestedKey.depthAll ky ≤ 7 then some (NestedKey.tup ky :: kr) else none) = some ks := h
          by_cases c : NestedKey.depthAll ky ≤ 7
          · rw [if_pos c] at h
            cases h
            subst ev
            cases q with
            | cons qa qb =>
              obtain ⟨L, e1, e2, e3⟩ := keysT_are I fz xs kr vr _ q2 rr qb
              have e : keyP (.tup ys) = some (.tup ky) := by show (keysP ys).map NestedKey.tup = _; rw [q1]; rfl
              have is := key_is I fz (.tup ys) _ v _ e rx qa
              obtain ⟨a, vs, ev, _, _⟩ := rx
              subst ev
              obtain rfl := (show _ = Value.ref a from qa)
              refine ⟨(a, .tup ky) :: L, by rw [e1]; rfl, by rw [List.map_cons, e2], fun p hp => ?_⟩
              rcases List.mem_cons.mp hp with z | z
              · rw [z]; exact ⟨is, by unfold NestedKey.depth; omega, num_key _ _ e⟩
              · exact e3 p z
          · rw [if_neg c] at h; cases h
    | _ => cases h
def tLenSetK (K : PySem.W.Frag) (P : Program) (w : World) (ta : TE) : TE := fun σ H Q => ta σ H fun x H1 => ∃ (l : Addr) (vs : List V) (ks : List NestedKey), x = V.ref l ∧ SqL K H1 l vs ∧ ks.length < 64 ∧
  (∀ X : Cx, X.K = K → X.prog = P → X.w = w → ∀ pins σ s, Inv X pins σ H1 s → ∀ us, Vals vs us → ∃ L : KL, us = L.map (fun p => Value.ref p.1) ∧ L.map (·.2) = ks ∧ ∀ p ∈ L, IsK s.heap p.2 p.1) ∧ Q (.int (ndist ks)) H1
theorem pe_lenSetK {a : Expr} {ta : TE} {p p2 q pos : Pos} (hc : X.calm = true) (hu : X.A.units + 64 < cLine) (hg : Gl X "len") (hm : X.mg "len" = none) (hg2 : Gl X "set") (hm2 : X.mg "set" = none) (ha : PE X a ta)
    (na : starEach [a] X.env = (false, eval a X.env) :: starEach [] X.env := by rfl) : PE X (.Call (.Name "len" p) [.Call (.Name "set" p2) [a] [] q] [] pos) (tLenSetK X.K X.prog X.w ta) := by
  refine ⟨fun pins s σ H Q I h => ?_⟩
  refine Call_ (ld_blt I hg hm PySem.boot_len ?_)
  refine PyProof.Rows.callWith_builtin1 (PyProof.Rows.args_cons ?_ rfl) rfl rfl
  refine Call_ (ld_blt I hg2 hm2 PyProof.Rows.boot_set ?_)
  refine PyProof.Rows.callWith_type1 (PyProof.Rows.args_cons (thn (ha.run pins s σ H _ I h) fun v s1 ⟨x, H1, I1, r1, q1⟩ => PyProof.Rows.args_nil ?_) na) na rfl
  obtain ⟨l, vs, ks, rfl, hq, h64, hks, q1⟩ := q1
  cases r1
  obtain ⟨its, r, pl, hz⟩ := I1.list hq
  obtain ⟨L, e1, e2, e3⟩ := hks X rfl rfl rfl _ _ _ I1 its r
  have len : L.length = ks.length := by rw [← e2, List.length_map]
  refine call_set_keys L (I1.ok.hd hc) pl.isList (by simpa using e1) e3 (by omega) (by omega) fun h' tk L' es ep t hT hH hk => ?_
  refine PyProof.Rows.args_nil ?_
  obtain ⟨o, ho, hex, hd⟩ := hT.ob
  have I2 : Inv X pins σ H1 { s1 with heap := h', toks := tk } := I1.kept fun b o e => hk b o e
  have sz := size_of_rows hT.rows
  have few := hT.few
  have nd : es.size = ndist ks := by
    rw [sz, ← List.length_map (f := fun p : Addr × NestedKey => p.2)]
    refine ndist_eq hT.nd fun k => ?_
    rw [← e2]
    constructor
    · intro hm
      obtain ⟨p, hp, rfl⟩ := List.mem_map.mp hm
      exact List.mem_map.mpr ⟨p, by have := hH.sub p hp; rwa [List.take_length] at this, rfl⟩
    · intro hm
      obtain ⟨p, hp, rfl⟩ := List.mem_map.mp hm
      exact hH.all p (by rwa [List.take_length])
  refine call_len_set ho hex hd hT.fits (by omega) ⟨.int (ndist ks), H1, I2.tok _, ⟨_, by rw [nd]⟩, q1⟩
theorem se_lenSet {W : WX} {a : Expr} {g : G} {p p2 q pos : Pos} (hc : X.calm = true) (hu : X.A.units + 64 < cLine) (ha : PE X a (tG X.K W g)) (hg : Gl X "len" := by rfl) (hm : X.mg "len" = none := by rfl) (hg2 : Gl X "set" := by rfl) (hm2 : X.mg "set" = none := by rfl)
    (na : starEach [a] X.env = (false, eval a X.env) :: starEach [] X.env := by rfl) : PE X (.Call (.Name "len" p) [.Call (.Name "set" p2) [a] [] q] [] pos) (tG X.K W (gLenSet g)) := by
  refine pe_imp (pe_lenSetK hc hu hg hm hg2 hm2 ha na) fun σ H Q ⟨w, ρ, st, ok, sl, po⟩ => ⟨w, ρ, st, ok, sl, post_bind (rel2 := Rep X.K) po fun v st1 w1 H1 vx l1 ok1 rx po1 => ?_⟩
  have fin : ∀ (a : Addr) (xs : List PV) (vs : List V), RepL X.K w1 xs vs → SqL X.K H1 a vs → Post X.K W (Rep X.K) w1 σ (lsK st1 (keysT xs)) Q → ∃ (l : Addr) (vs : List V) (ks : List NestedKey), V.ref a = V.ref l ∧ SqL X.K H1 l vs ∧ ks.length < 64 ∧
      (∀ Y : Cx, Y.K = X.K → Y.prog = X.prog → Y.w = X.w → ∀ pins σ s, Inv Y pins σ H1 s → ∀ us, Vals vs us → ∃ L : KL, us = L.map (fun p => Value.ref p.1) ∧ L.map (·.2) = ks ∧ ∀ p ∈ L, IsK s.heap p.2 p.1) ∧ Q (.int (ndist ks)) H1 := fun a xs vs rs sq po => by
    cases e : keysT xs with
    | none => rw [e] at po; exact po.elim
    | some ks =>
      rw [e] at po
      have po : Post X.K W (Rep X.K) w1 σ (if ks.length < 64 then .ok (.int (ndist ks)) st1 else .bad) Q := po
      by_cases c : ks.length < 64
      · rw [if_pos c] at po
        refine ⟨a, vs, ks, rfl, sq, c, fun Y e1 e2 e3 pins σ s I us q => ?_, po w1 H1 _ (Le.refl _) ok1 rfl⟩
        exact keysT_are (X := Y) I ok1.fz xs ks vs us e (by rw [e1]; exact rs) q
      · rw [if_neg c] at po; exact po.elim
  cases v with
  | lst xs =>
    obtain ⟨a, vs, rfl, sq, rs⟩ := rx
    exact fin a xs vs rs (sql_mono ok1.fz sq) po1
  | ref k =>
    obtain ⟨a, rfl, qa⟩ := rx
    obtain ⟨c, o, h1, h2, h3⟩ := ok1.obj qa
    have po1 : Post X.K W (Rep X.K) w1 σ (match st1[k]? with
      | some (.lst xs) => lsK st1 (keysT xs)
      | _ => .bad) Q := po1
    rw [h1] at po1
    cases c with
    | lst xs =>
      obtain ⟨vs, e3, rs⟩ := h3
      rw [e3] at h2
      exact fin a xs vs rs (.inl (.inl h2)) po1
    | dK kvs => exact po1.elim
  | _ => exact po1.elim
end
/-! ### x in xs, of any depth -/
def inDK (neg : Bool) : Option PyData → Option PyData → Option PV
  | some (.list ds), some d => if SeqAt.shaped d = true ∧ SeqAt.shaped (.list ds) = true then some (.bl (if neg = true then !ds.any fun z => PyData.eqv z d else ds.any fun z => PyData.eqv z d)) else none
  | _, _ => none
def inD (neg : Bool) : F2 := fun st x y => inDK neg (toD (de st y)) (toD (de st x))
theorem inD_some {neg : Bool} {st : List SO} {x y z : PV} (h : inD neg st x y = some z) : ∃ d ds, toD (de st x) = some d ∧ toD (de st y) = some (.list ds) ∧ SeqAt.shaped d = true ∧ SeqAt.shaped (.list ds) = true ∧ z = .bl (if neg = true then !ds.any fun z => PyData.eqv z d else ds.any fun z => PyData.eqv z d) := by
  have h : inDK neg (toD (de st y)) (toD (de st x)) = some z := h
  cases e2 : toD (de st y) with
  | none => rw [e2] at h; cases h
  | some e =>
    cases e1 : toD (de st x) with
    | none => rw [e1, e2] at h; cases e <;> cases h
    | some d =>
      rw [e1, e2] at h
      cases e with
      | list ds =>
        have h : (if SeqAt.shaped d = true ∧ SeqAt.shaped (.list ds) = true then some (PV.bl (if neg = true then !ds.any fun z => PyData.eqv z d else ds.any fun z => PyData.eqv z d)) else none) = some z := h
        by_cases c : SeqAt.shaped d = true ∧ SeqAt.shaped (.list ds) = true
        · rw [if_pos c] at h
          exact ⟨d, ds, rfl, rfl, c.1, c.2, (Option.some.inj h).symm⟩
        · rw [if_neg c] at h; cases h
      | _ => cases h
theorem s_inD {K : PySem.W.Frag} : Snd2 K (inD false) (rInD K) := by
  intro w H st x y z vx vy Q ok rx ry e q
  obtain ⟨d, ds, e1, e2, s1, s2, rfl⟩ := inD_some e
  exact ⟨d, ds, de_dp ok rx e1, de_dp ok ry e2, s1, s2, q w H _ (Le.refl _) ok rfl⟩
theorem s_notInD {K : PySem.W.Frag} : Snd2 K (inD true) (rNotInD K) := by
  intro w H st x y z vx vy Q ok rx ry e q
  obtain ⟨d, ds, e1, e2, s1, s2, rfl⟩ := inD_some e
  exact ⟨d, ds, de_dp ok rx e1, de_dp ok ry e2, s1, s2, q w H _ (Le.refl _) ok rfl⟩
theorem u65 {k : Nat} {A : Around} (r : Room k A) : A.units + 65 < cLine := by have := r.un; omega
theorem u65H {k : Nat} {A : Around} (r : L2H.RoomH k A) : A.units + 65 < cLine := by have := r.un; omega
/-! ### == of lists of lists that may be changed -/
def eqFK (neg : Bool) : Option PV → Option PV → Option PV
  | some x, some y => if neg = true then neV [] x y else eqV [] x y
  | _, _ => none
def eqF (neg : Bool) : F2 := fun st x y => eqFK neg (frzV st 0 9 x) (frzV st 0 9 y)
theorem frz_dp {K : PySem.W.Frag} {w : Wd} {H : Hp} {st : List SO} {x x' : PV} {v : V} {d : PyData} (ok : WOk K w H st) (r : Rep K w x v) (e : frzV st 0 9 x = some x') (q : toD (de [] x') = some d) : Dp K H v d := by
  have le0 : Le { F := fun _ => none, R := w.R, adr := [] } w := ⟨⟨(fun a o e => by cases e), w.adr, rfl⟩, rfl⟩
  have ok0 : WOk K { F := fun _ => none, R := w.R, adr := [] } H [] := ⟨(fun a o e => by cases e), ok.fr, (fun a o e => rfl), List.nodup_nil, rfl, (fun k a e => by cases e), (fun k a c e => by cases e)⟩
  obtain ⟨okL, -⟩ := left_ok ok0 le0 ok ⟨Nat.zero_le _, fun k hk => absurd hk (Nat.not_lt_zero _)⟩
  have okL : WOk K (w.left 0 H) H [] := okL
  exact de_dp okL (frz_rep ok 9 x x' v e r) q
theorem s_eqF {K : PySem.W.Frag} : Snd2 K (eqF false) (rEqD K) := by
  intro w H st x y z vx vy Q ok rx ry e q
  have e : eqFK false (frzV st 0 9 x) (frzV st 0 9 y) = some z := e
  cases f1 : frzV st 0 9 x with
  | none => rw [f1] at e; cases e
  | some x' =>
    cases f2 : frzV st 0 9 y with
    | none => rw [f1, f2] at e; cases e
    | some y' =>
      rw [f1, f2] at e
      obtain ⟨b, hb, rfl⟩ := Option.map_eq_some_iff.mp (show (eqD [] x' y').map (fun b => PV.bl b) = some z from e)
      obtain ⟨d, d', e1, e2, s1, s2, rfl⟩ := eqD_some hb
      exact ⟨d, d', frz_dp ok rx f1 e1, frz_dp ok ry f2 e2, s1, s2, q w H _ (Le.refl _) ok rfl⟩
theorem s_neF {K : PySem.W.Frag} : Snd2 K (eqF true) (rNeD K) := by
  intro w H st x y z vx vy Q ok rx ry e q
  have e : eqFK true (frzV st 0 9 x) (frzV st 0 9 y) = some z := e
  cases f1 : frzV st 0 9 x with
  | none => rw [f1] at e; cases e
  | some x' =>
    cases f2 : frzV st 0 9 y with
    | none => rw [f1, f2] at e; cases e
    | some y' =>
      rw [f1, f2] at e
      obtain ⟨b, hb, rfl⟩ := Option.map_eq_some_iff.mp (show (eqD [] x' y').map (fun b => PV.bl (!b)) = some z from e)
      obtain ⟨d, d', e1, e2, s1, s2, rfl⟩ := eqD_some hb
      exact ⟨d, d', frz_dp ok rx f1 e1, frz_dp ok ry f2 e2, s1, s2, q w H _ (Le.refl _) ok rfl⟩
end Z
/-! Comprehensions as new lists, insert, extend, list(range()), sums of any lists, slices up to a reckoned place. -/
namespace Z
open PySem PySem.Spec PyProof.Rows L2
section
variable {K : PySem.W.Frag} {w : Wd} {H : Hp} {st : List SO} {p : Addr}
theorem WOk.new' (ok : WOk K w H st) (f : Free w p) {c : SO} {o : HO} (h : H p = some o) (r : RepO K w c o) : WOk K (w.new p) H (st ++ [c]) := by
  have ok0 : WOk K w (fun a => if a = p then none else H a) st := by
    refine ⟨fun a u e => ?_, fun a u e => ?_, ok.dj, ok.nd, ok.len, ok.ad, fun k a c e1 e2 => ?_⟩
    · have ne : a ≠ p := fun z => by rw [z, f.F] at e; cases e
      show (if a = p then none else H a) = some u
      rw [if_neg ne]; exact ok.fz a u e
    · have ne : a ≠ p := fun z => by rw [z, f.R] at e; cases e
      show (if a = p then none else H a) = some u
      rw [if_neg ne]; exact ok.fr a u e
    · obtain ⟨u, h1, h2⟩ := ok.ob k a c e1 e2
      have ne : a ≠ p := fun z => f.A (z ▸ List.mem_of_getElem? e1)
      exact ⟨u, by show (if a = p then none else H a) = some u; rw [if_neg ne]; exact h1, h2⟩
  have n := ok0.new (p := p) (if_pos rfl) r
  have e : upd (fun a => if a = p then none else H a) p o = H := by
    funext a
    by_cases c : a = p
    · rw [c, upd_same, h]
    · rw [upd_ne c]; exact if_neg c
  rwa [e] at n
theorem at_end {w2 : Wd} {st2 : List SO} (l : w2.adr.length = st2.length) {D : Addr} : (w2.new D).adr[st2.length]? = some D := by
  show (w2.adr ++ [D])[st2.length]? = some D
  rw [← l]; simp
end
theorem bnd_assoc {α β γ : Type} (r : Res α) (k : α → List SO → Res β) (k' : β → List SO → Res γ) : bnd (bnd r k) k' = bnd r fun x st => bnd (k x st) k' := by cases r <;> rfl
/-! ### a comprehension's list, new and changeable -/
def mkN (v : PV) (st : List SO) : Res PV := match v with
  | .lst ys => .ok (.ref st.length) (st ++ [.lst ys])
  | _ => .bad
theorem mkN_l {ys : List PV} {st : List SO} : mkN (.lst ys) st = .ok (.ref st.length) (st ++ [.lst ys]) := rfl
noncomputable def gCompN (gi : GL) (t : PV → REnv → Option REnv) (gc : GT) (ge : G) (vs : List Nat) : G := fun ρ st => bnd (gComp gi t gc ge vs ρ st) mkN
theorem gCompN_eq {gi : GL} {t : PV → REnv → Option REnv} {gc : GT} {ge : G} {vs : List Nat} {ρ : REnv} {st : List SO} : gCompN gi t gc ge vs ρ st = bnd (gComp gi t gc ge vs ρ st) mkN := rfl
section
variable {X : Cx} {W : WX} {pos : Pos} {a b e tg : Expr} {es : List Expr} {ga gb g : G} {gs : List G}
open Classical in
theorem tLcN_of {K : PySem.W.Frag} {gi : GL} {t : PV → REnv → Option REnv} {gc : GT} {ge : G} {vs : List Nat} {σ : L2.St} {H : Hp} {Q : VK} (h : tG K W (gCompN gi t gc ge vs) σ H Q) :
    tLc (tI K W gi) (tTg K vs t) (tGT K W0 gc) (tG K W0 ge) vs σ H Q := by
  obtain ⟨w, ρ, st, ok, sl, po⟩ := h
  have po : Post K W (Rep K) w σ (bnd (bnd (gi ρ st) fun xs st1 => match compg t gc ge (wipeR ρ vs) xs st1 with | .ok ys st' => if LenOk ys.length then Res.ok (PV.lst ys) st' else .bad | _ => .bad) mkN) Q := po
  rw [bnd_assoc] at po
  refine ⟨w, ρ, st, ok, sl, post_bind (rel2 := Rep K) po fun xs st1 w1 H1 J l1 ok1 it po1 => ?_⟩
  cases e1 : compg t gc ge (wipeR ρ vs) xs st1 with
  | exc _ _ => rw [e1] at po1; exact po1.elim
  | bad => rw [e1] at po1; exact po1.elim
  | ok fin stf =>
    rw [e1] at po1
    have po1 : Post K W (Rep K) w1 σ (bnd (if LenOk fin.length then .ok (.lst fin) stf else .bad) mkN) Q := po1
    by_cases hz : LenOk fin.length
    · rw [if_pos hz] at po1
      have po1 : Post K W (Rep K) w1 σ (.ok (.ref stf.length) (stf ++ [.lst fin])) Q := po1
      intro D hD
      refine ⟨fun i m H => m = xs.length - i ∧ i ≤ xs.length ∧ Mid K w1 t gc ge (wipeR ρ vs) D (xs.drop i) fin stf H, ⟨_, rfl, Nat.zero_le _, ⟨w1, st1, [], [], fin, Le.refl _, ok1.updF (ok1.free hD) _, ok1.free hD, upd_same, rfl, by simpa using e1, rfl⟩⟩, ?_⟩
      rintro i m H2 ⟨rfl, hi, ⟨w2, st2, acc, ys, zs, l2, ok2, fr2, hD2, rs2, cm2, ef⟩⟩
      by_cases hlt : i < xs.length
      · right
        have okh := ok2.hold fr2 hD2
        have lh : LeF w1 (w2.hold D (.lst acc)) := l2.toLeF.trans ⟨fun _ _ z => z, [], by simp [Wd.hold]⟩
        refine ⟨it.go i _ H2 st2 lh okh hlt, fun H => Mid K w1 t gc ge (wipeR ρ vs) D (xs.drop (i + 1)) fin stf H, fun H' h' => ⟨xs.length - (i + 1), by omega, rfl, hlt, h'⟩, ?_⟩
        intro x H3 y
        obtain ⟨w3, pv, l3, ok3, hx, rx⟩ := it.yld i _ H2 st2 x H3 lh okh hlt y
        have epv : xs[i] = pv := by rw [List.getElem?_eq_getElem hlt] at hx; exact Option.some.inj hx
        rw [List.drop_eq_getElem_cons hlt, epv] at cm2
        obtain ⟨ρ1, bb, st3, et, ec, rest⟩ := compg_cons cm2
        have slw : Slots K w3 (wipeR ρ vs) (L2.wipe σ vs) := by
          have s0 : Slots K w1 (wipeR ρ vs) (L2.wipe σ vs) := (sl.mono l1).wipe vs
          have lf : LeF w1 w3 := lh.trans l3.toLeF
          exact ⟨s0.len, fun i x e => let ⟨v, e2, r⟩ := s0.get i x e; ⟨v, e2, r.monoF lf⟩⟩
        refine ⟨w3, wipeR ρ vs, st2, pv, ρ1, ok3, slw, rx, et, fun w4 σ4 H4 l4 ok4 sl4 hw4 => ⟨?_, ?_⟩⟩
        · have ww : ∀ σ : L2.St, ∀ us : List Nat, L2.wipe (L2.wipe σ us) us = L2.wipe σ us := fun σ us => by
            have : ∀ vs : List Nat, (∀ i ∈ vs, i ∈ us) → L2.wipe (L2.wipe σ vs) us = L2.wipe σ us := fun vs => by
              induction vs with
              | nil => intro _; rfl
              | cons v vs ih =>
                intro h
                show L2.wipe ((L2.wipe σ vs).set v none) us = _
                rw [wipe_set (h v List.mem_cons_self), ih fun i hi => h i (List.mem_cons_of_mem _ hi)]
            exact this us fun i hi => hi
          rw [hw4, ww]
        · refine ⟨w4, ρ1, st2, ok4, sl4, ?_⟩
          rw [ec]
          intro w5 H5 b5 l5 ok5 eb
          subst eb
          rcases rest with ⟨rfl, yv, st4, zs', ee, ecm, ez⟩ | ⟨rfl, ecm⟩
          · rw [if_pos rfl]
            refine ⟨w5, ρ1, st3, ok5, sl4.mono l5, ?_⟩
            rw [ee]
            intro w6 H6 vy l6 ok6 ry
            have l26 : Le (w2.hold D (.lst acc)) w6 := ((l3.trans l4).trans l5).trans l6
            obtain ⟨okU, leU, hDU, frU⟩ := ok6.unhold fr2 l26
            have rsU : RepL K { w6 with R := w2.R } ys acc := rs2.mono leU
            have ryU : Rep K { w6 with R := w2.R } yv vy := Rep.mono' (w := w6) (w' := { w6 with R := w2.R }) (fun _ _ z => z) (fun _ _ z => z) yv vy ry
            have len : acc.length < sizeLine := by
              have hz : fin.length < sizeLine := hz
              rw [ef, ez] at hz
              rw [rs2.length]
              simp at hz
              omega
            refine ⟨acc, hDU, len, ⟨{ w6 with R := w2.R }, st4, acc ++ [vy], ys ++ [yv], zs', l2.trans leU, okU.updF frU _, frU, upd_same, rsU.append (RepL.one ryU), ecm, by rw [ef, ez]; simp⟩⟩
          · rw [if_neg Bool.false_ne_true]
            have l26 : Le (w2.hold D (.lst acc)) w5 := (l3.trans l4).trans l5
            obtain ⟨okU, leU, hDU, frU⟩ := ok5.unhold fr2 l26
            exact ⟨_, st3, acc, ys, zs, l2.trans leU, okU, frU, hDU, rs2.mono leU, ecm, ef⟩
      · left
        have hi3 : i = xs.length := by omega
        subst hi3
        refine ⟨it.stop w2 H2 st2 l2.toLeF ok2, ?_⟩
        rw [List.drop_length] at cm2
        cases cm2
        rw [List.append_nil] at ef
        subst ef
        exact po1 (w2.new D) H2 (.ref D) (l2.trans (le_new w2 D)) (ok2.new' fr2 hD2 ⟨acc, rfl, rs2⟩) ⟨D, rfl, at_end ok2.len⟩
    · rw [if_neg hz] at po1; exact po1.elim
theorem se_compN {iter elt : Expr} {ifs : List Expr} {scope : Scope} {gi : GL} {t : PV → REnv → Option REnv} {gc : GT} {ge : G} (own : List (Str × Nat)) (hc : X.calm = true) (hN : X.N.Nodup) (hi : PI X tg iter (tI X.K W gi)) (ok : BlkOk X.N X.env.scope scope own)
    (hg : ∀ (s : Shared) (H : Hp) (C : Addr) (cl : List (Str × Addr)) (fp : List Addr), PG (X.blk s H scope (compEnvC scope cl C X.env) fp) tg (tTg X.K (own.map (·.2)) t))
    (ht : ∀ (s : Shared) (H : Hp) (C : Addr) (cl : List (Str × Addr)) (fp : List Addr), PTs (X.blk s H scope (compEnvC scope cl C X.env) fp) ifs (tGT X.K W0 gc))
    (he : ∀ (s : Shared) (H : Hp) (C : Addr) (cl : List (Str × Addr)) (fp : List Addr), PE (X.blk s H scope (compEnvC scope cl C X.env) fp) elt (tG X.K W0 ge)) (hs : ∀ x, foldedSetIterable iter X.env x = pure x := by intro _; rfl) :
    PE X (.ListComp elt [⟨tg, iter, ifs, 0⟩] scope pos) (tG X.K W (gCompN gi t gc ge (own.map (·.2)))) :=
  pe_imp (pe_lc hc hN hi ok hg ht he hs) fun _ _ _ h => tLcN_of h
theorem ss_setCN {i : Nat} {y : Str} {py spos : Pos} {iter elt : Expr} {ifs : List Expr} {scope : Scope} {gi : GL} {t : PV → REnv → Option REnv} {gc : GT} {ge : G} (own : List (Str × Nat)) (hc : X.calm = true) (hN : X.N.Nodup) (hy : X.N[i]? = some y) (hyl : X.env.scope.names.lookup y = some .local)
    (hsw : swapsWith (.ListComp elt [⟨tg, iter, ifs, 0⟩] scope pos) (some (.Name y py)) spos.line X.env = pure true) (hi : PI X tg iter (tI X.K W gi)) (ok : BlkOk X.N X.env.scope scope own)
    (hg : ∀ (s : Shared) (H : Hp) (C : Addr) (cl : List (Str × Addr)) (fp : List Addr), PG (X.blk s H scope (compEnvC scope cl C X.env) fp) tg (tTg X.K (own.map (·.2)) t))
    (ht : ∀ (s : Shared) (H : Hp) (C : Addr) (cl : List (Str × Addr)) (fp : List Addr), PTs (X.blk s H scope (compEnvC scope cl C X.env) fp) ifs (tGT X.K W0 gc))
    (he : ∀ (s : Shared) (H : Hp) (C : Addr) (cl : List (Str × Addr)) (fp : List Addr), PE (X.blk s H scope (compEnvC scope cl C X.env) fp) elt (tG X.K W0 ge)) (hs : ∀ x, foldedSetIterable iter X.env x = pure x := by intro _; rfl) :
    L2.PS X (.Assign [.Name y py] (.ListComp elt [⟨tg, iter, ifs, 0⟩] scope pos) spos) (tS X.K W (gSet i (gCompN gi t gc ge (own.map (·.2))))) := by
  refine ps_imp (ps_setLc hc hN hy hyl hsw hi ok hg ht he hs) fun D σ H ⟨w, ρ, st, ok, sl, po⟩ => ?_
  show tLc _ _ _ _ _ σ H fun x H1 => gName i x σ H1 D.nx
  refine tLcN_of ⟨w, ρ, st, ok, sl, post_toS sl po fun v st' w' H' y l o r q => ?_⟩
  exact q w' _ H' (Le.refl _) o ((sl.mono l).set r)
/-! ### lists that stand or may be changed -/
def lstOf (st : List SO) : PV → Option (List PV)
  | .lst xs => some xs
  | .ref k => (match st[k]? with
    | some (.lst xs) => some xs
    | _ => none)
  | _ => none
theorem lstOf_rep {K : PySem.W.Frag} {w : Wd} {H : Hp} {st : List SO} {x : PV} {v : V} {xs : List PV} (ok : WOk K w H st) (r : Rep K w x v) (e : lstOf st x = some xs) : ∃ a vs, v = .ref a ∧ SqL K H a vs ∧ RepL K w xs vs := by
  cases x with
  | lst ys =>
    cases e
    obtain ⟨a, vs, ev, sq, rs⟩ := r
    exact ⟨a, vs, ev, sql_mono ok.fz sq, rs⟩
  | ref k =>
    obtain ⟨a, ev, qa⟩ := r
    obtain ⟨c, o, h1, h2, h3⟩ := ok.obj qa
    have e : (match st[k]? with
      | some (.lst xs) => some xs
      | _ => none) = some xs := e
    rw [h1] at e
    cases c with
    | lst ys =>
      cases e
      obtain ⟨vs, eo, rs⟩ := h3
      exact ⟨a, vs, ev, .inl (.inl (by rw [h2, eo])), rs⟩
    | dK _ => cases e
  | _ => cases e
theorem lstOf_l {st : List SO} {xs : List PV} : lstOf st (.lst xs) = some xs := rfl
theorem lstOf_r {st : List SO} {k : Nat} {xs : List PV} (h : st[k]? = some (.lst xs)) : lstOf st (.ref k) = some xs := by
  show (match st[k]? with
    | some (.lst xs) => some xs
    | _ => none) = some xs
  rw [h]
def rCatS (K : PySem.W.Frag) : R2 := fun x y H Q => ∃ l b xs zs, x = .ref l ∧ y = .ref b ∧ SqL K H l xs ∧ SqL K H b zs ∧ xs.length + zs.length ≤ sizeLine ∧ ∀ p, H p = none → Q (.ref p) (upd H p (.lst (xs ++ zs)))
theorem op_catS : OpR X (binaryOp .Add) (rCatS X.K) := by
  intro pins s σ H x y v u Q I rx ry h
  obtain ⟨l, b, xs, zs, rfl, rfl, hH, hB, hz, q⟩ := h
  cases rx
  cases ry
  obtain ⟨its, r, ⟨⟨cls, dd, data, sl⟩, n, ho, hc, hd, hs⟩, _⟩ := I.list hH
  obtain ⟨its2, r2, ⟨⟨cls2, dd2, data2, sl2⟩, n2, ho2, hc2, hd2, hs2⟩, _⟩ := I.list hB
  simp only at hc hs hc2 hs2
  subst hc hs hc2 hs2
  have l1 := r.length
  have l2 := r2.length
  refine concat_meets ⟨_, ho, rfl⟩ ⟨_, ho2, rfl⟩ noFill_list_add seq_list_add PySem.F.slot_list_add PySem.F.entry_list_add (PySem.F.args_list_add_2 _ _) (PyProof.Rows.list_addW l b its.toArray its2.toArray n n2 dd dd2 sl sl2 (by rw [List.size_toArray, List.size_toArray]; omega)) ⟨ho, ho2, ?_⟩
  have ea : its.toArray ++ its2.toArray = (its ++ its2).toArray := by simp
  rw [ea]
  exact ⟨.ref _, _, I.lnew (t' := s.toks) (r.append r2) (by rw [List.length_append]; omega), rfl, q _ I.fresh⟩
noncomputable def cat2K (st : List SO) : Option (List PV) → Option (List PV) → Res PV
  | some xs, some ys => if LineOk (xs.length + ys.length) then .ok (.ref st.length) (st ++ [.lst (xs ++ ys)]) else .bad
  | _, _ => .bad
noncomputable def gCat2 (ga gb : G) : G := fun ρ st => bnd (ga ρ st) fun x st => bnd (gb ρ st) fun y st => cat2K st (lstOf st x) (lstOf st y)
theorem gCat2_eq {ρ : REnv} {st : List SO} : gCat2 ga gb ρ st = bnd (ga ρ st) fun x st => bnd (gb ρ st) fun y st => cat2K st (lstOf st x) (lstOf st y) := rfl
theorem cat2K_s {st : List SO} {xs ys : List PV} (h : LineOk (xs.length + ys.length)) : cat2K st (some xs) (some ys) = .ok (.ref st.length) (st ++ [.lst (xs ++ ys)]) := if_pos h
theorem se_cat2 (ha : PE X a (tG X.K W ga)) (hb : PE X b (tG X.K W gb)) : PE X (.BinOp a .Add b pos) (tG X.K W (gCat2 ga gb)) := by
  refine pe_imp (pe_op op_catS ha hb) fun σ H Q ⟨w, ρ, st, ok, sl, po⟩ => ?_
  refine ⟨w, ρ, st, ok, sl, post_bind (rel2 := Rep X.K) po fun x st1 w1 H1 vx l1 ok1 rx po1 => ?_⟩
  refine ⟨w1, ρ, st1, ok1, sl.mono l1, post_bind (rel2 := Rep X.K) po1 fun y st2 w2 H2 vy l2 ok2 ry po2 => ?_⟩
  have rx := rx.mono l2
  cases ex : lstOf st2 x with
  | none => rw [ex] at po2; exact po2.elim
  | some xs =>
    cases ey : lstOf st2 y with
    | none => rw [ex, ey] at po2; exact po2.elim
    | some ys =>
      rw [ex, ey] at po2
      obtain ⟨p, us, rfl, s1, r1⟩ := lstOf_rep ok2 rx ex
      obtain ⟨q, zs, rfl, s2, r2⟩ := lstOf_rep ok2 ry ey
      have po2 : Post X.K W (Rep X.K) w2 σ (if LineOk (xs.length + ys.length) then .ok (.ref st2.length) (st2 ++ [.lst (xs ++ ys)]) else .bad) Q := po2
      by_cases hl : LineOk (xs.length + ys.length)
      · rw [if_pos hl] at po2
        refine ⟨p, q, us, zs, rfl, rfl, s1, s2, by rw [r1.length, r2.length]; exact hl, fun r hr => ?_⟩
        exact po2 (w2.new r) _ _ (le_new w2 r) (ok2.new hr (c := .lst (xs ++ ys)) ⟨_, rfl, r1.append r2⟩) ⟨r, rfl, at_end ok2.len⟩
      · rw [if_neg hl] at po2; exact po2.elim
/-! ### insert, extend -/
noncomputable def insK (st : List SO) (k : Nat) (i : Int) (v : PV) : Option SO → Res PV
  | some (.lst ys) => if LenOk ys.length ∧ 0 ≤ i ∧ i < 2 ^ 63 then .ok .non (st.set k (.lst (ys.take i.toNat ++ [v] ++ ys.drop i.toNat))) else .bad
  | _ => .bad
noncomputable def insertM : FM := fun st x xs => match x, xs with
  | .ref k, [.int i, v] => insK st k i v st[k]?
  | _, _ => .bad
theorem insertM_r {st : List SO} {k : Nat} {i : Int} {v : PV} : insertM st (.ref k) [.int i, v] = insK st k i v st[k]? := rfl
theorem insK_s {st : List SO} {k : Nat} {i : Int} {v : PV} {ys : List PV} (h : LenOk ys.length) (h0 : 0 ≤ i) (h1 : i < 2 ^ 63) : insK st k i v (some (.lst ys)) = .ok .non (st.set k (.lst (ys.take i.toNat ++ [v] ++ ys.drop i.toNat))) := if_pos ⟨h, h0, h1⟩
theorem insK_nx {st : List SO} {k : Nat} {i : Int} {v : PV} {o : Option SO} {c : Str} {st' : List SO} : insK st k i v o ≠ .exc c st' := by
  intro h
  unfold insK at h
  split at h
  · split at h <;> cases h
  · cases h
theorem n_insert : NoExc insertM := by
  intro st x xs c st' h
  unfold insertM at h
  split at h
  · exact insK_nx h
  · cases h
abbrev rIns : V → List V → Hp → VK → Prop := fun x vs H Q => ∃ (l : Addr) (xs : List V) (i : Int) (y : V), x = .ref l ∧ vs = [.int i, y] ∧ H l = some (.lst xs) ∧ xs.length < sizeLine ∧ 0 ≤ i ∧ i < 2 ^ 63 ∧ Q .non (upd H l (.lst (xs.take i.toNat ++ [y] ++ xs.drop i.toNat)))
theorem s_insert {K : PySem.W.Frag} : SndM K insertM rIns := by
  intro w H st st' x z xs vx vs Q ok rx rs e q
  unfold insertM at e
  split at e
  · rename_i k i v
    cases hk : st[k]? with
    | none => rw [hk] at e; cases e
    | some c =>
      rw [hk] at e
      cases c with
      | dK _ => cases e
      | lst ys =>
        have e : (if LenOk ys.length ∧ 0 ≤ i ∧ i < 2 ^ 63 then Res.ok PV.non (st.set k (.lst (ys.take i.toNat ++ [v] ++ ys.drop i.toNat))) else .bad) = .ok z st' := e
        by_cases hc : LenOk ys.length ∧ 0 ≤ i ∧ i < 2 ^ 63
        · rw [if_pos hc] at e
          cases e
          obtain ⟨u1, r1, e1, q1, u2, r2, e2, q2, q3⟩ := rs
          have q1 : u1 = .int i := q1
          have q3 : r2 = [] := q3
          subst q1 q3
          obtain ⟨a, ea, qa⟩ := rx
          obtain ⟨c, o, h1, h2, h3⟩ := ok.obj qa
          rw [hk] at h1
          cases h1
          obtain ⟨us, e3, rr⟩ := h3
          rw [e3] at h2
          refine ⟨a, us, i, u2, ea, by rw [e1, e2], h2, by rw [rr.length]; exact hc.1, hc.2.1, hc.2.2, q w _ .non (Le.refl _) (ok.write qa ⟨_, rfl, ((rr.take _).append (RepL.one q2)).append (rr.drop _)⟩) rfl⟩
        · rw [if_neg hc] at e; cases e
  · cases e
noncomputable def extK (st : List SO) (k : Nat) : Option SO → Option SO → Res PV
  | some (.lst ys), some (.lst zs) => if LineOk (ys.length + zs.length) then .ok .non (st.set k (.lst (ys ++ zs))) else .bad
  | _, _ => .bad
noncomputable def extendM : FM := fun st x xs => match x, xs with
  | .ref k, [.ref j] => extK st k st[k]? st[j]?
  | _, _ => .bad
theorem extendM_r {st : List SO} {k j : Nat} : extendM st (.ref k) [.ref j] = extK st k st[k]? st[j]? := rfl
theorem extK_s {st : List SO} {k : Nat} {ys zs : List PV} (h : LineOk (ys.length + zs.length)) : extK st k (some (.lst ys)) (some (.lst zs)) = .ok .non (st.set k (.lst (ys ++ zs))) := if_pos h
theorem n_extend : NoExc extendM := by
  intro st x xs c st' h
  unfold extendM at h
  split at h
  · unfold extK at h
    split at h
    · split at h <;> cases h
    · cases h
  · cases h
theorem s_extend {K : PySem.W.Frag} : SndM K extendM rExtend := by
  intro w H st st' x z xs vx vs Q ok rx rs e q
  unfold extendM at e
  split at e
  · rename_i k j
    obtain ⟨u1, r1, e1, ⟨b, eb, qb⟩, q3⟩ := rs
    have q3 : r1 = [] := q3
    subst q3 eb
    obtain ⟨a, ea, qa⟩ := rx
    obtain ⟨c1, o1, h1, h2, h3⟩ := ok.obj qa
    obtain ⟨c2, o2, g1, g2, g3⟩ := ok.obj qb
    rw [h1, g1] at e
    cases c1 with
    | dK _ => cases e
    | lst ys =>
      cases c2 with
      | dK _ => cases e
      | lst zs =>
        obtain ⟨us, f1, s1⟩ := h3
        obtain ⟨vs', f2, s2⟩ := g3
        subst f1 f2
        have e : (if LineOk (ys.length + zs.length) then Res.ok PV.non (st.set k (.lst (ys ++ zs))) else .bad) = .ok z st' := e
        by_cases hc : LineOk (ys.length + zs.length)
        · rw [if_pos hc] at e
          cases e
          exact ⟨a, b, us, vs', ea, e1, h2, g2, by rw [s1.length, s2.length]; exact hc, q w _ .non (Le.refl _) (ok.write qa ⟨_, rfl, s1.append s2⟩) rfl⟩
        · rw [if_neg hc] at e; cases e
  · cases e
/-! ### list(range(n)) -/
def lrK (st : List SO) : PV → Res PV
  | .int n => if 0 ≤ n ∧ n ≤ 1000 then .ok (.lst (rng 0 n.toNat)) st else .bad
  | _ => .bad
def gListRg (g : G) : G := fun ρ st => bnd (g ρ st) fun v st => lrK st v
theorem gListRg_eq {ρ : REnv} {st : List SO} : gListRg g ρ st = bnd (g ρ st) fun v st => lrK st v := rfl
theorem lrK_i {st : List SO} {n : Int} (h : 0 ≤ n ∧ n ≤ 1000) : lrK st (.int n) = .ok (.lst (rng 0 n.toNat)) st := if_pos h
theorem repL_rg {K : PySem.W.Frag} {w : Wd} (f : Nat → Int) : ∀ l : List Nat, RepL K w (l.map fun i => PV.int (f i)) (l.map fun i => V.int (f i))
  | [] => rfl
  | i :: l => ⟨_, _, rfl, rfl, repL_rg f l⟩
theorem se_listRg {p p2 q2 : Pos} (hc : X.calm = true) (ha : PE X a (tG X.K W g)) (hg : Gl X "list" := by rfl) (hm : X.mg "list" = none := by rfl) (hg2 : Gl X "range" := by rfl) (hm2 : X.mg "range" = none := by rfl)
    (na : starEach [a] X.env = (false, eval a X.env) :: starEach [] X.env := by rfl) (nb : starEach [Expr.Call (.Name "range" p2) [a] [] q2] X.env = (false, eval (Expr.Call (.Name "range" p2) [a] [] q2) X.env) :: starEach [] X.env := by rfl) :
    PE X (.Call (.Name "list" p) [.Call (.Name "range" p2) [a] [] q2] [] pos) (tG X.K W (gListRg g)) := by
  refine pe_imp (pe_listRg hc hg hm (prg_1 hg2 hm2 ha na) nb) fun σ H Q ⟨w, ρ, st, ok, sl, po⟩ => ?_
  refine ⟨w, ρ, st, ok, sl, post_bind (rel2 := Rep X.K) po fun v st1 w1 H1 vx l1 ok1 rx po1 => ?_⟩
  cases v with
  | int n =>
    have rx : vx = .int n := rx
    subst rx
    have po1 : Post X.K W (Rep X.K) w1 σ (if 0 ≤ n ∧ n ≤ 1000 then .ok (.lst (rng 0 n.toNat)) st1 else .bad) Q := po1
    by_cases hn : 0 ≤ n ∧ n ≤ 1000
    · rw [if_pos hn] at po1
      refine ⟨n, rfl, RgOk.of_le (by omega) (by omega) (by omega) (by omega), fun q hq => ?_⟩
      refine po1 (w1.frz q (.lst (rgV 0 n))) _ _ (le_frz ok1 hq _) (ok1.frz hq _) ⟨q, _, rfl, .inl (.inl upd_same), ?_⟩
      unfold rng rgV
      rw [Int.sub_zero]
      exact repL_rg (fun i => 0 + (i : Int)) _
    · rw [if_neg hn] at po1; exact po1.elim
  | _ => exact po1.elim
/-! ### xs[:n] of a list, n reckoned -/
def slVK (st : List SO) : Option (List PV) → PV → Res PV
  | some xs, .int n => .ok (.lst (cutP xs none (some n))) st
  | _, _ => .bad
def gSlV (g gh : G) : G := fun ρ st => bnd (g ρ st) fun v st => bnd (gh ρ st) fun i st => slVK st (lstOf st v) i
theorem gSlV_eq {gh : G} {ρ : REnv} {st : List SO} : gSlV g gh ρ st = bnd (g ρ st) fun v st => bnd (gh ρ st) fun i st => slVK st (lstOf st v) i := rfl
theorem slVK_s {st : List SO} {xs : List PV} {n : Int} : slVK st (some xs) (.int n) = .ok (.lst (cutP xs none (some n))) st := rfl
theorem se_slV {p2 : Pos} {eh : Expr} {gh : G} (he : PE X e (tG X.K W g)) (hh : PE X eh (tG X.K W gh)) : PE X (.Subscript e (.Slice none (some eh) none p2) pos) (tG X.K W (gSlV g gh)) := by
  refine pe_imp (pe_slice sl_list he po_none (po_some hh)) fun σ H Q ⟨w, ρ, st, ok, sl, po⟩ => ⟨w, ρ, st, ok, sl, post_bind (rel2 := Rep X.K) po fun v st1 w1 H1 vx l1 ok1 rx po1 => ?_⟩
  refine ⟨w1, ρ, st1, ok1, sl.mono l1, post_bind (rel2 := Rep X.K) po1 fun i st2 w2 H2 vi l2 ok2 ri po2 => ?_⟩
  cases ex : lstOf st2 v with
  | none => rw [ex] at po2; exact po2.elim
  | some xs =>
    rw [ex] at po2
    obtain ⟨a, vs, rfl, sq, rs⟩ := lstOf_rep ok2 (rx.mono l2) ex
    cases i with
    | int n =>
      have ri : vi = .int n := ri
      refine ⟨n, ri, a, vs, rfl, sq, fun p hp => ?_⟩
      refine po2 (w2.frz p (.lst (cutV vs none (some n)))) _ _ (le_frz ok2 hp _) (ok2.frz hp _) ⟨p, _, rfl, .inl (.inl upd_same), ?_⟩
      unfold cutV cutP
      rw [rs.length]
      exact ((rs.drop _).take _).mono (le_frz ok2 hp _)
    | _ => exact po2.elim
end
end Z
/-! Families of values that == tells apart; haps as pairs; their keys; fractions in a row, each once, rising. -/
namespace Z
open PySem PySem.Spec PyProof.Rows L2
/-! ### values that == tells apart -/
structure DatI {α : Type} [DecidableEq α] (f : α → PV) (g : α → PyData) (m : Nat) : Prop where
  d : ∀ a, toD (f a) = some (g a)
  lay : ∀ a, (g a).canLay0 = true
  dep : ∀ a, (g a).depth ≤ m
  eq : ∀ a b, PyData.eqv (g a) (g b) = decide (a = b)
section
variable {α : Type} [DecidableEq α] {f : α → PV} {g : α → PyData} {m : Nat}
theorem DatI.toDL (D : DatI f g m) : ∀ as : List α, toDL (as.map f) = some (as.map g)
  | [] => rfl
  | a :: as => by
    show (match toD (f a) with | some d => (match Z.toDL (as.map f) with | some ds => some (d :: ds) | none => none) | none => none) = _
    rw [D.d, D.toDL as]
    rfl
theorem DatI.layA (D : DatI f g m) : ∀ as : List α, PyData.canLayAll0 (as.map g) = true
  | [] => rfl
  | a :: as => by
    show ((g a).canLay0 && PyData.canLayAll0 (as.map g)) = true
    rw [D.lay, D.layA as]; rfl
theorem DatI.depA (D : DatI f g m) : ∀ as : List α, PyData.depthAll (as.map g) ≤ m
  | [] => Nat.zero_le _
  | a :: as => by
    have h1 := D.dep a
    have h2 := D.depA as
    show max (g a).depth (PyData.depthAll (as.map g)) ≤ m
    omega
theorem DatI.eqA (D : DatI f g m) : ∀ as bs : List α, PyData.eqvAll (as.map g) (bs.map g) = decide (as = bs)
  | [], [] => rfl
  | [], _ :: _ => rfl
  | _ :: _, [] => rfl
  | a :: as, b :: bs => by
    show (PyData.eqv (g a) (g b) && PyData.eqvAll (as.map g) (bs.map g)) = _
    rw [D.eq, D.eqA as bs, ← Bool.decide_and]
    exact decide_eq_decide.mpr (by rw [List.cons.injEq])
theorem DatI.list (D : DatI f g m) : DatI (fun as : List α => PV.lst (as.map f)) (fun as => PyData.list (as.map g)) (m + 1) where
  d as := by
    show (match Z.toDL (as.map f) with | some ds => some (PyData.list ds) | none => none) = _
    rw [D.toDL]
  lay as := D.layA as
  dep as := Nat.succ_le_succ (D.depA as)
  eq as bs := D.eqA as bs
theorem DatI.tup (D : DatI f g m) : DatI (fun as : List α => PV.tup (as.map f)) (fun as => PyData.tuple (as.map g)) (m + 1) where
  d as := by
    show (match Z.toDL (as.map f) with | some ds => some (PyData.tuple ds) | none => none) = _
    rw [D.toDL]
  lay as := D.layA as
  dep as := Nat.succ_le_succ (D.depA as)
  eq as bs := D.eqA as bs
theorem DatI.sh (D : DatI f g m) (hm : m ≤ 64) (a : α) : SeqAt.shaped (g a) = true := by
  unfold SeqAt.shaped
  rw [D.lay, Bool.true_and]
  exact decide_eq_true (Nat.le_trans (D.dep a) hm)
theorem DatI.eqD (D : DatI f g m) (hm : m ≤ 64) {st : List SO} {x y : PV} {a b : α} (hx : de st x = f a) (hy : de st y = f b) : eqD st x y = some (decide (a = b)) := by
  unfold Z.eqD
  rw [hx, hy, D.d, D.d]
  show (if SeqAt.shaped (g a) = true ∧ SeqAt.shaped (g b) = true then some (PyData.eqv (g a) (g b)) else none) = _
  rw [if_pos ⟨D.sh hm a, D.sh hm b⟩, D.eq]
theorem DatI.eqV (D : DatI f g m) (hm : m ≤ 64) {st : List SO} {x y : PV} {a b : α} (hx : de st x = f a) (hy : de st y = f b) : eqV st x y = some (.bl (decide (a = b))) := by
  unfold Z.eqV
  rw [D.eqD hm hx hy]
  rfl
theorem DatI.neV (D : DatI f g m) (hm : m ≤ 64) {st : List SO} {x y : PV} {a b : α} (hx : de st x = f a) (hy : de st y = f b) : neV st x y = some (.bl (!decide (a = b))) := by
  unfold Z.neV
  rw [D.eqD hm hx hy]
  rfl
theorem DatI.deF (D : DatI f g m) (st : List SO) (a : α) : de st (f a) = f a := by
  have h := D.d a
  cases e : f a with
  | ref k => rw [e] at h; cases h
  | _ => rfl
theorem DatI.eqF (D : DatI f g m) (hm : m ≤ 64) {st : List SO} {x y : PV} {a b : α} (hx : frzV st 0 9 x = some (f a)) (hy : frzV st 0 9 y = some (f b)) : eqF false st x y = some (.bl (decide (a = b))) := by
  show eqFK false (frzV st 0 9 x) (frzV st 0 9 y) = _
  rw [hx, hy]
  exact D.eqV hm (D.deF [] a) (D.deF [] b)
theorem DatI.neF (D : DatI f g m) (hm : m ≤ 64) {st : List SO} {x y : PV} {a b : α} (hx : frzV st 0 9 x = some (f a)) (hy : frzV st 0 9 y = some (f b)) : Z.eqF true st x y = some (.bl (!decide (a = b))) := by
  show eqFK true (frzV st 0 9 x) (frzV st 0 9 y) = _
  rw [hx, hy]
  exact D.neV hm (D.deF [] a) (D.deF [] b)
theorem DatI.inD (D : DatI f g m) (hm : m ≤ 63) {st : List SO} {x y : PV} {a : α} {as : List α} {neg : Bool} (hx : de st x = f a) (hy : lstOf st y = some (as.map f)) : inD neg st x y = some (.bl (if neg = true then !decide (a ∈ as) else decide (a ∈ as))) := by
  have hy : de st y = .lst (as.map f) := by
    cases y with
    | lst ys => cases hy; rfl
    | ref k =>
      have hy : (match st[k]? with
        | some (.lst xs) => some xs
        | _ => none) = some (as.map f) := hy
      show (match st[k]? with
        | some (.lst xs) => PV.lst xs
        | _ => .ref k) = _
      cases q : st[k]? with
      | none => rw [q] at hy; cases hy
      | some c =>
        rw [q] at hy
        cases c with
        | lst zs => cases hy; rfl
        | dK _ => cases hy
    | _ => cases hy
  show inDK neg (toD (de st y)) (toD (de st x)) = _
  rw [hx, hy, D.d, show toD (.lst (as.map f)) = some (.list (as.map g)) from D.list.d as]
  show (if SeqAt.shaped (g a) = true ∧ SeqAt.shaped (.list (as.map g)) = true then some (PV.bl (if neg = true then !(as.map g).any fun z => PyData.eqv z (g a) else (as.map g).any fun z => PyData.eqv z (g a))) else none) = _
  rw [if_pos ⟨D.sh (by omega) a, D.list.sh (by omega) as⟩]
  have e : ((as.map g).any fun z => PyData.eqv z (g a)) = decide (a ∈ as) := by
    rw [List.any_map]
    apply Bool.eq_iff_iff.mpr
    rw [List.any_eq_true, decide_eq_true_eq]
    constructor
    · rintro ⟨z, hz, e⟩
      have e : PyData.eqv (g z) (g a) = true := e
      rw [D.eq] at e
      rw [← of_decide_eq_true e]; exact hz
    · exact fun h => ⟨a, h, by show PyData.eqv (g a) (g a) = true; rw [D.eq]; exact decide_eq_true rfl⟩
  rw [e]
end
theorem dat_int : DatI (fun i : Int => PV.int i) (fun i => PyData.int i) 0 := ⟨fun _ => rfl, fun _ => rfl, fun _ => Nat.le_refl _, fun a b => by show decide (a = b) = _; rfl⟩
theorem dat_nat : DatI (fun i : Nat => PV.int (i : Int)) (fun i => PyData.int (i : Int)) 0 := ⟨fun _ => rfl, fun _ => rfl, fun _ => Nat.le_refl _, fun a b => by show decide ((a : Int) = b) = _; exact decide_eq_decide.mpr Int.ofNat_inj⟩
theorem dat_fr : DatI fr (fun q => PyData.tuple [.int q.num, .int q.den]) 1 := ⟨fun _ => rfl, fun _ => rfl, fun _ => Nat.le_refl _, fun a b => by
  have h : Z.eqD [] (fr a) (fr b) = some (decide (a = b)) := by
    unfold eqD fr
    simp only [de, toD, toDL, show ∀ x y : Int, SeqAt.shaped (.tuple [.int x, .int y]) = true from fun _ _ => rfl, and_self, if_true, PyData.eqv, PyData.eqvAll, Bool.and_true]
    rw [fr_inj]
  obtain ⟨d, d', e1, e2, _, _, e3⟩ := eqD_some h
  cases e1
  cases e2
  exact e3⟩
/-! ### haps -/
def hq (h : Rat × Rat) : PV := hp h.1 h.2
structure HR (n : Nat) (h : Rat × Rat) : Prop where
  t : RS n h.1
  x : RS n h.2
def hd (h : Rat × Rat) : PyData := .tuple [.tuple [.int h.1.num, .int h.1.den], .tuple [.int h.2.num, .int h.2.den]]
theorem dat_hap : DatI hq hd 2 := ⟨fun _ => rfl, fun _ => rfl, fun _ => Nat.le_refl _, fun a b => by
  have h : Z.eqD [] (hq a) (hq b) = some (decide (a.1 = b.1 ∧ a.2 = b.2)) := eqD_hp
  obtain ⟨d, d', e1, e2, _, _, e3⟩ := eqD_some h
  cases e1
  cases e2
  have e3 : PyData.eqv (hd a) (hd b) = decide (a.1 = b.1 ∧ a.2 = b.2) := e3
  rw [e3]
  exact decide_eq_decide.mpr (by rw [Prod.ext_iff])⟩
theorem FZ_hq (h : Rat × Rat) : FZ 3 (hq h) := FZ_hp h.1 h.2
def qk (q : Rat) : NestedKey := .tup [.num q.num, .num q.den]
def hkey (h : Rat × Rat) : NestedKey := .tup [qk h.1, qk h.2]
theorem qk_inj {a b : Rat} (h : qk a = qk b) : a = b := by
  unfold qk at h
  injection h with h
  injection h with h1 h2
  injection h1 with h1
  injection h2 with h2
  injection h2 with h2
  exact Rat.ext h1 (Int.ofNat.inj h2)
theorem hk_inj {a b : Rat × Rat} (h : hkey a = hkey b) : a = b := by
  unfold hkey at h
  injection h with h
  injection h with h1 h2
  injection h2 with h2
  exact Prod.ext (qk_inj h1) (qk_inj h2)
theorem keysT_hq : ∀ hs : List (Rat × Rat), keysT (hs.map hq) = some (hs.map hkey)
  | [] => rfl
  | h :: hs => by
    show (match keysP [fr h.1, fr h.2], keysT (hs.map hq) with
      | some ks, some rs => if NestedKey.depthAll ks ≤ 7 then some (NestedKey.tup ks :: rs) else none
      | _, _ => none) = _
    rw [keysT_hq hs]
    show (if NestedKey.depthAll [qk h.1, qk h.2] ≤ 7 then some (NestedKey.tup [qk h.1, qk h.2] :: hs.map hkey) else none) = _
    rw [if_pos (by simp [qk, NestedKey.depthAll, NestedKey.depth])]
    rfl
theorem ndist_le : ∀ ks : List NestedKey, ndist ks ≤ ks.length
  | [] => Nat.le_refl _
  | k :: ks => by
    have := ndist_le ks
    unfold ndist
    rw [List.length_cons]
    split <;> omega
theorem ndist_nodup : ∀ ks : List NestedKey, ks.Nodup → ndist ks = ks.length
  | [], _ => rfl
  | k :: ks, h => by
    obtain ⟨h1, h2⟩ := List.nodup_cons.mp h
    unfold ndist
    rw [if_neg h1, ndist_nodup ks h2, List.length_cons]
    omega
theorem ndist_lt : ∀ ks : List NestedKey, ¬ ks.Nodup → ndist ks < ks.length
  | [], h => absurd List.nodup_nil h
  | k :: ks, h => by
    unfold ndist
    rw [List.length_cons]
    by_cases c : k ∈ ks
    · have := ndist_le ks
      rw [if_pos c]; omega
    · have := ndist_lt ks fun z => h (List.nodup_cons.mpr ⟨c, z⟩)
      rw [if_neg c]; omega
theorem nodup_hk {hs : List (Rat × Rat)} : (hs.map hkey).Nodup ↔ hs.Nodup := by
  constructor
  · exact fun h => List.Pairwise.of_map hkey (fun _ _ hne e => hne (congrArg hkey e)) h
  · intro h
    exact List.pairwise_map.mpr (h.imp fun hne e => hne (hk_inj e))
theorem ndist_hq {hs : List (Rat × Rat)} : decide (ndist (hs.map hkey) = hs.length) = decide hs.Nodup := by
  refine decide_eq_decide.mpr ⟨fun h => ?_, fun h => ?_⟩
  · by_cases c : hs.Nodup
    · exact c
    · have := ndist_lt _ fun z => c (nodup_hk.mp z)
      rw [List.length_map] at this
      omega
  · rw [ndist_nodup _ (nodup_hk.mpr h), List.length_map]
/-! ### fractions, each once, rising -/
/-- one more -/
def insR (v : Rat) : List Rat → List Rat
  | [] => [v]
  | a :: l => if a < v then a :: insR v l else if a = v then a :: l else v :: a :: l
def srt (vs : List Rat) : List Rat := vs.foldl (fun l v => insR v l) []
theorem mem_insR {v z : Rat} : ∀ {l : List Rat}, z ∈ insR v l ↔ z = v ∨ z ∈ l
  | [] => by simp [insR]
  | a :: l => by
    unfold insR
    by_cases h1 : a < v
    · rw [if_pos h1, List.mem_cons, mem_insR, List.mem_cons]
      exact ⟨fun h => h.elim (fun e => .inr (.inl e)) fun h => h.elim .inl fun h => .inr (.inr h), fun h => h.elim (fun e => .inr (.inl e)) fun h => h.elim .inl fun h => .inr (.inr h)⟩
    · rw [if_neg h1]
      by_cases h2 : a = v
      · rw [if_pos h2]
        exact ⟨.inr, fun h => h.elim (fun e => by rw [e, ← h2]; exact List.mem_cons_self) id⟩
      · rw [if_neg h2, List.mem_cons]
abbrev Up (l : List Rat) : Prop := l.Pairwise (· < ·)
theorem up_insR {v : Rat} : ∀ {l : List Rat}, Up l → Up (insR v l)
  | [], _ => List.pairwise_cons.mpr ⟨fun _ h => (nomatch h), List.Pairwise.nil⟩
  | a :: l, h => by
    obtain ⟨h1, h2⟩ := List.pairwise_cons.mp h
    unfold insR
    by_cases c1 : a < v
    · rw [if_pos c1]
      refine List.pairwise_cons.mpr ⟨fun z hz => ?_, up_insR h2⟩
      rcases mem_insR.mp hz with e | hz
      · rw [e]; exact c1
      · exact h1 z hz
    · rw [if_neg c1]
      by_cases c2 : a = v
      · rw [if_pos c2]; exact h
      · rw [if_neg c2]
        have va : v < a := by grind
        refine List.pairwise_cons.mpr ⟨fun z hz => ?_, h⟩
        rcases List.mem_cons.mp hz with e | hz
        · rw [e]; exact va
        · have := h1 z hz; grind
theorem srt_next {vs : List Rat} {v : Rat} : srt (vs ++ [v]) = insR v (srt vs) := by
  unfold srt
  rw [List.foldl_append]
  rfl
theorem srt_fold : ∀ (vs l : List Rat), Up l → Up (vs.foldl (fun l v => insR v l) l) ∧ ∀ z, z ∈ vs.foldl (fun l v => insR v l) l ↔ z ∈ vs ∨ z ∈ l
  | [], l, h => ⟨h, fun z => by simp⟩
  | v :: vs, l, h => by
    obtain ⟨h1, h2⟩ := srt_fold vs (insR v l) (up_insR h)
    refine ⟨h1, fun z => ?_⟩
    rw [List.foldl_cons, h2, mem_insR, List.mem_cons]
    exact ⟨fun h => h.elim (fun h => .inl (.inr h)) fun h => h.elim (fun e => .inl (.inl e)) .inr, fun h => h.elim (fun h => h.elim (fun e => .inr (.inl e)) .inl) fun h => .inr (.inr h)⟩
theorem up_srt (vs : List Rat) : Up (srt vs) := (srt_fold vs [] List.Pairwise.nil).1
theorem mem_srt {vs : List Rat} {z : Rat} : z ∈ srt vs ↔ z ∈ vs := by
  have := (srt_fold vs [] List.Pairwise.nil).2 z
  unfold srt
  rw [this]
  simp
/-- two rising rows of the same are one -/
theorem up_ext : ∀ {a b : List Rat}, Up a → Up b → (∀ z, z ∈ a ↔ z ∈ b) → a = b
  | [], [], _, _, _ => rfl
  | [], y :: b, _, _, h => absurd ((h y).mpr List.mem_cons_self) (by simp)
  | x :: a, [], _, _, h => absurd ((h x).mp List.mem_cons_self) (by simp)
  | x :: a, y :: b, ha, hb, h => by
    obtain ⟨a1, a2⟩ := List.pairwise_cons.mp ha
    obtain ⟨b1, b2⟩ := List.pairwise_cons.mp hb
    have e : x = y := by
      have h1 := (h x).mp List.mem_cons_self
      have h2 := (h y).mpr List.mem_cons_self
      rcases List.mem_cons.mp h1 with e | h1
      · exact e
      · rcases List.mem_cons.mp h2 with e | h2
        · exact e.symm
        · have := b1 x h1; have := a1 y h2; grind
    subst e
    congr 1
    refine up_ext a2 b2 fun z => ⟨fun hz => ?_, fun hz => ?_⟩
    · rcases List.mem_cons.mp ((h z).mp (List.mem_cons_of_mem _ hz)) with e | q
      · have := a1 z hz; rw [e] at this; grind
      · exact q
    · rcases List.mem_cons.mp ((h z).mpr (List.mem_cons_of_mem _ hz)) with e | q
      · have := b1 z hz; rw [e] at this; grind
      · exact q
theorem srt_len : ∀ vs : List Rat, (srt vs).length ≤ vs.length := fun vs => by
  have : ∀ (vs l : List Rat), (vs.foldl (fun l v => insR v l) l).length ≤ vs.length + l.length := fun vs => by
    induction vs with
    | nil => intro l; simp
    | cons v vs ih =>
      intro l
      have h := ih (insR v l)
      have : (insR v l).length ≤ l.length + 1 := by
        clear h ih
        induction l with
        | nil => simp [insR]
        | cons a l ih => unfold insR; split <;> (try split) <;> simp [List.length_cons] <;> omega
      rw [List.foldl_cons, List.length_cons]
      omega
  have := this vs []
  unfold srt
  simpa using this
end Z
/-! Loops over a list that may be changed, but is not; enumerate. -/
namespace Z
open PySem PySem.Spec PyProof.Rows L2
abbrev GM := REnv → List SO → Res (Nat × List PV)
def itMK (st : List SO) : PV → Res (Nat × List PV)
  | .ref k => (match st[k]? with
    | some (.lst xs) => .ok (k, xs) st
    | _ => .bad)
  | _ => .bad
def gItM (g : G) : GM := fun ρ st => bnd (g ρ st) fun v st => itMK st v
theorem gItM_eq {g : G} {ρ : REnv} {st : List SO} : gItM g ρ st = bnd (g ρ st) fun v st => itMK st v := rfl
theorem itMK_r {st : List SO} {k : Nat} {xs : List PV} (h : st[k]? = some (.lst xs)) : itMK st (.ref k) = .ok (k, xs) st := by
  show (match st[k]? with
    | some (.lst xs) => Res.ok (k, xs) st
    | _ => Res.bad) = _
  rw [h]
/-- still the same -/
def Still (k : Nat) (xs : List PV) (st : List SO) : Prop := st[k]? = some (.lst xs)
def tIM (K : PySem.W.Frag) (W : WX) (g : GM) : TI := fun σ H R => ∃ w ρ st, WOk K w H st ∧ Slots K w ρ σ ∧ Post K W (fun w p J => ∃ a, w.adr[p.1]? = some a ∧ J = Itl K a) w σ (g ρ st) R
section
variable {K : PySem.W.Frag} {w w1 : Wd} {H H' : Hp} {st : List SO} {k i : Nat} {a : Addr} {xs : List PV} {x : V}
theorem still_sq (h : w.adr[k]? = some a) (l : LeF w w1) (ok : WOk K w1 H st) (s : Still k xs st) : ∃ vs, SqL K H a vs ∧ RepL K w1 xs vs := by
  obtain ⟨o, h1, h2⟩ := ok.ob k a _ (l.at h) s
  obtain ⟨vs, eo, rs⟩ := h2
  exact ⟨vs, .inl (.inl (by rw [h1, eo])), rs⟩
theorem still_go (h : w.adr[k]? = some a) (l : LeF w w1) (ok : WOk K w1 H st) (s : Still k xs st) (hi : i < xs.length) : (Itl K a).go i H := by
  obtain ⟨vs, sq, rs⟩ := still_sq h l ok s
  have := rs.length
  exact ⟨vs, vs[i]'(by omega), sq, by simp⟩
theorem still_yld (h : w.adr[k]? = some a) (l : LeF w w1) (ok : WOk K w1 H st) (s : Still k xs st) (hi : i < xs.length) (y : (Itl K a).yld i H x H') : H' = H ∧ Rep K w1 xs[i] x := by
  obtain ⟨vs, sq, rs⟩ := still_sq h l ok s
  obtain ⟨e, y⟩ := y
  subst e
  have hx := y vs sq
  obtain ⟨v, hv, rv⟩ := rs.get (i := i) (x := xs[i]) (by simp)
  rw [hx] at hv
  cases hv
  exact ⟨rfl, rv⟩
theorem still_stop (h : w.adr[k]? = some a) (l : LeF w w1) (ok : WOk K w1 H st) (s : Still k xs st) : (Itl K a).stop xs.length H := by
  obtain ⟨vs, sq, rs⟩ := still_sq h l ok s
  have := rs.length
  exact ⟨vs, sq, by omega⟩
end
open Classical in
noncomputable def forgM (k : Nat) (xs0 : List PV) (t : PV → REnv → Option REnv) (b : GS) : List PV → GS
  | [] => fun ρ st => if Still k xs0 st then .nx ρ st else .bad
  | x :: xs => fun ρ st => if Still k xs0 st then (match t x ρ with
    | some ρ1 => (match b ρ1 st with
      | .nx ρ2 st2 => forgM k xs0 t b xs ρ2 st2
      | r => r)
    | none => .bad) else .bad
def toSM (ρ : REnv) (r : Res (Nat × List PV)) (c : Nat × List PV → List SO → SRes) : SRes := match r with
  | .ok v st => c v st
  | .exc x st => .exc x ρ st
  | .bad => .bad
theorem toSM_ok {ρ : REnv} {p : Nat × List PV} {st : List SO} {c : Nat × List PV → List SO → SRes} : toSM ρ (.ok p st) c = c p st := rfl
noncomputable def gForM (it : GM) (t : PV → REnv → Option REnv) (b : GS) : GS := fun ρ st => toSM ρ (it ρ st) fun p st => forgM p.1 p.2 t b p.2 ρ st
theorem gForM_eq {it : GM} {t : PV → REnv → Option REnv} {b : GS} {ρ : REnv} {st : List SO} : gForM it t b ρ st = toSM ρ (it ρ st) fun p st => forgM p.1 p.2 t b p.2 ρ st := rfl
open Classical in
noncomputable def compgM (k : Nat) (xs0 : List PV) (t : PV → REnv → Option REnv) (c : GT) (e : G) (ρ : REnv) : List PV → List SO → Res (List PV)
  | [], st => if Still k xs0 st then .ok [] st else .bad
  | x :: xs, st => if Still k xs0 st then (match t x ρ with
    | some ρ1 => bnd (c ρ1 st) fun b st1 => if b = true then bnd (e ρ1 st1) fun y st2 => bnd (compgM k xs0 t c e ρ xs st2) fun ys st3 => .ok (y :: ys) st3 else compgM k xs0 t c e ρ xs st1
    | none => .bad) else .bad
/-- the list, standing or new -/
def mkB (nw : Bool) (v : PV) (st : List SO) : Res PV := if nw = true then mkN v st else .ok v st
open Classical in
noncomputable def gCompM (nw : Bool) (it : GM) (t : PV → REnv → Option REnv) (c : GT) (e : G) (vs : List Nat) : G := fun ρ st => bnd (it ρ st) fun p st => match compgM p.1 p.2 t c e (wipeR ρ vs) p.2 st with
  | .ok ys st' => if LenOk ys.length then mkB nw (.lst ys) st' else .bad
  | _ => .bad
theorem compgM_nil {k : Nat} {xs0 : List PV} {t : PV → REnv → Option REnv} {c : GT} {e : G} {ρ : REnv} {st st' : List SO} {ys : List PV} (h : compgM k xs0 t c e ρ [] st = .ok ys st') : Still k xs0 st ∧ ys = [] ∧ st' = st := by
  unfold compgM at h
  by_cases s : Still k xs0 st
  · rw [if_pos s] at h; cases h; exact ⟨s, rfl, rfl⟩
  · rw [if_neg s] at h; cases h
theorem compgM_cons {k : Nat} {xs0 : List PV} {t : PV → REnv → Option REnv} {c : GT} {e : G} {ρ : REnv} {x : PV} {xs ys : List PV} {st st' : List SO} (h : compgM k xs0 t c e ρ (x :: xs) st = .ok ys st') :
    Still k xs0 st ∧ ∃ ρ1 b st1, t x ρ = some ρ1 ∧ c ρ1 st = .ok b st1 ∧ ((b = true ∧ ∃ y st2 zs, e ρ1 st1 = .ok y st2 ∧ compgM k xs0 t c e ρ xs st2 = .ok zs st' ∧ ys = y :: zs) ∨ (b = false ∧ compgM k xs0 t c e ρ xs st1 = .ok ys st')) := by
  unfold compgM at h
  by_cases s : Still k xs0 st
  · rw [if_pos s] at h
    refine ⟨s, ?_⟩
    cases e1 : t x ρ with
    | none => rw [e1] at h; cases h
    | some ρ1 =>
      rw [e1] at h
      have h : bnd (c ρ1 st) (fun b st1 => if b = true then bnd (e ρ1 st1) fun y st2 => bnd (compgM k xs0 t c e ρ xs st2) fun ys st3 => .ok (y :: ys) st3 else compgM k xs0 t c e ρ xs st1) = .ok ys st' := h
      cases e2 : c ρ1 st with
      | exc _ _ => rw [e2] at h; cases h
      | bad => rw [e2] at h; cases h
      | ok b st1 =>
        rw [e2] at h
        refine ⟨ρ1, b, st1, rfl, e2, ?_⟩
        cases b with
        | false => exact .inr ⟨rfl, h⟩
        | true =>
          have h : bnd (e ρ1 st1) (fun y st2 => bnd (compgM k xs0 t c e ρ xs st2) fun ys st3 => .ok (y :: ys) st3) = .ok ys st' := h
          cases e3 : e ρ1 st1 with
          | exc _ _ => rw [e3] at h; cases h
          | bad => rw [e3] at h; cases h
          | ok y st2 =>
            rw [e3] at h
            have h : bnd (compgM k xs0 t c e ρ xs st2) (fun ys st3 => .ok (y :: ys) st3) = .ok ys st' := h
            cases e4 : compgM k xs0 t c e ρ xs st2 with
            | exc _ _ => rw [e4] at h; cases h
            | bad => rw [e4] at h; cases h
            | ok zs st3 => rw [e4] at h; cases h; exact .inl ⟨rfl, y, st2, zs, by first | exact e3 | rfl, by first | exact e4 | rfl, rfl⟩
  · rw [if_neg s] at h; cases h
structure MidM (K : PySem.W.Frag) (w1 : Wd) (k : Nat) (xs0 : List PV) (t : PV → REnv → Option REnv) (c : GT) (e : G) (ρ : REnv) (D : Addr) (xs fin : List PV) (stf : List SO) (H : Hp) : Prop where
  ex : ∃ w2 st2 vs ys zs, Le w1 w2 ∧ WOk K w2 H st2 ∧ Free w2 D ∧ H D = some (.lst vs) ∧ RepL K w2 ys vs ∧ compgM k xs0 t c e ρ xs st2 = .ok zs stf ∧ fin = ys ++ zs
section
variable {X : Cx} {W : WX} {pos : Pos} {a b e tg : Expr} {es : List Expr} {ga gb g : G} {gs : List G}
theorem si_listM (h : PE X e (tG X.K W g)) : PI X tg e (tIM X.K W (gItM g)) := by
  refine pi_imp (pi_list h) fun σ H R ⟨w, ρ, st, ok, sl, po⟩ => ⟨w, ρ, st, ok, sl, post_bind (rel2 := fun (w : Wd) (p : Nat × List PV) J => ∃ a, w.adr[p.1]? = some a ∧ J = Itl X.K a) po fun v st' w' H' x l o r q => ?_⟩
  cases v with
  | ref k =>
    obtain ⟨a, ev, qa⟩ := r
    obtain ⟨c, ob, h1, h2, h3⟩ := o.obj qa
    have q : Post X.K W (fun w (p : Nat × List PV) J => ∃ a, w.adr[p.1]? = some a ∧ J = Itl X.K a) w' σ (match st'[k]? with
      | some (.lst xs) => .ok (k, xs) st'
      | _ => .bad) R := q
    rw [h1] at q
    cases c with
    | lst xs =>
      obtain ⟨vs, eo, rs⟩ := h3
      exact ⟨a, ev, ⟨vs, .inl (.inl (by rw [h2, eo]))⟩, q w' H' _ (Le.refl _) o ⟨a, qa, rfl⟩⟩
    | dK _ => exact q.elim
  | _ => exact q.elim
theorem ss_forM {iter : Expr} {body : List Stmt} {gi : GM} {t : PV → REnv → Option REnv} {sb : GS} {is : List Nat} (hp : PassesOwn (model X.prog X.w) X.A X.env X.xe) (hc : X.calm = true) (hi : PI X tg iter (tIM X.K W gi)) (hg : PG X tg (tTg X.K is t)) (hb : PSs X body (tS X.K W sb))
    (hs : ∀ x, foldedSetIterable iter X.env x = pure x := by intro _; rfl) : L2.PS X (.For tg iter body [] pos) (tS X.K W (gForM gi t sb)) := by
  refine ps_imp (ps_for hp hc hi hg hb hs) fun D σ H ⟨w, ρ, st, ok, sl, po⟩ => ⟨w, ρ, st, ok, sl, ?_⟩
  have po : PostS X.K W w (toSM ρ (gi ρ st) fun p st => forgM p.1 p.2 t sb p.2 ρ st) D := po
  cases e : gi ρ st with
  | exc c st1 => rw [e] at po; exact fun w' H' l o => po w' σ H' l o (sl.mono l)
  | bad => rw [e] at po; exact po.elim
  | ok p st1 =>
    obtain ⟨k, xs⟩ := p
    rw [e] at po
    intro w1 H1 J l1 ok1 ⟨a, ha, eJ⟩
    subst eJ
    have ha : w1.adr[k]? = some a := ha
    have po1 : PostS X.K W w1 (forgM k xs t sb xs ρ st1) D := PostS.mono l1 po
    refine ⟨fun i m σ H => ∃ w2 ρ st, m = xs.length - i ∧ i ≤ xs.length ∧ Le w1 w2 ∧ WOk X.K w2 H st ∧ Slots X.K w2 ρ σ ∧ PostS X.K W w2 (forgM k xs t sb (xs.drop i) ρ st) D, ⟨_, w1, ρ, st1, rfl, Nat.zero_le _, Le.refl _, ok1, sl.mono l1, by simpa using po1⟩, ?_⟩
    rintro i m σ2 H2 ⟨w2, ρ2, st2, rfl, hi2, l2, ok2, sl2, po2⟩
    have stl : Still k xs st2 := by
      rcases Classical.em (Still k xs st2) with s | s
      · exact s
      · exfalso
        cases q : xs.drop i with
        | nil => rw [q] at po2; unfold forgM at po2; rw [if_neg s] at po2; exact po2
        | cons _ _ => rw [q] at po2; unfold forgM at po2; rw [if_neg s] at po2; exact po2
    by_cases hlt : i < xs.length
    · right
      refine ⟨still_go ha l2.toLeF ok2 stl hlt, fun σ H => ∃ w2 ρ st, Le w1 w2 ∧ WOk X.K w2 H st ∧ Slots X.K w2 ρ σ ∧ PostS X.K W w2 (forgM k xs t sb (xs.drop (i + 1)) ρ st) D, ?_, ?_⟩
      · rintro σ' H' ⟨w3, ρ3, st3, l3, ok3, sl3, po3⟩
        exact ⟨xs.length - (i + 1), by omega, w3, ρ3, st3, rfl, hlt, l3, ok3, sl3, po3⟩
      · intro x H' y
        obtain ⟨rfl, rx⟩ := still_yld ha l2.toLeF ok2 stl hlt y
        rw [List.drop_eq_getElem_cons hlt] at po2
        unfold forgM at po2
        rw [if_pos stl] at po2
        cases e1 : t xs[i] ρ2 with
        | none => rw [e1] at po2; exact po2.elim
        | some ρ3 =>
          rw [e1] at po2
          refine ⟨w2, ρ2, st2, xs[i], ρ3, ok2, sl2, rx, e1, fun w4 σ4 H4 l4 ok4 sl4 _ => ⟨w4, ρ3, st2, ok4, sl4, ?_⟩⟩
          have po2 : PostS X.K W w2 (match sb ρ3 st2 with | .nx ρ2 st2 => forgM k xs t sb (xs.drop (i + 1)) ρ2 st2 | r => r) D := po2
          cases e2 : sb ρ3 st2 with
          | nx ρ5 st5 => rw [e2] at po2; exact fun w5 σ5 H5 l5 ok5 sl5 => ⟨w5, ρ5, st5, (l2.trans l4).trans l5, ok5, sl5, PostS.mono (l4.trans l5) po2⟩
          | ret v st5 => rw [e2] at po2; exact PostS.mono l4 po2
          | exc c ρ5 st5 => rw [e2] at po2; exact PostS.mono l4 po2
          | bad => rw [e2] at po2; exact po2.elim
    · left
      have hi3 : i = xs.length := by omega
      subst hi3
      refine ⟨still_stop ha l2.toLeF ok2 stl, ?_⟩
      rw [List.drop_length] at po2
      unfold forgM at po2
      rw [if_pos stl] at po2
      exact po2 w2 σ2 H2 (Le.refl _) ok2 sl2
theorem tLcM_of {K : PySem.W.Frag} {gi : GM} {t : PV → REnv → Option REnv} {gc : GT} {ge : G} {vs : List Nat} {nw : Bool} {σ : L2.St} {H : Hp} {Q : VK} (h : tG K W (gCompM nw gi t gc ge vs) σ H Q) :
    tLc (tIM K W gi) (tTg K vs t) (tGT K W0 gc) (tG K W0 ge) vs σ H Q := by
  obtain ⟨w, ρ, st, ok, sl, po⟩ := h
  refine ⟨w, ρ, st, ok, sl, post_bind (rel2 := Rep K) po fun p st1 w1 H1 J l1 ok1 it po1 => ?_⟩
  obtain ⟨k, xs⟩ := p
  obtain ⟨a, ha, eJ⟩ := it
  subst eJ
  have ha : w1.adr[k]? = some a := ha
  have po1 : Post K W (Rep K) w1 σ (match compgM k xs t gc ge (wipeR ρ vs) xs st1 with
    | .ok ys st' => if LenOk ys.length then mkB nw (.lst ys) st' else .bad
    | _ => .bad) Q := po1
  cases e1 : compgM k xs t gc ge (wipeR ρ vs) xs st1 with
  | exc _ _ => rw [e1] at po1; exact po1.elim
  | bad => rw [e1] at po1; exact po1.elim
  | ok fin stf =>
    rw [e1] at po1
    have po1 : Post K W (Rep K) w1 σ (if LenOk fin.length then mkB nw (.lst fin) stf else .bad) Q := po1
    by_cases hz : LenOk fin.length
    · rw [if_pos hz] at po1
      intro D hD
      refine ⟨fun i m H => m = xs.length - i ∧ i ≤ xs.length ∧ MidM K w1 k xs t gc ge (wipeR ρ vs) D (xs.drop i) fin stf H, ⟨_, rfl, Nat.zero_le _, ⟨w1, st1, [], [], fin, Le.refl _, ok1.updF (ok1.free hD) _, ok1.free hD, upd_same, rfl, by simpa using e1, rfl⟩⟩, ?_⟩
      rintro i m H2 ⟨rfl, hi, ⟨w2, st2, acc, ys, zs, l2, ok2, fr2, hD2, rs2, cm2, ef⟩⟩
      by_cases hlt : i < xs.length
      · right
        have okh := ok2.hold fr2 hD2
        have lh : LeF w1 (w2.hold D (.lst acc)) := l2.toLeF.trans ⟨fun _ _ z => z, [], by simp [Wd.hold]⟩
        rw [List.drop_eq_getElem_cons hlt] at cm2
        obtain ⟨stl, ρ1, bb, st3, et, ec, rest⟩ := compgM_cons cm2
        refine ⟨still_go ha lh okh stl hlt, fun H => MidM K w1 k xs t gc ge (wipeR ρ vs) D (xs.drop (i + 1)) fin stf H, fun H' h' => ⟨xs.length - (i + 1), by omega, rfl, hlt, h'⟩, ?_⟩
        intro x H3 y
        obtain ⟨rfl, rx⟩ := still_yld ha lh okh stl hlt y
        have slw : Slots K (w2.hold D (.lst acc)) (wipeR ρ vs) (L2.wipe σ vs) := by
          have s0 : Slots K w1 (wipeR ρ vs) (L2.wipe σ vs) := (sl.mono l1).wipe vs
          exact ⟨s0.len, fun i x e => let ⟨v, e2, r⟩ := s0.get i x e; ⟨v, e2, r.monoF lh⟩⟩
        refine ⟨w2.hold D (.lst acc), wipeR ρ vs, st2, xs[i], ρ1, okh, slw, rx, et, fun w4 σ4 H4 l4 ok4 sl4 hw4 => ⟨?_, ?_⟩⟩
        · have ww : ∀ σ : L2.St, ∀ us : List Nat, L2.wipe (L2.wipe σ us) us = L2.wipe σ us := fun σ us => by
            have : ∀ vs : List Nat, (∀ i ∈ vs, i ∈ us) → L2.wipe (L2.wipe σ vs) us = L2.wipe σ us := fun vs => by
              induction vs with
              | nil => intro _; rfl
              | cons v vs ih =>
                intro h
                show L2.wipe ((L2.wipe σ vs).set v none) us = _
                rw [wipe_set (h v List.mem_cons_self), ih fun i hi => h i (List.mem_cons_of_mem _ hi)]
            exact this us fun i hi => hi
          rw [hw4, ww]
        · refine ⟨w4, ρ1, st2, ok4, sl4, ?_⟩
          rw [ec]
          intro w5 H5 b5 l5 ok5 eb
          subst eb
          rcases rest with ⟨rfl, yv, st4, zs', ee, ecm, ez⟩ | ⟨rfl, ecm⟩
          · rw [if_pos rfl]
            refine ⟨w5, ρ1, st3, ok5, sl4.mono l5, ?_⟩
            rw [ee]
            intro w6 H6 vy l6 ok6 ry
            have l26 : Le (w2.hold D (.lst acc)) w6 := (l4.trans l5).trans l6
            obtain ⟨okU, leU, hDU, frU⟩ := ok6.unhold fr2 l26
            have rsU : RepL K { w6 with R := w2.R } ys acc := rs2.mono leU
            have ryU : Rep K { w6 with R := w2.R } yv vy := Rep.mono' (w := w6) (w' := { w6 with R := w2.R }) (fun _ _ z => z) (fun _ _ z => z) yv vy ry
            have len : acc.length < sizeLine := by
              have hz : fin.length < sizeLine := hz
              rw [ef, ez] at hz
              rw [rs2.length]
              simp at hz
              omega
            refine ⟨acc, hDU, len, ⟨{ w6 with R := w2.R }, st4, acc ++ [vy], ys ++ [yv], zs', l2.trans leU, okU.updF frU _, frU, upd_same, rsU.append (RepL.one ryU), ecm, by rw [ef, ez]; simp⟩⟩
          · rw [if_neg Bool.false_ne_true]
            have l26 : Le (w2.hold D (.lst acc)) w5 := l4.trans l5
            obtain ⟨okU, leU, hDU, frU⟩ := ok5.unhold fr2 l26
            exact ⟨_, st3, acc, ys, zs, l2.trans leU, okU, frU, hDU, rs2.mono leU, ecm, ef⟩
      · left
        have hi3 : i = xs.length := by omega
        subst hi3
        rw [List.drop_length] at cm2
        obtain ⟨stl, ez, es⟩ := compgM_nil cm2
        refine ⟨still_stop ha l2.toLeF ok2 stl, ?_⟩
        subst ez es
        rw [List.append_nil] at ef
        subst ef
        cases nw with
        | false => exact po1 (w2.frz D (.lst acc)) H2 (.ref D) (l2.trans (le_frz' fr2 _)) (ok2.frz' fr2 hD2) ⟨D, acc, rfl, .inl (.inl upd_same), rs2.mono (le_frz' fr2 _)⟩
        | true => exact po1 (w2.new D) H2 (.ref D) (l2.trans (le_new w2 D)) (ok2.new' fr2 hD2 ⟨acc, rfl, rs2⟩) ⟨D, rfl, at_end ok2.len⟩
    · rw [if_neg hz] at po1; exact po1.elim
theorem se_compM {iter elt : Expr} {ifs : List Expr} {scope : Scope} {gi : GM} {t : PV → REnv → Option REnv} {gc : GT} {ge : G} (nw : Bool) (own : List (Str × Nat)) (hc : X.calm = true) (hN : X.N.Nodup) (hi : PI X tg iter (tIM X.K W gi)) (ok : BlkOk X.N X.env.scope scope own)
    (hg : ∀ (s : Shared) (H : Hp) (C : Addr) (cl : List (Str × Addr)) (fp : List Addr), PG (X.blk s H scope (compEnvC scope cl C X.env) fp) tg (tTg X.K (own.map (·.2)) t))
    (ht : ∀ (s : Shared) (H : Hp) (C : Addr) (cl : List (Str × Addr)) (fp : List Addr), PTs (X.blk s H scope (compEnvC scope cl C X.env) fp) ifs (tGT X.K W0 gc))
    (he : ∀ (s : Shared) (H : Hp) (C : Addr) (cl : List (Str × Addr)) (fp : List Addr), PE (X.blk s H scope (compEnvC scope cl C X.env) fp) elt (tG X.K W0 ge)) (hs : ∀ x, foldedSetIterable iter X.env x = pure x := by intro _; rfl) :
    PE X (.ListComp elt [⟨tg, iter, ifs, 0⟩] scope pos) (tG X.K W (gCompM nw gi t gc ge (own.map (·.2)))) :=
  pe_imp (pe_lc hc hN hi ok hg ht he hs) fun _ _ _ h => tLcM_of h
theorem ss_setCM {i : Nat} {y : Str} {py spos : Pos} {iter elt : Expr} {ifs : List Expr} {scope : Scope} {gi : GM} {t : PV → REnv → Option REnv} {gc : GT} {ge : G} (nw : Bool) (own : List (Str × Nat)) (hc : X.calm = true) (hN : X.N.Nodup) (hy : X.N[i]? = some y) (hyl : X.env.scope.names.lookup y = some .local)
    (hsw : swapsWith (.ListComp elt [⟨tg, iter, ifs, 0⟩] scope pos) (some (.Name y py)) spos.line X.env = pure true) (hi : PI X tg iter (tIM X.K W gi)) (ok : BlkOk X.N X.env.scope scope own)
    (hg : ∀ (s : Shared) (H : Hp) (C : Addr) (cl : List (Str × Addr)) (fp : List Addr), PG (X.blk s H scope (compEnvC scope cl C X.env) fp) tg (tTg X.K (own.map (·.2)) t))
    (ht : ∀ (s : Shared) (H : Hp) (C : Addr) (cl : List (Str × Addr)) (fp : List Addr), PTs (X.blk s H scope (compEnvC scope cl C X.env) fp) ifs (tGT X.K W0 gc))
    (he : ∀ (s : Shared) (H : Hp) (C : Addr) (cl : List (Str × Addr)) (fp : List Addr), PE (X.blk s H scope (compEnvC scope cl C X.env) fp) elt (tG X.K W0 ge)) (hs : ∀ x, foldedSetIterable iter X.env x = pure x := by intro _; rfl) :
    L2.PS X (.Assign [.Name y py] (.ListComp elt [⟨tg, iter, ifs, 0⟩] scope pos) spos) (tS X.K W (gSet i (gCompM nw gi t gc ge (own.map (·.2))))) := by
  refine ps_imp (ps_setLc hc hN hy hyl hsw hi ok hg ht he hs) fun D σ H ⟨w, ρ, st, ok, sl, po⟩ => ?_
  show tLc _ _ _ _ _ σ H fun x H1 => gName i x σ H1 D.nx
  refine tLcM_of ⟨w, ρ, st, ok, sl, post_toS sl po fun v st' w' H' y l o r q => ?_⟩
  exact q w' _ H' (Le.refl _) o ((sl.mono l).set r)
/-! ### enumerate -/
def enP : Nat → List PV → List PV
  | _, [] => []
  | i, x :: xs => .tup [.int (i : Int), x] :: enP (i + 1) xs
theorem enP_len : ∀ (i : Nat) (xs : List PV), (enP i xs).length = xs.length
  | _, [] => rfl
  | i, x :: xs => by unfold enP; rw [List.length_cons, List.length_cons, enP_len]
theorem enP_get : ∀ {xs : List PV} {i j : Nat} {x : PV}, xs[j]? = some x → (enP i xs)[j]? = some (.tup [.int ((i + j : Nat) : Int), x])
  | [], _, _, _, h => by simp at h
  | y :: xs, i, 0, x, h => by
    simp at h
    subst h
    rfl
  | y :: xs, i, j + 1, x, h => by
    simp only [List.getElem?_cons_succ] at h
    show (enP (i + 1) xs)[j]? = _
    rw [enP_get h, show i + 1 + j = i + (j + 1) by omega]
def enK (st : List SO) : Option (List PV) → Res (List PV)
  | some xs => .ok (enP 0 xs) st
  | none => .bad
def gEnum (g : G) : GL := fun ρ st => bnd (g ρ st) fun v st => enK st (match v with
  | .lst xs => some xs
  | _ => none)
theorem gEnum_l {ρ : REnv} {st st' : List SO} {xs : List PV} (h : g ρ st = .ok (.lst xs) st') : gEnum g ρ st = .ok (enP 0 xs) st' := by
  unfold gEnum
  rw [h]
  rfl
theorem itm_enum {K : PySem.W.Frag} {w : Wd} {a : Addr} {vs : List V} {xs : List PV} (h : SqL K w.F a vs) (r : RepL K w xs vs) : Itm K w (Ite K a) (enP 0 xs) := by
  have len := r.length
  have sq : ∀ {w1 : Wd} {H : Hp} {st : List SO}, LeF w w1 → WOk K w1 H st → SqL K H a vs := fun l ok => sql_mono ok.fz (sql_mono l.F h)
  refine ⟨fun i w1 H st l ok hi => ?_, fun i w1 H st v H' l ok hi y => ?_, fun w1 H st l ok => ⟨vs, sq l ok, by rw [enP_len]; omega⟩⟩
  · rw [enP_len] at hi
    exact ⟨vs, vs[i]'(by omega), sq l ok, by simp⟩
  · rw [enP_len] at hi
    obtain ⟨T, x, rfl, hT, rfl, f1⟩ := y
    obtain ⟨v1, e1, r1⟩ := (r.monoF l).get (i := i) (x := xs[i]) (by simp)
    rw [f1 vs (sq l ok)] at e1
    cases e1
    have le := le_frz ok hT (.tup [.int (i : Nat), x])
    refine ⟨w1.frz T (.tup [.int (i : Nat), x]), .tup [.int ((0 + i : Nat) : Int), xs[i]], le, ok.frz hT _, enP_get (by simp), T, [.int (i : Nat), x], rfl, .inl (.inl upd_same), .int (i : Nat), [x], rfl, by rw [Nat.zero_add]; rfl, x, [], rfl, r1.mono le, rfl⟩
theorem si_enum {p tpos : Pos} {elts : List Expr} {kk : Nat} (hm : X.mg "enumerate" = none) (ha : PE X a (tG X.K W ga)) (hg : Gl X "enumerate" := by rfl) (hs : starEach [a] X.env = [(false, eval a X.env)] := by rfl) :
    PI X (.Tuple elts kk tpos) (.Call (.Name "enumerate" p) [a] [] pos) (tI X.K W (gEnum ga)) := by
  refine pi_imp (pi_enum hg hm (pa_cons ha pa_nil hs) hs) fun σ H R ⟨w, ρ, st, ok, sl, po⟩ => ⟨w, ρ, st, ok, sl, post_bind (rel2 := fun w xs J => Itm X.K w J xs) po fun v st' w' H' x l o r q => ?_⟩
  cases v with
  | lst xs =>
    obtain ⟨a, vs, ev, sq, rs⟩ := r
    subst ev
    exact ⟨a, vs, rfl, sql_mono o.fz sq, q w' H' _ (Le.refl _) o (itm_enum sq rs)⟩
  | _ => exact q.elim
end
/-! ### what these loops do -/
section
variable {k : Nat} {xs0 : List PV} {t : PV → REnv → Option REnv} {b : GS} {c : GT} {e : G}
theorem comp_mapM {ρ : REnv} {st : List SO} (s : Still k xs0 st) (f : PV → PV) (p : PV → Bool) : ∀ xs : List PV, (∀ x ∈ xs, ∃ ρ1, t x ρ = some ρ1 ∧ c ρ1 st = .ok (p x) st ∧ (p x = true → e ρ1 st = .ok (f x) st)) → compgM k xs0 t c e ρ xs st = .ok ((xs.filter p).map f) st
  | [], _ => by unfold compgM; rw [if_pos s]; rfl
  | x :: xs, h => by
    obtain ⟨ρ1, h1, h2, h3⟩ := h x (by simp)
    have ih := comp_mapM s f p xs fun y hy => h y (by simp [hy])
    unfold compgM
    rw [if_pos s, h1]
    show bnd (c ρ1 st) _ = _
    rw [h2, bnd_ok]
    cases hp : p x with
    | true =>
      rw [if_pos rfl, h3 hp, bnd_ok, ih, bnd_ok, List.filter_cons_of_pos hp]
      rfl
    | false => rw [if_neg Bool.false_ne_true, ih, List.filter_cons_of_neg (by rw [hp]; exact Bool.false_ne_true)]
theorem comp_flt {ρ : REnv} {st : List SO} (f : PV → PV) (p : PV → Bool) : ∀ xs : List PV, (∀ x ∈ xs, ∃ ρ1, t x ρ = some ρ1 ∧ c ρ1 st = .ok (p x) st ∧ (p x = true → e ρ1 st = .ok (f x) st)) → compg t c e ρ xs st = .ok ((xs.filter p).map f) st
  | [], _ => rfl
  | x :: xs, h => by
    obtain ⟨ρ1, h1, h2, h3⟩ := h x (by simp)
    have ih := comp_flt f p xs fun y hy => h y (by simp [hy])
    unfold compg
    rw [h1]
    show bnd (c ρ1 st) _ = _
    rw [h2, bnd_ok]
    cases hp : p x with
    | true =>
      rw [if_pos rfl, h3 hp, bnd_ok, ih, bnd_ok, List.filter_cons_of_pos hp]
      rfl
    | false => rw [if_neg Bool.false_ne_true, ih, List.filter_cons_of_neg (by rw [hp]; exact Bool.false_ne_true)]
theorem gCompM_ok {nw : Bool} {it : GM} {vs : List Nat} {ρ : REnv} {st st1 st2 : List SO} {xs ys : List PV} (h1 : it ρ st = .ok (k, xs) st1) (h2 : compgM k xs t c e (wipeR ρ vs) xs st1 = .ok ys st2) (h3 : LenOk ys.length) : gCompM nw it t c e vs ρ st = mkB nw (.lst ys) st2 := by
  unfold gCompM
  rw [h1, bnd_ok]
  simp only [h2]
  exact if_pos h3
theorem mkB_t {ys : List PV} {st : List SO} : mkB true (.lst ys) st = .ok (.ref st.length) (st ++ [.lst ys]) := rfl
theorem mkB_f {ys : List PV} {st : List SO} : mkB false (.lst ys) st = .ok (.lst ys) st := rfl
theorem forgM_idx : ∀ (xs : List PV) (I : Nat → REnv → List SO → Prop) (ρ : REnv) (st : List SO), (∀ i ρ st, I i ρ st → Still k xs0 st) → I 0 ρ st →
    (∀ (i : Nat) (x : PV) ρ st, xs[i]? = some x → I i ρ st → ∃ ρ1 ρ2 st2, t x ρ = some ρ1 ∧ b ρ1 st = .nx ρ2 st2 ∧ I (i + 1) ρ2 st2) → ∃ ρ' st', forgM k xs0 t b xs ρ st = .nx ρ' st' ∧ I xs.length ρ' st'
  | [], I, ρ, st, hI, h, _ => ⟨ρ, st, by unfold forgM; rw [if_pos (hI _ _ _ h)], h⟩
  | x :: xs, I, ρ, st, hI, h, hs => by
    obtain ⟨ρ1, ρ2, st2, e1, e2, h2⟩ := hs 0 x ρ st rfl h
    obtain ⟨ρ', st', e3, h3⟩ := forgM_idx xs (fun i => I (i + 1)) ρ2 st2 (fun i => hI (i + 1)) h2 fun i y ρ st hy => hs (i + 1) y ρ st (by simpa using hy)
    refine ⟨ρ', st', ?_, h3⟩
    unfold forgM
    rw [if_pos (hI _ _ _ h), e1]
    show (match b ρ1 st with | .nx ρ2 st2 => forgM k xs0 t b xs ρ2 st2 | r => r) = _
    rw [e2]
    exact e3
end
theorem blsOf_mapg {α : Type} (g : α → Bool) : ∀ xs : List α, blsOf (xs.map fun x => PV.bl (g x)) = some (xs.map g)
  | [] => rfl
  | x :: xs => by
    rw [List.map_cons, blsOf_cons, blsOf_mapg g xs]
    rfl
theorem rng_map {β : Type} {lo : Int} {n : Nat} (f : PV → β) : (rng lo n).map f = (List.range n).map fun i => f (.int (lo + (i : Nat))) := by
  unfold rng
  rw [List.map_map]
  rfl
/-! ### what one hap is to another -/
noncomputable def kwB (b1 b2 b3 b4 : Bool) : Str := if (b1 && b2) = true then "same" else if (!b3) = true then "later" else if (!b4) = true then "earlier" else "beside"
noncomputable def kw (a g : Rat) : Str := kwB (decide (a = 0)) (decide (g = 0)) (decide (a < ab g)) (decide (-a < ab g))
section
variable {α : Type} [DecidableEq α] {f : α → PV} {g : α → PyData} {m : Nat} {st : List SO} {x y : PV} {a b : α} {as : List α}
theorem DatI.notin_t (D : DatI f g m) (hm : m ≤ 63) (hx : de st x = f a) (hy : lstOf st y = some (as.map f)) (h : a ∉ as) : Z.inD true st x y = some (.bl true) := by
  rw [D.inD hm hx hy, if_pos rfl, decide_eq_false h]; rfl
theorem DatI.notin_f (D : DatI f g m) (hm : m ≤ 63) (hx : de st x = f a) (hy : lstOf st y = some (as.map f)) (h : a ∈ as) : Z.inD true st x y = some (.bl false) := by
  rw [D.inD hm hx hy, if_pos rfl, decide_eq_true h]; rfl
theorem DatI.in_t (D : DatI f g m) (hm : m ≤ 63) (hx : de st x = f a) (hy : lstOf st y = some (as.map f)) (h : a ∈ as) : Z.inD false st x y = some (.bl true) := by
  rw [D.inD hm hx hy, if_neg Bool.false_ne_true, decide_eq_true h]
theorem DatI.in_f (D : DatI f g m) (hm : m ≤ 63) (hx : de st x = f a) (hy : lstOf st y = some (as.map f)) (h : a ∉ as) : Z.inD false st x y = some (.bl false) := by
  rw [D.inD hm hx hy, if_neg Bool.false_ne_true, decide_eq_false h]
theorem DatI.neF_same (D : DatI f g m) (hm : m ≤ 64) (hx : frzV st 0 9 x = some (f a)) (hy : frzV st 0 9 y = some (f a)) : Z.eqF true st x y = some (.bl false) := by
  rw [D.neF hm hx hy, decide_eq_true rfl]; rfl
theorem DatI.eqF_same (D : DatI f g m) (hm : m ≤ 64) (hx : frzV st 0 9 x = some (f a)) (hy : frzV st 0 9 y = some (f a)) : Z.eqF false st x y = some (.bl true) := by
  rw [D.eqF hm hx hy, decide_eq_true rfl]
theorem DatI.neV_t (D : DatI f g m) (hm : m ≤ 64) (hx : de st x = f a) (hy : de st y = f b) (h : a ≠ b) : Z.neV st x y = some (.bl true) := by
  rw [D.neV hm hx hy, decide_eq_false h]; rfl
theorem DatI.neV_f (D : DatI f g m) (hm : m ≤ 64) (hx : de st x = f a) (hy : de st y = f b) (h : a = b) : Z.neV st x y = some (.bl false) := by
  rw [D.neV hm hx hy, decide_eq_true h]; rfl
theorem DatI.eqV_t (D : DatI f g m) (hm : m ≤ 64) (hx : de st x = f a) (hy : de st y = f b) (h : a = b) : Z.eqV st x y = some (.bl true) := by
  rw [D.eqV hm hx hy, decide_eq_true h]
theorem DatI.eqV_f (D : DatI f g m) (hm : m ≤ 64) (hx : de st x = f a) (hy : de st y = f b) (h : a ≠ b) : Z.eqV st x y = some (.bl false) := by
  rw [D.eqV hm hx hy, decide_eq_false h]
end
end Z
/-! Numbers by the fractions that stand at them. -/
namespace Z
open PySem PySem.Spec PyProof.Rows L2
/-- the numbers below i at which v stands -/
def nums (vs : List Rat) (i : Nat) (v : Rat) : List Nat := (List.range i).filter fun k => decide (vs[k]? = some v)
theorem nums_next {vs : List Rat} {i : Nat} {v u : Rat} (h : vs[i]? = some v) : nums vs (i + 1) u = if u = v then nums vs i u ++ [i] else nums vs i u := by
  unfold nums
  rw [List.range_succ, List.filter_append]
  by_cases c : u = v
  · rw [if_pos c, List.filter_cons_of_pos (by rw [h, c]; exact decide_eq_true rfl)]
    rfl
  · rw [if_neg c, List.filter_cons_of_neg (by rw [h]; exact fun e => c (Option.some.inj (of_decide_eq_true e)).symm)]
    exact List.append_nil _
theorem nums_none {vs : List Rat} {i : Nat} {v : Rat} (h : v ∉ vs.take i) : nums vs i v = [] := by
  unfold nums
  refine List.filter_eq_nil_iff.mpr fun k hk e => h ?_
  have hk := List.mem_range.mp hk
  have e := of_decide_eq_true e
  exact List.mem_of_getElem? (i := k) (by rw [List.getElem?_take_of_lt hk]; exact e)
theorem insR_app {v : Rat} : ∀ {A B : List Rat}, (∀ a ∈ A, a < v) → insR v (A ++ B) = A ++ insR v B
  | [], _, _ => rfl
  | a :: A, B, h => by
    show insR v (a :: (A ++ B)) = _
    show (if a < v then a :: insR v (A ++ B) else if a = v then a :: (A ++ B) else v :: a :: (A ++ B)) = _
    rw [if_pos (h a List.mem_cons_self), insR_app fun b hb => h b (List.mem_cons_of_mem _ hb)]
    rfl
theorem insR_mem {v : Rat} {l : List Rat} (h : Up l) (m : v ∈ l) : insR v l = l :=
  up_ext (up_insR h) h fun z => by rw [mem_insR]; exact ⟨fun q => q.elim (fun e => by rw [e]; exact m) id, .inr⟩
theorem split_lt (v : Rat) : ∀ gs : List (Rat × Nat), ∃ A B, gs = A ++ B ∧ (∀ p ∈ A, p.1 < v) ∧ (B = [] ∨ ∃ p B', B = p :: B' ∧ ¬ p.1 < v)
  | [] => ⟨[], [], rfl, fun p h => (nomatch h), .inl rfl⟩
  | g :: gs => by
    by_cases c : g.1 < v
    · obtain ⟨A, B, e, h1, h2⟩ := split_lt v gs
      refine ⟨g :: A, B, by rw [e]; rfl, fun p hp => ?_, h2⟩
      rcases List.mem_cons.mp hp with q | q
      · rw [q]; exact c
      · exact h1 p q
    · exact ⟨[], g :: gs, rfl, fun p h => (nomatch h), .inr ⟨g, gs, rfl, c⟩⟩
theorem map_inj_of_nodup {α β : Type} {f : α → β} : ∀ {l : List α}, (l.map f).Nodup → ∀ {a b : α}, a ∈ l → b ∈ l → f a = f b → a = b
  | [], _, _, _, h, _, _ => nomatch h
  | x :: l, hn, a, b, ha, hb, e => by
    obtain ⟨h1, h2⟩ := List.nodup_cons.mp hn
    rcases List.mem_cons.mp ha with p | p
    · rcases List.mem_cons.mp hb with q | q
      · rw [p, q]
      · exact absurd (List.mem_map.mpr ⟨b, q, by rw [← e, p]⟩) h1
    · rcases List.mem_cons.mp hb with q | q
      · exact absurd (List.mem_map.mpr ⟨a, p, by rw [e, q]⟩) h1
      · exact map_inj_of_nodup h2 p q e
theorem Up.nodup {l : List Rat} (h : Up l) : l.Nodup := h.imp fun hab e => by rw [e] at hab; grind
/-- a value and the list that stands for it -/
def gp (p : Rat × Nat) : PV := .tup [fr p.1, .ref p.2]
def pvN (l : List Nat) : List PV := l.map fun (k : Nat) => PV.int (k : Int)
/-- a hap's time from a seat at nought -/
def ownT (q : Rat) (h : Rat × Rat) : Rat := h.1 - q * h.2
theorem ownT_rs {n : Nat} {q : Rat} {h : Rat × Rat} (a : HR n h) (hq : RS n q) : RS (3 * n + 1) (ownT q h) := (a.t.sub (hq.mul a.x)).mono (by omega)
structure GI (st : List SO) (vs : List Rat) (i : Nat) (gs : List (Rat × Nat)) (S : List SO) : Prop where
  ex : ∃ rows, S = st ++ [.lst (gs.map gp)] ++ rows
  vals : gs.map (·.1) = srt (vs.take i)
  nd : (gs.map (·.2)).Nodup
  row : ∀ p ∈ gs, st.length < p.2 ∧ S[p.2]? = some (.lst (pvN (nums vs i p.1)))
theorem GI.zero {st : List SO} {vs : List Rat} : GI st vs 0 [] (st ++ [.lst []]) := ⟨⟨[], by rw [List.append_nil]; rfl⟩, rfl, List.nodup_nil, fun p h => (nomatch h)⟩
theorem GI.get {st S : List SO} {vs : List Rat} {i : Nat} {gs : List (Rat × Nat)} (g : GI st vs i gs S) : S[st.length]? = some (.lst (gs.map gp)) := by
  obtain ⟨rows, rfl⟩ := g.ex
  rw [List.append_assoc, List.getElem?_append_right (Nat.le_refl _), Nat.sub_self]
  rfl
theorem GI.here {st S : List SO} {vs : List Rat} {i : Nat} {gs : List (Rat × Nat)} {p : Rat × Nat} (g : GI st vs i gs S) (hp : p ∈ gs) (h : vs[i]? = some p.1) : GI st vs (i + 1) gs (S.set p.2 (SO.lst (pvN (nums vs i p.1) ++ [.int (i : Int)]))) := by
  obtain ⟨lt, hr⟩ := g.row p hp
  have tk : vs.take (i + 1) = vs.take i ++ [p.1] := by rw [List.take_succ, h]; rfl
  have inS : p.1 ∈ srt (vs.take i) := by rw [← g.vals]; exact List.mem_map.mpr ⟨p, hp, rfl⟩
  refine ⟨?_, ?_, g.nd, fun p' hp' => ?_⟩
  · obtain ⟨rows, rfl⟩ := g.ex
    exact ⟨_, List.set_append_right _ _ (by rw [List.length_append]; simp; omega)⟩
  · rw [tk, srt_next, insR_mem (up_srt _) inS]; exact g.vals
  · obtain ⟨lt', hr'⟩ := g.row p' hp'
    refine ⟨lt', ?_⟩
    by_cases c : p' = p
    · subst c
      have hl : p'.2 < S.length := (List.getElem?_eq_some_iff.mp hr).1
      rw [List.getElem?_set_self hl, nums_next h, if_pos rfl]
      unfold pvN
      rw [List.map_append]
      rfl
    · have ne2 : p.2 ≠ p'.2 := fun e => c (map_inj_of_nodup g.nd hp' hp e.symm)
      have ne1 : p'.1 ≠ p.1 := fun e => c (map_inj_of_nodup (by rw [g.vals]; exact (up_srt _).nodup) hp' hp e)
      rw [List.getElem?_set_ne ne2, hr', nums_next h, if_neg ne1]
theorem GI.fresh {st S : List SO} {vs : List Rat} {i : Nat} {A B : List (Rat × Nat)} {v : Rat} (g : GI st vs i (A ++ B) S) (h : vs[i]? = some v) (hA : ∀ p ∈ A, p.1 < v) (hB : B = [] ∨ ∃ p B', B = p :: B' ∧ ¬ p.1 < v ∧ p.1 ≠ v) :
    GI st vs (i + 1) (A ++ (v, S.length) :: B) ((S ++ [SO.lst [.int (i : Int)]]).set st.length (SO.lst ((A ++ (v, S.length) :: B).map gp))) := by
  have tk : vs.take (i + 1) = vs.take i ++ [v] := by rw [List.take_succ, h]; rfl
  have gv := g.vals
  have up : Up ((A ++ B).map (·.1)) := by rw [gv]; exact up_srt _
  have insB : insR v (B.map (·.1)) = v :: B.map (·.1) := by
    rcases hB with e | ⟨p, B', e, h1, h2⟩
    · rw [e]; rfl
    · rw [e]
      show insR v (p.1 :: B'.map _) = _
      unfold insR
      rw [if_neg h1, if_neg h2]
      rfl
  have vals : (A ++ (v, S.length) :: B).map (·.1) = srt (vs.take (i + 1)) := by
    rw [tk, srt_next, ← gv, List.map_append, List.map_append, insR_app (fun a ha => by
      obtain ⟨p, hp, rfl⟩ := List.mem_map.mp ha
      exact hA p hp), insB]
    rfl
  have nin : v ∉ (A ++ B).map (·.1) := fun hm => by
    have e := insR_mem up hm
    rw [List.map_append, insR_app (fun a ha => by
      obtain ⟨p, hp, rfl⟩ := List.mem_map.mp ha
      exact hA p hp), insB] at e
    have := congrArg List.length e
    simp only [List.length_append, List.length_cons] at this
    omega
  have vt : v ∉ vs.take i := fun hm => nin (by rw [gv]; exact mem_srt.mpr hm)
  have small : ∀ p ∈ A ++ B, p.2 < S.length := fun p hp => (List.getElem?_eq_some_iff.mp (g.row p hp).2).1
  have stl : st.length < S.length := by
    obtain ⟨rows, e⟩ := g.ex
    rw [e, List.length_append, List.length_append]
    simp
    omega
  refine ⟨?_, vals, ?_, fun p hp => ?_⟩
  · obtain ⟨rows, e⟩ := g.ex
    refine ⟨rows ++ [.lst [.int (i : Int)]], ?_⟩
    rw [e, List.append_assoc st, List.append_assoc st, List.set_append_right _ _ (Nat.le_refl _), Nat.sub_self, List.append_assoc st]
    rfl
  · rw [List.map_append, List.map_cons]
    have nd := g.nd
    rw [List.map_append] at nd
    refine (List.perm_middle (a := S.length) (l₁ := A.map (·.2)) (l₂ := B.map (·.2))).nodup_iff.mpr (List.nodup_cons.mpr ⟨fun hm => ?_, nd⟩)
    rw [← List.map_append] at hm
    obtain ⟨p, hp, e⟩ := List.mem_map.mp hm
    have := small p hp
    omega
  · have cases : p = (v, S.length) ∨ p ∈ A ++ B := by
      rcases List.mem_append.mp hp with q | q
      · exact .inr (List.mem_append_left _ q)
      · rcases List.mem_cons.mp q with q | q
        · exact .inl q
        · exact .inr (List.mem_append_right _ q)
    rcases cases with rfl | q
    · refine ⟨stl, ?_⟩
      show ((S ++ [SO.lst [.int (i : Int)]]).set st.length _)[S.length]? = _
      rw [List.getElem?_set_ne (by omega), get_new, nums_next h, if_pos rfl, nums_none vt]
      rfl
    · obtain ⟨lt, hr⟩ := g.row p q
      have ne : p.1 ≠ v := fun e => nin (List.mem_map.mpr ⟨p, q, e⟩)
      refine ⟨lt, ?_⟩
      rw [List.getElem?_set_ne (by omega), List.getElem?_append_left (small p q), hr, nums_next h, if_neg ne]
theorem mapO_map {α β : Type} {f : α → Option β} {g : α → β} : ∀ xs : List α, (∀ x ∈ xs, f x = some (g x)) → mapO f xs = some (xs.map g)
  | [], _ => rfl
  | x :: xs, h => by
    have ih := mapO_map xs fun y hy => h y (by simp [hy])
    unfold mapO
    simp only [h x (by simp), ih]
    try rfl
theorem frz_map {st : List SO} {n k d : Nat} {xs : List PV} (g : PV → PV) (hn : n ≤ k) (h : st[k]? = some (.lst xs)) (hf : ∀ x ∈ xs, frzV st n d x = some (g x)) : frzV st n (d + 1) (.ref k) = some (.lst (xs.map g)) := by
  have e : frzV st n (d + 1) (.ref k) = (if k < n then some (.ref k) else (match st[k]? with
    | some (.lst xs) => (mapO (frzV st n d) xs).map .lst
    | some (.dK kvs) => (mapO (fun p : Key × PV => (frzV st n d p.2).map fun v => (p.1, v)) kvs).map .dct
    | none => none)) := rfl
  rw [e, if_neg (by omega), h]
  show (mapO (frzV st n d) xs).map PV.lst = _
  rw [mapO_map xs hf]
  rfl
theorem frz_same {st : List SO} {n k d : Nat} {xs : List PV} (hn : n ≤ k) (h : st[k]? = some (.lst xs)) (hf : ∀ x ∈ xs, FZ d x) : frzV st n (d + 1) (.ref k) = some (.lst xs) := by
  have := frz_map (fun x => x) hn h fun x hx => by
    have := hf x hx 0 st n
    rwa [Nat.zero_add] at this
  rwa [List.map_id'] at this
/-! ### beside one another -/
theorem sto_lat : StO "later" := by unfold StO; decide +kernel
theorem sto_kw (a g : Rat) : StO (kw a g) := by
  have : kw a g = "same" ∨ kw a g = "later" ∨ kw a g = "earlier" ∨ kw a g = "beside" := by
    unfold kw kwB
    split
    · exact .inl rfl
    · split
      · exact .inr (.inl rfl)
      · split
        · exact .inr (.inr (.inl rfl))
        · exact .inr (.inr (.inr rfl))
  rcases this with e | e | e | e <;> rw [e] <;> (unfold StO; decide +kernel)

theorem sto_bes : StO "beside" := by unfold StO; decide +kernel
def bes (h k : Rat × Rat) : Bool := decide (k.1 - h.1 < ab (k.2 - h.2)) && decide (-(k.1 - h.1) < ab (k.2 - h.2))
theorem kw_bes (h k : Rat × Rat) : (kw (k.1 - h.1) (k.2 - h.2) == "beside") = bes h k := by
  unfold kw bes
  have z : decide (k.1 - h.1 = 0) = true → decide (k.2 - h.2 = 0) = true → decide (k.1 - h.1 < ab (k.2 - h.2)) = false := fun e1 e2 => by
    have e1 := of_decide_eq_true e1
    have e2 := of_decide_eq_true e2
    rw [e1, e2]
    refine decide_eq_false ?_
    unfold ab
    rw [if_pos (by grind)]
    grind
  generalize decide (k.1 - h.1 = 0) = b1 at *
  generalize decide (k.2 - h.2 = 0) = b2 at *
  generalize decide (k.1 - h.1 < ab (k.2 - h.2)) = b3 at *
  generalize decide (-(k.1 - h.1) < ab (k.2 - h.2)) = b4 at *
  unfold kwB
  cases b1 <;> cases b2 <;> cases b3 <;> cases b4 <;> first | decide +kernel | (exact absurd (z rfl rfl) (by decide))
theorem ab_lt {a g : Rat} (h1 : a < ab g) (h2 : -a < ab g) : g ≠ 0 ∧ -1 < a / g ∧ a / g < 1 := by
  have hg : g ≠ 0 := fun e => by
    rw [e] at h1 h2
    unfold ab at h1 h2
    rw [if_pos (by grind)] at h1 h2
    grind
  have m := Rat.div_mul_cancel (a := a) hg
  refine ⟨hg, ?_⟩
  generalize a / g = q at *
  unfold ab at h1 h2
  by_cases c : 0 ≤ g
  · rw [if_pos c] at h1 h2
    have g0 : 0 < g := by grind
    constructor
    · refine Classical.byContradiction fun n => ?_
      have : q * g ≤ -1 * g := Rat.mul_le_mul_of_nonneg_right (by grind) c
      grind
    · refine Classical.byContradiction fun n => ?_
      have : 1 * g ≤ q * g := Rat.mul_le_mul_of_nonneg_right (by grind) c
      grind
  · rw [if_neg c] at h1 h2
    have g0 : 0 ≤ -g := by grind
    constructor
    · refine Classical.byContradiction fun n => ?_
      have : q * (-g) ≤ -1 * (-g) := Rat.mul_le_mul_of_nonneg_right (by grind) g0
      grind
    · refine Classical.byContradiction fun n => ?_
      have : 1 * (-g) ≤ q * (-g) := Rat.mul_le_mul_of_nonneg_right (by grind) g0
      grind
theorem bes_q {h k : Rat × Rat} (b : bes h k = true) : k.2 - h.2 ≠ 0 ∧ -1 < (k.1 - h.1) / (k.2 - h.2) ∧ (k.1 - h.1) / (k.2 - h.2) < 1 := by
  unfold bes at b
  obtain ⟨b1, b2⟩ := He.ba b
  exact ab_lt (of_decide_eq_true b1) (of_decide_eq_true b2)
/-- the speed from which both are at one time -/
def evo (k h : Rat × Rat) : Option Rat := if bes h k = true then some ((k.1 - h.1) / (k.2 - h.2)) else none
/-- those of the first i, with those ahead of each -/
def evs (hs : List (Rat × Rat)) : Nat → List Rat
  | 0 => []
  | i + 1 => evs hs i ++ (match hs[i]? with
    | some k => (hs.take i).filterMap (evo k)
    | none => [])
theorem evo_some {k h : Rat × Rat} {v : Rat} (e : evo k h = some v) : -1 < v ∧ v < 1 := by
  unfold evo at e
  by_cases c : bes h k = true
  · rw [if_pos c] at e
    cases e
    exact (bes_q c).2
  · rw [if_neg c] at e; cases e
theorem evs_mem {hs : List (Rat × Rat)} : ∀ {i : Nat} {v : Rat}, v ∈ evs hs i → ∃ k h, k ∈ hs ∧ h ∈ hs ∧ evo k h = some v
  | 0, v, h => nomatch h
  | i + 1, v, h => by
    rcases List.mem_append.mp h with q | q
    · exact evs_mem q
    · cases e : hs[i]? with
      | none => rw [e] at q; cases q
      | some k =>
        rw [e] at q
        obtain ⟨a, ha, ea⟩ := List.mem_filterMap.mp q
        exact ⟨k, a, List.mem_of_getElem? e, List.mem_of_mem_take ha, ea⟩
/-- put in behind those below -/
theorem ins_count {v : Rat} : ∀ {l : List Rat}, Up l → v ∉ l → insR v l = l.take (l.filter fun a => decide (a < v)).length ++ [v] ++ l.drop (l.filter fun a => decide (a < v)).length
  | [], _, _ => rfl
  | a :: l, up, h => by
    obtain ⟨h1, h2⟩ := List.pairwise_cons.mp up
    have ne : a ≠ v := fun e => h (by rw [e]; exact List.mem_cons_self)
    unfold insR
    by_cases c : a < v
    · rw [if_pos c, ins_count h2 fun m => h (List.mem_cons_of_mem _ m), List.filter_cons_of_pos (p := fun a => decide (a < v)) (decide_eq_true c), List.length_cons]
      rfl
    · rw [if_neg c, if_neg ne, List.filter_cons_of_neg (p := fun a => decide (a < v)) (by rw [decide_eq_false c]; exact Bool.false_ne_true)]
      have : l.filter (fun a => decide (a < v)) = [] := List.filter_eq_nil_iff.mpr fun b hb e => by
        have := h1 b hb
        have := of_decide_eq_true e
        grind
      rw [this]
      rfl
theorem cut_take {xs : List PV} {n : Nat} : cutP xs none (some (n : Int)) = xs.take n := by
  unfold cutP
  rw [HT.sIx_none, HT.sIx_nat]
  simp only [List.drop_zero, Nat.sub_zero]
  by_cases h : n ≤ xs.length
  · rw [Nat.min_eq_left h]
  · rw [Nat.min_eq_right (by omega), List.take_length, List.take_of_length_le (by omega)]
/-! ### xs[::-1] of a list that stands -/
def revLK (st : List SO) : PV → Res PV
  | .lst xs => .ok (.lst xs.reverse) st
  | _ => .bad
def gRevL (g : G) : G := fun ρ st => bnd (g ρ st) fun v st => revLK st v
theorem gRevL_eq {g : G} {ρ : REnv} {st : List SO} : gRevL g ρ st = bnd (g ρ st) fun v st => revLK st v := rfl
theorem revLK_l {st : List SO} {xs : List PV} : revLK st (.lst xs) = .ok (.lst xs.reverse) st := rfl
theorem se_revL {X : Cx} {W : WX} {e : Expr} {g : G} {k : Nat} {p1 p2 p3 pos : Pos} (he : PE X e (tG X.K W g)) : PE X (.Subscript e (.Slice none none (some (.UnaryOp .USub (.Constant (.int 1) k p1) p2)) p3) pos) (tG X.K W (gRevL g)) := by
  refine pe_imp (pe_revL he) fun σ H Q ⟨w, ρ, st, ok, sl, po⟩ => ⟨w, ρ, st, ok, sl, post_bind (rel2 := Rep X.K) po fun v st1 w1 H1 vx l1 ok1 rx po1 => ?_⟩
  cases v with
  | lst xs =>
    obtain ⟨a, vs, ev, sq, rs⟩ := rx
    have fin : ∀ p, H1 p = none → Q (.ref p) (upd H1 p (.lst vs.reverse)) := fun p hp => po1 (w1.frz p (.lst vs.reverse)) _ _ (le_frz ok1 hp _) (ok1.frz hp _) ⟨p, _, rfl, .inl (.inl upd_same), (repL_rev rs).mono (le_frz ok1 hp _)⟩
    exact ⟨a, vs, ev, sql_mono ok1.fz sq, fin⟩
  | _ => exact po1.elim
/-! ### the speeds between, and the orders -/
def q1_2 : Rat := ⟨1, 2, by decide, by decide⟩
def someL (T : List Rat) : List Rat := -1 :: T ++ [1]
def mid (T : List Rat) (i : Nat) : Rat := ((someL T).getD i 0 + (someL T).getD (i + 1) 0) * q1_2
theorem someL_len (T : List Rat) : (someL T).length = T.length + 2 := by unfold someL; simp
theorem someL_map (T : List Rat) : [PV.tup [.int (-1), .int 1]] ++ T.map fr ++ [PV.tup [.int 1, .int 1]] = (someL T).map fr := by
  unfold someL
  rw [List.map_append]
  rfl
theorem rs_half : RS 2 q1_2 := ⟨by unfold Sz; decide, by decide⟩
theorem someL_rs {T : List Rat} {m : Nat} (h : ∀ v ∈ T, RS m v) (hm : 2 ≤ m) : ∀ v ∈ someL T, RS m v := fun v hv => by
  have one : RS m 1 := RS.mono (n := 2) ⟨by unfold Sz; decide, by decide⟩ hm
  have mone : RS m (-1) := RS.mono (n := 2) ⟨by unfold Sz; decide, by decide⟩ hm
  unfold someL at hv
  rcases List.mem_append.mp hv with q | q
  · rcases List.mem_cons.mp q with q | q
    · rw [q]; exact mone
    · exact h v q
  · rw [List.mem_singleton.mp q]; exact one
theorem someL_in {T : List Rat} (h : ∀ v ∈ T, -1 < v ∧ v < 1) (up : Up T) : Up (someL T) := by
  unfold someL
  rw [List.cons_append]
  refine List.pairwise_cons.mpr ⟨fun v hv => ?_, List.pairwise_append.mpr ⟨up, List.pairwise_singleton _ _, fun a ha b hb => ?_⟩⟩
  · rcases List.mem_append.mp hv with q | q
    · exact (h v q).1
    · rw [List.mem_singleton.mp q]; decide +kernel
  · rw [List.mem_singleton.mp hb]; exact (h a ha).2
theorem getD_mem {l : List Rat} {i : Nat} (h : i < l.length) : l.getD i 0 ∈ l := by
  rw [List.getD_eq_getElem?_getD, List.getElem?_eq_getElem h]
  exact List.getElem_mem h
theorem getD_at {l : List Rat} {i : Nat} (h : i < l.length) : l[i]? = some (l.getD i 0) := by
  rw [List.getD_eq_getElem?_getD, List.getElem?_eq_getElem h]
  rfl
theorem mid_rs {T : List Rat} {m i : Nat} (h : ∀ v ∈ T, RS m v) (hm : 2 ≤ m) (hi : i < T.length + 1) : RS (2 * m + 3) (mid T i) := by
  have a := someL_rs h hm _ (getD_mem (l := someL T) (i := i) (by rw [someL_len]; omega))
  have b := someL_rs h hm _ (getD_mem (l := someL T) (i := i + 1) (by rw [someL_len]; omega))
  exact ((a.add b).mul rs_half).mono (by omega)
theorem mid_in {T : List Rat} {i : Nat} (h : ∀ v ∈ T, -1 < v ∧ v < 1) (up : Up T) (hi : i < T.length + 1) : (someL T).getD i 0 < mid T i ∧ mid T i < (someL T).getD (i + 1) 0 ∧ -1 < mid T i ∧ mid T i < 1 := by
  have s := someL_in h up
  have lt : (someL T).getD i 0 < (someL T).getD (i + 1) 0 := by
    have := List.pairwise_iff_getElem.mp s i (i + 1) (by rw [someL_len]; omega) (by rw [someL_len]; omega) (by omega)
    rw [List.getD_eq_getElem?_getD, List.getD_eq_getElem?_getD, List.getElem?_eq_getElem, List.getElem?_eq_getElem]
    exact this
  have bd : ∀ v ∈ someL T, -1 ≤ v ∧ v ≤ 1 := fun v hv => by
    unfold someL at hv
    rcases List.mem_append.mp hv with q | q
    · rcases List.mem_cons.mp q with q | q
      · rw [q]; exact ⟨by decide +kernel, by decide +kernel⟩
      · have := h v q; grind
    · rw [List.mem_singleton.mp q]; exact ⟨by decide +kernel, by decide +kernel⟩
  have a := bd _ (getD_mem (l := someL T) (i := i) (by rw [someL_len]; omega))
  have b := bd _ (getD_mem (l := someL T) (i := i + 1) (by rw [someL_len]; omega))
  unfold mid
  have e : q1_2 + q1_2 = 1 := by decide +kernel
  have e2 : ∀ x y : Rat, (x + y) * q1_2 + (x + y) * q1_2 = x + y := fun x y => by rw [← Rat.mul_add, e, Rat.mul_one]
  have := e2 ((someL T).getD i 0) ((someL T).getD (i + 1) 0)
  grind
/-- the order that a seat of the speed q tells -/
def ordT (hs : List (Rat × Rat)) (q : Rat) : List Nat := (srt (hs.map (ownT q))).map fun v => (nums (hs.map (ownT q)) (hs.map (ownT q)).length v).headD 0
theorem nums_ne {vs : List Rat} {v : Rat} (h : v ∈ vs) : ∃ l, nums vs vs.length v = (nums vs vs.length v).headD 0 :: l := by
  obtain ⟨k, hk, e⟩ := List.getElem_of_mem h
  have m : k ∈ nums vs vs.length v := List.mem_filter.mpr ⟨List.mem_range.mpr hk, decide_eq_true (by rw [List.getElem?_eq_getElem hk, e])⟩
  cases c : nums vs vs.length v with
  | nil => rw [c] at m; cases m
  | cons a l => exact ⟨l, rfl⟩
theorem nums_at {vs : List Rat} {v : Rat} (h : v ∈ vs) : atI (pvN (nums vs vs.length v)) 0 = some (.int (((nums vs vs.length v).headD 0 : Nat) : Int)) := by
  obtain ⟨l, e⟩ := nums_ne h
  generalize (nums vs vs.length v).headD 0 = a at *
  rw [e]
  exact at0
/-! ### what can reach what -/
noncomputable def rch (h k : Rat × Rat) : Bool := kw (k.1 - h.1) (k.2 - h.2) == "later"
theorem rch_eq (h k : Rat × Rat) : rch h k = (!decide (h.1 = k.1 ∧ h.2 = k.2) && !decide (k.1 - h.1 < ab (k.2 - h.2))) := by
  unfold rch kw
  have e1 : decide (h.1 = k.1 ∧ h.2 = k.2) = (decide (k.1 - h.1 = 0) && decide (k.2 - h.2 = 0)) := by
    rw [← Bool.decide_and]
    exact decide_eq_decide.mpr ⟨fun ⟨a, b⟩ => ⟨by grind, by grind⟩, fun ⟨a, b⟩ => ⟨by grind, by grind⟩⟩
  rw [e1]
  generalize decide (k.1 - h.1 = 0) = b1
  generalize decide (k.2 - h.2 = 0) = b2
  generalize decide (k.1 - h.1 < ab (k.2 - h.2)) = b3
  generalize decide (-(k.1 - h.1) < ab (k.2 - h.2)) = b4
  unfold kwB
  cases b1 <;> cases b2 <;> cases b3 <;> cases b4 <;> decide +kernel
/-- the i-th hap -/
def hat (hs : List (Rat × Rat)) (i : Nat) : Rat × Rat := hs.getD i (0, 0)
theorem hat_at {hs : List (Rat × Rat)} {i : Nat} (h : i < hs.length) : hs[i]? = some (hat hs i) := by
  unfold hat
  rw [List.getD_eq_getElem?_getD, List.getElem?_eq_getElem h]
  rfl
theorem hat_mem {hs : List (Rat × Rat)} {i : Nat} (h : i < hs.length) : hat hs i ∈ hs := List.mem_of_getElem? (hat_at h)
theorem at_hat {hs : List (Rat × Rat)} {i : Nat} (h : i < hs.length) : atI (hs.map hq) (i : Int) = some (hq (hat hs i)) := atN (by rw [List.getElem?_map, hat_at h]; rfl)
/-- the numbers of those that it can reach -/
noncomputable def rowN (hs : List (Rat × Rat)) (i : Nat) : List Nat := (List.range hs.length).filter fun j => rch (hat hs i) (hat hs j)
noncomputable def btwN (hs : List (Rat × Rat)) (i j : Nat) : List Nat := (List.range hs.length).filter fun k => rch (hat hs i) (hat hs k) && rch (hat hs k) (hat hs j)
theorem filter_pvN' (p : PV → Bool) (L : List Nat) : (pvN L).filter p = pvN (L.filter fun k => p (.int (k : Int))) := by
  unfold pvN
  rw [List.filter_map]
  rfl
theorem rng_pvN' (n : Nat) : rng 0 n = pvN (List.range n) := by
  unfold rng pvN
  exact List.map_congr_left fun i _ => by rw [Int.zero_add]
/-- a comprehension over the numbers below n -/
theorem comp_rng {it : GL} {t : PV → REnv → Option REnv} {c : GT} {e : G} {vs : List Nat} {ρ : REnv} {st : List SO} {n : Nat} (p : Nat → Bool) (h1 : it ρ st = .ok (rng 0 n) st) (hn : n ≤ 900) (h : ∀ j, j < n → ∃ ρ1, t (.int (j : Int)) (wipeR ρ vs) = some ρ1 ∧ c ρ1 st = .ok (p j) st ∧ (p j = true → e ρ1 st = .ok (.int (j : Int)) st)) :
    gComp it t c e vs ρ st = .ok (.lst (pvN ((List.range n).filter p))) st := by
  have := gComp_ok (it := it) (t := t) (c := c) (e := e) (vs := vs) (ρ := ρ) (st := st) (st1 := st) h1 (comp_flt (fun z => z) (fun z => match z with | .int i => p i.toNat | _ => false) _ fun z hz => by
    obtain ⟨j, rfl, hj⟩ := mem_rng hz
    obtain ⟨ρ1, a, b, d⟩ := h j hj
    refine ⟨ρ1, a, ?_, fun hp => ?_⟩
    · show c ρ1 st = .ok (p ((j : Nat) : Int).toNat) st
      rw [Int.toNat_natCast]; exact b
    · have hp : p ((j : Nat) : Int).toNat = true := hp
      rw [Int.toNat_natCast] at hp
      exact d hp) (lenOk_small (by
        rw [List.map_id']
        have := List.length_filter_le (fun z : PV => match z with | .int i => p i.toNat | _ => false) (rng 0 n)
        rw [rng_len] at this
        omega))
  rw [this, List.map_id', rng_pvN', filter_pvN']
  rfl
theorem pvN_len (L : List Nat) : (pvN L).length = L.length := List.length_map ..
theorem range_fl {n : Nat} {p : Nat → Bool} : ((List.range n).filter p).length ≤ n := by
  have := List.length_filter_le p (List.range n)
  rwa [List.length_range] at this
end Z
/-! any(), list(range()) that may be changed, remove of a number. -/
namespace Z
open PySem PySem.Spec PyProof.Rows L2
section
variable {K : PySem.W.Frag} {X : Cx} {W : WX} {pos : Pos} {a e : Expr} {g : G}
def anyV : FL := fun _ xs => match xs with
  | [.lst ys] => (blsOf ys).map fun bs => .bl (bs.any id)
  | _ => none
theorem anyV_l {st : List SO} {xs : List PV} : anyV st [.lst xs] = (blsOf xs).map fun bs => .bl (bs.any id) := rfl
theorem s_any : SndL K anyV (rAny K) := by
  intro w H st xs z vs Q ok rs e q
  rcases xs with _ | ⟨x, _ | ⟨y, ys⟩⟩
  · cases e
  · obtain ⟨v, ev, rx⟩ := repl1 rs
    cases x with
    | lst ys =>
      have e : (blsOf ys).map (fun bs => PV.bl (bs.any id)) = some z := e
      cases h : blsOf ys with
      | none => rw [h] at e; cases e
      | some bs =>
        rw [h] at e; cases e
        obtain ⟨p, us, e2, sq, rr⟩ := rx
        rw [blsOf_rep ys bs us h rr] at sq
        exact ⟨p, bs, by rw [ev, e2], sql_mono ok.fz sq, q w H _ (Le.refl _) ok rfl⟩
    | _ => cases e
  · cases x <;> cases e
def lrNK (st : List SO) : PV → Res PV
  | .int n => if 0 ≤ n ∧ n ≤ 1000 then .ok (.ref st.length) (st ++ [.lst (rng 0 n.toNat)]) else .bad
  | _ => .bad
def gListRgN (g : G) : G := fun ρ st => bnd (g ρ st) fun v st => lrNK st v
theorem gListRgN_eq {ρ : REnv} {st : List SO} : gListRgN g ρ st = bnd (g ρ st) fun v st => lrNK st v := rfl
theorem lrNK_i {st : List SO} {n : Int} (h : 0 ≤ n ∧ n ≤ 1000) : lrNK st (.int n) = .ok (.ref st.length) (st ++ [.lst (rng 0 n.toNat)]) := if_pos h
theorem se_listRgN {p p2 q2 : Pos} (hc : X.calm = true) (ha : PE X a (tG X.K W g)) (hg : Gl X "list" := by rfl) (hm : X.mg "list" = none := by rfl) (hg2 : Gl X "range" := by rfl) (hm2 : X.mg "range" = none := by rfl)
    (na : starEach [a] X.env = (false, eval a X.env) :: starEach [] X.env := by rfl) (nb : starEach [Expr.Call (.Name "range" p2) [a] [] q2] X.env = (false, eval (Expr.Call (.Name "range" p2) [a] [] q2) X.env) :: starEach [] X.env := by rfl) :
    PE X (.Call (.Name "list" p) [.Call (.Name "range" p2) [a] [] q2] [] pos) (tG X.K W (gListRgN g)) := by
  refine pe_imp (pe_listRg hc hg hm (prg_1 hg2 hm2 ha na) nb) fun σ H Q ⟨w, ρ, st, ok, sl, po⟩ => ?_
  refine ⟨w, ρ, st, ok, sl, post_bind (rel2 := Rep X.K) po fun v st1 w1 H1 vx l1 ok1 rx po1 => ?_⟩
  cases v with
  | int n =>
    have rx : vx = .int n := rx
    subst rx
    have po1 : Post X.K W (Rep X.K) w1 σ (if 0 ≤ n ∧ n ≤ 1000 then .ok (.ref st1.length) (st1 ++ [.lst (rng 0 n.toNat)]) else .bad) Q := po1
    by_cases hn : 0 ≤ n ∧ n ≤ 1000
    · rw [if_pos hn] at po1
      refine ⟨n, rfl, RgOk.of_le (by omega) (by omega) (by omega) (by omega), fun q hq => ?_⟩
      refine po1 (w1.new q) _ _ (le_new w1 q) (ok1.new hq (c := .lst (rng 0 n.toNat)) ⟨_, rfl, ?_⟩) ⟨q, rfl, at_end ok1.len⟩
      unfold rng rgV
      rw [Int.sub_zero]
      exact repL_rg (fun i => 0 + (i : Int)) _
    · rw [if_neg hn] at po1; exact po1.elim
  | _ => exact po1.elim
def intsP : List PV → Option (List Int)
  | [] => some []
  | .int i :: xs => (intsP xs).map fun is => i :: is
  | _ :: _ => none
theorem intsP_map : ∀ is : List Int, intsP (is.map PV.int) = some is
  | [] => rfl
  | i :: is => by
    show (intsP (is.map PV.int)).map _ = _
    rw [intsP_map is]
    rfl
theorem intsP_rep {w : Wd} : ∀ {xs : List PV} {vs : List V} {is : List Int}, RepL K w xs vs → intsP xs = some is → vs = is.map V.int ∧ xs = is.map PV.int
  | [], vs, is, r, e => by cases e; exact ⟨r, rfl⟩
  | x :: xs, vs, is, ⟨v, r, e1, h1, h2⟩, e => by
    cases x with
    | int i =>
      obtain ⟨js, ej, rfl⟩ := Option.map_eq_some_iff.mp (show (intsP xs).map (fun is => i :: is) = some is from e)
      obtain ⟨a, b⟩ := intsP_rep h2 ej
      have h1 : v = .int i := h1
      subst h1
      exact ⟨by rw [e1, a]; rfl, by rw [b]; rfl⟩
    | _ => cases e
def remK (st : List SO) (k : Nat) (i : Int) : Option SO → Res PV
  | some (.lst xs) => (match intsP xs with
    | some is => if i ∈ is then .ok .non (st.set k (.lst ((is.eraseIdx (is.idxOf i)).map .int))) else .bad
    | none => .bad)
  | _ => .bad
def removeM : FM := fun st x xs => match x, xs with
  | .ref k, [.int i] => remK st k i st[k]?
  | _, _ => .bad
theorem removeM_r {st : List SO} {k : Nat} {i : Int} : removeM st (.ref k) [.int i] = remK st k i st[k]? := rfl
theorem remK_s {st : List SO} {k : Nat} {i : Int} {is : List Int} (h : i ∈ is) : remK st k i (some (.lst (is.map .int))) = .ok .non (st.set k (.lst ((is.eraseIdx (is.idxOf i)).map .int))) := by
  show (match intsP (is.map PV.int) with
    | some is => if i ∈ is then Res.ok PV.non (st.set k (.lst ((is.eraseIdx (is.idxOf i)).map .int))) else .bad
    | none => .bad) = _
  rw [intsP_map]
  exact if_pos h
theorem n_remove : NoExc removeM := by
  intro st x xs c st' h
  unfold removeM at h
  split at h
  · unfold remK at h
    split at h
    · split at h
      · split at h <;> cases h
      · cases h
    · cases h
  · cases h
theorem s_remove : SndM K removeM rRemI := by
  intro w H st st' x z xs vx vs Q ok rx rs e q
  unfold removeM at e
  split at e
  · rename_i k i
    obtain ⟨u1, r1, e1, q1, q3⟩ := rs
    have q1 : u1 = .int i := q1
    have q3 : r1 = [] := q3
    subst q1 q3
    obtain ⟨a, ea, qa⟩ := rx
    obtain ⟨c, o, h1, h2, h3⟩ := ok.obj qa
    rw [h1] at e
    cases c with
    | dK _ => cases e
    | lst ys =>
      obtain ⟨us, f1, s1⟩ := h3
      subst f1
      have e : (match intsP ys with
        | some is => if i ∈ is then Res.ok PV.non (st.set k (.lst ((is.eraseIdx (is.idxOf i)).map .int))) else .bad
        | none => .bad) = .ok z st' := e
      cases ei : intsP ys with
      | none => rw [ei] at e; cases e
      | some is =>
        rw [ei] at e
        have e : (if i ∈ is then Res.ok PV.non (st.set k (.lst ((is.eraseIdx (is.idxOf i)).map .int))) else .bad) = .ok z st' := e
        by_cases hm : i ∈ is
        · rw [if_pos hm] at e
          cases e
          obtain ⟨b1, b2⟩ := intsP_rep s1 ei
          have lt := List.idxOf_lt_length_iff.mpr hm
          refine ⟨a, is, i, is.idxOf i, ea, e1, by rw [← b1]; exact h2, ?_, fun m hlt hm2 => ?_, q w _ .non (Le.refl _) (ok.write qa ⟨_, rfl, ?_⟩) rfl⟩
          · rw [List.getElem?_eq_getElem lt]
            exact congrArg some (List.getElem_idxOf lt)
          · have : is.idxOf i ≤ m := by
              obtain ⟨hl, he⟩ := List.getElem?_eq_some_iff.mp hm2
              refine Classical.byContradiction fun hn => ?_
              have h := List.not_of_lt_findIdx (p := fun x => x == i) (xs := is) (i := m) (by show m < is.idxOf i; omega)
              rw [he] at h
              simp at h
            omega
          · have : ∀ l : List Int, RepL K w (l.map PV.int) (l.map V.int) := fun l => by
              induction l with
              | nil => exact (rfl : _ = _)
              | cons i l ih => exact ⟨_, _, rfl, rfl, ih⟩
            exact this _
        · rw [if_neg hm] at e; cases e
  · cases e
end
theorem relabel_at {env : PySem.Env} : ∀ {names : List (Str × NameKind)} {x : Str}, names.lookup x = some .cell ∨ names.lookup x = some .free →
    (names.map fun (n, k) => if (k == NameKind.free && env.scope.kind == .function && env.kindOf n == some .cell) then (n, NameKind.cell) else (n, k)).lookup x = some .cell ∨
    (names.map fun (n, k) => if (k == NameKind.free && env.scope.kind == .function && env.kindOf n == some .cell) then (n, NameKind.cell) else (n, k)).lookup x = some .free
  | [], _, h => by simp at h
  | (n, k) :: r, x, h => by
    have ih := @relabel_at env r x
    show List.lookup x ((if (k == NameKind.free && env.scope.kind == .function && env.kindOf n == some .cell) = true then (n, NameKind.cell) else (n, k)) :: _) = _ ∨ List.lookup x ((if (k == NameKind.free && env.scope.kind == .function && env.kindOf n == some .cell) = true then (n, NameKind.cell) else (n, k)) :: _) = _
    cases hx : x == n with
    | true =>
      simp only [List.lookup_cons, hx] at h
      by_cases hc : (k == NameKind.free && env.scope.kind == .function && env.kindOf n == some .cell) = true
      · rw [if_pos hc]
        exact .inl (by simp only [List.lookup_cons, hx])
      · rw [if_neg hc]
        simp only [List.lookup_cons, hx]
        exact h
    | false =>
      simp only [List.lookup_cons, hx] at h
      by_cases hc : (k == NameKind.free && env.scope.kind == .function && env.kindOf n == some .cell) = true
      · rw [if_pos hc]; simp only [List.lookup_cons, hx]; exact ih h
      · rw [if_neg hc]; simp only [List.lookup_cons, hx]; exact ih h
/-- a comprehension within one -/
theorem blkOk_nest {X : Cx} {s : Shared} {H : Hp} {sc scope2 : Scope} {cl : List (Str × Addr)} {C : Addr} {env : PySem.Env} {fp : List Addr} {own : List (Str × Nat)} (Ns : List Str) (hN : X.N = Ns) (h : blkC Ns sc scope2 own = true) : BlkOk (X.blk s H sc (compEnvC sc cl C env) fp).N (X.blk s H sc (compEnvC sc cl C env) fp).env.scope scope2 own := by
  subst hN
  have b := blkOk_by h
  exact ⟨b.kind, b.uniq, b.ix, fun y hy e => relabel_at (env := env) (names := sc.names) (b.free y hy e), b.own⟩
end Z
/-! A tuple turned about: t[::-1]. -/
namespace HT
open PySem PyProof.Rows
section
variable {prog : Program} {w : World} {A : Around} {E : Value → Shared → Prop} {s : Shared}
theorem zAdjust (n : Nat) : Builtin.Slice.sliceAdjust none none (-1) (n : Int) = ((n : Int) - 1, -1) := by
  unfold Builtin.Slice.sliceAdjust
  simp
theorem zPlaces (n : Nat) : Builtin.Slice.slicePlaces ((n : Int) - 1) (-1) (-1) = n := by
  unfold Builtin.Slice.slicePlaces
  simp only [show ¬ ((-1 : Int) > 0) by decide, if_false, Int.neg_neg, Int.ediv_one]
  split <;> omega
theorem zPick (xs : Array Value) : ((List.range xs.size).filterMap fun (k : Nat) => xs[((xs.size : Int) - 1 + (k : Int) * -1).toNat]?).toArray = xs.toList.reverse.toArray := by
  have e : ((List.range xs.size).filterMap fun (k : Nat) => xs[((xs.size : Int) - 1 + (k : Int) * -1).toNat]?) = xs.toList.reverse := by
    have h : ∀ l : List Nat, (∀ k ∈ l, k < xs.size) → (l.filterMap fun (k : Nat) => xs[((xs.size : Int) - 1 + (k : Int) * -1).toNat]?) = l.filterMap fun k => xs.toList.reverse[k]? := fun l hl => by
      induction l with
      | nil => rfl
      | cons a l ih =>
        have ha := hl a (by simp)
        have e1 : ((xs.size : Int) - 1 + (a : Int) * -1).toNat = xs.size - 1 - a := by omega
        have e2 : xs[((xs.size : Int) - 1 + (a : Int) * -1).toNat]? = xs.toList.reverse[a]? := by
          rw [e1, List.getElem?_reverse (by simpa using ha)]
          simp
        rw [List.filterMap_cons, List.filterMap_cons, e2, ih fun k hk => hl k (by simp [hk])]
    rw [h _ fun k hk => List.mem_range.mp hk]
    have all : ∀ ys : List Value, ((List.range ys.length).filterMap fun (k : Nat) => ys[k]?) = ys := fun ys => by
      induction ys with
      | nil => rfl
      | cons y ys ih =>
        rw [List.length_cons, List.range_succ_eq_map, List.filterMap_cons]
        show y :: ((List.range ys.length).map Nat.succ).filterMap (fun (k : Nat) => (y :: ys)[k]?) = y :: ys
        rw [List.filterMap_map]
        have c : ((fun (k : Nat) => (y :: ys)[k]?) ∘ Nat.succ) = fun (k : Nat) => ys[k]? := by funext k; simp
        rw [c, ih]
    have q := all xs.toList.reverse
    rw [List.length_reverse, Array.length_toList] at q
    exact q
  rw [e]
theorem zRev {t sl : Addr} {items : Array Value} {vl vu vs : Value} {Q : Value → Shared → Prop} (ht : IsTup s.heap t items) (hs : s.heap.IsSliceOf sl vl vu vs) (pl : IsPart vl none) (pu : IsPart vu none) (ps : IsPart vs (some (-1)))
    (h : Q (.ref s.heap.objs.size) { s with heap := s.heap.push { cls := .type "tuple", data := .seq items.toList.reverse.toArray } }) (room : items.size ≤ sizeLine) : wpAny (model prog w) A (getItem (.ref t) (.ref sl)) Q E s := by
  have fits : sizeOk (.seq items.toList.reverse.toArray) := by
    show items.toList.reverse.toArray.size ≤ sizeLine
    simpa using room
  obtain ⟨o1, there, z1, z2⟩ := id hs
  have isSl : s.TypeIs (.ref sl) "slice" := ⟨o1, there, z1⟩
  unfold getItem
  try with_reducible refine wpAny_holding ?_
  first
    | refine wpAny_bind (wpAny_pure ?_)
    | skip
  refine wpAny_bind (wpAny_sequenceKey ht.typeIs (by decide) (wpAny_bind (wpAny_callSpecial?_slot (name := Str.ofString "__getitem__") ht.typeIs PyProof.Rows.slot_tuple_getitem (wpAny_call_entry PyProof.Rows.slot_tuple_getitem ht.typeIs entry_tuple_getitem ?_ (args_tuple_getitem _ _)))))
  show wpAny _ _ (Builtin.Tuple.tupleItemsOf (.ref t) >>= _) _ _ s
  refine wpAny_bind (tupleItemsOf_ ht (wpAny_bind (wpAny_typeOf isSl ?_)))
  rw [if_pos (by decide)]
  refine wpAny_bind (?_ : wpAny _ _ (Builtin.Slice.sliceApplied (.ref sl) (pure (items.size : Int))) _ _ s)
  unfold Builtin.Slice.sliceApplied Builtin.Slice.sliceFields
  refine wpAny_bind (wpAny_bind (wpAny_field there z2 (x := vl) rfl (wpAny_bind (wpAny_field there z2 (x := vu) rfl (wpAny_bind (wpAny_field there z2 (x := vs) rfl (wpAny_pure (wpAny_bind (slicePart_ ps ?_)))))))))
  show wpAny _ _ (if ((-1 : Int) == 0) = true then _ else _) _ _ s
  rw [if_neg (by decide)]
  refine wpAny_bind (slicePart_ pl (wpAny_bind (slicePart_ pu (wpAny_bind (wpAny_pure ?_)))))
  show wpAny _ _ (match Builtin.Slice.sliceAdjust none none (-1) (items.size : Int) with | (a, b) => pure (a, (-1 : Int), Builtin.Slice.slicePlaces a b (-1))) _ _ s
  rw [zAdjust]
  show wpAny _ _ (pure ((items.size : Int) - 1, (-1 : Int), Builtin.Slice.slicePlaces ((items.size : Int) - 1) (-1) (-1))) _ _ s
  rw [zPlaces]
  refine wpAny_pure ?_
  show wpAny _ _ (if (((items.size : Int) - 1 == 0) && ((-1 : Int) == 1) && (items.size == items.size)) = true then _ else _) _ _ s
  rw [if_neg (by simp), zPick]
  first
    | exact wpAny_bind (m := Builtin.Tuple.tupleExact _) (wpAny_newObj_type (wpAny_pure ⟨_, rfl, wpAny_pure h⟩) fits)
    | exact wpAny_bind (m := Builtin.Tuple.tupleExact _) (wpAny_newObj_type (wpAny_bind (wpAny_pure (wpAny_pure ⟨_, rfl, wpAny_pure h⟩))) fits)
    | exact wpAny_bind (wpAny_bind (m := Builtin.Tuple.tupleExact _) (wpAny_newObj_type (wpAny_pure (wpAny_pure ⟨_, rfl, wpAny_pure h⟩)) fits))
    | exact wpAny_bind (wpAny_bind (m := Builtin.Tuple.tupleExact _) (wpAny_newObj_type (wpAny_pure ⟨_, rfl, wpAny_pure h⟩) fits))
end
end HT
namespace Z
open PySem PySem.Spec PyProof.Rows L2
theorem RepL.rev {K : PySem.W.Frag} {w : Wd} : ∀ {xs : List PV} {vs : List V}, RepL K w xs vs → RepL K w xs.reverse vs.reverse
  | [], _, h => by rw [show _ = [] from h]; exact (rfl : _ = _)
  | x :: xs, _, ⟨v, r, e, h1, h2⟩ => by
    rw [e, List.reverse_cons, List.reverse_cons]
    exact (RepL.rev h2).append (RepL.one h1)
theorem se_revT {X : Cx} {W : WX} {e : Expr} {g : G} {k : Nat} {p1 p2 p3 pos : Pos} (he : PE X e (tG X.K W g)) : PE X (.Subscript e (.Slice none none (some (.UnaryOp .USub (.Constant (.int 1) k p1) p2)) p3) pos) (tG X.K W (gRevT g)) := by
  refine ⟨fun pins sh σ H Q I ⟨w, ρ, st, ok, sl, po⟩ => Subscript_ (thn (he.run pins sh σ H (fun x H1 => ∃ a vs, x = .ref a ∧ SqT X.K H1 a vs ∧ ∀ p, H1 p = none → Q (.ref p) (upd H1 p (.tup vs.reverse))) I ⟨w, ρ, st, ok, sl, post_bind (rel2 := Rep X.K) po fun v st1 w1 H1 vx l1 ok1 rx po1 => ?_⟩) ?_)⟩
  · cases v with
    | tup xs =>
      obtain ⟨a, vs, ev, sq, rs⟩ := rx
      exact ⟨a, vs, ev, sqt_mono ok1.fz sq, fun p hp => po1 (w1.frz p (.tup vs.reverse)) _ _ (le_frz ok1 hp _) (ok1.frz hp _) ⟨p, _, rfl, .inl (.inl upd_same), rs.rev.mono (le_frz ok1 hp _)⟩⟩
    | _ => exact po1.elim
  · rintro v s1 ⟨x, H1, I1, rx, a, vs, ex, sq, q⟩
    subst ex
    cases rx
    have minus : PO X (some (.UnaryOp .USub (.Constant (.int 1) k p1) p2)) (tPart (tUn (rU fun i => .int (-i)) (tC (.int 1)))) := po_some (pe_un un_neg pe_int)
    refine wpAny_Slice (thn (po_none.run pins s1 σ H1 (fun o H2 => o = none ∧ H2 = H1) I1 ⟨rfl, rfl⟩) ?_)
    rintro vl s2 ⟨o2, H2, I2, part2, rfl, rfl⟩
    refine thn (po_none.run pins s2 σ H2 (fun o H3 => o = none ∧ H3 = H2) I2 ⟨rfl, rfl⟩) ?_
    rintro vu s3 ⟨o3, H3, I3, part3, rfl, rfl⟩
    refine thn (minus.run pins s3 σ H3 (fun o H4 => o = some (-1) ∧ H4 = H3) I3 ⟨1, rfl, -1, rfl, rfl, rfl⟩) ?_
    rintro vst s4 ⟨o4, H4, I4, part4, rfl, rfl⟩
    have I5 : Inv X pins σ H4 { s4 with heap := s4.heap.push { cls := .type "slice", data := .fields #[vl, vu, vst] } } := I4.kept (t' := s4.toks) fun b ob z => Heap.get?_push_of_some _ z
    obtain ⟨its, rv, isT, room⟩ := I5.tuple sq
    show wpAny (model X.prog X.w) X.A (subscriptTail e (.Slice none none (some (.UnaryOp .USub (.Constant (.int 1) k p1) p2)) p3) (.ref a) (.ref s4.heap.objs.size)) _ _ _
    refine tail_any (ops := [.ref a, .ref s4.heap.objs.size]) isT.typeIs (PyProof.Rows.slot_tuple_getitem.lookup) (HT.zRev isT (Heap.IsSliceOf.new _ vl vu vst) part2 part3 part4 ?_ (by rw [List.size_toArray, ← rv.length]; exact room)) (by with_unfolding_all rfl)
    refine ⟨.ref _, _, I5.laid (t' := s4.toks) (o := .tup vs.reverse) (fun b ob z => Heap.get?_push_of_some _ z) (Nat.le_refl _) ⟨by rw [List.length_reverse]; exact room, _, rv.reverse, IsTup.new _ _⟩, rfl, q _ (I5.hok.fresh (Nat.le_refl _))⟩
end Z
/-! The law's end. -/
namespace Z
open PySem PySem.Spec PyProof.Rows L2
/-- a def keeps what its function says, at its own object -/
theorem fnok_of {P : Program} {w : World} {K : PySem.W.Frag} {mg : Str → Option Value} {base : Heap} {x : Str} {params : Arguments} {body : List Stmt} {scope : Scope} {fd : FuncData} {f : Addr} {N ps : List Str} {k n : Nat} {F : Fn} {g : GS}
    (FD : FunD K x x params body scope [] [] f fd) (S : FnScope N ps scope) (hps : ps.length = n) (hm : mg x = some (.ref f)) (hb : Binds K fd ps [])
    (hbody : ∀ (cdv : Value) (A : Around) (outer : List PySem.Env) (s : Shared) (H : Hp) (E : XK), Room k (A.deeper (envOfC x scope s.heap.objs.size f cdv)) →
      PSs (cxOf (L2N.CX P w) P w K mg base N x scope f cdv A outer s H E) body (tS K (fun cls d _ H => E cls d H) g))
    (hF : ∀ xs st, xs.length = n → F xs st = .bad ∨ F xs st = allR (g (begin N.length n xs) st)) : FnOk P w K mg base (L2N.CX P w) (k + 1) f fd ps (spF K n F) := by
  refine FD.ok S (fun vs H Q E h => ?_) fun cdv A outer s H vs Q E hr h => ⟨tS K (fun cls d _ H => E cls d H) g, hbody cdv A outer s H E hr, ?_⟩
  · obtain ⟨wd, xs, st, hn, _, r, _⟩ := h
    rw [r.length, hn, hps]
  · obtain ⟨wd, xs, st, hn, ok, r, po⟩ := h
    refine ⟨wd, begin N.length n xs, st, ok, slots_start r hn, ?_⟩
    rcases hF xs st hn with e | e
    · rw [e] at po; exact po.elim
    · rw [e] at po
      cases q : g (begin N.length n xs) st with
      | nx ρ' st' => rw [q] at po; exact fun w' σ' H' l o _ => po w' H' .non l o rfl
      | ret v st' => rw [q] at po; exact po
      | exc c ρ' st' => rw [q] at po; exact fun w' σ' H' l o _ => po w' H' l o
      | bad => rw [q] at po; exact po.elim
theorem repL_ints {K : PySem.W.Frag} {w : Wd} : ∀ ns : List Int, RepL K w (ns.map .int) (ns.map V.int)
  | [] => rfl
  | n :: ns => ⟨_, _, rfl, rfl, repL_ints ns⟩
/-- from the law's function to the law's row -/
theorem walkZ {l : PySem.W.OpenLaw} {n k : Nat} {q : Program} {loose : List Str} {XP : (Str → Option Value) → Heap → Prop} {YP : World → Heap → Prop} {d : DefRec} {x : Str} {F : Fn}
    (h1 : l.most = some n) (h2 : n ≤ sizeLine) (h3 : d.params.defaults = []) (h4 : Room k callerA)
    (law : ∀ (ns : List Int) (st : List SO), ns.length ≤ n → (∀ z ∈ ns, Builtin.Int.intBits z ≤ 1048576) → ∃ st', F [.lst (ns.map .int)] st = .ok (.bl true) st')
    (G : ∀ (w : World) (mg : Str → Option Value) (fa : Addr) (h : Heap), YP w h → h.Ns mainGlobals mg → mg d.name = some (.ref fa) → ∃ (K : PySem.W.Frag) (fd : FuncData), K.In h ∧
      (∀ (s : Shared) (u : Value), BindsTo s fd ⟨[u], []⟩ [(x, u)]) ∧ ∀ base : Heap, K.In base → base.Ns mainGlobals mg → FnOk l.prog w K mg base (L2N.CX l.prog w) k fa fd [x] (spF K 1 F)) :
    PySem.W.WalkO q loose XP YP l.row.toRowW d [] (fun f vs => PySem.call f vs) := by
  refine Att.attach_callB h1 h3 fun w s0 s mg mb fa o pm cd doc a vs ns T Y ho hd hcd hmg hobj hints hlen hbits hg => ?_
  obtain ⟨K, fd, KX, hb, hF⟩ := G w mg fa _ Y T.T.g hmg
  refine law_call KX T.T.g T.T.b T.T.builtins T.T.nolimit hg hobj hints (Nat.le_trans hlen h2) h4 hF hb (fun H hO hS => ?_) fun H e s' ⟨_, _, _, _, _, _, _, _, _, _, _, _, no⟩ => no
  obtain ⟨st', e⟩ := law ns [] hlen hbits
  refine ⟨⟨H, fun _ => none, []⟩, [.lst (ns.map .int)], [], rfl, ?_, ⟨_, _, rfl, ⟨a, _, rfl, hS, repL_ints ns⟩, rfl⟩, ?_⟩
  · exact ⟨fun _ _ h => h, fun _ _ h => (nomatch h), fun _ _ h => (nomatch h), List.nodup_nil, rfl, fun _ _ h => (nomatch h), fun _ _ _ h => (nomatch h)⟩
  · rw [e]
    exact fun _ _ _ _ _ r => r
/-- a module's tuple of ints -/
theorem con_tup {K : PySem.W.Frag} {mg : Str → Option Value} {x : Str} (l : List Int) (h : mg x = some (.ref (He.ga K x))) (t : He.tupB K x (l.map .int) = true) : Con K mg x (.tup (l.map .int)) := by
  refine ⟨_, .ref (He.ga K x), h, rfl, fun w => ⟨_, _, rfl, He.tupB_ok t w.F, ?_⟩⟩
  have e : (l.map He.Dv.int).map (He.Dv.v K) = l.map V.int := by rw [List.map_map]; rfl
  rw [e]
  exact repL_ints l
theorem saysD_of {fa : List He.Fa} {fn : List He.DefD} {ex : PySem.W.Frag → Bool} {w : World} {h : Heap} {K : PySem.W.Frag} (c : He.SaysX fa fn [] [] ex w h K) : He.SaysD fa fn K := congrArg Prod.fst c.t
end Z
namespace Z
open PySem PySem.Spec PyProof.Rows L2
noncomputable def g__law_take : GS :=
  (gSeq (gSet 2 (gBin modV (gBin ixV (gVar 0) (gC (.int 0))) (gVar 1)))
  (gSeq (gStore setIV (gBin fdivV (gBin ixV (gVar 0) (gC (.int 0))) (gVar 1)) (gVar 0) (gC (.int 0)))
  (gRet (gVar 2))))
noncomputable def F__law_take : Fn := fun xs st => allR (g__law_take (begin 3 2 xs) st)
theorem take_ok {st : List SO} {k : Nat} {n far : Int} (hk : st[k]? = some (.lst [.int n])) (hf : 0 < far) (hd : far < 2 ^ 8000) : F__law_take [.ref k, .int far] st = .ok (.int (n % far)) (st.set k (.lst [.int (n / far)])) := by
  have d : DivOk n far := divOk_of (b := 8000) (by omega) (by decide)
  have hne : ¬ far = 0 := by omega
  have e1 : n.fmod far = n % far := Int.fmod_eq_emod_of_nonneg _ (by omega)
  have e2 : n.fdiv far = n / far := Int.fdiv_eq_ediv_of_nonneg _ (by omega)
  simp only [F__law_take, g__law_take, gSlN_eq, slN_r, slN_l, slNK_s, gRevN_eq, revN_r, revNK_s, tupleV_r, tupleV_l, gCallV_eq, gLend_eq, isNotBV_b, gRep_eq, repR_r, gZip_eq, zipR_t, zipR_l, gTry_eq, tryK_nx, tryK_ret, begin_eq, allR_nx, allR_ret, allR_exc, gSkip_eq, gSeq_eq, seqK_nx, seqK_ret, seqK_exc, toS_ok, toS_exc, toST_ok, toST_exc, toSL_ok, toSL_exc, gRet_eq, gAsg_eq, gSet_eq, gExpr_eq, gIfS_eq, gRaise_eq, gBin_eq, gUn_eq, gVar_eq, slotR_some, gC_eq, gArgs_nil, gArgs_cons, gTupE_eq, gLstE_eq, gNewE_eq, gCall_eq, gBi_eq, gB_eq, asB_bl, gAnd_eq, gOr_eq, gNot_eq, gVT_eq, gIf_eq, gChain_eq, chK_t, chK_f, chK_b, bnd_ok, bnd_exc, oo_some, gTo_eq, toK_some, tgName_eq, tgNil_eq, tgCons_eq, tgTup_eq, bind_some, gPar_eq, gCat_eq, catR_r, listV_t, listV_l, blsOf_nil, blsOf_cons, allV_l, isNV_d, notNV_d, parK_ok, parK_exc, gStore_eq, stK_some, gMeth_eq, gFor_eq, gRng1_eq, asI_i, gItL_eq, gItT_eq, asLst_l, asTup_t, addV_ii, subV_ii, mulV_ii, fdivV_ii, modV_ii, shlV_ii, pw6, pw9, pw18, pw19, pw20, pw25, pw30, pw39, ltV_ii, leV_ii, gtV_ii, geV_ii, negV_i, isNV_n, isNV_t, isNV_l, isNV_i, isNV_s, isNV_r, isNV_b, notNV_n, notNV_t, notNV_l, notNV_i, notNV_s, notNV_r, notNV_b, ixV_t, ixV_l, ixV_r, lenV_t, lenV_l, lenV_r, absV_i, max2V_ii, min2V_ii, bitsV_i, setIV_r, setK_some, setL_some, appendM_r, appK_some, appN_ok, isT_r, isK_l, lstK_some, tyK_l, isT_s, isiV_eq, tyN_int, tyN_bl, tyN_non, tyN_str, tyN_tup, tyN_lst, tyN_dct, tyN_r, kk_int_bool, kitK_t, kk_int_str, kk_int_tuple, kk_int_list, kk_int_dict, kk_int_NoneType, kk_bool_int, kk_bool_str, kk_bool_tuple, kk_bool_list, kk_bool_dict, kk_bool_NoneType, kk_str_int, kk_str_bool, kk_str_tuple, kk_str_list, kk_str_dict, kk_str_NoneType, kk_tuple_int, kk_tuple_bool, kk_tuple_str, kk_tuple_list, kk_tuple_dict, kk_tuple_NoneType, kk_list_int, kk_list_bool, kk_list_str, kk_list_tuple, kk_list_dict, kk_list_NoneType, kk_dict_int, kk_dict_bool, kk_dict_str, kk_dict_tuple, kk_dict_list, kk_dict_NoneType, eqV_int, neV_int, isBV_b, neV_bl, eqV_bl, eqV_ii, neV_ii, isNV_fr, notNV_fr, ixV_fr0, ixV_fr1, eqV_fr, neV_fr, int1V_b, int1V_i, ixV_hp0, ixV_hp1, isNV_hp, eqV_hp, neV_hp, tyN_fr, lenV_fr, at0, at1, at2, at3, at4, at5, ixN0, ixN1, List.map_cons, List.map_nil, List.replicate, List.cons_append, List.nil_append, List.getElem?_cons_zero, List.getElem?_cons_succ, List.set_cons_zero, List.set_cons_succ, Bool.not_true, Bool.not_false, Bool.false_eq_true, if_true, if_false, ite_true, ite_false, reduceIte, Nat.reduceSub, Nat.reduceAdd, ne_eq, Int.cast_ofNat_Int, Int.reduceBEq, Int.reduceLT, Int.reduceLE, Int.reduceEq, Int.reduceNeg, Int.reduceMul, Int.reduceAdd, Int.reduceSub, decide_true, decide_false, List.length_cons, List.length_nil, beq_self_eq_true, not_false_eq_true, not_true_eq_false , gLenSet_eq, lsR_l, gCompN_eq, mkN_l, gCat2_eq, lstOf_l, insertM_r, extendM_r, gListRg_eq, gSlV_eq, slVK_s, gForM_eq, toSM_ok, gItM_eq, mkB_t, mkB_f, hk, hne, not_false_eq_true, d, and_self, e1, e2, List.length_cons, List.length_nil]
theorem take_ps {st : List SO} {k : Nat} {n far : Int} (hk : k < st.length) (hf : 0 < far) (hd : far < 2 ^ 8000) : F__law_take [.ref k, .int far] (PS st k n) = .ok (.int (n % far)) (PS st k (n / far)) := by
  rw [take_ok (PS_at hk) hf hd, PS_set]
theorem mod_lt' {n far : Int} (h : 0 < far) : n % far < far := Int.emod_lt_of_pos n h
theorem mod_nn {n far : Int} (h : 0 < far) : 0 ≤ n % far := Int.emod_nonneg n (by omega)
theorem lit8000 {i : Int} (h : i < 2 ^ 200) : i < 2 ^ 8000 := Int.lt_of_lt_of_le h (by decide +kernel)

noncomputable def g__law_fr : GS :=
  (gSeq (gPar 2 3 (gBi absV [(gVar 0)]) (gBi absV [(gVar 1)]))
  (gSeq (gWhile (muI 3) (gB (gBin neV (gVar 3) (gC (.int 0)))) (gPar 2 3 (gVar 3) (gBin modV (gVar 2) (gVar 3))))
  (gSeq (gIfS (gB (gBin ltV (gVar 1) (gC (.int 0)))) (gSet 2 (gBin subV (gC (.int 0)) (gVar 2))) gSkip)
  (gRet (gTupE [(gBin fdivV (gVar 0) (gVar 2)), (gBin fdivV (gVar 1) (gVar 2))])))))
noncomputable def F__law_fr : Fn := fun xs st => allR (g__law_fr (begin 4 2 xs) st)
theorem lfr_of {t b : Int} {st : List SO} (hb : b ≠ 0) (hd : DivOk t (Int.gcd t b)) (hd2 : DivOk b (Int.gcd t b)) (hd3 : DivOk t (-(Int.gcd t b : Int))) (hd4 : DivOk b (-(Int.gcd t b : Int))) : F__law_fr [.int t, .int b] st = .ok (fr (Rat.divInt t b)) st := by
  have w := whl_gcdN (i := 2) (j := 3) (by decide) (b.natAbs + 1) [some (.int t), some (.int b), some (.int t.natAbs), some (.int b.natAbs)] t.natAbs b.natAbs st rfl rfl (by omega)
  have e : Nat.gcd t.natAbs b.natAbs = Int.gcd t b := rfl
  have hg := gcd_pos_of (t := t) hb
  rw [e] at w
  simp only [F__law_fr, g__law_fr, gWhile, muI, gSlN_eq, slN_r, slN_l, slNK_s, gRevN_eq, revN_r, revNK_s, tupleV_r, tupleV_l, gCallV_eq, gLend_eq, isNotBV_b, gRep_eq, repR_r, gZip_eq, zipR_t, zipR_l, gTry_eq, tryK_nx, tryK_ret, begin_eq, allR_nx, allR_ret, allR_exc, gSkip_eq, gSeq_eq, seqK_nx, seqK_ret, seqK_exc, toS_ok, toS_exc, toST_ok, toST_exc, toSL_ok, toSL_exc, gRet_eq, gAsg_eq, gSet_eq, gExpr_eq, gIfS_eq, gRaise_eq, gBin_eq, gUn_eq, gVar_eq, slotR_some, gC_eq, gArgs_nil, gArgs_cons, gTupE_eq, gLstE_eq, gNewE_eq, gCall_eq, gBi_eq, gB_eq, asB_bl, gAnd_eq, gOr_eq, gNot_eq, gVT_eq, gIf_eq, gChain_eq, chK_t, chK_f, chK_b, bnd_ok, bnd_exc, oo_some, gTo_eq, toK_some, tgName_eq, tgNil_eq, tgCons_eq, tgTup_eq, bind_some, gPar_eq, gCat_eq, catR_r, listV_t, listV_l, blsOf_nil, blsOf_cons, allV_l, isNV_d, notNV_d, parK_ok, parK_exc, gStore_eq, stK_some, gMeth_eq, gFor_eq, gRng1_eq, asI_i, gItL_eq, gItT_eq, asLst_l, asTup_t, addV_ii, subV_ii, mulV_ii, fdivV_ii, modV_ii, shlV_ii, pw6, pw9, pw18, pw19, pw20, pw25, pw30, pw39, ltV_ii, leV_ii, gtV_ii, geV_ii, negV_i, isNV_n, isNV_t, isNV_l, isNV_i, isNV_s, isNV_r, isNV_b, notNV_n, notNV_t, notNV_l, notNV_i, notNV_s, notNV_r, notNV_b, ixV_t, ixV_l, ixV_r, lenV_t, lenV_l, lenV_r, absV_i, max2V_ii, min2V_ii, bitsV_i, setIV_r, setK_some, setL_some, appendM_r, appK_some, appN_ok, isT_r, isK_l, lstK_some, tyK_l, isT_s, isiV_eq, tyN_int, tyN_bl, tyN_non, tyN_str, tyN_tup, tyN_lst, tyN_dct, tyN_r, kk_int_bool, kitK_t, kk_int_str, kk_int_tuple, kk_int_list, kk_int_dict, kk_int_NoneType, kk_bool_int, kk_bool_str, kk_bool_tuple, kk_bool_list, kk_bool_dict, kk_bool_NoneType, kk_str_int, kk_str_bool, kk_str_tuple, kk_str_list, kk_str_dict, kk_str_NoneType, kk_tuple_int, kk_tuple_bool, kk_tuple_str, kk_tuple_list, kk_tuple_dict, kk_tuple_NoneType, kk_list_int, kk_list_bool, kk_list_str, kk_list_tuple, kk_list_dict, kk_list_NoneType, kk_dict_int, kk_dict_bool, kk_dict_str, kk_dict_tuple, kk_dict_list, kk_dict_NoneType, eqV_int, neV_int, isBV_b, neV_bl, eqV_bl, eqV_ii, neV_ii, isNV_fr, notNV_fr, ixV_fr0, ixV_fr1, eqV_fr, neV_fr, int1V_b, int1V_i, ixV_hp0, ixV_hp1, isNV_hp, eqV_hp, neV_hp, tyN_fr, lenV_fr, at0, at1, at2, at3, at4, at5, ixN0, ixN1, List.map_cons, List.map_nil, List.replicate, List.cons_append, List.nil_append, List.getElem?_cons_zero, List.getElem?_cons_succ, List.set_cons_zero, List.set_cons_succ, Bool.not_true, Bool.not_false, Bool.false_eq_true, if_true, if_false, ite_true, ite_false, reduceIte, Nat.reduceSub, Nat.reduceAdd, ne_eq, Int.cast_ofNat_Int, Int.reduceBEq, Int.reduceLT, Int.reduceLE, Int.reduceEq, Int.reduceNeg, Int.reduceMul, Int.reduceAdd, Int.reduceSub, decide_true, decide_false, List.length_cons, List.length_nil, beq_self_eq_true, not_false_eq_true, not_true_eq_false , gLenSet_eq, lsR_l, gCompN_eq, mkN_l, gCat2_eq, lstOf_l, insertM_r, extendM_r, gListRg_eq, gSlV_eq, slVK_s, gForM_eq, toSM_ok, gItM_eq, mkB_t, mkB_f, Int.natAbs_natCast] at w ⊢
  simp only [w]
  have l1 := low_num (t := t) hb
  have l2 := low_den (t := t) hb
  by_cases h : b < 0
  · rw [if_pos h] at l1 l2
    have hne : ¬ (0 - (Int.gcd t b : Int)) = 0 := by omega
    have z : 0 - (Int.gcd t b : Int) = -(Int.gcd t b : Int) := by omega
    have hne' : ¬ (-(Int.gcd t b : Int)) = 0 := by omega
    simp only [gSlN_eq, slN_r, slN_l, slNK_s, gRevN_eq, revN_r, revNK_s, tupleV_r, tupleV_l, gCallV_eq, gLend_eq, isNotBV_b, gRep_eq, repR_r, gZip_eq, zipR_t, zipR_l, gTry_eq, tryK_nx, tryK_ret, begin_eq, allR_nx, allR_ret, allR_exc, gSkip_eq, gSeq_eq, seqK_nx, seqK_ret, seqK_exc, toS_ok, toS_exc, toST_ok, toST_exc, toSL_ok, toSL_exc, gRet_eq, gAsg_eq, gSet_eq, gExpr_eq, gIfS_eq, gRaise_eq, gBin_eq, gUn_eq, gVar_eq, slotR_some, gC_eq, gArgs_nil, gArgs_cons, gTupE_eq, gLstE_eq, gNewE_eq, gCall_eq, gBi_eq, gB_eq, asB_bl, gAnd_eq, gOr_eq, gNot_eq, gVT_eq, gIf_eq, gChain_eq, chK_t, chK_f, chK_b, bnd_ok, bnd_exc, oo_some, gTo_eq, toK_some, tgName_eq, tgNil_eq, tgCons_eq, tgTup_eq, bind_some, gPar_eq, gCat_eq, catR_r, listV_t, listV_l, blsOf_nil, blsOf_cons, allV_l, isNV_d, notNV_d, parK_ok, parK_exc, gStore_eq, stK_some, gMeth_eq, gFor_eq, gRng1_eq, asI_i, gItL_eq, gItT_eq, asLst_l, asTup_t, addV_ii, subV_ii, mulV_ii, fdivV_ii, modV_ii, shlV_ii, pw6, pw9, pw18, pw19, pw20, pw25, pw30, pw39, ltV_ii, leV_ii, gtV_ii, geV_ii, negV_i, isNV_n, isNV_t, isNV_l, isNV_i, isNV_s, isNV_r, isNV_b, notNV_n, notNV_t, notNV_l, notNV_i, notNV_s, notNV_r, notNV_b, ixV_t, ixV_l, ixV_r, lenV_t, lenV_l, lenV_r, absV_i, max2V_ii, min2V_ii, bitsV_i, setIV_r, setK_some, setL_some, appendM_r, appK_some, appN_ok, isT_r, isK_l, lstK_some, tyK_l, isT_s, isiV_eq, tyN_int, tyN_bl, tyN_non, tyN_str, tyN_tup, tyN_lst, tyN_dct, tyN_r, kk_int_bool, kitK_t, kk_int_str, kk_int_tuple, kk_int_list, kk_int_dict, kk_int_NoneType, kk_bool_int, kk_bool_str, kk_bool_tuple, kk_bool_list, kk_bool_dict, kk_bool_NoneType, kk_str_int, kk_str_bool, kk_str_tuple, kk_str_list, kk_str_dict, kk_str_NoneType, kk_tuple_int, kk_tuple_bool, kk_tuple_str, kk_tuple_list, kk_tuple_dict, kk_tuple_NoneType, kk_list_int, kk_list_bool, kk_list_str, kk_list_tuple, kk_list_dict, kk_list_NoneType, kk_dict_int, kk_dict_bool, kk_dict_str, kk_dict_tuple, kk_dict_list, kk_dict_NoneType, eqV_int, neV_int, isBV_b, neV_bl, eqV_bl, eqV_ii, neV_ii, isNV_fr, notNV_fr, ixV_fr0, ixV_fr1, eqV_fr, neV_fr, int1V_b, int1V_i, ixV_hp0, ixV_hp1, isNV_hp, eqV_hp, neV_hp, tyN_fr, lenV_fr, at0, at1, at2, at3, at4, at5, ixN0, ixN1, List.map_cons, List.map_nil, List.replicate, List.cons_append, List.nil_append, List.getElem?_cons_zero, List.getElem?_cons_succ, List.set_cons_zero, List.set_cons_succ, Bool.not_true, Bool.not_false, Bool.false_eq_true, if_true, if_false, ite_true, ite_false, reduceIte, Nat.reduceSub, Nat.reduceAdd, ne_eq, Int.cast_ofNat_Int, Int.reduceBEq, Int.reduceLT, Int.reduceLE, Int.reduceEq, Int.reduceNeg, Int.reduceMul, Int.reduceAdd, Int.reduceSub, decide_true, decide_false, List.length_cons, List.length_nil, beq_self_eq_true, not_false_eq_true, not_true_eq_false , gLenSet_eq, lsR_l, gCompN_eq, mkN_l, gCat2_eq, lstOf_l, insertM_r, extendM_r, gListRg_eq, gSlV_eq, slVK_s, gForM_eq, toSM_ok, gItM_eq, mkB_t, mkB_f, h, decide_true, z, hne', not_false_eq_true, hd3, hd4, and_self, l1, l2, fr]
  · rw [if_neg h] at l1 l2
    have hne : ¬ ((Int.gcd t b : Int)) = 0 := by omega
    simp only [gSlN_eq, slN_r, slN_l, slNK_s, gRevN_eq, revN_r, revNK_s, tupleV_r, tupleV_l, gCallV_eq, gLend_eq, isNotBV_b, gRep_eq, repR_r, gZip_eq, zipR_t, zipR_l, gTry_eq, tryK_nx, tryK_ret, begin_eq, allR_nx, allR_ret, allR_exc, gSkip_eq, gSeq_eq, seqK_nx, seqK_ret, seqK_exc, toS_ok, toS_exc, toST_ok, toST_exc, toSL_ok, toSL_exc, gRet_eq, gAsg_eq, gSet_eq, gExpr_eq, gIfS_eq, gRaise_eq, gBin_eq, gUn_eq, gVar_eq, slotR_some, gC_eq, gArgs_nil, gArgs_cons, gTupE_eq, gLstE_eq, gNewE_eq, gCall_eq, gBi_eq, gB_eq, asB_bl, gAnd_eq, gOr_eq, gNot_eq, gVT_eq, gIf_eq, gChain_eq, chK_t, chK_f, chK_b, bnd_ok, bnd_exc, oo_some, gTo_eq, toK_some, tgName_eq, tgNil_eq, tgCons_eq, tgTup_eq, bind_some, gPar_eq, gCat_eq, catR_r, listV_t, listV_l, blsOf_nil, blsOf_cons, allV_l, isNV_d, notNV_d, parK_ok, parK_exc, gStore_eq, stK_some, gMeth_eq, gFor_eq, gRng1_eq, asI_i, gItL_eq, gItT_eq, asLst_l, asTup_t, addV_ii, subV_ii, mulV_ii, fdivV_ii, modV_ii, shlV_ii, pw6, pw9, pw18, pw19, pw20, pw25, pw30, pw39, ltV_ii, leV_ii, gtV_ii, geV_ii, negV_i, isNV_n, isNV_t, isNV_l, isNV_i, isNV_s, isNV_r, isNV_b, notNV_n, notNV_t, notNV_l, notNV_i, notNV_s, notNV_r, notNV_b, ixV_t, ixV_l, ixV_r, lenV_t, lenV_l, lenV_r, absV_i, max2V_ii, min2V_ii, bitsV_i, setIV_r, setK_some, setL_some, appendM_r, appK_some, appN_ok, isT_r, isK_l, lstK_some, tyK_l, isT_s, isiV_eq, tyN_int, tyN_bl, tyN_non, tyN_str, tyN_tup, tyN_lst, tyN_dct, tyN_r, kk_int_bool, kitK_t, kk_int_str, kk_int_tuple, kk_int_list, kk_int_dict, kk_int_NoneType, kk_bool_int, kk_bool_str, kk_bool_tuple, kk_bool_list, kk_bool_dict, kk_bool_NoneType, kk_str_int, kk_str_bool, kk_str_tuple, kk_str_list, kk_str_dict, kk_str_NoneType, kk_tuple_int, kk_tuple_bool, kk_tuple_str, kk_tuple_list, kk_tuple_dict, kk_tuple_NoneType, kk_list_int, kk_list_bool, kk_list_str, kk_list_tuple, kk_list_dict, kk_list_NoneType, kk_dict_int, kk_dict_bool, kk_dict_str, kk_dict_tuple, kk_dict_list, kk_dict_NoneType, eqV_int, neV_int, isBV_b, neV_bl, eqV_bl, eqV_ii, neV_ii, isNV_fr, notNV_fr, ixV_fr0, ixV_fr1, eqV_fr, neV_fr, int1V_b, int1V_i, ixV_hp0, ixV_hp1, isNV_hp, eqV_hp, neV_hp, tyN_fr, lenV_fr, at0, at1, at2, at3, at4, at5, ixN0, ixN1, List.map_cons, List.map_nil, List.replicate, List.cons_append, List.nil_append, List.getElem?_cons_zero, List.getElem?_cons_succ, List.set_cons_zero, List.set_cons_succ, Bool.not_true, Bool.not_false, Bool.false_eq_true, if_true, if_false, ite_true, ite_false, reduceIte, Nat.reduceSub, Nat.reduceAdd, ne_eq, Int.cast_ofNat_Int, Int.reduceBEq, Int.reduceLT, Int.reduceLE, Int.reduceEq, Int.reduceNeg, Int.reduceMul, Int.reduceAdd, Int.reduceSub, decide_true, decide_false, List.length_cons, List.length_nil, beq_self_eq_true, not_false_eq_true, not_true_eq_false , gLenSet_eq, lsR_l, gCompN_eq, mkN_l, gCat2_eq, lstOf_l, insertM_r, extendM_r, gListRg_eq, gSlV_eq, slVK_s, gForM_eq, toSM_ok, gItM_eq, mkB_t, mkB_f, h, decide_false, hne, not_false_eq_true, hd, hd2, and_self, l1, l2, fr]
theorem lfr_ok {n : Nat} {t b : Int} {st : List SO} (hb : b ≠ 0) (hs : Sz n b) (hn : n ≤ 9000) : F__law_fr [.int t, .int b] st = .ok (fr (Rat.divInt t b)) st := by
  have g := gcd_sz (t := t) hs hb
  exact lfr_of hb (g.divOk hn) (g.divOk hn) (g.neg.divOk hn) (g.neg.divOk hn)

noncomputable def g__law_list (F__law_take : Fn) (F__law_fr : Fn) : GS :=
  (gSeq (gSet 2 (gNewE []))
  (gSeq (gSet 3 (gBin ixV (gLstE [(gC (.int 3)), (gC (.int 5)), (gC (.int 9))]) (gCall F__law_take [(gVar 0), (gC (.int 3))])))
  (gSeq (gSet 4 (gBin addV (gC (.int 1)) (gCall F__law_take [(gVar 0), (gC (.int 2))])))
  (gSeq (gFor (gRng1 (gBin addV (gC (.int 1)) (gCall F__law_take [(gVar 0), (gVar 1)]))) (tgName 5) (gSeq (gSet 6 (gTupE [(gCall F__law_fr [(gBin subV (gCall F__law_take [(gVar 0), (gVar 3)]) (gBin fdivV (gVar 3) (gC (.int 2)))), (gVar 4)]), (gCall F__law_fr [(gBin subV (gCall F__law_take [(gVar 0), (gVar 3)]) (gBin fdivV (gVar 3) (gC (.int 2)))), (gVar 4)])]))
  (gIfS (gB (gBin (inD true) (gVar 6) (gVar 2))) (gExpr (gMeth "list" appendM (gVar 2) [(gVar 6)])) gSkip)))
  (gRet (gVar 2))))))
noncomputable def F__law_list : Fn := fun xs st => leave st (g__law_list F__law_take F__law_fr (begin 7 2 xs) st)
/-- the state: the pot, the haps so far -/
def HS (st : List SO) (k : Nat) (p : Int) (hs : List (Rat × Rat)) : List SO := PS (st ++ [.lst (hs.map hq)]) k p
theorem HS_get {st : List SO} {k : Nat} {p : Int} {hs : List (Rat × Rat)} (hk : k < st.length) : (HS st k p hs)[st.length]? = some (.lst (hs.map hq)) := by
  unfold HS
  rw [PS_ne (by omega)]
  exact get_new
theorem HS_set {st : List SO} {k : Nat} {p : Int} {hs hs' : List (Rat × Rat)} (hk : k < st.length) : (HS st k p hs).set st.length (.lst (hs'.map hq)) = HS st k p hs' := by
  unfold HS PS
  rw [List.set_comm _ _ (by omega), List.set_append_right _ _ (Nat.le_refl _), Nat.sub_self]
  rfl
theorem HS_take {st : List SO} {k : Nat} {p far : Int} {hs : List (Rat × Rat)} (hk : k < st.length) (hf : 0 < far) (hd : far < 2 ^ 8000) : F__law_take [.ref k, .int far] (HS st k p hs) = .ok (.int (p % far)) (HS st k (p / far) hs) := by
  unfold HS
  exact take_ps (by rw [List.length_append]; omega) hf hd
theorem llist_ok {st : List SO} {k : Nat} {m : Int} (hk : k < st.length) (m1 : 1 ≤ m) (m2 : m ≤ 60) (p : Int) : ∃ (hs : List (Rat × Rat)) (p' : Int), F__law_list [.ref k, .int m] (PS st k p) = .ok (.lst (hs.map hq)) (PS st k p') ∧ 1 ≤ hs.length ∧ hs.length ≤ m.toNat ∧ hs.Nodup ∧ ∀ h ∈ hs, HR 20 h := by
  have s0 : PS st k p ++ [SO.lst []] = HS st k p [] := PS_app hk
  have t1 := HS_take (p := p) (hs := []) hk (show (0 : Int) < 3 by decide) (lit8000 (by decide))
  have y1 := mod_nn (n := p) (show (0 : Int) < 3 by decide)
  have y2 := mod_lt' (n := p) (show (0 : Int) < 3 by decide)
  generalize p % 3 = o1 at *
  generalize p / 3 = p1 at *
  obtain ⟨w, ew, w3, w9⟩ : ∃ w : Int, atI [PV.int 3, .int 5, .int 9] o1 = some (.int w) ∧ 3 ≤ w ∧ w ≤ 9 := by
    have : o1 = 0 ∨ o1 = 1 ∨ o1 = 2 := by omega
    rcases this with rfl | rfl | rfl
    · exact ⟨3, at0, by decide, by decide⟩
    · exact ⟨5, at1, by decide, by decide⟩
    · exact ⟨9, at2, by decide, by decide⟩
  have t2 := HS_take (p := p1) (hs := []) hk (show (0 : Int) < 2 by decide) (lit8000 (by decide))
  have y3 := mod_nn (n := p1) (show (0 : Int) < 2 by decide)
  have y4 := mod_lt' (n := p1) (show (0 : Int) < 2 by decide)
  generalize p1 % 2 = o2 at *
  generalize p1 / 2 = p2 at *
  have t3 := HS_take (p := p2) (hs := []) hk (show (0 : Int) < m by omega) (lit8000 (by omega))
  have y5 := mod_nn (n := p2) (show (0 : Int) < m by omega)
  have y6 := mod_lt' (n := p2) (show (0 : Int) < m by omega)
  generalize p2 % m = o3 at *
  generalize p2 / m = p3 at *
  have r1 : RngOk (1 + o3) := by unfold RngOk; omega
  have zb : Sz 8 (1 + o2) := by unfold Sz; omega
  have d2 : ¬ (2 : Int) = 0 := by decide
  have dw : DivOk w 2 := divOk_of (b := 8000) (by omega) (by decide)
  have rsz : ∀ a : Int, 0 ≤ a → a < w → RS 20 (Rat.divInt (a - w.fdiv 2) (1 + o2)) := fun a h0 h1 => by
    have e : w.fdiv 2 = w / 2 := Int.fdiv_eq_ediv_of_nonneg _ (by omega)
    exact (RS.divInt (show Sz 8 (a - w.fdiv 2) by rw [e]; unfold Sz; omega) zb (by omega)).mono (by omega)
  obtain ⟨ρ', st', el, hs, p', x5, x6, rfl, rfl, l1, l2, nd, hr⟩ := forg_idx (t := tgName 5) (b := (gSeq (gSet 6 (gTupE [(gCall F__law_fr [(gBin subV (gCall F__law_take [(gVar 0), (gVar 3)]) (gBin fdivV (gVar 3) (gC (.int 2)))), (gVar 4)]), (gCall F__law_fr [(gBin subV (gCall F__law_take [(gVar 0), (gVar 3)]) (gBin fdivV (gVar 3) (gC (.int 2)))), (gVar 4)])]))
  (gIfS (gB (gBin (inD true) (gVar 6) (gVar 2))) (gExpr (gMeth "list" appendM (gVar 2) [(gVar 6)])) gSkip))) (rng 0 (1 + o3).toNat)
    (fun i ρ s => ∃ hs p' x5 x6, ρ = [some (.ref k), some (.int m), some (.ref st.length), some (.int w), some (.int (1 + o2)), x5, x6] ∧ s = HS st k p' hs ∧ (1 ≤ i → 1 ≤ hs.length) ∧ hs.length ≤ i ∧ hs.Nodup ∧ ∀ h ∈ hs, HR 20 h)
    [some (.ref k), some (.int m), some (.ref st.length), some (.int w), some (.int (1 + o2)), none, none] (HS st k p3 []) ⟨[], p3, none, none, rfl, rfl, by omega, Nat.le_refl _, List.nodup_nil, fun h hh => by cases hh⟩ (by
    rintro i z ρ s hz ⟨hs, p', x5, x6, rfl, rfl, l1, l2, nd, hr⟩
    have hi : i < (1 + o3).toNat := by
      have := (List.getElem?_eq_some_iff.mp hz).1
      rwa [rng_len] at this
    have u1 := HS_take (p := p') (hs := hs) hk (show (0 : Int) < w by omega) (lit8000 (by omega))
    have v1 := mod_nn (n := p') (show (0 : Int) < w by omega)
    have v2 := mod_lt' (n := p') (show (0 : Int) < w by omega)
    generalize p' % w = a1 at *
    generalize p' / w = q1 at *
    have u2 := HS_take (p := q1) (hs := hs) hk (show (0 : Int) < w by omega) (lit8000 (by omega))
    have v3 := mod_nn (n := q1) (show (0 : Int) < w by omega)
    have v4 := mod_lt' (n := q1) (show (0 : Int) < w by omega)
    generalize q1 % w = a2 at *
    generalize q1 / w = q2 at *
    have f1 := fun s => lfr_ok (st := s) (t := a1 - w.fdiv 2) (show 1 + o2 ≠ 0 by omega) zb (by omega)
    have f2 := fun s => lfr_ok (st := s) (t := a2 - w.fdiv 2) (show 1 + o2 ≠ 0 by omega) zb (by omega)
    have rt := rsz a1 v1 v2
    have rx := rsz a2 v3 v4
    generalize Rat.divInt (a1 - w.fdiv 2) (1 + o2) = t at *
    generalize Rat.divInt (a2 - w.fdiv 2) (1 + o2) = x at *
    have eh : PV.tup [fr t, fr x] = hq (t, x) := rfl
    have gt := HS_get (p := q2) (hs := hs) hk
    by_cases c : (t, x) ∈ hs
    · have d := dat_hap.notin_f (by omega) (st := HS st k q2 hs) (x := hq (t, x)) (y := .ref st.length) (dat_hap.deF _ _) (lstOf_r gt) c
      refine ⟨_, [some (.ref k), some (.int m), some (.ref st.length), some (.int w), some (.int (1 + o2)), some z, some (hq (t, x))], HS st k q2 hs, rfl, ?_, hs, q2, some z, some (hq (t, x)), rfl, rfl, fun _ => List.length_pos_of_mem c, by omega, nd, hr⟩
      simp only [gSlN_eq, slN_r, slN_l, slNK_s, gRevN_eq, revN_r, revNK_s, tupleV_r, tupleV_l, gCallV_eq, gLend_eq, isNotBV_b, gRep_eq, repR_r, gZip_eq, zipR_t, zipR_l, gTry_eq, tryK_nx, tryK_ret, begin_eq, allR_nx, allR_ret, allR_exc, gSkip_eq, gSeq_eq, seqK_nx, seqK_ret, seqK_exc, toS_ok, toS_exc, toST_ok, toST_exc, toSL_ok, toSL_exc, gRet_eq, gAsg_eq, gSet_eq, gExpr_eq, gIfS_eq, gRaise_eq, gBin_eq, gUn_eq, gVar_eq, slotR_some, gC_eq, gArgs_nil, gArgs_cons, gTupE_eq, gLstE_eq, gNewE_eq, gCall_eq, gBi_eq, gB_eq, asB_bl, gAnd_eq, gOr_eq, gNot_eq, gVT_eq, gIf_eq, gChain_eq, chK_t, chK_f, chK_b, bnd_ok, bnd_exc, oo_some, gTo_eq, toK_some, tgName_eq, tgNil_eq, tgCons_eq, tgTup_eq, bind_some, gPar_eq, gCat_eq, catR_r, listV_t, listV_l, blsOf_nil, blsOf_cons, allV_l, isNV_d, notNV_d, parK_ok, parK_exc, gStore_eq, stK_some, gMeth_eq, gFor_eq, gRng1_eq, asI_i, gItL_eq, gItT_eq, asLst_l, asTup_t, addV_ii, subV_ii, mulV_ii, fdivV_ii, modV_ii, shlV_ii, pw6, pw9, pw18, pw19, pw20, pw25, pw30, pw39, ltV_ii, leV_ii, gtV_ii, geV_ii, negV_i, isNV_n, isNV_t, isNV_l, isNV_i, isNV_s, isNV_r, isNV_b, notNV_n, notNV_t, notNV_l, notNV_i, notNV_s, notNV_r, notNV_b, ixV_t, ixV_l, ixV_r, lenV_t, lenV_l, lenV_r, absV_i, max2V_ii, min2V_ii, bitsV_i, setIV_r, setK_some, setL_some, appendM_r, appK_some, appN_ok, isT_r, isK_l, lstK_some, tyK_l, isT_s, isiV_eq, tyN_int, tyN_bl, tyN_non, tyN_str, tyN_tup, tyN_lst, tyN_dct, tyN_r, kk_int_bool, kitK_t, kk_int_str, kk_int_tuple, kk_int_list, kk_int_dict, kk_int_NoneType, kk_bool_int, kk_bool_str, kk_bool_tuple, kk_bool_list, kk_bool_dict, kk_bool_NoneType, kk_str_int, kk_str_bool, kk_str_tuple, kk_str_list, kk_str_dict, kk_str_NoneType, kk_tuple_int, kk_tuple_bool, kk_tuple_str, kk_tuple_list, kk_tuple_dict, kk_tuple_NoneType, kk_list_int, kk_list_bool, kk_list_str, kk_list_tuple, kk_list_dict, kk_list_NoneType, kk_dict_int, kk_dict_bool, kk_dict_str, kk_dict_tuple, kk_dict_list, kk_dict_NoneType, eqV_int, neV_int, isBV_b, neV_bl, eqV_bl, eqV_ii, neV_ii, isNV_fr, notNV_fr, ixV_fr0, ixV_fr1, eqV_fr, neV_fr, int1V_b, int1V_i, ixV_hp0, ixV_hp1, isNV_hp, eqV_hp, neV_hp, tyN_fr, lenV_fr, at0, at1, at2, at3, at4, at5, ixN0, ixN1, List.map_cons, List.map_nil, List.replicate, List.cons_append, List.nil_append, List.getElem?_cons_zero, List.getElem?_cons_succ, List.set_cons_zero, List.set_cons_succ, Bool.not_true, Bool.not_false, Bool.false_eq_true, if_true, if_false, ite_true, ite_false, reduceIte, Nat.reduceSub, Nat.reduceAdd, ne_eq, Int.cast_ofNat_Int, Int.reduceBEq, Int.reduceLT, Int.reduceLE, Int.reduceEq, Int.reduceNeg, Int.reduceMul, Int.reduceAdd, Int.reduceSub, decide_true, decide_false, List.length_cons, List.length_nil, beq_self_eq_true, not_false_eq_true, not_true_eq_false , gLenSet_eq, lsR_l, gCompN_eq, mkN_l, gCat2_eq, lstOf_l, insertM_r, extendM_r, gListRg_eq, gSlV_eq, slVK_s, gForM_eq, toSM_ok, gItM_eq, mkB_t, mkB_f, u1, d2, dw, and_self, f1, u2, f2, eh, d]
    · have d := dat_hap.notin_t (by omega) (st := HS st k q2 hs) (x := hq (t, x)) (y := .ref st.length) (dat_hap.deF _ _) (lstOf_r gt) c
      have lk : LenOk (hs.map hq).length := lenOk_small (by rw [List.length_map]; omega)
      have st2 := HS_set (p := q2) (hs := hs) (hs' := hs ++ [(t, x)]) hk
      rw [List.map_append] at st2
      have st2 : (HS st k q2 hs).set st.length (.lst (hs.map hq ++ [hq (t, x)])) = _ := st2
      refine ⟨_, [some (.ref k), some (.int m), some (.ref st.length), some (.int w), some (.int (1 + o2)), some z, some (hq (t, x))], HS st k q2 (hs ++ [(t, x)]), rfl, ?_, hs ++ [(t, x)], q2, some z, some (hq (t, x)), rfl, rfl, fun _ => by rw [List.length_append]; simp, by rw [List.length_append]; simp; omega, ?_, fun h hh => ?_⟩
      · simp only [gSlN_eq, slN_r, slN_l, slNK_s, gRevN_eq, revN_r, revNK_s, tupleV_r, tupleV_l, gCallV_eq, gLend_eq, isNotBV_b, gRep_eq, repR_r, gZip_eq, zipR_t, zipR_l, gTry_eq, tryK_nx, tryK_ret, begin_eq, allR_nx, allR_ret, allR_exc, gSkip_eq, gSeq_eq, seqK_nx, seqK_ret, seqK_exc, toS_ok, toS_exc, toST_ok, toST_exc, toSL_ok, toSL_exc, gRet_eq, gAsg_eq, gSet_eq, gExpr_eq, gIfS_eq, gRaise_eq, gBin_eq, gUn_eq, gVar_eq, slotR_some, gC_eq, gArgs_nil, gArgs_cons, gTupE_eq, gLstE_eq, gNewE_eq, gCall_eq, gBi_eq, gB_eq, asB_bl, gAnd_eq, gOr_eq, gNot_eq, gVT_eq, gIf_eq, gChain_eq, chK_t, chK_f, chK_b, bnd_ok, bnd_exc, oo_some, gTo_eq, toK_some, tgName_eq, tgNil_eq, tgCons_eq, tgTup_eq, bind_some, gPar_eq, gCat_eq, catR_r, listV_t, listV_l, blsOf_nil, blsOf_cons, allV_l, isNV_d, notNV_d, parK_ok, parK_exc, gStore_eq, stK_some, gMeth_eq, gFor_eq, gRng1_eq, asI_i, gItL_eq, gItT_eq, asLst_l, asTup_t, addV_ii, subV_ii, mulV_ii, fdivV_ii, modV_ii, shlV_ii, pw6, pw9, pw18, pw19, pw20, pw25, pw30, pw39, ltV_ii, leV_ii, gtV_ii, geV_ii, negV_i, isNV_n, isNV_t, isNV_l, isNV_i, isNV_s, isNV_r, isNV_b, notNV_n, notNV_t, notNV_l, notNV_i, notNV_s, notNV_r, notNV_b, ixV_t, ixV_l, ixV_r, lenV_t, lenV_l, lenV_r, absV_i, max2V_ii, min2V_ii, bitsV_i, setIV_r, setK_some, setL_some, appendM_r, appK_some, appN_ok, isT_r, isK_l, lstK_some, tyK_l, isT_s, isiV_eq, tyN_int, tyN_bl, tyN_non, tyN_str, tyN_tup, tyN_lst, tyN_dct, tyN_r, kk_int_bool, kitK_t, kk_int_str, kk_int_tuple, kk_int_list, kk_int_dict, kk_int_NoneType, kk_bool_int, kk_bool_str, kk_bool_tuple, kk_bool_list, kk_bool_dict, kk_bool_NoneType, kk_str_int, kk_str_bool, kk_str_tuple, kk_str_list, kk_str_dict, kk_str_NoneType, kk_tuple_int, kk_tuple_bool, kk_tuple_str, kk_tuple_list, kk_tuple_dict, kk_tuple_NoneType, kk_list_int, kk_list_bool, kk_list_str, kk_list_tuple, kk_list_dict, kk_list_NoneType, kk_dict_int, kk_dict_bool, kk_dict_str, kk_dict_tuple, kk_dict_list, kk_dict_NoneType, eqV_int, neV_int, isBV_b, neV_bl, eqV_bl, eqV_ii, neV_ii, isNV_fr, notNV_fr, ixV_fr0, ixV_fr1, eqV_fr, neV_fr, int1V_b, int1V_i, ixV_hp0, ixV_hp1, isNV_hp, eqV_hp, neV_hp, tyN_fr, lenV_fr, at0, at1, at2, at3, at4, at5, ixN0, ixN1, List.map_cons, List.map_nil, List.replicate, List.cons_append, List.nil_append, List.getElem?_cons_zero, List.getElem?_cons_succ, List.set_cons_zero, List.set_cons_succ, Bool.not_true, Bool.not_false, Bool.false_eq_true, if_true, if_false, ite_true, ite_false, reduceIte, Nat.reduceSub, Nat.reduceAdd, ne_eq, Int.cast_ofNat_Int, Int.reduceBEq, Int.reduceLT, Int.reduceLE, Int.reduceEq, Int.reduceNeg, Int.reduceMul, Int.reduceAdd, Int.reduceSub, decide_true, decide_false, List.length_cons, List.length_nil, beq_self_eq_true, not_false_eq_true, not_true_eq_false , gLenSet_eq, lsR_l, gCompN_eq, mkN_l, gCat2_eq, lstOf_l, insertM_r, extendM_r, gListRg_eq, gSlV_eq, slVK_s, gForM_eq, toSM_ok, gItM_eq, mkB_t, mkB_f, u1, d2, dw, and_self, f1, u2, f2, eh, d, gt, lk, st2]
      · rw [List.nodup_append]
        exact ⟨nd, by simp, fun a ha b hb => by rw [List.mem_singleton.mp hb]; exact fun z => c (z ▸ ha)⟩
      · rcases List.mem_append.mp hh with q | q
        · exact hr h q
        · rw [List.mem_singleton.mp q]; exact ⟨rt, rx⟩)
  rw [rng_len] at l1 l2
  refine ⟨hs, p', ?_, l1 (by omega), by omega, nd, hr⟩
  have gt := HS_get (p := p') (hs := hs) hk
  have lv : leave (PS st k p) (.ret (.ref st.length) (HS st k p' hs)) = .ok (.lst (hs.map hq)) (PS st k p') := by
    have o : OldOk (PS st k p) (HS st k p' hs) := PS_old hk
    have l : (PS st k p).length = st.length := PS_len
    rw [leave_ret o (v' := .lst (hs.map hq)) (by
      rw [l]
      exact frz_same (d := 8) (Nat.le_refl _) gt fun z hz => by
        obtain ⟨h, -, rfl⟩ := List.mem_map.mp hz
        exact (FZ_hq h).mono (by omega)), l]
    congr 1
    exact PS_take hk
  simp only [F__law_list, g__law_list, gSlN_eq, slN_r, slN_l, slNK_s, gRevN_eq, revN_r, revNK_s, tupleV_r, tupleV_l, gCallV_eq, gLend_eq, isNotBV_b, gRep_eq, repR_r, gZip_eq, zipR_t, zipR_l, gTry_eq, tryK_nx, tryK_ret, begin_eq, allR_nx, allR_ret, allR_exc, gSkip_eq, gSeq_eq, seqK_nx, seqK_ret, seqK_exc, toS_ok, toS_exc, toST_ok, toST_exc, toSL_ok, toSL_exc, gRet_eq, gAsg_eq, gSet_eq, gExpr_eq, gIfS_eq, gRaise_eq, gBin_eq, gUn_eq, gVar_eq, slotR_some, gC_eq, gArgs_nil, gArgs_cons, gTupE_eq, gLstE_eq, gNewE_eq, gCall_eq, gBi_eq, gB_eq, asB_bl, gAnd_eq, gOr_eq, gNot_eq, gVT_eq, gIf_eq, gChain_eq, chK_t, chK_f, chK_b, bnd_ok, bnd_exc, oo_some, gTo_eq, toK_some, tgName_eq, tgNil_eq, tgCons_eq, tgTup_eq, bind_some, gPar_eq, gCat_eq, catR_r, listV_t, listV_l, blsOf_nil, blsOf_cons, allV_l, isNV_d, notNV_d, parK_ok, parK_exc, gStore_eq, stK_some, gMeth_eq, gFor_eq, gRng1_eq, asI_i, gItL_eq, gItT_eq, asLst_l, asTup_t, addV_ii, subV_ii, mulV_ii, fdivV_ii, modV_ii, shlV_ii, pw6, pw9, pw18, pw19, pw20, pw25, pw30, pw39, ltV_ii, leV_ii, gtV_ii, geV_ii, negV_i, isNV_n, isNV_t, isNV_l, isNV_i, isNV_s, isNV_r, isNV_b, notNV_n, notNV_t, notNV_l, notNV_i, notNV_s, notNV_r, notNV_b, ixV_t, ixV_l, ixV_r, lenV_t, lenV_l, lenV_r, absV_i, max2V_ii, min2V_ii, bitsV_i, setIV_r, setK_some, setL_some, appendM_r, appK_some, appN_ok, isT_r, isK_l, lstK_some, tyK_l, isT_s, isiV_eq, tyN_int, tyN_bl, tyN_non, tyN_str, tyN_tup, tyN_lst, tyN_dct, tyN_r, kk_int_bool, kitK_t, kk_int_str, kk_int_tuple, kk_int_list, kk_int_dict, kk_int_NoneType, kk_bool_int, kk_bool_str, kk_bool_tuple, kk_bool_list, kk_bool_dict, kk_bool_NoneType, kk_str_int, kk_str_bool, kk_str_tuple, kk_str_list, kk_str_dict, kk_str_NoneType, kk_tuple_int, kk_tuple_bool, kk_tuple_str, kk_tuple_list, kk_tuple_dict, kk_tuple_NoneType, kk_list_int, kk_list_bool, kk_list_str, kk_list_tuple, kk_list_dict, kk_list_NoneType, kk_dict_int, kk_dict_bool, kk_dict_str, kk_dict_tuple, kk_dict_list, kk_dict_NoneType, eqV_int, neV_int, isBV_b, neV_bl, eqV_bl, eqV_ii, neV_ii, isNV_fr, notNV_fr, ixV_fr0, ixV_fr1, eqV_fr, neV_fr, int1V_b, int1V_i, ixV_hp0, ixV_hp1, isNV_hp, eqV_hp, neV_hp, tyN_fr, lenV_fr, at0, at1, at2, at3, at4, at5, ixN0, ixN1, List.map_cons, List.map_nil, List.replicate, List.cons_append, List.nil_append, List.getElem?_cons_zero, List.getElem?_cons_succ, List.set_cons_zero, List.set_cons_succ, Bool.not_true, Bool.not_false, Bool.false_eq_true, if_true, if_false, ite_true, ite_false, reduceIte, Nat.reduceSub, Nat.reduceAdd, ne_eq, Int.cast_ofNat_Int, Int.reduceBEq, Int.reduceLT, Int.reduceLE, Int.reduceEq, Int.reduceNeg, Int.reduceMul, Int.reduceAdd, Int.reduceSub, decide_true, decide_false, List.length_cons, List.length_nil, beq_self_eq_true, not_false_eq_true, not_true_eq_false , gLenSet_eq, lsR_l, gCompN_eq, mkN_l, gCat2_eq, lstOf_l, insertM_r, extendM_r, gListRg_eq, gSlV_eq, slVK_s, gForM_eq, toSM_ok, gItM_eq, mkB_t, mkB_f, s0, PS_len, t1, ew, t2, t3, asI_i r1, el, lv]

noncomputable def g__law_pot : GS :=
  (gSeq (gIfS (gB (gBin geV (gVar 0) (gBin powV (gC (.int 10)) (gC (.int 18))))) (gRet (gNewE [(gBin subV (gVar 0) (gBin powV (gC (.int 10)) (gC (.int 18))))])) gSkip)
  (gSeq (gSet 1 (gC (.int 0)))
  (gSeq (gFor (gRng1 (gC (.int 64))) (tgName 2) (gSeq (gSet 3 (gBin modV (gBin mulV (gBin addV (gBin addV (gBin modV (gVar 0) (gC (.int 2147483629))) (gBin mulV (gC (.int 7919)) (gVar 2))) (gC (.int 1))) (gC (.int 48271))) (gC (.int 2147483647))))
  (gSeq (gSet 3 (gBin modV (gBin addV (gBin addV (gBin mulV (gVar 3) (gVar 3)) (gBin mulV (gC (.int 69621)) (gVar 2))) (gC (.int 7))) (gC (.int 2147483587))))
  (gSet 1 (gBin addV (gBin mulV (gVar 1) (gC (.int 2147483587))) (gVar 3))))))
  (gRet (gNewE [(gVar 1)])))))
noncomputable def F__law_pot : Fn := fun xs st => allR (g__law_pot (begin 4 1 xs) st)
theorem fmod_pos {a b : Int} (h : 0 < b) : a.fmod b = a % b := Int.fmod_eq_emod_of_nonneg _ (by omega)
theorem fmod_sz {a b : Int} {n : Nat} (h : 0 < b) (hb : Sz n b) : Sz n (a.fmod b) := by
  rw [fmod_pos h]
  have h1 := Int.emod_nonneg a (show b ≠ 0 by omega)
  have h2 := Int.emod_lt_of_pos a h
  exact Sz.le hb (by omega)
noncomputable abbrev potTurn : GS := (gSeq (gSet 3 (gBin modV (gBin mulV (gBin addV (gBin addV (gBin modV (gVar 0) (gC (.int 2147483629))) (gBin mulV (gC (.int 7919)) (gVar 2))) (gC (.int 1))) (gC (.int 48271))) (gC (.int 2147483647))))
  (gSeq (gSet 3 (gBin modV (gBin addV (gBin addV (gBin mulV (gVar 3) (gVar 3)) (gBin mulV (gC (.int 69621)) (gVar 2))) (gC (.int 7))) (gC (.int 2147483587))))
  (gSet 1 (gBin addV (gBin mulV (gVar 1) (gC (.int 2147483587))) (gVar 3)))))
theorem sz_lit {n : Nat} {i : Int} (h : i.natAbs < 2 ^ n) : Sz n i := h
theorem pot_turn {c x : Int} {k a : Nat} {m : Option PV} {st : List SO} (hk : k < 64) (hx : Sz a x) (ha : a ≤ 100000) :
    ∃ y z, potTurn [some (.int c), some (.int x), some (.int (0 + (k : Nat))), m] st = .nx [some (.int c), some (.int y), some (.int (0 + (k : Nat))), some (.int z)] st ∧ Sz (a + 32) y := by
  have k7 : Sz 7 (0 + (k : Nat) : Int) := by unfold Sz; omega
  have q1 : Sz 31 (c.fmod 2147483629) := fmod_sz (by decide) (sz_lit (by decide))
  have m1 : MulOk 7919 (0 + (k : Nat)) := (sz_lit (n := 13) (by decide)).mulOk k7 (by omega)
  have q2 : Sz 34 (c.fmod 2147483629 + 7919 * (0 + (k : Nat)) + 1) := (((q1.mono (show 31 ≤ 32 by omega)).addm (((sz_lit (n := 13) (by decide)).mul k7).mono (by omega))).addm (sz_lit (by decide)))
  have m2 : MulOk (c.fmod 2147483629 + 7919 * (0 + (k : Nat)) + 1) 48271 := q2.mulOk (m := 16) (sz_lit (by decide)) (by omega)
  have q3 : Sz 31 (((c.fmod 2147483629 + 7919 * (0 + (k : Nat)) + 1) * 48271).fmod 2147483647) := fmod_sz (by decide) (sz_lit (by decide))
  have m3 := q3.mulOk q3 (by omega)
  have m4 : MulOk 69621 (0 + (k : Nat)) := (sz_lit (n := 17) (by decide)).mulOk k7 (by omega)
  have m5 : MulOk x 2147483587 := hx.mulOk (m := 31) (sz_lit (by decide)) (by omega)
  refine ⟨x * 2147483587 + (((c.fmod 2147483629 + 7919 * (0 + (k : Nat)) + 1) * 48271).fmod 2147483647 * ((c.fmod 2147483629 + 7919 * (0 + (k : Nat)) + 1) * 48271).fmod 2147483647 + 69621 * (0 + (k : Nat)) + 7).fmod 2147483587,
    (((c.fmod 2147483629 + 7919 * (0 + (k : Nat)) + 1) * 48271).fmod 2147483647 * ((c.fmod 2147483629 + 7919 * (0 + (k : Nat)) + 1) * 48271).fmod 2147483647 + 69621 * (0 + (k : Nat)) + 7).fmod 2147483587, ?_, ?_⟩
  · simp only [potTurn, gSlN_eq, slN_r, slN_l, slNK_s, gRevN_eq, revN_r, revNK_s, tupleV_r, tupleV_l, gCallV_eq, gLend_eq, isNotBV_b, gRep_eq, repR_r, gZip_eq, zipR_t, zipR_l, gTry_eq, tryK_nx, tryK_ret, begin_eq, allR_nx, allR_ret, allR_exc, gSkip_eq, gSeq_eq, seqK_nx, seqK_ret, seqK_exc, toS_ok, toS_exc, toST_ok, toST_exc, toSL_ok, toSL_exc, gRet_eq, gAsg_eq, gSet_eq, gExpr_eq, gIfS_eq, gRaise_eq, gBin_eq, gUn_eq, gVar_eq, slotR_some, gC_eq, gArgs_nil, gArgs_cons, gTupE_eq, gLstE_eq, gNewE_eq, gCall_eq, gBi_eq, gB_eq, asB_bl, gAnd_eq, gOr_eq, gNot_eq, gVT_eq, gIf_eq, gChain_eq, chK_t, chK_f, chK_b, bnd_ok, bnd_exc, oo_some, gTo_eq, toK_some, tgName_eq, tgNil_eq, tgCons_eq, tgTup_eq, bind_some, gPar_eq, gCat_eq, catR_r, listV_t, listV_l, blsOf_nil, blsOf_cons, allV_l, isNV_d, notNV_d, parK_ok, parK_exc, gStore_eq, stK_some, gMeth_eq, gFor_eq, gRng1_eq, asI_i, gItL_eq, gItT_eq, asLst_l, asTup_t, addV_ii, subV_ii, mulV_ii, fdivV_ii, modV_ii, shlV_ii, pw6, pw9, pw18, pw19, pw20, pw25, pw30, pw39, ltV_ii, leV_ii, gtV_ii, geV_ii, negV_i, isNV_n, isNV_t, isNV_l, isNV_i, isNV_s, isNV_r, isNV_b, notNV_n, notNV_t, notNV_l, notNV_i, notNV_s, notNV_r, notNV_b, ixV_t, ixV_l, ixV_r, lenV_t, lenV_l, lenV_r, absV_i, max2V_ii, min2V_ii, bitsV_i, setIV_r, setK_some, setL_some, appendM_r, appK_some, appN_ok, isT_r, isK_l, lstK_some, tyK_l, isT_s, isiV_eq, tyN_int, tyN_bl, tyN_non, tyN_str, tyN_tup, tyN_lst, tyN_dct, tyN_r, kk_int_bool, kitK_t, kk_int_str, kk_int_tuple, kk_int_list, kk_int_dict, kk_int_NoneType, kk_bool_int, kk_bool_str, kk_bool_tuple, kk_bool_list, kk_bool_dict, kk_bool_NoneType, kk_str_int, kk_str_bool, kk_str_tuple, kk_str_list, kk_str_dict, kk_str_NoneType, kk_tuple_int, kk_tuple_bool, kk_tuple_str, kk_tuple_list, kk_tuple_dict, kk_tuple_NoneType, kk_list_int, kk_list_bool, kk_list_str, kk_list_tuple, kk_list_dict, kk_list_NoneType, kk_dict_int, kk_dict_bool, kk_dict_str, kk_dict_tuple, kk_dict_list, kk_dict_NoneType, eqV_int, neV_int, isBV_b, neV_bl, eqV_bl, eqV_ii, neV_ii, isNV_fr, notNV_fr, ixV_fr0, ixV_fr1, eqV_fr, neV_fr, int1V_b, int1V_i, ixV_hp0, ixV_hp1, isNV_hp, eqV_hp, neV_hp, tyN_fr, lenV_fr, at0, at1, at2, at3, at4, at5, ixN0, ixN1, List.map_cons, List.map_nil, List.replicate, List.cons_append, List.nil_append, List.getElem?_cons_zero, List.getElem?_cons_succ, List.set_cons_zero, List.set_cons_succ, Bool.not_true, Bool.not_false, Bool.false_eq_true, if_true, if_false, ite_true, ite_false, reduceIte, Nat.reduceSub, Nat.reduceAdd, ne_eq, Int.cast_ofNat_Int, Int.reduceBEq, Int.reduceLT, Int.reduceLE, Int.reduceEq, Int.reduceNeg, Int.reduceMul, Int.reduceAdd, Int.reduceSub, decide_true, decide_false, List.length_cons, List.length_nil, beq_self_eq_true, not_false_eq_true, not_true_eq_false , gLenSet_eq, lsR_l, gCompN_eq, mkN_l, gCat2_eq, lstOf_l, insertM_r, extendM_r, gListRg_eq, gSlV_eq, slVK_s, gForM_eq, toSM_ok, gItM_eq, mkB_t, mkB_f, m1, m2, m3, m4, m5]
  · exact ((hx.mul (sz_lit (n := 31) (by decide))).addm ((fmod_sz (n := 31) (by decide) (sz_lit (by decide))).mono (by omega)))
theorem pot_loop {c : Int} : ∀ (ks : List Nat) (x : Int) (a : Nat) (m j : Option PV) (st : List SO), (∀ k ∈ ks, k < 64) → Sz a x → a + 32 * ks.length ≤ 100000 →
    ∃ (y : Int) (j' m' : Option PV), forg (tgName 2) potTurn (ks.map fun i => .int (0 + (i : Nat))) [some (.int c), some (.int x), j, m] st = .nx [some (.int c), some (.int y), j', m'] st
  | [], x, a, m, j, st, _, _, _ => ⟨x, j, m, rfl⟩
  | k :: ks, x, a, m, j, st, hk, hx, ha => by
    have ha' : a + 32 * (ks.length + 1) ≤ 100000 := ha
    obtain ⟨y, z, e, hy⟩ := pot_turn (c := c) (m := m) (st := st) (hk k List.mem_cons_self) hx (by omega)
    obtain ⟨y2, j2, m2, e2⟩ := pot_loop (c := c) ks y (a + 32) (some (.int z)) (some (.int (0 + (k : Nat)))) st (fun i hi => hk i (List.mem_cons_of_mem _ hi)) hy (by omega)
    refine ⟨y2, j2, m2, ?_⟩
    show (match tgName 2 (PV.int (0 + (k : Nat))) [some (.int c), some (.int x), j, m] with | some ρ1 => (match potTurn ρ1 st with | .nx ρ2 st2 => forg (tgName 2) potTurn (ks.map fun i => .int (0 + (i : Nat))) ρ2 st2 | r => r) | none => .bad) = _
    have e0 : tgName 2 (PV.int (0 + (k : Nat))) [some (.int c), some (.int x), j, m] = some [some (.int c), some (.int x), some (.int (0 + (k : Nat))), m] := rfl
    rw [e0]
    show (match potTurn [some (.int c), some (.int x), some (.int (0 + (k : Nat))), m] st with | .nx ρ2 st2 => forg (tgName 2) potTurn (ks.map fun i => .int (0 + (i : Nat))) ρ2 st2 | r => r) = _
    rw [e]
    exact e2
theorem pot_ok' {c : Int} {st : List SO} : ∃ n, F__law_pot [.int c] st = .ok (.ref st.length) (st ++ [.lst [.int n]]) := by
  obtain ⟨y, j', m', e⟩ := pot_loop (c := c) (List.range 64) 0 1 none none st (fun k hk => List.mem_range.mp hk) (sz_lit (by decide)) (by decide)
  have er : rng 0 64 = (List.range 64).map fun i => PV.int (0 + (i : Nat)) := rfl
  by_cases h : 1000000000000000000 ≤ c
  · exact ⟨c - 1000000000000000000, by simp only [F__law_pot, g__law_pot, gSlN_eq, slN_r, slN_l, slNK_s, gRevN_eq, revN_r, revNK_s, tupleV_r, tupleV_l, gCallV_eq, gLend_eq, isNotBV_b, gRep_eq, repR_r, gZip_eq, zipR_t, zipR_l, gTry_eq, tryK_nx, tryK_ret, begin_eq, allR_nx, allR_ret, allR_exc, gSkip_eq, gSeq_eq, seqK_nx, seqK_ret, seqK_exc, toS_ok, toS_exc, toST_ok, toST_exc, toSL_ok, toSL_exc, gRet_eq, gAsg_eq, gSet_eq, gExpr_eq, gIfS_eq, gRaise_eq, gBin_eq, gUn_eq, gVar_eq, slotR_some, gC_eq, gArgs_nil, gArgs_cons, gTupE_eq, gLstE_eq, gNewE_eq, gCall_eq, gBi_eq, gB_eq, asB_bl, gAnd_eq, gOr_eq, gNot_eq, gVT_eq, gIf_eq, gChain_eq, chK_t, chK_f, chK_b, bnd_ok, bnd_exc, oo_some, gTo_eq, toK_some, tgName_eq, tgNil_eq, tgCons_eq, tgTup_eq, bind_some, gPar_eq, gCat_eq, catR_r, listV_t, listV_l, blsOf_nil, blsOf_cons, allV_l, isNV_d, notNV_d, parK_ok, parK_exc, gStore_eq, stK_some, gMeth_eq, gFor_eq, gRng1_eq, asI_i, gItL_eq, gItT_eq, asLst_l, asTup_t, addV_ii, subV_ii, mulV_ii, fdivV_ii, modV_ii, shlV_ii, pw6, pw9, pw18, pw19, pw20, pw25, pw30, pw39, ltV_ii, leV_ii, gtV_ii, geV_ii, negV_i, isNV_n, isNV_t, isNV_l, isNV_i, isNV_s, isNV_r, isNV_b, notNV_n, notNV_t, notNV_l, notNV_i, notNV_s, notNV_r, notNV_b, ixV_t, ixV_l, ixV_r, lenV_t, lenV_l, lenV_r, absV_i, max2V_ii, min2V_ii, bitsV_i, setIV_r, setK_some, setL_some, appendM_r, appK_some, appN_ok, isT_r, isK_l, lstK_some, tyK_l, isT_s, isiV_eq, tyN_int, tyN_bl, tyN_non, tyN_str, tyN_tup, tyN_lst, tyN_dct, tyN_r, kk_int_bool, kitK_t, kk_int_str, kk_int_tuple, kk_int_list, kk_int_dict, kk_int_NoneType, kk_bool_int, kk_bool_str, kk_bool_tuple, kk_bool_list, kk_bool_dict, kk_bool_NoneType, kk_str_int, kk_str_bool, kk_str_tuple, kk_str_list, kk_str_dict, kk_str_NoneType, kk_tuple_int, kk_tuple_bool, kk_tuple_str, kk_tuple_list, kk_tuple_dict, kk_tuple_NoneType, kk_list_int, kk_list_bool, kk_list_str, kk_list_tuple, kk_list_dict, kk_list_NoneType, kk_dict_int, kk_dict_bool, kk_dict_str, kk_dict_tuple, kk_dict_list, kk_dict_NoneType, eqV_int, neV_int, isBV_b, neV_bl, eqV_bl, eqV_ii, neV_ii, isNV_fr, notNV_fr, ixV_fr0, ixV_fr1, eqV_fr, neV_fr, int1V_b, int1V_i, ixV_hp0, ixV_hp1, isNV_hp, eqV_hp, neV_hp, tyN_fr, lenV_fr, at0, at1, at2, at3, at4, at5, ixN0, ixN1, List.map_cons, List.map_nil, List.replicate, List.cons_append, List.nil_append, List.getElem?_cons_zero, List.getElem?_cons_succ, List.set_cons_zero, List.set_cons_succ, Bool.not_true, Bool.not_false, Bool.false_eq_true, if_true, if_false, ite_true, ite_false, reduceIte, Nat.reduceSub, Nat.reduceAdd, ne_eq, Int.cast_ofNat_Int, Int.reduceBEq, Int.reduceLT, Int.reduceLE, Int.reduceEq, Int.reduceNeg, Int.reduceMul, Int.reduceAdd, Int.reduceSub, decide_true, decide_false, List.length_cons, List.length_nil, beq_self_eq_true, not_false_eq_true, not_true_eq_false , gLenSet_eq, lsR_l, gCompN_eq, mkN_l, gCat2_eq, lstOf_l, insertM_r, extendM_r, gListRg_eq, gSlV_eq, slVK_s, gForM_eq, toSM_ok, gItM_eq, mkB_t, mkB_f, h]⟩
  · refine ⟨y, ?_⟩
    have r1 : RngOk 64 := ⟨by decide, by decide⟩
    have r3 : (64 : Int).toNat = 64 := rfl
    simp only [F__law_pot, g__law_pot, gSlN_eq, slN_r, slN_l, slNK_s, gRevN_eq, revN_r, revNK_s, tupleV_r, tupleV_l, gCallV_eq, gLend_eq, isNotBV_b, gRep_eq, repR_r, gZip_eq, zipR_t, zipR_l, gTry_eq, tryK_nx, tryK_ret, begin_eq, allR_nx, allR_ret, allR_exc, gSkip_eq, gSeq_eq, seqK_nx, seqK_ret, seqK_exc, toS_ok, toS_exc, toST_ok, toST_exc, toSL_ok, toSL_exc, gRet_eq, gAsg_eq, gSet_eq, gExpr_eq, gIfS_eq, gRaise_eq, gBin_eq, gUn_eq, gVar_eq, slotR_some, gC_eq, gArgs_nil, gArgs_cons, gTupE_eq, gLstE_eq, gNewE_eq, gCall_eq, gBi_eq, gB_eq, asB_bl, gAnd_eq, gOr_eq, gNot_eq, gVT_eq, gIf_eq, gChain_eq, chK_t, chK_f, chK_b, bnd_ok, bnd_exc, oo_some, gTo_eq, toK_some, tgName_eq, tgNil_eq, tgCons_eq, tgTup_eq, bind_some, gPar_eq, gCat_eq, catR_r, listV_t, listV_l, blsOf_nil, blsOf_cons, allV_l, isNV_d, notNV_d, parK_ok, parK_exc, gStore_eq, stK_some, gMeth_eq, gFor_eq, gRng1_eq, asI_i, gItL_eq, gItT_eq, asLst_l, asTup_t, addV_ii, subV_ii, mulV_ii, fdivV_ii, modV_ii, shlV_ii, pw6, pw9, pw18, pw19, pw20, pw25, pw30, pw39, ltV_ii, leV_ii, gtV_ii, geV_ii, negV_i, isNV_n, isNV_t, isNV_l, isNV_i, isNV_s, isNV_r, isNV_b, notNV_n, notNV_t, notNV_l, notNV_i, notNV_s, notNV_r, notNV_b, ixV_t, ixV_l, ixV_r, lenV_t, lenV_l, lenV_r, absV_i, max2V_ii, min2V_ii, bitsV_i, setIV_r, setK_some, setL_some, appendM_r, appK_some, appN_ok, isT_r, isK_l, lstK_some, tyK_l, isT_s, isiV_eq, tyN_int, tyN_bl, tyN_non, tyN_str, tyN_tup, tyN_lst, tyN_dct, tyN_r, kk_int_bool, kitK_t, kk_int_str, kk_int_tuple, kk_int_list, kk_int_dict, kk_int_NoneType, kk_bool_int, kk_bool_str, kk_bool_tuple, kk_bool_list, kk_bool_dict, kk_bool_NoneType, kk_str_int, kk_str_bool, kk_str_tuple, kk_str_list, kk_str_dict, kk_str_NoneType, kk_tuple_int, kk_tuple_bool, kk_tuple_str, kk_tuple_list, kk_tuple_dict, kk_tuple_NoneType, kk_list_int, kk_list_bool, kk_list_str, kk_list_tuple, kk_list_dict, kk_list_NoneType, kk_dict_int, kk_dict_bool, kk_dict_str, kk_dict_tuple, kk_dict_list, kk_dict_NoneType, eqV_int, neV_int, isBV_b, neV_bl, eqV_bl, eqV_ii, neV_ii, isNV_fr, notNV_fr, ixV_fr0, ixV_fr1, eqV_fr, neV_fr, int1V_b, int1V_i, ixV_hp0, ixV_hp1, isNV_hp, eqV_hp, neV_hp, tyN_fr, lenV_fr, at0, at1, at2, at3, at4, at5, ixN0, ixN1, List.map_cons, List.map_nil, List.replicate, List.cons_append, List.nil_append, List.getElem?_cons_zero, List.getElem?_cons_succ, List.set_cons_zero, List.set_cons_succ, Bool.not_true, Bool.not_false, Bool.false_eq_true, if_true, if_false, ite_true, ite_false, reduceIte, Nat.reduceSub, Nat.reduceAdd, ne_eq, Int.cast_ofNat_Int, Int.reduceBEq, Int.reduceLT, Int.reduceLE, Int.reduceEq, Int.reduceNeg, Int.reduceMul, Int.reduceAdd, Int.reduceSub, decide_true, decide_false, List.length_cons, List.length_nil, beq_self_eq_true, not_false_eq_true, not_true_eq_false , gLenSet_eq, lsR_l, gCompN_eq, mkN_l, gCat2_eq, lstOf_l, insertM_r, extendM_r, gListRg_eq, gSlV_eq, slVK_s, gForM_eq, toSM_ok, gItM_eq, mkB_t, mkB_f, h, gFor, gRng1_eq, asI_i, r1, r3, er]
    simp only [e, gSlN_eq, slN_r, slN_l, slNK_s, gRevN_eq, revN_r, revNK_s, tupleV_r, tupleV_l, gCallV_eq, gLend_eq, isNotBV_b, gRep_eq, repR_r, gZip_eq, zipR_t, zipR_l, gTry_eq, tryK_nx, tryK_ret, begin_eq, allR_nx, allR_ret, allR_exc, gSkip_eq, gSeq_eq, seqK_nx, seqK_ret, seqK_exc, toS_ok, toS_exc, toST_ok, toST_exc, toSL_ok, toSL_exc, gRet_eq, gAsg_eq, gSet_eq, gExpr_eq, gIfS_eq, gRaise_eq, gBin_eq, gUn_eq, gVar_eq, slotR_some, gC_eq, gArgs_nil, gArgs_cons, gTupE_eq, gLstE_eq, gNewE_eq, gCall_eq, gBi_eq, gB_eq, asB_bl, gAnd_eq, gOr_eq, gNot_eq, gVT_eq, gIf_eq, gChain_eq, chK_t, chK_f, chK_b, bnd_ok, bnd_exc, oo_some, gTo_eq, toK_some, tgName_eq, tgNil_eq, tgCons_eq, tgTup_eq, bind_some, gPar_eq, gCat_eq, catR_r, listV_t, listV_l, blsOf_nil, blsOf_cons, allV_l, isNV_d, notNV_d, parK_ok, parK_exc, gStore_eq, stK_some, gMeth_eq, gFor_eq, gRng1_eq, asI_i, gItL_eq, gItT_eq, asLst_l, asTup_t, addV_ii, subV_ii, mulV_ii, fdivV_ii, modV_ii, shlV_ii, pw6, pw9, pw18, pw19, pw20, pw25, pw30, pw39, ltV_ii, leV_ii, gtV_ii, geV_ii, negV_i, isNV_n, isNV_t, isNV_l, isNV_i, isNV_s, isNV_r, isNV_b, notNV_n, notNV_t, notNV_l, notNV_i, notNV_s, notNV_r, notNV_b, ixV_t, ixV_l, ixV_r, lenV_t, lenV_l, lenV_r, absV_i, max2V_ii, min2V_ii, bitsV_i, setIV_r, setK_some, setL_some, appendM_r, appK_some, appN_ok, isT_r, isK_l, lstK_some, tyK_l, isT_s, isiV_eq, tyN_int, tyN_bl, tyN_non, tyN_str, tyN_tup, tyN_lst, tyN_dct, tyN_r, kk_int_bool, kitK_t, kk_int_str, kk_int_tuple, kk_int_list, kk_int_dict, kk_int_NoneType, kk_bool_int, kk_bool_str, kk_bool_tuple, kk_bool_list, kk_bool_dict, kk_bool_NoneType, kk_str_int, kk_str_bool, kk_str_tuple, kk_str_list, kk_str_dict, kk_str_NoneType, kk_tuple_int, kk_tuple_bool, kk_tuple_str, kk_tuple_list, kk_tuple_dict, kk_tuple_NoneType, kk_list_int, kk_list_bool, kk_list_str, kk_list_tuple, kk_list_dict, kk_list_NoneType, kk_dict_int, kk_dict_bool, kk_dict_str, kk_dict_tuple, kk_dict_list, kk_dict_NoneType, eqV_int, neV_int, isBV_b, neV_bl, eqV_bl, eqV_ii, neV_ii, isNV_fr, notNV_fr, ixV_fr0, ixV_fr1, eqV_fr, neV_fr, int1V_b, int1V_i, ixV_hp0, ixV_hp1, isNV_hp, eqV_hp, neV_hp, tyN_fr, lenV_fr, at0, at1, at2, at3, at4, at5, ixN0, ixN1, List.map_cons, List.map_nil, List.replicate, List.cons_append, List.nil_append, List.getElem?_cons_zero, List.getElem?_cons_succ, List.set_cons_zero, List.set_cons_succ, Bool.not_true, Bool.not_false, Bool.false_eq_true, if_true, if_false, ite_true, ite_false, reduceIte, Nat.reduceSub, Nat.reduceAdd, ne_eq, Int.cast_ofNat_Int, Int.reduceBEq, Int.reduceLT, Int.reduceLE, Int.reduceEq, Int.reduceNeg, Int.reduceMul, Int.reduceAdd, Int.reduceSub, decide_true, decide_false, List.length_cons, List.length_nil, beq_self_eq_true, not_false_eq_true, not_true_eq_false , gLenSet_eq, lsR_l, gCompN_eq, mkN_l, gCat2_eq, lstOf_l, insertM_r, extendM_r, gListRg_eq, gSlV_eq, slVK_s, gForM_eq, toSM_ok, gItM_eq, mkB_t, mkB_f]
theorem pot_ok (c : Int) (st : List SO) : ∃ n, F__law_pot [.int c] st = .ok (.ref st.length) (PS (st ++ [.lst []]) st.length n) := by
  obtain ⟨n, e⟩ := pot_ok' (c := c) (st := st)
  exact ⟨n, by rw [e, PS_new]⟩

noncomputable def g__law_cell_at : GS :=
  (gSeq (gIfS (gB (gBin ltV (gVar 1) (gBi lenV [(gVar 0)]))) (gRet (gBin ixV (gVar 0) (gVar 1))) gSkip)
  (gRet (gC (.int 0))))
noncomputable def F__law_cell_at : Fn := fun xs st => allR (g__law_cell_at (begin 2 2 xs) st)
theorem cell_ok {ns : List Int} {k : Nat} {st : List SO} : ∃ z, F__law_cell_at [.lst (ns.map .int), .int k] st = .ok (.int z) st := by
  by_cases h : k < ns.length
  · refine ⟨ns[k], ?_⟩
    have hk : (k : Int) < ((ns.map PV.int).length : Nat) := by rw [List.length_map]; omega
    have e : atI (ns.map PV.int) (k : Int) = some (.int ns[k]) := atN (by rw [List.getElem?_map]; simp [h])
    simp only [F__law_cell_at, g__law_cell_at, gSlN_eq, slN_r, slN_l, slNK_s, gRevN_eq, revN_r, revNK_s, tupleV_r, tupleV_l, gCallV_eq, gLend_eq, isNotBV_b, gRep_eq, repR_r, gZip_eq, zipR_t, zipR_l, gTry_eq, tryK_nx, tryK_ret, begin_eq, allR_nx, allR_ret, allR_exc, gSkip_eq, gSeq_eq, seqK_nx, seqK_ret, seqK_exc, toS_ok, toS_exc, toST_ok, toST_exc, toSL_ok, toSL_exc, gRet_eq, gAsg_eq, gSet_eq, gExpr_eq, gIfS_eq, gRaise_eq, gBin_eq, gUn_eq, gVar_eq, slotR_some, gC_eq, gArgs_nil, gArgs_cons, gTupE_eq, gLstE_eq, gNewE_eq, gCall_eq, gBi_eq, gB_eq, asB_bl, gAnd_eq, gOr_eq, gNot_eq, gVT_eq, gIf_eq, gChain_eq, chK_t, chK_f, chK_b, bnd_ok, bnd_exc, oo_some, gTo_eq, toK_some, tgName_eq, tgNil_eq, tgCons_eq, tgTup_eq, bind_some, gPar_eq, gCat_eq, catR_r, listV_t, listV_l, blsOf_nil, blsOf_cons, allV_l, isNV_d, notNV_d, parK_ok, parK_exc, gStore_eq, stK_some, gMeth_eq, gFor_eq, gRng1_eq, asI_i, gItL_eq, gItT_eq, asLst_l, asTup_t, addV_ii, subV_ii, mulV_ii, fdivV_ii, modV_ii, shlV_ii, pw6, pw9, pw18, pw19, pw20, pw25, pw30, pw39, ltV_ii, leV_ii, gtV_ii, geV_ii, negV_i, isNV_n, isNV_t, isNV_l, isNV_i, isNV_s, isNV_r, isNV_b, notNV_n, notNV_t, notNV_l, notNV_i, notNV_s, notNV_r, notNV_b, ixV_t, ixV_l, ixV_r, lenV_t, lenV_l, lenV_r, absV_i, max2V_ii, min2V_ii, bitsV_i, setIV_r, setK_some, setL_some, appendM_r, appK_some, appN_ok, isT_r, isK_l, lstK_some, tyK_l, isT_s, isiV_eq, tyN_int, tyN_bl, tyN_non, tyN_str, tyN_tup, tyN_lst, tyN_dct, tyN_r, kk_int_bool, kitK_t, kk_int_str, kk_int_tuple, kk_int_list, kk_int_dict, kk_int_NoneType, kk_bool_int, kk_bool_str, kk_bool_tuple, kk_bool_list, kk_bool_dict, kk_bool_NoneType, kk_str_int, kk_str_bool, kk_str_tuple, kk_str_list, kk_str_dict, kk_str_NoneType, kk_tuple_int, kk_tuple_bool, kk_tuple_str, kk_tuple_list, kk_tuple_dict, kk_tuple_NoneType, kk_list_int, kk_list_bool, kk_list_str, kk_list_tuple, kk_list_dict, kk_list_NoneType, kk_dict_int, kk_dict_bool, kk_dict_str, kk_dict_tuple, kk_dict_list, kk_dict_NoneType, eqV_int, neV_int, isBV_b, neV_bl, eqV_bl, eqV_ii, neV_ii, isNV_fr, notNV_fr, ixV_fr0, ixV_fr1, eqV_fr, neV_fr, int1V_b, int1V_i, ixV_hp0, ixV_hp1, isNV_hp, eqV_hp, neV_hp, tyN_fr, lenV_fr, at0, at1, at2, at3, at4, at5, ixN0, ixN1, List.map_cons, List.map_nil, List.replicate, List.cons_append, List.nil_append, List.getElem?_cons_zero, List.getElem?_cons_succ, List.set_cons_zero, List.set_cons_succ, Bool.not_true, Bool.not_false, Bool.false_eq_true, if_true, if_false, ite_true, ite_false, reduceIte, Nat.reduceSub, Nat.reduceAdd, ne_eq, Int.cast_ofNat_Int, Int.reduceBEq, Int.reduceLT, Int.reduceLE, Int.reduceEq, Int.reduceNeg, Int.reduceMul, Int.reduceAdd, Int.reduceSub, decide_true, decide_false, List.length_cons, List.length_nil, beq_self_eq_true, not_false_eq_true, not_true_eq_false , gLenSet_eq, lsR_l, gCompN_eq, mkN_l, gCat2_eq, lstOf_l, insertM_r, extendM_r, gListRg_eq, gSlV_eq, slVK_s, gForM_eq, toSM_ok, gItM_eq, mkB_t, mkB_f, hk, decide_true, e]
  · refine ⟨0, ?_⟩
    have hk : ¬ (k : Int) < ((ns.map PV.int).length : Nat) := by rw [List.length_map]; omega
    simp only [F__law_cell_at, g__law_cell_at, gSlN_eq, slN_r, slN_l, slNK_s, gRevN_eq, revN_r, revNK_s, tupleV_r, tupleV_l, gCallV_eq, gLend_eq, isNotBV_b, gRep_eq, repR_r, gZip_eq, zipR_t, zipR_l, gTry_eq, tryK_nx, tryK_ret, begin_eq, allR_nx, allR_ret, allR_exc, gSkip_eq, gSeq_eq, seqK_nx, seqK_ret, seqK_exc, toS_ok, toS_exc, toST_ok, toST_exc, toSL_ok, toSL_exc, gRet_eq, gAsg_eq, gSet_eq, gExpr_eq, gIfS_eq, gRaise_eq, gBin_eq, gUn_eq, gVar_eq, slotR_some, gC_eq, gArgs_nil, gArgs_cons, gTupE_eq, gLstE_eq, gNewE_eq, gCall_eq, gBi_eq, gB_eq, asB_bl, gAnd_eq, gOr_eq, gNot_eq, gVT_eq, gIf_eq, gChain_eq, chK_t, chK_f, chK_b, bnd_ok, bnd_exc, oo_some, gTo_eq, toK_some, tgName_eq, tgNil_eq, tgCons_eq, tgTup_eq, bind_some, gPar_eq, gCat_eq, catR_r, listV_t, listV_l, blsOf_nil, blsOf_cons, allV_l, isNV_d, notNV_d, parK_ok, parK_exc, gStore_eq, stK_some, gMeth_eq, gFor_eq, gRng1_eq, asI_i, gItL_eq, gItT_eq, asLst_l, asTup_t, addV_ii, subV_ii, mulV_ii, fdivV_ii, modV_ii, shlV_ii, pw6, pw9, pw18, pw19, pw20, pw25, pw30, pw39, ltV_ii, leV_ii, gtV_ii, geV_ii, negV_i, isNV_n, isNV_t, isNV_l, isNV_i, isNV_s, isNV_r, isNV_b, notNV_n, notNV_t, notNV_l, notNV_i, notNV_s, notNV_r, notNV_b, ixV_t, ixV_l, ixV_r, lenV_t, lenV_l, lenV_r, absV_i, max2V_ii, min2V_ii, bitsV_i, setIV_r, setK_some, setL_some, appendM_r, appK_some, appN_ok, isT_r, isK_l, lstK_some, tyK_l, isT_s, isiV_eq, tyN_int, tyN_bl, tyN_non, tyN_str, tyN_tup, tyN_lst, tyN_dct, tyN_r, kk_int_bool, kitK_t, kk_int_str, kk_int_tuple, kk_int_list, kk_int_dict, kk_int_NoneType, kk_bool_int, kk_bool_str, kk_bool_tuple, kk_bool_list, kk_bool_dict, kk_bool_NoneType, kk_str_int, kk_str_bool, kk_str_tuple, kk_str_list, kk_str_dict, kk_str_NoneType, kk_tuple_int, kk_tuple_bool, kk_tuple_str, kk_tuple_list, kk_tuple_dict, kk_tuple_NoneType, kk_list_int, kk_list_bool, kk_list_str, kk_list_tuple, kk_list_dict, kk_list_NoneType, kk_dict_int, kk_dict_bool, kk_dict_str, kk_dict_tuple, kk_dict_list, kk_dict_NoneType, eqV_int, neV_int, isBV_b, neV_bl, eqV_bl, eqV_ii, neV_ii, isNV_fr, notNV_fr, ixV_fr0, ixV_fr1, eqV_fr, neV_fr, int1V_b, int1V_i, ixV_hp0, ixV_hp1, isNV_hp, eqV_hp, neV_hp, tyN_fr, lenV_fr, at0, at1, at2, at3, at4, at5, ixN0, ixN1, List.map_cons, List.map_nil, List.replicate, List.cons_append, List.nil_append, List.getElem?_cons_zero, List.getElem?_cons_succ, List.set_cons_zero, List.set_cons_succ, Bool.not_true, Bool.not_false, Bool.false_eq_true, if_true, if_false, ite_true, ite_false, reduceIte, Nat.reduceSub, Nat.reduceAdd, ne_eq, Int.cast_ofNat_Int, Int.reduceBEq, Int.reduceLT, Int.reduceLE, Int.reduceEq, Int.reduceNeg, Int.reduceMul, Int.reduceAdd, Int.reduceSub, decide_true, decide_false, List.length_cons, List.length_nil, beq_self_eq_true, not_false_eq_true, not_true_eq_false , gLenSet_eq, lsR_l, gCompN_eq, mkN_l, gCat2_eq, lstOf_l, insertM_r, extendM_r, gListRg_eq, gSlV_eq, slVK_s, gForM_eq, toSM_ok, gItM_eq, mkB_t, mkB_f, hk, decide_false]

noncomputable def g__law_less (F__law_fr : Fn) : GS :=
  (gRet (gCall F__law_fr [(gBin subV (gBin mulV (gBin ixV (gVar 0) (gC (.int 0))) (gBin ixV (gVar 1) (gC (.int 1)))) (gBin mulV (gBin ixV (gVar 1) (gC (.int 0))) (gBin ixV (gVar 0) (gC (.int 1))))), (gBin mulV (gBin ixV (gVar 0) (gC (.int 1))) (gBin ixV (gVar 1) (gC (.int 1))))]))
noncomputable def F__law_less : Fn := fun xs st => allR (g__law_less F__law_fr (begin 2 2 xs) st)
theorem lless_ok {n : Nat} {q r : Rat} {st : List SO} (hq : RS n q) (hr : RS n r) (hn : n ≤ 4000) : F__law_less [fr q, fr r] st = .ok (fr (q - r)) st := by
  have m1 : MulOk q.num r.den := hq.1.mulOk hr.den (by omega)
  have m2 : MulOk r.num q.den := hr.1.mulOk hq.den (by omega)
  have m3 : MulOk (q.den : Int) r.den := hq.den.mulOk hr.den (by omega)
  have d0 : (q.den * r.den : Int) ≠ 0 := Int.mul_ne_zero (den0 q) (den0 r)
  have e := lfr_ok (st := st) (t := q.num * r.den - r.num * q.den) d0 (hq.den.mul hr.den) (by omega)
  rw [sub_eq] at e
  simp only [fr] at e
  simp only [F__law_less, g__law_less, gSlN_eq, slN_r, slN_l, slNK_s, gRevN_eq, revN_r, revNK_s, tupleV_r, tupleV_l, gCallV_eq, gLend_eq, isNotBV_b, gRep_eq, repR_r, gZip_eq, zipR_t, zipR_l, gTry_eq, tryK_nx, tryK_ret, begin_eq, allR_nx, allR_ret, allR_exc, gSkip_eq, gSeq_eq, seqK_nx, seqK_ret, seqK_exc, toS_ok, toS_exc, toST_ok, toST_exc, toSL_ok, toSL_exc, gRet_eq, gAsg_eq, gSet_eq, gExpr_eq, gIfS_eq, gRaise_eq, gBin_eq, gUn_eq, gVar_eq, slotR_some, gC_eq, gArgs_nil, gArgs_cons, gTupE_eq, gLstE_eq, gNewE_eq, gCall_eq, gBi_eq, gB_eq, asB_bl, gAnd_eq, gOr_eq, gNot_eq, gVT_eq, gIf_eq, gChain_eq, chK_t, chK_f, chK_b, bnd_ok, bnd_exc, oo_some, gTo_eq, toK_some, tgName_eq, tgNil_eq, tgCons_eq, tgTup_eq, bind_some, gPar_eq, gCat_eq, catR_r, listV_t, listV_l, blsOf_nil, blsOf_cons, allV_l, isNV_d, notNV_d, parK_ok, parK_exc, gStore_eq, stK_some, gMeth_eq, gFor_eq, gRng1_eq, asI_i, gItL_eq, gItT_eq, asLst_l, asTup_t, addV_ii, subV_ii, mulV_ii, fdivV_ii, modV_ii, shlV_ii, pw6, pw9, pw18, pw19, pw20, pw25, pw30, pw39, ltV_ii, leV_ii, gtV_ii, geV_ii, negV_i, isNV_n, isNV_t, isNV_l, isNV_i, isNV_s, isNV_r, isNV_b, notNV_n, notNV_t, notNV_l, notNV_i, notNV_s, notNV_r, notNV_b, ixV_t, ixV_l, ixV_r, lenV_t, lenV_l, lenV_r, absV_i, max2V_ii, min2V_ii, bitsV_i, setIV_r, setK_some, setL_some, appendM_r, appK_some, appN_ok, isT_r, isK_l, lstK_some, tyK_l, isT_s, isiV_eq, tyN_int, tyN_bl, tyN_non, tyN_str, tyN_tup, tyN_lst, tyN_dct, tyN_r, kk_int_bool, kitK_t, kk_int_str, kk_int_tuple, kk_int_list, kk_int_dict, kk_int_NoneType, kk_bool_int, kk_bool_str, kk_bool_tuple, kk_bool_list, kk_bool_dict, kk_bool_NoneType, kk_str_int, kk_str_bool, kk_str_tuple, kk_str_list, kk_str_dict, kk_str_NoneType, kk_tuple_int, kk_tuple_bool, kk_tuple_str, kk_tuple_list, kk_tuple_dict, kk_tuple_NoneType, kk_list_int, kk_list_bool, kk_list_str, kk_list_tuple, kk_list_dict, kk_list_NoneType, kk_dict_int, kk_dict_bool, kk_dict_str, kk_dict_tuple, kk_dict_list, kk_dict_NoneType, eqV_int, neV_int, isBV_b, neV_bl, eqV_bl, eqV_ii, neV_ii, isNV_fr, notNV_fr, ixV_fr0, ixV_fr1, eqV_fr, neV_fr, int1V_b, int1V_i, ixV_hp0, ixV_hp1, isNV_hp, eqV_hp, neV_hp, tyN_fr, lenV_fr, at0, at1, at2, at3, at4, at5, ixN0, ixN1, List.map_cons, List.map_nil, List.replicate, List.cons_append, List.nil_append, List.getElem?_cons_zero, List.getElem?_cons_succ, List.set_cons_zero, List.set_cons_succ, Bool.not_true, Bool.not_false, Bool.false_eq_true, if_true, if_false, ite_true, ite_false, reduceIte, Nat.reduceSub, Nat.reduceAdd, ne_eq, Int.cast_ofNat_Int, Int.reduceBEq, Int.reduceLT, Int.reduceLE, Int.reduceEq, Int.reduceNeg, Int.reduceMul, Int.reduceAdd, Int.reduceSub, decide_true, decide_false, List.length_cons, List.length_nil, beq_self_eq_true, not_false_eq_true, not_true_eq_false , gLenSet_eq, lsR_l, gCompN_eq, mkN_l, gCat2_eq, lstOf_l, insertM_r, extendM_r, gListRg_eq, gSlV_eq, slVK_s, gForM_eq, toSM_ok, gItM_eq, mkB_t, mkB_f, fr, m1, m2, m3, e]

noncomputable def g__law_below : GS :=
  (gRet (gBin ltV (gBin mulV (gBin ixV (gVar 0) (gC (.int 0))) (gBin ixV (gVar 1) (gC (.int 1)))) (gBin mulV (gBin ixV (gVar 1) (gC (.int 0))) (gBin ixV (gVar 0) (gC (.int 1))))))
noncomputable def F__law_below : Fn := fun xs st => allR (g__law_below (begin 2 2 xs) st)
theorem lbelow_ok {n : Nat} {q r : Rat} {st : List SO} (hq : RS n q) (hr : RS n r) (hn : n ≤ 4000) : F__law_below [fr q, fr r] st = .ok (.bl (decide (q < r))) st := by
  have m1 : MulOk q.num r.den := hq.1.mulOk hr.den (by omega)
  have m2 : MulOk r.num q.den := hr.1.mulOk hq.den (by omega)
  simp only [F__law_below, g__law_below, gSlN_eq, slN_r, slN_l, slNK_s, gRevN_eq, revN_r, revNK_s, tupleV_r, tupleV_l, gCallV_eq, gLend_eq, isNotBV_b, gRep_eq, repR_r, gZip_eq, zipR_t, zipR_l, gTry_eq, tryK_nx, tryK_ret, begin_eq, allR_nx, allR_ret, allR_exc, gSkip_eq, gSeq_eq, seqK_nx, seqK_ret, seqK_exc, toS_ok, toS_exc, toST_ok, toST_exc, toSL_ok, toSL_exc, gRet_eq, gAsg_eq, gSet_eq, gExpr_eq, gIfS_eq, gRaise_eq, gBin_eq, gUn_eq, gVar_eq, slotR_some, gC_eq, gArgs_nil, gArgs_cons, gTupE_eq, gLstE_eq, gNewE_eq, gCall_eq, gBi_eq, gB_eq, asB_bl, gAnd_eq, gOr_eq, gNot_eq, gVT_eq, gIf_eq, gChain_eq, chK_t, chK_f, chK_b, bnd_ok, bnd_exc, oo_some, gTo_eq, toK_some, tgName_eq, tgNil_eq, tgCons_eq, tgTup_eq, bind_some, gPar_eq, gCat_eq, catR_r, listV_t, listV_l, blsOf_nil, blsOf_cons, allV_l, isNV_d, notNV_d, parK_ok, parK_exc, gStore_eq, stK_some, gMeth_eq, gFor_eq, gRng1_eq, asI_i, gItL_eq, gItT_eq, asLst_l, asTup_t, addV_ii, subV_ii, mulV_ii, fdivV_ii, modV_ii, shlV_ii, pw6, pw9, pw18, pw19, pw20, pw25, pw30, pw39, ltV_ii, leV_ii, gtV_ii, geV_ii, negV_i, isNV_n, isNV_t, isNV_l, isNV_i, isNV_s, isNV_r, isNV_b, notNV_n, notNV_t, notNV_l, notNV_i, notNV_s, notNV_r, notNV_b, ixV_t, ixV_l, ixV_r, lenV_t, lenV_l, lenV_r, absV_i, max2V_ii, min2V_ii, bitsV_i, setIV_r, setK_some, setL_some, appendM_r, appK_some, appN_ok, isT_r, isK_l, lstK_some, tyK_l, isT_s, isiV_eq, tyN_int, tyN_bl, tyN_non, tyN_str, tyN_tup, tyN_lst, tyN_dct, tyN_r, kk_int_bool, kitK_t, kk_int_str, kk_int_tuple, kk_int_list, kk_int_dict, kk_int_NoneType, kk_bool_int, kk_bool_str, kk_bool_tuple, kk_bool_list, kk_bool_dict, kk_bool_NoneType, kk_str_int, kk_str_bool, kk_str_tuple, kk_str_list, kk_str_dict, kk_str_NoneType, kk_tuple_int, kk_tuple_bool, kk_tuple_str, kk_tuple_list, kk_tuple_dict, kk_tuple_NoneType, kk_list_int, kk_list_bool, kk_list_str, kk_list_tuple, kk_list_dict, kk_list_NoneType, kk_dict_int, kk_dict_bool, kk_dict_str, kk_dict_tuple, kk_dict_list, kk_dict_NoneType, eqV_int, neV_int, isBV_b, neV_bl, eqV_bl, eqV_ii, neV_ii, isNV_fr, notNV_fr, ixV_fr0, ixV_fr1, eqV_fr, neV_fr, int1V_b, int1V_i, ixV_hp0, ixV_hp1, isNV_hp, eqV_hp, neV_hp, tyN_fr, lenV_fr, at0, at1, at2, at3, at4, at5, ixN0, ixN1, List.map_cons, List.map_nil, List.replicate, List.cons_append, List.nil_append, List.getElem?_cons_zero, List.getElem?_cons_succ, List.set_cons_zero, List.set_cons_succ, Bool.not_true, Bool.not_false, Bool.false_eq_true, if_true, if_false, ite_true, ite_false, reduceIte, Nat.reduceSub, Nat.reduceAdd, ne_eq, Int.cast_ofNat_Int, Int.reduceBEq, Int.reduceLT, Int.reduceLE, Int.reduceEq, Int.reduceNeg, Int.reduceMul, Int.reduceAdd, Int.reduceSub, decide_true, decide_false, List.length_cons, List.length_nil, beq_self_eq_true, not_false_eq_true, not_true_eq_false , gLenSet_eq, lsR_l, gCompN_eq, mkN_l, gCat2_eq, lstOf_l, insertM_r, extendM_r, gListRg_eq, gSlV_eq, slVK_s, gForM_eq, toSM_ok, gItM_eq, mkB_t, mkB_f, fr, m1, m2, lt_eq]

noncomputable def g__law_later (F__law_less : Fn) (F__law_below : Fn) : GS :=
  (gSeq (gSet 2 (gCall F__law_less [(gBin ixV (gVar 1) (gC (.int 0))), (gBin ixV (gVar 0) (gC (.int 0)))]))
  (gSeq (gSet 3 (gCall F__law_less [(gBin ixV (gVar 1) (gC (.int 1))), (gBin ixV (gVar 0) (gC (.int 1)))]))
  (gRet (gVT (gAnd (gB (gBin neV (gVar 0) (gVar 1))) (gB (gVT (gNot (gB (gCall F__law_below [(gVar 2), (gTupE [(gBi absV [(gBin ixV (gVar 3) (gC (.int 0)))]), (gBin ixV (gVar 3) (gC (.int 1)))])]))))))))))
noncomputable def F__law_later : Fn := fun xs st => allR (g__law_later F__law_less F__law_below (begin 4 2 xs) st)
theorem llater_ok {n : Nat} {h k : Rat × Rat} {st : List SO} (a : HR n h) (b : HR n k) (hn : n ≤ 1000) : F__law_later [hq h, hq k] st = .ok (.bl (rch h k)) st := by
  have i0 : ∀ h : Rat × Rat, ixV st (hq h) (.int 0) = some (fr h.1) := fun h => ixV_hp0
  have i1 : ∀ h : Rat × Rat, ixV st (hq h) (.int 1) = some (fr h.2) := fun h => ixV_hp1
  have e1 := lless_ok (st := st) b.t a.t (by omega)
  have e2 := lless_ok (st := st) b.x a.x (by omega)
  have rt := b.t.sub a.t
  have rx := b.x.sub a.x
  have e3 := lbelow_ok (st := st) rt rx.ab (by omega)
  have ea := ab_fr (k.2 - h.2)
  have ne : neV st (hq h) (hq k) = some (.bl (!decide (h.1 = k.1 ∧ h.2 = k.2))) := neV_hp
  rw [rch_eq]
  cases c : decide (h.1 = k.1 ∧ h.2 = k.2) with
  | true => rw [c] at ne; simp only [F__law_later, g__law_later, gSlN_eq, slN_r, slN_l, slNK_s, gRevN_eq, revN_r, revNK_s, tupleV_r, tupleV_l, gCallV_eq, gLend_eq, isNotBV_b, gRep_eq, repR_r, gZip_eq, zipR_t, zipR_l, gTry_eq, tryK_nx, tryK_ret, begin_eq, allR_nx, allR_ret, allR_exc, gSkip_eq, gSeq_eq, seqK_nx, seqK_ret, seqK_exc, toS_ok, toS_exc, toST_ok, toST_exc, toSL_ok, toSL_exc, gRet_eq, gAsg_eq, gSet_eq, gExpr_eq, gIfS_eq, gRaise_eq, gBin_eq, gUn_eq, gVar_eq, slotR_some, gC_eq, gArgs_nil, gArgs_cons, gTupE_eq, gLstE_eq, gNewE_eq, gCall_eq, gBi_eq, gB_eq, asB_bl, gAnd_eq, gOr_eq, gNot_eq, gVT_eq, gIf_eq, gChain_eq, chK_t, chK_f, chK_b, bnd_ok, bnd_exc, oo_some, gTo_eq, toK_some, tgName_eq, tgNil_eq, tgCons_eq, tgTup_eq, bind_some, gPar_eq, gCat_eq, catR_r, listV_t, listV_l, blsOf_nil, blsOf_cons, allV_l, isNV_d, notNV_d, parK_ok, parK_exc, gStore_eq, stK_some, gMeth_eq, gFor_eq, gRng1_eq, asI_i, gItL_eq, gItT_eq, asLst_l, asTup_t, addV_ii, subV_ii, mulV_ii, fdivV_ii, modV_ii, shlV_ii, pw6, pw9, pw18, pw19, pw20, pw25, pw30, pw39, ltV_ii, leV_ii, gtV_ii, geV_ii, negV_i, isNV_n, isNV_t, isNV_l, isNV_i, isNV_s, isNV_r, isNV_b, notNV_n, notNV_t, notNV_l, notNV_i, notNV_s, notNV_r, notNV_b, ixV_t, ixV_l, ixV_r, lenV_t, lenV_l, lenV_r, absV_i, max2V_ii, min2V_ii, bitsV_i, setIV_r, setK_some, setL_some, appendM_r, appK_some, appN_ok, isT_r, isK_l, lstK_some, tyK_l, isT_s, isiV_eq, tyN_int, tyN_bl, tyN_non, tyN_str, tyN_tup, tyN_lst, tyN_dct, tyN_r, kk_int_bool, kitK_t, kk_int_str, kk_int_tuple, kk_int_list, kk_int_dict, kk_int_NoneType, kk_bool_int, kk_bool_str, kk_bool_tuple, kk_bool_list, kk_bool_dict, kk_bool_NoneType, kk_str_int, kk_str_bool, kk_str_tuple, kk_str_list, kk_str_dict, kk_str_NoneType, kk_tuple_int, kk_tuple_bool, kk_tuple_str, kk_tuple_list, kk_tuple_dict, kk_tuple_NoneType, kk_list_int, kk_list_bool, kk_list_str, kk_list_tuple, kk_list_dict, kk_list_NoneType, kk_dict_int, kk_dict_bool, kk_dict_str, kk_dict_tuple, kk_dict_list, kk_dict_NoneType, eqV_int, neV_int, isBV_b, neV_bl, eqV_bl, eqV_ii, neV_ii, isNV_fr, notNV_fr, ixV_fr0, ixV_fr1, eqV_fr, neV_fr, int1V_b, int1V_i, ixV_hp0, ixV_hp1, isNV_hp, eqV_hp, neV_hp, tyN_fr, lenV_fr, at0, at1, at2, at3, at4, at5, ixN0, ixN1, List.map_cons, List.map_nil, List.replicate, List.cons_append, List.nil_append, List.getElem?_cons_zero, List.getElem?_cons_succ, List.set_cons_zero, List.set_cons_succ, Bool.not_true, Bool.not_false, Bool.false_eq_true, if_true, if_false, ite_true, ite_false, reduceIte, Nat.reduceSub, Nat.reduceAdd, ne_eq, Int.cast_ofNat_Int, Int.reduceBEq, Int.reduceLT, Int.reduceLE, Int.reduceEq, Int.reduceNeg, Int.reduceMul, Int.reduceAdd, Int.reduceSub, decide_true, decide_false, List.length_cons, List.length_nil, beq_self_eq_true, not_false_eq_true, not_true_eq_false , gLenSet_eq, lsR_l, gCompN_eq, mkN_l, gCat2_eq, lstOf_l, insertM_r, extendM_r, gListRg_eq, gSlV_eq, slVK_s, gForM_eq, toSM_ok, gItM_eq, mkB_t, mkB_f, i0, i1, e1, e2, ne, Bool.false_and]
  | false =>
    rw [c] at ne
    have x0 : ixV st (fr (k.2 - h.2)) (.int 0) = some (.int (k.2 - h.2).num) := ixV_fr0
    have x1 : ixV st (fr (k.2 - h.2)) (.int 1) = some (.int (k.2 - h.2).den) := ixV_fr1
    simp only [F__law_later, g__law_later, gSlN_eq, slN_r, slN_l, slNK_s, gRevN_eq, revN_r, revNK_s, tupleV_r, tupleV_l, gCallV_eq, gLend_eq, isNotBV_b, gRep_eq, repR_r, gZip_eq, zipR_t, zipR_l, gTry_eq, tryK_nx, tryK_ret, begin_eq, allR_nx, allR_ret, allR_exc, gSkip_eq, gSeq_eq, seqK_nx, seqK_ret, seqK_exc, toS_ok, toS_exc, toST_ok, toST_exc, toSL_ok, toSL_exc, gRet_eq, gAsg_eq, gSet_eq, gExpr_eq, gIfS_eq, gRaise_eq, gBin_eq, gUn_eq, gVar_eq, slotR_some, gC_eq, gArgs_nil, gArgs_cons, gTupE_eq, gLstE_eq, gNewE_eq, gCall_eq, gBi_eq, gB_eq, asB_bl, gAnd_eq, gOr_eq, gNot_eq, gVT_eq, gIf_eq, gChain_eq, chK_t, chK_f, chK_b, bnd_ok, bnd_exc, oo_some, gTo_eq, toK_some, tgName_eq, tgNil_eq, tgCons_eq, tgTup_eq, bind_some, gPar_eq, gCat_eq, catR_r, listV_t, listV_l, blsOf_nil, blsOf_cons, allV_l, isNV_d, notNV_d, parK_ok, parK_exc, gStore_eq, stK_some, gMeth_eq, gFor_eq, gRng1_eq, asI_i, gItL_eq, gItT_eq, asLst_l, asTup_t, addV_ii, subV_ii, mulV_ii, fdivV_ii, modV_ii, shlV_ii, pw6, pw9, pw18, pw19, pw20, pw25, pw30, pw39, ltV_ii, leV_ii, gtV_ii, geV_ii, negV_i, isNV_n, isNV_t, isNV_l, isNV_i, isNV_s, isNV_r, isNV_b, notNV_n, notNV_t, notNV_l, notNV_i, notNV_s, notNV_r, notNV_b, ixV_t, ixV_l, ixV_r, lenV_t, lenV_l, lenV_r, absV_i, max2V_ii, min2V_ii, bitsV_i, setIV_r, setK_some, setL_some, appendM_r, appK_some, appN_ok, isT_r, isK_l, lstK_some, tyK_l, isT_s, isiV_eq, tyN_int, tyN_bl, tyN_non, tyN_str, tyN_tup, tyN_lst, tyN_dct, tyN_r, kk_int_bool, kitK_t, kk_int_str, kk_int_tuple, kk_int_list, kk_int_dict, kk_int_NoneType, kk_bool_int, kk_bool_str, kk_bool_tuple, kk_bool_list, kk_bool_dict, kk_bool_NoneType, kk_str_int, kk_str_bool, kk_str_tuple, kk_str_list, kk_str_dict, kk_str_NoneType, kk_tuple_int, kk_tuple_bool, kk_tuple_str, kk_tuple_list, kk_tuple_dict, kk_tuple_NoneType, kk_list_int, kk_list_bool, kk_list_str, kk_list_tuple, kk_list_dict, kk_list_NoneType, kk_dict_int, kk_dict_bool, kk_dict_str, kk_dict_tuple, kk_dict_list, kk_dict_NoneType, eqV_int, neV_int, isBV_b, neV_bl, eqV_bl, eqV_ii, neV_ii, isNV_fr, notNV_fr, ixV_fr0, ixV_fr1, eqV_fr, neV_fr, int1V_b, int1V_i, ixV_hp0, ixV_hp1, isNV_hp, eqV_hp, neV_hp, tyN_fr, lenV_fr, at0, at1, at2, at3, at4, at5, ixN0, ixN1, List.map_cons, List.map_nil, List.replicate, List.cons_append, List.nil_append, List.getElem?_cons_zero, List.getElem?_cons_succ, List.set_cons_zero, List.set_cons_succ, Bool.not_true, Bool.not_false, Bool.false_eq_true, if_true, if_false, ite_true, ite_false, reduceIte, Nat.reduceSub, Nat.reduceAdd, ne_eq, Int.cast_ofNat_Int, Int.reduceBEq, Int.reduceLT, Int.reduceLE, Int.reduceEq, Int.reduceNeg, Int.reduceMul, Int.reduceAdd, Int.reduceSub, decide_true, decide_false, List.length_cons, List.length_nil, beq_self_eq_true, not_false_eq_true, not_true_eq_false , gLenSet_eq, lsR_l, gCompN_eq, mkN_l, gCat2_eq, lstOf_l, insertM_r, extendM_r, gListRg_eq, gSlV_eq, slVK_s, gForM_eq, toSM_ok, gItM_eq, mkB_t, mkB_f, i0, i1, e1, e2, ne, x0, x1, ea, e3, Bool.true_and]

noncomputable def g__law_rows (F__law_later : Fn) : GS :=
  (gRet (gComp (gRng1 (gBi lenV [(gVar 0)])) (tgName 1) gYes (gComp (gRng1 (gBi lenV [(gVar 0)])) (tgName 2) (gB (gCall F__law_later [(gBin ixV (gVar 0) (gVar 1)), (gBin ixV (gVar 0) (gVar 2))])) (gVar 2) [2]) [1]))
noncomputable def F__law_rows : Fn := fun xs st => allR (g__law_rows F__law_later (begin 3 1 xs) st)
theorem lrows_ok {n : Nat} {hs : List (Rat × Rat)} {st : List SO} (hr : ∀ h ∈ hs, HR n h) (hn : n ≤ 1000) (l12 : hs.length ≤ 60) : F__law_rows [.lst (hs.map hq)] st = .ok (.lst ((List.range hs.length).map fun i => .lst (pvN (rowN hs i)))) st := by
  have len : (hs.map hq).length = hs.length := List.length_map ..
  have r1 : RngOk ((hs.map hq).length : Int) := by rw [len]; unfold RngOk; omega
  have g := gComp_ok (it := gRng1 (gBi lenV [(gVar 0)])) (t := tgName 1) (e := (gComp (gRng1 (gBi lenV [(gVar 0)])) (tgName 2) (gB (gCall F__law_later [(gBin ixV (gVar 0) (gVar 1)), (gBin ixV (gVar 0) (gVar 2))])) (gVar 2) [2])) (vs := [1]) (ρ := [some (.lst (hs.map hq)), none, none]) (st := st) (st1 := st) (xs := rng 0 hs.length) (by simp only [gSlN_eq, slN_r, slN_l, slNK_s, gRevN_eq, revN_r, revNK_s, tupleV_r, tupleV_l, gCallV_eq, gLend_eq, isNotBV_b, gRep_eq, repR_r, gZip_eq, zipR_t, zipR_l, gTry_eq, tryK_nx, tryK_ret, begin_eq, allR_nx, allR_ret, allR_exc, gSkip_eq, gSeq_eq, seqK_nx, seqK_ret, seqK_exc, toS_ok, toS_exc, toST_ok, toST_exc, toSL_ok, toSL_exc, gRet_eq, gAsg_eq, gSet_eq, gExpr_eq, gIfS_eq, gRaise_eq, gBin_eq, gUn_eq, gVar_eq, slotR_some, gC_eq, gArgs_nil, gArgs_cons, gTupE_eq, gLstE_eq, gNewE_eq, gCall_eq, gBi_eq, gB_eq, asB_bl, gAnd_eq, gOr_eq, gNot_eq, gVT_eq, gIf_eq, gChain_eq, chK_t, chK_f, chK_b, bnd_ok, bnd_exc, oo_some, gTo_eq, toK_some, tgName_eq, tgNil_eq, tgCons_eq, tgTup_eq, bind_some, gPar_eq, gCat_eq, catR_r, listV_t, listV_l, blsOf_nil, blsOf_cons, allV_l, isNV_d, notNV_d, parK_ok, parK_exc, gStore_eq, stK_some, gMeth_eq, gFor_eq, gRng1_eq, asI_i, gItL_eq, gItT_eq, asLst_l, asTup_t, addV_ii, subV_ii, mulV_ii, fdivV_ii, modV_ii, shlV_ii, pw6, pw9, pw18, pw19, pw20, pw25, pw30, pw39, ltV_ii, leV_ii, gtV_ii, geV_ii, negV_i, isNV_n, isNV_t, isNV_l, isNV_i, isNV_s, isNV_r, isNV_b, notNV_n, notNV_t, notNV_l, notNV_i, notNV_s, notNV_r, notNV_b, ixV_t, ixV_l, ixV_r, lenV_t, lenV_l, lenV_r, absV_i, max2V_ii, min2V_ii, bitsV_i, setIV_r, setK_some, setL_some, appendM_r, appK_some, appN_ok, isT_r, isK_l, lstK_some, tyK_l, isT_s, isiV_eq, tyN_int, tyN_bl, tyN_non, tyN_str, tyN_tup, tyN_lst, tyN_dct, tyN_r, kk_int_bool, kitK_t, kk_int_str, kk_int_tuple, kk_int_list, kk_int_dict, kk_int_NoneType, kk_bool_int, kk_bool_str, kk_bool_tuple, kk_bool_list, kk_bool_dict, kk_bool_NoneType, kk_str_int, kk_str_bool, kk_str_tuple, kk_str_list, kk_str_dict, kk_str_NoneType, kk_tuple_int, kk_tuple_bool, kk_tuple_str, kk_tuple_list, kk_tuple_dict, kk_tuple_NoneType, kk_list_int, kk_list_bool, kk_list_str, kk_list_tuple, kk_list_dict, kk_list_NoneType, kk_dict_int, kk_dict_bool, kk_dict_str, kk_dict_tuple, kk_dict_list, kk_dict_NoneType, eqV_int, neV_int, isBV_b, neV_bl, eqV_bl, eqV_ii, neV_ii, isNV_fr, notNV_fr, ixV_fr0, ixV_fr1, eqV_fr, neV_fr, int1V_b, int1V_i, ixV_hp0, ixV_hp1, isNV_hp, eqV_hp, neV_hp, tyN_fr, lenV_fr, at0, at1, at2, at3, at4, at5, ixN0, ixN1, List.map_cons, List.map_nil, List.replicate, List.cons_append, List.nil_append, List.getElem?_cons_zero, List.getElem?_cons_succ, List.set_cons_zero, List.set_cons_succ, Bool.not_true, Bool.not_false, Bool.false_eq_true, if_true, if_false, ite_true, ite_false, reduceIte, Nat.reduceSub, Nat.reduceAdd, ne_eq, Int.cast_ofNat_Int, Int.reduceBEq, Int.reduceLT, Int.reduceLE, Int.reduceEq, Int.reduceNeg, Int.reduceMul, Int.reduceAdd, Int.reduceSub, decide_true, decide_false, List.length_cons, List.length_nil, beq_self_eq_true, not_false_eq_true, not_true_eq_false , gLenSet_eq, lsR_l, gCompN_eq, mkN_l, gCat2_eq, lstOf_l, insertM_r, extendM_r, gListRg_eq, gSlV_eq, slVK_s, gForM_eq, toSM_ok, gItM_eq, mkB_t, mkB_f, asI_i r1]; rw [Int.toNat_natCast, len]) (comp_map (fun z => match z with | .int i => .lst (pvN (rowN hs i.toNat)) | _ => .non) _ fun z hz => by
    obtain ⟨i, rfl, hi⟩ := mem_rng hz
    refine ⟨_, rfl, ?_⟩
    show _ = Res.ok (PV.lst (pvN (rowN hs ((i : Nat) : Int).toNat))) st
    rw [Int.toNat_natCast]
    have a1 := at_hat hi
    exact comp_rng (it := gRng1 (gBi lenV [(gVar 0)])) (t := tgName 2) (c := (gB (gCall F__law_later [(gBin ixV (gVar 0) (gVar 1)), (gBin ixV (gVar 0) (gVar 2))]))) (e := gVar 2) (vs := [2]) (ρ := [some (.lst (hs.map hq)), some (.int (i : Int)), none]) (st := st) (n := hs.length) (fun j => rch (hat hs i) (hat hs j)) (by simp only [gSlN_eq, slN_r, slN_l, slNK_s, gRevN_eq, revN_r, revNK_s, tupleV_r, tupleV_l, gCallV_eq, gLend_eq, isNotBV_b, gRep_eq, repR_r, gZip_eq, zipR_t, zipR_l, gTry_eq, tryK_nx, tryK_ret, begin_eq, allR_nx, allR_ret, allR_exc, gSkip_eq, gSeq_eq, seqK_nx, seqK_ret, seqK_exc, toS_ok, toS_exc, toST_ok, toST_exc, toSL_ok, toSL_exc, gRet_eq, gAsg_eq, gSet_eq, gExpr_eq, gIfS_eq, gRaise_eq, gBin_eq, gUn_eq, gVar_eq, slotR_some, gC_eq, gArgs_nil, gArgs_cons, gTupE_eq, gLstE_eq, gNewE_eq, gCall_eq, gBi_eq, gB_eq, asB_bl, gAnd_eq, gOr_eq, gNot_eq, gVT_eq, gIf_eq, gChain_eq, chK_t, chK_f, chK_b, bnd_ok, bnd_exc, oo_some, gTo_eq, toK_some, tgName_eq, tgNil_eq, tgCons_eq, tgTup_eq, bind_some, gPar_eq, gCat_eq, catR_r, listV_t, listV_l, blsOf_nil, blsOf_cons, allV_l, isNV_d, notNV_d, parK_ok, parK_exc, gStore_eq, stK_some, gMeth_eq, gFor_eq, gRng1_eq, asI_i, gItL_eq, gItT_eq, asLst_l, asTup_t, addV_ii, subV_ii, mulV_ii, fdivV_ii, modV_ii, shlV_ii, pw6, pw9, pw18, pw19, pw20, pw25, pw30, pw39, ltV_ii, leV_ii, gtV_ii, geV_ii, negV_i, isNV_n, isNV_t, isNV_l, isNV_i, isNV_s, isNV_r, isNV_b, notNV_n, notNV_t, notNV_l, notNV_i, notNV_s, notNV_r, notNV_b, ixV_t, ixV_l, ixV_r, lenV_t, lenV_l, lenV_r, absV_i, max2V_ii, min2V_ii, bitsV_i, setIV_r, setK_some, setL_some, appendM_r, appK_some, appN_ok, isT_r, isK_l, lstK_some, tyK_l, isT_s, isiV_eq, tyN_int, tyN_bl, tyN_non, tyN_str, tyN_tup, tyN_lst, tyN_dct, tyN_r, kk_int_bool, kitK_t, kk_int_str, kk_int_tuple, kk_int_list, kk_int_dict, kk_int_NoneType, kk_bool_int, kk_bool_str, kk_bool_tuple, kk_bool_list, kk_bool_dict, kk_bool_NoneType, kk_str_int, kk_str_bool, kk_str_tuple, kk_str_list, kk_str_dict, kk_str_NoneType, kk_tuple_int, kk_tuple_bool, kk_tuple_str, kk_tuple_list, kk_tuple_dict, kk_tuple_NoneType, kk_list_int, kk_list_bool, kk_list_str, kk_list_tuple, kk_list_dict, kk_list_NoneType, kk_dict_int, kk_dict_bool, kk_dict_str, kk_dict_tuple, kk_dict_list, kk_dict_NoneType, eqV_int, neV_int, isBV_b, neV_bl, eqV_bl, eqV_ii, neV_ii, isNV_fr, notNV_fr, ixV_fr0, ixV_fr1, eqV_fr, neV_fr, int1V_b, int1V_i, ixV_hp0, ixV_hp1, isNV_hp, eqV_hp, neV_hp, tyN_fr, lenV_fr, at0, at1, at2, at3, at4, at5, ixN0, ixN1, List.map_cons, List.map_nil, List.replicate, List.cons_append, List.nil_append, List.getElem?_cons_zero, List.getElem?_cons_succ, List.set_cons_zero, List.set_cons_succ, Bool.not_true, Bool.not_false, Bool.false_eq_true, if_true, if_false, ite_true, ite_false, reduceIte, Nat.reduceSub, Nat.reduceAdd, ne_eq, Int.cast_ofNat_Int, Int.reduceBEq, Int.reduceLT, Int.reduceLE, Int.reduceEq, Int.reduceNeg, Int.reduceMul, Int.reduceAdd, Int.reduceSub, decide_true, decide_false, List.length_cons, List.length_nil, beq_self_eq_true, not_false_eq_true, not_true_eq_false , gLenSet_eq, lsR_l, gCompN_eq, mkN_l, gCat2_eq, lstOf_l, insertM_r, extendM_r, gListRg_eq, gSlV_eq, slVK_s, gForM_eq, toSM_ok, gItM_eq, mkB_t, mkB_f, asI_i r1]; rw [Int.toNat_natCast, len]) (by omega) fun j hj => by
      have a2 := at_hat hj
      have e := llater_ok (st := st) (hr _ (hat_mem hi)) (hr _ (hat_mem hj)) hn
      refine ⟨_, rfl, ?_, fun _ => rfl⟩
      simp only [gSlN_eq, slN_r, slN_l, slNK_s, gRevN_eq, revN_r, revNK_s, tupleV_r, tupleV_l, gCallV_eq, gLend_eq, isNotBV_b, gRep_eq, repR_r, gZip_eq, zipR_t, zipR_l, gTry_eq, tryK_nx, tryK_ret, begin_eq, allR_nx, allR_ret, allR_exc, gSkip_eq, gSeq_eq, seqK_nx, seqK_ret, seqK_exc, toS_ok, toS_exc, toST_ok, toST_exc, toSL_ok, toSL_exc, gRet_eq, gAsg_eq, gSet_eq, gExpr_eq, gIfS_eq, gRaise_eq, gBin_eq, gUn_eq, gVar_eq, slotR_some, gC_eq, gArgs_nil, gArgs_cons, gTupE_eq, gLstE_eq, gNewE_eq, gCall_eq, gBi_eq, gB_eq, asB_bl, gAnd_eq, gOr_eq, gNot_eq, gVT_eq, gIf_eq, gChain_eq, chK_t, chK_f, chK_b, bnd_ok, bnd_exc, oo_some, gTo_eq, toK_some, tgName_eq, tgNil_eq, tgCons_eq, tgTup_eq, bind_some, gPar_eq, gCat_eq, catR_r, listV_t, listV_l, blsOf_nil, blsOf_cons, allV_l, isNV_d, notNV_d, parK_ok, parK_exc, gStore_eq, stK_some, gMeth_eq, gFor_eq, gRng1_eq, asI_i, gItL_eq, gItT_eq, asLst_l, asTup_t, addV_ii, subV_ii, mulV_ii, fdivV_ii, modV_ii, shlV_ii, pw6, pw9, pw18, pw19, pw20, pw25, pw30, pw39, ltV_ii, leV_ii, gtV_ii, geV_ii, negV_i, isNV_n, isNV_t, isNV_l, isNV_i, isNV_s, isNV_r, isNV_b, notNV_n, notNV_t, notNV_l, notNV_i, notNV_s, notNV_r, notNV_b, ixV_t, ixV_l, ixV_r, lenV_t, lenV_l, lenV_r, absV_i, max2V_ii, min2V_ii, bitsV_i, setIV_r, setK_some, setL_some, appendM_r, appK_some, appN_ok, isT_r, isK_l, lstK_some, tyK_l, isT_s, isiV_eq, tyN_int, tyN_bl, tyN_non, tyN_str, tyN_tup, tyN_lst, tyN_dct, tyN_r, kk_int_bool, kitK_t, kk_int_str, kk_int_tuple, kk_int_list, kk_int_dict, kk_int_NoneType, kk_bool_int, kk_bool_str, kk_bool_tuple, kk_bool_list, kk_bool_dict, kk_bool_NoneType, kk_str_int, kk_str_bool, kk_str_tuple, kk_str_list, kk_str_dict, kk_str_NoneType, kk_tuple_int, kk_tuple_bool, kk_tuple_str, kk_tuple_list, kk_tuple_dict, kk_tuple_NoneType, kk_list_int, kk_list_bool, kk_list_str, kk_list_tuple, kk_list_dict, kk_list_NoneType, kk_dict_int, kk_dict_bool, kk_dict_str, kk_dict_tuple, kk_dict_list, kk_dict_NoneType, eqV_int, neV_int, isBV_b, neV_bl, eqV_bl, eqV_ii, neV_ii, isNV_fr, notNV_fr, ixV_fr0, ixV_fr1, eqV_fr, neV_fr, int1V_b, int1V_i, ixV_hp0, ixV_hp1, isNV_hp, eqV_hp, neV_hp, tyN_fr, lenV_fr, at0, at1, at2, at3, at4, at5, ixN0, ixN1, List.map_cons, List.map_nil, List.replicate, List.cons_append, List.nil_append, List.getElem?_cons_zero, List.getElem?_cons_succ, List.set_cons_zero, List.set_cons_succ, Bool.not_true, Bool.not_false, Bool.false_eq_true, if_true, if_false, ite_true, ite_false, reduceIte, Nat.reduceSub, Nat.reduceAdd, ne_eq, Int.cast_ofNat_Int, Int.reduceBEq, Int.reduceLT, Int.reduceLE, Int.reduceEq, Int.reduceNeg, Int.reduceMul, Int.reduceAdd, Int.reduceSub, decide_true, decide_false, List.length_cons, List.length_nil, beq_self_eq_true, not_false_eq_true, not_true_eq_false , gLenSet_eq, lsR_l, gCompN_eq, mkN_l, gCat2_eq, lstOf_l, insertM_r, extendM_r, gListRg_eq, gSlV_eq, slVK_s, gForM_eq, toSM_ok, gItM_eq, mkB_t, mkB_f, wipeR, a1, a2, e]) (lenOk_small (by rw [List.length_map, rng_len]; omega))
  rw [rng_map] at g
  have me : ((List.range hs.length).map fun i => (fun z => match z with | PV.int i => PV.lst (pvN (rowN hs i.toNat)) | _ => .non) (PV.int (0 + ((i : Nat) : Int)))) = (List.range hs.length).map fun i => PV.lst (pvN (rowN hs i)) := List.map_congr_left fun i _ => by
    show PV.lst (pvN (rowN hs ((0 : Int) + (i : Nat)).toNat)) = _
    rw [show ((0 : Int) + (i : Nat)).toNat = i by omega]
  rw [me] at g
  simp only [F__law_rows, g__law_rows, gSlN_eq, slN_r, slN_l, slNK_s, gRevN_eq, revN_r, revNK_s, tupleV_r, tupleV_l, gCallV_eq, gLend_eq, isNotBV_b, gRep_eq, repR_r, gZip_eq, zipR_t, zipR_l, gTry_eq, tryK_nx, tryK_ret, begin_eq, allR_nx, allR_ret, allR_exc, gSkip_eq, gSeq_eq, seqK_nx, seqK_ret, seqK_exc, toS_ok, toS_exc, toST_ok, toST_exc, toSL_ok, toSL_exc, gRet_eq, gAsg_eq, gSet_eq, gExpr_eq, gIfS_eq, gRaise_eq, gBin_eq, gUn_eq, gVar_eq, slotR_some, gC_eq, gArgs_nil, gArgs_cons, gTupE_eq, gLstE_eq, gNewE_eq, gCall_eq, gBi_eq, gB_eq, asB_bl, gAnd_eq, gOr_eq, gNot_eq, gVT_eq, gIf_eq, gChain_eq, chK_t, chK_f, chK_b, bnd_ok, bnd_exc, oo_some, gTo_eq, toK_some, tgName_eq, tgNil_eq, tgCons_eq, tgTup_eq, bind_some, gPar_eq, gCat_eq, catR_r, listV_t, listV_l, blsOf_nil, blsOf_cons, allV_l, isNV_d, notNV_d, parK_ok, parK_exc, gStore_eq, stK_some, gMeth_eq, gFor_eq, gRng1_eq, asI_i, gItL_eq, gItT_eq, asLst_l, asTup_t, addV_ii, subV_ii, mulV_ii, fdivV_ii, modV_ii, shlV_ii, pw6, pw9, pw18, pw19, pw20, pw25, pw30, pw39, ltV_ii, leV_ii, gtV_ii, geV_ii, negV_i, isNV_n, isNV_t, isNV_l, isNV_i, isNV_s, isNV_r, isNV_b, notNV_n, notNV_t, notNV_l, notNV_i, notNV_s, notNV_r, notNV_b, ixV_t, ixV_l, ixV_r, lenV_t, lenV_l, lenV_r, absV_i, max2V_ii, min2V_ii, bitsV_i, setIV_r, setK_some, setL_some, appendM_r, appK_some, appN_ok, isT_r, isK_l, lstK_some, tyK_l, isT_s, isiV_eq, tyN_int, tyN_bl, tyN_non, tyN_str, tyN_tup, tyN_lst, tyN_dct, tyN_r, kk_int_bool, kitK_t, kk_int_str, kk_int_tuple, kk_int_list, kk_int_dict, kk_int_NoneType, kk_bool_int, kk_bool_str, kk_bool_tuple, kk_bool_list, kk_bool_dict, kk_bool_NoneType, kk_str_int, kk_str_bool, kk_str_tuple, kk_str_list, kk_str_dict, kk_str_NoneType, kk_tuple_int, kk_tuple_bool, kk_tuple_str, kk_tuple_list, kk_tuple_dict, kk_tuple_NoneType, kk_list_int, kk_list_bool, kk_list_str, kk_list_tuple, kk_list_dict, kk_list_NoneType, kk_dict_int, kk_dict_bool, kk_dict_str, kk_dict_tuple, kk_dict_list, kk_dict_NoneType, eqV_int, neV_int, isBV_b, neV_bl, eqV_bl, eqV_ii, neV_ii, isNV_fr, notNV_fr, ixV_fr0, ixV_fr1, eqV_fr, neV_fr, int1V_b, int1V_i, ixV_hp0, ixV_hp1, isNV_hp, eqV_hp, neV_hp, tyN_fr, lenV_fr, at0, at1, at2, at3, at4, at5, ixN0, ixN1, List.map_cons, List.map_nil, List.replicate, List.cons_append, List.nil_append, List.getElem?_cons_zero, List.getElem?_cons_succ, List.set_cons_zero, List.set_cons_succ, Bool.not_true, Bool.not_false, Bool.false_eq_true, if_true, if_false, ite_true, ite_false, reduceIte, Nat.reduceSub, Nat.reduceAdd, ne_eq, Int.cast_ofNat_Int, Int.reduceBEq, Int.reduceLT, Int.reduceLE, Int.reduceEq, Int.reduceNeg, Int.reduceMul, Int.reduceAdd, Int.reduceSub, decide_true, decide_false, List.length_cons, List.length_nil, beq_self_eq_true, not_false_eq_true, not_true_eq_false , gLenSet_eq, lsR_l, gCompN_eq, mkN_l, gCat2_eq, lstOf_l, insertM_r, extendM_r, gListRg_eq, gSlV_eq, slVK_s, gForM_eq, toSM_ok, gItM_eq, mkB_t, mkB_f, g]
theorem Sm_pvN (L : List Nat) (h : L.length ≤ 900) : Sm 2 (.lst (pvN L)) := Sm_lst (n := 1) (by rw [pvN_len]; exact h) fun z hz => by
  unfold pvN at hz
  obtain ⟨k, -, rfl⟩ := List.mem_map.mp hz
  exact trivial
noncomputable def rowsP (hs : List (Rat × Rat)) : List PV := (List.range hs.length).map fun i => .lst (pvN (rowN hs i))
theorem rowN_len {hs : List (Rat × Rat)} {i : Nat} : (rowN hs i).length ≤ hs.length := range_fl
theorem btwN_len {hs : List (Rat × Rat)} {i j : Nat} : (btwN hs i j).length ≤ hs.length := range_fl
theorem Sm_rows {hs : List (Rat × Rat)} (h : hs.length ≤ 60) : Sm 3 (.lst (rowsP hs)) := Sm_lst (n := 2) (by unfold rowsP; rw [List.length_map, List.length_range]; omega) fun z hz => by
  unfold rowsP at hz
  obtain ⟨i, -, rfl⟩ := List.mem_map.mp hz
  have := rowN_len (hs := hs) (i := i)
  exact Sm_pvN _ (by omega)
theorem FZ_pvN (L : List Nat) : FZ 2 (.lst (pvN L)) := FZ_lst (k := 1) fun z hz => by
  unfold pvN at hz
  obtain ⟨k, -, rfl⟩ := List.mem_map.mp hz
  exact fun _ _ _ => rfl
theorem FZ_rows {hs : List (Rat × Rat)} : FZ 3 (.lst (rowsP hs)) := FZ_lst (k := 2) fun z hz => by
  unfold rowsP at hz
  obtain ⟨i, -, rfl⟩ := List.mem_map.mp hz
  exact FZ_pvN _
theorem at_rowP {hs : List (Rat × Rat)} {i : Nat} (h : i < hs.length) : atI (rowsP hs) (i : Int) = some (.lst (pvN (rowN hs i))) := atN (by
  unfold rowsP
  rw [List.getElem?_map, List.getElem?_range h]
  rfl)

noncomputable def g_is_whole : GS :=
  (gRet (gVT (gAnd (gB (gBi isiV [(gVar 0), (gC (.ty "int"))])) (gB (gVT (gNot (gB (gBi isiV [(gVar 0), (gC (.ty "bool"))]))))))))
noncomputable def F_is_whole : Fn := fun xs st => allR (g_is_whole (begin 1 1 xs) st)
theorem whole_ok {x : PV} {st : List SO} (h : P0 x) : F_is_whole [x] st = .ok (.bl (whB x)) st := by
  cases x with
  | ty _ => exact h.elim
  | cls _ => exact h.elim
  | exc _ => exact h.elim
  | ref _ => exact h.elim
  | _ => simp only [F_is_whole, g_is_whole, gSlN_eq, slN_r, slN_l, slNK_s, gRevN_eq, revN_r, revNK_s, tupleV_r, tupleV_l, gCallV_eq, gLend_eq, isNotBV_b, gRep_eq, repR_r, gZip_eq, zipR_t, zipR_l, gTry_eq, tryK_nx, tryK_ret, begin_eq, allR_nx, allR_ret, allR_exc, gSkip_eq, gSeq_eq, seqK_nx, seqK_ret, seqK_exc, toS_ok, toS_exc, toST_ok, toST_exc, toSL_ok, toSL_exc, gRet_eq, gAsg_eq, gSet_eq, gExpr_eq, gIfS_eq, gRaise_eq, gBin_eq, gUn_eq, gVar_eq, slotR_some, gC_eq, gArgs_nil, gArgs_cons, gTupE_eq, gLstE_eq, gNewE_eq, gCall_eq, gBi_eq, gB_eq, asB_bl, gAnd_eq, gOr_eq, gNot_eq, gVT_eq, gIf_eq, gChain_eq, chK_t, chK_f, chK_b, bnd_ok, bnd_exc, oo_some, gTo_eq, toK_some, tgName_eq, tgNil_eq, tgCons_eq, tgTup_eq, bind_some, gPar_eq, gCat_eq, catR_r, listV_t, listV_l, blsOf_nil, blsOf_cons, allV_l, isNV_d, notNV_d, parK_ok, parK_exc, gStore_eq, stK_some, gMeth_eq, gFor_eq, gRng1_eq, asI_i, gItL_eq, gItT_eq, asLst_l, asTup_t, addV_ii, subV_ii, mulV_ii, fdivV_ii, modV_ii, shlV_ii, pw6, pw9, pw18, pw19, pw20, pw25, pw30, pw39, ltV_ii, leV_ii, gtV_ii, geV_ii, negV_i, isNV_n, isNV_t, isNV_l, isNV_i, isNV_s, isNV_r, isNV_b, notNV_n, notNV_t, notNV_l, notNV_i, notNV_s, notNV_r, notNV_b, ixV_t, ixV_l, ixV_r, lenV_t, lenV_l, lenV_r, absV_i, max2V_ii, min2V_ii, bitsV_i, setIV_r, setK_some, setL_some, appendM_r, appK_some, appN_ok, isT_r, isK_l, lstK_some, tyK_l, isT_s, isiV_eq, tyN_int, tyN_bl, tyN_non, tyN_str, tyN_tup, tyN_lst, tyN_dct, tyN_r, kk_int_bool, kitK_t, kk_int_str, kk_int_tuple, kk_int_list, kk_int_dict, kk_int_NoneType, kk_bool_int, kk_bool_str, kk_bool_tuple, kk_bool_list, kk_bool_dict, kk_bool_NoneType, kk_str_int, kk_str_bool, kk_str_tuple, kk_str_list, kk_str_dict, kk_str_NoneType, kk_tuple_int, kk_tuple_bool, kk_tuple_str, kk_tuple_list, kk_tuple_dict, kk_tuple_NoneType, kk_list_int, kk_list_bool, kk_list_str, kk_list_tuple, kk_list_dict, kk_list_NoneType, kk_dict_int, kk_dict_bool, kk_dict_str, kk_dict_tuple, kk_dict_list, kk_dict_NoneType, eqV_int, neV_int, isBV_b, neV_bl, eqV_bl, eqV_ii, neV_ii, isNV_fr, notNV_fr, ixV_fr0, ixV_fr1, eqV_fr, neV_fr, int1V_b, int1V_i, ixV_hp0, ixV_hp1, isNV_hp, eqV_hp, neV_hp, tyN_fr, lenV_fr, at0, at1, at2, at3, at4, at5, ixN0, ixN1, List.map_cons, List.map_nil, List.replicate, List.cons_append, List.nil_append, List.getElem?_cons_zero, List.getElem?_cons_succ, List.set_cons_zero, List.set_cons_succ, Bool.not_true, Bool.not_false, Bool.false_eq_true, if_true, if_false, ite_true, ite_false, reduceIte, Nat.reduceSub, Nat.reduceAdd, ne_eq, Int.cast_ofNat_Int, Int.reduceBEq, Int.reduceLT, Int.reduceLE, Int.reduceEq, Int.reduceNeg, Int.reduceMul, Int.reduceAdd, Int.reduceSub, decide_true, decide_false, List.length_cons, List.length_nil, beq_self_eq_true, not_false_eq_true, not_true_eq_false , gLenSet_eq, lsR_l, gCompN_eq, mkN_l, gCat2_eq, lstOf_l, insertM_r, extendM_r, gListRg_eq, gSlV_eq, slVK_s, gForM_eq, toSM_ok, gItM_eq, mkB_t, mkB_f, kk_int_int, kk_int_bool, kk_bool_bool, whB]
theorem whole_i {i : Int} {st : List SO} : F_is_whole [.int i] st = .ok (.bl true) st := by
  simp only [F_is_whole, g_is_whole, gSlN_eq, slN_r, slN_l, slNK_s, gRevN_eq, revN_r, revNK_s, tupleV_r, tupleV_l, gCallV_eq, gLend_eq, isNotBV_b, gRep_eq, repR_r, gZip_eq, zipR_t, zipR_l, gTry_eq, tryK_nx, tryK_ret, begin_eq, allR_nx, allR_ret, allR_exc, gSkip_eq, gSeq_eq, seqK_nx, seqK_ret, seqK_exc, toS_ok, toS_exc, toST_ok, toST_exc, toSL_ok, toSL_exc, gRet_eq, gAsg_eq, gSet_eq, gExpr_eq, gIfS_eq, gRaise_eq, gBin_eq, gUn_eq, gVar_eq, slotR_some, gC_eq, gArgs_nil, gArgs_cons, gTupE_eq, gLstE_eq, gNewE_eq, gCall_eq, gBi_eq, gB_eq, asB_bl, gAnd_eq, gOr_eq, gNot_eq, gVT_eq, gIf_eq, gChain_eq, chK_t, chK_f, chK_b, bnd_ok, bnd_exc, oo_some, gTo_eq, toK_some, tgName_eq, tgNil_eq, tgCons_eq, tgTup_eq, bind_some, gPar_eq, gCat_eq, catR_r, listV_t, listV_l, blsOf_nil, blsOf_cons, allV_l, isNV_d, notNV_d, parK_ok, parK_exc, gStore_eq, stK_some, gMeth_eq, gFor_eq, gRng1_eq, asI_i, gItL_eq, gItT_eq, asLst_l, asTup_t, addV_ii, subV_ii, mulV_ii, fdivV_ii, modV_ii, shlV_ii, pw6, pw9, pw18, pw19, pw20, pw25, pw30, pw39, ltV_ii, leV_ii, gtV_ii, geV_ii, negV_i, isNV_n, isNV_t, isNV_l, isNV_i, isNV_s, isNV_r, isNV_b, notNV_n, notNV_t, notNV_l, notNV_i, notNV_s, notNV_r, notNV_b, ixV_t, ixV_l, ixV_r, lenV_t, lenV_l, lenV_r, absV_i, max2V_ii, min2V_ii, bitsV_i, setIV_r, setK_some, setL_some, appendM_r, appK_some, appN_ok, isT_r, isK_l, lstK_some, tyK_l, isT_s, isiV_eq, tyN_int, tyN_bl, tyN_non, tyN_str, tyN_tup, tyN_lst, tyN_dct, tyN_r, kk_int_bool, kitK_t, kk_int_str, kk_int_tuple, kk_int_list, kk_int_dict, kk_int_NoneType, kk_bool_int, kk_bool_str, kk_bool_tuple, kk_bool_list, kk_bool_dict, kk_bool_NoneType, kk_str_int, kk_str_bool, kk_str_tuple, kk_str_list, kk_str_dict, kk_str_NoneType, kk_tuple_int, kk_tuple_bool, kk_tuple_str, kk_tuple_list, kk_tuple_dict, kk_tuple_NoneType, kk_list_int, kk_list_bool, kk_list_str, kk_list_tuple, kk_list_dict, kk_list_NoneType, kk_dict_int, kk_dict_bool, kk_dict_str, kk_dict_tuple, kk_dict_list, kk_dict_NoneType, eqV_int, neV_int, isBV_b, neV_bl, eqV_bl, eqV_ii, neV_ii, isNV_fr, notNV_fr, ixV_fr0, ixV_fr1, eqV_fr, neV_fr, int1V_b, int1V_i, ixV_hp0, ixV_hp1, isNV_hp, eqV_hp, neV_hp, tyN_fr, lenV_fr, at0, at1, at2, at3, at4, at5, ixN0, ixN1, List.map_cons, List.map_nil, List.replicate, List.cons_append, List.nil_append, List.getElem?_cons_zero, List.getElem?_cons_succ, List.set_cons_zero, List.set_cons_succ, Bool.not_true, Bool.not_false, Bool.false_eq_true, if_true, if_false, ite_true, ite_false, reduceIte, Nat.reduceSub, Nat.reduceAdd, ne_eq, Int.cast_ofNat_Int, Int.reduceBEq, Int.reduceLT, Int.reduceLE, Int.reduceEq, Int.reduceNeg, Int.reduceMul, Int.reduceAdd, Int.reduceSub, decide_true, decide_false, List.length_cons, List.length_nil, beq_self_eq_true, not_false_eq_true, not_true_eq_false , gLenSet_eq, lsR_l, gCompN_eq, mkN_l, gCat2_eq, lstOf_l, insertM_r, extendM_r, gListRg_eq, gSlV_eq, slVK_s, gForM_eq, toSM_ok, gItM_eq, mkB_t, mkB_f, kk_int_int]

noncomputable def g_common : GS :=
  (gSeq (gPar 0 1 (gBi absV [(gVar 0)]) (gBi absV [(gVar 1)]))
  (gSeq (gWhile (muI 1) (gB (gBin gtV (gVar 1) (gC (.int 0)))) (gPar 0 1 (gVar 1) (gBin modV (gVar 0) (gVar 1))))
  (gRet (gVar 0))))
noncomputable def F_common : Fn := fun xs st => allR (g_common (begin 2 2 xs) st)
theorem common_ok (a b : Int) (st : List SO) : F_common [.int a, .int b] st = .ok (.int (Int.gcd a b)) st := by
  have w := whl_gcd (i := 0) (j := 1) (by decide) (b.natAbs + 1) [some (.int a.natAbs), some (.int b.natAbs)] a.natAbs b.natAbs st rfl rfl (by omega)
  have e : Nat.gcd a.natAbs b.natAbs = Int.gcd a b := rfl
  simp only [F_common, g_common, gWhile, muI, gSlN_eq, slN_r, slN_l, slNK_s, gRevN_eq, revN_r, revNK_s, tupleV_r, tupleV_l, gCallV_eq, gLend_eq, isNotBV_b, gRep_eq, repR_r, gZip_eq, zipR_t, zipR_l, gTry_eq, tryK_nx, tryK_ret, begin_eq, allR_nx, allR_ret, allR_exc, gSkip_eq, gSeq_eq, seqK_nx, seqK_ret, seqK_exc, toS_ok, toS_exc, toST_ok, toST_exc, toSL_ok, toSL_exc, gRet_eq, gAsg_eq, gSet_eq, gExpr_eq, gIfS_eq, gRaise_eq, gBin_eq, gUn_eq, gVar_eq, slotR_some, gC_eq, gArgs_nil, gArgs_cons, gTupE_eq, gLstE_eq, gNewE_eq, gCall_eq, gBi_eq, gB_eq, asB_bl, gAnd_eq, gOr_eq, gNot_eq, gVT_eq, gIf_eq, gChain_eq, chK_t, chK_f, chK_b, bnd_ok, bnd_exc, oo_some, gTo_eq, toK_some, tgName_eq, tgNil_eq, tgCons_eq, tgTup_eq, bind_some, gPar_eq, gCat_eq, catR_r, listV_t, listV_l, blsOf_nil, blsOf_cons, allV_l, isNV_d, notNV_d, parK_ok, parK_exc, gStore_eq, stK_some, gMeth_eq, gFor_eq, gRng1_eq, asI_i, gItL_eq, gItT_eq, asLst_l, asTup_t, addV_ii, subV_ii, mulV_ii, fdivV_ii, modV_ii, shlV_ii, pw6, pw9, pw18, pw19, pw20, pw25, pw30, pw39, ltV_ii, leV_ii, gtV_ii, geV_ii, negV_i, isNV_n, isNV_t, isNV_l, isNV_i, isNV_s, isNV_r, isNV_b, notNV_n, notNV_t, notNV_l, notNV_i, notNV_s, notNV_r, notNV_b, ixV_t, ixV_l, ixV_r, lenV_t, lenV_l, lenV_r, absV_i, max2V_ii, min2V_ii, bitsV_i, setIV_r, setK_some, setL_some, appendM_r, appK_some, appN_ok, isT_r, isK_l, lstK_some, tyK_l, isT_s, isiV_eq, tyN_int, tyN_bl, tyN_non, tyN_str, tyN_tup, tyN_lst, tyN_dct, tyN_r, kk_int_bool, kitK_t, kk_int_str, kk_int_tuple, kk_int_list, kk_int_dict, kk_int_NoneType, kk_bool_int, kk_bool_str, kk_bool_tuple, kk_bool_list, kk_bool_dict, kk_bool_NoneType, kk_str_int, kk_str_bool, kk_str_tuple, kk_str_list, kk_str_dict, kk_str_NoneType, kk_tuple_int, kk_tuple_bool, kk_tuple_str, kk_tuple_list, kk_tuple_dict, kk_tuple_NoneType, kk_list_int, kk_list_bool, kk_list_str, kk_list_tuple, kk_list_dict, kk_list_NoneType, kk_dict_int, kk_dict_bool, kk_dict_str, kk_dict_tuple, kk_dict_list, kk_dict_NoneType, eqV_int, neV_int, isBV_b, neV_bl, eqV_bl, eqV_ii, neV_ii, isNV_fr, notNV_fr, ixV_fr0, ixV_fr1, eqV_fr, neV_fr, int1V_b, int1V_i, ixV_hp0, ixV_hp1, isNV_hp, eqV_hp, neV_hp, tyN_fr, lenV_fr, at0, at1, at2, at3, at4, at5, ixN0, ixN1, List.map_cons, List.map_nil, List.replicate, List.cons_append, List.nil_append, List.getElem?_cons_zero, List.getElem?_cons_succ, List.set_cons_zero, List.set_cons_succ, Bool.not_true, Bool.not_false, Bool.false_eq_true, if_true, if_false, ite_true, ite_false, reduceIte, Nat.reduceSub, Nat.reduceAdd, ne_eq, Int.cast_ofNat_Int, Int.reduceBEq, Int.reduceLT, Int.reduceLE, Int.reduceEq, Int.reduceNeg, Int.reduceMul, Int.reduceAdd, Int.reduceSub, decide_true, decide_false, List.length_cons, List.length_nil, beq_self_eq_true, not_false_eq_true, not_true_eq_false , gLenSet_eq, lsR_l, gCompN_eq, mkN_l, gCat2_eq, lstOf_l, insertM_r, extendM_r, gListRg_eq, gSlV_eq, slVK_s, gForM_eq, toSM_ok, gItM_eq, mkB_t, mkB_f, Int.natAbs_natCast] at w ⊢
  simp only [w, e, gSlN_eq, slN_r, slN_l, slNK_s, gRevN_eq, revN_r, revNK_s, tupleV_r, tupleV_l, gCallV_eq, gLend_eq, isNotBV_b, gRep_eq, repR_r, gZip_eq, zipR_t, zipR_l, gTry_eq, tryK_nx, tryK_ret, begin_eq, allR_nx, allR_ret, allR_exc, gSkip_eq, gSeq_eq, seqK_nx, seqK_ret, seqK_exc, toS_ok, toS_exc, toST_ok, toST_exc, toSL_ok, toSL_exc, gRet_eq, gAsg_eq, gSet_eq, gExpr_eq, gIfS_eq, gRaise_eq, gBin_eq, gUn_eq, gVar_eq, slotR_some, gC_eq, gArgs_nil, gArgs_cons, gTupE_eq, gLstE_eq, gNewE_eq, gCall_eq, gBi_eq, gB_eq, asB_bl, gAnd_eq, gOr_eq, gNot_eq, gVT_eq, gIf_eq, gChain_eq, chK_t, chK_f, chK_b, bnd_ok, bnd_exc, oo_some, gTo_eq, toK_some, tgName_eq, tgNil_eq, tgCons_eq, tgTup_eq, bind_some, gPar_eq, gCat_eq, catR_r, listV_t, listV_l, blsOf_nil, blsOf_cons, allV_l, isNV_d, notNV_d, parK_ok, parK_exc, gStore_eq, stK_some, gMeth_eq, gFor_eq, gRng1_eq, asI_i, gItL_eq, gItT_eq, asLst_l, asTup_t, addV_ii, subV_ii, mulV_ii, fdivV_ii, modV_ii, shlV_ii, pw6, pw9, pw18, pw19, pw20, pw25, pw30, pw39, ltV_ii, leV_ii, gtV_ii, geV_ii, negV_i, isNV_n, isNV_t, isNV_l, isNV_i, isNV_s, isNV_r, isNV_b, notNV_n, notNV_t, notNV_l, notNV_i, notNV_s, notNV_r, notNV_b, ixV_t, ixV_l, ixV_r, lenV_t, lenV_l, lenV_r, absV_i, max2V_ii, min2V_ii, bitsV_i, setIV_r, setK_some, setL_some, appendM_r, appK_some, appN_ok, isT_r, isK_l, lstK_some, tyK_l, isT_s, isiV_eq, tyN_int, tyN_bl, tyN_non, tyN_str, tyN_tup, tyN_lst, tyN_dct, tyN_r, kk_int_bool, kitK_t, kk_int_str, kk_int_tuple, kk_int_list, kk_int_dict, kk_int_NoneType, kk_bool_int, kk_bool_str, kk_bool_tuple, kk_bool_list, kk_bool_dict, kk_bool_NoneType, kk_str_int, kk_str_bool, kk_str_tuple, kk_str_list, kk_str_dict, kk_str_NoneType, kk_tuple_int, kk_tuple_bool, kk_tuple_str, kk_tuple_list, kk_tuple_dict, kk_tuple_NoneType, kk_list_int, kk_list_bool, kk_list_str, kk_list_tuple, kk_list_dict, kk_list_NoneType, kk_dict_int, kk_dict_bool, kk_dict_str, kk_dict_tuple, kk_dict_list, kk_dict_NoneType, eqV_int, neV_int, isBV_b, neV_bl, eqV_bl, eqV_ii, neV_ii, isNV_fr, notNV_fr, ixV_fr0, ixV_fr1, eqV_fr, neV_fr, int1V_b, int1V_i, ixV_hp0, ixV_hp1, isNV_hp, eqV_hp, neV_hp, tyN_fr, lenV_fr, at0, at1, at2, at3, at4, at5, ixN0, ixN1, List.map_cons, List.map_nil, List.replicate, List.cons_append, List.nil_append, List.getElem?_cons_zero, List.getElem?_cons_succ, List.set_cons_zero, List.set_cons_succ, Bool.not_true, Bool.not_false, Bool.false_eq_true, if_true, if_false, ite_true, ite_false, reduceIte, Nat.reduceSub, Nat.reduceAdd, ne_eq, Int.cast_ofNat_Int, Int.reduceBEq, Int.reduceLT, Int.reduceLE, Int.reduceEq, Int.reduceNeg, Int.reduceMul, Int.reduceAdd, Int.reduceSub, decide_true, decide_false, List.length_cons, List.length_nil, beq_self_eq_true, not_false_eq_true, not_true_eq_false , gLenSet_eq, lsR_l, gCompN_eq, mkN_l, gCat2_eq, lstOf_l, insertM_r, extendM_r, gListRg_eq, gSlV_eq, slVK_s, gForM_eq, toSM_ok, gItM_eq, mkB_t, mkB_f]

noncomputable def g_is_fraction (F_is_whole : Fn) (F_common : Fn) : GS :=
  (gSeq (gIfS (gOr (gNot (gB (gBi isiV [(gVar 0), (gC (.ty "tuple"))]))) (gOr (gB (gBin neV (gBi lenV [(gVar 0)]) (gC (.int 2)))) (gOr (gNot (gB (gCall F_is_whole [(gBin ixV (gVar 0) (gC (.int 0)))]))) (gNot (gB (gCall F_is_whole [(gBin ixV (gVar 0) (gC (.int 1)))])))))) (gRet (gC (.bl false))) gSkip)
  (gRet (gVT (gAnd (gB (gBin gtV (gBin ixV (gVar 0) (gC (.int 1))) (gC (.int 0)))) (gB (gBin eqV (gCall F_common [(gBin ixV (gVar 0) (gC (.int 0))), (gBin ixV (gVar 0) (gC (.int 1)))]) (gC (.int 1))))))))
noncomputable def F_is_fraction : Fn := fun xs st => allR (g_is_fraction F_is_whole F_common (begin 1 1 xs) st)
theorem isfr_ok {x : PV} {st : List SO} (h : P1 x) : F_is_fraction [x] st = .ok (.bl (frB x)) st := by
  cases x with
  | ty _ => exact h.1.elim
  | cls _ => exact h.1.elim
  | exc _ => exact h.1.elim
  | ref _ => exact h.1.elim
  | tup ys =>
    rcases ys with _ | ⟨a, _ | ⟨b, _ | ⟨c, l⟩⟩⟩
    · simp only [F_is_fraction, g_is_fraction, gSlN_eq, slN_r, slN_l, slNK_s, gRevN_eq, revN_r, revNK_s, tupleV_r, tupleV_l, gCallV_eq, gLend_eq, isNotBV_b, gRep_eq, repR_r, gZip_eq, zipR_t, zipR_l, gTry_eq, tryK_nx, tryK_ret, begin_eq, allR_nx, allR_ret, allR_exc, gSkip_eq, gSeq_eq, seqK_nx, seqK_ret, seqK_exc, toS_ok, toS_exc, toST_ok, toST_exc, toSL_ok, toSL_exc, gRet_eq, gAsg_eq, gSet_eq, gExpr_eq, gIfS_eq, gRaise_eq, gBin_eq, gUn_eq, gVar_eq, slotR_some, gC_eq, gArgs_nil, gArgs_cons, gTupE_eq, gLstE_eq, gNewE_eq, gCall_eq, gBi_eq, gB_eq, asB_bl, gAnd_eq, gOr_eq, gNot_eq, gVT_eq, gIf_eq, gChain_eq, chK_t, chK_f, chK_b, bnd_ok, bnd_exc, oo_some, gTo_eq, toK_some, tgName_eq, tgNil_eq, tgCons_eq, tgTup_eq, bind_some, gPar_eq, gCat_eq, catR_r, listV_t, listV_l, blsOf_nil, blsOf_cons, allV_l, isNV_d, notNV_d, parK_ok, parK_exc, gStore_eq, stK_some, gMeth_eq, gFor_eq, gRng1_eq, asI_i, gItL_eq, gItT_eq, asLst_l, asTup_t, addV_ii, subV_ii, mulV_ii, fdivV_ii, modV_ii, shlV_ii, pw6, pw9, pw18, pw19, pw20, pw25, pw30, pw39, ltV_ii, leV_ii, gtV_ii, geV_ii, negV_i, isNV_n, isNV_t, isNV_l, isNV_i, isNV_s, isNV_r, isNV_b, notNV_n, notNV_t, notNV_l, notNV_i, notNV_s, notNV_r, notNV_b, ixV_t, ixV_l, ixV_r, lenV_t, lenV_l, lenV_r, absV_i, max2V_ii, min2V_ii, bitsV_i, setIV_r, setK_some, setL_some, appendM_r, appK_some, appN_ok, isT_r, isK_l, lstK_some, tyK_l, isT_s, isiV_eq, tyN_int, tyN_bl, tyN_non, tyN_str, tyN_tup, tyN_lst, tyN_dct, tyN_r, kk_int_bool, kitK_t, kk_int_str, kk_int_tuple, kk_int_list, kk_int_dict, kk_int_NoneType, kk_bool_int, kk_bool_str, kk_bool_tuple, kk_bool_list, kk_bool_dict, kk_bool_NoneType, kk_str_int, kk_str_bool, kk_str_tuple, kk_str_list, kk_str_dict, kk_str_NoneType, kk_tuple_int, kk_tuple_bool, kk_tuple_str, kk_tuple_list, kk_tuple_dict, kk_tuple_NoneType, kk_list_int, kk_list_bool, kk_list_str, kk_list_tuple, kk_list_dict, kk_list_NoneType, kk_dict_int, kk_dict_bool, kk_dict_str, kk_dict_tuple, kk_dict_list, kk_dict_NoneType, eqV_int, neV_int, isBV_b, neV_bl, eqV_bl, eqV_ii, neV_ii, isNV_fr, notNV_fr, ixV_fr0, ixV_fr1, eqV_fr, neV_fr, int1V_b, int1V_i, ixV_hp0, ixV_hp1, isNV_hp, eqV_hp, neV_hp, tyN_fr, lenV_fr, at0, at1, at2, at3, at4, at5, ixN0, ixN1, List.map_cons, List.map_nil, List.replicate, List.cons_append, List.nil_append, List.getElem?_cons_zero, List.getElem?_cons_succ, List.set_cons_zero, List.set_cons_succ, Bool.not_true, Bool.not_false, Bool.false_eq_true, if_true, if_false, ite_true, ite_false, reduceIte, Nat.reduceSub, Nat.reduceAdd, ne_eq, Int.cast_ofNat_Int, Int.reduceBEq, Int.reduceLT, Int.reduceLE, Int.reduceEq, Int.reduceNeg, Int.reduceMul, Int.reduceAdd, Int.reduceSub, decide_true, decide_false, List.length_cons, List.length_nil, beq_self_eq_true, not_false_eq_true, not_true_eq_false , gLenSet_eq, lsR_l, gCompN_eq, mkN_l, gCat2_eq, lstOf_l, insertM_r, extendM_r, gListRg_eq, gSlV_eq, slVK_s, gForM_eq, toSM_ok, gItM_eq, mkB_t, mkB_f, frB, Int.natCast_zero, List.length_nil, Int.reduceBEq, Int.reduceEq]
    · simp only [F_is_fraction, g_is_fraction, gSlN_eq, slN_r, slN_l, slNK_s, gRevN_eq, revN_r, revNK_s, tupleV_r, tupleV_l, gCallV_eq, gLend_eq, isNotBV_b, gRep_eq, repR_r, gZip_eq, zipR_t, zipR_l, gTry_eq, tryK_nx, tryK_ret, begin_eq, allR_nx, allR_ret, allR_exc, gSkip_eq, gSeq_eq, seqK_nx, seqK_ret, seqK_exc, toS_ok, toS_exc, toST_ok, toST_exc, toSL_ok, toSL_exc, gRet_eq, gAsg_eq, gSet_eq, gExpr_eq, gIfS_eq, gRaise_eq, gBin_eq, gUn_eq, gVar_eq, slotR_some, gC_eq, gArgs_nil, gArgs_cons, gTupE_eq, gLstE_eq, gNewE_eq, gCall_eq, gBi_eq, gB_eq, asB_bl, gAnd_eq, gOr_eq, gNot_eq, gVT_eq, gIf_eq, gChain_eq, chK_t, chK_f, chK_b, bnd_ok, bnd_exc, oo_some, gTo_eq, toK_some, tgName_eq, tgNil_eq, tgCons_eq, tgTup_eq, bind_some, gPar_eq, gCat_eq, catR_r, listV_t, listV_l, blsOf_nil, blsOf_cons, allV_l, isNV_d, notNV_d, parK_ok, parK_exc, gStore_eq, stK_some, gMeth_eq, gFor_eq, gRng1_eq, asI_i, gItL_eq, gItT_eq, asLst_l, asTup_t, addV_ii, subV_ii, mulV_ii, fdivV_ii, modV_ii, shlV_ii, pw6, pw9, pw18, pw19, pw20, pw25, pw30, pw39, ltV_ii, leV_ii, gtV_ii, geV_ii, negV_i, isNV_n, isNV_t, isNV_l, isNV_i, isNV_s, isNV_r, isNV_b, notNV_n, notNV_t, notNV_l, notNV_i, notNV_s, notNV_r, notNV_b, ixV_t, ixV_l, ixV_r, lenV_t, lenV_l, lenV_r, absV_i, max2V_ii, min2V_ii, bitsV_i, setIV_r, setK_some, setL_some, appendM_r, appK_some, appN_ok, isT_r, isK_l, lstK_some, tyK_l, isT_s, isiV_eq, tyN_int, tyN_bl, tyN_non, tyN_str, tyN_tup, tyN_lst, tyN_dct, tyN_r, kk_int_bool, kitK_t, kk_int_str, kk_int_tuple, kk_int_list, kk_int_dict, kk_int_NoneType, kk_bool_int, kk_bool_str, kk_bool_tuple, kk_bool_list, kk_bool_dict, kk_bool_NoneType, kk_str_int, kk_str_bool, kk_str_tuple, kk_str_list, kk_str_dict, kk_str_NoneType, kk_tuple_int, kk_tuple_bool, kk_tuple_str, kk_tuple_list, kk_tuple_dict, kk_tuple_NoneType, kk_list_int, kk_list_bool, kk_list_str, kk_list_tuple, kk_list_dict, kk_list_NoneType, kk_dict_int, kk_dict_bool, kk_dict_str, kk_dict_tuple, kk_dict_list, kk_dict_NoneType, eqV_int, neV_int, isBV_b, neV_bl, eqV_bl, eqV_ii, neV_ii, isNV_fr, notNV_fr, ixV_fr0, ixV_fr1, eqV_fr, neV_fr, int1V_b, int1V_i, ixV_hp0, ixV_hp1, isNV_hp, eqV_hp, neV_hp, tyN_fr, lenV_fr, at0, at1, at2, at3, at4, at5, ixN0, ixN1, List.map_cons, List.map_nil, List.replicate, List.cons_append, List.nil_append, List.getElem?_cons_zero, List.getElem?_cons_succ, List.set_cons_zero, List.set_cons_succ, Bool.not_true, Bool.not_false, Bool.false_eq_true, if_true, if_false, ite_true, ite_false, reduceIte, Nat.reduceSub, Nat.reduceAdd, ne_eq, Int.cast_ofNat_Int, Int.reduceBEq, Int.reduceLT, Int.reduceLE, Int.reduceEq, Int.reduceNeg, Int.reduceMul, Int.reduceAdd, Int.reduceSub, decide_true, decide_false, List.length_cons, List.length_nil, beq_self_eq_true, not_false_eq_true, not_true_eq_false , gLenSet_eq, lsR_l, gCompN_eq, mkN_l, gCat2_eq, lstOf_l, insertM_r, extendM_r, gListRg_eq, gSlV_eq, slVK_s, gForM_eq, toSM_ok, gItM_eq, mkB_t, mkB_f, frB, List.length_cons, List.length_nil]
    · have ha := h.2 _ rfl a (by simp)
      have hb := h.2 _ rfl b (by simp)
      have e1 := whole_ok (st := st) ha
      have e2 := whole_ok (st := st) hb
      have i0 : atI [a, b] 0 = some a := at0
      have i1 : atI [a, b] 1 = some b := at1
      have l2 : ((([a, b] : List PV).length : Int) == 2) = true := rfl
      cases a with
      | int i => cases b with
        | int j =>
          simp only [whB] at e1 e2
          simp only [F_is_fraction, g_is_fraction, gSlN_eq, slN_r, slN_l, slNK_s, gRevN_eq, revN_r, revNK_s, tupleV_r, tupleV_l, gCallV_eq, gLend_eq, isNotBV_b, gRep_eq, repR_r, gZip_eq, zipR_t, zipR_l, gTry_eq, tryK_nx, tryK_ret, begin_eq, allR_nx, allR_ret, allR_exc, gSkip_eq, gSeq_eq, seqK_nx, seqK_ret, seqK_exc, toS_ok, toS_exc, toST_ok, toST_exc, toSL_ok, toSL_exc, gRet_eq, gAsg_eq, gSet_eq, gExpr_eq, gIfS_eq, gRaise_eq, gBin_eq, gUn_eq, gVar_eq, slotR_some, gC_eq, gArgs_nil, gArgs_cons, gTupE_eq, gLstE_eq, gNewE_eq, gCall_eq, gBi_eq, gB_eq, asB_bl, gAnd_eq, gOr_eq, gNot_eq, gVT_eq, gIf_eq, gChain_eq, chK_t, chK_f, chK_b, bnd_ok, bnd_exc, oo_some, gTo_eq, toK_some, tgName_eq, tgNil_eq, tgCons_eq, tgTup_eq, bind_some, gPar_eq, gCat_eq, catR_r, listV_t, listV_l, blsOf_nil, blsOf_cons, allV_l, isNV_d, notNV_d, parK_ok, parK_exc, gStore_eq, stK_some, gMeth_eq, gFor_eq, gRng1_eq, asI_i, gItL_eq, gItT_eq, asLst_l, asTup_t, addV_ii, subV_ii, mulV_ii, fdivV_ii, modV_ii, shlV_ii, pw6, pw9, pw18, pw19, pw20, pw25, pw30, pw39, ltV_ii, leV_ii, gtV_ii, geV_ii, negV_i, isNV_n, isNV_t, isNV_l, isNV_i, isNV_s, isNV_r, isNV_b, notNV_n, notNV_t, notNV_l, notNV_i, notNV_s, notNV_r, notNV_b, ixV_t, ixV_l, ixV_r, lenV_t, lenV_l, lenV_r, absV_i, max2V_ii, min2V_ii, bitsV_i, setIV_r, setK_some, setL_some, appendM_r, appK_some, appN_ok, isT_r, isK_l, lstK_some, tyK_l, isT_s, isiV_eq, tyN_int, tyN_bl, tyN_non, tyN_str, tyN_tup, tyN_lst, tyN_dct, tyN_r, kk_int_bool, kitK_t, kk_int_str, kk_int_tuple, kk_int_list, kk_int_dict, kk_int_NoneType, kk_bool_int, kk_bool_str, kk_bool_tuple, kk_bool_list, kk_bool_dict, kk_bool_NoneType, kk_str_int, kk_str_bool, kk_str_tuple, kk_str_list, kk_str_dict, kk_str_NoneType, kk_tuple_int, kk_tuple_bool, kk_tuple_str, kk_tuple_list, kk_tuple_dict, kk_tuple_NoneType, kk_list_int, kk_list_bool, kk_list_str, kk_list_tuple, kk_list_dict, kk_list_NoneType, kk_dict_int, kk_dict_bool, kk_dict_str, kk_dict_tuple, kk_dict_list, kk_dict_NoneType, eqV_int, neV_int, isBV_b, neV_bl, eqV_bl, eqV_ii, neV_ii, isNV_fr, notNV_fr, ixV_fr0, ixV_fr1, eqV_fr, neV_fr, int1V_b, int1V_i, ixV_hp0, ixV_hp1, isNV_hp, eqV_hp, neV_hp, tyN_fr, lenV_fr, at0, at1, at2, at3, at4, at5, ixN0, ixN1, List.map_cons, List.map_nil, List.replicate, List.cons_append, List.nil_append, List.getElem?_cons_zero, List.getElem?_cons_succ, List.set_cons_zero, List.set_cons_succ, Bool.not_true, Bool.not_false, Bool.false_eq_true, if_true, if_false, ite_true, ite_false, reduceIte, Nat.reduceSub, Nat.reduceAdd, ne_eq, Int.cast_ofNat_Int, Int.reduceBEq, Int.reduceLT, Int.reduceLE, Int.reduceEq, Int.reduceNeg, Int.reduceMul, Int.reduceAdd, Int.reduceSub, decide_true, decide_false, List.length_cons, List.length_nil, beq_self_eq_true, not_false_eq_true, not_true_eq_false , gLenSet_eq, lsR_l, gCompN_eq, mkN_l, gCat2_eq, lstOf_l, insertM_r, extendM_r, gListRg_eq, gSlV_eq, slVK_s, gForM_eq, toSM_ok, gItM_eq, mkB_t, mkB_f, e1, e2, i0, i1, l2, frB, common_ok]
          cases decide (0 < j) <;> simp only [gSlN_eq, slN_r, slN_l, slNK_s, gRevN_eq, revN_r, revNK_s, tupleV_r, tupleV_l, gCallV_eq, gLend_eq, isNotBV_b, gRep_eq, repR_r, gZip_eq, zipR_t, zipR_l, gTry_eq, tryK_nx, tryK_ret, begin_eq, allR_nx, allR_ret, allR_exc, gSkip_eq, gSeq_eq, seqK_nx, seqK_ret, seqK_exc, toS_ok, toS_exc, toST_ok, toST_exc, toSL_ok, toSL_exc, gRet_eq, gAsg_eq, gSet_eq, gExpr_eq, gIfS_eq, gRaise_eq, gBin_eq, gUn_eq, gVar_eq, slotR_some, gC_eq, gArgs_nil, gArgs_cons, gTupE_eq, gLstE_eq, gNewE_eq, gCall_eq, gBi_eq, gB_eq, asB_bl, gAnd_eq, gOr_eq, gNot_eq, gVT_eq, gIf_eq, gChain_eq, chK_t, chK_f, chK_b, bnd_ok, bnd_exc, oo_some, gTo_eq, toK_some, tgName_eq, tgNil_eq, tgCons_eq, tgTup_eq, bind_some, gPar_eq, gCat_eq, catR_r, listV_t, listV_l, blsOf_nil, blsOf_cons, allV_l, isNV_d, notNV_d, parK_ok, parK_exc, gStore_eq, stK_some, gMeth_eq, gFor_eq, gRng1_eq, asI_i, gItL_eq, gItT_eq, asLst_l, asTup_t, addV_ii, subV_ii, mulV_ii, fdivV_ii, modV_ii, shlV_ii, pw6, pw9, pw18, pw19, pw20, pw25, pw30, pw39, ltV_ii, leV_ii, gtV_ii, geV_ii, negV_i, isNV_n, isNV_t, isNV_l, isNV_i, isNV_s, isNV_r, isNV_b, notNV_n, notNV_t, notNV_l, notNV_i, notNV_s, notNV_r, notNV_b, ixV_t, ixV_l, ixV_r, lenV_t, lenV_l, lenV_r, absV_i, max2V_ii, min2V_ii, bitsV_i, setIV_r, setK_some, setL_some, appendM_r, appK_some, appN_ok, isT_r, isK_l, lstK_some, tyK_l, isT_s, isiV_eq, tyN_int, tyN_bl, tyN_non, tyN_str, tyN_tup, tyN_lst, tyN_dct, tyN_r, kk_int_bool, kitK_t, kk_int_str, kk_int_tuple, kk_int_list, kk_int_dict, kk_int_NoneType, kk_bool_int, kk_bool_str, kk_bool_tuple, kk_bool_list, kk_bool_dict, kk_bool_NoneType, kk_str_int, kk_str_bool, kk_str_tuple, kk_str_list, kk_str_dict, kk_str_NoneType, kk_tuple_int, kk_tuple_bool, kk_tuple_str, kk_tuple_list, kk_tuple_dict, kk_tuple_NoneType, kk_list_int, kk_list_bool, kk_list_str, kk_list_tuple, kk_list_dict, kk_list_NoneType, kk_dict_int, kk_dict_bool, kk_dict_str, kk_dict_tuple, kk_dict_list, kk_dict_NoneType, eqV_int, neV_int, isBV_b, neV_bl, eqV_bl, eqV_ii, neV_ii, isNV_fr, notNV_fr, ixV_fr0, ixV_fr1, eqV_fr, neV_fr, int1V_b, int1V_i, ixV_hp0, ixV_hp1, isNV_hp, eqV_hp, neV_hp, tyN_fr, lenV_fr, at0, at1, at2, at3, at4, at5, ixN0, ixN1, List.map_cons, List.map_nil, List.replicate, List.cons_append, List.nil_append, List.getElem?_cons_zero, List.getElem?_cons_succ, List.set_cons_zero, List.set_cons_succ, Bool.not_true, Bool.not_false, Bool.false_eq_true, if_true, if_false, ite_true, ite_false, reduceIte, Nat.reduceSub, Nat.reduceAdd, ne_eq, Int.cast_ofNat_Int, Int.reduceBEq, Int.reduceLT, Int.reduceLE, Int.reduceEq, Int.reduceNeg, Int.reduceMul, Int.reduceAdd, Int.reduceSub, decide_true, decide_false, List.length_cons, List.length_nil, beq_self_eq_true, not_false_eq_true, not_true_eq_false , gLenSet_eq, lsR_l, gCompN_eq, mkN_l, gCat2_eq, lstOf_l, insertM_r, extendM_r, gListRg_eq, gSlV_eq, slVK_s, gForM_eq, toSM_ok, gItM_eq, mkB_t, mkB_f, Bool.true_and, Bool.false_and]
        | _ =>
          simp only [whB] at e1 e2
          simp only [F_is_fraction, g_is_fraction, gSlN_eq, slN_r, slN_l, slNK_s, gRevN_eq, revN_r, revNK_s, tupleV_r, tupleV_l, gCallV_eq, gLend_eq, isNotBV_b, gRep_eq, repR_r, gZip_eq, zipR_t, zipR_l, gTry_eq, tryK_nx, tryK_ret, begin_eq, allR_nx, allR_ret, allR_exc, gSkip_eq, gSeq_eq, seqK_nx, seqK_ret, seqK_exc, toS_ok, toS_exc, toST_ok, toST_exc, toSL_ok, toSL_exc, gRet_eq, gAsg_eq, gSet_eq, gExpr_eq, gIfS_eq, gRaise_eq, gBin_eq, gUn_eq, gVar_eq, slotR_some, gC_eq, gArgs_nil, gArgs_cons, gTupE_eq, gLstE_eq, gNewE_eq, gCall_eq, gBi_eq, gB_eq, asB_bl, gAnd_eq, gOr_eq, gNot_eq, gVT_eq, gIf_eq, gChain_eq, chK_t, chK_f, chK_b, bnd_ok, bnd_exc, oo_some, gTo_eq, toK_some, tgName_eq, tgNil_eq, tgCons_eq, tgTup_eq, bind_some, gPar_eq, gCat_eq, catR_r, listV_t, listV_l, blsOf_nil, blsOf_cons, allV_l, isNV_d, notNV_d, parK_ok, parK_exc, gStore_eq, stK_some, gMeth_eq, gFor_eq, gRng1_eq, asI_i, gItL_eq, gItT_eq, asLst_l, asTup_t, addV_ii, subV_ii, mulV_ii, fdivV_ii, modV_ii, shlV_ii, pw6, pw9, pw18, pw19, pw20, pw25, pw30, pw39, ltV_ii, leV_ii, gtV_ii, geV_ii, negV_i, isNV_n, isNV_t, isNV_l, isNV_i, isNV_s, isNV_r, isNV_b, notNV_n, notNV_t, notNV_l, notNV_i, notNV_s, notNV_r, notNV_b, ixV_t, ixV_l, ixV_r, lenV_t, lenV_l, lenV_r, absV_i, max2V_ii, min2V_ii, bitsV_i, setIV_r, setK_some, setL_some, appendM_r, appK_some, appN_ok, isT_r, isK_l, lstK_some, tyK_l, isT_s, isiV_eq, tyN_int, tyN_bl, tyN_non, tyN_str, tyN_tup, tyN_lst, tyN_dct, tyN_r, kk_int_bool, kitK_t, kk_int_str, kk_int_tuple, kk_int_list, kk_int_dict, kk_int_NoneType, kk_bool_int, kk_bool_str, kk_bool_tuple, kk_bool_list, kk_bool_dict, kk_bool_NoneType, kk_str_int, kk_str_bool, kk_str_tuple, kk_str_list, kk_str_dict, kk_str_NoneType, kk_tuple_int, kk_tuple_bool, kk_tuple_str, kk_tuple_list, kk_tuple_dict, kk_tuple_NoneType, kk_list_int, kk_list_bool, kk_list_str, kk_list_tuple, kk_list_dict, kk_list_NoneType, kk_dict_int, kk_dict_bool, kk_dict_str, kk_dict_tuple, kk_dict_list, kk_dict_NoneType, eqV_int, neV_int, isBV_b, neV_bl, eqV_bl, eqV_ii, neV_ii, isNV_fr, notNV_fr, ixV_fr0, ixV_fr1, eqV_fr, neV_fr, int1V_b, int1V_i, ixV_hp0, ixV_hp1, isNV_hp, eqV_hp, neV_hp, tyN_fr, lenV_fr, at0, at1, at2, at3, at4, at5, ixN0, ixN1, List.map_cons, List.map_nil, List.replicate, List.cons_append, List.nil_append, List.getElem?_cons_zero, List.getElem?_cons_succ, List.set_cons_zero, List.set_cons_succ, Bool.not_true, Bool.not_false, Bool.false_eq_true, if_true, if_false, ite_true, ite_false, reduceIte, Nat.reduceSub, Nat.reduceAdd, ne_eq, Int.cast_ofNat_Int, Int.reduceBEq, Int.reduceLT, Int.reduceLE, Int.reduceEq, Int.reduceNeg, Int.reduceMul, Int.reduceAdd, Int.reduceSub, decide_true, decide_false, List.length_cons, List.length_nil, beq_self_eq_true, not_false_eq_true, not_true_eq_false , gLenSet_eq, lsR_l, gCompN_eq, mkN_l, gCat2_eq, lstOf_l, insertM_r, extendM_r, gListRg_eq, gSlV_eq, slVK_s, gForM_eq, toSM_ok, gItM_eq, mkB_t, mkB_f, e1, e2, i0, i1, l2, frB]
      | _ =>
        simp only [whB] at e1 e2
        simp only [F_is_fraction, g_is_fraction, gSlN_eq, slN_r, slN_l, slNK_s, gRevN_eq, revN_r, revNK_s, tupleV_r, tupleV_l, gCallV_eq, gLend_eq, isNotBV_b, gRep_eq, repR_r, gZip_eq, zipR_t, zipR_l, gTry_eq, tryK_nx, tryK_ret, begin_eq, allR_nx, allR_ret, allR_exc, gSkip_eq, gSeq_eq, seqK_nx, seqK_ret, seqK_exc, toS_ok, toS_exc, toST_ok, toST_exc, toSL_ok, toSL_exc, gRet_eq, gAsg_eq, gSet_eq, gExpr_eq, gIfS_eq, gRaise_eq, gBin_eq, gUn_eq, gVar_eq, slotR_some, gC_eq, gArgs_nil, gArgs_cons, gTupE_eq, gLstE_eq, gNewE_eq, gCall_eq, gBi_eq, gB_eq, asB_bl, gAnd_eq, gOr_eq, gNot_eq, gVT_eq, gIf_eq, gChain_eq, chK_t, chK_f, chK_b, bnd_ok, bnd_exc, oo_some, gTo_eq, toK_some, tgName_eq, tgNil_eq, tgCons_eq, tgTup_eq, bind_some, gPar_eq, gCat_eq, catR_r, listV_t, listV_l, blsOf_nil, blsOf_cons, allV_l, isNV_d, notNV_d, parK_ok, parK_exc, gStore_eq, stK_some, gMeth_eq, gFor_eq, gRng1_eq, asI_i, gItL_eq, gItT_eq, asLst_l, asTup_t, addV_ii, subV_ii, mulV_ii, fdivV_ii, modV_ii, shlV_ii, pw6, pw9, pw18, pw19, pw20, pw25, pw30, pw39, ltV_ii, leV_ii, gtV_ii, geV_ii, negV_i, isNV_n, isNV_t, isNV_l, isNV_i, isNV_s, isNV_r, isNV_b, notNV_n, notNV_t, notNV_l, notNV_i, notNV_s, notNV_r, notNV_b, ixV_t, ixV_l, ixV_r, lenV_t, lenV_l, lenV_r, absV_i, max2V_ii, min2V_ii, bitsV_i, setIV_r, setK_some, setL_some, appendM_r, appK_some, appN_ok, isT_r, isK_l, lstK_some, tyK_l, isT_s, isiV_eq, tyN_int, tyN_bl, tyN_non, tyN_str, tyN_tup, tyN_lst, tyN_dct, tyN_r, kk_int_bool, kitK_t, kk_int_str, kk_int_tuple, kk_int_list, kk_int_dict, kk_int_NoneType, kk_bool_int, kk_bool_str, kk_bool_tuple, kk_bool_list, kk_bool_dict, kk_bool_NoneType, kk_str_int, kk_str_bool, kk_str_tuple, kk_str_list, kk_str_dict, kk_str_NoneType, kk_tuple_int, kk_tuple_bool, kk_tuple_str, kk_tuple_list, kk_tuple_dict, kk_tuple_NoneType, kk_list_int, kk_list_bool, kk_list_str, kk_list_tuple, kk_list_dict, kk_list_NoneType, kk_dict_int, kk_dict_bool, kk_dict_str, kk_dict_tuple, kk_dict_list, kk_dict_NoneType, eqV_int, neV_int, isBV_b, neV_bl, eqV_bl, eqV_ii, neV_ii, isNV_fr, notNV_fr, ixV_fr0, ixV_fr1, eqV_fr, neV_fr, int1V_b, int1V_i, ixV_hp0, ixV_hp1, isNV_hp, eqV_hp, neV_hp, tyN_fr, lenV_fr, at0, at1, at2, at3, at4, at5, ixN0, ixN1, List.map_cons, List.map_nil, List.replicate, List.cons_append, List.nil_append, List.getElem?_cons_zero, List.getElem?_cons_succ, List.set_cons_zero, List.set_cons_succ, Bool.not_true, Bool.not_false, Bool.false_eq_true, if_true, if_false, ite_true, ite_false, reduceIte, Nat.reduceSub, Nat.reduceAdd, ne_eq, Int.cast_ofNat_Int, Int.reduceBEq, Int.reduceLT, Int.reduceLE, Int.reduceEq, Int.reduceNeg, Int.reduceMul, Int.reduceAdd, Int.reduceSub, decide_true, decide_false, List.length_cons, List.length_nil, beq_self_eq_true, not_false_eq_true, not_true_eq_false , gLenSet_eq, lsR_l, gCompN_eq, mkN_l, gCat2_eq, lstOf_l, insertM_r, extendM_r, gListRg_eq, gSlV_eq, slVK_s, gForM_eq, toSM_ok, gItM_eq, mkB_t, mkB_f, e1, e2, i0, i1, l2, frB]
    · have l3 := len3 l.length
      simp only [F_is_fraction, g_is_fraction, gSlN_eq, slN_r, slN_l, slNK_s, gRevN_eq, revN_r, revNK_s, tupleV_r, tupleV_l, gCallV_eq, gLend_eq, isNotBV_b, gRep_eq, repR_r, gZip_eq, zipR_t, zipR_l, gTry_eq, tryK_nx, tryK_ret, begin_eq, allR_nx, allR_ret, allR_exc, gSkip_eq, gSeq_eq, seqK_nx, seqK_ret, seqK_exc, toS_ok, toS_exc, toST_ok, toST_exc, toSL_ok, toSL_exc, gRet_eq, gAsg_eq, gSet_eq, gExpr_eq, gIfS_eq, gRaise_eq, gBin_eq, gUn_eq, gVar_eq, slotR_some, gC_eq, gArgs_nil, gArgs_cons, gTupE_eq, gLstE_eq, gNewE_eq, gCall_eq, gBi_eq, gB_eq, asB_bl, gAnd_eq, gOr_eq, gNot_eq, gVT_eq, gIf_eq, gChain_eq, chK_t, chK_f, chK_b, bnd_ok, bnd_exc, oo_some, gTo_eq, toK_some, tgName_eq, tgNil_eq, tgCons_eq, tgTup_eq, bind_some, gPar_eq, gCat_eq, catR_r, listV_t, listV_l, blsOf_nil, blsOf_cons, allV_l, isNV_d, notNV_d, parK_ok, parK_exc, gStore_eq, stK_some, gMeth_eq, gFor_eq, gRng1_eq, asI_i, gItL_eq, gItT_eq, asLst_l, asTup_t, addV_ii, subV_ii, mulV_ii, fdivV_ii, modV_ii, shlV_ii, pw6, pw9, pw18, pw19, pw20, pw25, pw30, pw39, ltV_ii, leV_ii, gtV_ii, geV_ii, negV_i, isNV_n, isNV_t, isNV_l, isNV_i, isNV_s, isNV_r, isNV_b, notNV_n, notNV_t, notNV_l, notNV_i, notNV_s, notNV_r, notNV_b, ixV_t, ixV_l, ixV_r, lenV_t, lenV_l, lenV_r, absV_i, max2V_ii, min2V_ii, bitsV_i, setIV_r, setK_some, setL_some, appendM_r, appK_some, appN_ok, isT_r, isK_l, lstK_some, tyK_l, isT_s, isiV_eq, tyN_int, tyN_bl, tyN_non, tyN_str, tyN_tup, tyN_lst, tyN_dct, tyN_r, kk_int_bool, kitK_t, kk_int_str, kk_int_tuple, kk_int_list, kk_int_dict, kk_int_NoneType, kk_bool_int, kk_bool_str, kk_bool_tuple, kk_bool_list, kk_bool_dict, kk_bool_NoneType, kk_str_int, kk_str_bool, kk_str_tuple, kk_str_list, kk_str_dict, kk_str_NoneType, kk_tuple_int, kk_tuple_bool, kk_tuple_str, kk_tuple_list, kk_tuple_dict, kk_tuple_NoneType, kk_list_int, kk_list_bool, kk_list_str, kk_list_tuple, kk_list_dict, kk_list_NoneType, kk_dict_int, kk_dict_bool, kk_dict_str, kk_dict_tuple, kk_dict_list, kk_dict_NoneType, eqV_int, neV_int, isBV_b, neV_bl, eqV_bl, eqV_ii, neV_ii, isNV_fr, notNV_fr, ixV_fr0, ixV_fr1, eqV_fr, neV_fr, int1V_b, int1V_i, ixV_hp0, ixV_hp1, isNV_hp, eqV_hp, neV_hp, tyN_fr, lenV_fr, at0, at1, at2, at3, at4, at5, ixN0, ixN1, List.map_cons, List.map_nil, List.replicate, List.cons_append, List.nil_append, List.getElem?_cons_zero, List.getElem?_cons_succ, List.set_cons_zero, List.set_cons_succ, Bool.not_true, Bool.not_false, Bool.false_eq_true, if_true, if_false, ite_true, ite_false, reduceIte, Nat.reduceSub, Nat.reduceAdd, ne_eq, Int.cast_ofNat_Int, Int.reduceBEq, Int.reduceLT, Int.reduceLE, Int.reduceEq, Int.reduceNeg, Int.reduceMul, Int.reduceAdd, Int.reduceSub, decide_true, decide_false, List.length_cons, List.length_nil, beq_self_eq_true, not_false_eq_true, not_true_eq_false , gLenSet_eq, lsR_l, gCompN_eq, mkN_l, gCat2_eq, lstOf_l, insertM_r, extendM_r, gListRg_eq, gSlV_eq, slVK_s, gForM_eq, toSM_ok, gItM_eq, mkB_t, mkB_f, frB, l3]
  | _ => simp only [F_is_fraction, g_is_fraction, gSlN_eq, slN_r, slN_l, slNK_s, gRevN_eq, revN_r, revNK_s, tupleV_r, tupleV_l, gCallV_eq, gLend_eq, isNotBV_b, gRep_eq, repR_r, gZip_eq, zipR_t, zipR_l, gTry_eq, tryK_nx, tryK_ret, begin_eq, allR_nx, allR_ret, allR_exc, gSkip_eq, gSeq_eq, seqK_nx, seqK_ret, seqK_exc, toS_ok, toS_exc, toST_ok, toST_exc, toSL_ok, toSL_exc, gRet_eq, gAsg_eq, gSet_eq, gExpr_eq, gIfS_eq, gRaise_eq, gBin_eq, gUn_eq, gVar_eq, slotR_some, gC_eq, gArgs_nil, gArgs_cons, gTupE_eq, gLstE_eq, gNewE_eq, gCall_eq, gBi_eq, gB_eq, asB_bl, gAnd_eq, gOr_eq, gNot_eq, gVT_eq, gIf_eq, gChain_eq, chK_t, chK_f, chK_b, bnd_ok, bnd_exc, oo_some, gTo_eq, toK_some, tgName_eq, tgNil_eq, tgCons_eq, tgTup_eq, bind_some, gPar_eq, gCat_eq, catR_r, listV_t, listV_l, blsOf_nil, blsOf_cons, allV_l, isNV_d, notNV_d, parK_ok, parK_exc, gStore_eq, stK_some, gMeth_eq, gFor_eq, gRng1_eq, asI_i, gItL_eq, gItT_eq, asLst_l, asTup_t, addV_ii, subV_ii, mulV_ii, fdivV_ii, modV_ii, shlV_ii, pw6, pw9, pw18, pw19, pw20, pw25, pw30, pw39, ltV_ii, leV_ii, gtV_ii, geV_ii, negV_i, isNV_n, isNV_t, isNV_l, isNV_i, isNV_s, isNV_r, isNV_b, notNV_n, notNV_t, notNV_l, notNV_i, notNV_s, notNV_r, notNV_b, ixV_t, ixV_l, ixV_r, lenV_t, lenV_l, lenV_r, absV_i, max2V_ii, min2V_ii, bitsV_i, setIV_r, setK_some, setL_some, appendM_r, appK_some, appN_ok, isT_r, isK_l, lstK_some, tyK_l, isT_s, isiV_eq, tyN_int, tyN_bl, tyN_non, tyN_str, tyN_tup, tyN_lst, tyN_dct, tyN_r, kk_int_bool, kitK_t, kk_int_str, kk_int_tuple, kk_int_list, kk_int_dict, kk_int_NoneType, kk_bool_int, kk_bool_str, kk_bool_tuple, kk_bool_list, kk_bool_dict, kk_bool_NoneType, kk_str_int, kk_str_bool, kk_str_tuple, kk_str_list, kk_str_dict, kk_str_NoneType, kk_tuple_int, kk_tuple_bool, kk_tuple_str, kk_tuple_list, kk_tuple_dict, kk_tuple_NoneType, kk_list_int, kk_list_bool, kk_list_str, kk_list_tuple, kk_list_dict, kk_list_NoneType, kk_dict_int, kk_dict_bool, kk_dict_str, kk_dict_tuple, kk_dict_list, kk_dict_NoneType, eqV_int, neV_int, isBV_b, neV_bl, eqV_bl, eqV_ii, neV_ii, isNV_fr, notNV_fr, ixV_fr0, ixV_fr1, eqV_fr, neV_fr, int1V_b, int1V_i, ixV_hp0, ixV_hp1, isNV_hp, eqV_hp, neV_hp, tyN_fr, lenV_fr, at0, at1, at2, at3, at4, at5, ixN0, ixN1, List.map_cons, List.map_nil, List.replicate, List.cons_append, List.nil_append, List.getElem?_cons_zero, List.getElem?_cons_succ, List.set_cons_zero, List.set_cons_succ, Bool.not_true, Bool.not_false, Bool.false_eq_true, if_true, if_false, ite_true, ite_false, reduceIte, Nat.reduceSub, Nat.reduceAdd, ne_eq, Int.cast_ofNat_Int, Int.reduceBEq, Int.reduceLT, Int.reduceLE, Int.reduceEq, Int.reduceNeg, Int.reduceMul, Int.reduceAdd, Int.reduceSub, decide_true, decide_false, List.length_cons, List.length_nil, beq_self_eq_true, not_false_eq_true, not_true_eq_false , gLenSet_eq, lsR_l, gCompN_eq, mkN_l, gCat2_eq, lstOf_l, insertM_r, extendM_r, gListRg_eq, gSlV_eq, slVK_s, gForM_eq, toSM_ok, gItM_eq, mkB_t, mkB_f, frB]
theorem isfr_fr (q : Rat) {st : List SO} : F_is_fraction [fr q] st = .ok (.bl true) st := by
  have h := frB_fr q
  unfold frB fr at h
  have d := dpos q
  simp only [d, decide_true, Bool.true_and] at h
  have l2 : ((([PV.int q.num, .int (q.den : Int)] : List PV).length : Int) == 2) = true := rfl
  simp only [F_is_fraction, g_is_fraction, gSlN_eq, slN_r, slN_l, slNK_s, gRevN_eq, revN_r, revNK_s, tupleV_r, tupleV_l, gCallV_eq, gLend_eq, isNotBV_b, gRep_eq, repR_r, gZip_eq, zipR_t, zipR_l, gTry_eq, tryK_nx, tryK_ret, begin_eq, allR_nx, allR_ret, allR_exc, gSkip_eq, gSeq_eq, seqK_nx, seqK_ret, seqK_exc, toS_ok, toS_exc, toST_ok, toST_exc, toSL_ok, toSL_exc, gRet_eq, gAsg_eq, gSet_eq, gExpr_eq, gIfS_eq, gRaise_eq, gBin_eq, gUn_eq, gVar_eq, slotR_some, gC_eq, gArgs_nil, gArgs_cons, gTupE_eq, gLstE_eq, gNewE_eq, gCall_eq, gBi_eq, gB_eq, asB_bl, gAnd_eq, gOr_eq, gNot_eq, gVT_eq, gIf_eq, gChain_eq, chK_t, chK_f, chK_b, bnd_ok, bnd_exc, oo_some, gTo_eq, toK_some, tgName_eq, tgNil_eq, tgCons_eq, tgTup_eq, bind_some, gPar_eq, gCat_eq, catR_r, listV_t, listV_l, blsOf_nil, blsOf_cons, allV_l, isNV_d, notNV_d, parK_ok, parK_exc, gStore_eq, stK_some, gMeth_eq, gFor_eq, gRng1_eq, asI_i, gItL_eq, gItT_eq, asLst_l, asTup_t, addV_ii, subV_ii, mulV_ii, fdivV_ii, modV_ii, shlV_ii, pw6, pw9, pw18, pw19, pw20, pw25, pw30, pw39, ltV_ii, leV_ii, gtV_ii, geV_ii, negV_i, isNV_n, isNV_t, isNV_l, isNV_i, isNV_s, isNV_r, isNV_b, notNV_n, notNV_t, notNV_l, notNV_i, notNV_s, notNV_r, notNV_b, ixV_t, ixV_l, ixV_r, lenV_t, lenV_l, lenV_r, absV_i, max2V_ii, min2V_ii, bitsV_i, setIV_r, setK_some, setL_some, appendM_r, appK_some, appN_ok, isT_r, isK_l, lstK_some, tyK_l, isT_s, isiV_eq, tyN_int, tyN_bl, tyN_non, tyN_str, tyN_tup, tyN_lst, tyN_dct, tyN_r, kk_int_bool, kitK_t, kk_int_str, kk_int_tuple, kk_int_list, kk_int_dict, kk_int_NoneType, kk_bool_int, kk_bool_str, kk_bool_tuple, kk_bool_list, kk_bool_dict, kk_bool_NoneType, kk_str_int, kk_str_bool, kk_str_tuple, kk_str_list, kk_str_dict, kk_str_NoneType, kk_tuple_int, kk_tuple_bool, kk_tuple_str, kk_tuple_list, kk_tuple_dict, kk_tuple_NoneType, kk_list_int, kk_list_bool, kk_list_str, kk_list_tuple, kk_list_dict, kk_list_NoneType, kk_dict_int, kk_dict_bool, kk_dict_str, kk_dict_tuple, kk_dict_list, kk_dict_NoneType, eqV_int, neV_int, isBV_b, neV_bl, eqV_bl, eqV_ii, neV_ii, isNV_fr, notNV_fr, ixV_fr0, ixV_fr1, eqV_fr, neV_fr, int1V_b, int1V_i, ixV_hp0, ixV_hp1, isNV_hp, eqV_hp, neV_hp, tyN_fr, lenV_fr, at0, at1, at2, at3, at4, at5, ixN0, ixN1, List.map_cons, List.map_nil, List.replicate, List.cons_append, List.nil_append, List.getElem?_cons_zero, List.getElem?_cons_succ, List.set_cons_zero, List.set_cons_succ, Bool.not_true, Bool.not_false, Bool.false_eq_true, if_true, if_false, ite_true, ite_false, reduceIte, Nat.reduceSub, Nat.reduceAdd, ne_eq, Int.cast_ofNat_Int, Int.reduceBEq, Int.reduceLT, Int.reduceLE, Int.reduceEq, Int.reduceNeg, Int.reduceMul, Int.reduceAdd, Int.reduceSub, decide_true, decide_false, List.length_cons, List.length_nil, beq_self_eq_true, not_false_eq_true, not_true_eq_false , gLenSet_eq, lsR_l, gCompN_eq, mkN_l, gCat2_eq, lstOf_l, insertM_r, extendM_r, gListRg_eq, gSlV_eq, slVK_s, gForM_eq, toSM_ok, gItM_eq, mkB_t, mkB_f, fr, whole_i, common_ok, d, h]

noncomputable def g_is_hap (F_is_fraction : Fn) : GS :=
  (gRet (gVT (gAnd (gB (gBi isiV [(gVar 0), (gC (.ty "tuple"))])) (gAnd (gB (gBin eqV (gBi lenV [(gVar 0)]) (gC (.int 2)))) (gAnd (gB (gCall F_is_fraction [(gBin ixV (gVar 0) (gC (.int 0)))])) (gB (gCall F_is_fraction [(gBin ixV (gVar 0) (gC (.int 1)))])))))))
noncomputable def F_is_hap : Fn := fun xs st => allR (g_is_hap F_is_fraction (begin 1 1 xs) st)
theorem ishap_ok {x : PV} {st : List SO} (h : P2 x) : F_is_hap [x] st = .ok (.bl (hapB x)) st := by
  cases x with
  | ty _ => exact h.1.elim
  | cls _ => exact h.1.elim
  | exc _ => exact h.1.elim
  | ref _ => exact h.1.elim
  | tup ys =>
    rcases ys with _ | ⟨a, _ | ⟨b, _ | ⟨c, l⟩⟩⟩
    · simp only [F_is_hap, g_is_hap, gSlN_eq, slN_r, slN_l, slNK_s, gRevN_eq, revN_r, revNK_s, tupleV_r, tupleV_l, gCallV_eq, gLend_eq, isNotBV_b, gRep_eq, repR_r, gZip_eq, zipR_t, zipR_l, gTry_eq, tryK_nx, tryK_ret, begin_eq, allR_nx, allR_ret, allR_exc, gSkip_eq, gSeq_eq, seqK_nx, seqK_ret, seqK_exc, toS_ok, toS_exc, toST_ok, toST_exc, toSL_ok, toSL_exc, gRet_eq, gAsg_eq, gSet_eq, gExpr_eq, gIfS_eq, gRaise_eq, gBin_eq, gUn_eq, gVar_eq, slotR_some, gC_eq, gArgs_nil, gArgs_cons, gTupE_eq, gLstE_eq, gNewE_eq, gCall_eq, gBi_eq, gB_eq, asB_bl, gAnd_eq, gOr_eq, gNot_eq, gVT_eq, gIf_eq, gChain_eq, chK_t, chK_f, chK_b, bnd_ok, bnd_exc, oo_some, gTo_eq, toK_some, tgName_eq, tgNil_eq, tgCons_eq, tgTup_eq, bind_some, gPar_eq, gCat_eq, catR_r, listV_t, listV_l, blsOf_nil, blsOf_cons, allV_l, isNV_d, notNV_d, parK_ok, parK_exc, gStore_eq, stK_some, gMeth_eq, gFor_eq, gRng1_eq, asI_i, gItL_eq, gItT_eq, asLst_l, asTup_t, addV_ii, subV_ii, mulV_ii, fdivV_ii, modV_ii, shlV_ii, pw6, pw9, pw18, pw19, pw20, pw25, pw30, pw39, ltV_ii, leV_ii, gtV_ii, geV_ii, negV_i, isNV_n, isNV_t, isNV_l, isNV_i, isNV_s, isNV_r, isNV_b, notNV_n, notNV_t, notNV_l, notNV_i, notNV_s, notNV_r, notNV_b, ixV_t, ixV_l, ixV_r, lenV_t, lenV_l, lenV_r, absV_i, max2V_ii, min2V_ii, bitsV_i, setIV_r, setK_some, setL_some, appendM_r, appK_some, appN_ok, isT_r, isK_l, lstK_some, tyK_l, isT_s, isiV_eq, tyN_int, tyN_bl, tyN_non, tyN_str, tyN_tup, tyN_lst, tyN_dct, tyN_r, kk_int_bool, kitK_t, kk_int_str, kk_int_tuple, kk_int_list, kk_int_dict, kk_int_NoneType, kk_bool_int, kk_bool_str, kk_bool_tuple, kk_bool_list, kk_bool_dict, kk_bool_NoneType, kk_str_int, kk_str_bool, kk_str_tuple, kk_str_list, kk_str_dict, kk_str_NoneType, kk_tuple_int, kk_tuple_bool, kk_tuple_str, kk_tuple_list, kk_tuple_dict, kk_tuple_NoneType, kk_list_int, kk_list_bool, kk_list_str, kk_list_tuple, kk_list_dict, kk_list_NoneType, kk_dict_int, kk_dict_bool, kk_dict_str, kk_dict_tuple, kk_dict_list, kk_dict_NoneType, eqV_int, neV_int, isBV_b, neV_bl, eqV_bl, eqV_ii, neV_ii, isNV_fr, notNV_fr, ixV_fr0, ixV_fr1, eqV_fr, neV_fr, int1V_b, int1V_i, ixV_hp0, ixV_hp1, isNV_hp, eqV_hp, neV_hp, tyN_fr, lenV_fr, at0, at1, at2, at3, at4, at5, ixN0, ixN1, List.map_cons, List.map_nil, List.replicate, List.cons_append, List.nil_append, List.getElem?_cons_zero, List.getElem?_cons_succ, List.set_cons_zero, List.set_cons_succ, Bool.not_true, Bool.not_false, Bool.false_eq_true, if_true, if_false, ite_true, ite_false, reduceIte, Nat.reduceSub, Nat.reduceAdd, ne_eq, Int.cast_ofNat_Int, Int.reduceBEq, Int.reduceLT, Int.reduceLE, Int.reduceEq, Int.reduceNeg, Int.reduceMul, Int.reduceAdd, Int.reduceSub, decide_true, decide_false, List.length_cons, List.length_nil, beq_self_eq_true, not_false_eq_true, not_true_eq_false , gLenSet_eq, lsR_l, gCompN_eq, mkN_l, gCat2_eq, lstOf_l, insertM_r, extendM_r, gListRg_eq, gSlV_eq, slVK_s, gForM_eq, toSM_ok, gItM_eq, mkB_t, mkB_f, hapB, Int.natCast_zero, List.length_nil, Int.reduceBEq, Int.reduceEq]
    · simp only [F_is_hap, g_is_hap, gSlN_eq, slN_r, slN_l, slNK_s, gRevN_eq, revN_r, revNK_s, tupleV_r, tupleV_l, gCallV_eq, gLend_eq, isNotBV_b, gRep_eq, repR_r, gZip_eq, zipR_t, zipR_l, gTry_eq, tryK_nx, tryK_ret, begin_eq, allR_nx, allR_ret, allR_exc, gSkip_eq, gSeq_eq, seqK_nx, seqK_ret, seqK_exc, toS_ok, toS_exc, toST_ok, toST_exc, toSL_ok, toSL_exc, gRet_eq, gAsg_eq, gSet_eq, gExpr_eq, gIfS_eq, gRaise_eq, gBin_eq, gUn_eq, gVar_eq, slotR_some, gC_eq, gArgs_nil, gArgs_cons, gTupE_eq, gLstE_eq, gNewE_eq, gCall_eq, gBi_eq, gB_eq, asB_bl, gAnd_eq, gOr_eq, gNot_eq, gVT_eq, gIf_eq, gChain_eq, chK_t, chK_f, chK_b, bnd_ok, bnd_exc, oo_some, gTo_eq, toK_some, tgName_eq, tgNil_eq, tgCons_eq, tgTup_eq, bind_some, gPar_eq, gCat_eq, catR_r, listV_t, listV_l, blsOf_nil, blsOf_cons, allV_l, isNV_d, notNV_d, parK_ok, parK_exc, gStore_eq, stK_some, gMeth_eq, gFor_eq, gRng1_eq, asI_i, gItL_eq, gItT_eq, asLst_l, asTup_t, addV_ii, subV_ii, mulV_ii, fdivV_ii, modV_ii, shlV_ii, pw6, pw9, pw18, pw19, pw20, pw25, pw30, pw39, ltV_ii, leV_ii, gtV_ii, geV_ii, negV_i, isNV_n, isNV_t, isNV_l, isNV_i, isNV_s, isNV_r, isNV_b, notNV_n, notNV_t, notNV_l, notNV_i, notNV_s, notNV_r, notNV_b, ixV_t, ixV_l, ixV_r, lenV_t, lenV_l, lenV_r, absV_i, max2V_ii, min2V_ii, bitsV_i, setIV_r, setK_some, setL_some, appendM_r, appK_some, appN_ok, isT_r, isK_l, lstK_some, tyK_l, isT_s, isiV_eq, tyN_int, tyN_bl, tyN_non, tyN_str, tyN_tup, tyN_lst, tyN_dct, tyN_r, kk_int_bool, kitK_t, kk_int_str, kk_int_tuple, kk_int_list, kk_int_dict, kk_int_NoneType, kk_bool_int, kk_bool_str, kk_bool_tuple, kk_bool_list, kk_bool_dict, kk_bool_NoneType, kk_str_int, kk_str_bool, kk_str_tuple, kk_str_list, kk_str_dict, kk_str_NoneType, kk_tuple_int, kk_tuple_bool, kk_tuple_str, kk_tuple_list, kk_tuple_dict, kk_tuple_NoneType, kk_list_int, kk_list_bool, kk_list_str, kk_list_tuple, kk_list_dict, kk_list_NoneType, kk_dict_int, kk_dict_bool, kk_dict_str, kk_dict_tuple, kk_dict_list, kk_dict_NoneType, eqV_int, neV_int, isBV_b, neV_bl, eqV_bl, eqV_ii, neV_ii, isNV_fr, notNV_fr, ixV_fr0, ixV_fr1, eqV_fr, neV_fr, int1V_b, int1V_i, ixV_hp0, ixV_hp1, isNV_hp, eqV_hp, neV_hp, tyN_fr, lenV_fr, at0, at1, at2, at3, at4, at5, ixN0, ixN1, List.map_cons, List.map_nil, List.replicate, List.cons_append, List.nil_append, List.getElem?_cons_zero, List.getElem?_cons_succ, List.set_cons_zero, List.set_cons_succ, Bool.not_true, Bool.not_false, Bool.false_eq_true, if_true, if_false, ite_true, ite_false, reduceIte, Nat.reduceSub, Nat.reduceAdd, ne_eq, Int.cast_ofNat_Int, Int.reduceBEq, Int.reduceLT, Int.reduceLE, Int.reduceEq, Int.reduceNeg, Int.reduceMul, Int.reduceAdd, Int.reduceSub, decide_true, decide_false, List.length_cons, List.length_nil, beq_self_eq_true, not_false_eq_true, not_true_eq_false , gLenSet_eq, lsR_l, gCompN_eq, mkN_l, gCat2_eq, lstOf_l, insertM_r, extendM_r, gListRg_eq, gSlV_eq, slVK_s, gForM_eq, toSM_ok, gItM_eq, mkB_t, mkB_f, hapB, List.length_cons, List.length_nil]
    · have e1 := isfr_ok (st := st) (h.2 _ rfl a (by simp))
      have e2 := isfr_ok (st := st) (h.2 _ rfl b (by simp))
      have i0 : atI [a, b] 0 = some a := at0
      have i1 : atI [a, b] 1 = some b := at1
      have l2 : ((([a, b] : List PV).length : Int) == 2) = true := rfl
      simp only [F_is_hap, g_is_hap, gSlN_eq, slN_r, slN_l, slNK_s, gRevN_eq, revN_r, revNK_s, tupleV_r, tupleV_l, gCallV_eq, gLend_eq, isNotBV_b, gRep_eq, repR_r, gZip_eq, zipR_t, zipR_l, gTry_eq, tryK_nx, tryK_ret, begin_eq, allR_nx, allR_ret, allR_exc, gSkip_eq, gSeq_eq, seqK_nx, seqK_ret, seqK_exc, toS_ok, toS_exc, toST_ok, toST_exc, toSL_ok, toSL_exc, gRet_eq, gAsg_eq, gSet_eq, gExpr_eq, gIfS_eq, gRaise_eq, gBin_eq, gUn_eq, gVar_eq, slotR_some, gC_eq, gArgs_nil, gArgs_cons, gTupE_eq, gLstE_eq, gNewE_eq, gCall_eq, gBi_eq, gB_eq, asB_bl, gAnd_eq, gOr_eq, gNot_eq, gVT_eq, gIf_eq, gChain_eq, chK_t, chK_f, chK_b, bnd_ok, bnd_exc, oo_some, gTo_eq, toK_some, tgName_eq, tgNil_eq, tgCons_eq, tgTup_eq, bind_some, gPar_eq, gCat_eq, catR_r, listV_t, listV_l, blsOf_nil, blsOf_cons, allV_l, isNV_d, notNV_d, parK_ok, parK_exc, gStore_eq, stK_some, gMeth_eq, gFor_eq, gRng1_eq, asI_i, gItL_eq, gItT_eq, asLst_l, asTup_t, addV_ii, subV_ii, mulV_ii, fdivV_ii, modV_ii, shlV_ii, pw6, pw9, pw18, pw19, pw20, pw25, pw30, pw39, ltV_ii, leV_ii, gtV_ii, geV_ii, negV_i, isNV_n, isNV_t, isNV_l, isNV_i, isNV_s, isNV_r, isNV_b, notNV_n, notNV_t, notNV_l, notNV_i, notNV_s, notNV_r, notNV_b, ixV_t, ixV_l, ixV_r, lenV_t, lenV_l, lenV_r, absV_i, max2V_ii, min2V_ii, bitsV_i, setIV_r, setK_some, setL_some, appendM_r, appK_some, appN_ok, isT_r, isK_l, lstK_some, tyK_l, isT_s, isiV_eq, tyN_int, tyN_bl, tyN_non, tyN_str, tyN_tup, tyN_lst, tyN_dct, tyN_r, kk_int_bool, kitK_t, kk_int_str, kk_int_tuple, kk_int_list, kk_int_dict, kk_int_NoneType, kk_bool_int, kk_bool_str, kk_bool_tuple, kk_bool_list, kk_bool_dict, kk_bool_NoneType, kk_str_int, kk_str_bool, kk_str_tuple, kk_str_list, kk_str_dict, kk_str_NoneType, kk_tuple_int, kk_tuple_bool, kk_tuple_str, kk_tuple_list, kk_tuple_dict, kk_tuple_NoneType, kk_list_int, kk_list_bool, kk_list_str, kk_list_tuple, kk_list_dict, kk_list_NoneType, kk_dict_int, kk_dict_bool, kk_dict_str, kk_dict_tuple, kk_dict_list, kk_dict_NoneType, eqV_int, neV_int, isBV_b, neV_bl, eqV_bl, eqV_ii, neV_ii, isNV_fr, notNV_fr, ixV_fr0, ixV_fr1, eqV_fr, neV_fr, int1V_b, int1V_i, ixV_hp0, ixV_hp1, isNV_hp, eqV_hp, neV_hp, tyN_fr, lenV_fr, at0, at1, at2, at3, at4, at5, ixN0, ixN1, List.map_cons, List.map_nil, List.replicate, List.cons_append, List.nil_append, List.getElem?_cons_zero, List.getElem?_cons_succ, List.set_cons_zero, List.set_cons_succ, Bool.not_true, Bool.not_false, Bool.false_eq_true, if_true, if_false, ite_true, ite_false, reduceIte, Nat.reduceSub, Nat.reduceAdd, ne_eq, Int.cast_ofNat_Int, Int.reduceBEq, Int.reduceLT, Int.reduceLE, Int.reduceEq, Int.reduceNeg, Int.reduceMul, Int.reduceAdd, Int.reduceSub, decide_true, decide_false, List.length_cons, List.length_nil, beq_self_eq_true, not_false_eq_true, not_true_eq_false , gLenSet_eq, lsR_l, gCompN_eq, mkN_l, gCat2_eq, lstOf_l, insertM_r, extendM_r, gListRg_eq, gSlV_eq, slVK_s, gForM_eq, toSM_ok, gItM_eq, mkB_t, mkB_f, e1, e2, i0, i1, l2, hapB]
      cases frB a <;> simp only [gSlN_eq, slN_r, slN_l, slNK_s, gRevN_eq, revN_r, revNK_s, tupleV_r, tupleV_l, gCallV_eq, gLend_eq, isNotBV_b, gRep_eq, repR_r, gZip_eq, zipR_t, zipR_l, gTry_eq, tryK_nx, tryK_ret, begin_eq, allR_nx, allR_ret, allR_exc, gSkip_eq, gSeq_eq, seqK_nx, seqK_ret, seqK_exc, toS_ok, toS_exc, toST_ok, toST_exc, toSL_ok, toSL_exc, gRet_eq, gAsg_eq, gSet_eq, gExpr_eq, gIfS_eq, gRaise_eq, gBin_eq, gUn_eq, gVar_eq, slotR_some, gC_eq, gArgs_nil, gArgs_cons, gTupE_eq, gLstE_eq, gNewE_eq, gCall_eq, gBi_eq, gB_eq, asB_bl, gAnd_eq, gOr_eq, gNot_eq, gVT_eq, gIf_eq, gChain_eq, chK_t, chK_f, chK_b, bnd_ok, bnd_exc, oo_some, gTo_eq, toK_some, tgName_eq, tgNil_eq, tgCons_eq, tgTup_eq, bind_some, gPar_eq, gCat_eq, catR_r, listV_t, listV_l, blsOf_nil, blsOf_cons, allV_l, isNV_d, notNV_d, parK_ok, parK_exc, gStore_eq, stK_some, gMeth_eq, gFor_eq, gRng1_eq, asI_i, gItL_eq, gItT_eq, asLst_l, asTup_t, addV_ii, subV_ii, mulV_ii, fdivV_ii, modV_ii, shlV_ii, pw6, pw9, pw18, pw19, pw20, pw25, pw30, pw39, ltV_ii, leV_ii, gtV_ii, geV_ii, negV_i, isNV_n, isNV_t, isNV_l, isNV_i, isNV_s, isNV_r, isNV_b, notNV_n, notNV_t, notNV_l, notNV_i, notNV_s, notNV_r, notNV_b, ixV_t, ixV_l, ixV_r, lenV_t, lenV_l, lenV_r, absV_i, max2V_ii, min2V_ii, bitsV_i, setIV_r, setK_some, setL_some, appendM_r, appK_some, appN_ok, isT_r, isK_l, lstK_some, tyK_l, isT_s, isiV_eq, tyN_int, tyN_bl, tyN_non, tyN_str, tyN_tup, tyN_lst, tyN_dct, tyN_r, kk_int_bool, kitK_t, kk_int_str, kk_int_tuple, kk_int_list, kk_int_dict, kk_int_NoneType, kk_bool_int, kk_bool_str, kk_bool_tuple, kk_bool_list, kk_bool_dict, kk_bool_NoneType, kk_str_int, kk_str_bool, kk_str_tuple, kk_str_list, kk_str_dict, kk_str_NoneType, kk_tuple_int, kk_tuple_bool, kk_tuple_str, kk_tuple_list, kk_tuple_dict, kk_tuple_NoneType, kk_list_int, kk_list_bool, kk_list_str, kk_list_tuple, kk_list_dict, kk_list_NoneType, kk_dict_int, kk_dict_bool, kk_dict_str, kk_dict_tuple, kk_dict_list, kk_dict_NoneType, eqV_int, neV_int, isBV_b, neV_bl, eqV_bl, eqV_ii, neV_ii, isNV_fr, notNV_fr, ixV_fr0, ixV_fr1, eqV_fr, neV_fr, int1V_b, int1V_i, ixV_hp0, ixV_hp1, isNV_hp, eqV_hp, neV_hp, tyN_fr, lenV_fr, at0, at1, at2, at3, at4, at5, ixN0, ixN1, List.map_cons, List.map_nil, List.replicate, List.cons_append, List.nil_append, List.getElem?_cons_zero, List.getElem?_cons_succ, List.set_cons_zero, List.set_cons_succ, Bool.not_true, Bool.not_false, Bool.false_eq_true, if_true, if_false, ite_true, ite_false, reduceIte, Nat.reduceSub, Nat.reduceAdd, ne_eq, Int.cast_ofNat_Int, Int.reduceBEq, Int.reduceLT, Int.reduceLE, Int.reduceEq, Int.reduceNeg, Int.reduceMul, Int.reduceAdd, Int.reduceSub, decide_true, decide_false, List.length_cons, List.length_nil, beq_self_eq_true, not_false_eq_true, not_true_eq_false , gLenSet_eq, lsR_l, gCompN_eq, mkN_l, gCat2_eq, lstOf_l, insertM_r, extendM_r, gListRg_eq, gSlV_eq, slVK_s, gForM_eq, toSM_ok, gItM_eq, mkB_t, mkB_f, Bool.true_and, Bool.false_and]
    · have l3 := len3 l.length
      simp only [F_is_hap, g_is_hap, gSlN_eq, slN_r, slN_l, slNK_s, gRevN_eq, revN_r, revNK_s, tupleV_r, tupleV_l, gCallV_eq, gLend_eq, isNotBV_b, gRep_eq, repR_r, gZip_eq, zipR_t, zipR_l, gTry_eq, tryK_nx, tryK_ret, begin_eq, allR_nx, allR_ret, allR_exc, gSkip_eq, gSeq_eq, seqK_nx, seqK_ret, seqK_exc, toS_ok, toS_exc, toST_ok, toST_exc, toSL_ok, toSL_exc, gRet_eq, gAsg_eq, gSet_eq, gExpr_eq, gIfS_eq, gRaise_eq, gBin_eq, gUn_eq, gVar_eq, slotR_some, gC_eq, gArgs_nil, gArgs_cons, gTupE_eq, gLstE_eq, gNewE_eq, gCall_eq, gBi_eq, gB_eq, asB_bl, gAnd_eq, gOr_eq, gNot_eq, gVT_eq, gIf_eq, gChain_eq, chK_t, chK_f, chK_b, bnd_ok, bnd_exc, oo_some, gTo_eq, toK_some, tgName_eq, tgNil_eq, tgCons_eq, tgTup_eq, bind_some, gPar_eq, gCat_eq, catR_r, listV_t, listV_l, blsOf_nil, blsOf_cons, allV_l, isNV_d, notNV_d, parK_ok, parK_exc, gStore_eq, stK_some, gMeth_eq, gFor_eq, gRng1_eq, asI_i, gItL_eq, gItT_eq, asLst_l, asTup_t, addV_ii, subV_ii, mulV_ii, fdivV_ii, modV_ii, shlV_ii, pw6, pw9, pw18, pw19, pw20, pw25, pw30, pw39, ltV_ii, leV_ii, gtV_ii, geV_ii, negV_i, isNV_n, isNV_t, isNV_l, isNV_i, isNV_s, isNV_r, isNV_b, notNV_n, notNV_t, notNV_l, notNV_i, notNV_s, notNV_r, notNV_b, ixV_t, ixV_l, ixV_r, lenV_t, lenV_l, lenV_r, absV_i, max2V_ii, min2V_ii, bitsV_i, setIV_r, setK_some, setL_some, appendM_r, appK_some, appN_ok, isT_r, isK_l, lstK_some, tyK_l, isT_s, isiV_eq, tyN_int, tyN_bl, tyN_non, tyN_str, tyN_tup, tyN_lst, tyN_dct, tyN_r, kk_int_bool, kitK_t, kk_int_str, kk_int_tuple, kk_int_list, kk_int_dict, kk_int_NoneType, kk_bool_int, kk_bool_str, kk_bool_tuple, kk_bool_list, kk_bool_dict, kk_bool_NoneType, kk_str_int, kk_str_bool, kk_str_tuple, kk_str_list, kk_str_dict, kk_str_NoneType, kk_tuple_int, kk_tuple_bool, kk_tuple_str, kk_tuple_list, kk_tuple_dict, kk_tuple_NoneType, kk_list_int, kk_list_bool, kk_list_str, kk_list_tuple, kk_list_dict, kk_list_NoneType, kk_dict_int, kk_dict_bool, kk_dict_str, kk_dict_tuple, kk_dict_list, kk_dict_NoneType, eqV_int, neV_int, isBV_b, neV_bl, eqV_bl, eqV_ii, neV_ii, isNV_fr, notNV_fr, ixV_fr0, ixV_fr1, eqV_fr, neV_fr, int1V_b, int1V_i, ixV_hp0, ixV_hp1, isNV_hp, eqV_hp, neV_hp, tyN_fr, lenV_fr, at0, at1, at2, at3, at4, at5, ixN0, ixN1, List.map_cons, List.map_nil, List.replicate, List.cons_append, List.nil_append, List.getElem?_cons_zero, List.getElem?_cons_succ, List.set_cons_zero, List.set_cons_succ, Bool.not_true, Bool.not_false, Bool.false_eq_true, if_true, if_false, ite_true, ite_false, reduceIte, Nat.reduceSub, Nat.reduceAdd, ne_eq, Int.cast_ofNat_Int, Int.reduceBEq, Int.reduceLT, Int.reduceLE, Int.reduceEq, Int.reduceNeg, Int.reduceMul, Int.reduceAdd, Int.reduceSub, decide_true, decide_false, List.length_cons, List.length_nil, beq_self_eq_true, not_false_eq_true, not_true_eq_false , gLenSet_eq, lsR_l, gCompN_eq, mkN_l, gCat2_eq, lstOf_l, insertM_r, extendM_r, gListRg_eq, gSlV_eq, slVK_s, gForM_eq, toSM_ok, gItM_eq, mkB_t, mkB_f, hapB, l3]
  | _ => simp only [F_is_hap, g_is_hap, gSlN_eq, slN_r, slN_l, slNK_s, gRevN_eq, revN_r, revNK_s, tupleV_r, tupleV_l, gCallV_eq, gLend_eq, isNotBV_b, gRep_eq, repR_r, gZip_eq, zipR_t, zipR_l, gTry_eq, tryK_nx, tryK_ret, begin_eq, allR_nx, allR_ret, allR_exc, gSkip_eq, gSeq_eq, seqK_nx, seqK_ret, seqK_exc, toS_ok, toS_exc, toST_ok, toST_exc, toSL_ok, toSL_exc, gRet_eq, gAsg_eq, gSet_eq, gExpr_eq, gIfS_eq, gRaise_eq, gBin_eq, gUn_eq, gVar_eq, slotR_some, gC_eq, gArgs_nil, gArgs_cons, gTupE_eq, gLstE_eq, gNewE_eq, gCall_eq, gBi_eq, gB_eq, asB_bl, gAnd_eq, gOr_eq, gNot_eq, gVT_eq, gIf_eq, gChain_eq, chK_t, chK_f, chK_b, bnd_ok, bnd_exc, oo_some, gTo_eq, toK_some, tgName_eq, tgNil_eq, tgCons_eq, tgTup_eq, bind_some, gPar_eq, gCat_eq, catR_r, listV_t, listV_l, blsOf_nil, blsOf_cons, allV_l, isNV_d, notNV_d, parK_ok, parK_exc, gStore_eq, stK_some, gMeth_eq, gFor_eq, gRng1_eq, asI_i, gItL_eq, gItT_eq, asLst_l, asTup_t, addV_ii, subV_ii, mulV_ii, fdivV_ii, modV_ii, shlV_ii, pw6, pw9, pw18, pw19, pw20, pw25, pw30, pw39, ltV_ii, leV_ii, gtV_ii, geV_ii, negV_i, isNV_n, isNV_t, isNV_l, isNV_i, isNV_s, isNV_r, isNV_b, notNV_n, notNV_t, notNV_l, notNV_i, notNV_s, notNV_r, notNV_b, ixV_t, ixV_l, ixV_r, lenV_t, lenV_l, lenV_r, absV_i, max2V_ii, min2V_ii, bitsV_i, setIV_r, setK_some, setL_some, appendM_r, appK_some, appN_ok, isT_r, isK_l, lstK_some, tyK_l, isT_s, isiV_eq, tyN_int, tyN_bl, tyN_non, tyN_str, tyN_tup, tyN_lst, tyN_dct, tyN_r, kk_int_bool, kitK_t, kk_int_str, kk_int_tuple, kk_int_list, kk_int_dict, kk_int_NoneType, kk_bool_int, kk_bool_str, kk_bool_tuple, kk_bool_list, kk_bool_dict, kk_bool_NoneType, kk_str_int, kk_str_bool, kk_str_tuple, kk_str_list, kk_str_dict, kk_str_NoneType, kk_tuple_int, kk_tuple_bool, kk_tuple_str, kk_tuple_list, kk_tuple_dict, kk_tuple_NoneType, kk_list_int, kk_list_bool, kk_list_str, kk_list_tuple, kk_list_dict, kk_list_NoneType, kk_dict_int, kk_dict_bool, kk_dict_str, kk_dict_tuple, kk_dict_list, kk_dict_NoneType, eqV_int, neV_int, isBV_b, neV_bl, eqV_bl, eqV_ii, neV_ii, isNV_fr, notNV_fr, ixV_fr0, ixV_fr1, eqV_fr, neV_fr, int1V_b, int1V_i, ixV_hp0, ixV_hp1, isNV_hp, eqV_hp, neV_hp, tyN_fr, lenV_fr, at0, at1, at2, at3, at4, at5, ixN0, ixN1, List.map_cons, List.map_nil, List.replicate, List.cons_append, List.nil_append, List.getElem?_cons_zero, List.getElem?_cons_succ, List.set_cons_zero, List.set_cons_succ, Bool.not_true, Bool.not_false, Bool.false_eq_true, if_true, if_false, ite_true, ite_false, reduceIte, Nat.reduceSub, Nat.reduceAdd, ne_eq, Int.cast_ofNat_Int, Int.reduceBEq, Int.reduceLT, Int.reduceLE, Int.reduceEq, Int.reduceNeg, Int.reduceMul, Int.reduceAdd, Int.reduceSub, decide_true, decide_false, List.length_cons, List.length_nil, beq_self_eq_true, not_false_eq_true, not_true_eq_false , gLenSet_eq, lsR_l, gCompN_eq, mkN_l, gCat2_eq, lstOf_l, insertM_r, extendM_r, gListRg_eq, gSlV_eq, slVK_s, gForM_eq, toSM_ok, gItM_eq, mkB_t, mkB_f, hapB]
theorem ishap_hp (t x : Rat) {st : List SO} : F_is_hap [hp t x] st = .ok (.bl true) st := by
  have e1 := isfr_fr (st := st) t
  have e2 := isfr_fr (st := st) x
  have ty : tyN st (hp t x) = some "tuple" := rfl
  have ln : lenV st [hp t x] = some (.int 2) := rfl
  simp only [F_is_hap, g_is_hap, gSlN_eq, slN_r, slN_l, slNK_s, gRevN_eq, revN_r, revNK_s, tupleV_r, tupleV_l, gCallV_eq, gLend_eq, isNotBV_b, gRep_eq, repR_r, gZip_eq, zipR_t, zipR_l, gTry_eq, tryK_nx, tryK_ret, begin_eq, allR_nx, allR_ret, allR_exc, gSkip_eq, gSeq_eq, seqK_nx, seqK_ret, seqK_exc, toS_ok, toS_exc, toST_ok, toST_exc, toSL_ok, toSL_exc, gRet_eq, gAsg_eq, gSet_eq, gExpr_eq, gIfS_eq, gRaise_eq, gBin_eq, gUn_eq, gVar_eq, slotR_some, gC_eq, gArgs_nil, gArgs_cons, gTupE_eq, gLstE_eq, gNewE_eq, gCall_eq, gBi_eq, gB_eq, asB_bl, gAnd_eq, gOr_eq, gNot_eq, gVT_eq, gIf_eq, gChain_eq, chK_t, chK_f, chK_b, bnd_ok, bnd_exc, oo_some, gTo_eq, toK_some, tgName_eq, tgNil_eq, tgCons_eq, tgTup_eq, bind_some, gPar_eq, gCat_eq, catR_r, listV_t, listV_l, blsOf_nil, blsOf_cons, allV_l, isNV_d, notNV_d, parK_ok, parK_exc, gStore_eq, stK_some, gMeth_eq, gFor_eq, gRng1_eq, asI_i, gItL_eq, gItT_eq, asLst_l, asTup_t, addV_ii, subV_ii, mulV_ii, fdivV_ii, modV_ii, shlV_ii, pw6, pw9, pw18, pw19, pw20, pw25, pw30, pw39, ltV_ii, leV_ii, gtV_ii, geV_ii, negV_i, isNV_n, isNV_t, isNV_l, isNV_i, isNV_s, isNV_r, isNV_b, notNV_n, notNV_t, notNV_l, notNV_i, notNV_s, notNV_r, notNV_b, ixV_t, ixV_l, ixV_r, lenV_t, lenV_l, lenV_r, absV_i, max2V_ii, min2V_ii, bitsV_i, setIV_r, setK_some, setL_some, appendM_r, appK_some, appN_ok, isT_r, isK_l, lstK_some, tyK_l, isT_s, isiV_eq, tyN_int, tyN_bl, tyN_non, tyN_str, tyN_tup, tyN_lst, tyN_dct, tyN_r, kk_int_bool, kitK_t, kk_int_str, kk_int_tuple, kk_int_list, kk_int_dict, kk_int_NoneType, kk_bool_int, kk_bool_str, kk_bool_tuple, kk_bool_list, kk_bool_dict, kk_bool_NoneType, kk_str_int, kk_str_bool, kk_str_tuple, kk_str_list, kk_str_dict, kk_str_NoneType, kk_tuple_int, kk_tuple_bool, kk_tuple_str, kk_tuple_list, kk_tuple_dict, kk_tuple_NoneType, kk_list_int, kk_list_bool, kk_list_str, kk_list_tuple, kk_list_dict, kk_list_NoneType, kk_dict_int, kk_dict_bool, kk_dict_str, kk_dict_tuple, kk_dict_list, kk_dict_NoneType, eqV_int, neV_int, isBV_b, neV_bl, eqV_bl, eqV_ii, neV_ii, isNV_fr, notNV_fr, ixV_fr0, ixV_fr1, eqV_fr, neV_fr, int1V_b, int1V_i, ixV_hp0, ixV_hp1, isNV_hp, eqV_hp, neV_hp, tyN_fr, lenV_fr, at0, at1, at2, at3, at4, at5, ixN0, ixN1, List.map_cons, List.map_nil, List.replicate, List.cons_append, List.nil_append, List.getElem?_cons_zero, List.getElem?_cons_succ, List.set_cons_zero, List.set_cons_succ, Bool.not_true, Bool.not_false, Bool.false_eq_true, if_true, if_false, ite_true, ite_false, reduceIte, Nat.reduceSub, Nat.reduceAdd, ne_eq, Int.cast_ofNat_Int, Int.reduceBEq, Int.reduceLT, Int.reduceLE, Int.reduceEq, Int.reduceNeg, Int.reduceMul, Int.reduceAdd, Int.reduceSub, decide_true, decide_false, List.length_cons, List.length_nil, beq_self_eq_true, not_false_eq_true, not_true_eq_false , gLenSet_eq, lsR_l, gCompN_eq, mkN_l, gCat2_eq, lstOf_l, insertM_r, extendM_r, gListRg_eq, gSlV_eq, slVK_s, gForM_eq, toSM_ok, gItM_eq, mkB_t, mkB_f, ty, ln, e1, e2]

noncomputable def g_check_list (F_is_hap : Fn) : GS :=
  (gSeq (gIfS (gOr (gNot (gB (gBi isiV [(gVar 0), (gC (.ty "list"))]))) (gOr (gNot (gB (gChain leV leV (gC (.int 1)) (gBi lenV [(gVar 0)]) (gC (.int 12))))) (gNot (gB (gBi allV [(gComp (gItL (gVar 0)) (tgName 1) gYes (gCall F_is_hap [(gVar 1)]) [1])]))))) (gRaise "NoHaps") gSkip)
  (gIfS (gB (gBin neV (gLenSet (gVar 0)) (gBi lenV [(gVar 0)]))) (gRaise "NoHaps") gSkip))
noncomputable def F_check_list : Fn := fun xs st => allR (g_check_list F_is_hap (begin 2 1 xs) st)
theorem cklist_ok {hs : List (Rat × Rat)} {st : List SO} (l1 : 1 ≤ hs.length) (l12 : hs.length ≤ 12) (nd : hs.Nodup) : F_check_list [.lst (hs.map hq)] st = .ok .non st := by
  have len : (hs.map hq).length = hs.length := List.length_map ..
  have d1 : decide ((1 : Int) ≤ ((hs.map hq).length : Int)) = true := decide_eq_true (by omega)
  have d2 : decide (((hs.map hq).length : Int) ≤ 12) = true := decide_eq_true (by omega)
  have c1 : gComp (gItL (gVar 0)) (tgName 1) gYes (gCall F_is_hap [(gVar 1)]) [1] [some (.lst (hs.map hq)), none] st = .ok (.lst ((hs.map hq).map fun _ => .bl true)) st := by
    refine gComp_ok (xs := hs.map hq) (st1 := st) rfl (comp_map (fun _ => .bl true) _ fun z hz => ?_) (lenOk_small (by rw [List.length_map]; omega))
    obtain ⟨h, -, rfl⟩ := List.mem_map.mp hz
    refine ⟨[some (.lst (hs.map hq)), some (hq h)], rfl, ?_⟩
    have e : F_is_hap [hq h] st = _ := ishap_hp h.1 h.2
    simp only [gSlN_eq, slN_r, slN_l, slNK_s, gRevN_eq, revN_r, revNK_s, tupleV_r, tupleV_l, gCallV_eq, gLend_eq, isNotBV_b, gRep_eq, repR_r, gZip_eq, zipR_t, zipR_l, gTry_eq, tryK_nx, tryK_ret, begin_eq, allR_nx, allR_ret, allR_exc, gSkip_eq, gSeq_eq, seqK_nx, seqK_ret, seqK_exc, toS_ok, toS_exc, toST_ok, toST_exc, toSL_ok, toSL_exc, gRet_eq, gAsg_eq, gSet_eq, gExpr_eq, gIfS_eq, gRaise_eq, gBin_eq, gUn_eq, gVar_eq, slotR_some, gC_eq, gArgs_nil, gArgs_cons, gTupE_eq, gLstE_eq, gNewE_eq, gCall_eq, gBi_eq, gB_eq, asB_bl, gAnd_eq, gOr_eq, gNot_eq, gVT_eq, gIf_eq, gChain_eq, chK_t, chK_f, chK_b, bnd_ok, bnd_exc, oo_some, gTo_eq, toK_some, tgName_eq, tgNil_eq, tgCons_eq, tgTup_eq, bind_some, gPar_eq, gCat_eq, catR_r, listV_t, listV_l, blsOf_nil, blsOf_cons, allV_l, isNV_d, notNV_d, parK_ok, parK_exc, gStore_eq, stK_some, gMeth_eq, gFor_eq, gRng1_eq, asI_i, gItL_eq, gItT_eq, asLst_l, asTup_t, addV_ii, subV_ii, mulV_ii, fdivV_ii, modV_ii, shlV_ii, pw6, pw9, pw18, pw19, pw20, pw25, pw30, pw39, ltV_ii, leV_ii, gtV_ii, geV_ii, negV_i, isNV_n, isNV_t, isNV_l, isNV_i, isNV_s, isNV_r, isNV_b, notNV_n, notNV_t, notNV_l, notNV_i, notNV_s, notNV_r, notNV_b, ixV_t, ixV_l, ixV_r, lenV_t, lenV_l, lenV_r, absV_i, max2V_ii, min2V_ii, bitsV_i, setIV_r, setK_some, setL_some, appendM_r, appK_some, appN_ok, isT_r, isK_l, lstK_some, tyK_l, isT_s, isiV_eq, tyN_int, tyN_bl, tyN_non, tyN_str, tyN_tup, tyN_lst, tyN_dct, tyN_r, kk_int_bool, kitK_t, kk_int_str, kk_int_tuple, kk_int_list, kk_int_dict, kk_int_NoneType, kk_bool_int, kk_bool_str, kk_bool_tuple, kk_bool_list, kk_bool_dict, kk_bool_NoneType, kk_str_int, kk_str_bool, kk_str_tuple, kk_str_list, kk_str_dict, kk_str_NoneType, kk_tuple_int, kk_tuple_bool, kk_tuple_str, kk_tuple_list, kk_tuple_dict, kk_tuple_NoneType, kk_list_int, kk_list_bool, kk_list_str, kk_list_tuple, kk_list_dict, kk_list_NoneType, kk_dict_int, kk_dict_bool, kk_dict_str, kk_dict_tuple, kk_dict_list, kk_dict_NoneType, eqV_int, neV_int, isBV_b, neV_bl, eqV_bl, eqV_ii, neV_ii, isNV_fr, notNV_fr, ixV_fr0, ixV_fr1, eqV_fr, neV_fr, int1V_b, int1V_i, ixV_hp0, ixV_hp1, isNV_hp, eqV_hp, neV_hp, tyN_fr, lenV_fr, at0, at1, at2, at3, at4, at5, ixN0, ixN1, List.map_cons, List.map_nil, List.replicate, List.cons_append, List.nil_append, List.getElem?_cons_zero, List.getElem?_cons_succ, List.set_cons_zero, List.set_cons_succ, Bool.not_true, Bool.not_false, Bool.false_eq_true, if_true, if_false, ite_true, ite_false, reduceIte, Nat.reduceSub, Nat.reduceAdd, ne_eq, Int.cast_ofNat_Int, Int.reduceBEq, Int.reduceLT, Int.reduceLE, Int.reduceEq, Int.reduceNeg, Int.reduceMul, Int.reduceAdd, Int.reduceSub, decide_true, decide_false, List.length_cons, List.length_nil, beq_self_eq_true, not_false_eq_true, not_true_eq_false , gLenSet_eq, lsR_l, gCompN_eq, mkN_l, gCat2_eq, lstOf_l, insertM_r, extendM_r, gListRg_eq, gSlV_eq, slVK_s, gForM_eq, toSM_ok, gItM_eq, mkB_t, mkB_f, e]
  have av := allV_true (xs := hs.map hq) (st := st)
  have ls : lsK st (keysT (hs.map hq)) = .ok (.int (ndist (hs.map hkey) : Nat)) st := by
    rw [keysT_hq]
    exact if_pos (by rw [List.length_map]; omega)
  have e : (!(((ndist (hs.map hkey) : Nat) : Int) == ((hs.map hq).length : Int))) = false := by
    have := ndist_nodup _ (nodup_hk.mpr nd)
    rw [this, List.length_map, len]
    simp
  simp only [F_check_list, g_check_list, gSlN_eq, slN_r, slN_l, slNK_s, gRevN_eq, revN_r, revNK_s, tupleV_r, tupleV_l, gCallV_eq, gLend_eq, isNotBV_b, gRep_eq, repR_r, gZip_eq, zipR_t, zipR_l, gTry_eq, tryK_nx, tryK_ret, begin_eq, allR_nx, allR_ret, allR_exc, gSkip_eq, gSeq_eq, seqK_nx, seqK_ret, seqK_exc, toS_ok, toS_exc, toST_ok, toST_exc, toSL_ok, toSL_exc, gRet_eq, gAsg_eq, gSet_eq, gExpr_eq, gIfS_eq, gRaise_eq, gBin_eq, gUn_eq, gVar_eq, slotR_some, gC_eq, gArgs_nil, gArgs_cons, gTupE_eq, gLstE_eq, gNewE_eq, gCall_eq, gBi_eq, gB_eq, asB_bl, gAnd_eq, gOr_eq, gNot_eq, gVT_eq, gIf_eq, gChain_eq, chK_t, chK_f, chK_b, bnd_ok, bnd_exc, oo_some, gTo_eq, toK_some, tgName_eq, tgNil_eq, tgCons_eq, tgTup_eq, bind_some, gPar_eq, gCat_eq, catR_r, listV_t, listV_l, blsOf_nil, blsOf_cons, allV_l, isNV_d, notNV_d, parK_ok, parK_exc, gStore_eq, stK_some, gMeth_eq, gFor_eq, gRng1_eq, asI_i, gItL_eq, gItT_eq, asLst_l, asTup_t, addV_ii, subV_ii, mulV_ii, fdivV_ii, modV_ii, shlV_ii, pw6, pw9, pw18, pw19, pw20, pw25, pw30, pw39, ltV_ii, leV_ii, gtV_ii, geV_ii, negV_i, isNV_n, isNV_t, isNV_l, isNV_i, isNV_s, isNV_r, isNV_b, notNV_n, notNV_t, notNV_l, notNV_i, notNV_s, notNV_r, notNV_b, ixV_t, ixV_l, ixV_r, lenV_t, lenV_l, lenV_r, absV_i, max2V_ii, min2V_ii, bitsV_i, setIV_r, setK_some, setL_some, appendM_r, appK_some, appN_ok, isT_r, isK_l, lstK_some, tyK_l, isT_s, isiV_eq, tyN_int, tyN_bl, tyN_non, tyN_str, tyN_tup, tyN_lst, tyN_dct, tyN_r, kk_int_bool, kitK_t, kk_int_str, kk_int_tuple, kk_int_list, kk_int_dict, kk_int_NoneType, kk_bool_int, kk_bool_str, kk_bool_tuple, kk_bool_list, kk_bool_dict, kk_bool_NoneType, kk_str_int, kk_str_bool, kk_str_tuple, kk_str_list, kk_str_dict, kk_str_NoneType, kk_tuple_int, kk_tuple_bool, kk_tuple_str, kk_tuple_list, kk_tuple_dict, kk_tuple_NoneType, kk_list_int, kk_list_bool, kk_list_str, kk_list_tuple, kk_list_dict, kk_list_NoneType, kk_dict_int, kk_dict_bool, kk_dict_str, kk_dict_tuple, kk_dict_list, kk_dict_NoneType, eqV_int, neV_int, isBV_b, neV_bl, eqV_bl, eqV_ii, neV_ii, isNV_fr, notNV_fr, ixV_fr0, ixV_fr1, eqV_fr, neV_fr, int1V_b, int1V_i, ixV_hp0, ixV_hp1, isNV_hp, eqV_hp, neV_hp, tyN_fr, lenV_fr, at0, at1, at2, at3, at4, at5, ixN0, ixN1, List.map_cons, List.map_nil, List.replicate, List.cons_append, List.nil_append, List.getElem?_cons_zero, List.getElem?_cons_succ, List.set_cons_zero, List.set_cons_succ, Bool.not_true, Bool.not_false, Bool.false_eq_true, if_true, if_false, ite_true, ite_false, reduceIte, Nat.reduceSub, Nat.reduceAdd, ne_eq, Int.cast_ofNat_Int, Int.reduceBEq, Int.reduceLT, Int.reduceLE, Int.reduceEq, Int.reduceNeg, Int.reduceMul, Int.reduceAdd, Int.reduceSub, decide_true, decide_false, List.length_cons, List.length_nil, beq_self_eq_true, not_false_eq_true, not_true_eq_false , gLenSet_eq, lsR_l, gCompN_eq, mkN_l, gCat2_eq, lstOf_l, insertM_r, extendM_r, gListRg_eq, gSlV_eq, slVK_s, gForM_eq, toSM_ok, gItM_eq, mkB_t, mkB_f, kk_list_list, d1, d2, c1, av, ls, e]

noncomputable def g_fraction (F_common : Fn) : GS :=
  (gSeq (gIfS (gB (gBin eqV (gVar 1) (gC (.int 0)))) (gRaise "NoFraction") gSkip)
  (gSeq (gIfS (gB (gBin ltV (gVar 1) (gC (.int 0)))) (gPar 0 1 (gBin subV (gC (.int 0)) (gVar 0)) (gBin subV (gC (.int 0)) (gVar 1))) gSkip)
  (gSeq (gSet 2 (gCall F_common [(gVar 0), (gVar 1)]))
  (gRet (gTupE [(gBin fdivV (gVar 0) (gVar 2)), (gBin fdivV (gVar 1) (gVar 2))])))))
noncomputable def F_fraction : Fn := fun xs st => allR (g_fraction F_common (begin 3 2 xs) st)
theorem fraction_0 {t : Int} {st : List SO} : F_fraction [.int t, .int 0] st = .exc "NoFraction" st := by
  simp only [F_fraction, g_fraction, gSlN_eq, slN_r, slN_l, slNK_s, gRevN_eq, revN_r, revNK_s, tupleV_r, tupleV_l, gCallV_eq, gLend_eq, isNotBV_b, gRep_eq, repR_r, gZip_eq, zipR_t, zipR_l, gTry_eq, tryK_nx, tryK_ret, begin_eq, allR_nx, allR_ret, allR_exc, gSkip_eq, gSeq_eq, seqK_nx, seqK_ret, seqK_exc, toS_ok, toS_exc, toST_ok, toST_exc, toSL_ok, toSL_exc, gRet_eq, gAsg_eq, gSet_eq, gExpr_eq, gIfS_eq, gRaise_eq, gBin_eq, gUn_eq, gVar_eq, slotR_some, gC_eq, gArgs_nil, gArgs_cons, gTupE_eq, gLstE_eq, gNewE_eq, gCall_eq, gBi_eq, gB_eq, asB_bl, gAnd_eq, gOr_eq, gNot_eq, gVT_eq, gIf_eq, gChain_eq, chK_t, chK_f, chK_b, bnd_ok, bnd_exc, oo_some, gTo_eq, toK_some, tgName_eq, tgNil_eq, tgCons_eq, tgTup_eq, bind_some, gPar_eq, gCat_eq, catR_r, listV_t, listV_l, blsOf_nil, blsOf_cons, allV_l, isNV_d, notNV_d, parK_ok, parK_exc, gStore_eq, stK_some, gMeth_eq, gFor_eq, gRng1_eq, asI_i, gItL_eq, gItT_eq, asLst_l, asTup_t, addV_ii, subV_ii, mulV_ii, fdivV_ii, modV_ii, shlV_ii, pw6, pw9, pw18, pw19, pw20, pw25, pw30, pw39, ltV_ii, leV_ii, gtV_ii, geV_ii, negV_i, isNV_n, isNV_t, isNV_l, isNV_i, isNV_s, isNV_r, isNV_b, notNV_n, notNV_t, notNV_l, notNV_i, notNV_s, notNV_r, notNV_b, ixV_t, ixV_l, ixV_r, lenV_t, lenV_l, lenV_r, absV_i, max2V_ii, min2V_ii, bitsV_i, setIV_r, setK_some, setL_some, appendM_r, appK_some, appN_ok, isT_r, isK_l, lstK_some, tyK_l, isT_s, isiV_eq, tyN_int, tyN_bl, tyN_non, tyN_str, tyN_tup, tyN_lst, tyN_dct, tyN_r, kk_int_bool, kitK_t, kk_int_str, kk_int_tuple, kk_int_list, kk_int_dict, kk_int_NoneType, kk_bool_int, kk_bool_str, kk_bool_tuple, kk_bool_list, kk_bool_dict, kk_bool_NoneType, kk_str_int, kk_str_bool, kk_str_tuple, kk_str_list, kk_str_dict, kk_str_NoneType, kk_tuple_int, kk_tuple_bool, kk_tuple_str, kk_tuple_list, kk_tuple_dict, kk_tuple_NoneType, kk_list_int, kk_list_bool, kk_list_str, kk_list_tuple, kk_list_dict, kk_list_NoneType, kk_dict_int, kk_dict_bool, kk_dict_str, kk_dict_tuple, kk_dict_list, kk_dict_NoneType, eqV_int, neV_int, isBV_b, neV_bl, eqV_bl, eqV_ii, neV_ii, isNV_fr, notNV_fr, ixV_fr0, ixV_fr1, eqV_fr, neV_fr, int1V_b, int1V_i, ixV_hp0, ixV_hp1, isNV_hp, eqV_hp, neV_hp, tyN_fr, lenV_fr, at0, at1, at2, at3, at4, at5, ixN0, ixN1, List.map_cons, List.map_nil, List.replicate, List.cons_append, List.nil_append, List.getElem?_cons_zero, List.getElem?_cons_succ, List.set_cons_zero, List.set_cons_succ, Bool.not_true, Bool.not_false, Bool.false_eq_true, if_true, if_false, ite_true, ite_false, reduceIte, Nat.reduceSub, Nat.reduceAdd, ne_eq, Int.cast_ofNat_Int, Int.reduceBEq, Int.reduceLT, Int.reduceLE, Int.reduceEq, Int.reduceNeg, Int.reduceMul, Int.reduceAdd, Int.reduceSub, decide_true, decide_false, List.length_cons, List.length_nil, beq_self_eq_true, not_false_eq_true, not_true_eq_false , gLenSet_eq, lsR_l, gCompN_eq, mkN_l, gCat2_eq, lstOf_l, insertM_r, extendM_r, gListRg_eq, gSlV_eq, slVK_s, gForM_eq, toSM_ok, gItM_eq, mkB_t, mkB_f, beq_self_eq_true]
theorem fraction_ok {n : Nat} {t b : Int} {st : List SO} (hb : b ≠ 0) (hs : Sz n b) (hn : n ≤ 9000) : F_fraction [.int t, .int b] st = .ok (fr (Rat.divInt t b)) st := by
  have g := gcd_sz (t := t) hs hb
  have hg := gcd_pos_of (t := t) hb
  have hb' : (b == 0) = false := by simpa using hb
  have l1 := low_num' (t := t) hb
  have l2 := low_den' (t := t) hb
  have d1 : ∀ i, DivOk i (Int.gcd t b) := fun i => g.divOk hn
  have hne : ¬ ((Int.gcd t b : Int)) = 0 := by omega
  by_cases h : b < 0
  · rw [if_pos h] at l1 l2
    have e : Int.gcd (0 - t) (0 - b) = Int.gcd t b := by rw [Int.zero_sub, Int.zero_sub, gcd_neg2]
    simp only [F_fraction, g_fraction, gSlN_eq, slN_r, slN_l, slNK_s, gRevN_eq, revN_r, revNK_s, tupleV_r, tupleV_l, gCallV_eq, gLend_eq, isNotBV_b, gRep_eq, repR_r, gZip_eq, zipR_t, zipR_l, gTry_eq, tryK_nx, tryK_ret, begin_eq, allR_nx, allR_ret, allR_exc, gSkip_eq, gSeq_eq, seqK_nx, seqK_ret, seqK_exc, toS_ok, toS_exc, toST_ok, toST_exc, toSL_ok, toSL_exc, gRet_eq, gAsg_eq, gSet_eq, gExpr_eq, gIfS_eq, gRaise_eq, gBin_eq, gUn_eq, gVar_eq, slotR_some, gC_eq, gArgs_nil, gArgs_cons, gTupE_eq, gLstE_eq, gNewE_eq, gCall_eq, gBi_eq, gB_eq, asB_bl, gAnd_eq, gOr_eq, gNot_eq, gVT_eq, gIf_eq, gChain_eq, chK_t, chK_f, chK_b, bnd_ok, bnd_exc, oo_some, gTo_eq, toK_some, tgName_eq, tgNil_eq, tgCons_eq, tgTup_eq, bind_some, gPar_eq, gCat_eq, catR_r, listV_t, listV_l, blsOf_nil, blsOf_cons, allV_l, isNV_d, notNV_d, parK_ok, parK_exc, gStore_eq, stK_some, gMeth_eq, gFor_eq, gRng1_eq, asI_i, gItL_eq, gItT_eq, asLst_l, asTup_t, addV_ii, subV_ii, mulV_ii, fdivV_ii, modV_ii, shlV_ii, pw6, pw9, pw18, pw19, pw20, pw25, pw30, pw39, ltV_ii, leV_ii, gtV_ii, geV_ii, negV_i, isNV_n, isNV_t, isNV_l, isNV_i, isNV_s, isNV_r, isNV_b, notNV_n, notNV_t, notNV_l, notNV_i, notNV_s, notNV_r, notNV_b, ixV_t, ixV_l, ixV_r, lenV_t, lenV_l, lenV_r, absV_i, max2V_ii, min2V_ii, bitsV_i, setIV_r, setK_some, setL_some, appendM_r, appK_some, appN_ok, isT_r, isK_l, lstK_some, tyK_l, isT_s, isiV_eq, tyN_int, tyN_bl, tyN_non, tyN_str, tyN_tup, tyN_lst, tyN_dct, tyN_r, kk_int_bool, kitK_t, kk_int_str, kk_int_tuple, kk_int_list, kk_int_dict, kk_int_NoneType, kk_bool_int, kk_bool_str, kk_bool_tuple, kk_bool_list, kk_bool_dict, kk_bool_NoneType, kk_str_int, kk_str_bool, kk_str_tuple, kk_str_list, kk_str_dict, kk_str_NoneType, kk_tuple_int, kk_tuple_bool, kk_tuple_str, kk_tuple_list, kk_tuple_dict, kk_tuple_NoneType, kk_list_int, kk_list_bool, kk_list_str, kk_list_tuple, kk_list_dict, kk_list_NoneType, kk_dict_int, kk_dict_bool, kk_dict_str, kk_dict_tuple, kk_dict_list, kk_dict_NoneType, eqV_int, neV_int, isBV_b, neV_bl, eqV_bl, eqV_ii, neV_ii, isNV_fr, notNV_fr, ixV_fr0, ixV_fr1, eqV_fr, neV_fr, int1V_b, int1V_i, ixV_hp0, ixV_hp1, isNV_hp, eqV_hp, neV_hp, tyN_fr, lenV_fr, at0, at1, at2, at3, at4, at5, ixN0, ixN1, List.map_cons, List.map_nil, List.replicate, List.cons_append, List.nil_append, List.getElem?_cons_zero, List.getElem?_cons_succ, List.set_cons_zero, List.set_cons_succ, Bool.not_true, Bool.not_false, Bool.false_eq_true, if_true, if_false, ite_true, ite_false, reduceIte, Nat.reduceSub, Nat.reduceAdd, ne_eq, Int.cast_ofNat_Int, Int.reduceBEq, Int.reduceLT, Int.reduceLE, Int.reduceEq, Int.reduceNeg, Int.reduceMul, Int.reduceAdd, Int.reduceSub, decide_true, decide_false, List.length_cons, List.length_nil, beq_self_eq_true, not_false_eq_true, not_true_eq_false , gLenSet_eq, lsR_l, gCompN_eq, mkN_l, gCat2_eq, lstOf_l, insertM_r, extendM_r, gListRg_eq, gSlV_eq, slVK_s, gForM_eq, toSM_ok, gItM_eq, mkB_t, mkB_f, hb', h, decide_true, common_ok, e, hne, not_false_eq_true, d1, and_self, l1, l2, fr]
  · rw [if_neg h] at l1 l2
    simp only [F_fraction, g_fraction, gSlN_eq, slN_r, slN_l, slNK_s, gRevN_eq, revN_r, revNK_s, tupleV_r, tupleV_l, gCallV_eq, gLend_eq, isNotBV_b, gRep_eq, repR_r, gZip_eq, zipR_t, zipR_l, gTry_eq, tryK_nx, tryK_ret, begin_eq, allR_nx, allR_ret, allR_exc, gSkip_eq, gSeq_eq, seqK_nx, seqK_ret, seqK_exc, toS_ok, toS_exc, toST_ok, toST_exc, toSL_ok, toSL_exc, gRet_eq, gAsg_eq, gSet_eq, gExpr_eq, gIfS_eq, gRaise_eq, gBin_eq, gUn_eq, gVar_eq, slotR_some, gC_eq, gArgs_nil, gArgs_cons, gTupE_eq, gLstE_eq, gNewE_eq, gCall_eq, gBi_eq, gB_eq, asB_bl, gAnd_eq, gOr_eq, gNot_eq, gVT_eq, gIf_eq, gChain_eq, chK_t, chK_f, chK_b, bnd_ok, bnd_exc, oo_some, gTo_eq, toK_some, tgName_eq, tgNil_eq, tgCons_eq, tgTup_eq, bind_some, gPar_eq, gCat_eq, catR_r, listV_t, listV_l, blsOf_nil, blsOf_cons, allV_l, isNV_d, notNV_d, parK_ok, parK_exc, gStore_eq, stK_some, gMeth_eq, gFor_eq, gRng1_eq, asI_i, gItL_eq, gItT_eq, asLst_l, asTup_t, addV_ii, subV_ii, mulV_ii, fdivV_ii, modV_ii, shlV_ii, pw6, pw9, pw18, pw19, pw20, pw25, pw30, pw39, ltV_ii, leV_ii, gtV_ii, geV_ii, negV_i, isNV_n, isNV_t, isNV_l, isNV_i, isNV_s, isNV_r, isNV_b, notNV_n, notNV_t, notNV_l, notNV_i, notNV_s, notNV_r, notNV_b, ixV_t, ixV_l, ixV_r, lenV_t, lenV_l, lenV_r, absV_i, max2V_ii, min2V_ii, bitsV_i, setIV_r, setK_some, setL_some, appendM_r, appK_some, appN_ok, isT_r, isK_l, lstK_some, tyK_l, isT_s, isiV_eq, tyN_int, tyN_bl, tyN_non, tyN_str, tyN_tup, tyN_lst, tyN_dct, tyN_r, kk_int_bool, kitK_t, kk_int_str, kk_int_tuple, kk_int_list, kk_int_dict, kk_int_NoneType, kk_bool_int, kk_bool_str, kk_bool_tuple, kk_bool_list, kk_bool_dict, kk_bool_NoneType, kk_str_int, kk_str_bool, kk_str_tuple, kk_str_list, kk_str_dict, kk_str_NoneType, kk_tuple_int, kk_tuple_bool, kk_tuple_str, kk_tuple_list, kk_tuple_dict, kk_tuple_NoneType, kk_list_int, kk_list_bool, kk_list_str, kk_list_tuple, kk_list_dict, kk_list_NoneType, kk_dict_int, kk_dict_bool, kk_dict_str, kk_dict_tuple, kk_dict_list, kk_dict_NoneType, eqV_int, neV_int, isBV_b, neV_bl, eqV_bl, eqV_ii, neV_ii, isNV_fr, notNV_fr, ixV_fr0, ixV_fr1, eqV_fr, neV_fr, int1V_b, int1V_i, ixV_hp0, ixV_hp1, isNV_hp, eqV_hp, neV_hp, tyN_fr, lenV_fr, at0, at1, at2, at3, at4, at5, ixN0, ixN1, List.map_cons, List.map_nil, List.replicate, List.cons_append, List.nil_append, List.getElem?_cons_zero, List.getElem?_cons_succ, List.set_cons_zero, List.set_cons_succ, Bool.not_true, Bool.not_false, Bool.false_eq_true, if_true, if_false, ite_true, ite_false, reduceIte, Nat.reduceSub, Nat.reduceAdd, ne_eq, Int.cast_ofNat_Int, Int.reduceBEq, Int.reduceLT, Int.reduceLE, Int.reduceEq, Int.reduceNeg, Int.reduceMul, Int.reduceAdd, Int.reduceSub, decide_true, decide_false, List.length_cons, List.length_nil, beq_self_eq_true, not_false_eq_true, not_true_eq_false , gLenSet_eq, lsR_l, gCompN_eq, mkN_l, gCat2_eq, lstOf_l, insertM_r, extendM_r, gListRg_eq, gSlV_eq, slVK_s, gForM_eq, toSM_ok, gItM_eq, mkB_t, mkB_f, hb', h, decide_false, common_ok, hne, not_false_eq_true, d1, and_self, l1, l2, fr]

noncomputable def g_less (F_fraction : Fn) : GS :=
  (gRet (gCall F_fraction [(gBin subV (gBin mulV (gBin ixV (gVar 0) (gC (.int 0))) (gBin ixV (gVar 1) (gC (.int 1)))) (gBin mulV (gBin ixV (gVar 1) (gC (.int 0))) (gBin ixV (gVar 0) (gC (.int 1))))), (gBin mulV (gBin ixV (gVar 0) (gC (.int 1))) (gBin ixV (gVar 1) (gC (.int 1))))]))
noncomputable def F_less : Fn := fun xs st => allR (g_less F_fraction (begin 2 2 xs) st)
theorem less_ok {n : Nat} {q r : Rat} {st : List SO} (hq : RS n q) (hr : RS n r) (hn : n ≤ 4000) : F_less [fr q, fr r] st = .ok (fr (q - r)) st := by
  have m1 : MulOk q.num r.den := hq.1.mulOk hr.den (by omega)
  have m2 : MulOk r.num q.den := hr.1.mulOk hq.den (by omega)
  have m3 : MulOk (q.den : Int) r.den := hq.den.mulOk hr.den (by omega)
  have d0 : (q.den * r.den : Int) ≠ 0 := Int.mul_ne_zero (den0 q) (den0 r)
  have e := fraction_ok (st := st) (t := q.num * r.den - r.num * q.den) d0 (hq.den.mul hr.den) (by omega)
  rw [sub_eq] at e
  simp only [fr] at e
  simp only [F_less, g_less, gSlN_eq, slN_r, slN_l, slNK_s, gRevN_eq, revN_r, revNK_s, tupleV_r, tupleV_l, gCallV_eq, gLend_eq, isNotBV_b, gRep_eq, repR_r, gZip_eq, zipR_t, zipR_l, gTry_eq, tryK_nx, tryK_ret, begin_eq, allR_nx, allR_ret, allR_exc, gSkip_eq, gSeq_eq, seqK_nx, seqK_ret, seqK_exc, toS_ok, toS_exc, toST_ok, toST_exc, toSL_ok, toSL_exc, gRet_eq, gAsg_eq, gSet_eq, gExpr_eq, gIfS_eq, gRaise_eq, gBin_eq, gUn_eq, gVar_eq, slotR_some, gC_eq, gArgs_nil, gArgs_cons, gTupE_eq, gLstE_eq, gNewE_eq, gCall_eq, gBi_eq, gB_eq, asB_bl, gAnd_eq, gOr_eq, gNot_eq, gVT_eq, gIf_eq, gChain_eq, chK_t, chK_f, chK_b, bnd_ok, bnd_exc, oo_some, gTo_eq, toK_some, tgName_eq, tgNil_eq, tgCons_eq, tgTup_eq, bind_some, gPar_eq, gCat_eq, catR_r, listV_t, listV_l, blsOf_nil, blsOf_cons, allV_l, isNV_d, notNV_d, parK_ok, parK_exc, gStore_eq, stK_some, gMeth_eq, gFor_eq, gRng1_eq, asI_i, gItL_eq, gItT_eq, asLst_l, asTup_t, addV_ii, subV_ii, mulV_ii, fdivV_ii, modV_ii, shlV_ii, pw6, pw9, pw18, pw19, pw20, pw25, pw30, pw39, ltV_ii, leV_ii, gtV_ii, geV_ii, negV_i, isNV_n, isNV_t, isNV_l, isNV_i, isNV_s, isNV_r, isNV_b, notNV_n, notNV_t, notNV_l, notNV_i, notNV_s, notNV_r, notNV_b, ixV_t, ixV_l, ixV_r, lenV_t, lenV_l, lenV_r, absV_i, max2V_ii, min2V_ii, bitsV_i, setIV_r, setK_some, setL_some, appendM_r, appK_some, appN_ok, isT_r, isK_l, lstK_some, tyK_l, isT_s, isiV_eq, tyN_int, tyN_bl, tyN_non, tyN_str, tyN_tup, tyN_lst, tyN_dct, tyN_r, kk_int_bool, kitK_t, kk_int_str, kk_int_tuple, kk_int_list, kk_int_dict, kk_int_NoneType, kk_bool_int, kk_bool_str, kk_bool_tuple, kk_bool_list, kk_bool_dict, kk_bool_NoneType, kk_str_int, kk_str_bool, kk_str_tuple, kk_str_list, kk_str_dict, kk_str_NoneType, kk_tuple_int, kk_tuple_bool, kk_tuple_str, kk_tuple_list, kk_tuple_dict, kk_tuple_NoneType, kk_list_int, kk_list_bool, kk_list_str, kk_list_tuple, kk_list_dict, kk_list_NoneType, kk_dict_int, kk_dict_bool, kk_dict_str, kk_dict_tuple, kk_dict_list, kk_dict_NoneType, eqV_int, neV_int, isBV_b, neV_bl, eqV_bl, eqV_ii, neV_ii, isNV_fr, notNV_fr, ixV_fr0, ixV_fr1, eqV_fr, neV_fr, int1V_b, int1V_i, ixV_hp0, ixV_hp1, isNV_hp, eqV_hp, neV_hp, tyN_fr, lenV_fr, at0, at1, at2, at3, at4, at5, ixN0, ixN1, List.map_cons, List.map_nil, List.replicate, List.cons_append, List.nil_append, List.getElem?_cons_zero, List.getElem?_cons_succ, List.set_cons_zero, List.set_cons_succ, Bool.not_true, Bool.not_false, Bool.false_eq_true, if_true, if_false, ite_true, ite_false, reduceIte, Nat.reduceSub, Nat.reduceAdd, ne_eq, Int.cast_ofNat_Int, Int.reduceBEq, Int.reduceLT, Int.reduceLE, Int.reduceEq, Int.reduceNeg, Int.reduceMul, Int.reduceAdd, Int.reduceSub, decide_true, decide_false, List.length_cons, List.length_nil, beq_self_eq_true, not_false_eq_true, not_true_eq_false , gLenSet_eq, lsR_l, gCompN_eq, mkN_l, gCat2_eq, lstOf_l, insertM_r, extendM_r, gListRg_eq, gSlV_eq, slVK_s, gForM_eq, toSM_ok, gItM_eq, mkB_t, mkB_f, fr, m1, m2, m3, e]
theorem less_as {n m : Nat} {q r : Rat} {st : List SO} (hq : RS n q) (hr : RS m r) (hn : n + m ≤ 9000) : F_less [fr q, fr r] st = .ok (fr (q - r)) st := by
  have m1 : MulOk q.num r.den := hq.1.mulOk hr.den (by omega)
  have m2 : MulOk r.num q.den := hr.1.mulOk hq.den (by omega)
  have m3 : MulOk (q.den : Int) r.den := hq.den.mulOk hr.den (by omega)
  have d0 : (q.den * r.den : Int) ≠ 0 := Int.mul_ne_zero (den0 q) (den0 r)
  have e := fraction_ok (st := st) (t := q.num * r.den - r.num * q.den) d0 (hq.den.mul hr.den) (by omega)
  rw [sub_eq] at e
  simp only [fr] at e
  simp only [F_less, g_less, gSlN_eq, slN_r, slN_l, slNK_s, gRevN_eq, revN_r, revNK_s, tupleV_r, tupleV_l, gCallV_eq, gLend_eq, isNotBV_b, gRep_eq, repR_r, gZip_eq, zipR_t, zipR_l, gTry_eq, tryK_nx, tryK_ret, begin_eq, allR_nx, allR_ret, allR_exc, gSkip_eq, gSeq_eq, seqK_nx, seqK_ret, seqK_exc, toS_ok, toS_exc, toST_ok, toST_exc, toSL_ok, toSL_exc, gRet_eq, gAsg_eq, gSet_eq, gExpr_eq, gIfS_eq, gRaise_eq, gBin_eq, gUn_eq, gVar_eq, slotR_some, gC_eq, gArgs_nil, gArgs_cons, gTupE_eq, gLstE_eq, gNewE_eq, gCall_eq, gBi_eq, gB_eq, asB_bl, gAnd_eq, gOr_eq, gNot_eq, gVT_eq, gIf_eq, gChain_eq, chK_t, chK_f, chK_b, bnd_ok, bnd_exc, oo_some, gTo_eq, toK_some, tgName_eq, tgNil_eq, tgCons_eq, tgTup_eq, bind_some, gPar_eq, gCat_eq, catR_r, listV_t, listV_l, blsOf_nil, blsOf_cons, allV_l, isNV_d, notNV_d, parK_ok, parK_exc, gStore_eq, stK_some, gMeth_eq, gFor_eq, gRng1_eq, asI_i, gItL_eq, gItT_eq, asLst_l, asTup_t, addV_ii, subV_ii, mulV_ii, fdivV_ii, modV_ii, shlV_ii, pw6, pw9, pw18, pw19, pw20, pw25, pw30, pw39, ltV_ii, leV_ii, gtV_ii, geV_ii, negV_i, isNV_n, isNV_t, isNV_l, isNV_i, isNV_s, isNV_r, isNV_b, notNV_n, notNV_t, notNV_l, notNV_i, notNV_s, notNV_r, notNV_b, ixV_t, ixV_l, ixV_r, lenV_t, lenV_l, lenV_r, absV_i, max2V_ii, min2V_ii, bitsV_i, setIV_r, setK_some, setL_some, appendM_r, appK_some, appN_ok, isT_r, isK_l, lstK_some, tyK_l, isT_s, isiV_eq, tyN_int, tyN_bl, tyN_non, tyN_str, tyN_tup, tyN_lst, tyN_dct, tyN_r, kk_int_bool, kitK_t, kk_int_str, kk_int_tuple, kk_int_list, kk_int_dict, kk_int_NoneType, kk_bool_int, kk_bool_str, kk_bool_tuple, kk_bool_list, kk_bool_dict, kk_bool_NoneType, kk_str_int, kk_str_bool, kk_str_tuple, kk_str_list, kk_str_dict, kk_str_NoneType, kk_tuple_int, kk_tuple_bool, kk_tuple_str, kk_tuple_list, kk_tuple_dict, kk_tuple_NoneType, kk_list_int, kk_list_bool, kk_list_str, kk_list_tuple, kk_list_dict, kk_list_NoneType, kk_dict_int, kk_dict_bool, kk_dict_str, kk_dict_tuple, kk_dict_list, kk_dict_NoneType, eqV_int, neV_int, isBV_b, neV_bl, eqV_bl, eqV_ii, neV_ii, isNV_fr, notNV_fr, ixV_fr0, ixV_fr1, eqV_fr, neV_fr, int1V_b, int1V_i, ixV_hp0, ixV_hp1, isNV_hp, eqV_hp, neV_hp, tyN_fr, lenV_fr, at0, at1, at2, at3, at4, at5, ixN0, ixN1, List.map_cons, List.map_nil, List.replicate, List.cons_append, List.nil_append, List.getElem?_cons_zero, List.getElem?_cons_succ, List.set_cons_zero, List.set_cons_succ, Bool.not_true, Bool.not_false, Bool.false_eq_true, if_true, if_false, ite_true, ite_false, reduceIte, Nat.reduceSub, Nat.reduceAdd, ne_eq, Int.cast_ofNat_Int, Int.reduceBEq, Int.reduceLT, Int.reduceLE, Int.reduceEq, Int.reduceNeg, Int.reduceMul, Int.reduceAdd, Int.reduceSub, decide_true, decide_false, List.length_cons, List.length_nil, beq_self_eq_true, not_false_eq_true, not_true_eq_false , gLenSet_eq, lsR_l, gCompN_eq, mkN_l, gCat2_eq, lstOf_l, insertM_r, extendM_r, gListRg_eq, gSlV_eq, slVK_s, gForM_eq, toSM_ok, gItM_eq, mkB_t, mkB_f, fr, m1, m2, m3, e]

noncomputable def g_lapse_and_gap (F_less : Fn) : GS :=
  (gRet (gTupE [(gCall F_less [(gBin ixV (gVar 1) (gC (.int 0))), (gBin ixV (gVar 0) (gC (.int 0)))]), (gCall F_less [(gBin ixV (gVar 1) (gC (.int 1))), (gBin ixV (gVar 0) (gC (.int 1)))])]))
noncomputable def F_lapse_and_gap : Fn := fun xs st => allR (g_lapse_and_gap F_less (begin 2 2 xs) st)
theorem lapgap_ok {n : Nat} {t x u y : Rat} {st : List SO} (h1 : RS n t) (h2 : RS n x) (h3 : RS n u) (h4 : RS n y) (hn : n ≤ 4000) : F_lapse_and_gap [hp t x, hp u y] st = .ok (.tup [fr (u - t), fr (y - x)]) st := by
  have e1 := less_ok (st := st) h3 h1 hn
  have e2 := less_ok (st := st) h4 h2 hn
  simp only [F_lapse_and_gap, g_lapse_and_gap, gSlN_eq, slN_r, slN_l, slNK_s, gRevN_eq, revN_r, revNK_s, tupleV_r, tupleV_l, gCallV_eq, gLend_eq, isNotBV_b, gRep_eq, repR_r, gZip_eq, zipR_t, zipR_l, gTry_eq, tryK_nx, tryK_ret, begin_eq, allR_nx, allR_ret, allR_exc, gSkip_eq, gSeq_eq, seqK_nx, seqK_ret, seqK_exc, toS_ok, toS_exc, toST_ok, toST_exc, toSL_ok, toSL_exc, gRet_eq, gAsg_eq, gSet_eq, gExpr_eq, gIfS_eq, gRaise_eq, gBin_eq, gUn_eq, gVar_eq, slotR_some, gC_eq, gArgs_nil, gArgs_cons, gTupE_eq, gLstE_eq, gNewE_eq, gCall_eq, gBi_eq, gB_eq, asB_bl, gAnd_eq, gOr_eq, gNot_eq, gVT_eq, gIf_eq, gChain_eq, chK_t, chK_f, chK_b, bnd_ok, bnd_exc, oo_some, gTo_eq, toK_some, tgName_eq, tgNil_eq, tgCons_eq, tgTup_eq, bind_some, gPar_eq, gCat_eq, catR_r, listV_t, listV_l, blsOf_nil, blsOf_cons, allV_l, isNV_d, notNV_d, parK_ok, parK_exc, gStore_eq, stK_some, gMeth_eq, gFor_eq, gRng1_eq, asI_i, gItL_eq, gItT_eq, asLst_l, asTup_t, addV_ii, subV_ii, mulV_ii, fdivV_ii, modV_ii, shlV_ii, pw6, pw9, pw18, pw19, pw20, pw25, pw30, pw39, ltV_ii, leV_ii, gtV_ii, geV_ii, negV_i, isNV_n, isNV_t, isNV_l, isNV_i, isNV_s, isNV_r, isNV_b, notNV_n, notNV_t, notNV_l, notNV_i, notNV_s, notNV_r, notNV_b, ixV_t, ixV_l, ixV_r, lenV_t, lenV_l, lenV_r, absV_i, max2V_ii, min2V_ii, bitsV_i, setIV_r, setK_some, setL_some, appendM_r, appK_some, appN_ok, isT_r, isK_l, lstK_some, tyK_l, isT_s, isiV_eq, tyN_int, tyN_bl, tyN_non, tyN_str, tyN_tup, tyN_lst, tyN_dct, tyN_r, kk_int_bool, kitK_t, kk_int_str, kk_int_tuple, kk_int_list, kk_int_dict, kk_int_NoneType, kk_bool_int, kk_bool_str, kk_bool_tuple, kk_bool_list, kk_bool_dict, kk_bool_NoneType, kk_str_int, kk_str_bool, kk_str_tuple, kk_str_list, kk_str_dict, kk_str_NoneType, kk_tuple_int, kk_tuple_bool, kk_tuple_str, kk_tuple_list, kk_tuple_dict, kk_tuple_NoneType, kk_list_int, kk_list_bool, kk_list_str, kk_list_tuple, kk_list_dict, kk_list_NoneType, kk_dict_int, kk_dict_bool, kk_dict_str, kk_dict_tuple, kk_dict_list, kk_dict_NoneType, eqV_int, neV_int, isBV_b, neV_bl, eqV_bl, eqV_ii, neV_ii, isNV_fr, notNV_fr, ixV_fr0, ixV_fr1, eqV_fr, neV_fr, int1V_b, int1V_i, ixV_hp0, ixV_hp1, isNV_hp, eqV_hp, neV_hp, tyN_fr, lenV_fr, at0, at1, at2, at3, at4, at5, ixN0, ixN1, List.map_cons, List.map_nil, List.replicate, List.cons_append, List.nil_append, List.getElem?_cons_zero, List.getElem?_cons_succ, List.set_cons_zero, List.set_cons_succ, Bool.not_true, Bool.not_false, Bool.false_eq_true, if_true, if_false, ite_true, ite_false, reduceIte, Nat.reduceSub, Nat.reduceAdd, ne_eq, Int.cast_ofNat_Int, Int.reduceBEq, Int.reduceLT, Int.reduceLE, Int.reduceEq, Int.reduceNeg, Int.reduceMul, Int.reduceAdd, Int.reduceSub, decide_true, decide_false, List.length_cons, List.length_nil, beq_self_eq_true, not_false_eq_true, not_true_eq_false , gLenSet_eq, lsR_l, gCompN_eq, mkN_l, gCat2_eq, lstOf_l, insertM_r, extendM_r, gListRg_eq, gSlV_eq, slVK_s, gForM_eq, toSM_ok, gItM_eq, mkB_t, mkB_f, e1, e2]

noncomputable def g_is_less : GS :=
  (gRet (gBin ltV (gBin mulV (gBin ixV (gVar 0) (gC (.int 0))) (gBin ixV (gVar 1) (gC (.int 1)))) (gBin mulV (gBin ixV (gVar 1) (gC (.int 0))) (gBin ixV (gVar 0) (gC (.int 1))))))
noncomputable def F_is_less : Fn := fun xs st => allR (g_is_less (begin 2 2 xs) st)
theorem is_less_ok {n : Nat} {q r : Rat} {st : List SO} (hq : RS n q) (hr : RS n r) (hn : n ≤ 4000) : F_is_less [fr q, fr r] st = .ok (.bl (decide (q < r))) st := by
  have m1 : MulOk q.num r.den := hq.1.mulOk hr.den (by omega)
  have m2 : MulOk r.num q.den := hr.1.mulOk hq.den (by omega)
  simp only [F_is_less, g_is_less, gSlN_eq, slN_r, slN_l, slNK_s, gRevN_eq, revN_r, revNK_s, tupleV_r, tupleV_l, gCallV_eq, gLend_eq, isNotBV_b, gRep_eq, repR_r, gZip_eq, zipR_t, zipR_l, gTry_eq, tryK_nx, tryK_ret, begin_eq, allR_nx, allR_ret, allR_exc, gSkip_eq, gSeq_eq, seqK_nx, seqK_ret, seqK_exc, toS_ok, toS_exc, toST_ok, toST_exc, toSL_ok, toSL_exc, gRet_eq, gAsg_eq, gSet_eq, gExpr_eq, gIfS_eq, gRaise_eq, gBin_eq, gUn_eq, gVar_eq, slotR_some, gC_eq, gArgs_nil, gArgs_cons, gTupE_eq, gLstE_eq, gNewE_eq, gCall_eq, gBi_eq, gB_eq, asB_bl, gAnd_eq, gOr_eq, gNot_eq, gVT_eq, gIf_eq, gChain_eq, chK_t, chK_f, chK_b, bnd_ok, bnd_exc, oo_some, gTo_eq, toK_some, tgName_eq, tgNil_eq, tgCons_eq, tgTup_eq, bind_some, gPar_eq, gCat_eq, catR_r, listV_t, listV_l, blsOf_nil, blsOf_cons, allV_l, isNV_d, notNV_d, parK_ok, parK_exc, gStore_eq, stK_some, gMeth_eq, gFor_eq, gRng1_eq, asI_i, gItL_eq, gItT_eq, asLst_l, asTup_t, addV_ii, subV_ii, mulV_ii, fdivV_ii, modV_ii, shlV_ii, pw6, pw9, pw18, pw19, pw20, pw25, pw30, pw39, ltV_ii, leV_ii, gtV_ii, geV_ii, negV_i, isNV_n, isNV_t, isNV_l, isNV_i, isNV_s, isNV_r, isNV_b, notNV_n, notNV_t, notNV_l, notNV_i, notNV_s, notNV_r, notNV_b, ixV_t, ixV_l, ixV_r, lenV_t, lenV_l, lenV_r, absV_i, max2V_ii, min2V_ii, bitsV_i, setIV_r, setK_some, setL_some, appendM_r, appK_some, appN_ok, isT_r, isK_l, lstK_some, tyK_l, isT_s, isiV_eq, tyN_int, tyN_bl, tyN_non, tyN_str, tyN_tup, tyN_lst, tyN_dct, tyN_r, kk_int_bool, kitK_t, kk_int_str, kk_int_tuple, kk_int_list, kk_int_dict, kk_int_NoneType, kk_bool_int, kk_bool_str, kk_bool_tuple, kk_bool_list, kk_bool_dict, kk_bool_NoneType, kk_str_int, kk_str_bool, kk_str_tuple, kk_str_list, kk_str_dict, kk_str_NoneType, kk_tuple_int, kk_tuple_bool, kk_tuple_str, kk_tuple_list, kk_tuple_dict, kk_tuple_NoneType, kk_list_int, kk_list_bool, kk_list_str, kk_list_tuple, kk_list_dict, kk_list_NoneType, kk_dict_int, kk_dict_bool, kk_dict_str, kk_dict_tuple, kk_dict_list, kk_dict_NoneType, eqV_int, neV_int, isBV_b, neV_bl, eqV_bl, eqV_ii, neV_ii, isNV_fr, notNV_fr, ixV_fr0, ixV_fr1, eqV_fr, neV_fr, int1V_b, int1V_i, ixV_hp0, ixV_hp1, isNV_hp, eqV_hp, neV_hp, tyN_fr, lenV_fr, at0, at1, at2, at3, at4, at5, ixN0, ixN1, List.map_cons, List.map_nil, List.replicate, List.cons_append, List.nil_append, List.getElem?_cons_zero, List.getElem?_cons_succ, List.set_cons_zero, List.set_cons_succ, Bool.not_true, Bool.not_false, Bool.false_eq_true, if_true, if_false, ite_true, ite_false, reduceIte, Nat.reduceSub, Nat.reduceAdd, ne_eq, Int.cast_ofNat_Int, Int.reduceBEq, Int.reduceLT, Int.reduceLE, Int.reduceEq, Int.reduceNeg, Int.reduceMul, Int.reduceAdd, Int.reduceSub, decide_true, decide_false, List.length_cons, List.length_nil, beq_self_eq_true, not_false_eq_true, not_true_eq_false , gLenSet_eq, lsR_l, gCompN_eq, mkN_l, gCat2_eq, lstOf_l, insertM_r, extendM_r, gListRg_eq, gSlV_eq, slVK_s, gForM_eq, toSM_ok, gItM_eq, mkB_t, mkB_f, fr, m1, m2, lt_eq]
theorem is_less_as {n m : Nat} {q r : Rat} {st : List SO} (hq : RS n q) (hr : RS m r) (hn : n + m ≤ 9000) : F_is_less [fr q, fr r] st = .ok (.bl (decide (q < r))) st := by
  have m1 : MulOk q.num r.den := hq.1.mulOk hr.den (by omega)
  have m2 : MulOk r.num q.den := hr.1.mulOk hq.den (by omega)
  simp only [F_is_less, g_is_less, gSlN_eq, slN_r, slN_l, slNK_s, gRevN_eq, revN_r, revNK_s, tupleV_r, tupleV_l, gCallV_eq, gLend_eq, isNotBV_b, gRep_eq, repR_r, gZip_eq, zipR_t, zipR_l, gTry_eq, tryK_nx, tryK_ret, begin_eq, allR_nx, allR_ret, allR_exc, gSkip_eq, gSeq_eq, seqK_nx, seqK_ret, seqK_exc, toS_ok, toS_exc, toST_ok, toST_exc, toSL_ok, toSL_exc, gRet_eq, gAsg_eq, gSet_eq, gExpr_eq, gIfS_eq, gRaise_eq, gBin_eq, gUn_eq, gVar_eq, slotR_some, gC_eq, gArgs_nil, gArgs_cons, gTupE_eq, gLstE_eq, gNewE_eq, gCall_eq, gBi_eq, gB_eq, asB_bl, gAnd_eq, gOr_eq, gNot_eq, gVT_eq, gIf_eq, gChain_eq, chK_t, chK_f, chK_b, bnd_ok, bnd_exc, oo_some, gTo_eq, toK_some, tgName_eq, tgNil_eq, tgCons_eq, tgTup_eq, bind_some, gPar_eq, gCat_eq, catR_r, listV_t, listV_l, blsOf_nil, blsOf_cons, allV_l, isNV_d, notNV_d, parK_ok, parK_exc, gStore_eq, stK_some, gMeth_eq, gFor_eq, gRng1_eq, asI_i, gItL_eq, gItT_eq, asLst_l, asTup_t, addV_ii, subV_ii, mulV_ii, fdivV_ii, modV_ii, shlV_ii, pw6, pw9, pw18, pw19, pw20, pw25, pw30, pw39, ltV_ii, leV_ii, gtV_ii, geV_ii, negV_i, isNV_n, isNV_t, isNV_l, isNV_i, isNV_s, isNV_r, isNV_b, notNV_n, notNV_t, notNV_l, notNV_i, notNV_s, notNV_r, notNV_b, ixV_t, ixV_l, ixV_r, lenV_t, lenV_l, lenV_r, absV_i, max2V_ii, min2V_ii, bitsV_i, setIV_r, setK_some, setL_some, appendM_r, appK_some, appN_ok, isT_r, isK_l, lstK_some, tyK_l, isT_s, isiV_eq, tyN_int, tyN_bl, tyN_non, tyN_str, tyN_tup, tyN_lst, tyN_dct, tyN_r, kk_int_bool, kitK_t, kk_int_str, kk_int_tuple, kk_int_list, kk_int_dict, kk_int_NoneType, kk_bool_int, kk_bool_str, kk_bool_tuple, kk_bool_list, kk_bool_dict, kk_bool_NoneType, kk_str_int, kk_str_bool, kk_str_tuple, kk_str_list, kk_str_dict, kk_str_NoneType, kk_tuple_int, kk_tuple_bool, kk_tuple_str, kk_tuple_list, kk_tuple_dict, kk_tuple_NoneType, kk_list_int, kk_list_bool, kk_list_str, kk_list_tuple, kk_list_dict, kk_list_NoneType, kk_dict_int, kk_dict_bool, kk_dict_str, kk_dict_tuple, kk_dict_list, kk_dict_NoneType, eqV_int, neV_int, isBV_b, neV_bl, eqV_bl, eqV_ii, neV_ii, isNV_fr, notNV_fr, ixV_fr0, ixV_fr1, eqV_fr, neV_fr, int1V_b, int1V_i, ixV_hp0, ixV_hp1, isNV_hp, eqV_hp, neV_hp, tyN_fr, lenV_fr, at0, at1, at2, at3, at4, at5, ixN0, ixN1, List.map_cons, List.map_nil, List.replicate, List.cons_append, List.nil_append, List.getElem?_cons_zero, List.getElem?_cons_succ, List.set_cons_zero, List.set_cons_succ, Bool.not_true, Bool.not_false, Bool.false_eq_true, if_true, if_false, ite_true, ite_false, reduceIte, Nat.reduceSub, Nat.reduceAdd, ne_eq, Int.cast_ofNat_Int, Int.reduceBEq, Int.reduceLT, Int.reduceLE, Int.reduceEq, Int.reduceNeg, Int.reduceMul, Int.reduceAdd, Int.reduceSub, decide_true, decide_false, List.length_cons, List.length_nil, beq_self_eq_true, not_false_eq_true, not_true_eq_false , gLenSet_eq, lsR_l, gCompN_eq, mkN_l, gCat2_eq, lstOf_l, insertM_r, extendM_r, gListRg_eq, gSlV_eq, slVK_s, gForM_eq, toSM_ok, gItM_eq, mkB_t, mkB_f, fr, m1, m2, lt_eq]

noncomputable def g_kind_of (F_lapse_and_gap : Fn) (F_is_less : Fn) : GS :=
  (gSeq (gAsg (gCall F_lapse_and_gap [(gVar 0), (gVar 1)]) (gTo (tgTup 2 (tgCons (tgName 3) (tgCons (tgName 4) tgNil)))))
  (gSeq (gSet 2 (gTupE [(gBi absV [(gBin ixV (gVar 4) (gC (.int 0)))]), (gBin ixV (gVar 4) (gC (.int 1)))]))
  (gSeq (gIfS (gAnd (gB (gBin eqV (gBin ixV (gVar 3) (gC (.int 0))) (gC (.int 0)))) (gB (gBin eqV (gBin ixV (gVar 4) (gC (.int 0))) (gC (.int 0))))) (gRet (gC (.str "same"))) gSkip)
  (gSeq (gIfS (gNot (gB (gCall F_is_less [(gVar 3), (gVar 2)]))) (gRet (gC (.str "later"))) gSkip)
  (gSeq (gIfS (gNot (gB (gCall F_is_less [(gTupE [(gBin subV (gC (.int 0)) (gBin ixV (gVar 3) (gC (.int 0)))), (gBin ixV (gVar 3) (gC (.int 1)))]), (gVar 2)]))) (gRet (gC (.str "earlier"))) gSkip)
  (gRet (gC (.str "beside"))))))))
noncomputable def F_kind_of : Fn := fun xs st => allR (g_kind_of F_lapse_and_gap F_is_less (begin 5 2 xs) st)
/-- the word of a lapse and a gap -/
theorem kind_ok {n : Nat} {t x u y : Rat} {st : List SO} (h1 : RS n t) (h2 : RS n x) (h3 : RS n u) (h4 : RS n y) (hn : n ≤ 1000) : F_kind_of [hp t x, hp u y] st = .ok (.str (kw (u - t) (y - x))) st := by
  have e1 := lapgap_ok (st := st) h1 h2 h3 h4 (by omega)
  have ha := h3.sub h1
  have hg := h4.sub h2
  generalize u - t = a at *
  generalize y - x = g at *
  have e2 := is_less_ok (st := st) ha hg.ab (by omega)
  have e3 := is_less_ok (st := st) ha.neg hg.ab (by omega)
  have n1 := num0 a
  have n2 := num0 g
  simp only [F_kind_of, g_kind_of, gSlN_eq, slN_r, slN_l, slNK_s, gRevN_eq, revN_r, revNK_s, tupleV_r, tupleV_l, gCallV_eq, gLend_eq, isNotBV_b, gRep_eq, repR_r, gZip_eq, zipR_t, zipR_l, gTry_eq, tryK_nx, tryK_ret, begin_eq, allR_nx, allR_ret, allR_exc, gSkip_eq, gSeq_eq, seqK_nx, seqK_ret, seqK_exc, toS_ok, toS_exc, toST_ok, toST_exc, toSL_ok, toSL_exc, gRet_eq, gAsg_eq, gSet_eq, gExpr_eq, gIfS_eq, gRaise_eq, gBin_eq, gUn_eq, gVar_eq, slotR_some, gC_eq, gArgs_nil, gArgs_cons, gTupE_eq, gLstE_eq, gNewE_eq, gCall_eq, gBi_eq, gB_eq, asB_bl, gAnd_eq, gOr_eq, gNot_eq, gVT_eq, gIf_eq, gChain_eq, chK_t, chK_f, chK_b, bnd_ok, bnd_exc, oo_some, gTo_eq, toK_some, tgName_eq, tgNil_eq, tgCons_eq, tgTup_eq, bind_some, gPar_eq, gCat_eq, catR_r, listV_t, listV_l, blsOf_nil, blsOf_cons, allV_l, isNV_d, notNV_d, parK_ok, parK_exc, gStore_eq, stK_some, gMeth_eq, gFor_eq, gRng1_eq, asI_i, gItL_eq, gItT_eq, asLst_l, asTup_t, addV_ii, subV_ii, mulV_ii, fdivV_ii, modV_ii, shlV_ii, pw6, pw9, pw18, pw19, pw20, pw25, pw30, pw39, ltV_ii, leV_ii, gtV_ii, geV_ii, negV_i, isNV_n, isNV_t, isNV_l, isNV_i, isNV_s, isNV_r, isNV_b, notNV_n, notNV_t, notNV_l, notNV_i, notNV_s, notNV_r, notNV_b, ixV_t, ixV_l, ixV_r, lenV_t, lenV_l, lenV_r, absV_i, max2V_ii, min2V_ii, bitsV_i, setIV_r, setK_some, setL_some, appendM_r, appK_some, appN_ok, isT_r, isK_l, lstK_some, tyK_l, isT_s, isiV_eq, tyN_int, tyN_bl, tyN_non, tyN_str, tyN_tup, tyN_lst, tyN_dct, tyN_r, kk_int_bool, kitK_t, kk_int_str, kk_int_tuple, kk_int_list, kk_int_dict, kk_int_NoneType, kk_bool_int, kk_bool_str, kk_bool_tuple, kk_bool_list, kk_bool_dict, kk_bool_NoneType, kk_str_int, kk_str_bool, kk_str_tuple, kk_str_list, kk_str_dict, kk_str_NoneType, kk_tuple_int, kk_tuple_bool, kk_tuple_str, kk_tuple_list, kk_tuple_dict, kk_tuple_NoneType, kk_list_int, kk_list_bool, kk_list_str, kk_list_tuple, kk_list_dict, kk_list_NoneType, kk_dict_int, kk_dict_bool, kk_dict_str, kk_dict_tuple, kk_dict_list, kk_dict_NoneType, eqV_int, neV_int, isBV_b, neV_bl, eqV_bl, eqV_ii, neV_ii, isNV_fr, notNV_fr, ixV_fr0, ixV_fr1, eqV_fr, neV_fr, int1V_b, int1V_i, ixV_hp0, ixV_hp1, isNV_hp, eqV_hp, neV_hp, tyN_fr, lenV_fr, at0, at1, at2, at3, at4, at5, ixN0, ixN1, List.map_cons, List.map_nil, List.replicate, List.cons_append, List.nil_append, List.getElem?_cons_zero, List.getElem?_cons_succ, List.set_cons_zero, List.set_cons_succ, Bool.not_true, Bool.not_false, Bool.false_eq_true, if_true, if_false, ite_true, ite_false, reduceIte, Nat.reduceSub, Nat.reduceAdd, ne_eq, Int.cast_ofNat_Int, Int.reduceBEq, Int.reduceLT, Int.reduceLE, Int.reduceEq, Int.reduceNeg, Int.reduceMul, Int.reduceAdd, Int.reduceSub, decide_true, decide_false, List.length_cons, List.length_nil, beq_self_eq_true, not_false_eq_true, not_true_eq_false , gLenSet_eq, lsR_l, gCompN_eq, mkN_l, gCat2_eq, lstOf_l, insertM_r, extendM_r, gListRg_eq, gSlV_eq, slVK_s, gForM_eq, toSM_ok, gItM_eq, mkB_t, mkB_f, e1, n1, n2, ab_fr, neg_fr]
  unfold kw
  generalize ab g = b at *
  generalize decide (a = 0) = b1 at *
  generalize decide (g = 0) = b2 at *
  generalize decide (a < b) = b3 at *
  generalize decide (-a < b) = b4 at *
  cases b1 <;> cases b2 <;> cases b3 <;> cases b4 <;> simp only [gSlN_eq, slN_r, slN_l, slNK_s, gRevN_eq, revN_r, revNK_s, tupleV_r, tupleV_l, gCallV_eq, gLend_eq, isNotBV_b, gRep_eq, repR_r, gZip_eq, zipR_t, zipR_l, gTry_eq, tryK_nx, tryK_ret, begin_eq, allR_nx, allR_ret, allR_exc, gSkip_eq, gSeq_eq, seqK_nx, seqK_ret, seqK_exc, toS_ok, toS_exc, toST_ok, toST_exc, toSL_ok, toSL_exc, gRet_eq, gAsg_eq, gSet_eq, gExpr_eq, gIfS_eq, gRaise_eq, gBin_eq, gUn_eq, gVar_eq, slotR_some, gC_eq, gArgs_nil, gArgs_cons, gTupE_eq, gLstE_eq, gNewE_eq, gCall_eq, gBi_eq, gB_eq, asB_bl, gAnd_eq, gOr_eq, gNot_eq, gVT_eq, gIf_eq, gChain_eq, chK_t, chK_f, chK_b, bnd_ok, bnd_exc, oo_some, gTo_eq, toK_some, tgName_eq, tgNil_eq, tgCons_eq, tgTup_eq, bind_some, gPar_eq, gCat_eq, catR_r, listV_t, listV_l, blsOf_nil, blsOf_cons, allV_l, isNV_d, notNV_d, parK_ok, parK_exc, gStore_eq, stK_some, gMeth_eq, gFor_eq, gRng1_eq, asI_i, gItL_eq, gItT_eq, asLst_l, asTup_t, addV_ii, subV_ii, mulV_ii, fdivV_ii, modV_ii, shlV_ii, pw6, pw9, pw18, pw19, pw20, pw25, pw30, pw39, ltV_ii, leV_ii, gtV_ii, geV_ii, negV_i, isNV_n, isNV_t, isNV_l, isNV_i, isNV_s, isNV_r, isNV_b, notNV_n, notNV_t, notNV_l, notNV_i, notNV_s, notNV_r, notNV_b, ixV_t, ixV_l, ixV_r, lenV_t, lenV_l, lenV_r, absV_i, max2V_ii, min2V_ii, bitsV_i, setIV_r, setK_some, setL_some, appendM_r, appK_some, appN_ok, isT_r, isK_l, lstK_some, tyK_l, isT_s, isiV_eq, tyN_int, tyN_bl, tyN_non, tyN_str, tyN_tup, tyN_lst, tyN_dct, tyN_r, kk_int_bool, kitK_t, kk_int_str, kk_int_tuple, kk_int_list, kk_int_dict, kk_int_NoneType, kk_bool_int, kk_bool_str, kk_bool_tuple, kk_bool_list, kk_bool_dict, kk_bool_NoneType, kk_str_int, kk_str_bool, kk_str_tuple, kk_str_list, kk_str_dict, kk_str_NoneType, kk_tuple_int, kk_tuple_bool, kk_tuple_str, kk_tuple_list, kk_tuple_dict, kk_tuple_NoneType, kk_list_int, kk_list_bool, kk_list_str, kk_list_tuple, kk_list_dict, kk_list_NoneType, kk_dict_int, kk_dict_bool, kk_dict_str, kk_dict_tuple, kk_dict_list, kk_dict_NoneType, eqV_int, neV_int, isBV_b, neV_bl, eqV_bl, eqV_ii, neV_ii, isNV_fr, notNV_fr, ixV_fr0, ixV_fr1, eqV_fr, neV_fr, int1V_b, int1V_i, ixV_hp0, ixV_hp1, isNV_hp, eqV_hp, neV_hp, tyN_fr, lenV_fr, at0, at1, at2, at3, at4, at5, ixN0, ixN1, List.map_cons, List.map_nil, List.replicate, List.cons_append, List.nil_append, List.getElem?_cons_zero, List.getElem?_cons_succ, List.set_cons_zero, List.set_cons_succ, Bool.not_true, Bool.not_false, Bool.false_eq_true, if_true, if_false, ite_true, ite_false, reduceIte, Nat.reduceSub, Nat.reduceAdd, ne_eq, Int.cast_ofNat_Int, Int.reduceBEq, Int.reduceLT, Int.reduceLE, Int.reduceEq, Int.reduceNeg, Int.reduceMul, Int.reduceAdd, Int.reduceSub, decide_true, decide_false, List.length_cons, List.length_nil, beq_self_eq_true, not_false_eq_true, not_true_eq_false , gLenSet_eq, lsR_l, gCompN_eq, mkN_l, gCat2_eq, lstOf_l, insertM_r, extendM_r, gListRg_eq, gSlV_eq, slVK_s, gForM_eq, toSM_ok, gItM_eq, mkB_t, mkB_f, neg_fr, e2, e3, kwB, Bool.and_self, Bool.and_false, Bool.and_true]

noncomputable def g_reaches (F_kind_of : Fn) : GS :=
  (gRet (gBin eqV (gCall F_kind_of [(gBin ixV (gVar 0) (gVar 1)), (gBin ixV (gVar 0) (gVar 2))]) (gC (.str "later"))))
noncomputable def F_reaches : Fn := fun xs st => allR (g_reaches F_kind_of (begin 3 3 xs) st)
theorem reaches_ok {n : Nat} {hs : List (Rat × Rat)} {st : List SO} {i j : Nat} (hr : ∀ h ∈ hs, HR n h) (hn : n ≤ 1000) (hi : i < hs.length) (hj : j < hs.length) : F_reaches [.lst (hs.map hq), .int (i : Int), .int (j : Int)] st = .ok (.bl (rch (hat hs i) (hat hs j))) st := by
  have a := hr _ (hat_mem hi)
  have b := hr _ (hat_mem hj)
  have a1 := at_hat hi
  have a2 := at_hat hj
  have k := kind_ok (st := st) a.t a.x b.t b.x hn
  have k : F_kind_of [hq (hat hs i), hq (hat hs j)] st = _ := k
  have e := eqV_str (st := st) (sto_kw ((hat hs j).1 - (hat hs i).1) ((hat hs j).2 - (hat hs i).2)) sto_lat
  simp only [F_reaches, g_reaches, gSlN_eq, slN_r, slN_l, slNK_s, gRevN_eq, revN_r, revNK_s, tupleV_r, tupleV_l, gCallV_eq, gLend_eq, isNotBV_b, gRep_eq, repR_r, gZip_eq, zipR_t, zipR_l, gTry_eq, tryK_nx, tryK_ret, begin_eq, allR_nx, allR_ret, allR_exc, gSkip_eq, gSeq_eq, seqK_nx, seqK_ret, seqK_exc, toS_ok, toS_exc, toST_ok, toST_exc, toSL_ok, toSL_exc, gRet_eq, gAsg_eq, gSet_eq, gExpr_eq, gIfS_eq, gRaise_eq, gBin_eq, gUn_eq, gVar_eq, slotR_some, gC_eq, gArgs_nil, gArgs_cons, gTupE_eq, gLstE_eq, gNewE_eq, gCall_eq, gBi_eq, gB_eq, asB_bl, gAnd_eq, gOr_eq, gNot_eq, gVT_eq, gIf_eq, gChain_eq, chK_t, chK_f, chK_b, bnd_ok, bnd_exc, oo_some, gTo_eq, toK_some, tgName_eq, tgNil_eq, tgCons_eq, tgTup_eq, bind_some, gPar_eq, gCat_eq, catR_r, listV_t, listV_l, blsOf_nil, blsOf_cons, allV_l, isNV_d, notNV_d, parK_ok, parK_exc, gStore_eq, stK_some, gMeth_eq, gFor_eq, gRng1_eq, asI_i, gItL_eq, gItT_eq, asLst_l, asTup_t, addV_ii, subV_ii, mulV_ii, fdivV_ii, modV_ii, shlV_ii, pw6, pw9, pw18, pw19, pw20, pw25, pw30, pw39, ltV_ii, leV_ii, gtV_ii, geV_ii, negV_i, isNV_n, isNV_t, isNV_l, isNV_i, isNV_s, isNV_r, isNV_b, notNV_n, notNV_t, notNV_l, notNV_i, notNV_s, notNV_r, notNV_b, ixV_t, ixV_l, ixV_r, lenV_t, lenV_l, lenV_r, absV_i, max2V_ii, min2V_ii, bitsV_i, setIV_r, setK_some, setL_some, appendM_r, appK_some, appN_ok, isT_r, isK_l, lstK_some, tyK_l, isT_s, isiV_eq, tyN_int, tyN_bl, tyN_non, tyN_str, tyN_tup, tyN_lst, tyN_dct, tyN_r, kk_int_bool, kitK_t, kk_int_str, kk_int_tuple, kk_int_list, kk_int_dict, kk_int_NoneType, kk_bool_int, kk_bool_str, kk_bool_tuple, kk_bool_list, kk_bool_dict, kk_bool_NoneType, kk_str_int, kk_str_bool, kk_str_tuple, kk_str_list, kk_str_dict, kk_str_NoneType, kk_tuple_int, kk_tuple_bool, kk_tuple_str, kk_tuple_list, kk_tuple_dict, kk_tuple_NoneType, kk_list_int, kk_list_bool, kk_list_str, kk_list_tuple, kk_list_dict, kk_list_NoneType, kk_dict_int, kk_dict_bool, kk_dict_str, kk_dict_tuple, kk_dict_list, kk_dict_NoneType, eqV_int, neV_int, isBV_b, neV_bl, eqV_bl, eqV_ii, neV_ii, isNV_fr, notNV_fr, ixV_fr0, ixV_fr1, eqV_fr, neV_fr, int1V_b, int1V_i, ixV_hp0, ixV_hp1, isNV_hp, eqV_hp, neV_hp, tyN_fr, lenV_fr, at0, at1, at2, at3, at4, at5, ixN0, ixN1, List.map_cons, List.map_nil, List.replicate, List.cons_append, List.nil_append, List.getElem?_cons_zero, List.getElem?_cons_succ, List.set_cons_zero, List.set_cons_succ, Bool.not_true, Bool.not_false, Bool.false_eq_true, if_true, if_false, ite_true, ite_false, reduceIte, Nat.reduceSub, Nat.reduceAdd, ne_eq, Int.cast_ofNat_Int, Int.reduceBEq, Int.reduceLT, Int.reduceLE, Int.reduceEq, Int.reduceNeg, Int.reduceMul, Int.reduceAdd, Int.reduceSub, decide_true, decide_false, List.length_cons, List.length_nil, beq_self_eq_true, not_false_eq_true, not_true_eq_false , gLenSet_eq, lsR_l, gCompN_eq, mkN_l, gCat2_eq, lstOf_l, insertM_r, extendM_r, gListRg_eq, gSlV_eq, slVK_s, gForM_eq, toSM_ok, gItM_eq, mkB_t, mkB_f, a1, a2, k, e]
  rfl

noncomputable def g_rows_of (F_reaches : Fn) : GS :=
  (gRet (gCompN (gRng1 (gBi lenV [(gVar 0)])) (tgName 1) gYes (gCompN (gRng1 (gBi lenV [(gVar 0)])) (tgName 2) (gB (gCall F_reaches [(gVar 0), (gVar 1), (gVar 2)])) (gVar 2) [2]) [1]))
noncomputable def F_rows_of : Fn := fun xs st => allR (g_rows_of F_reaches (begin 3 1 xs) st)
/-- the new rows, and the list of them -/
noncomputable def rowsS (st : List SO) (hs : List (Rat × Rat)) (k : Nat) : List SO := st ++ (List.range k).map fun i => SO.lst (pvN (rowN hs i))
theorem rowsS_len {st : List SO} {hs : List (Rat × Rat)} {k : Nat} : (rowsS st hs k).length = st.length + k := by unfold rowsS; rw [List.length_append, List.length_map, List.length_range]
theorem rowsof_in {n : Nat} {hs : List (Rat × Rat)} {S : List SO} {i : Nat} (hr : ∀ h ∈ hs, HR n h) (hn : n ≤ 1000) (hi : i < hs.length) (l12 : hs.length ≤ 60) : gCompN (gRng1 (gBi lenV [(gVar 0)])) (tgName 2) (gB (gCall F_reaches [(gVar 0), (gVar 1), (gVar 2)])) (gVar 2) [2] [some (.lst (hs.map hq)), some (.int (i : Int)), none] S = .ok (.ref S.length) (S ++ [.lst (pvN (rowN hs i))]) := by
  have len : (hs.map hq).length = hs.length := List.length_map ..
  have r1 : RngOk ((hs.map hq).length : Int) := by rw [len]; unfold RngOk; omega
  have c := comp_rng (it := gRng1 (gBi lenV [(gVar 0)])) (t := tgName 2) (c := (gB (gCall F_reaches [(gVar 0), (gVar 1), (gVar 2)]))) (e := gVar 2) (vs := [2]) (ρ := [some (.lst (hs.map hq)), some (.int (i : Int)), none]) (st := S) (n := hs.length) (fun j => rch (hat hs i) (hat hs j)) (by simp only [gSlN_eq, slN_r, slN_l, slNK_s, gRevN_eq, revN_r, revNK_s, tupleV_r, tupleV_l, gCallV_eq, gLend_eq, isNotBV_b, gRep_eq, repR_r, gZip_eq, zipR_t, zipR_l, gTry_eq, tryK_nx, tryK_ret, begin_eq, allR_nx, allR_ret, allR_exc, gSkip_eq, gSeq_eq, seqK_nx, seqK_ret, seqK_exc, toS_ok, toS_exc, toST_ok, toST_exc, toSL_ok, toSL_exc, gRet_eq, gAsg_eq, gSet_eq, gExpr_eq, gIfS_eq, gRaise_eq, gBin_eq, gUn_eq, gVar_eq, slotR_some, gC_eq, gArgs_nil, gArgs_cons, gTupE_eq, gLstE_eq, gNewE_eq, gCall_eq, gBi_eq, gB_eq, asB_bl, gAnd_eq, gOr_eq, gNot_eq, gVT_eq, gIf_eq, gChain_eq, chK_t, chK_f, chK_b, bnd_ok, bnd_exc, oo_some, gTo_eq, toK_some, tgName_eq, tgNil_eq, tgCons_eq, tgTup_eq, bind_some, gPar_eq, gCat_eq, catR_r, listV_t, listV_l, blsOf_nil, blsOf_cons, allV_l, isNV_d, notNV_d, parK_ok, parK_exc, gStore_eq, stK_some, gMeth_eq, gFor_eq, gRng1_eq, asI_i, gItL_eq, gItT_eq, asLst_l, asTup_t, addV_ii, subV_ii, mulV_ii, fdivV_ii, modV_ii, shlV_ii, pw6, pw9, pw18, pw19, pw20, pw25, pw30, pw39, ltV_ii, leV_ii, gtV_ii, geV_ii, negV_i, isNV_n, isNV_t, isNV_l, isNV_i, isNV_s, isNV_r, isNV_b, notNV_n, notNV_t, notNV_l, notNV_i, notNV_s, notNV_r, notNV_b, ixV_t, ixV_l, ixV_r, lenV_t, lenV_l, lenV_r, absV_i, max2V_ii, min2V_ii, bitsV_i, setIV_r, setK_some, setL_some, appendM_r, appK_some, appN_ok, isT_r, isK_l, lstK_some, tyK_l, isT_s, isiV_eq, tyN_int, tyN_bl, tyN_non, tyN_str, tyN_tup, tyN_lst, tyN_dct, tyN_r, kk_int_bool, kitK_t, kk_int_str, kk_int_tuple, kk_int_list, kk_int_dict, kk_int_NoneType, kk_bool_int, kk_bool_str, kk_bool_tuple, kk_bool_list, kk_bool_dict, kk_bool_NoneType, kk_str_int, kk_str_bool, kk_str_tuple, kk_str_list, kk_str_dict, kk_str_NoneType, kk_tuple_int, kk_tuple_bool, kk_tuple_str, kk_tuple_list, kk_tuple_dict, kk_tuple_NoneType, kk_list_int, kk_list_bool, kk_list_str, kk_list_tuple, kk_list_dict, kk_list_NoneType, kk_dict_int, kk_dict_bool, kk_dict_str, kk_dict_tuple, kk_dict_list, kk_dict_NoneType, eqV_int, neV_int, isBV_b, neV_bl, eqV_bl, eqV_ii, neV_ii, isNV_fr, notNV_fr, ixV_fr0, ixV_fr1, eqV_fr, neV_fr, int1V_b, int1V_i, ixV_hp0, ixV_hp1, isNV_hp, eqV_hp, neV_hp, tyN_fr, lenV_fr, at0, at1, at2, at3, at4, at5, ixN0, ixN1, List.map_cons, List.map_nil, List.replicate, List.cons_append, List.nil_append, List.getElem?_cons_zero, List.getElem?_cons_succ, List.set_cons_zero, List.set_cons_succ, Bool.not_true, Bool.not_false, Bool.false_eq_true, if_true, if_false, ite_true, ite_false, reduceIte, Nat.reduceSub, Nat.reduceAdd, ne_eq, Int.cast_ofNat_Int, Int.reduceBEq, Int.reduceLT, Int.reduceLE, Int.reduceEq, Int.reduceNeg, Int.reduceMul, Int.reduceAdd, Int.reduceSub, decide_true, decide_false, List.length_cons, List.length_nil, beq_self_eq_true, not_false_eq_true, not_true_eq_false , gLenSet_eq, lsR_l, gCompN_eq, mkN_l, gCat2_eq, lstOf_l, insertM_r, extendM_r, gListRg_eq, gSlV_eq, slVK_s, gForM_eq, toSM_ok, gItM_eq, mkB_t, mkB_f, asI_i r1]; rw [Int.toNat_natCast, len]) (by omega) fun j hj => by
    have e := reaches_ok (st := S) hr hn hi hj
    refine ⟨_, rfl, ?_, fun _ => rfl⟩
    simp only [gSlN_eq, slN_r, slN_l, slNK_s, gRevN_eq, revN_r, revNK_s, tupleV_r, tupleV_l, gCallV_eq, gLend_eq, isNotBV_b, gRep_eq, repR_r, gZip_eq, zipR_t, zipR_l, gTry_eq, tryK_nx, tryK_ret, begin_eq, allR_nx, allR_ret, allR_exc, gSkip_eq, gSeq_eq, seqK_nx, seqK_ret, seqK_exc, toS_ok, toS_exc, toST_ok, toST_exc, toSL_ok, toSL_exc, gRet_eq, gAsg_eq, gSet_eq, gExpr_eq, gIfS_eq, gRaise_eq, gBin_eq, gUn_eq, gVar_eq, slotR_some, gC_eq, gArgs_nil, gArgs_cons, gTupE_eq, gLstE_eq, gNewE_eq, gCall_eq, gBi_eq, gB_eq, asB_bl, gAnd_eq, gOr_eq, gNot_eq, gVT_eq, gIf_eq, gChain_eq, chK_t, chK_f, chK_b, bnd_ok, bnd_exc, oo_some, gTo_eq, toK_some, tgName_eq, tgNil_eq, tgCons_eq, tgTup_eq, bind_some, gPar_eq, gCat_eq, catR_r, listV_t, listV_l, blsOf_nil, blsOf_cons, allV_l, isNV_d, notNV_d, parK_ok, parK_exc, gStore_eq, stK_some, gMeth_eq, gFor_eq, gRng1_eq, asI_i, gItL_eq, gItT_eq, asLst_l, asTup_t, addV_ii, subV_ii, mulV_ii, fdivV_ii, modV_ii, shlV_ii, pw6, pw9, pw18, pw19, pw20, pw25, pw30, pw39, ltV_ii, leV_ii, gtV_ii, geV_ii, negV_i, isNV_n, isNV_t, isNV_l, isNV_i, isNV_s, isNV_r, isNV_b, notNV_n, notNV_t, notNV_l, notNV_i, notNV_s, notNV_r, notNV_b, ixV_t, ixV_l, ixV_r, lenV_t, lenV_l, lenV_r, absV_i, max2V_ii, min2V_ii, bitsV_i, setIV_r, setK_some, setL_some, appendM_r, appK_some, appN_ok, isT_r, isK_l, lstK_some, tyK_l, isT_s, isiV_eq, tyN_int, tyN_bl, tyN_non, tyN_str, tyN_tup, tyN_lst, tyN_dct, tyN_r, kk_int_bool, kitK_t, kk_int_str, kk_int_tuple, kk_int_list, kk_int_dict, kk_int_NoneType, kk_bool_int, kk_bool_str, kk_bool_tuple, kk_bool_list, kk_bool_dict, kk_bool_NoneType, kk_str_int, kk_str_bool, kk_str_tuple, kk_str_list, kk_str_dict, kk_str_NoneType, kk_tuple_int, kk_tuple_bool, kk_tuple_str, kk_tuple_list, kk_tuple_dict, kk_tuple_NoneType, kk_list_int, kk_list_bool, kk_list_str, kk_list_tuple, kk_list_dict, kk_list_NoneType, kk_dict_int, kk_dict_bool, kk_dict_str, kk_dict_tuple, kk_dict_list, kk_dict_NoneType, eqV_int, neV_int, isBV_b, neV_bl, eqV_bl, eqV_ii, neV_ii, isNV_fr, notNV_fr, ixV_fr0, ixV_fr1, eqV_fr, neV_fr, int1V_b, int1V_i, ixV_hp0, ixV_hp1, isNV_hp, eqV_hp, neV_hp, tyN_fr, lenV_fr, at0, at1, at2, at3, at4, at5, ixN0, ixN1, List.map_cons, List.map_nil, List.replicate, List.cons_append, List.nil_append, List.getElem?_cons_zero, List.getElem?_cons_succ, List.set_cons_zero, List.set_cons_succ, Bool.not_true, Bool.not_false, Bool.false_eq_true, if_true, if_false, ite_true, ite_false, reduceIte, Nat.reduceSub, Nat.reduceAdd, ne_eq, Int.cast_ofNat_Int, Int.reduceBEq, Int.reduceLT, Int.reduceLE, Int.reduceEq, Int.reduceNeg, Int.reduceMul, Int.reduceAdd, Int.reduceSub, decide_true, decide_false, List.length_cons, List.length_nil, beq_self_eq_true, not_false_eq_true, not_true_eq_false , gLenSet_eq, lsR_l, gCompN_eq, mkN_l, gCat2_eq, lstOf_l, insertM_r, extendM_r, gListRg_eq, gSlV_eq, slVK_s, gForM_eq, toSM_ok, gItM_eq, mkB_t, mkB_f, wipeR, e]
  rw [gCompN_eq, c, bnd_ok, mkN_l]
  rfl
theorem rowsof_ok {n : Nat} {hs : List (Rat × Rat)} {st : List SO} (hr : ∀ h ∈ hs, HR n h) (hn : n ≤ 1000) (l12 : hs.length ≤ 60) : F_rows_of [.lst (hs.map hq)] st = .ok (.ref (st.length + hs.length)) (rowsS st hs hs.length ++ [.lst ((List.range hs.length).map fun i => .ref (st.length + i))]) := by
  have len : (hs.map hq).length = hs.length := List.length_map ..
  have r1 : RngOk ((hs.map hq).length : Int) := by rw [len]; unfold RngOk; omega
  have cm : ∀ m i : Nat, i + m = hs.length → compg (tgName 1) gYes (gCompN (gRng1 (gBi lenV [(gVar 0)])) (tgName 2) (gB (gCall F_reaches [(gVar 0), (gVar 1), (gVar 2)])) (gVar 2) [2]) (wipeR [some (.lst (hs.map hq)), none, none] [1]) (((List.range hs.length).drop i).map fun (j : Nat) => PV.int (j : Int)) (rowsS st hs i) = .ok (((List.range hs.length).drop i).map fun j => .ref (st.length + j)) (rowsS st hs hs.length) := by
    intro m
    induction m with
    | zero =>
      intro i h
      have : i = hs.length := by omega
      subst this
      rw [List.drop_of_length_le (by rw [List.length_range]; exact Nat.le_refl _)]
      rfl
    | succ m ih =>
      intro i h
      have hi : i < hs.length := by omega
      have dr : (List.range hs.length).drop i = i :: (List.range hs.length).drop (i + 1) := by
        rw [List.drop_eq_getElem_cons (by rw [List.length_range]; exact hi), List.getElem_range]
      rw [dr, List.map_cons, List.map_cons]
      have e := rowsof_in (S := rowsS st hs i) hr hn hi l12
      have es : rowsS st hs i ++ [.lst (pvN (rowN hs i))] = rowsS st hs (i + 1) := by
        unfold rowsS
        rw [map_succ, List.append_assoc]
      rw [es, rowsS_len] at e
      unfold compg
      show bnd (Res.ok true (rowsS st hs i)) _ = _
      rw [bnd_ok, if_pos rfl]
      have e : gCompN (gRng1 (gBi lenV [(gVar 0)])) (tgName 2) (gB (gCall F_reaches [(gVar 0), (gVar 1), (gVar 2)])) (gVar 2) [2] ((wipeR [some (.lst (hs.map hq)), none, none] [1]).set 1 (some (.int (i : Int)))) (rowsS st hs i) = _ := e
      rw [e, bnd_ok, ih (i + 1) (by omega), bnd_ok]
  have c0 := cm hs.length 0 (by omega)
  rw [List.drop_zero] at c0
  have s0 : rowsS st hs 0 = st := List.append_nil st
  rw [s0] at c0
  have ri : gRng1 (gBi lenV [(gVar 0)]) [some (.lst (hs.map hq)), none, none] st = .ok ((List.range hs.length).map fun (j : Nat) => PV.int (j : Int)) st := by
    simp only [gSlN_eq, slN_r, slN_l, slNK_s, gRevN_eq, revN_r, revNK_s, tupleV_r, tupleV_l, gCallV_eq, gLend_eq, isNotBV_b, gRep_eq, repR_r, gZip_eq, zipR_t, zipR_l, gTry_eq, tryK_nx, tryK_ret, begin_eq, allR_nx, allR_ret, allR_exc, gSkip_eq, gSeq_eq, seqK_nx, seqK_ret, seqK_exc, toS_ok, toS_exc, toST_ok, toST_exc, toSL_ok, toSL_exc, gRet_eq, gAsg_eq, gSet_eq, gExpr_eq, gIfS_eq, gRaise_eq, gBin_eq, gUn_eq, gVar_eq, slotR_some, gC_eq, gArgs_nil, gArgs_cons, gTupE_eq, gLstE_eq, gNewE_eq, gCall_eq, gBi_eq, gB_eq, asB_bl, gAnd_eq, gOr_eq, gNot_eq, gVT_eq, gIf_eq, gChain_eq, chK_t, chK_f, chK_b, bnd_ok, bnd_exc, oo_some, gTo_eq, toK_some, tgName_eq, tgNil_eq, tgCons_eq, tgTup_eq, bind_some, gPar_eq, gCat_eq, catR_r, listV_t, listV_l, blsOf_nil, blsOf_cons, allV_l, isNV_d, notNV_d, parK_ok, parK_exc, gStore_eq, stK_some, gMeth_eq, gFor_eq, gRng1_eq, asI_i, gItL_eq, gItT_eq, asLst_l, asTup_t, addV_ii, subV_ii, mulV_ii, fdivV_ii, modV_ii, shlV_ii, pw6, pw9, pw18, pw19, pw20, pw25, pw30, pw39, ltV_ii, leV_ii, gtV_ii, geV_ii, negV_i, isNV_n, isNV_t, isNV_l, isNV_i, isNV_s, isNV_r, isNV_b, notNV_n, notNV_t, notNV_l, notNV_i, notNV_s, notNV_r, notNV_b, ixV_t, ixV_l, ixV_r, lenV_t, lenV_l, lenV_r, absV_i, max2V_ii, min2V_ii, bitsV_i, setIV_r, setK_some, setL_some, appendM_r, appK_some, appN_ok, isT_r, isK_l, lstK_some, tyK_l, isT_s, isiV_eq, tyN_int, tyN_bl, tyN_non, tyN_str, tyN_tup, tyN_lst, tyN_dct, tyN_r, kk_int_bool, kitK_t, kk_int_str, kk_int_tuple, kk_int_list, kk_int_dict, kk_int_NoneType, kk_bool_int, kk_bool_str, kk_bool_tuple, kk_bool_list, kk_bool_dict, kk_bool_NoneType, kk_str_int, kk_str_bool, kk_str_tuple, kk_str_list, kk_str_dict, kk_str_NoneType, kk_tuple_int, kk_tuple_bool, kk_tuple_str, kk_tuple_list, kk_tuple_dict, kk_tuple_NoneType, kk_list_int, kk_list_bool, kk_list_str, kk_list_tuple, kk_list_dict, kk_list_NoneType, kk_dict_int, kk_dict_bool, kk_dict_str, kk_dict_tuple, kk_dict_list, kk_dict_NoneType, eqV_int, neV_int, isBV_b, neV_bl, eqV_bl, eqV_ii, neV_ii, isNV_fr, notNV_fr, ixV_fr0, ixV_fr1, eqV_fr, neV_fr, int1V_b, int1V_i, ixV_hp0, ixV_hp1, isNV_hp, eqV_hp, neV_hp, tyN_fr, lenV_fr, at0, at1, at2, at3, at4, at5, ixN0, ixN1, List.map_cons, List.map_nil, List.replicate, List.cons_append, List.nil_append, List.getElem?_cons_zero, List.getElem?_cons_succ, List.set_cons_zero, List.set_cons_succ, Bool.not_true, Bool.not_false, Bool.false_eq_true, if_true, if_false, ite_true, ite_false, reduceIte, Nat.reduceSub, Nat.reduceAdd, ne_eq, Int.cast_ofNat_Int, Int.reduceBEq, Int.reduceLT, Int.reduceLE, Int.reduceEq, Int.reduceNeg, Int.reduceMul, Int.reduceAdd, Int.reduceSub, decide_true, decide_false, List.length_cons, List.length_nil, beq_self_eq_true, not_false_eq_true, not_true_eq_false , gLenSet_eq, lsR_l, gCompN_eq, mkN_l, gCat2_eq, lstOf_l, insertM_r, extendM_r, gListRg_eq, gSlV_eq, slVK_s, gForM_eq, toSM_ok, gItM_eq, mkB_t, mkB_f, asI_i r1]
    rw [Int.toNat_natCast, len, rng_pvN']
    rfl
  have g := gComp_ok ri c0 (lenOk_small (by rw [List.length_map, List.length_range]; omega))
  have l := rowsS_len (st := st) (hs := hs) (k := hs.length)
  generalize rowsS st hs hs.length = S at *
  simp only [F_rows_of, g_rows_of, gSlN_eq, slN_r, slN_l, slNK_s, gRevN_eq, revN_r, revNK_s, tupleV_r, tupleV_l, gCallV_eq, gLend_eq, isNotBV_b, gRep_eq, repR_r, gZip_eq, zipR_t, zipR_l, gTry_eq, tryK_nx, tryK_ret, begin_eq, allR_nx, allR_ret, allR_exc, gSkip_eq, gSeq_eq, seqK_nx, seqK_ret, seqK_exc, toS_ok, toS_exc, toST_ok, toST_exc, toSL_ok, toSL_exc, gRet_eq, gAsg_eq, gSet_eq, gExpr_eq, gIfS_eq, gRaise_eq, gBin_eq, gUn_eq, gVar_eq, slotR_some, gC_eq, gArgs_nil, gArgs_cons, gTupE_eq, gLstE_eq, gNewE_eq, gCall_eq, gBi_eq, gB_eq, asB_bl, gAnd_eq, gOr_eq, gNot_eq, gVT_eq, gIf_eq, gChain_eq, chK_t, chK_f, chK_b, bnd_ok, bnd_exc, oo_some, gTo_eq, toK_some, tgName_eq, tgNil_eq, tgCons_eq, tgTup_eq, bind_some, gPar_eq, gCat_eq, catR_r, listV_t, listV_l, blsOf_nil, blsOf_cons, allV_l, isNV_d, notNV_d, parK_ok, parK_exc, gStore_eq, stK_some, gMeth_eq, gFor_eq, gRng1_eq, asI_i, gItL_eq, gItT_eq, asLst_l, asTup_t, addV_ii, subV_ii, mulV_ii, fdivV_ii, modV_ii, shlV_ii, pw6, pw9, pw18, pw19, pw20, pw25, pw30, pw39, ltV_ii, leV_ii, gtV_ii, geV_ii, negV_i, isNV_n, isNV_t, isNV_l, isNV_i, isNV_s, isNV_r, isNV_b, notNV_n, notNV_t, notNV_l, notNV_i, notNV_s, notNV_r, notNV_b, ixV_t, ixV_l, ixV_r, lenV_t, lenV_l, lenV_r, absV_i, max2V_ii, min2V_ii, bitsV_i, setIV_r, setK_some, setL_some, appendM_r, appK_some, appN_ok, isT_r, isK_l, lstK_some, tyK_l, isT_s, isiV_eq, tyN_int, tyN_bl, tyN_non, tyN_str, tyN_tup, tyN_lst, tyN_dct, tyN_r, kk_int_bool, kitK_t, kk_int_str, kk_int_tuple, kk_int_list, kk_int_dict, kk_int_NoneType, kk_bool_int, kk_bool_str, kk_bool_tuple, kk_bool_list, kk_bool_dict, kk_bool_NoneType, kk_str_int, kk_str_bool, kk_str_tuple, kk_str_list, kk_str_dict, kk_str_NoneType, kk_tuple_int, kk_tuple_bool, kk_tuple_str, kk_tuple_list, kk_tuple_dict, kk_tuple_NoneType, kk_list_int, kk_list_bool, kk_list_str, kk_list_tuple, kk_list_dict, kk_list_NoneType, kk_dict_int, kk_dict_bool, kk_dict_str, kk_dict_tuple, kk_dict_list, kk_dict_NoneType, eqV_int, neV_int, isBV_b, neV_bl, eqV_bl, eqV_ii, neV_ii, isNV_fr, notNV_fr, ixV_fr0, ixV_fr1, eqV_fr, neV_fr, int1V_b, int1V_i, ixV_hp0, ixV_hp1, isNV_hp, eqV_hp, neV_hp, tyN_fr, lenV_fr, at0, at1, at2, at3, at4, at5, ixN0, ixN1, List.map_cons, List.map_nil, List.replicate, List.cons_append, List.nil_append, List.getElem?_cons_zero, List.getElem?_cons_succ, List.set_cons_zero, List.set_cons_succ, Bool.not_true, Bool.not_false, Bool.false_eq_true, if_true, if_false, ite_true, ite_false, reduceIte, Nat.reduceSub, Nat.reduceAdd, ne_eq, Int.cast_ofNat_Int, Int.reduceBEq, Int.reduceLT, Int.reduceLE, Int.reduceEq, Int.reduceNeg, Int.reduceMul, Int.reduceAdd, Int.reduceSub, decide_true, decide_false, List.length_cons, List.length_nil, beq_self_eq_true, not_false_eq_true, not_true_eq_false , gLenSet_eq, lsR_l, gCompN_eq, mkN_l, gCat2_eq, lstOf_l, insertM_r, extendM_r, gListRg_eq, gSlV_eq, slVK_s, gForM_eq, toSM_ok, gItM_eq, mkB_t, mkB_f, g, l]
theorem rows_frz {st : List SO} {hs : List (Rat × Rat)} : frzV (rowsS st hs hs.length ++ [.lst ((List.range hs.length).map fun i => .ref (st.length + i))]) 0 9 (.ref (st.length + hs.length)) = some (.lst ((List.range hs.length).map fun i => .lst (pvN (rowN hs i)))) := by
  have l := rowsS_len (st := st) (hs := hs) (k := hs.length)
  have top : (rowsS st hs hs.length ++ [.lst ((List.range hs.length).map fun i => PV.ref (st.length + i))])[st.length + hs.length]? = some (.lst ((List.range hs.length).map fun i => .ref (st.length + i))) := by
    rw [← l]; exact get_new
  have row : ∀ i, i < hs.length → (rowsS st hs hs.length ++ [.lst ((List.range hs.length).map fun i => PV.ref (st.length + i))])[st.length + i]? = some (.lst (pvN (rowN hs i))) := fun i hi => by
    rw [List.getElem?_append_left (by omega)]
    unfold rowsS
    rw [new_at, List.getElem?_map, List.getElem?_range hi]
    rfl
  generalize rowsS st hs hs.length ++ [.lst ((List.range hs.length).map fun i => PV.ref (st.length + i))] = S at *
  have e : frzV S 0 9 (.ref (st.length + hs.length)) = (match S[st.length + hs.length]? with
    | some (.lst xs) => (mapO (frzV S 0 8) xs).map .lst
    | some (.dK kvs) => (mapO (fun p : Key × PV => (frzV S 0 8 p.2).map fun v => (p.1, v)) kvs).map .dct
    | none => none) := rfl
  rw [e, top]
  show (mapO (frzV S 0 8) ((List.range hs.length).map fun i => PV.ref (st.length + i))).map PV.lst = _
  have mt : ∀ L : List Nat, (∀ i ∈ L, i < hs.length) → mapO (frzV S 0 8) (L.map fun i => PV.ref (st.length + i)) = some (L.map fun i => PV.lst (pvN (rowN hs i))) := by
    intro L
    induction L with
    | nil => intro _; rfl
    | cons i L ih =>
      intro h
      have ih := ih fun j hj => h j (List.mem_cons_of_mem _ hj)
      have f := frz_same (n := 0) (d := 7) (Nat.zero_le _) (row i (h i List.mem_cons_self)) fun z hz => by
        unfold pvN at hz
        obtain ⟨k, -, rfl⟩ := List.mem_map.mp hz
        exact fun _ _ _ => rfl
      rw [List.map_cons, List.map_cons]
      unfold mapO
      simp only [f, ih]
  rw [mt _ fun i hi => List.mem_range.mp hi]
  rfl

noncomputable def g_ahead_of (F_rows_of : Fn) : GS :=
  (gSeq (gSet 1 (gRep (gNewE [(gC (.int 1))]) (gBi lenV [(gVar 0)])))
  (gSeq (gSet 2 (gFz (gCall F_rows_of [(gVar 0)])))
  (gSeq (gFor (gRng1 (gBi lenV [(gVar 0)])) (tgName 3) (gFor (gEnum (gVar 2)) (tgTup 2 (tgCons (tgName 4) (tgCons (tgName 5) tgNil))) (gFor (gItL (gVar 5)) (tgName 6) (gStore setIV (gBi max2V [(gBin ixV (gVar 1) (gVar 6)), (gBin addV (gBin ixV (gVar 1) (gVar 4)) (gC (.int 1)))]) (gVar 1) (gVar 6)))))
  (gRet (gVar 1)))))
noncomputable def F_ahead_of : Fn := fun xs st => allR (g_ahead_of F_rows_of (begin 7 1 xs) st)
theorem ixN_nat {n j : Nat} (h : j < n) : ixN n (j : Int) = some j := by
  unfold ixN
  rw [if_pos (by omega), if_pos (by omega), Int.toNat_natCast]
theorem rows_frzN {st : List SO} {hs : List (Rat × Rat)} {m : Nat} (hm : m ≤ st.length) : frzV (rowsS st hs hs.length ++ [.lst ((List.range hs.length).map fun i => .ref (st.length + i))]) m 9 (.ref (st.length + hs.length)) = some (.lst ((List.range hs.length).map fun i => .lst (pvN (rowN hs i)))) := by
  have l := rowsS_len (st := st) (hs := hs) (k := hs.length)
  have top : (rowsS st hs hs.length ++ [.lst ((List.range hs.length).map fun i => PV.ref (st.length + i))])[st.length + hs.length]? = some (.lst ((List.range hs.length).map fun i => .ref (st.length + i))) := by
    rw [← l]; exact get_new
  have row : ∀ i, i < hs.length → (rowsS st hs hs.length ++ [.lst ((List.range hs.length).map fun i => PV.ref (st.length + i))])[st.length + i]? = some (.lst (pvN (rowN hs i))) := fun i hi => by
    rw [List.getElem?_append_left (by omega)]
    unfold rowsS
    rw [new_at, List.getElem?_map, List.getElem?_range hi]
    rfl
  generalize rowsS st hs hs.length ++ [.lst ((List.range hs.length).map fun i => PV.ref (st.length + i))] = S at *
  have e : frzV S m 9 (.ref (st.length + hs.length)) = (if st.length + hs.length < m then some (PV.ref (st.length + hs.length)) else (match S[st.length + hs.length]? with
    | some (.lst xs) => (mapO (frzV S m 8) xs).map .lst
    | some (.dK kvs) => (mapO (fun p : Key × PV => (frzV S m 8 p.2).map fun v => (p.1, v)) kvs).map .dct
    | none => none)) := rfl
  rw [e, if_neg (by omega), top]
  show (mapO (frzV S m 8) ((List.range hs.length).map fun i => PV.ref (st.length + i))).map PV.lst = _
  have mt : ∀ L : List Nat, (∀ i ∈ L, i < hs.length) → mapO (frzV S m 8) (L.map fun i => PV.ref (st.length + i)) = some (L.map fun i => PV.lst (pvN (rowN hs i))) := by
    intro L
    induction L with
    | nil => intro _; rfl
    | cons i L ih =>
      intro h
      have ih := ih fun j hj => h j (List.mem_cons_of_mem _ hj)
      have f := frz_same (n := m) (d := 7) (by omega) (row i (h i List.mem_cons_self)) fun z hz => by
        unfold pvN at hz
        obtain ⟨k, -, rfl⟩ := List.mem_map.mp hz
        exact fun _ _ _ => rfl
      rw [List.map_cons, List.map_cons]
      unfold mapO
      simp only [f, ih]
  rw [mt _ fun i hi => List.mem_range.mp hi]
  rfl
theorem rows_lv {n : Nat} {hs : List (Rat × Rat)} {st : List SO} (hr : ∀ h ∈ hs, HR n h) (hn : n ≤ 1000) (l12 : hs.length ≤ 60) : leaveE st (F_rows_of [.lst (hs.map hq)] st) = .ok (.lst ((List.range hs.length).map fun i => .lst (pvN (rowN hs i)))) st := by
  have e := rowsof_ok (st := st) hr hn l12
  have o : OldOk st (rowsS st hs hs.length ++ [.lst ((List.range hs.length).map fun i => .ref (st.length + i))]) := by
    unfold rowsS
    rw [List.append_assoc]
    exact (OldOk.refl st).app
  rw [e, leaveE_ok o (rows_frzN (Nat.le_refl _))]
  congr 1
  unfold rowsS
  rw [List.append_assoc, List.take_left]
/-- steps that go with who reaches whom -/
structure Stp (hs : List (Rat × Rat)) (D : Nat → Nat) : Prop where
  ge : ∀ j, j < hs.length → 1 ≤ D j
  le : ∀ j, j < hs.length → D j ≤ hs.length
  up : ∀ i j, i < hs.length → j < hs.length → rch (hat hs i) (hat hs j) = true → D i < D j
  from_ : ∀ j, j < hs.length → 1 < D j → ∃ i, i < hs.length ∧ rch (hat hs i) (hat hs j) = true ∧ D i + 1 = D j
/-- numbers below the steps -/
structure Bel (hs : List (Rat × Rat)) (D : Nat → Nat) (f : List Nat) : Prop where
  len : f.length = hs.length
  ge : ∀ j, j < hs.length → 1 ≤ f.getD j 0
  le : ∀ j, j < hs.length → f.getD j 0 ≤ D j
def AS (st : List SO) (f : List Nat) : List SO := st ++ [.lst [.int 1]] ++ [.lst (pvN f)]
theorem AS_get {st : List SO} {f : List Nat} : (AS st f)[st.length + 1]? = some (.lst (pvN f)) := by
  unfold AS
  rw [List.append_assoc, new_at]
  rfl
theorem AS_set {st : List SO} {f g : List Nat} : (AS st f).set (st.length + 1) (.lst (pvN g)) = AS st g := by
  unfold AS
  rw [List.append_assoc, List.append_assoc, List.set_append_right _ _ (by omega), show st.length + 1 - st.length = 1 by omega]
  rfl
theorem getD_set {f : List Nat} {j k v : Nat} (hj : j < f.length) : (f.set j v).getD k 0 = if k = j then v else f.getD k 0 := by
  rw [List.getD_eq_getElem?_getD, List.getD_eq_getElem?_getD]
  by_cases c : k = j
  · subst c; rw [if_pos rfl, List.getElem?_set_self hj]; rfl
  · rw [if_neg c, List.getElem?_set_ne (fun e => c e.symm)]
theorem at_pvN {f : List Nat} {j : Nat} (h : j < f.length) : atI (pvN f) (j : Int) = some (.int ((f.getD j 0 : Nat) : Int)) := atN (by
  unfold pvN
  rw [List.getElem?_map, List.getD_eq_getElem?_getD, List.getElem?_eq_getElem h]
  rfl)
theorem pvN_set {f : List Nat} {j v : Nat} : (pvN f).set j (.int (v : Int)) = pvN (f.set j v) := by
  unfold pvN
  rw [List.map_set]
noncomputable def ahB : GS := (gStore setIV (gBi max2V [(gBin ixV (gVar 1) (gVar 6)), (gBin addV (gBin ixV (gVar 1) (gVar 4)) (gC (.int 1)))]) (gVar 1) (gVar 6))
theorem ah_step {x0 x2 x3 x5 : Option PV} {st : List SO} {f : List Nat} {i j : Nat} (hi : i < f.length) (hj : j < f.length) :
    ahB [x0, some (.ref (st.length + 1)), x2, x3, some (.int (i : Int)), x5, some (.int (j : Int))] (AS st f) = .nx [x0, some (.ref (st.length + 1)), x2, x3, some (.int (i : Int)), x5, some (.int (j : Int))] (AS st (f.set j (max (f.getD j 0) (f.getD i 0 + 1)))) := by
  have g := AS_get (st := st) (f := f)
  have a1 := at_pvN hi
  have a2 := at_pvN hj
  have ix := ixN_nat (n := (pvN f).length) (j := j) (by rw [pvN_len]; exact hj)
  have s := AS_set (st := st) (f := f) (g := f.set j (max (f.getD j 0) (f.getD i 0 + 1)))
  rw [← pvN_set] at s
  have m : (if ((f.getD i 0 : Nat) : Int) + 1 > ((f.getD j 0 : Nat) : Int) then ((f.getD i 0 : Nat) : Int) + 1 else ((f.getD j 0 : Nat) : Int)) = ((max (f.getD j 0) (f.getD i 0 + 1) : Nat) : Int) := by
    split <;> omega
  generalize max (f.getD j 0) (f.getD i 0 + 1) = v at *
  unfold ahB
  simp only [gSlN_eq, slN_r, slN_l, slNK_s, gRevN_eq, revN_r, revNK_s, tupleV_r, tupleV_l, gCallV_eq, gLend_eq, isNotBV_b, gRep_eq, repR_r, gZip_eq, zipR_t, zipR_l, gTry_eq, tryK_nx, tryK_ret, begin_eq, allR_nx, allR_ret, allR_exc, gSkip_eq, gSeq_eq, seqK_nx, seqK_ret, seqK_exc, toS_ok, toS_exc, toST_ok, toST_exc, toSL_ok, toSL_exc, gRet_eq, gAsg_eq, gSet_eq, gExpr_eq, gIfS_eq, gRaise_eq, gBin_eq, gUn_eq, gVar_eq, slotR_some, gC_eq, gArgs_nil, gArgs_cons, gTupE_eq, gLstE_eq, gNewE_eq, gCall_eq, gBi_eq, gB_eq, asB_bl, gAnd_eq, gOr_eq, gNot_eq, gVT_eq, gIf_eq, gChain_eq, chK_t, chK_f, chK_b, bnd_ok, bnd_exc, oo_some, gTo_eq, toK_some, tgName_eq, tgNil_eq, tgCons_eq, tgTup_eq, bind_some, gPar_eq, gCat_eq, catR_r, listV_t, listV_l, blsOf_nil, blsOf_cons, allV_l, isNV_d, notNV_d, parK_ok, parK_exc, gStore_eq, stK_some, gMeth_eq, gFor_eq, gRng1_eq, asI_i, gItL_eq, gItT_eq, asLst_l, asTup_t, addV_ii, subV_ii, mulV_ii, fdivV_ii, modV_ii, shlV_ii, pw6, pw9, pw18, pw19, pw20, pw25, pw30, pw39, ltV_ii, leV_ii, gtV_ii, geV_ii, negV_i, isNV_n, isNV_t, isNV_l, isNV_i, isNV_s, isNV_r, isNV_b, notNV_n, notNV_t, notNV_l, notNV_i, notNV_s, notNV_r, notNV_b, ixV_t, ixV_l, ixV_r, lenV_t, lenV_l, lenV_r, absV_i, max2V_ii, min2V_ii, bitsV_i, setIV_r, setK_some, setL_some, appendM_r, appK_some, appN_ok, isT_r, isK_l, lstK_some, tyK_l, isT_s, isiV_eq, tyN_int, tyN_bl, tyN_non, tyN_str, tyN_tup, tyN_lst, tyN_dct, tyN_r, kk_int_bool, kitK_t, kk_int_str, kk_int_tuple, kk_int_list, kk_int_dict, kk_int_NoneType, kk_bool_int, kk_bool_str, kk_bool_tuple, kk_bool_list, kk_bool_dict, kk_bool_NoneType, kk_str_int, kk_str_bool, kk_str_tuple, kk_str_list, kk_str_dict, kk_str_NoneType, kk_tuple_int, kk_tuple_bool, kk_tuple_str, kk_tuple_list, kk_tuple_dict, kk_tuple_NoneType, kk_list_int, kk_list_bool, kk_list_str, kk_list_tuple, kk_list_dict, kk_list_NoneType, kk_dict_int, kk_dict_bool, kk_dict_str, kk_dict_tuple, kk_dict_list, kk_dict_NoneType, eqV_int, neV_int, isBV_b, neV_bl, eqV_bl, eqV_ii, neV_ii, isNV_fr, notNV_fr, ixV_fr0, ixV_fr1, eqV_fr, neV_fr, int1V_b, int1V_i, ixV_hp0, ixV_hp1, isNV_hp, eqV_hp, neV_hp, tyN_fr, lenV_fr, at0, at1, at2, at3, at4, at5, ixN0, ixN1, List.map_cons, List.map_nil, List.replicate, List.cons_append, List.nil_append, List.getElem?_cons_zero, List.getElem?_cons_succ, List.set_cons_zero, List.set_cons_succ, Bool.not_true, Bool.not_false, Bool.false_eq_true, if_true, if_false, ite_true, ite_false, reduceIte, Nat.reduceSub, Nat.reduceAdd, ne_eq, Int.cast_ofNat_Int, Int.reduceBEq, Int.reduceLT, Int.reduceLE, Int.reduceEq, Int.reduceNeg, Int.reduceMul, Int.reduceAdd, Int.reduceSub, decide_true, decide_false, List.length_cons, List.length_nil, beq_self_eq_true, not_false_eq_true, not_true_eq_false , gLenSet_eq, lsR_l, gCompN_eq, mkN_l, gCat2_eq, lstOf_l, insertM_r, extendM_r, gListRg_eq, gSlV_eq, slVK_s, gForM_eq, toSM_ok, gItM_eq, mkB_t, mkB_f, g, a1, a2, m, ix, s]
noncomputable def ahR : GS := (gFor (gItL (gVar 5)) (tgName 6) ahB)
/-- one row -/
theorem ah_row {x0 x2 x3 x6 : Option PV} {st : List SO} {hs : List (Rat × Rat)} {D : Nat → Nat} {f0 f : List Nat} {i : Nat} (sp : Stp hs D) (hi : i < hs.length) (b : Bel hs D f) (m0 : ∀ j, j < hs.length → f0.getD j 0 ≤ f.getD j 0) (dn : ∀ i' j, i' < i → j ∈ rowN hs i' → f0.getD i' 0 + 1 ≤ f.getD j 0) :
    ∃ f' y6, ahR [x0, some (.ref (st.length + 1)), x2, x3, some (.int (i : Int)), some (.lst (pvN (rowN hs i))), x6] (AS st f) = .nx [x0, some (.ref (st.length + 1)), x2, x3, some (.int (i : Int)), some (.lst (pvN (rowN hs i))), y6] (AS st f') ∧ Bel hs D f' ∧ (∀ j, j < hs.length → f0.getD j 0 ≤ f'.getD j 0) ∧ (∀ i' j, i' < i + 1 → j ∈ rowN hs i' → f0.getD i' 0 + 1 ≤ f'.getD j 0) := by
  obtain ⟨ρ', S', e, f', y6, rfl, rfl, b', m', d', q'⟩ := forg_idx (t := tgName 6) (b := ahB) (pvN (rowN hs i))
    (fun k ρ s => ∃ f' y6, ρ = [x0, some (.ref (st.length + 1)), x2, x3, some (.int (i : Int)), some (.lst (pvN (rowN hs i))), y6] ∧ s = AS st f' ∧ Bel hs D f' ∧ (∀ j, j < hs.length → f0.getD j 0 ≤ f'.getD j 0) ∧ (∀ i' j, i' < i → j ∈ rowN hs i' → f0.getD i' 0 + 1 ≤ f'.getD j 0) ∧ ∀ m j, m < k → (rowN hs i)[m]? = some j → f0.getD i 0 + 1 ≤ f'.getD j 0)
    [x0, some (.ref (st.length + 1)), x2, x3, some (.int (i : Int)), some (.lst (pvN (rowN hs i))), x6] (AS st f) ⟨f, x6, rfl, rfl, b, m0, dn, fun m j h => absurd h (Nat.not_lt_zero _)⟩ (by
    rintro k0 z ρ s hz ⟨f', y6, rfl, rfl, b', m', d', q'⟩
    unfold pvN at hz
    rw [List.getElem?_map] at hz
    obtain ⟨j, hj, rfl⟩ := Option.map_eq_some_iff.mp hz
    have jm := List.mem_filter.mp (List.mem_of_getElem? hj)
    have jl := List.mem_range.mp jm.1
    have lt := sp.up i j hi jl jm.2
    have e := ah_step (x0 := x0) (x2 := x2) (x3 := x3) (x5 := some (.lst (pvN (rowN hs i)))) (st := st) (f := f') (i := i) (j := j) (by rw [b'.len]; exact hi) (by rw [b'.len]; exact jl)
    have gd : ∀ k, (f'.set j (max (f'.getD j 0) (f'.getD i 0 + 1))).getD k 0 = if k = j then max (f'.getD j 0) (f'.getD i 0 + 1) else f'.getD k 0 := fun k => getD_set (by rw [b'.len]; exact jl)
    have mono : ∀ k, f'.getD k 0 ≤ (f'.set j (max (f'.getD j 0) (f'.getD i 0 + 1))).getD k 0 := fun k => by
      rw [gd]
      by_cases c : k = j
      · rw [if_pos c, c]; exact Nat.le_max_left _ _
      · rw [if_neg c]; exact Nat.le_refl _
    refine ⟨_, _, _, rfl, e, _, some (.int (j : Int)), rfl, rfl, ⟨by rw [List.length_set]; exact b'.len, fun k hk => Nat.le_trans (b'.ge k hk) (mono k), fun k hk => ?_⟩, fun k hk => Nat.le_trans (m' k hk) (mono k), fun i' k h1 h2 => Nat.le_trans (d' i' k h1 h2) (mono k), fun m k hm hk => ?_⟩
    · rw [gd]
      by_cases c : k = j
      · rw [if_pos c, c]
        have := b'.le i hi
        have := b'.le j jl
        omega
      · rw [if_neg c]; exact b'.le k hk
    · by_cases c : m < k0
      · exact Nat.le_trans (q' m k c hk) (mono k)
      · have : m = k0 := by omega
        subst this
        rw [hj] at hk
        cases hk
        rw [gd, if_pos rfl]
        have := m' i hi
        omega)
  have len : (pvN (rowN hs i)).length = (rowN hs i).length := pvN_len _
  rw [len] at q'
  refine ⟨f', y6, ?_, b', m', fun i' j h1 h2 => ?_⟩
  · unfold ahR
    simp only [gSlN_eq, slN_r, slN_l, slNK_s, gRevN_eq, revN_r, revNK_s, tupleV_r, tupleV_l, gCallV_eq, gLend_eq, isNotBV_b, gRep_eq, repR_r, gZip_eq, zipR_t, zipR_l, gTry_eq, tryK_nx, tryK_ret, begin_eq, allR_nx, allR_ret, allR_exc, gSkip_eq, gSeq_eq, seqK_nx, seqK_ret, seqK_exc, toS_ok, toS_exc, toST_ok, toST_exc, toSL_ok, toSL_exc, gRet_eq, gAsg_eq, gSet_eq, gExpr_eq, gIfS_eq, gRaise_eq, gBin_eq, gUn_eq, gVar_eq, slotR_some, gC_eq, gArgs_nil, gArgs_cons, gTupE_eq, gLstE_eq, gNewE_eq, gCall_eq, gBi_eq, gB_eq, asB_bl, gAnd_eq, gOr_eq, gNot_eq, gVT_eq, gIf_eq, gChain_eq, chK_t, chK_f, chK_b, bnd_ok, bnd_exc, oo_some, gTo_eq, toK_some, tgName_eq, tgNil_eq, tgCons_eq, tgTup_eq, bind_some, gPar_eq, gCat_eq, catR_r, listV_t, listV_l, blsOf_nil, blsOf_cons, allV_l, isNV_d, notNV_d, parK_ok, parK_exc, gStore_eq, stK_some, gMeth_eq, gFor_eq, gRng1_eq, asI_i, gItL_eq, gItT_eq, asLst_l, asTup_t, addV_ii, subV_ii, mulV_ii, fdivV_ii, modV_ii, shlV_ii, pw6, pw9, pw18, pw19, pw20, pw25, pw30, pw39, ltV_ii, leV_ii, gtV_ii, geV_ii, negV_i, isNV_n, isNV_t, isNV_l, isNV_i, isNV_s, isNV_r, isNV_b, notNV_n, notNV_t, notNV_l, notNV_i, notNV_s, notNV_r, notNV_b, ixV_t, ixV_l, ixV_r, lenV_t, lenV_l, lenV_r, absV_i, max2V_ii, min2V_ii, bitsV_i, setIV_r, setK_some, setL_some, appendM_r, appK_some, appN_ok, isT_r, isK_l, lstK_some, tyK_l, isT_s, isiV_eq, tyN_int, tyN_bl, tyN_non, tyN_str, tyN_tup, tyN_lst, tyN_dct, tyN_r, kk_int_bool, kitK_t, kk_int_str, kk_int_tuple, kk_int_list, kk_int_dict, kk_int_NoneType, kk_bool_int, kk_bool_str, kk_bool_tuple, kk_bool_list, kk_bool_dict, kk_bool_NoneType, kk_str_int, kk_str_bool, kk_str_tuple, kk_str_list, kk_str_dict, kk_str_NoneType, kk_tuple_int, kk_tuple_bool, kk_tuple_str, kk_tuple_list, kk_tuple_dict, kk_tuple_NoneType, kk_list_int, kk_list_bool, kk_list_str, kk_list_tuple, kk_list_dict, kk_list_NoneType, kk_dict_int, kk_dict_bool, kk_dict_str, kk_dict_tuple, kk_dict_list, kk_dict_NoneType, eqV_int, neV_int, isBV_b, neV_bl, eqV_bl, eqV_ii, neV_ii, isNV_fr, notNV_fr, ixV_fr0, ixV_fr1, eqV_fr, neV_fr, int1V_b, int1V_i, ixV_hp0, ixV_hp1, isNV_hp, eqV_hp, neV_hp, tyN_fr, lenV_fr, at0, at1, at2, at3, at4, at5, ixN0, ixN1, List.map_cons, List.map_nil, List.replicate, List.cons_append, List.nil_append, List.getElem?_cons_zero, List.getElem?_cons_succ, List.set_cons_zero, List.set_cons_succ, Bool.not_true, Bool.not_false, Bool.false_eq_true, if_true, if_false, ite_true, ite_false, reduceIte, Nat.reduceSub, Nat.reduceAdd, ne_eq, Int.cast_ofNat_Int, Int.reduceBEq, Int.reduceLT, Int.reduceLE, Int.reduceEq, Int.reduceNeg, Int.reduceMul, Int.reduceAdd, Int.reduceSub, decide_true, decide_false, List.length_cons, List.length_nil, beq_self_eq_true, not_false_eq_true, not_true_eq_false , gLenSet_eq, lsR_l, gCompN_eq, mkN_l, gCat2_eq, lstOf_l, insertM_r, extendM_r, gListRg_eq, gSlV_eq, slVK_s, gForM_eq, toSM_ok, gItM_eq, mkB_t, mkB_f, gFor, e]
  · by_cases c : i' < i
    · exact d' i' j c h2
    · have : i' = i := by omega
      subst this
      obtain ⟨m, hm, em⟩ := List.getElem_of_mem h2
      exact q' m j hm (by rw [List.getElem?_eq_getElem hm, em])
noncomputable def ahT : GS := (gFor (gEnum (gVar 2)) (tgTup 2 (tgCons (tgName 4) (tgCons (tgName 5) tgNil))) ahR)
/-- one turn -/
theorem ah_turn {x0 x3 x4 x5 x6 : Option PV} {st : List SO} {hs : List (Rat × Rat)} {D : Nat → Nat} {f0 : List Nat} {t : Nat} (sp : Stp hs D) (b : Bel hs D f0) (h : ∀ j, j < hs.length → D j ≤ t + 1 → D j ≤ f0.getD j 0) :
    ∃ f' y4 y5 y6, ahT [x0, some (.ref (st.length + 1)), some (.lst ((List.range hs.length).map fun i => .lst (pvN (rowN hs i)))), x3, x4, x5, x6] (AS st f0) = .nx [x0, some (.ref (st.length + 1)), some (.lst ((List.range hs.length).map fun i => .lst (pvN (rowN hs i)))), x3, y4, y5, y6] (AS st f') ∧ Bel hs D f' ∧ (∀ j, j < hs.length → D j ≤ t + 2 → D j ≤ f'.getD j 0) := by
  obtain ⟨ρ', S', e, f', y4, y5, y6, rfl, rfl, b', m', d'⟩ := forg_idx (t := tgTup 2 (tgCons (tgName 4) (tgCons (tgName 5) tgNil))) (b := ahR) (enP 0 ((List.range hs.length).map fun i => .lst (pvN (rowN hs i))))
    (fun k ρ s => ∃ f' y4 y5 y6, ρ = [x0, some (.ref (st.length + 1)), some (.lst ((List.range hs.length).map fun i => .lst (pvN (rowN hs i)))), x3, y4, y5, y6] ∧ s = AS st f' ∧ Bel hs D f' ∧ (∀ j, j < hs.length → f0.getD j 0 ≤ f'.getD j 0) ∧ (∀ i' j, i' < k → j ∈ rowN hs i' → f0.getD i' 0 + 1 ≤ f'.getD j 0))
    [x0, some (.ref (st.length + 1)), some (.lst ((List.range hs.length).map fun i => .lst (pvN (rowN hs i)))), x3, x4, x5, x6] (AS st f0) ⟨f0, x4, x5, x6, rfl, rfl, b, fun j _ => Nat.le_refl _, fun i' j h => absurd h (Nat.not_lt_zero _)⟩ (by
    rintro i z ρ s hz ⟨f', y4, y5, y6, rfl, rfl, b', m', d'⟩
    have hi : i < hs.length := by
      have := (List.getElem?_eq_some_iff.mp hz).1
      rwa [enP_len, List.length_map, List.length_range] at this
    have e1 := enP_get (xs := (List.range hs.length).map fun i => PV.lst (pvN (rowN hs i))) (i := 0) (j := i) (x := .lst (pvN (rowN hs i))) (by rw [List.getElem?_map, List.getElem?_range hi]; rfl)
    rw [Nat.zero_add, hz] at e1
    cases e1
    obtain ⟨f2, z6, e, b2, m2, d2⟩ := ah_row (x0 := x0) (x2 := some (.lst ((List.range hs.length).map fun i => .lst (pvN (rowN hs i))))) (x3 := x3) (x6 := y6) (st := st) sp hi b' m' d'
    exact ⟨_, _, _, rfl, e, f2, some (.int (i : Int)), some (.lst (pvN (rowN hs i))), z6, rfl, rfl, b2, m2, d2⟩)
  rw [enP_len, List.length_map, List.length_range] at d'
  refine ⟨f', y4, y5, y6, ?_, b', fun j hj hD => ?_⟩
  · have en := gEnum_l (g := gVar 2) (ρ := [x0, some (.ref (st.length + 1)), some (.lst ((List.range hs.length).map fun i => .lst (pvN (rowN hs i)))), x3, x4, x5, x6]) (st := AS st f0) rfl
    unfold ahT
    generalize ahR = R at *
    simp only [gSlN_eq, slN_r, slN_l, slNK_s, gRevN_eq, revN_r, revNK_s, tupleV_r, tupleV_l, gCallV_eq, gLend_eq, isNotBV_b, gRep_eq, repR_r, gZip_eq, zipR_t, zipR_l, gTry_eq, tryK_nx, tryK_ret, begin_eq, allR_nx, allR_ret, allR_exc, gSkip_eq, gSeq_eq, seqK_nx, seqK_ret, seqK_exc, toS_ok, toS_exc, toST_ok, toST_exc, toSL_ok, toSL_exc, gRet_eq, gAsg_eq, gSet_eq, gExpr_eq, gIfS_eq, gRaise_eq, gBin_eq, gUn_eq, gVar_eq, slotR_some, gC_eq, gArgs_nil, gArgs_cons, gTupE_eq, gLstE_eq, gNewE_eq, gCall_eq, gBi_eq, gB_eq, asB_bl, gAnd_eq, gOr_eq, gNot_eq, gVT_eq, gIf_eq, gChain_eq, chK_t, chK_f, chK_b, bnd_ok, bnd_exc, oo_some, gTo_eq, toK_some, tgName_eq, tgNil_eq, tgCons_eq, tgTup_eq, bind_some, gPar_eq, gCat_eq, catR_r, listV_t, listV_l, blsOf_nil, blsOf_cons, allV_l, isNV_d, notNV_d, parK_ok, parK_exc, gStore_eq, stK_some, gMeth_eq, gFor_eq, gRng1_eq, asI_i, gItL_eq, gItT_eq, asLst_l, asTup_t, addV_ii, subV_ii, mulV_ii, fdivV_ii, modV_ii, shlV_ii, pw6, pw9, pw18, pw19, pw20, pw25, pw30, pw39, ltV_ii, leV_ii, gtV_ii, geV_ii, negV_i, isNV_n, isNV_t, isNV_l, isNV_i, isNV_s, isNV_r, isNV_b, notNV_n, notNV_t, notNV_l, notNV_i, notNV_s, notNV_r, notNV_b, ixV_t, ixV_l, ixV_r, lenV_t, lenV_l, lenV_r, absV_i, max2V_ii, min2V_ii, bitsV_i, setIV_r, setK_some, setL_some, appendM_r, appK_some, appN_ok, isT_r, isK_l, lstK_some, tyK_l, isT_s, isiV_eq, tyN_int, tyN_bl, tyN_non, tyN_str, tyN_tup, tyN_lst, tyN_dct, tyN_r, kk_int_bool, kitK_t, kk_int_str, kk_int_tuple, kk_int_list, kk_int_dict, kk_int_NoneType, kk_bool_int, kk_bool_str, kk_bool_tuple, kk_bool_list, kk_bool_dict, kk_bool_NoneType, kk_str_int, kk_str_bool, kk_str_tuple, kk_str_list, kk_str_dict, kk_str_NoneType, kk_tuple_int, kk_tuple_bool, kk_tuple_str, kk_tuple_list, kk_tuple_dict, kk_tuple_NoneType, kk_list_int, kk_list_bool, kk_list_str, kk_list_tuple, kk_list_dict, kk_list_NoneType, kk_dict_int, kk_dict_bool, kk_dict_str, kk_dict_tuple, kk_dict_list, kk_dict_NoneType, eqV_int, neV_int, isBV_b, neV_bl, eqV_bl, eqV_ii, neV_ii, isNV_fr, notNV_fr, ixV_fr0, ixV_fr1, eqV_fr, neV_fr, int1V_b, int1V_i, ixV_hp0, ixV_hp1, isNV_hp, eqV_hp, neV_hp, tyN_fr, lenV_fr, at0, at1, at2, at3, at4, at5, ixN0, ixN1, List.map_cons, List.map_nil, List.replicate, List.cons_append, List.nil_append, List.getElem?_cons_zero, List.getElem?_cons_succ, List.set_cons_zero, List.set_cons_succ, Bool.not_true, Bool.not_false, Bool.false_eq_true, if_true, if_false, ite_true, ite_false, reduceIte, Nat.reduceSub, Nat.reduceAdd, ne_eq, Int.cast_ofNat_Int, Int.reduceBEq, Int.reduceLT, Int.reduceLE, Int.reduceEq, Int.reduceNeg, Int.reduceMul, Int.reduceAdd, Int.reduceSub, decide_true, decide_false, List.length_cons, List.length_nil, beq_self_eq_true, not_false_eq_true, not_true_eq_false , gLenSet_eq, lsR_l, gCompN_eq, mkN_l, gCat2_eq, lstOf_l, insertM_r, extendM_r, gListRg_eq, gSlV_eq, slVK_s, gForM_eq, toSM_ok, gItM_eq, mkB_t, mkB_f, en, e]
  · by_cases c : D j ≤ t + 1
    · exact Nat.le_trans (h j hj c) (m' j hj)
    · obtain ⟨i, hi, hr, ed⟩ := sp.from_ j hj (by omega)
      have a := h i hi (by omega)
      have q := d' i j hi (List.mem_filter.mpr ⟨List.mem_range.mpr hj, hr⟩)
      omega
theorem getD_rep {n j : Nat} (h : j < n) : (List.replicate n 1).getD j 0 = 1 := by
  rw [List.getD_eq_getElem?_getD, List.getElem?_replicate, if_pos h]
  rfl
theorem rep_pvN {n : Nat} {i : Nat} : (List.replicate n [PV.int (i : Int)]).flatten = pvN (List.replicate n i) := by
  unfold pvN
  rw [List.map_replicate]
  induction n with
  | zero => rfl
  | succ n ih => rw [List.replicate_succ, List.replicate_succ, List.flatten_cons, ih]; rfl
theorem ahead_ok {n : Nat} {hs : List (Rat × Rat)} {D : Nat → Nat} {st : List SO} (hr : ∀ h ∈ hs, HR n h) (hn : n ≤ 1000) (l12 : hs.length ≤ 60) (sp : Stp hs D) : F_ahead_of [.lst (hs.map hq)] st = .ok (.ref (st.length + 1)) (AS st ((List.range hs.length).map D)) := by
  have len : (hs.map hq).length = hs.length := List.length_map ..
  have r1 : RngOk ((hs.map hq).length : Int) := by rw [len]; unfold RngOk; omega
  have ro : RepOk [PV.int 1].length ((hs.map hq).length : Int) := ⟨by omega, by omega, small_line (by rw [len, Int.toNat_natCast]; simp; omega)⟩
  have rp : repL (st ++ [SO.lst [.int 1]]) (some (.lst [.int 1])) (.int ((hs.map hq).length : Int)) = .ok (.ref (st.length + 1)) (AS st (List.replicate hs.length 1)) := by
    rw [repL_ok ro, Int.toNat_natCast, len]
    have := rep_pvN (n := hs.length) (i := 1)
    have this : (List.replicate hs.length [PV.int 1]).flatten = _ := this
    rw [this, List.length_append]
    rfl
  have rl := rows_lv (st := AS st (List.replicate hs.length 1)) hr hn l12
  obtain ⟨ρ', S', e, f', y3, y4, y5, y6, rfl, rfl, b', h'⟩ := forg_idx (t := tgName 3) (b := ahT) (rng 0 hs.length)
    (fun k ρ s => ∃ f' y3 y4 y5 y6, ρ = [some (.lst (hs.map hq)), some (.ref (st.length + 1)), some (.lst ((List.range hs.length).map fun i => .lst (pvN (rowN hs i)))), y3, y4, y5, y6] ∧ s = AS st f' ∧ Bel hs D f' ∧ ∀ j, j < hs.length → D j ≤ k + 1 → D j ≤ f'.getD j 0)
    [some (.lst (hs.map hq)), some (.ref (st.length + 1)), some (.lst ((List.range hs.length).map fun i => .lst (pvN (rowN hs i)))), none, none, none, none] (AS st (List.replicate hs.length 1)) ⟨_, none, none, none, none, rfl, rfl, ⟨List.length_replicate, fun j hj => by rw [getD_rep hj]; exact Nat.le_refl _, fun j hj => by rw [getD_rep hj]; exact sp.ge j hj⟩, fun j hj h => by rw [getD_rep hj]; omega⟩ (by
    rintro k z ρ s hz ⟨f', y3, y4, y5, y6, rfl, rfl, b', h'⟩
    obtain ⟨f2, z4, z5, z6, e, b2, h2⟩ := ah_turn (x0 := some (.lst (hs.map hq))) (x3 := some z) (x4 := y4) (x5 := y5) (x6 := y6) (st := st) sp b' h'
    exact ⟨_, _, _, rfl, e, f2, some z, z4, z5, z6, rfl, rfl, b2, h2⟩)
  rw [rng_len] at h'
  have ef : f' = (List.range hs.length).map D := by
    refine List.ext_getElem? fun j => ?_
    by_cases c : j < hs.length
    · have l := b'.le j c
      have g := h' j c (by have := sp.le j c; omega)
      have e : f'.getD j 0 = D j := by omega
      rw [List.getElem?_map, List.getElem?_range c, List.getElem?_eq_getElem (by rw [b'.len]; exact c)]
      rw [List.getD_eq_getElem?_getD, List.getElem?_eq_getElem (by rw [b'.len]; exact c)] at e
      exact congrArg some e
    · rw [List.getElem?_eq_none (by rw [b'.len]; omega), List.getElem?_eq_none (by rw [List.length_map, List.length_range]; omega)]
  rw [ef] at e
  unfold F_ahead_of g_ahead_of
  show allR (gSeq _ (gSeq _ (gSeq (gFor _ _ ahT) _)) _ _) = _
  generalize ahT = T at *
  have rn : ((hs.map hq).length : Int).toNat = hs.length := by rw [Int.toNat_natCast, len]
  simp only [gSlN_eq, slN_r, slN_l, slNK_s, gRevN_eq, revN_r, revNK_s, tupleV_r, tupleV_l, gCallV_eq, gLend_eq, isNotBV_b, gRep_eq, repR_r, gZip_eq, zipR_t, zipR_l, gTry_eq, tryK_nx, tryK_ret, begin_eq, allR_nx, allR_ret, allR_exc, gSkip_eq, gSeq_eq, seqK_nx, seqK_ret, seqK_exc, toS_ok, toS_exc, toST_ok, toST_exc, toSL_ok, toSL_exc, gRet_eq, gAsg_eq, gSet_eq, gExpr_eq, gIfS_eq, gRaise_eq, gBin_eq, gUn_eq, gVar_eq, slotR_some, gC_eq, gArgs_nil, gArgs_cons, gTupE_eq, gLstE_eq, gNewE_eq, gCall_eq, gBi_eq, gB_eq, asB_bl, gAnd_eq, gOr_eq, gNot_eq, gVT_eq, gIf_eq, gChain_eq, chK_t, chK_f, chK_b, bnd_ok, bnd_exc, oo_some, gTo_eq, toK_some, tgName_eq, tgNil_eq, tgCons_eq, tgTup_eq, bind_some, gPar_eq, gCat_eq, catR_r, listV_t, listV_l, blsOf_nil, blsOf_cons, allV_l, isNV_d, notNV_d, parK_ok, parK_exc, gStore_eq, stK_some, gMeth_eq, gFor_eq, gRng1_eq, asI_i, gItL_eq, gItT_eq, asLst_l, asTup_t, addV_ii, subV_ii, mulV_ii, fdivV_ii, modV_ii, shlV_ii, pw6, pw9, pw18, pw19, pw20, pw25, pw30, pw39, ltV_ii, leV_ii, gtV_ii, geV_ii, negV_i, isNV_n, isNV_t, isNV_l, isNV_i, isNV_s, isNV_r, isNV_b, notNV_n, notNV_t, notNV_l, notNV_i, notNV_s, notNV_r, notNV_b, ixV_t, ixV_l, ixV_r, lenV_t, lenV_l, lenV_r, absV_i, max2V_ii, min2V_ii, bitsV_i, setIV_r, setK_some, setL_some, appendM_r, appK_some, appN_ok, isT_r, isK_l, lstK_some, tyK_l, isT_s, isiV_eq, tyN_int, tyN_bl, tyN_non, tyN_str, tyN_tup, tyN_lst, tyN_dct, tyN_r, kk_int_bool, kitK_t, kk_int_str, kk_int_tuple, kk_int_list, kk_int_dict, kk_int_NoneType, kk_bool_int, kk_bool_str, kk_bool_tuple, kk_bool_list, kk_bool_dict, kk_bool_NoneType, kk_str_int, kk_str_bool, kk_str_tuple, kk_str_list, kk_str_dict, kk_str_NoneType, kk_tuple_int, kk_tuple_bool, kk_tuple_str, kk_tuple_list, kk_tuple_dict, kk_tuple_NoneType, kk_list_int, kk_list_bool, kk_list_str, kk_list_tuple, kk_list_dict, kk_list_NoneType, kk_dict_int, kk_dict_bool, kk_dict_str, kk_dict_tuple, kk_dict_list, kk_dict_NoneType, eqV_int, neV_int, isBV_b, neV_bl, eqV_bl, eqV_ii, neV_ii, isNV_fr, notNV_fr, ixV_fr0, ixV_fr1, eqV_fr, neV_fr, int1V_b, int1V_i, ixV_hp0, ixV_hp1, isNV_hp, eqV_hp, neV_hp, tyN_fr, lenV_fr, at0, at1, at2, at3, at4, at5, ixN0, ixN1, List.map_cons, List.map_nil, List.replicate, List.cons_append, List.nil_append, List.getElem?_cons_zero, List.getElem?_cons_succ, List.set_cons_zero, List.set_cons_succ, Bool.not_true, Bool.not_false, Bool.false_eq_true, if_true, if_false, ite_true, ite_false, reduceIte, Nat.reduceSub, Nat.reduceAdd, ne_eq, Int.cast_ofNat_Int, Int.reduceBEq, Int.reduceLT, Int.reduceLE, Int.reduceEq, Int.reduceNeg, Int.reduceMul, Int.reduceAdd, Int.reduceSub, decide_true, decide_false, List.length_cons, List.length_nil, beq_self_eq_true, not_false_eq_true, not_true_eq_false , gLenSet_eq, lsR_l, gCompN_eq, mkN_l, gCat2_eq, lstOf_l, insertM_r, extendM_r, gListRg_eq, gSlV_eq, slVK_s, gForM_eq, toSM_ok, gItM_eq, mkB_t, mkB_f, gFz_eq, gRep_eq, repR_r, get_new, rp, rl, asI_i r1, rn, gFor, e]

noncomputable def g_steps_of (F_check_list : Fn) (F_ahead_of : Fn) : GS :=
  (gSeq (gExpr (gCall F_check_list [(gVar 0)]))
  (gRet (gCall F_ahead_of [(gVar 0)])))
noncomputable def F_steps_of : Fn := fun xs st => allR (g_steps_of F_check_list F_ahead_of (begin 1 1 xs) st)
theorem steps_ok {n : Nat} {hs : List (Rat × Rat)} {D : Nat → Nat} {st : List SO} (hr : ∀ h ∈ hs, HR n h) (hn : n ≤ 1000) (l1 : 1 ≤ hs.length) (l12 : hs.length ≤ 12) (nd : hs.Nodup) (sp : Stp hs D) : F_steps_of [.lst (hs.map hq)] st = .ok (.ref (st.length + 1)) (AS st ((List.range hs.length).map D)) := by
  have e1 := cklist_ok (st := st) l1 l12 nd
  have e2 := ahead_ok (st := st) hr hn (by omega) sp
  simp only [F_steps_of, g_steps_of, gSlN_eq, slN_r, slN_l, slNK_s, gRevN_eq, revN_r, revNK_s, tupleV_r, tupleV_l, gCallV_eq, gLend_eq, isNotBV_b, gRep_eq, repR_r, gZip_eq, zipR_t, zipR_l, gTry_eq, tryK_nx, tryK_ret, begin_eq, allR_nx, allR_ret, allR_exc, gSkip_eq, gSeq_eq, seqK_nx, seqK_ret, seqK_exc, toS_ok, toS_exc, toST_ok, toST_exc, toSL_ok, toSL_exc, gRet_eq, gAsg_eq, gSet_eq, gExpr_eq, gIfS_eq, gRaise_eq, gBin_eq, gUn_eq, gVar_eq, slotR_some, gC_eq, gArgs_nil, gArgs_cons, gTupE_eq, gLstE_eq, gNewE_eq, gCall_eq, gBi_eq, gB_eq, asB_bl, gAnd_eq, gOr_eq, gNot_eq, gVT_eq, gIf_eq, gChain_eq, chK_t, chK_f, chK_b, bnd_ok, bnd_exc, oo_some, gTo_eq, toK_some, tgName_eq, tgNil_eq, tgCons_eq, tgTup_eq, bind_some, gPar_eq, gCat_eq, catR_r, listV_t, listV_l, blsOf_nil, blsOf_cons, allV_l, isNV_d, notNV_d, parK_ok, parK_exc, gStore_eq, stK_some, gMeth_eq, gFor_eq, gRng1_eq, asI_i, gItL_eq, gItT_eq, asLst_l, asTup_t, addV_ii, subV_ii, mulV_ii, fdivV_ii, modV_ii, shlV_ii, pw6, pw9, pw18, pw19, pw20, pw25, pw30, pw39, ltV_ii, leV_ii, gtV_ii, geV_ii, negV_i, isNV_n, isNV_t, isNV_l, isNV_i, isNV_s, isNV_r, isNV_b, notNV_n, notNV_t, notNV_l, notNV_i, notNV_s, notNV_r, notNV_b, ixV_t, ixV_l, ixV_r, lenV_t, lenV_l, lenV_r, absV_i, max2V_ii, min2V_ii, bitsV_i, setIV_r, setK_some, setL_some, appendM_r, appK_some, appN_ok, isT_r, isK_l, lstK_some, tyK_l, isT_s, isiV_eq, tyN_int, tyN_bl, tyN_non, tyN_str, tyN_tup, tyN_lst, tyN_dct, tyN_r, kk_int_bool, kitK_t, kk_int_str, kk_int_tuple, kk_int_list, kk_int_dict, kk_int_NoneType, kk_bool_int, kk_bool_str, kk_bool_tuple, kk_bool_list, kk_bool_dict, kk_bool_NoneType, kk_str_int, kk_str_bool, kk_str_tuple, kk_str_list, kk_str_dict, kk_str_NoneType, kk_tuple_int, kk_tuple_bool, kk_tuple_str, kk_tuple_list, kk_tuple_dict, kk_tuple_NoneType, kk_list_int, kk_list_bool, kk_list_str, kk_list_tuple, kk_list_dict, kk_list_NoneType, kk_dict_int, kk_dict_bool, kk_dict_str, kk_dict_tuple, kk_dict_list, kk_dict_NoneType, eqV_int, neV_int, isBV_b, neV_bl, eqV_bl, eqV_ii, neV_ii, isNV_fr, notNV_fr, ixV_fr0, ixV_fr1, eqV_fr, neV_fr, int1V_b, int1V_i, ixV_hp0, ixV_hp1, isNV_hp, eqV_hp, neV_hp, tyN_fr, lenV_fr, at0, at1, at2, at3, at4, at5, ixN0, ixN1, List.map_cons, List.map_nil, List.replicate, List.cons_append, List.nil_append, List.getElem?_cons_zero, List.getElem?_cons_succ, List.set_cons_zero, List.set_cons_succ, Bool.not_true, Bool.not_false, Bool.false_eq_true, if_true, if_false, ite_true, ite_false, reduceIte, Nat.reduceSub, Nat.reduceAdd, ne_eq, Int.cast_ofNat_Int, Int.reduceBEq, Int.reduceLT, Int.reduceLE, Int.reduceEq, Int.reduceNeg, Int.reduceMul, Int.reduceAdd, Int.reduceSub, decide_true, decide_false, List.length_cons, List.length_nil, beq_self_eq_true, not_false_eq_true, not_true_eq_false , gLenSet_eq, lsR_l, gCompN_eq, mkN_l, gCat2_eq, lstOf_l, insertM_r, extendM_r, gListRg_eq, gSlV_eq, slVK_s, gForM_eq, toSM_ok, gItM_eq, mkB_t, mkB_f, e1, e2]

noncomputable def g__law_whole_2 : GS :=
  (gRet (gVT (gAnd (gB (gBi isiV [(gVar 0), (gC (.ty "int"))])) (gB (gVT (gNot (gB (gBi isiV [(gVar 0), (gC (.ty "bool"))]))))))))
noncomputable def F__law_whole_2 : Fn := fun xs st => allR (g__law_whole_2 (begin 1 1 xs) st)
theorem lwhole2_ok {x : PV} {st : List SO} (h : P0 x) : F__law_whole_2 [x] st = .ok (.bl (whB x)) st := by
  cases x with
  | ty _ => exact h.elim
  | cls _ => exact h.elim
  | exc _ => exact h.elim
  | ref _ => exact h.elim
  | _ => simp only [F__law_whole_2, g__law_whole_2, gSlN_eq, slN_r, slN_l, slNK_s, gRevN_eq, revN_r, revNK_s, tupleV_r, tupleV_l, gCallV_eq, gLend_eq, isNotBV_b, gRep_eq, repR_r, gZip_eq, zipR_t, zipR_l, gTry_eq, tryK_nx, tryK_ret, begin_eq, allR_nx, allR_ret, allR_exc, gSkip_eq, gSeq_eq, seqK_nx, seqK_ret, seqK_exc, toS_ok, toS_exc, toST_ok, toST_exc, toSL_ok, toSL_exc, gRet_eq, gAsg_eq, gSet_eq, gExpr_eq, gIfS_eq, gRaise_eq, gBin_eq, gUn_eq, gVar_eq, slotR_some, gC_eq, gArgs_nil, gArgs_cons, gTupE_eq, gLstE_eq, gNewE_eq, gCall_eq, gBi_eq, gB_eq, asB_bl, gAnd_eq, gOr_eq, gNot_eq, gVT_eq, gIf_eq, gChain_eq, chK_t, chK_f, chK_b, bnd_ok, bnd_exc, oo_some, gTo_eq, toK_some, tgName_eq, tgNil_eq, tgCons_eq, tgTup_eq, bind_some, gPar_eq, gCat_eq, catR_r, listV_t, listV_l, blsOf_nil, blsOf_cons, allV_l, isNV_d, notNV_d, parK_ok, parK_exc, gStore_eq, stK_some, gMeth_eq, gFor_eq, gRng1_eq, asI_i, gItL_eq, gItT_eq, asLst_l, asTup_t, addV_ii, subV_ii, mulV_ii, fdivV_ii, modV_ii, shlV_ii, pw6, pw9, pw18, pw19, pw20, pw25, pw30, pw39, ltV_ii, leV_ii, gtV_ii, geV_ii, negV_i, isNV_n, isNV_t, isNV_l, isNV_i, isNV_s, isNV_r, isNV_b, notNV_n, notNV_t, notNV_l, notNV_i, notNV_s, notNV_r, notNV_b, ixV_t, ixV_l, ixV_r, lenV_t, lenV_l, lenV_r, absV_i, max2V_ii, min2V_ii, bitsV_i, setIV_r, setK_some, setL_some, appendM_r, appK_some, appN_ok, isT_r, isK_l, lstK_some, tyK_l, isT_s, isiV_eq, tyN_int, tyN_bl, tyN_non, tyN_str, tyN_tup, tyN_lst, tyN_dct, tyN_r, kk_int_bool, kitK_t, kk_int_str, kk_int_tuple, kk_int_list, kk_int_dict, kk_int_NoneType, kk_bool_int, kk_bool_str, kk_bool_tuple, kk_bool_list, kk_bool_dict, kk_bool_NoneType, kk_str_int, kk_str_bool, kk_str_tuple, kk_str_list, kk_str_dict, kk_str_NoneType, kk_tuple_int, kk_tuple_bool, kk_tuple_str, kk_tuple_list, kk_tuple_dict, kk_tuple_NoneType, kk_list_int, kk_list_bool, kk_list_str, kk_list_tuple, kk_list_dict, kk_list_NoneType, kk_dict_int, kk_dict_bool, kk_dict_str, kk_dict_tuple, kk_dict_list, kk_dict_NoneType, eqV_int, neV_int, isBV_b, neV_bl, eqV_bl, eqV_ii, neV_ii, isNV_fr, notNV_fr, ixV_fr0, ixV_fr1, eqV_fr, neV_fr, int1V_b, int1V_i, ixV_hp0, ixV_hp1, isNV_hp, eqV_hp, neV_hp, tyN_fr, lenV_fr, at0, at1, at2, at3, at4, at5, ixN0, ixN1, List.map_cons, List.map_nil, List.replicate, List.cons_append, List.nil_append, List.getElem?_cons_zero, List.getElem?_cons_succ, List.set_cons_zero, List.set_cons_succ, Bool.not_true, Bool.not_false, Bool.false_eq_true, if_true, if_false, ite_true, ite_false, reduceIte, Nat.reduceSub, Nat.reduceAdd, ne_eq, Int.cast_ofNat_Int, Int.reduceBEq, Int.reduceLT, Int.reduceLE, Int.reduceEq, Int.reduceNeg, Int.reduceMul, Int.reduceAdd, Int.reduceSub, decide_true, decide_false, List.length_cons, List.length_nil, beq_self_eq_true, not_false_eq_true, not_true_eq_false , gLenSet_eq, lsR_l, gCompN_eq, mkN_l, gCat2_eq, lstOf_l, insertM_r, extendM_r, gListRg_eq, gSlV_eq, slVK_s, gForM_eq, toSM_ok, gItM_eq, mkB_t, mkB_f, kk_int_int, kk_int_bool, kk_bool_bool, whB]
theorem lwhole2_int {i : Int} {st : List SO} : F__law_whole_2 [.int i] st = .ok (.bl true) st := by
  simp only [F__law_whole_2, g__law_whole_2, gSlN_eq, slN_r, slN_l, slNK_s, gRevN_eq, revN_r, revNK_s, tupleV_r, tupleV_l, gCallV_eq, gLend_eq, isNotBV_b, gRep_eq, repR_r, gZip_eq, zipR_t, zipR_l, gTry_eq, tryK_nx, tryK_ret, begin_eq, allR_nx, allR_ret, allR_exc, gSkip_eq, gSeq_eq, seqK_nx, seqK_ret, seqK_exc, toS_ok, toS_exc, toST_ok, toST_exc, toSL_ok, toSL_exc, gRet_eq, gAsg_eq, gSet_eq, gExpr_eq, gIfS_eq, gRaise_eq, gBin_eq, gUn_eq, gVar_eq, slotR_some, gC_eq, gArgs_nil, gArgs_cons, gTupE_eq, gLstE_eq, gNewE_eq, gCall_eq, gBi_eq, gB_eq, asB_bl, gAnd_eq, gOr_eq, gNot_eq, gVT_eq, gIf_eq, gChain_eq, chK_t, chK_f, chK_b, bnd_ok, bnd_exc, oo_some, gTo_eq, toK_some, tgName_eq, tgNil_eq, tgCons_eq, tgTup_eq, bind_some, gPar_eq, gCat_eq, catR_r, listV_t, listV_l, blsOf_nil, blsOf_cons, allV_l, isNV_d, notNV_d, parK_ok, parK_exc, gStore_eq, stK_some, gMeth_eq, gFor_eq, gRng1_eq, asI_i, gItL_eq, gItT_eq, asLst_l, asTup_t, addV_ii, subV_ii, mulV_ii, fdivV_ii, modV_ii, shlV_ii, pw6, pw9, pw18, pw19, pw20, pw25, pw30, pw39, ltV_ii, leV_ii, gtV_ii, geV_ii, negV_i, isNV_n, isNV_t, isNV_l, isNV_i, isNV_s, isNV_r, isNV_b, notNV_n, notNV_t, notNV_l, notNV_i, notNV_s, notNV_r, notNV_b, ixV_t, ixV_l, ixV_r, lenV_t, lenV_l, lenV_r, absV_i, max2V_ii, min2V_ii, bitsV_i, setIV_r, setK_some, setL_some, appendM_r, appK_some, appN_ok, isT_r, isK_l, lstK_some, tyK_l, isT_s, isiV_eq, tyN_int, tyN_bl, tyN_non, tyN_str, tyN_tup, tyN_lst, tyN_dct, tyN_r, kk_int_bool, kitK_t, kk_int_str, kk_int_tuple, kk_int_list, kk_int_dict, kk_int_NoneType, kk_bool_int, kk_bool_str, kk_bool_tuple, kk_bool_list, kk_bool_dict, kk_bool_NoneType, kk_str_int, kk_str_bool, kk_str_tuple, kk_str_list, kk_str_dict, kk_str_NoneType, kk_tuple_int, kk_tuple_bool, kk_tuple_str, kk_tuple_list, kk_tuple_dict, kk_tuple_NoneType, kk_list_int, kk_list_bool, kk_list_str, kk_list_tuple, kk_list_dict, kk_list_NoneType, kk_dict_int, kk_dict_bool, kk_dict_str, kk_dict_tuple, kk_dict_list, kk_dict_NoneType, eqV_int, neV_int, isBV_b, neV_bl, eqV_bl, eqV_ii, neV_ii, isNV_fr, notNV_fr, ixV_fr0, ixV_fr1, eqV_fr, neV_fr, int1V_b, int1V_i, ixV_hp0, ixV_hp1, isNV_hp, eqV_hp, neV_hp, tyN_fr, lenV_fr, at0, at1, at2, at3, at4, at5, ixN0, ixN1, List.map_cons, List.map_nil, List.replicate, List.cons_append, List.nil_append, List.getElem?_cons_zero, List.getElem?_cons_succ, List.set_cons_zero, List.set_cons_succ, Bool.not_true, Bool.not_false, Bool.false_eq_true, if_true, if_false, ite_true, ite_false, reduceIte, Nat.reduceSub, Nat.reduceAdd, ne_eq, Int.cast_ofNat_Int, Int.reduceBEq, Int.reduceLT, Int.reduceLE, Int.reduceEq, Int.reduceNeg, Int.reduceMul, Int.reduceAdd, Int.reduceSub, decide_true, decide_false, List.length_cons, List.length_nil, beq_self_eq_true, not_false_eq_true, not_true_eq_false , gLenSet_eq, lsR_l, gCompN_eq, mkN_l, gCat2_eq, lstOf_l, insertM_r, extendM_r, gListRg_eq, gSlV_eq, slVK_s, gForM_eq, toSM_ok, gItM_eq, mkB_t, mkB_f]

noncomputable def g__law_same_2 (F__law_whole : Fn) (F__law_same : Fn) : GS :=
  (gSeq (gIfS (gB (gBin isNV (gVar 1) (gC .non))) (gRet (gBin isNV (gVar 0) (gC .non))) gSkip)
  (gSeq (gIfS (gB (gBi isiV [(gVar 1), (gC (.ty "bool"))])) (gRet (gVT (gAnd (gB (gBi isiV [(gVar 0), (gC (.ty "bool"))])) (gB (gBin eqV (gVar 0) (gVar 1)))))) gSkip)
  (gSeq (gIfS (gB (gBi isiV [(gVar 1), (gC (.ty "int"))])) (gRet (gVT (gAnd (gB (gCall F__law_whole [(gVar 0)])) (gB (gBin eqV (gVar 0) (gVar 1)))))) gSkip)
  (gSeq (gIfS (gB (gBi isiV [(gVar 1), (gC (.ty "str"))])) (gRet (gVT (gAnd (gB (gBi isiV [(gVar 0), (gC (.ty "str"))])) (gB (gBin eqV (gVar 0) (gVar 1)))))) gSkip)
  (gSeq (gIfS (gOr (gB (gBin neV (gBi isiV [(gVar 1), (gC (.ty "tuple"))]) (gBi isiV [(gVar 0), (gC (.ty "tuple"))]))) (gB (gBin neV (gBi isiV [(gVar 1), (gC (.ty "list"))]) (gBi isiV [(gVar 0), (gC (.ty "list"))])))) (gRet (gC (.bl false))) gSkip)
  (gRet (gVT (gAnd (gB (gBin eqV (gBi lenV [(gVar 0)]) (gBi lenV [(gVar 1)]))) (gB (gBi allV [(gComp (gZip (gVar 0) (gVar 1)) (tgTup 2 (tgCons (tgName 2) (tgCons (tgName 3) tgNil))) gYes (gCall F__law_same [(gVar 2), (gVar 3)]) [2, 3])]))))))))))
noncomputable def R__law_same_2 (F : Fn) : Fn := fun xs st => allR (g__law_same_2 F__law_whole_2 F (begin 4 2 xs) st)
noncomputable def F__law_same_2 : Fn := recF R__law_same_2 6
theorem allT_true {xs : List PV} : (xs.map fun _ => true).all id = true := by simp
theorem same_comp {F : Fn} {x y : PV} {xs : List PV} {st : List SO} (hz : zipR st [x, y] = .ok (zipP xs xs) st) (hl : xs.length ≤ 900) (hF : ∀ z ∈ xs, F [z, z] st = .ok (.bl true) st) :
    gComp (gZip (gVar 0) (gVar 1)) (tgTup 2 (tgCons (tgName 2) (tgCons (tgName 3) tgNil))) gYes (gCall F [(gVar 2), (gVar 3)]) [2, 3] [some x, some y, none, none] st = .ok (.lst ((zipP xs xs).map fun _ => PV.bl true)) st := by
  refine gComp_ok (xs := zipP xs xs) (st1 := st) ?_ (comp_map (fun _ => PV.bl true) _ fun z hz' => ?_) (lenOk_small (by rw [List.length_map, zipP_len]; omega))
  · simp only [gSlN_eq, slN_r, slN_l, slNK_s, gRevN_eq, revN_r, revNK_s, tupleV_r, tupleV_l, gCallV_eq, gLend_eq, isNotBV_b, gRep_eq, repR_r, gZip_eq, zipR_t, zipR_l, gTry_eq, tryK_nx, tryK_ret, begin_eq, allR_nx, allR_ret, allR_exc, gSkip_eq, gSeq_eq, seqK_nx, seqK_ret, seqK_exc, toS_ok, toS_exc, toST_ok, toST_exc, toSL_ok, toSL_exc, gRet_eq, gAsg_eq, gSet_eq, gExpr_eq, gIfS_eq, gRaise_eq, gBin_eq, gUn_eq, gVar_eq, slotR_some, gC_eq, gArgs_nil, gArgs_cons, gTupE_eq, gLstE_eq, gNewE_eq, gCall_eq, gBi_eq, gB_eq, asB_bl, gAnd_eq, gOr_eq, gNot_eq, gVT_eq, gIf_eq, gChain_eq, chK_t, chK_f, chK_b, bnd_ok, bnd_exc, oo_some, gTo_eq, toK_some, tgName_eq, tgNil_eq, tgCons_eq, tgTup_eq, bind_some, gPar_eq, gCat_eq, catR_r, listV_t, listV_l, blsOf_nil, blsOf_cons, allV_l, isNV_d, notNV_d, parK_ok, parK_exc, gStore_eq, stK_some, gMeth_eq, gFor_eq, gRng1_eq, asI_i, gItL_eq, gItT_eq, asLst_l, asTup_t, addV_ii, subV_ii, mulV_ii, fdivV_ii, modV_ii, shlV_ii, pw6, pw9, pw18, pw19, pw20, pw25, pw30, pw39, ltV_ii, leV_ii, gtV_ii, geV_ii, negV_i, isNV_n, isNV_t, isNV_l, isNV_i, isNV_s, isNV_r, isNV_b, notNV_n, notNV_t, notNV_l, notNV_i, notNV_s, notNV_r, notNV_b, ixV_t, ixV_l, ixV_r, lenV_t, lenV_l, lenV_r, absV_i, max2V_ii, min2V_ii, bitsV_i, setIV_r, setK_some, setL_some, appendM_r, appK_some, appN_ok, isT_r, isK_l, lstK_some, tyK_l, isT_s, isiV_eq, tyN_int, tyN_bl, tyN_non, tyN_str, tyN_tup, tyN_lst, tyN_dct, tyN_r, kk_int_bool, kitK_t, kk_int_str, kk_int_tuple, kk_int_list, kk_int_dict, kk_int_NoneType, kk_bool_int, kk_bool_str, kk_bool_tuple, kk_bool_list, kk_bool_dict, kk_bool_NoneType, kk_str_int, kk_str_bool, kk_str_tuple, kk_str_list, kk_str_dict, kk_str_NoneType, kk_tuple_int, kk_tuple_bool, kk_tuple_str, kk_tuple_list, kk_tuple_dict, kk_tuple_NoneType, kk_list_int, kk_list_bool, kk_list_str, kk_list_tuple, kk_list_dict, kk_list_NoneType, kk_dict_int, kk_dict_bool, kk_dict_str, kk_dict_tuple, kk_dict_list, kk_dict_NoneType, eqV_int, neV_int, isBV_b, neV_bl, eqV_bl, eqV_ii, neV_ii, isNV_fr, notNV_fr, ixV_fr0, ixV_fr1, eqV_fr, neV_fr, int1V_b, int1V_i, ixV_hp0, ixV_hp1, isNV_hp, eqV_hp, neV_hp, tyN_fr, lenV_fr, at0, at1, at2, at3, at4, at5, ixN0, ixN1, List.map_cons, List.map_nil, List.replicate, List.cons_append, List.nil_append, List.getElem?_cons_zero, List.getElem?_cons_succ, List.set_cons_zero, List.set_cons_succ, Bool.not_true, Bool.not_false, Bool.false_eq_true, if_true, if_false, ite_true, ite_false, reduceIte, Nat.reduceSub, Nat.reduceAdd, ne_eq, Int.cast_ofNat_Int, Int.reduceBEq, Int.reduceLT, Int.reduceLE, Int.reduceEq, Int.reduceNeg, Int.reduceMul, Int.reduceAdd, Int.reduceSub, decide_true, decide_false, List.length_cons, List.length_nil, beq_self_eq_true, not_false_eq_true, not_true_eq_false , gLenSet_eq, lsR_l, gCompN_eq, mkN_l, gCat2_eq, lstOf_l, insertM_r, extendM_r, gListRg_eq, gSlV_eq, slVK_s, gForM_eq, toSM_ok, gItM_eq, mkB_t, mkB_f, hz]
  · obtain ⟨u, hu, rfl⟩ := zipP_self hz'
    refine ⟨[some x, some y, some u, some u], rfl, ?_⟩
    simp only [gSlN_eq, slN_r, slN_l, slNK_s, gRevN_eq, revN_r, revNK_s, tupleV_r, tupleV_l, gCallV_eq, gLend_eq, isNotBV_b, gRep_eq, repR_r, gZip_eq, zipR_t, zipR_l, gTry_eq, tryK_nx, tryK_ret, begin_eq, allR_nx, allR_ret, allR_exc, gSkip_eq, gSeq_eq, seqK_nx, seqK_ret, seqK_exc, toS_ok, toS_exc, toST_ok, toST_exc, toSL_ok, toSL_exc, gRet_eq, gAsg_eq, gSet_eq, gExpr_eq, gIfS_eq, gRaise_eq, gBin_eq, gUn_eq, gVar_eq, slotR_some, gC_eq, gArgs_nil, gArgs_cons, gTupE_eq, gLstE_eq, gNewE_eq, gCall_eq, gBi_eq, gB_eq, asB_bl, gAnd_eq, gOr_eq, gNot_eq, gVT_eq, gIf_eq, gChain_eq, chK_t, chK_f, chK_b, bnd_ok, bnd_exc, oo_some, gTo_eq, toK_some, tgName_eq, tgNil_eq, tgCons_eq, tgTup_eq, bind_some, gPar_eq, gCat_eq, catR_r, listV_t, listV_l, blsOf_nil, blsOf_cons, allV_l, isNV_d, notNV_d, parK_ok, parK_exc, gStore_eq, stK_some, gMeth_eq, gFor_eq, gRng1_eq, asI_i, gItL_eq, gItT_eq, asLst_l, asTup_t, addV_ii, subV_ii, mulV_ii, fdivV_ii, modV_ii, shlV_ii, pw6, pw9, pw18, pw19, pw20, pw25, pw30, pw39, ltV_ii, leV_ii, gtV_ii, geV_ii, negV_i, isNV_n, isNV_t, isNV_l, isNV_i, isNV_s, isNV_r, isNV_b, notNV_n, notNV_t, notNV_l, notNV_i, notNV_s, notNV_r, notNV_b, ixV_t, ixV_l, ixV_r, lenV_t, lenV_l, lenV_r, absV_i, max2V_ii, min2V_ii, bitsV_i, setIV_r, setK_some, setL_some, appendM_r, appK_some, appN_ok, isT_r, isK_l, lstK_some, tyK_l, isT_s, isiV_eq, tyN_int, tyN_bl, tyN_non, tyN_str, tyN_tup, tyN_lst, tyN_dct, tyN_r, kk_int_bool, kitK_t, kk_int_str, kk_int_tuple, kk_int_list, kk_int_dict, kk_int_NoneType, kk_bool_int, kk_bool_str, kk_bool_tuple, kk_bool_list, kk_bool_dict, kk_bool_NoneType, kk_str_int, kk_str_bool, kk_str_tuple, kk_str_list, kk_str_dict, kk_str_NoneType, kk_tuple_int, kk_tuple_bool, kk_tuple_str, kk_tuple_list, kk_tuple_dict, kk_tuple_NoneType, kk_list_int, kk_list_bool, kk_list_str, kk_list_tuple, kk_list_dict, kk_list_NoneType, kk_dict_int, kk_dict_bool, kk_dict_str, kk_dict_tuple, kk_dict_list, kk_dict_NoneType, eqV_int, neV_int, isBV_b, neV_bl, eqV_bl, eqV_ii, neV_ii, isNV_fr, notNV_fr, ixV_fr0, ixV_fr1, eqV_fr, neV_fr, int1V_b, int1V_i, ixV_hp0, ixV_hp1, isNV_hp, eqV_hp, neV_hp, tyN_fr, lenV_fr, at0, at1, at2, at3, at4, at5, ixN0, ixN1, List.map_cons, List.map_nil, List.replicate, List.cons_append, List.nil_append, List.getElem?_cons_zero, List.getElem?_cons_succ, List.set_cons_zero, List.set_cons_succ, Bool.not_true, Bool.not_false, Bool.false_eq_true, if_true, if_false, ite_true, ite_false, reduceIte, Nat.reduceSub, Nat.reduceAdd, ne_eq, Int.cast_ofNat_Int, Int.reduceBEq, Int.reduceLT, Int.reduceLE, Int.reduceEq, Int.reduceNeg, Int.reduceMul, Int.reduceAdd, Int.reduceSub, decide_true, decide_false, List.length_cons, List.length_nil, beq_self_eq_true, not_false_eq_true, not_true_eq_false , gLenSet_eq, lsR_l, gCompN_eq, mkN_l, gCat2_eq, lstOf_l, insertM_r, extendM_r, gListRg_eq, gSlV_eq, slVK_s, gForM_eq, toSM_ok, gItM_eq, mkB_t, mkB_f, hF u hu]
theorem same_rec : ∀ (n : Nat) (x : PV) (st : List SO), Sm n x → recF R__law_same_2 n [x, x] st = .ok (.bl true) st
  | 0, _, _, h => h.elim
  | n + 1, x, st, h => by
    show R__law_same_2 (recF R__law_same_2 n) [x, x] st = _
    cases x with
    | non => simp only [R__law_same_2, g__law_same_2, gSlN_eq, slN_r, slN_l, slNK_s, gRevN_eq, revN_r, revNK_s, tupleV_r, tupleV_l, gCallV_eq, gLend_eq, isNotBV_b, gRep_eq, repR_r, gZip_eq, zipR_t, zipR_l, gTry_eq, tryK_nx, tryK_ret, begin_eq, allR_nx, allR_ret, allR_exc, gSkip_eq, gSeq_eq, seqK_nx, seqK_ret, seqK_exc, toS_ok, toS_exc, toST_ok, toST_exc, toSL_ok, toSL_exc, gRet_eq, gAsg_eq, gSet_eq, gExpr_eq, gIfS_eq, gRaise_eq, gBin_eq, gUn_eq, gVar_eq, slotR_some, gC_eq, gArgs_nil, gArgs_cons, gTupE_eq, gLstE_eq, gNewE_eq, gCall_eq, gBi_eq, gB_eq, asB_bl, gAnd_eq, gOr_eq, gNot_eq, gVT_eq, gIf_eq, gChain_eq, chK_t, chK_f, chK_b, bnd_ok, bnd_exc, oo_some, gTo_eq, toK_some, tgName_eq, tgNil_eq, tgCons_eq, tgTup_eq, bind_some, gPar_eq, gCat_eq, catR_r, listV_t, listV_l, blsOf_nil, blsOf_cons, allV_l, isNV_d, notNV_d, parK_ok, parK_exc, gStore_eq, stK_some, gMeth_eq, gFor_eq, gRng1_eq, asI_i, gItL_eq, gItT_eq, asLst_l, asTup_t, addV_ii, subV_ii, mulV_ii, fdivV_ii, modV_ii, shlV_ii, pw6, pw9, pw18, pw19, pw20, pw25, pw30, pw39, ltV_ii, leV_ii, gtV_ii, geV_ii, negV_i, isNV_n, isNV_t, isNV_l, isNV_i, isNV_s, isNV_r, isNV_b, notNV_n, notNV_t, notNV_l, notNV_i, notNV_s, notNV_r, notNV_b, ixV_t, ixV_l, ixV_r, lenV_t, lenV_l, lenV_r, absV_i, max2V_ii, min2V_ii, bitsV_i, setIV_r, setK_some, setL_some, appendM_r, appK_some, appN_ok, isT_r, isK_l, lstK_some, tyK_l, isT_s, isiV_eq, tyN_int, tyN_bl, tyN_non, tyN_str, tyN_tup, tyN_lst, tyN_dct, tyN_r, kk_int_bool, kitK_t, kk_int_str, kk_int_tuple, kk_int_list, kk_int_dict, kk_int_NoneType, kk_bool_int, kk_bool_str, kk_bool_tuple, kk_bool_list, kk_bool_dict, kk_bool_NoneType, kk_str_int, kk_str_bool, kk_str_tuple, kk_str_list, kk_str_dict, kk_str_NoneType, kk_tuple_int, kk_tuple_bool, kk_tuple_str, kk_tuple_list, kk_tuple_dict, kk_tuple_NoneType, kk_list_int, kk_list_bool, kk_list_str, kk_list_tuple, kk_list_dict, kk_list_NoneType, kk_dict_int, kk_dict_bool, kk_dict_str, kk_dict_tuple, kk_dict_list, kk_dict_NoneType, eqV_int, neV_int, isBV_b, neV_bl, eqV_bl, eqV_ii, neV_ii, isNV_fr, notNV_fr, ixV_fr0, ixV_fr1, eqV_fr, neV_fr, int1V_b, int1V_i, ixV_hp0, ixV_hp1, isNV_hp, eqV_hp, neV_hp, tyN_fr, lenV_fr, at0, at1, at2, at3, at4, at5, ixN0, ixN1, List.map_cons, List.map_nil, List.replicate, List.cons_append, List.nil_append, List.getElem?_cons_zero, List.getElem?_cons_succ, List.set_cons_zero, List.set_cons_succ, Bool.not_true, Bool.not_false, Bool.false_eq_true, if_true, if_false, ite_true, ite_false, reduceIte, Nat.reduceSub, Nat.reduceAdd, ne_eq, Int.cast_ofNat_Int, Int.reduceBEq, Int.reduceLT, Int.reduceLE, Int.reduceEq, Int.reduceNeg, Int.reduceMul, Int.reduceAdd, Int.reduceSub, decide_true, decide_false, List.length_cons, List.length_nil, beq_self_eq_true, not_false_eq_true, not_true_eq_false , gLenSet_eq, lsR_l, gCompN_eq, mkN_l, gCat2_eq, lstOf_l, insertM_r, extendM_r, gListRg_eq, gSlV_eq, slVK_s, gForM_eq, toSM_ok, gItM_eq, mkB_t, mkB_f]
    | bl b => simp only [R__law_same_2, g__law_same_2, gSlN_eq, slN_r, slN_l, slNK_s, gRevN_eq, revN_r, revNK_s, tupleV_r, tupleV_l, gCallV_eq, gLend_eq, isNotBV_b, gRep_eq, repR_r, gZip_eq, zipR_t, zipR_l, gTry_eq, tryK_nx, tryK_ret, begin_eq, allR_nx, allR_ret, allR_exc, gSkip_eq, gSeq_eq, seqK_nx, seqK_ret, seqK_exc, toS_ok, toS_exc, toST_ok, toST_exc, toSL_ok, toSL_exc, gRet_eq, gAsg_eq, gSet_eq, gExpr_eq, gIfS_eq, gRaise_eq, gBin_eq, gUn_eq, gVar_eq, slotR_some, gC_eq, gArgs_nil, gArgs_cons, gTupE_eq, gLstE_eq, gNewE_eq, gCall_eq, gBi_eq, gB_eq, asB_bl, gAnd_eq, gOr_eq, gNot_eq, gVT_eq, gIf_eq, gChain_eq, chK_t, chK_f, chK_b, bnd_ok, bnd_exc, oo_some, gTo_eq, toK_some, tgName_eq, tgNil_eq, tgCons_eq, tgTup_eq, bind_some, gPar_eq, gCat_eq, catR_r, listV_t, listV_l, blsOf_nil, blsOf_cons, allV_l, isNV_d, notNV_d, parK_ok, parK_exc, gStore_eq, stK_some, gMeth_eq, gFor_eq, gRng1_eq, asI_i, gItL_eq, gItT_eq, asLst_l, asTup_t, addV_ii, subV_ii, mulV_ii, fdivV_ii, modV_ii, shlV_ii, pw6, pw9, pw18, pw19, pw20, pw25, pw30, pw39, ltV_ii, leV_ii, gtV_ii, geV_ii, negV_i, isNV_n, isNV_t, isNV_l, isNV_i, isNV_s, isNV_r, isNV_b, notNV_n, notNV_t, notNV_l, notNV_i, notNV_s, notNV_r, notNV_b, ixV_t, ixV_l, ixV_r, lenV_t, lenV_l, lenV_r, absV_i, max2V_ii, min2V_ii, bitsV_i, setIV_r, setK_some, setL_some, appendM_r, appK_some, appN_ok, isT_r, isK_l, lstK_some, tyK_l, isT_s, isiV_eq, tyN_int, tyN_bl, tyN_non, tyN_str, tyN_tup, tyN_lst, tyN_dct, tyN_r, kk_int_bool, kitK_t, kk_int_str, kk_int_tuple, kk_int_list, kk_int_dict, kk_int_NoneType, kk_bool_int, kk_bool_str, kk_bool_tuple, kk_bool_list, kk_bool_dict, kk_bool_NoneType, kk_str_int, kk_str_bool, kk_str_tuple, kk_str_list, kk_str_dict, kk_str_NoneType, kk_tuple_int, kk_tuple_bool, kk_tuple_str, kk_tuple_list, kk_tuple_dict, kk_tuple_NoneType, kk_list_int, kk_list_bool, kk_list_str, kk_list_tuple, kk_list_dict, kk_list_NoneType, kk_dict_int, kk_dict_bool, kk_dict_str, kk_dict_tuple, kk_dict_list, kk_dict_NoneType, eqV_int, neV_int, isBV_b, neV_bl, eqV_bl, eqV_ii, neV_ii, isNV_fr, notNV_fr, ixV_fr0, ixV_fr1, eqV_fr, neV_fr, int1V_b, int1V_i, ixV_hp0, ixV_hp1, isNV_hp, eqV_hp, neV_hp, tyN_fr, lenV_fr, at0, at1, at2, at3, at4, at5, ixN0, ixN1, List.map_cons, List.map_nil, List.replicate, List.cons_append, List.nil_append, List.getElem?_cons_zero, List.getElem?_cons_succ, List.set_cons_zero, List.set_cons_succ, Bool.not_true, Bool.not_false, Bool.false_eq_true, if_true, if_false, ite_true, ite_false, reduceIte, Nat.reduceSub, Nat.reduceAdd, ne_eq, Int.cast_ofNat_Int, Int.reduceBEq, Int.reduceLT, Int.reduceLE, Int.reduceEq, Int.reduceNeg, Int.reduceMul, Int.reduceAdd, Int.reduceSub, decide_true, decide_false, List.length_cons, List.length_nil, beq_self_eq_true, not_false_eq_true, not_true_eq_false , gLenSet_eq, lsR_l, gCompN_eq, mkN_l, gCat2_eq, lstOf_l, insertM_r, extendM_r, gListRg_eq, gSlV_eq, slVK_s, gForM_eq, toSM_ok, gItM_eq, mkB_t, mkB_f, kk_bool_bool]
    | int i => simp only [R__law_same_2, g__law_same_2, gSlN_eq, slN_r, slN_l, slNK_s, gRevN_eq, revN_r, revNK_s, tupleV_r, tupleV_l, gCallV_eq, gLend_eq, isNotBV_b, gRep_eq, repR_r, gZip_eq, zipR_t, zipR_l, gTry_eq, tryK_nx, tryK_ret, begin_eq, allR_nx, allR_ret, allR_exc, gSkip_eq, gSeq_eq, seqK_nx, seqK_ret, seqK_exc, toS_ok, toS_exc, toST_ok, toST_exc, toSL_ok, toSL_exc, gRet_eq, gAsg_eq, gSet_eq, gExpr_eq, gIfS_eq, gRaise_eq, gBin_eq, gUn_eq, gVar_eq, slotR_some, gC_eq, gArgs_nil, gArgs_cons, gTupE_eq, gLstE_eq, gNewE_eq, gCall_eq, gBi_eq, gB_eq, asB_bl, gAnd_eq, gOr_eq, gNot_eq, gVT_eq, gIf_eq, gChain_eq, chK_t, chK_f, chK_b, bnd_ok, bnd_exc, oo_some, gTo_eq, toK_some, tgName_eq, tgNil_eq, tgCons_eq, tgTup_eq, bind_some, gPar_eq, gCat_eq, catR_r, listV_t, listV_l, blsOf_nil, blsOf_cons, allV_l, isNV_d, notNV_d, parK_ok, parK_exc, gStore_eq, stK_some, gMeth_eq, gFor_eq, gRng1_eq, asI_i, gItL_eq, gItT_eq, asLst_l, asTup_t, addV_ii, subV_ii, mulV_ii, fdivV_ii, modV_ii, shlV_ii, pw6, pw9, pw18, pw19, pw20, pw25, pw30, pw39, ltV_ii, leV_ii, gtV_ii, geV_ii, negV_i, isNV_n, isNV_t, isNV_l, isNV_i, isNV_s, isNV_r, isNV_b, notNV_n, notNV_t, notNV_l, notNV_i, notNV_s, notNV_r, notNV_b, ixV_t, ixV_l, ixV_r, lenV_t, lenV_l, lenV_r, absV_i, max2V_ii, min2V_ii, bitsV_i, setIV_r, setK_some, setL_some, appendM_r, appK_some, appN_ok, isT_r, isK_l, lstK_some, tyK_l, isT_s, isiV_eq, tyN_int, tyN_bl, tyN_non, tyN_str, tyN_tup, tyN_lst, tyN_dct, tyN_r, kk_int_bool, kitK_t, kk_int_str, kk_int_tuple, kk_int_list, kk_int_dict, kk_int_NoneType, kk_bool_int, kk_bool_str, kk_bool_tuple, kk_bool_list, kk_bool_dict, kk_bool_NoneType, kk_str_int, kk_str_bool, kk_str_tuple, kk_str_list, kk_str_dict, kk_str_NoneType, kk_tuple_int, kk_tuple_bool, kk_tuple_str, kk_tuple_list, kk_tuple_dict, kk_tuple_NoneType, kk_list_int, kk_list_bool, kk_list_str, kk_list_tuple, kk_list_dict, kk_list_NoneType, kk_dict_int, kk_dict_bool, kk_dict_str, kk_dict_tuple, kk_dict_list, kk_dict_NoneType, eqV_int, neV_int, isBV_b, neV_bl, eqV_bl, eqV_ii, neV_ii, isNV_fr, notNV_fr, ixV_fr0, ixV_fr1, eqV_fr, neV_fr, int1V_b, int1V_i, ixV_hp0, ixV_hp1, isNV_hp, eqV_hp, neV_hp, tyN_fr, lenV_fr, at0, at1, at2, at3, at4, at5, ixN0, ixN1, List.map_cons, List.map_nil, List.replicate, List.cons_append, List.nil_append, List.getElem?_cons_zero, List.getElem?_cons_succ, List.set_cons_zero, List.set_cons_succ, Bool.not_true, Bool.not_false, Bool.false_eq_true, if_true, if_false, ite_true, ite_false, reduceIte, Nat.reduceSub, Nat.reduceAdd, ne_eq, Int.cast_ofNat_Int, Int.reduceBEq, Int.reduceLT, Int.reduceLE, Int.reduceEq, Int.reduceNeg, Int.reduceMul, Int.reduceAdd, Int.reduceSub, decide_true, decide_false, List.length_cons, List.length_nil, beq_self_eq_true, not_false_eq_true, not_true_eq_false , gLenSet_eq, lsR_l, gCompN_eq, mkN_l, gCat2_eq, lstOf_l, insertM_r, extendM_r, gListRg_eq, gSlV_eq, slVK_s, gForM_eq, toSM_ok, gItM_eq, mkB_t, mkB_f, lwhole2_int]
    | str s => simp only [R__law_same_2, g__law_same_2, gSlN_eq, slN_r, slN_l, slNK_s, gRevN_eq, revN_r, revNK_s, tupleV_r, tupleV_l, gCallV_eq, gLend_eq, isNotBV_b, gRep_eq, repR_r, gZip_eq, zipR_t, zipR_l, gTry_eq, tryK_nx, tryK_ret, begin_eq, allR_nx, allR_ret, allR_exc, gSkip_eq, gSeq_eq, seqK_nx, seqK_ret, seqK_exc, toS_ok, toS_exc, toST_ok, toST_exc, toSL_ok, toSL_exc, gRet_eq, gAsg_eq, gSet_eq, gExpr_eq, gIfS_eq, gRaise_eq, gBin_eq, gUn_eq, gVar_eq, slotR_some, gC_eq, gArgs_nil, gArgs_cons, gTupE_eq, gLstE_eq, gNewE_eq, gCall_eq, gBi_eq, gB_eq, asB_bl, gAnd_eq, gOr_eq, gNot_eq, gVT_eq, gIf_eq, gChain_eq, chK_t, chK_f, chK_b, bnd_ok, bnd_exc, oo_some, gTo_eq, toK_some, tgName_eq, tgNil_eq, tgCons_eq, tgTup_eq, bind_some, gPar_eq, gCat_eq, catR_r, listV_t, listV_l, blsOf_nil, blsOf_cons, allV_l, isNV_d, notNV_d, parK_ok, parK_exc, gStore_eq, stK_some, gMeth_eq, gFor_eq, gRng1_eq, asI_i, gItL_eq, gItT_eq, asLst_l, asTup_t, addV_ii, subV_ii, mulV_ii, fdivV_ii, modV_ii, shlV_ii, pw6, pw9, pw18, pw19, pw20, pw25, pw30, pw39, ltV_ii, leV_ii, gtV_ii, geV_ii, negV_i, isNV_n, isNV_t, isNV_l, isNV_i, isNV_s, isNV_r, isNV_b, notNV_n, notNV_t, notNV_l, notNV_i, notNV_s, notNV_r, notNV_b, ixV_t, ixV_l, ixV_r, lenV_t, lenV_l, lenV_r, absV_i, max2V_ii, min2V_ii, bitsV_i, setIV_r, setK_some, setL_some, appendM_r, appK_some, appN_ok, isT_r, isK_l, lstK_some, tyK_l, isT_s, isiV_eq, tyN_int, tyN_bl, tyN_non, tyN_str, tyN_tup, tyN_lst, tyN_dct, tyN_r, kk_int_bool, kitK_t, kk_int_str, kk_int_tuple, kk_int_list, kk_int_dict, kk_int_NoneType, kk_bool_int, kk_bool_str, kk_bool_tuple, kk_bool_list, kk_bool_dict, kk_bool_NoneType, kk_str_int, kk_str_bool, kk_str_tuple, kk_str_list, kk_str_dict, kk_str_NoneType, kk_tuple_int, kk_tuple_bool, kk_tuple_str, kk_tuple_list, kk_tuple_dict, kk_tuple_NoneType, kk_list_int, kk_list_bool, kk_list_str, kk_list_tuple, kk_list_dict, kk_list_NoneType, kk_dict_int, kk_dict_bool, kk_dict_str, kk_dict_tuple, kk_dict_list, kk_dict_NoneType, eqV_int, neV_int, isBV_b, neV_bl, eqV_bl, eqV_ii, neV_ii, isNV_fr, notNV_fr, ixV_fr0, ixV_fr1, eqV_fr, neV_fr, int1V_b, int1V_i, ixV_hp0, ixV_hp1, isNV_hp, eqV_hp, neV_hp, tyN_fr, lenV_fr, at0, at1, at2, at3, at4, at5, ixN0, ixN1, List.map_cons, List.map_nil, List.replicate, List.cons_append, List.nil_append, List.getElem?_cons_zero, List.getElem?_cons_succ, List.set_cons_zero, List.set_cons_succ, Bool.not_true, Bool.not_false, Bool.false_eq_true, if_true, if_false, ite_true, ite_false, reduceIte, Nat.reduceSub, Nat.reduceAdd, ne_eq, Int.cast_ofNat_Int, Int.reduceBEq, Int.reduceLT, Int.reduceLE, Int.reduceEq, Int.reduceNeg, Int.reduceMul, Int.reduceAdd, Int.reduceSub, decide_true, decide_false, List.length_cons, List.length_nil, beq_self_eq_true, not_false_eq_true, not_true_eq_false , gLenSet_eq, lsR_l, gCompN_eq, mkN_l, gCat2_eq, lstOf_l, insertM_r, extendM_r, gListRg_eq, gSlV_eq, slVK_s, gForM_eq, toSM_ok, gItM_eq, mkB_t, mkB_f, kk_str_str, eqV_str h h]
    | tup xs =>
      have hc := same_comp (F := recF R__law_same_2 n) (x := .tup xs) (y := .tup xs) (xs := xs) (st := st) zipR_t h.1 fun z hz => same_rec n z st (h.2 z hz)
      simp only [R__law_same_2, g__law_same_2, gSlN_eq, slN_r, slN_l, slNK_s, gRevN_eq, revN_r, revNK_s, tupleV_r, tupleV_l, gCallV_eq, gLend_eq, isNotBV_b, gRep_eq, repR_r, gZip_eq, zipR_t, zipR_l, gTry_eq, tryK_nx, tryK_ret, begin_eq, allR_nx, allR_ret, allR_exc, gSkip_eq, gSeq_eq, seqK_nx, seqK_ret, seqK_exc, toS_ok, toS_exc, toST_ok, toST_exc, toSL_ok, toSL_exc, gRet_eq, gAsg_eq, gSet_eq, gExpr_eq, gIfS_eq, gRaise_eq, gBin_eq, gUn_eq, gVar_eq, slotR_some, gC_eq, gArgs_nil, gArgs_cons, gTupE_eq, gLstE_eq, gNewE_eq, gCall_eq, gBi_eq, gB_eq, asB_bl, gAnd_eq, gOr_eq, gNot_eq, gVT_eq, gIf_eq, gChain_eq, chK_t, chK_f, chK_b, bnd_ok, bnd_exc, oo_some, gTo_eq, toK_some, tgName_eq, tgNil_eq, tgCons_eq, tgTup_eq, bind_some, gPar_eq, gCat_eq, catR_r, listV_t, listV_l, blsOf_nil, blsOf_cons, allV_l, isNV_d, notNV_d, parK_ok, parK_exc, gStore_eq, stK_some, gMeth_eq, gFor_eq, gRng1_eq, asI_i, gItL_eq, gItT_eq, asLst_l, asTup_t, addV_ii, subV_ii, mulV_ii, fdivV_ii, modV_ii, shlV_ii, pw6, pw9, pw18, pw19, pw20, pw25, pw30, pw39, ltV_ii, leV_ii, gtV_ii, geV_ii, negV_i, isNV_n, isNV_t, isNV_l, isNV_i, isNV_s, isNV_r, isNV_b, notNV_n, notNV_t, notNV_l, notNV_i, notNV_s, notNV_r, notNV_b, ixV_t, ixV_l, ixV_r, lenV_t, lenV_l, lenV_r, absV_i, max2V_ii, min2V_ii, bitsV_i, setIV_r, setK_some, setL_some, appendM_r, appK_some, appN_ok, isT_r, isK_l, lstK_some, tyK_l, isT_s, isiV_eq, tyN_int, tyN_bl, tyN_non, tyN_str, tyN_tup, tyN_lst, tyN_dct, tyN_r, kk_int_bool, kitK_t, kk_int_str, kk_int_tuple, kk_int_list, kk_int_dict, kk_int_NoneType, kk_bool_int, kk_bool_str, kk_bool_tuple, kk_bool_list, kk_bool_dict, kk_bool_NoneType, kk_str_int, kk_str_bool, kk_str_tuple, kk_str_list, kk_str_dict, kk_str_NoneType, kk_tuple_int, kk_tuple_bool, kk_tuple_str, kk_tuple_list, kk_tuple_dict, kk_tuple_NoneType, kk_list_int, kk_list_bool, kk_list_str, kk_list_tuple, kk_list_dict, kk_list_NoneType, kk_dict_int, kk_dict_bool, kk_dict_str, kk_dict_tuple, kk_dict_list, kk_dict_NoneType, eqV_int, neV_int, isBV_b, neV_bl, eqV_bl, eqV_ii, neV_ii, isNV_fr, notNV_fr, ixV_fr0, ixV_fr1, eqV_fr, neV_fr, int1V_b, int1V_i, ixV_hp0, ixV_hp1, isNV_hp, eqV_hp, neV_hp, tyN_fr, lenV_fr, at0, at1, at2, at3, at4, at5, ixN0, ixN1, List.map_cons, List.map_nil, List.replicate, List.cons_append, List.nil_append, List.getElem?_cons_zero, List.getElem?_cons_succ, List.set_cons_zero, List.set_cons_succ, Bool.not_true, Bool.not_false, Bool.false_eq_true, if_true, if_false, ite_true, ite_false, reduceIte, Nat.reduceSub, Nat.reduceAdd, ne_eq, Int.cast_ofNat_Int, Int.reduceBEq, Int.reduceLT, Int.reduceLE, Int.reduceEq, Int.reduceNeg, Int.reduceMul, Int.reduceAdd, Int.reduceSub, decide_true, decide_false, List.length_cons, List.length_nil, beq_self_eq_true, not_false_eq_true, not_true_eq_false , gLenSet_eq, lsR_l, gCompN_eq, mkN_l, gCat2_eq, lstOf_l, insertM_r, extendM_r, gListRg_eq, gSlV_eq, slVK_s, gForM_eq, toSM_ok, gItM_eq, mkB_t, mkB_f, kk_tuple_tuple, kk_bool_bool, hc, blsOf_true, Option.map_some, allT_true]
    | lst xs =>
      have hc := same_comp (F := recF R__law_same_2 n) (x := .lst xs) (y := .lst xs) (xs := xs) (st := st) zipR_l h.1 fun z hz => same_rec n z st (h.2 z hz)
      simp only [R__law_same_2, g__law_same_2, gSlN_eq, slN_r, slN_l, slNK_s, gRevN_eq, revN_r, revNK_s, tupleV_r, tupleV_l, gCallV_eq, gLend_eq, isNotBV_b, gRep_eq, repR_r, gZip_eq, zipR_t, zipR_l, gTry_eq, tryK_nx, tryK_ret, begin_eq, allR_nx, allR_ret, allR_exc, gSkip_eq, gSeq_eq, seqK_nx, seqK_ret, seqK_exc, toS_ok, toS_exc, toST_ok, toST_exc, toSL_ok, toSL_exc, gRet_eq, gAsg_eq, gSet_eq, gExpr_eq, gIfS_eq, gRaise_eq, gBin_eq, gUn_eq, gVar_eq, slotR_some, gC_eq, gArgs_nil, gArgs_cons, gTupE_eq, gLstE_eq, gNewE_eq, gCall_eq, gBi_eq, gB_eq, asB_bl, gAnd_eq, gOr_eq, gNot_eq, gVT_eq, gIf_eq, gChain_eq, chK_t, chK_f, chK_b, bnd_ok, bnd_exc, oo_some, gTo_eq, toK_some, tgName_eq, tgNil_eq, tgCons_eq, tgTup_eq, bind_some, gPar_eq, gCat_eq, catR_r, listV_t, listV_l, blsOf_nil, blsOf_cons, allV_l, isNV_d, notNV_d, parK_ok, parK_exc, gStore_eq, stK_some, gMeth_eq, gFor_eq, gRng1_eq, asI_i, gItL_eq, gItT_eq, asLst_l, asTup_t, addV_ii, subV_ii, mulV_ii, fdivV_ii, modV_ii, shlV_ii, pw6, pw9, pw18, pw19, pw20, pw25, pw30, pw39, ltV_ii, leV_ii, gtV_ii, geV_ii, negV_i, isNV_n, isNV_t, isNV_l, isNV_i, isNV_s, isNV_r, isNV_b, notNV_n, notNV_t, notNV_l, notNV_i, notNV_s, notNV_r, notNV_b, ixV_t, ixV_l, ixV_r, lenV_t, lenV_l, lenV_r, absV_i, max2V_ii, min2V_ii, bitsV_i, setIV_r, setK_some, setL_some, appendM_r, appK_some, appN_ok, isT_r, isK_l, lstK_some, tyK_l, isT_s, isiV_eq, tyN_int, tyN_bl, tyN_non, tyN_str, tyN_tup, tyN_lst, tyN_dct, tyN_r, kk_int_bool, kitK_t, kk_int_str, kk_int_tuple, kk_int_list, kk_int_dict, kk_int_NoneType, kk_bool_int, kk_bool_str, kk_bool_tuple, kk_bool_list, kk_bool_dict, kk_bool_NoneType, kk_str_int, kk_str_bool, kk_str_tuple, kk_str_list, kk_str_dict, kk_str_NoneType, kk_tuple_int, kk_tuple_bool, kk_tuple_str, kk_tuple_list, kk_tuple_dict, kk_tuple_NoneType, kk_list_int, kk_list_bool, kk_list_str, kk_list_tuple, kk_list_dict, kk_list_NoneType, kk_dict_int, kk_dict_bool, kk_dict_str, kk_dict_tuple, kk_dict_list, kk_dict_NoneType, eqV_int, neV_int, isBV_b, neV_bl, eqV_bl, eqV_ii, neV_ii, isNV_fr, notNV_fr, ixV_fr0, ixV_fr1, eqV_fr, neV_fr, int1V_b, int1V_i, ixV_hp0, ixV_hp1, isNV_hp, eqV_hp, neV_hp, tyN_fr, lenV_fr, at0, at1, at2, at3, at4, at5, ixN0, ixN1, List.map_cons, List.map_nil, List.replicate, List.cons_append, List.nil_append, List.getElem?_cons_zero, List.getElem?_cons_succ, List.set_cons_zero, List.set_cons_succ, Bool.not_true, Bool.not_false, Bool.false_eq_true, if_true, if_false, ite_true, ite_false, reduceIte, Nat.reduceSub, Nat.reduceAdd, ne_eq, Int.cast_ofNat_Int, Int.reduceBEq, Int.reduceLT, Int.reduceLE, Int.reduceEq, Int.reduceNeg, Int.reduceMul, Int.reduceAdd, Int.reduceSub, decide_true, decide_false, List.length_cons, List.length_nil, beq_self_eq_true, not_false_eq_true, not_true_eq_false , gLenSet_eq, lsR_l, gCompN_eq, mkN_l, gCat2_eq, lstOf_l, insertM_r, extendM_r, gListRg_eq, gSlV_eq, slVK_s, gForM_eq, toSM_ok, gItM_eq, mkB_t, mkB_f, kk_list_list, kk_bool_bool, hc, blsOf_true, Option.map_some, allT_true]
    | _ => exact h.elim
theorem same_ok {n : Nat} {x : PV} {st : List SO} (h : Sm n x) (l : n ≤ 6) : F__law_same_2 [x, x] st = .ok (.bl true) st := same_rec 6 x st (Sm_le h l)

noncomputable def g_law_k54 (F__law_list : Fn) (F__law_pot : Fn) (F__law_cell_at : Fn) (F__law_rows : Fn) (F_steps_of : Fn) (F__law_same : Fn) : GS :=
  (gSeq (gFor (gRng1 (gBi max2V [(gC (.int 1)), (gBi min2V [(gBi lenV [(gVar 0)]), (gC (.int 8))])])) (tgName 1) (gSeq (gSet 2 (gCall F__law_list [(gCall F__law_pot [(gCall F__law_cell_at [(gVar 0), (gVar 1)])]), (gC (.int 9))]))
  (gSeq (gSet 3 (gCall F__law_rows [(gVar 2)]))
  (gSeq (gSet 4 (gRep (gNewE [(gC (.int 0))]) (gBi lenV [(gVar 2)])))
  (gSeq (gSet 5 (gListRgN (gBi lenV [(gVar 2)])))
  (gSeq (gSet 6 (gC (.int 0)))
  (gSeq (gWhile (fun _ => 300) (gB (gBin neV (gVar 5) (gLstE []))) (gSeq (gSet 6 (gBin addV (gVar 6) (gC (.int 1))))
  (gSeq (gSet 8 (gCompM false (gItM (gVar 5)) (tgName 9) (gNot (gB (gBi anyV [(gCompM false (gItM (gVar 5)) (tgName 11) gYes (gBin (inQ false) (gVar 9) (gBin ixV (gVar 3) (gVar 11))) [11])]))) (gVar 9) [9]))
  (gFor (gItL (gVar 8)) (tgName 9) (gSeq (gStore setIV (gVar 6) (gVar 4) (gVar 9))
  (gExpr (gMeth "list" removeM (gVar 5) [(gVar 9)])))))))
  (gFor (gRng1 (gC (.int 2))) (tgName 7) (gSeq (gSet 10 (gCall F_steps_of [(gVar 2)]))
  (gSeq (gIfS (gNot (gB (gLend F__law_same [(gVar 10), (gVar 4)]))) (gRet (gC (.bl false))) gSkip)
  (gExpr (gMeth "list" appendM (gVar 10) [(gC (.int 0))]))))))))))))
  (gRet (gC (.bl true))))
noncomputable def F_law_k54 : Fn := fun xs st => allR (g_law_k54 F__law_list F__law_pot F__law_cell_at F__law_rows F_steps_of F__law_same_2 (begin 12 1 xs) st)
theorem rch_lt {h k : Rat × Rat} (r : rch h k = true) : h.1 < k.1 := by
  rw [rch_eq, Bool.and_eq_true, Bool.not_eq_true', Bool.not_eq_true', decide_eq_false_iff_not, decide_eq_false_iff_not] at r
  obtain ⟨a, b⟩ := r
  by_cases c : h.1 < k.1
  · exact c
  · have ab0 : 0 ≤ ab (k.2 - h.2) := by unfold ab; split <;> grind
    have e : h.1 = k.1 := by grind
    refine absurd ⟨e, ?_⟩ a
    unfold ab at b ab0
    split at b <;> grind
/-- those that none that is left reaches -/
noncomputable def fsN (hs : List (Rat × Rat)) (L : List Nat) : List Nat := L.filter fun i => !(L.any fun j => rch (hat hs j) (hat hs i))
theorem low_in (f : Nat → Rat) : ∀ L : List Nat, L ≠ [] → ∃ i ∈ L, ∀ j ∈ L, f i ≤ f j
  | [], h => absurd rfl h
  | [a], _ => ⟨a, List.mem_cons_self, fun j hj => by rw [List.mem_singleton.mp hj]; grind⟩
  | a :: b :: l, _ => by
    obtain ⟨i, hi, h⟩ := low_in f (b :: l) (List.cons_ne_nil _ _)
    by_cases c : f a ≤ f i
    · refine ⟨a, List.mem_cons_self, fun j hj => ?_⟩
      rcases List.mem_cons.mp hj with q | q
      · rw [q]; grind
      · have := h j q; grind
    · refine ⟨i, List.mem_cons_of_mem _ hi, fun j hj => ?_⟩
      rcases List.mem_cons.mp hj with q | q
      · rw [q]; grind
      · exact h j q
theorem mem_fsN {hs : List (Rat × Rat)} {L : List Nat} {i : Nat} : i ∈ fsN hs L ↔ i ∈ L ∧ ∀ j ∈ L, rch (hat hs j) (hat hs i) = false := by
  unfold fsN
  rw [List.mem_filter, Bool.not_eq_true', List.any_eq_false]
  exact and_congr_right fun _ => forall_congr' fun j => imp_congr_right fun _ => by rw [Bool.not_eq_true]
theorem fsN_ne {hs : List (Rat × Rat)} {L : List Nat} (h : L ≠ []) : ∃ i, i ∈ fsN hs L := by
  obtain ⟨i, hi, lo⟩ := low_in (fun i => (hat hs i).1) L h
  refine ⟨i, mem_fsN.mpr ⟨hi, fun j hj => ?_⟩⟩
  cases r : rch (hat hs j) (hat hs i) with
  | false => rfl
  | true =>
    have := rch_lt r
    have := lo j hj
    grind
/-- peeled so far -/
structure Peel (hs : List (Rat × Rat)) (s : Nat) (f L : List Nat) : Prop where
  len : f.length = hs.length
  nd : L.Nodup
  inR : ∀ i ∈ L, i < hs.length
  sum : s + L.length ≤ hs.length
  a1 : ∀ i, i < hs.length → i ∉ L → 1 ≤ f.getD i 0 ∧ f.getD i 0 ≤ s
  a2 : ∀ i j, i < hs.length → j < hs.length → i ∉ L → rch (hat hs j) (hat hs i) = true → j ∉ L ∧ f.getD j 0 < f.getD i 0
  a3 : ∀ i, i < hs.length → i ∉ L → 1 < f.getD i 0 → ∃ j, j < hs.length ∧ rch (hat hs j) (hat hs i) = true ∧ f.getD j 0 + 1 = f.getD i 0
  a4 : ∀ i ∈ L, s = 0 ∨ ∃ j, j < hs.length ∧ rch (hat hs j) (hat hs i) = true ∧ (j ∈ L ∨ f.getD j 0 = s)
theorem pl_zero (hs : List (Rat × Rat)) : Peel hs 0 (List.replicate hs.length 0) (List.range hs.length) := ⟨List.length_replicate, List.nodup_range, fun i hi => List.mem_range.mp hi, by rw [List.length_range]; omega,
  fun i hi n => absurd (List.mem_range.mpr hi) n, fun i j hi _ n => absurd (List.mem_range.mpr hi) n, fun i hi n => absurd (List.mem_range.mpr hi) n, fun i _ => .inl rfl⟩
theorem pl_next {hs : List (Rat × Rat)} {s : Nat} {f f' L L' : List Nat} (p : Peel hs s f L) (ne : L ≠ []) (hl : f'.length = f.length) (hf : ∀ j, f'.getD j 0 = if j ∈ fsN hs L then s + 1 else f.getD j 0) (hL : L' = L.filter fun i => !(fsN hs L).contains i) : Peel hs (s + 1) f' L' := by
  have mL : ∀ i, i ∈ L' ↔ i ∈ L ∧ i ∉ fsN hs L := fun i => by
    rw [hL, List.mem_filter, Bool.not_eq_true', List.contains_eq_mem, decide_eq_false_iff_not]
  refine ⟨hl.trans p.len, ?_, fun i hi => p.inR i ((mL i).mp hi).1, ?_, fun i hi n => ?_, fun i j hi hj n r => ?_, fun i hi n h1 => ?_, fun i hi => ?_⟩
  · rw [hL]; exact p.nd.filter _
  · obtain ⟨i, hi⟩ := fsN_ne (hs := hs) ne
    have : (L.filter fun i => !(fsN hs L).contains i).length < L.length := List.length_filter_lt_length_iff_exists.mpr ⟨i, (mem_fsN.mp hi).1, by
      rw [List.contains_eq_mem, decide_eq_true hi]; simp⟩
    have := p.sum
    rw [hL]
    omega
  · rw [hf]
    by_cases c : i ∈ fsN hs L
    · rw [if_pos c]; omega
    · rw [if_neg c]
      have := p.a1 i hi fun h => n ((mL i).mpr ⟨h, c⟩)
      omega
  · by_cases c : i ∈ fsN hs L
    · have nj : j ∉ L := fun h => by
        have := (mem_fsN.mp c).2 j h
        rw [this] at r; cases r
      have nf : j ∉ fsN hs L := fun h => nj (mem_fsN.mp h).1
      refine ⟨fun h => nj ((mL j).mp h).1, ?_⟩
      rw [hf, hf, if_neg nf, if_pos c]
      have := p.a1 j hj nj
      omega
    · have ni : i ∉ L := fun h => n ((mL i).mpr ⟨h, c⟩)
      obtain ⟨nj, lt⟩ := p.a2 i j hi hj ni r
      have nf : j ∉ fsN hs L := fun h => nj (mem_fsN.mp h).1
      refine ⟨fun h => nj ((mL j).mp h).1, ?_⟩
      rw [hf, hf, if_neg nf, if_neg c]
      exact lt
  · by_cases c : i ∈ fsN hs L
    · rw [hf, if_pos c] at h1 ⊢
      obtain ⟨iL, no⟩ := mem_fsN.mp c
      rcases p.a4 i iL with h0 | ⟨j, hj, r, q⟩
      · omega
      · have nj : j ∉ L := fun h => by
          have := no j h
          rw [this] at r; cases r
        have nf : j ∉ fsN hs L := fun h => nj (mem_fsN.mp h).1
        refine ⟨j, hj, r, ?_⟩
        rw [hf, if_neg nf]
        rcases q with q | q
        · exact absurd q nj
        · rw [q]
    · have ni : i ∉ L := fun h => n ((mL i).mpr ⟨h, c⟩)
      rw [hf, if_neg c] at h1 ⊢
      obtain ⟨j, hj, r, e⟩ := p.a3 i hi ni h1
      have nf : j ∉ fsN hs L := fun h => (p.a2 i j hi hj ni r).1 (mem_fsN.mp h).1
      exact ⟨j, hj, r, by rw [hf, if_neg nf]; exact e⟩
  · obtain ⟨iL, c⟩ := (mL i).mp hi
    refine .inr ?_
    have : ∃ j ∈ L, rch (hat hs j) (hat hs i) = true := by
      refine Classical.byContradiction fun h => c (mem_fsN.mpr ⟨iL, fun j hj => ?_⟩)
      cases r : rch (hat hs j) (hat hs i) with
      | false => rfl
      | true => exact absurd ⟨j, hj, r⟩ h
    obtain ⟨j, hj, r⟩ := this
    refine ⟨j, p.inR j hj, r, ?_⟩
    by_cases cj : j ∈ fsN hs L
    · exact .inr (by rw [hf, if_pos cj])
    · exact .inl ((mL j).mpr ⟨hj, cj⟩)
theorem pl_end {hs : List (Rat × Rat)} {s : Nat} {f : List Nat} (p : Peel hs s f []) : Stp hs (fun j => f.getD j 0) ∧ f = (List.range hs.length).map fun j => f.getD j 0 := by
  have n : ∀ i : Nat, i ∉ ([] : List Nat) := fun i h => nomatch h
  have su : s ≤ hs.length := by have := p.sum; simpa using this
  refine ⟨⟨fun j hj => (p.a1 j hj (n j)).1, fun j hj => by have := (p.a1 j hj (n j)).2; show f.getD j 0 ≤ _; omega, fun i j hi hj r => (p.a2 j i hj hi (n j) r).2, fun j hj h => p.a3 j hj (n j) h⟩, ?_⟩
  refine List.ext_getElem? fun j => ?_
  rw [List.getElem?_map]
  by_cases c : j < hs.length
  · rw [List.getElem?_range c, List.getElem?_eq_getElem (by rw [p.len]; exact c)]
    show _ = some (f.getD j 0)
    rw [List.getD_eq_getElem?_getD, List.getElem?_eq_getElem (by rw [p.len]; exact c)]
    rfl
  · rw [List.getElem?_eq_none (by rw [p.len]; omega), List.getElem?_eq_none (by rw [List.length_range]; omega)]
    rfl
/-- the objects while peeling -/
def LS (st : List SO) (f L : List Nat) : List SO := st ++ [.lst [.int 0], .lst (pvN f), .lst (pvN L)]
theorem LS_due {st : List SO} {f L : List Nat} : (LS st f L)[st.length + 1]? = some (.lst (pvN f)) := by unfold LS; rw [new_at]; rfl
theorem LS_left {st : List SO} {f L : List Nat} : (LS st f L)[st.length + 2]? = some (.lst (pvN L)) := by unfold LS; rw [new_at]; rfl
theorem LS_sdue {st : List SO} {f g L : List Nat} : (LS st f L).set (st.length + 1) (.lst (pvN g)) = LS st g L := by
  unfold LS
  rw [List.set_append_right _ _ (by omega), show st.length + 1 - st.length = 1 by omega]
  rfl
theorem LS_sleft {st : List SO} {f L M : List Nat} : (LS st f L).set (st.length + 2) (.lst (pvN M)) = LS st f M := by
  unfold LS
  rw [List.set_append_right _ _ (by omega), show st.length + 2 - st.length = 2 by omega]
  rfl
noncomputable def pkI : GS := (gSeq (gStore setIV (gVar 6) (gVar 4) (gVar 9)) (gExpr (gMeth "list" removeM (gVar 5) [(gVar 9)])))
theorem pvN_is (L : List Nat) : pvN L = (L.map fun (k : Nat) => (k : Int)).map PV.int := by
  unfold pvN
  rw [List.map_map]
  rfl
theorem er_pvN {L : List Nat} {i : Nat} (nd : L.Nodup) : (((L.map fun (k : Nat) => (k : Int)).eraseIdx ((L.map fun (k : Nat) => (k : Int)).idxOf (i : Int))).map PV.int) = pvN (L.filter fun k => k != i) := by
  have nd2 : (L.map fun (k : Nat) => (k : Int)).Nodup := List.pairwise_map.mpr (nd.imp fun h e => h (by omega))
  rw [← List.erase_eq_eraseIdx_of_idxOf rfl, nd2.erase_eq_filter, List.filter_map, pvN_is]
  congr 2
  exact List.filter_congr fun k _ => by
    show (((k : Int)) != (i : Int)) = (k != i)
    by_cases c : k = i
    · subst c; simp
    · rw [bne_iff_ne.mpr c, bne_iff_ne.mpr (by omega)]
theorem pk_in {x0 x1 x2 x3 x7 x8 x10 x11 : Option PV} {st : List SO} {f L : List Nat} {s i : Nat} (nd : L.Nodup) (hi : i ∈ L) (hf : i < f.length) :
    pkI [x0, x1, x2, x3, some (.ref (st.length + 1)), some (.ref (st.length + 2)), some (.int (s : Int)), x7, x8, some (.int (i : Int)), x10, x11] (LS st f L) = .nx [x0, x1, x2, x3, some (.ref (st.length + 1)), some (.ref (st.length + 2)), some (.int (s : Int)), x7, x8, some (.int (i : Int)), x10, x11] (LS st (f.set i s) (L.filter fun k => k != i)) := by
  have g := LS_due (st := st) (f := f) (L := L)
  have g2 := LS_left (st := st) (f := f.set i s) (L := L)
  have ix := ixN_nat (n := (pvN f).length) (j := i) (by rw [pvN_len]; exact hf)
  have s1 := LS_sdue (st := st) (f := f) (g := f.set i s) (L := L)
  rw [← pvN_set] at s1
  have s2 := LS_sleft (st := st) (f := f.set i s) (L := L) (M := L.filter fun k => k != i)
  have rm := remK_s (st := LS st (f.set i s) L) (k := st.length + 2) (i := (i : Int)) (is := L.map fun (k : Nat) => (k : Int)) (List.mem_map.mpr ⟨i, hi, rfl⟩)
  rw [er_pvN nd, s2, ← pvN_is] at rm
  unfold pkI
  simp only [gSlN_eq, slN_r, slN_l, slNK_s, gRevN_eq, revN_r, revNK_s, tupleV_r, tupleV_l, gCallV_eq, gLend_eq, isNotBV_b, gRep_eq, repR_r, gZip_eq, zipR_t, zipR_l, gTry_eq, tryK_nx, tryK_ret, begin_eq, allR_nx, allR_ret, allR_exc, gSkip_eq, gSeq_eq, seqK_nx, seqK_ret, seqK_exc, toS_ok, toS_exc, toST_ok, toST_exc, toSL_ok, toSL_exc, gRet_eq, gAsg_eq, gSet_eq, gExpr_eq, gIfS_eq, gRaise_eq, gBin_eq, gUn_eq, gVar_eq, slotR_some, gC_eq, gArgs_nil, gArgs_cons, gTupE_eq, gLstE_eq, gNewE_eq, gCall_eq, gBi_eq, gB_eq, asB_bl, gAnd_eq, gOr_eq, gNot_eq, gVT_eq, gIf_eq, gChain_eq, chK_t, chK_f, chK_b, bnd_ok, bnd_exc, oo_some, gTo_eq, toK_some, tgName_eq, tgNil_eq, tgCons_eq, tgTup_eq, bind_some, gPar_eq, gCat_eq, catR_r, listV_t, listV_l, blsOf_nil, blsOf_cons, allV_l, isNV_d, notNV_d, parK_ok, parK_exc, gStore_eq, stK_some, gMeth_eq, gFor_eq, gRng1_eq, asI_i, gItL_eq, gItT_eq, asLst_l, asTup_t, addV_ii, subV_ii, mulV_ii, fdivV_ii, modV_ii, shlV_ii, pw6, pw9, pw18, pw19, pw20, pw25, pw30, pw39, ltV_ii, leV_ii, gtV_ii, geV_ii, negV_i, isNV_n, isNV_t, isNV_l, isNV_i, isNV_s, isNV_r, isNV_b, notNV_n, notNV_t, notNV_l, notNV_i, notNV_s, notNV_r, notNV_b, ixV_t, ixV_l, ixV_r, lenV_t, lenV_l, lenV_r, absV_i, max2V_ii, min2V_ii, bitsV_i, setIV_r, setK_some, setL_some, appendM_r, appK_some, appN_ok, isT_r, isK_l, lstK_some, tyK_l, isT_s, isiV_eq, tyN_int, tyN_bl, tyN_non, tyN_str, tyN_tup, tyN_lst, tyN_dct, tyN_r, kk_int_bool, kitK_t, kk_int_str, kk_int_tuple, kk_int_list, kk_int_dict, kk_int_NoneType, kk_bool_int, kk_bool_str, kk_bool_tuple, kk_bool_list, kk_bool_dict, kk_bool_NoneType, kk_str_int, kk_str_bool, kk_str_tuple, kk_str_list, kk_str_dict, kk_str_NoneType, kk_tuple_int, kk_tuple_bool, kk_tuple_str, kk_tuple_list, kk_tuple_dict, kk_tuple_NoneType, kk_list_int, kk_list_bool, kk_list_str, kk_list_tuple, kk_list_dict, kk_list_NoneType, kk_dict_int, kk_dict_bool, kk_dict_str, kk_dict_tuple, kk_dict_list, kk_dict_NoneType, eqV_int, neV_int, isBV_b, neV_bl, eqV_bl, eqV_ii, neV_ii, isNV_fr, notNV_fr, ixV_fr0, ixV_fr1, eqV_fr, neV_fr, int1V_b, int1V_i, ixV_hp0, ixV_hp1, isNV_hp, eqV_hp, neV_hp, tyN_fr, lenV_fr, at0, at1, at2, at3, at4, at5, ixN0, ixN1, List.map_cons, List.map_nil, List.replicate, List.cons_append, List.nil_append, List.getElem?_cons_zero, List.getElem?_cons_succ, List.set_cons_zero, List.set_cons_succ, Bool.not_true, Bool.not_false, Bool.false_eq_true, if_true, if_false, ite_true, ite_false, reduceIte, Nat.reduceSub, Nat.reduceAdd, ne_eq, Int.cast_ofNat_Int, Int.reduceBEq, Int.reduceLT, Int.reduceLE, Int.reduceEq, Int.reduceNeg, Int.reduceMul, Int.reduceAdd, Int.reduceSub, decide_true, decide_false, List.length_cons, List.length_nil, beq_self_eq_true, not_false_eq_true, not_true_eq_false , gLenSet_eq, lsR_l, gCompN_eq, mkN_l, gCat2_eq, lstOf_l, insertM_r, extendM_r, gListRg_eq, gSlV_eq, slVK_s, gForM_eq, toSM_ok, gItM_eq, mkB_t, mkB_f, g, ix, s1, removeM_r, g2, rm]
noncomputable def pkF : GS := (gFor (gItL (gVar 8)) (tgName 9) pkI)
theorem pk_for {x0 x1 x2 x3 x7 x9 x10 x11 : Option PV} {st : List SO} {f L F : List Nat} {s : Nat} (nd : L.Nodup) (hF : ∀ i ∈ F, i ∈ L) (nF : F.Nodup) (hf : ∀ i ∈ L, i < f.length) :
    ∃ f' y9, pkF [x0, x1, x2, x3, some (.ref (st.length + 1)), some (.ref (st.length + 2)), some (.int (s : Int)), x7, some (.lst (pvN F)), x9, x10, x11] (LS st f L) = .nx [x0, x1, x2, x3, some (.ref (st.length + 1)), some (.ref (st.length + 2)), some (.int (s : Int)), x7, some (.lst (pvN F)), y9, x10, x11] (LS st f' (L.filter fun i => !F.contains i)) ∧ f'.length = f.length ∧ ∀ j, f'.getD j 0 = if j ∈ F then s else f.getD j 0 := by
  obtain ⟨ρ', S', e, f', y9, rfl, rfl, l', h'⟩ := forg_idx (t := tgName 9) (b := pkI) (pvN F)
    (fun k ρ S => ∃ f' y9, ρ = [x0, x1, x2, x3, some (.ref (st.length + 1)), some (.ref (st.length + 2)), some (.int (s : Int)), x7, some (.lst (pvN F)), y9, x10, x11] ∧ S = LS st f' (L.filter fun i => !(F.take k).contains i) ∧ f'.length = f.length ∧ ∀ j, f'.getD j 0 = if j ∈ F.take k then s else f.getD j 0)
    [x0, x1, x2, x3, some (.ref (st.length + 1)), some (.ref (st.length + 2)), some (.int (s : Int)), x7, some (.lst (pvN F)), x9, x10, x11] (LS st f L) ⟨f, x9, rfl, by
      rw [List.take_zero, List.filter_eq_self.mpr]
      intro a _; rfl, rfl, fun j => by rw [List.take_zero, if_neg (fun h => nomatch h)]⟩ (by
    rintro k z ρ S hz ⟨f', y9, rfl, rfl, l', h'⟩
    unfold pvN at hz
    rw [List.getElem?_map] at hz
    obtain ⟨i, hi, rfl⟩ := Option.map_eq_some_iff.mp hz
    have hk := (List.getElem?_eq_some_iff.mp hi).1
    have tk : F.take (k + 1) = F.take k ++ [i] := by
      rw [List.take_add_one, hi]; rfl
    have iL := hF i (List.mem_of_getElem? hi)
    have nk : i ∉ F.take k := fun h => by
      have := nF
      rw [← List.take_append_drop (k + 1) F, tk] at this
      have := (List.nodup_append.mp this).1
      exact (List.nodup_append.mp this).2.2 i h i List.mem_cons_self rfl
    have m : i ∈ L.filter fun i => !(F.take k).contains i := List.mem_filter.mpr ⟨iL, by rw [List.contains_eq_mem, decide_eq_false nk]; rfl⟩
    have e := pk_in (x0 := x0) (x1 := x1) (x2 := x2) (x3 := x3) (x7 := x7) (x8 := some (.lst (pvN F))) (x10 := x10) (x11 := x11) (st := st) (f := f') (s := s) (nd.filter _) m (by rw [l']; exact hf i iL)
    refine ⟨_, _, _, rfl, e, f'.set i s, some (.int (i : Int)), rfl, ?_, by rw [List.length_set]; exact l', fun j => ?_⟩
    · rw [List.filter_filter]
      congr 1
      exact List.filter_congr fun a _ => by
        rw [List.contains_eq_mem, List.contains_eq_mem, tk]
        by_cases c : a = i
        · subst c
          rw [decide_eq_true (show a ∈ F.take k ++ [a] by simp)]
          simp
        · have : (a ∈ F.take k ++ [i]) ↔ a ∈ F.take k := by simp [c]
          rw [decide_eq_decide.mpr this]
          rw [bne_iff_ne.mpr c, Bool.true_and]
    · rw [getD_set (by rw [l']; exact hf i iL), h' j, tk]
      by_cases c : j = i
      · subst c
        rw [if_pos rfl, if_pos (by simp)]
      · rw [if_neg c]
        have : (j ∈ F.take k ++ [i]) ↔ j ∈ F.take k := by simp [c]
        by_cases cm : j ∈ F.take k
        · rw [if_pos cm, if_pos (this.mpr cm)]
        · rw [if_neg cm, if_neg fun h => cm (this.mp h)])
  rw [pvN_len, List.take_length] at e h'
  refine ⟨f', y9, ?_, l', h'⟩
  unfold pkF
  generalize pkI = P at *
  simp only [gSlN_eq, slN_r, slN_l, slNK_s, gRevN_eq, revN_r, revNK_s, tupleV_r, tupleV_l, gCallV_eq, gLend_eq, isNotBV_b, gRep_eq, repR_r, gZip_eq, zipR_t, zipR_l, gTry_eq, tryK_nx, tryK_ret, begin_eq, allR_nx, allR_ret, allR_exc, gSkip_eq, gSeq_eq, seqK_nx, seqK_ret, seqK_exc, toS_ok, toS_exc, toST_ok, toST_exc, toSL_ok, toSL_exc, gRet_eq, gAsg_eq, gSet_eq, gExpr_eq, gIfS_eq, gRaise_eq, gBin_eq, gUn_eq, gVar_eq, slotR_some, gC_eq, gArgs_nil, gArgs_cons, gTupE_eq, gLstE_eq, gNewE_eq, gCall_eq, gBi_eq, gB_eq, asB_bl, gAnd_eq, gOr_eq, gNot_eq, gVT_eq, gIf_eq, gChain_eq, chK_t, chK_f, chK_b, bnd_ok, bnd_exc, oo_some, gTo_eq, toK_some, tgName_eq, tgNil_eq, tgCons_eq, tgTup_eq, bind_some, gPar_eq, gCat_eq, catR_r, listV_t, listV_l, blsOf_nil, blsOf_cons, allV_l, isNV_d, notNV_d, parK_ok, parK_exc, gStore_eq, stK_some, gMeth_eq, gFor_eq, gRng1_eq, asI_i, gItL_eq, gItT_eq, asLst_l, asTup_t, addV_ii, subV_ii, mulV_ii, fdivV_ii, modV_ii, shlV_ii, pw6, pw9, pw18, pw19, pw20, pw25, pw30, pw39, ltV_ii, leV_ii, gtV_ii, geV_ii, negV_i, isNV_n, isNV_t, isNV_l, isNV_i, isNV_s, isNV_r, isNV_b, notNV_n, notNV_t, notNV_l, notNV_i, notNV_s, notNV_r, notNV_b, ixV_t, ixV_l, ixV_r, lenV_t, lenV_l, lenV_r, absV_i, max2V_ii, min2V_ii, bitsV_i, setIV_r, setK_some, setL_some, appendM_r, appK_some, appN_ok, isT_r, isK_l, lstK_some, tyK_l, isT_s, isiV_eq, tyN_int, tyN_bl, tyN_non, tyN_str, tyN_tup, tyN_lst, tyN_dct, tyN_r, kk_int_bool, kitK_t, kk_int_str, kk_int_tuple, kk_int_list, kk_int_dict, kk_int_NoneType, kk_bool_int, kk_bool_str, kk_bool_tuple, kk_bool_list, kk_bool_dict, kk_bool_NoneType, kk_str_int, kk_str_bool, kk_str_tuple, kk_str_list, kk_str_dict, kk_str_NoneType, kk_tuple_int, kk_tuple_bool, kk_tuple_str, kk_tuple_list, kk_tuple_dict, kk_tuple_NoneType, kk_list_int, kk_list_bool, kk_list_str, kk_list_tuple, kk_list_dict, kk_list_NoneType, kk_dict_int, kk_dict_bool, kk_dict_str, kk_dict_tuple, kk_dict_list, kk_dict_NoneType, eqV_int, neV_int, isBV_b, neV_bl, eqV_bl, eqV_ii, neV_ii, isNV_fr, notNV_fr, ixV_fr0, ixV_fr1, eqV_fr, neV_fr, int1V_b, int1V_i, ixV_hp0, ixV_hp1, isNV_hp, eqV_hp, neV_hp, tyN_fr, lenV_fr, at0, at1, at2, at3, at4, at5, ixN0, ixN1, List.map_cons, List.map_nil, List.replicate, List.cons_append, List.nil_append, List.getElem?_cons_zero, List.getElem?_cons_succ, List.set_cons_zero, List.set_cons_succ, Bool.not_true, Bool.not_false, Bool.false_eq_true, if_true, if_false, ite_true, ite_false, reduceIte, Nat.reduceSub, Nat.reduceAdd, ne_eq, Int.cast_ofNat_Int, Int.reduceBEq, Int.reduceLT, Int.reduceLE, Int.reduceEq, Int.reduceNeg, Int.reduceMul, Int.reduceAdd, Int.reduceSub, decide_true, decide_false, List.length_cons, List.length_nil, beq_self_eq_true, not_false_eq_true, not_true_eq_false , gLenSet_eq, lsR_l, gCompN_eq, mkN_l, gCat2_eq, lstOf_l, insertM_r, extendM_r, gListRg_eq, gSlV_eq, slVK_s, gForM_eq, toSM_ok, gItM_eq, mkB_t, mkB_f, gFor, e]
noncomputable def pkE : G := (gCompM false (gItM (gVar 5)) (tgName 9) (gNot (gB (gBi anyV [(gCompM false (gItM (gVar 5)) (tgName 11) gYes (gBin (inQ false) (gVar 9) (gBin ixV (gVar 3) (gVar 11))) [11])]))) (gVar 9) [9])
theorem in_row {hs : List (Rat × Rat)} {S : List SO} {i k : Nat} (hi : i < hs.length) : inQ false S (.int (i : Int)) (.lst (pvN (rowN hs k))) = some (.bl (rch (hat hs k) (hat hs i))) := by
  have q := inQ_int (neg := false) (st := S) (i := (i : Int)) (y := .lst (pvN (rowN hs k))) (ns := (rowN hs k).map fun (k : Nat) => (k : Int)) (by show some (pvN (rowN hs k)) = _; rw [pvN_is])
  have e : ((rowN hs k).map fun (k : Nat) => (k : Int)).any (fun y => y == (i : Int)) = rch (hat hs k) (hat hs i) := by
    rw [List.any_map]
    apply Bool.eq_iff_iff.mpr
    rw [List.any_eq_true]
    constructor
    · rintro ⟨y, hy, e⟩
      have e : (y : Int) = (i : Int) := beq_iff_eq.mp e
      have e : y = i := by omega
      subst e
      exact (List.mem_filter.mp hy).2
    · intro e
      exact ⟨i, List.mem_filter.mpr ⟨List.mem_range.mpr hi, e⟩, beq_iff_eq.mpr rfl⟩
  rw [if_neg Bool.false_ne_true, e] at q
  exact q
theorem pk_fs {x0 x1 x2 x4 x6 x7 x8 x9 x10 x11 : Option PV} {S : List SO} {hs : List (Rat × Rat)} {L : List Nat} {r : Nat} (g : S[r]? = some (.lst (pvN L))) (hL : ∀ i ∈ L, i < hs.length) (l60 : L.length ≤ 60) :
    pkE [x0, x1, x2, some (.lst (rowsP hs)), x4, some (.ref r), x6, x7, x8, x9, x10, x11] S = .ok (.lst (pvN (fsN hs L))) S := by
  have sl : Still r (pvN L) S := g
  have m := comp_mapM (c := (gNot (gB (gBi anyV [(gCompM false (gItM (gVar 5)) (tgName 11) gYes (gBin (inQ false) (gVar 9) (gBin ixV (gVar 3) (gVar 11))) [11])])))) (e := gVar 9) (t := tgName 9) (ρ := wipeR [x0, x1, x2, some (.lst (rowsP hs)), x4, some (.ref r), x6, x7, x8, x9, x10, x11] [9]) (st := S) sl (fun z => z) (fun z => match z with | .int i => !(L.any fun j => rch (hat hs j) (hat hs i.toNat)) | _ => false) (pvN L) fun z hz => by
    unfold pvN at hz
    obtain ⟨i, hi, rfl⟩ := List.mem_map.mp hz
    have hi2 := hL i hi
    refine ⟨_, rfl, ?_, fun _ => rfl⟩
    show _ = Res.ok (!(L.any fun j => rch (hat hs j) (hat hs ((i : Nat) : Int).toNat))) S
    rw [Int.toNat_natCast]
    have m2 := comp_mapM (c := gYes) (e := (gBin (inQ false) (gVar 9) (gBin ixV (gVar 3) (gVar 11)))) (t := tgName 11) (ρ := wipeR [x0, x1, x2, some (.lst (rowsP hs)), x4, some (.ref r), x6, x7, x8, some (.int (i : Int)), x10, x11] [11]) (st := S) sl (fun z => match z with | .int j => .bl (rch (hat hs j.toNat) (hat hs i)) | _ => .non) (fun _ => true) (pvN L) fun z hz => by
      unfold pvN at hz
      obtain ⟨j, hj, rfl⟩ := List.mem_map.mp hz
      have a := at_rowP (hL j hj)
      have q := in_row (hs := hs) (S := S) (k := j) hi2
      refine ⟨_, rfl, rfl, fun _ => ?_⟩
      show _ = Res.ok (PV.bl (rch (hat hs ((j : Nat) : Int).toNat) (hat hs i))) S
      rw [Int.toNat_natCast]
      simp only [gSlN_eq, slN_r, slN_l, slNK_s, gRevN_eq, revN_r, revNK_s, tupleV_r, tupleV_l, gCallV_eq, gLend_eq, isNotBV_b, gRep_eq, repR_r, gZip_eq, zipR_t, zipR_l, gTry_eq, tryK_nx, tryK_ret, begin_eq, allR_nx, allR_ret, allR_exc, gSkip_eq, gSeq_eq, seqK_nx, seqK_ret, seqK_exc, toS_ok, toS_exc, toST_ok, toST_exc, toSL_ok, toSL_exc, gRet_eq, gAsg_eq, gSet_eq, gExpr_eq, gIfS_eq, gRaise_eq, gBin_eq, gUn_eq, gVar_eq, slotR_some, gC_eq, gArgs_nil, gArgs_cons, gTupE_eq, gLstE_eq, gNewE_eq, gCall_eq, gBi_eq, gB_eq, asB_bl, gAnd_eq, gOr_eq, gNot_eq, gVT_eq, gIf_eq, gChain_eq, chK_t, chK_f, chK_b, bnd_ok, bnd_exc, oo_some, gTo_eq, toK_some, tgName_eq, tgNil_eq, tgCons_eq, tgTup_eq, bind_some, gPar_eq, gCat_eq, catR_r, listV_t, listV_l, blsOf_nil, blsOf_cons, allV_l, isNV_d, notNV_d, parK_ok, parK_exc, gStore_eq, stK_some, gMeth_eq, gFor_eq, gRng1_eq, asI_i, gItL_eq, gItT_eq, asLst_l, asTup_t, addV_ii, subV_ii, mulV_ii, fdivV_ii, modV_ii, shlV_ii, pw6, pw9, pw18, pw19, pw20, pw25, pw30, pw39, ltV_ii, leV_ii, gtV_ii, geV_ii, negV_i, isNV_n, isNV_t, isNV_l, isNV_i, isNV_s, isNV_r, isNV_b, notNV_n, notNV_t, notNV_l, notNV_i, notNV_s, notNV_r, notNV_b, ixV_t, ixV_l, ixV_r, lenV_t, lenV_l, lenV_r, absV_i, max2V_ii, min2V_ii, bitsV_i, setIV_r, setK_some, setL_some, appendM_r, appK_some, appN_ok, isT_r, isK_l, lstK_some, tyK_l, isT_s, isiV_eq, tyN_int, tyN_bl, tyN_non, tyN_str, tyN_tup, tyN_lst, tyN_dct, tyN_r, kk_int_bool, kitK_t, kk_int_str, kk_int_tuple, kk_int_list, kk_int_dict, kk_int_NoneType, kk_bool_int, kk_bool_str, kk_bool_tuple, kk_bool_list, kk_bool_dict, kk_bool_NoneType, kk_str_int, kk_str_bool, kk_str_tuple, kk_str_list, kk_str_dict, kk_str_NoneType, kk_tuple_int, kk_tuple_bool, kk_tuple_str, kk_tuple_list, kk_tuple_dict, kk_tuple_NoneType, kk_list_int, kk_list_bool, kk_list_str, kk_list_tuple, kk_list_dict, kk_list_NoneType, kk_dict_int, kk_dict_bool, kk_dict_str, kk_dict_tuple, kk_dict_list, kk_dict_NoneType, eqV_int, neV_int, isBV_b, neV_bl, eqV_bl, eqV_ii, neV_ii, isNV_fr, notNV_fr, ixV_fr0, ixV_fr1, eqV_fr, neV_fr, int1V_b, int1V_i, ixV_hp0, ixV_hp1, isNV_hp, eqV_hp, neV_hp, tyN_fr, lenV_fr, at0, at1, at2, at3, at4, at5, ixN0, ixN1, List.map_cons, List.map_nil, List.replicate, List.cons_append, List.nil_append, List.getElem?_cons_zero, List.getElem?_cons_succ, List.set_cons_zero, List.set_cons_succ, Bool.not_true, Bool.not_false, Bool.false_eq_true, if_true, if_false, ite_true, ite_false, reduceIte, Nat.reduceSub, Nat.reduceAdd, ne_eq, Int.cast_ofNat_Int, Int.reduceBEq, Int.reduceLT, Int.reduceLE, Int.reduceEq, Int.reduceNeg, Int.reduceMul, Int.reduceAdd, Int.reduceSub, decide_true, decide_false, List.length_cons, List.length_nil, beq_self_eq_true, not_false_eq_true, not_true_eq_false , gLenSet_eq, lsR_l, gCompN_eq, mkN_l, gCat2_eq, lstOf_l, insertM_r, extendM_r, gListRg_eq, gSlV_eq, slVK_s, gForM_eq, toSM_ok, gItM_eq, mkB_t, mkB_f, wipeR, a, q]
    rw [List.filter_eq_self.mpr (fun _ _ => rfl)] at m2
    have fl : (pvN L).map (fun z => match z with | PV.int j => PV.bl (rch (hat hs j.toNat) (hat hs i)) | _ => .non) = L.map fun j => PV.bl (rch (hat hs j) (hat hs i)) := by
      unfold pvN
      rw [List.map_map]
      exact List.map_congr_left fun j _ => by
        show PV.bl (rch (hat hs ((j : Nat) : Int).toNat) (hat hs i)) = _
        rw [Int.toNat_natCast]
    rw [fl] at m2
    have gc := gCompM_ok (nw := false) (it := gItM (gVar 5)) (vs := [11]) (ρ := [x0, x1, x2, some (.lst (rowsP hs)), x4, some (.ref r), x6, x7, x8, some (.int (i : Int)), x10, x11]) (st := S) (by simp only [gSlN_eq, slN_r, slN_l, slNK_s, gRevN_eq, revN_r, revNK_s, tupleV_r, tupleV_l, gCallV_eq, gLend_eq, isNotBV_b, gRep_eq, repR_r, gZip_eq, zipR_t, zipR_l, gTry_eq, tryK_nx, tryK_ret, begin_eq, allR_nx, allR_ret, allR_exc, gSkip_eq, gSeq_eq, seqK_nx, seqK_ret, seqK_exc, toS_ok, toS_exc, toST_ok, toST_exc, toSL_ok, toSL_exc, gRet_eq, gAsg_eq, gSet_eq, gExpr_eq, gIfS_eq, gRaise_eq, gBin_eq, gUn_eq, gVar_eq, slotR_some, gC_eq, gArgs_nil, gArgs_cons, gTupE_eq, gLstE_eq, gNewE_eq, gCall_eq, gBi_eq, gB_eq, asB_bl, gAnd_eq, gOr_eq, gNot_eq, gVT_eq, gIf_eq, gChain_eq, chK_t, chK_f, chK_b, bnd_ok, bnd_exc, oo_some, gTo_eq, toK_some, tgName_eq, tgNil_eq, tgCons_eq, tgTup_eq, bind_some, gPar_eq, gCat_eq, catR_r, listV_t, listV_l, blsOf_nil, blsOf_cons, allV_l, isNV_d, notNV_d, parK_ok, parK_exc, gStore_eq, stK_some, gMeth_eq, gFor_eq, gRng1_eq, asI_i, gItL_eq, gItT_eq, asLst_l, asTup_t, addV_ii, subV_ii, mulV_ii, fdivV_ii, modV_ii, shlV_ii, pw6, pw9, pw18, pw19, pw20, pw25, pw30, pw39, ltV_ii, leV_ii, gtV_ii, geV_ii, negV_i, isNV_n, isNV_t, isNV_l, isNV_i, isNV_s, isNV_r, isNV_b, notNV_n, notNV_t, notNV_l, notNV_i, notNV_s, notNV_r, notNV_b, ixV_t, ixV_l, ixV_r, lenV_t, lenV_l, lenV_r, absV_i, max2V_ii, min2V_ii, bitsV_i, setIV_r, setK_some, setL_some, appendM_r, appK_some, appN_ok, isT_r, isK_l, lstK_some, tyK_l, isT_s, isiV_eq, tyN_int, tyN_bl, tyN_non, tyN_str, tyN_tup, tyN_lst, tyN_dct, tyN_r, kk_int_bool, kitK_t, kk_int_str, kk_int_tuple, kk_int_list, kk_int_dict, kk_int_NoneType, kk_bool_int, kk_bool_str, kk_bool_tuple, kk_bool_list, kk_bool_dict, kk_bool_NoneType, kk_str_int, kk_str_bool, kk_str_tuple, kk_str_list, kk_str_dict, kk_str_NoneType, kk_tuple_int, kk_tuple_bool, kk_tuple_str, kk_tuple_list, kk_tuple_dict, kk_tuple_NoneType, kk_list_int, kk_list_bool, kk_list_str, kk_list_tuple, kk_list_dict, kk_list_NoneType, kk_dict_int, kk_dict_bool, kk_dict_str, kk_dict_tuple, kk_dict_list, kk_dict_NoneType, eqV_int, neV_int, isBV_b, neV_bl, eqV_bl, eqV_ii, neV_ii, isNV_fr, notNV_fr, ixV_fr0, ixV_fr1, eqV_fr, neV_fr, int1V_b, int1V_i, ixV_hp0, ixV_hp1, isNV_hp, eqV_hp, neV_hp, tyN_fr, lenV_fr, at0, at1, at2, at3, at4, at5, ixN0, ixN1, List.map_cons, List.map_nil, List.replicate, List.cons_append, List.nil_append, List.getElem?_cons_zero, List.getElem?_cons_succ, List.set_cons_zero, List.set_cons_succ, Bool.not_true, Bool.not_false, Bool.false_eq_true, if_true, if_false, ite_true, ite_false, reduceIte, Nat.reduceSub, Nat.reduceAdd, ne_eq, Int.cast_ofNat_Int, Int.reduceBEq, Int.reduceLT, Int.reduceLE, Int.reduceEq, Int.reduceNeg, Int.reduceMul, Int.reduceAdd, Int.reduceSub, decide_true, decide_false, List.length_cons, List.length_nil, beq_self_eq_true, not_false_eq_true, not_true_eq_false , gLenSet_eq, lsR_l, gCompN_eq, mkN_l, gCat2_eq, lstOf_l, insertM_r, extendM_r, gListRg_eq, gSlV_eq, slVK_s, gForM_eq, toSM_ok, gItM_eq, mkB_t, mkB_f, gItM_eq, itMK_r g]) m2 (lenOk_small (by rw [List.length_map]; omega))
    rw [mkB_f] at gc
    have bl := blsOf_mapg (fun j => rch (hat hs j) (hat hs i)) L
    have an : (L.map fun j => rch (hat hs j) (hat hs i)).any id = L.any fun j => rch (hat hs j) (hat hs i) := by
      rw [List.any_map]; rfl
    have gc : gCompM false (gItM (gVar 5)) (tgName 11) gYes (gBin (inQ false) (gVar 9) (gBin ixV (gVar 3) (gVar 11))) [11] [x0, x1, x2, some (.lst (rowsP hs)), x4, some (.ref r), x6, x7, x8, some (.int (i : Int)), x10, x11] S = _ := gc
    generalize gCompM false (gItM (gVar 5)) (tgName 11) gYes (gBin (inQ false) (gVar 9) (gBin ixV (gVar 3) (gVar 11))) [11] = GC at *
    show gNot _ [x0, x1, x2, some (.lst (rowsP hs)), x4, some (.ref r), x6, x7, x8, some (.int (i : Int)), x10, x11] S = _
    simp only [gSlN_eq, slN_r, slN_l, slNK_s, gRevN_eq, revN_r, revNK_s, tupleV_r, tupleV_l, gCallV_eq, gLend_eq, isNotBV_b, gRep_eq, repR_r, gZip_eq, zipR_t, zipR_l, gTry_eq, tryK_nx, tryK_ret, begin_eq, allR_nx, allR_ret, allR_exc, gSkip_eq, gSeq_eq, seqK_nx, seqK_ret, seqK_exc, toS_ok, toS_exc, toST_ok, toST_exc, toSL_ok, toSL_exc, gRet_eq, gAsg_eq, gSet_eq, gExpr_eq, gIfS_eq, gRaise_eq, gBin_eq, gUn_eq, gVar_eq, slotR_some, gC_eq, gArgs_nil, gArgs_cons, gTupE_eq, gLstE_eq, gNewE_eq, gCall_eq, gBi_eq, gB_eq, asB_bl, gAnd_eq, gOr_eq, gNot_eq, gVT_eq, gIf_eq, gChain_eq, chK_t, chK_f, chK_b, bnd_ok, bnd_exc, oo_some, gTo_eq, toK_some, tgName_eq, tgNil_eq, tgCons_eq, tgTup_eq, bind_some, gPar_eq, gCat_eq, catR_r, listV_t, listV_l, blsOf_nil, blsOf_cons, allV_l, isNV_d, notNV_d, parK_ok, parK_exc, gStore_eq, stK_some, gMeth_eq, gFor_eq, gRng1_eq, asI_i, gItL_eq, gItT_eq, asLst_l, asTup_t, addV_ii, subV_ii, mulV_ii, fdivV_ii, modV_ii, shlV_ii, pw6, pw9, pw18, pw19, pw20, pw25, pw30, pw39, ltV_ii, leV_ii, gtV_ii, geV_ii, negV_i, isNV_n, isNV_t, isNV_l, isNV_i, isNV_s, isNV_r, isNV_b, notNV_n, notNV_t, notNV_l, notNV_i, notNV_s, notNV_r, notNV_b, ixV_t, ixV_l, ixV_r, lenV_t, lenV_l, lenV_r, absV_i, max2V_ii, min2V_ii, bitsV_i, setIV_r, setK_some, setL_some, appendM_r, appK_some, appN_ok, isT_r, isK_l, lstK_some, tyK_l, isT_s, isiV_eq, tyN_int, tyN_bl, tyN_non, tyN_str, tyN_tup, tyN_lst, tyN_dct, tyN_r, kk_int_bool, kitK_t, kk_int_str, kk_int_tuple, kk_int_list, kk_int_dict, kk_int_NoneType, kk_bool_int, kk_bool_str, kk_bool_tuple, kk_bool_list, kk_bool_dict, kk_bool_NoneType, kk_str_int, kk_str_bool, kk_str_tuple, kk_str_list, kk_str_dict, kk_str_NoneType, kk_tuple_int, kk_tuple_bool, kk_tuple_str, kk_tuple_list, kk_tuple_dict, kk_tuple_NoneType, kk_list_int, kk_list_bool, kk_list_str, kk_list_tuple, kk_list_dict, kk_list_NoneType, kk_dict_int, kk_dict_bool, kk_dict_str, kk_dict_tuple, kk_dict_list, kk_dict_NoneType, eqV_int, neV_int, isBV_b, neV_bl, eqV_bl, eqV_ii, neV_ii, isNV_fr, notNV_fr, ixV_fr0, ixV_fr1, eqV_fr, neV_fr, int1V_b, int1V_i, ixV_hp0, ixV_hp1, isNV_hp, eqV_hp, neV_hp, tyN_fr, lenV_fr, at0, at1, at2, at3, at4, at5, ixN0, ixN1, List.map_cons, List.map_nil, List.replicate, List.cons_append, List.nil_append, List.getElem?_cons_zero, List.getElem?_cons_succ, List.set_cons_zero, List.set_cons_succ, Bool.not_true, Bool.not_false, Bool.false_eq_true, if_true, if_false, ite_true, ite_false, reduceIte, Nat.reduceSub, Nat.reduceAdd, ne_eq, Int.cast_ofNat_Int, Int.reduceBEq, Int.reduceLT, Int.reduceLE, Int.reduceEq, Int.reduceNeg, Int.reduceMul, Int.reduceAdd, Int.reduceSub, decide_true, decide_false, List.length_cons, List.length_nil, beq_self_eq_true, not_false_eq_true, not_true_eq_false , gLenSet_eq, lsR_l, gCompN_eq, mkN_l, gCat2_eq, lstOf_l, insertM_r, extendM_r, gListRg_eq, gSlV_eq, slVK_s, gForM_eq, toSM_ok, gItM_eq, mkB_t, mkB_f, gc, anyV_l, bl, Option.map_some, an]
  have fe : ((pvN L).filter (fun z => match z with | PV.int i => !(L.any fun j => rch (hat hs j) (hat hs i.toNat)) | _ => false)).map (fun z => z) = pvN (fsN hs L) := by
    rw [List.map_id', filter_pvN']
    unfold fsN
    congr 1
  rw [fe] at m
  have fl : (fsN hs L).length ≤ L.length := List.length_filter_le ..
  have gc := gCompM_ok (nw := false) (it := gItM (gVar 5)) (vs := [9]) (ρ := [x0, x1, x2, some (.lst (rowsP hs)), x4, some (.ref r), x6, x7, x8, x9, x10, x11]) (st := S) (by simp only [gSlN_eq, slN_r, slN_l, slNK_s, gRevN_eq, revN_r, revNK_s, tupleV_r, tupleV_l, gCallV_eq, gLend_eq, isNotBV_b, gRep_eq, repR_r, gZip_eq, zipR_t, zipR_l, gTry_eq, tryK_nx, tryK_ret, begin_eq, allR_nx, allR_ret, allR_exc, gSkip_eq, gSeq_eq, seqK_nx, seqK_ret, seqK_exc, toS_ok, toS_exc, toST_ok, toST_exc, toSL_ok, toSL_exc, gRet_eq, gAsg_eq, gSet_eq, gExpr_eq, gIfS_eq, gRaise_eq, gBin_eq, gUn_eq, gVar_eq, slotR_some, gC_eq, gArgs_nil, gArgs_cons, gTupE_eq, gLstE_eq, gNewE_eq, gCall_eq, gBi_eq, gB_eq, asB_bl, gAnd_eq, gOr_eq, gNot_eq, gVT_eq, gIf_eq, gChain_eq, chK_t, chK_f, chK_b, bnd_ok, bnd_exc, oo_some, gTo_eq, toK_some, tgName_eq, tgNil_eq, tgCons_eq, tgTup_eq, bind_some, gPar_eq, gCat_eq, catR_r, listV_t, listV_l, blsOf_nil, blsOf_cons, allV_l, isNV_d, notNV_d, parK_ok, parK_exc, gStore_eq, stK_some, gMeth_eq, gFor_eq, gRng1_eq, asI_i, gItL_eq, gItT_eq, asLst_l, asTup_t, addV_ii, subV_ii, mulV_ii, fdivV_ii, modV_ii, shlV_ii, pw6, pw9, pw18, pw19, pw20, pw25, pw30, pw39, ltV_ii, leV_ii, gtV_ii, geV_ii, negV_i, isNV_n, isNV_t, isNV_l, isNV_i, isNV_s, isNV_r, isNV_b, notNV_n, notNV_t, notNV_l, notNV_i, notNV_s, notNV_r, notNV_b, ixV_t, ixV_l, ixV_r, lenV_t, lenV_l, lenV_r, absV_i, max2V_ii, min2V_ii, bitsV_i, setIV_r, setK_some, setL_some, appendM_r, appK_some, appN_ok, isT_r, isK_l, lstK_some, tyK_l, isT_s, isiV_eq, tyN_int, tyN_bl, tyN_non, tyN_str, tyN_tup, tyN_lst, tyN_dct, tyN_r, kk_int_bool, kitK_t, kk_int_str, kk_int_tuple, kk_int_list, kk_int_dict, kk_int_NoneType, kk_bool_int, kk_bool_str, kk_bool_tuple, kk_bool_list, kk_bool_dict, kk_bool_NoneType, kk_str_int, kk_str_bool, kk_str_tuple, kk_str_list, kk_str_dict, kk_str_NoneType, kk_tuple_int, kk_tuple_bool, kk_tuple_str, kk_tuple_list, kk_tuple_dict, kk_tuple_NoneType, kk_list_int, kk_list_bool, kk_list_str, kk_list_tuple, kk_list_dict, kk_list_NoneType, kk_dict_int, kk_dict_bool, kk_dict_str, kk_dict_tuple, kk_dict_list, kk_dict_NoneType, eqV_int, neV_int, isBV_b, neV_bl, eqV_bl, eqV_ii, neV_ii, isNV_fr, notNV_fr, ixV_fr0, ixV_fr1, eqV_fr, neV_fr, int1V_b, int1V_i, ixV_hp0, ixV_hp1, isNV_hp, eqV_hp, neV_hp, tyN_fr, lenV_fr, at0, at1, at2, at3, at4, at5, ixN0, ixN1, List.map_cons, List.map_nil, List.replicate, List.cons_append, List.nil_append, List.getElem?_cons_zero, List.getElem?_cons_succ, List.set_cons_zero, List.set_cons_succ, Bool.not_true, Bool.not_false, Bool.false_eq_true, if_true, if_false, ite_true, ite_false, reduceIte, Nat.reduceSub, Nat.reduceAdd, ne_eq, Int.cast_ofNat_Int, Int.reduceBEq, Int.reduceLT, Int.reduceLE, Int.reduceEq, Int.reduceNeg, Int.reduceMul, Int.reduceAdd, Int.reduceSub, decide_true, decide_false, List.length_cons, List.length_nil, beq_self_eq_true, not_false_eq_true, not_true_eq_false , gLenSet_eq, lsR_l, gCompN_eq, mkN_l, gCat2_eq, lstOf_l, insertM_r, extendM_r, gListRg_eq, gSlV_eq, slVK_s, gForM_eq, toSM_ok, gItM_eq, mkB_t, mkB_f, gItM_eq, itMK_r g]) m (lenOk_small (by rw [pvN_len]; omega))
  rw [mkB_f] at gc
  exact gc
noncomputable def pkW : GS := (gSeq (gSet 6 (gBin addV (gVar 6) (gC (.int 1)))) (gSeq (gSet 8 pkE) pkF))
noncomputable def pkC : GT := (gB (gBin neV (gVar 5) (gLstE [])))
theorem pk_while {x0 x1 x2 x7 x10 x11 : Option PV} {st : List SO} {hs : List (Rat × Rat)} (l60 : hs.length ≤ 60) : ∀ (fuel s : Nat) (f L : List Nat) (x8 x9 : Option PV), Peel hs s f L → L.length < fuel →
    ∃ (s' : Nat) (f' : List Nat) (y8 y9 : Option PV), whl pkC pkW fuel [x0, x1, x2, some (.lst (rowsP hs)), some (.ref (st.length + 1)), some (.ref (st.length + 2)), some (.int (s : Int)), x7, x8, x9, x10, x11] (LS st f L) = .nx [x0, x1, x2, some (.lst (rowsP hs)), some (.ref (st.length + 1)), some (.ref (st.length + 2)), some (.int (s' : Int)), x7, y8, y9, x10, x11] (LS st f' []) ∧ Peel hs s' f' []
  | 0, _, _, _, _, _, _, h => absurd h (Nat.not_lt_zero _)
  | fuel + 1, s, f, L, x8, x9, p, h => by
    have g := LS_left (st := st) (f := f) (L := L)
    have dx : de (LS st f L) (.ref (st.length + 2)) = .lst (pvN L) := by
      unfold de
      simp only [g]
    by_cases ne : L = []
    · have d := dat_nat.list.neV_f (by omega) (st := LS st f L) (x := .ref (st.length + 2)) (y := .lst []) (a := L) (b := []) dx rfl ne
      have c : pkC [x0, x1, x2, some (.lst (rowsP hs)), some (.ref (st.length + 1)), some (.ref (st.length + 2)), some (.int (s : Int)), x7, x8, x9, x10, x11] (LS st f L) = .ok false (LS st f L) := by
        unfold pkC
        simp only [gSlN_eq, slN_r, slN_l, slNK_s, gRevN_eq, revN_r, revNK_s, tupleV_r, tupleV_l, gCallV_eq, gLend_eq, isNotBV_b, gRep_eq, repR_r, gZip_eq, zipR_t, zipR_l, gTry_eq, tryK_nx, tryK_ret, begin_eq, allR_nx, allR_ret, allR_exc, gSkip_eq, gSeq_eq, seqK_nx, seqK_ret, seqK_exc, toS_ok, toS_exc, toST_ok, toST_exc, toSL_ok, toSL_exc, gRet_eq, gAsg_eq, gSet_eq, gExpr_eq, gIfS_eq, gRaise_eq, gBin_eq, gUn_eq, gVar_eq, slotR_some, gC_eq, gArgs_nil, gArgs_cons, gTupE_eq, gLstE_eq, gNewE_eq, gCall_eq, gBi_eq, gB_eq, asB_bl, gAnd_eq, gOr_eq, gNot_eq, gVT_eq, gIf_eq, gChain_eq, chK_t, chK_f, chK_b, bnd_ok, bnd_exc, oo_some, gTo_eq, toK_some, tgName_eq, tgNil_eq, tgCons_eq, tgTup_eq, bind_some, gPar_eq, gCat_eq, catR_r, listV_t, listV_l, blsOf_nil, blsOf_cons, allV_l, isNV_d, notNV_d, parK_ok, parK_exc, gStore_eq, stK_some, gMeth_eq, gFor_eq, gRng1_eq, asI_i, gItL_eq, gItT_eq, asLst_l, asTup_t, addV_ii, subV_ii, mulV_ii, fdivV_ii, modV_ii, shlV_ii, pw6, pw9, pw18, pw19, pw20, pw25, pw30, pw39, ltV_ii, leV_ii, gtV_ii, geV_ii, negV_i, isNV_n, isNV_t, isNV_l, isNV_i, isNV_s, isNV_r, isNV_b, notNV_n, notNV_t, notNV_l, notNV_i, notNV_s, notNV_r, notNV_b, ixV_t, ixV_l, ixV_r, lenV_t, lenV_l, lenV_r, absV_i, max2V_ii, min2V_ii, bitsV_i, setIV_r, setK_some, setL_some, appendM_r, appK_some, appN_ok, isT_r, isK_l, lstK_some, tyK_l, isT_s, isiV_eq, tyN_int, tyN_bl, tyN_non, tyN_str, tyN_tup, tyN_lst, tyN_dct, tyN_r, kk_int_bool, kitK_t, kk_int_str, kk_int_tuple, kk_int_list, kk_int_dict, kk_int_NoneType, kk_bool_int, kk_bool_str, kk_bool_tuple, kk_bool_list, kk_bool_dict, kk_bool_NoneType, kk_str_int, kk_str_bool, kk_str_tuple, kk_str_list, kk_str_dict, kk_str_NoneType, kk_tuple_int, kk_tuple_bool, kk_tuple_str, kk_tuple_list, kk_tuple_dict, kk_tuple_NoneType, kk_list_int, kk_list_bool, kk_list_str, kk_list_tuple, kk_list_dict, kk_list_NoneType, kk_dict_int, kk_dict_bool, kk_dict_str, kk_dict_tuple, kk_dict_list, kk_dict_NoneType, eqV_int, neV_int, isBV_b, neV_bl, eqV_bl, eqV_ii, neV_ii, isNV_fr, notNV_fr, ixV_fr0, ixV_fr1, eqV_fr, neV_fr, int1V_b, int1V_i, ixV_hp0, ixV_hp1, isNV_hp, eqV_hp, neV_hp, tyN_fr, lenV_fr, at0, at1, at2, at3, at4, at5, ixN0, ixN1, List.map_cons, List.map_nil, List.replicate, List.cons_append, List.nil_append, List.getElem?_cons_zero, List.getElem?_cons_succ, List.set_cons_zero, List.set_cons_succ, Bool.not_true, Bool.not_false, Bool.false_eq_true, if_true, if_false, ite_true, ite_false, reduceIte, Nat.reduceSub, Nat.reduceAdd, ne_eq, Int.cast_ofNat_Int, Int.reduceBEq, Int.reduceLT, Int.reduceLE, Int.reduceEq, Int.reduceNeg, Int.reduceMul, Int.reduceAdd, Int.reduceSub, decide_true, decide_false, List.length_cons, List.length_nil, beq_self_eq_true, not_false_eq_true, not_true_eq_false , gLenSet_eq, lsR_l, gCompN_eq, mkN_l, gCat2_eq, lstOf_l, insertM_r, extendM_r, gListRg_eq, gSlV_eq, slVK_s, gForM_eq, toSM_ok, gItM_eq, mkB_t, mkB_f, d]
      refine ⟨s, f, x8, x9, ?_, ne ▸ p⟩
      rw [whl_succ, c, ne]
      rfl
    · have d := dat_nat.list.neV_t (by omega) (st := LS st f L) (x := .ref (st.length + 2)) (y := .lst []) (a := L) (b := []) dx rfl ne
      have c : pkC [x0, x1, x2, some (.lst (rowsP hs)), some (.ref (st.length + 1)), some (.ref (st.length + 2)), some (.int (s : Int)), x7, x8, x9, x10, x11] (LS st f L) = .ok true (LS st f L) := by
        unfold pkC
        simp only [gSlN_eq, slN_r, slN_l, slNK_s, gRevN_eq, revN_r, revNK_s, tupleV_r, tupleV_l, gCallV_eq, gLend_eq, isNotBV_b, gRep_eq, repR_r, gZip_eq, zipR_t, zipR_l, gTry_eq, tryK_nx, tryK_ret, begin_eq, allR_nx, allR_ret, allR_exc, gSkip_eq, gSeq_eq, seqK_nx, seqK_ret, seqK_exc, toS_ok, toS_exc, toST_ok, toST_exc, toSL_ok, toSL_exc, gRet_eq, gAsg_eq, gSet_eq, gExpr_eq, gIfS_eq, gRaise_eq, gBin_eq, gUn_eq, gVar_eq, slotR_some, gC_eq, gArgs_nil, gArgs_cons, gTupE_eq, gLstE_eq, gNewE_eq, gCall_eq, gBi_eq, gB_eq, asB_bl, gAnd_eq, gOr_eq, gNot_eq, gVT_eq, gIf_eq, gChain_eq, chK_t, chK_f, chK_b, bnd_ok, bnd_exc, oo_some, gTo_eq, toK_some, tgName_eq, tgNil_eq, tgCons_eq, tgTup_eq, bind_some, gPar_eq, gCat_eq, catR_r, listV_t, listV_l, blsOf_nil, blsOf_cons, allV_l, isNV_d, notNV_d, parK_ok, parK_exc, gStore_eq, stK_some, gMeth_eq, gFor_eq, gRng1_eq, asI_i, gItL_eq, gItT_eq, asLst_l, asTup_t, addV_ii, subV_ii, mulV_ii, fdivV_ii, modV_ii, shlV_ii, pw6, pw9, pw18, pw19, pw20, pw25, pw30, pw39, ltV_ii, leV_ii, gtV_ii, geV_ii, negV_i, isNV_n, isNV_t, isNV_l, isNV_i, isNV_s, isNV_r, isNV_b, notNV_n, notNV_t, notNV_l, notNV_i, notNV_s, notNV_r, notNV_b, ixV_t, ixV_l, ixV_r, lenV_t, lenV_l, lenV_r, absV_i, max2V_ii, min2V_ii, bitsV_i, setIV_r, setK_some, setL_some, appendM_r, appK_some, appN_ok, isT_r, isK_l, lstK_some, tyK_l, isT_s, isiV_eq, tyN_int, tyN_bl, tyN_non, tyN_str, tyN_tup, tyN_lst, tyN_dct, tyN_r, kk_int_bool, kitK_t, kk_int_str, kk_int_tuple, kk_int_list, kk_int_dict, kk_int_NoneType, kk_bool_int, kk_bool_str, kk_bool_tuple, kk_bool_list, kk_bool_dict, kk_bool_NoneType, kk_str_int, kk_str_bool, kk_str_tuple, kk_str_list, kk_str_dict, kk_str_NoneType, kk_tuple_int, kk_tuple_bool, kk_tuple_str, kk_tuple_list, kk_tuple_dict, kk_tuple_NoneType, kk_list_int, kk_list_bool, kk_list_str, kk_list_tuple, kk_list_dict, kk_list_NoneType, kk_dict_int, kk_dict_bool, kk_dict_str, kk_dict_tuple, kk_dict_list, kk_dict_NoneType, eqV_int, neV_int, isBV_b, neV_bl, eqV_bl, eqV_ii, neV_ii, isNV_fr, notNV_fr, ixV_fr0, ixV_fr1, eqV_fr, neV_fr, int1V_b, int1V_i, ixV_hp0, ixV_hp1, isNV_hp, eqV_hp, neV_hp, tyN_fr, lenV_fr, at0, at1, at2, at3, at4, at5, ixN0, ixN1, List.map_cons, List.map_nil, List.replicate, List.cons_append, List.nil_append, List.getElem?_cons_zero, List.getElem?_cons_succ, List.set_cons_zero, List.set_cons_succ, Bool.not_true, Bool.not_false, Bool.false_eq_true, if_true, if_false, ite_true, ite_false, reduceIte, Nat.reduceSub, Nat.reduceAdd, ne_eq, Int.cast_ofNat_Int, Int.reduceBEq, Int.reduceLT, Int.reduceLE, Int.reduceEq, Int.reduceNeg, Int.reduceMul, Int.reduceAdd, Int.reduceSub, decide_true, decide_false, List.length_cons, List.length_nil, beq_self_eq_true, not_false_eq_true, not_true_eq_false , gLenSet_eq, lsR_l, gCompN_eq, mkN_l, gCat2_eq, lstOf_l, insertM_r, extendM_r, gListRg_eq, gSlV_eq, slVK_s, gForM_eq, toSM_ok, gItM_eq, mkB_t, mkB_f, d]
      have ll : L.length ≤ 60 := by have := p.sum; omega
      have fs := pk_fs (x0 := x0) (x1 := x1) (x2 := x2) (x4 := some (.ref (st.length + 1))) (x6 := some (.int ((s + 1 : Nat) : Int))) (x7 := x7) (x8 := x8) (x9 := x9) (x10 := x10) (x11 := x11) g p.inR ll
      obtain ⟨f', y9, e, l', h'⟩ := pk_for (x0 := x0) (x1 := x1) (x2 := x2) (x3 := some (.lst (rowsP hs))) (x7 := x7) (x9 := x9) (x10 := x10) (x11 := x11) (st := st) (f := f) (F := fsN hs L) (s := s + 1) p.nd (fun i hi => (mem_fsN.mp hi).1) (p.nd.filter _) fun i hi => by rw [p.len]; exact p.inR i hi
      have pn := pl_next p ne l' h' rfl
      have lt : (L.filter fun i => !(fsN hs L).contains i).length < L.length := by
        obtain ⟨i, hi⟩ := fsN_ne (hs := hs) ne
        exact List.length_filter_lt_length_iff_exists.mpr ⟨i, (mem_fsN.mp hi).1, by rw [List.contains_eq_mem, decide_eq_true hi]; simp⟩
      obtain ⟨s2, f2, y8, z9, e2, p2⟩ := pk_while (x0 := x0) (x1 := x1) (x2 := x2) (x7 := x7) (x10 := x10) (x11 := x11) (st := st) l60 fuel (s + 1) f' _ (some (.lst (pvN (fsN hs L)))) y9 pn (by omega)
      refine ⟨s2, f2, y8, z9, ?_, p2⟩
      have b : pkW [x0, x1, x2, some (.lst (rowsP hs)), some (.ref (st.length + 1)), some (.ref (st.length + 2)), some (.int (s : Int)), x7, x8, x9, x10, x11] (LS st f L) = .nx [x0, x1, x2, some (.lst (rowsP hs)), some (.ref (st.length + 1)), some (.ref (st.length + 2)), some (.int ((s + 1 : Nat) : Int)), x7, some (.lst (pvN (fsN hs L))), y9, x10, x11] (LS st f' (L.filter fun i => !(fsN hs L).contains i)) := by
        have sc : (s : Int) + 1 = ((s + 1 : Nat) : Int) := by omega
        unfold pkW
        generalize pkE = E at *
        generalize pkF = F at *
        simp only [gSlN_eq, slN_r, slN_l, slNK_s, gRevN_eq, revN_r, revNK_s, tupleV_r, tupleV_l, gCallV_eq, gLend_eq, isNotBV_b, gRep_eq, repR_r, gZip_eq, zipR_t, zipR_l, gTry_eq, tryK_nx, tryK_ret, begin_eq, allR_nx, allR_ret, allR_exc, gSkip_eq, gSeq_eq, seqK_nx, seqK_ret, seqK_exc, toS_ok, toS_exc, toST_ok, toST_exc, toSL_ok, toSL_exc, gRet_eq, gAsg_eq, gSet_eq, gExpr_eq, gIfS_eq, gRaise_eq, gBin_eq, gUn_eq, gVar_eq, slotR_some, gC_eq, gArgs_nil, gArgs_cons, gTupE_eq, gLstE_eq, gNewE_eq, gCall_eq, gBi_eq, gB_eq, asB_bl, gAnd_eq, gOr_eq, gNot_eq, gVT_eq, gIf_eq, gChain_eq, chK_t, chK_f, chK_b, bnd_ok, bnd_exc, oo_some, gTo_eq, toK_some, tgName_eq, tgNil_eq, tgCons_eq, tgTup_eq, bind_some, gPar_eq, gCat_eq, catR_r, listV_t, listV_l, blsOf_nil, blsOf_cons, allV_l, isNV_d, notNV_d, parK_ok, parK_exc, gStore_eq, stK_some, gMeth_eq, gFor_eq, gRng1_eq, asI_i, gItL_eq, gItT_eq, asLst_l, asTup_t, addV_ii, subV_ii, mulV_ii, fdivV_ii, modV_ii, shlV_ii, pw6, pw9, pw18, pw19, pw20, pw25, pw30, pw39, ltV_ii, leV_ii, gtV_ii, geV_ii, negV_i, isNV_n, isNV_t, isNV_l, isNV_i, isNV_s, isNV_r, isNV_b, notNV_n, notNV_t, notNV_l, notNV_i, notNV_s, notNV_r, notNV_b, ixV_t, ixV_l, ixV_r, lenV_t, lenV_l, lenV_r, absV_i, max2V_ii, min2V_ii, bitsV_i, setIV_r, setK_some, setL_some, appendM_r, appK_some, appN_ok, isT_r, isK_l, lstK_some, tyK_l, isT_s, isiV_eq, tyN_int, tyN_bl, tyN_non, tyN_str, tyN_tup, tyN_lst, tyN_dct, tyN_r, kk_int_bool, kitK_t, kk_int_str, kk_int_tuple, kk_int_list, kk_int_dict, kk_int_NoneType, kk_bool_int, kk_bool_str, kk_bool_tuple, kk_bool_list, kk_bool_dict, kk_bool_NoneType, kk_str_int, kk_str_bool, kk_str_tuple, kk_str_list, kk_str_dict, kk_str_NoneType, kk_tuple_int, kk_tuple_bool, kk_tuple_str, kk_tuple_list, kk_tuple_dict, kk_tuple_NoneType, kk_list_int, kk_list_bool, kk_list_str, kk_list_tuple, kk_list_dict, kk_list_NoneType, kk_dict_int, kk_dict_bool, kk_dict_str, kk_dict_tuple, kk_dict_list, kk_dict_NoneType, eqV_int, neV_int, isBV_b, neV_bl, eqV_bl, eqV_ii, neV_ii, isNV_fr, notNV_fr, ixV_fr0, ixV_fr1, eqV_fr, neV_fr, int1V_b, int1V_i, ixV_hp0, ixV_hp1, isNV_hp, eqV_hp, neV_hp, tyN_fr, lenV_fr, at0, at1, at2, at3, at4, at5, ixN0, ixN1, List.map_cons, List.map_nil, List.replicate, List.cons_append, List.nil_append, List.getElem?_cons_zero, List.getElem?_cons_succ, List.set_cons_zero, List.set_cons_succ, Bool.not_true, Bool.not_false, Bool.false_eq_true, if_true, if_false, ite_true, ite_false, reduceIte, Nat.reduceSub, Nat.reduceAdd, ne_eq, Int.cast_ofNat_Int, Int.reduceBEq, Int.reduceLT, Int.reduceLE, Int.reduceEq, Int.reduceNeg, Int.reduceMul, Int.reduceAdd, Int.reduceSub, decide_true, decide_false, List.length_cons, List.length_nil, beq_self_eq_true, not_false_eq_true, not_true_eq_false , gLenSet_eq, lsR_l, gCompN_eq, mkN_l, gCat2_eq, lstOf_l, insertM_r, extendM_r, gListRg_eq, gSlV_eq, slVK_s, gForM_eq, toSM_ok, gItM_eq, mkB_t, mkB_f, sc, fs, e]
      rw [whl_succ, c, toST_ok, if_pos rfl, b, whlK_nx, e2]
noncomputable def stB : GS := (gSeq (gSet 10 (gCall F_steps_of [(gVar 2)])) (gSeq (gIfS (gNot (gB (gLend F__law_same_2 [(gVar 10), (gVar 4)]))) (gRet (gC (.bl false))) gSkip) (gExpr (gMeth "list" appendM (gVar 10) [(gC (.int 0))]))))
theorem st_ok {x0 x1 x3 x5 x6 x7 x8 x9 x10 x11 : Option PV} {st l : List SO} {hs : List (Rat × Rat)} {f : List Nat} {n s : Nat} (hr : ∀ h ∈ hs, HR n h) (hn : n ≤ 1000) (l1 : 1 ≤ hs.length) (l12 : hs.length ≤ 12) (nd : hs.Nodup) (p : Peel hs s f []) :
    ∃ y10 l', stB [x0, x1, some (.lst (hs.map hq)), x3, some (.ref (st.length + 1)), x5, x6, x7, x8, x9, x10, x11] (LS st f [] ++ l) = .nx [x0, x1, some (.lst (hs.map hq)), x3, some (.ref (st.length + 1)), x5, x6, x7, x8, x9, y10, x11] (LS st f [] ++ l') := by
  obtain ⟨sp, ef⟩ := pl_end p
  have e := steps_ok (st := LS st f [] ++ l) hr hn l1 l12 nd sp
  rw [← ef] at e
  have g1 : (AS (LS st f [] ++ l) f)[(LS st f [] ++ l).length + 1]? = some (.lst (pvN f)) := AS_get
  have g2 : (AS (LS st f [] ++ l) f)[st.length + 1]? = some (.lst (pvN f)) := by
    unfold AS
    rw [List.append_assoc, List.append_assoc, List.getElem?_append_left (by unfold LS; rw [List.length_append]; simp)]
    exact LS_due
  have fz : ∀ (S : List SO) (k : Nat), S[k]? = some (.lst (pvN f)) → frzV S 0 9 (.ref k) = some (.lst (pvN f)) := fun S k g => frz_same (d := 8) (Nat.zero_le _) g fun z hz => by
    unfold pvN at hz
    obtain ⟨k, -, rfl⟩ := List.mem_map.mp hz
    exact fun _ _ _ => rfl
  have fl : f.length ≤ 12 := by rw [p.len]; exact l12
  have sm := lend2 (fz _ _ g1) (fz _ _ g2) (same_ok (st := []) (Sm_pvN f (by omega)) (by omega))
  have lk : LenOk (pvN f).length := lenOk_small (by rw [pvN_len]; omega)
  obtain ⟨l2, el⟩ : ∃ l2, (AS (LS st f [] ++ l) f).set ((LS st f [] ++ l).length + 1) (.lst (pvN f ++ [.int 0])) = LS st f [] ++ l2 := by
    unfold AS
    rw [List.append_assoc, List.set_append_right _ _ (by omega), List.append_assoc]
    exact ⟨_, rfl⟩
  refine ⟨some (.ref ((LS st f [] ++ l).length + 1)), l2, ?_⟩
  generalize AS (LS st f [] ++ l) f = S at *
  unfold stB
  simp only [gSlN_eq, slN_r, slN_l, slNK_s, gRevN_eq, revN_r, revNK_s, tupleV_r, tupleV_l, gCallV_eq, gLend_eq, isNotBV_b, gRep_eq, repR_r, gZip_eq, zipR_t, zipR_l, gTry_eq, tryK_nx, tryK_ret, begin_eq, allR_nx, allR_ret, allR_exc, gSkip_eq, gSeq_eq, seqK_nx, seqK_ret, seqK_exc, toS_ok, toS_exc, toST_ok, toST_exc, toSL_ok, toSL_exc, gRet_eq, gAsg_eq, gSet_eq, gExpr_eq, gIfS_eq, gRaise_eq, gBin_eq, gUn_eq, gVar_eq, slotR_some, gC_eq, gArgs_nil, gArgs_cons, gTupE_eq, gLstE_eq, gNewE_eq, gCall_eq, gBi_eq, gB_eq, asB_bl, gAnd_eq, gOr_eq, gNot_eq, gVT_eq, gIf_eq, gChain_eq, chK_t, chK_f, chK_b, bnd_ok, bnd_exc, oo_some, gTo_eq, toK_some, tgName_eq, tgNil_eq, tgCons_eq, tgTup_eq, bind_some, gPar_eq, gCat_eq, catR_r, listV_t, listV_l, blsOf_nil, blsOf_cons, allV_l, isNV_d, notNV_d, parK_ok, parK_exc, gStore_eq, stK_some, gMeth_eq, gFor_eq, gRng1_eq, asI_i, gItL_eq, gItT_eq, asLst_l, asTup_t, addV_ii, subV_ii, mulV_ii, fdivV_ii, modV_ii, shlV_ii, pw6, pw9, pw18, pw19, pw20, pw25, pw30, pw39, ltV_ii, leV_ii, gtV_ii, geV_ii, negV_i, isNV_n, isNV_t, isNV_l, isNV_i, isNV_s, isNV_r, isNV_b, notNV_n, notNV_t, notNV_l, notNV_i, notNV_s, notNV_r, notNV_b, ixV_t, ixV_l, ixV_r, lenV_t, lenV_l, lenV_r, absV_i, max2V_ii, min2V_ii, bitsV_i, setIV_r, setK_some, setL_some, appendM_r, appK_some, appN_ok, isT_r, isK_l, lstK_some, tyK_l, isT_s, isiV_eq, tyN_int, tyN_bl, tyN_non, tyN_str, tyN_tup, tyN_lst, tyN_dct, tyN_r, kk_int_bool, kitK_t, kk_int_str, kk_int_tuple, kk_int_list, kk_int_dict, kk_int_NoneType, kk_bool_int, kk_bool_str, kk_bool_tuple, kk_bool_list, kk_bool_dict, kk_bool_NoneType, kk_str_int, kk_str_bool, kk_str_tuple, kk_str_list, kk_str_dict, kk_str_NoneType, kk_tuple_int, kk_tuple_bool, kk_tuple_str, kk_tuple_list, kk_tuple_dict, kk_tuple_NoneType, kk_list_int, kk_list_bool, kk_list_str, kk_list_tuple, kk_list_dict, kk_list_NoneType, kk_dict_int, kk_dict_bool, kk_dict_str, kk_dict_tuple, kk_dict_list, kk_dict_NoneType, eqV_int, neV_int, isBV_b, neV_bl, eqV_bl, eqV_ii, neV_ii, isNV_fr, notNV_fr, ixV_fr0, ixV_fr1, eqV_fr, neV_fr, int1V_b, int1V_i, ixV_hp0, ixV_hp1, isNV_hp, eqV_hp, neV_hp, tyN_fr, lenV_fr, at0, at1, at2, at3, at4, at5, ixN0, ixN1, List.map_cons, List.map_nil, List.replicate, List.cons_append, List.nil_append, List.getElem?_cons_zero, List.getElem?_cons_succ, List.set_cons_zero, List.set_cons_succ, Bool.not_true, Bool.not_false, Bool.false_eq_true, if_true, if_false, ite_true, ite_false, reduceIte, Nat.reduceSub, Nat.reduceAdd, ne_eq, Int.cast_ofNat_Int, Int.reduceBEq, Int.reduceLT, Int.reduceLE, Int.reduceEq, Int.reduceNeg, Int.reduceMul, Int.reduceAdd, Int.reduceSub, decide_true, decide_false, List.length_cons, List.length_nil, beq_self_eq_true, not_false_eq_true, not_true_eq_false , gLenSet_eq, lsR_l, gCompN_eq, mkN_l, gCat2_eq, lstOf_l, insertM_r, extendM_r, gListRg_eq, gSlV_eq, slVK_s, gForM_eq, toSM_ok, gItM_eq, mkB_t, mkB_f, e, sm, g1, lk, el]
abbrev In12 (ns : List Int) (ρ : REnv) : Prop := ∃ b c d e f g h i j k l, ρ = [some (.lst (ns.map .int)), b, c, d, e, f, g, h, i, j, k, l]
theorem law_k54_holds (ns : List Int) (st0 : List SO) (_ : ns.length ≤ 63) (_ : ∀ z ∈ ns, Builtin.Int.intBits z ≤ 1048576) : ∃ st', F_law_k54 [.lst (ns.map .int)] st0 = .ok (.bl true) st' := by
  have r1 : RngOk (if (if (8 : Int) < (List.map PV.int ns).length then (8 : Int) else (List.map PV.int ns).length) > 1 then (if (8 : Int) < (List.map PV.int ns).length then (8 : Int) else (List.map PV.int ns).length) else 1) := by
    unfold RngOk; split <;> split <;> omega
  have r2 : RngOk 2 := by unfold RngOk; omega
  unfold F_law_k54 g_law_k54
  show ∃ st', allR (gSeq (gFor _ _ (gSeq _ (gSeq _ (gSeq _ (gSeq _ (gSeq _ (gSeq (gWhile (fun _ => 300) pkC pkW) (gFor _ _ stB)))))))) _ _ _) = _
  generalize hC : pkC = C
  generalize hW : pkW = W
  generalize hB : stB = B
  simp only [gSlN_eq, slN_r, slN_l, slNK_s, gRevN_eq, revN_r, revNK_s, tupleV_r, tupleV_l, gCallV_eq, gLend_eq, isNotBV_b, gRep_eq, repR_r, gZip_eq, zipR_t, zipR_l, gTry_eq, tryK_nx, tryK_ret, begin_eq, allR_nx, allR_ret, allR_exc, gSkip_eq, gSeq_eq, seqK_nx, seqK_ret, seqK_exc, toS_ok, toS_exc, toST_ok, toST_exc, toSL_ok, toSL_exc, gRet_eq, gAsg_eq, gSet_eq, gExpr_eq, gIfS_eq, gRaise_eq, gBin_eq, gUn_eq, gVar_eq, slotR_some, gC_eq, gArgs_nil, gArgs_cons, gTupE_eq, gLstE_eq, gNewE_eq, gCall_eq, gBi_eq, gB_eq, asB_bl, gAnd_eq, gOr_eq, gNot_eq, gVT_eq, gIf_eq, gChain_eq, chK_t, chK_f, chK_b, bnd_ok, bnd_exc, oo_some, gTo_eq, toK_some, tgName_eq, tgNil_eq, tgCons_eq, tgTup_eq, bind_some, gPar_eq, gCat_eq, catR_r, listV_t, listV_l, blsOf_nil, blsOf_cons, allV_l, isNV_d, notNV_d, parK_ok, parK_exc, gStore_eq, stK_some, gMeth_eq, gFor_eq, gRng1_eq, asI_i, gItL_eq, gItT_eq, asLst_l, asTup_t, addV_ii, subV_ii, mulV_ii, fdivV_ii, modV_ii, shlV_ii, pw6, pw9, pw18, pw19, pw20, pw25, pw30, pw39, ltV_ii, leV_ii, gtV_ii, geV_ii, negV_i, isNV_n, isNV_t, isNV_l, isNV_i, isNV_s, isNV_r, isNV_b, notNV_n, notNV_t, notNV_l, notNV_i, notNV_s, notNV_r, notNV_b, ixV_t, ixV_l, ixV_r, lenV_t, lenV_l, lenV_r, absV_i, max2V_ii, min2V_ii, bitsV_i, setIV_r, setK_some, setL_some, appendM_r, appK_some, appN_ok, isT_r, isK_l, lstK_some, tyK_l, isT_s, isiV_eq, tyN_int, tyN_bl, tyN_non, tyN_str, tyN_tup, tyN_lst, tyN_dct, tyN_r, kk_int_bool, kitK_t, kk_int_str, kk_int_tuple, kk_int_list, kk_int_dict, kk_int_NoneType, kk_bool_int, kk_bool_str, kk_bool_tuple, kk_bool_list, kk_bool_dict, kk_bool_NoneType, kk_str_int, kk_str_bool, kk_str_tuple, kk_str_list, kk_str_dict, kk_str_NoneType, kk_tuple_int, kk_tuple_bool, kk_tuple_str, kk_tuple_list, kk_tuple_dict, kk_tuple_NoneType, kk_list_int, kk_list_bool, kk_list_str, kk_list_tuple, kk_list_dict, kk_list_NoneType, kk_dict_int, kk_dict_bool, kk_dict_str, kk_dict_tuple, kk_dict_list, kk_dict_NoneType, eqV_int, neV_int, isBV_b, neV_bl, eqV_bl, eqV_ii, neV_ii, isNV_fr, notNV_fr, ixV_fr0, ixV_fr1, eqV_fr, neV_fr, int1V_b, int1V_i, ixV_hp0, ixV_hp1, isNV_hp, eqV_hp, neV_hp, tyN_fr, lenV_fr, at0, at1, at2, at3, at4, at5, ixN0, ixN1, List.map_cons, List.map_nil, List.replicate, List.cons_append, List.nil_append, List.getElem?_cons_zero, List.getElem?_cons_succ, List.set_cons_zero, List.set_cons_succ, Bool.not_true, Bool.not_false, Bool.false_eq_true, if_true, if_false, ite_true, ite_false, reduceIte, Nat.reduceSub, Nat.reduceAdd, ne_eq, Int.cast_ofNat_Int, Int.reduceBEq, Int.reduceLT, Int.reduceLE, Int.reduceEq, Int.reduceNeg, Int.reduceMul, Int.reduceAdd, Int.reduceSub, decide_true, decide_false, List.length_cons, List.length_nil, beq_self_eq_true, not_false_eq_true, not_true_eq_false , gLenSet_eq, lsR_l, gCompN_eq, mkN_l, gCat2_eq, lstOf_l, insertM_r, extendM_r, gListRg_eq, gSlV_eq, slVK_s, gForM_eq, toSM_ok, gItM_eq, mkB_t, mkB_f, asI_i r1, gFor]
  generalize hb : forg _ _ _ _ _ = r
  obtain ⟨ρ', st', rfl, hI⟩ := for_of hb (fun ρ _ => In12 ns ρ) ⟨_, _, _, _, _, _, _, _, _, _, _, rfl⟩ (by
    intro x hx ρ st hI
    obtain ⟨k0, rfl, hk⟩ := mem_rng hx
    obtain ⟨v1, v2, v3, v4, v5, v6, v7, v8, v9, v10, v11, rfl⟩ := hI
    obtain ⟨z, ec⟩ := cell_ok (ns := ns) (k := k0) (st := st)
    obtain ⟨p0, ep⟩ := pot_ok z st
    obtain ⟨hs, p1, e1, l1, l9, nd, hr⟩ := llist_ok (st := st ++ [.lst []]) (k := st.length) (m := 9) new_lt (by omega) (by omega) p0
    have l9 : hs.length ≤ 9 := l9
    generalize hS : PS (st ++ [.lst []]) st.length p1 = S at *
    have e2 := lrows_ok (st := S) hr (by omega) (by omega)
    have e2 : F__law_rows [.lst (hs.map hq)] S = .ok (.lst (rowsP hs)) S := e2
    have len : (hs.map hq).length = hs.length := List.length_map ..
    have rn : ((hs.map hq).length : Int).toNat = hs.length := by rw [Int.toNat_natCast, len]
    have ro : RepOk [PV.int 0].length ((hs.map hq).length : Int) := ⟨by omega, by omega, small_line (by rw [len, Int.toNat_natCast]; simp; omega)⟩
    have rp : repL (S ++ [SO.lst [.int 0]]) (some (.lst [.int 0])) (.int ((hs.map hq).length : Int)) = .ok (.ref (S.length + 1)) (S ++ [SO.lst [.int 0]] ++ [.lst (pvN (List.replicate hs.length 0))]) := by
      rw [repL_ok ro, rn]
      have := rep_pvN (n := hs.length) (i := 0)
      have this : (List.replicate hs.length [PV.int 0]).flatten = _ := this
      rw [this, List.length_append]
      rfl
    have lr : ∀ st : List SO, lrNK st (.int ((hs.map hq).length : Nat)) = .ok (.ref st.length) (st ++ [.lst (pvN (List.range hs.length))]) := fun st => by
      rw [lrNK_i (by rw [len]; omega), rn, rng_pvN']
    have ls : S ++ [SO.lst [PV.int 0]] ++ [.lst (pvN (List.replicate hs.length 0))] ++ [.lst (pvN (List.range hs.length))] = LS S (List.replicate hs.length 0) (List.range hs.length) := by
      unfold LS
      rw [List.append_assoc, List.append_assoc]; rfl
    have ll : (S ++ [SO.lst [PV.int 0]] ++ [SO.lst (pvN (List.replicate hs.length 0))]).length = S.length + 2 := by simp
    obtain ⟨s', f', y8, y9, ew, pl⟩ := pk_while (x0 := some (.lst (ns.map .int))) (x1 := some (.int k0)) (x2 := some (.lst (hs.map hq))) (x7 := v7) (x10 := v10) (x11 := v11) (st := S) (hs := hs) (by omega) 300 0 _ _ v8 v9 (pl_zero hs) (by rw [List.length_range]; omega)
    have ew : gWhile (fun _ => 300) pkC pkW [some (.lst (ns.map .int)), some (.int k0), some (.lst (hs.map hq)), some (.lst (rowsP hs)), some (.ref (S.length + 1)), some (.ref (S.length + 2)), some (.int 0), v7, v8, v9, v10, v11] (LS S (List.replicate hs.length 0) (List.range hs.length)) = _ := ew
    have inner : ∃ y7 y10 l, forg (tgName 7) stB (rng 0 (Int.toNat 2)) [some (.lst (ns.map .int)), some (.int k0), some (.lst (hs.map hq)), some (.lst (rowsP hs)), some (.ref (S.length + 1)), some (.ref (S.length + 2)), some (.int (s' : Int)), v7, y8, y9, v10, v11] (LS S f' []) = .nx [some (.lst (ns.map .int)), some (.int k0), some (.lst (hs.map hq)), some (.lst (rowsP hs)), some (.ref (S.length + 1)), some (.ref (S.length + 2)), some (.int (s' : Int)), y7, y8, y9, y10, v11] l := by
      generalize hb2 : forg _ _ _ _ _ = r2
      obtain ⟨ρ2, st2, rfl, ⟨y7, y10, rfl⟩, l, rfl⟩ := for_of hb2 (fun ρ s => (∃ y7 y10, ρ = [some (.lst (ns.map .int)), some (.int k0), some (.lst (hs.map hq)), some (.lst (rowsP hs)), some (.ref (S.length + 1)), some (.ref (S.length + 2)), some (.int (s' : Int)), y7, y8, y9, y10, v11]) ∧ ∃ l, s = LS S f' [] ++ l) ⟨⟨_, _, rfl⟩, [], by rw [List.append_nil]⟩ (by
        intro w hw ρ s hI
        obtain ⟨⟨y7, y10, rfl⟩, l, rfl⟩ := hI
        obtain ⟨z10, l', e⟩ := st_ok (x0 := some (.lst (ns.map .int))) (x1 := some (.int k0)) (x3 := some (.lst (rowsP hs))) (x5 := some (.ref (S.length + 2))) (x6 := some (.int (s' : Int))) (x7 := some w) (x8 := y8) (x9 := y9) (x10 := y10) (x11 := v11) (st := S) (l := l) hr (by omega) l1 (by omega) nd pl
        refine turn_name ?_
        exact ⟨_, _, e, ⟨_, _, rfl⟩, l', rfl⟩)
      exact ⟨y7, y10, _, rfl⟩
    obtain ⟨y7, y10, l, inner⟩ := inner
    rw [hB] at inner
    rw [hC, hW] at ew
    refine turn_name ?_
    clear hb
    simp only [gSlN_eq, slN_r, slN_l, slNK_s, gRevN_eq, revN_r, revNK_s, tupleV_r, tupleV_l, gCallV_eq, gLend_eq, isNotBV_b, gRep_eq, repR_r, gZip_eq, zipR_t, zipR_l, gTry_eq, tryK_nx, tryK_ret, begin_eq, allR_nx, allR_ret, allR_exc, gSkip_eq, gSeq_eq, seqK_nx, seqK_ret, seqK_exc, toS_ok, toS_exc, toST_ok, toST_exc, toSL_ok, toSL_exc, gRet_eq, gAsg_eq, gSet_eq, gExpr_eq, gIfS_eq, gRaise_eq, gBin_eq, gUn_eq, gVar_eq, slotR_some, gC_eq, gArgs_nil, gArgs_cons, gTupE_eq, gLstE_eq, gNewE_eq, gCall_eq, gBi_eq, gB_eq, asB_bl, gAnd_eq, gOr_eq, gNot_eq, gVT_eq, gIf_eq, gChain_eq, chK_t, chK_f, chK_b, bnd_ok, bnd_exc, oo_some, gTo_eq, toK_some, tgName_eq, tgNil_eq, tgCons_eq, tgTup_eq, bind_some, gPar_eq, gCat_eq, catR_r, listV_t, listV_l, blsOf_nil, blsOf_cons, allV_l, isNV_d, notNV_d, parK_ok, parK_exc, gStore_eq, stK_some, gMeth_eq, gFor_eq, gRng1_eq, asI_i, gItL_eq, gItT_eq, asLst_l, asTup_t, addV_ii, subV_ii, mulV_ii, fdivV_ii, modV_ii, shlV_ii, pw6, pw9, pw18, pw19, pw20, pw25, pw30, pw39, ltV_ii, leV_ii, gtV_ii, geV_ii, negV_i, isNV_n, isNV_t, isNV_l, isNV_i, isNV_s, isNV_r, isNV_b, notNV_n, notNV_t, notNV_l, notNV_i, notNV_s, notNV_r, notNV_b, ixV_t, ixV_l, ixV_r, lenV_t, lenV_l, lenV_r, absV_i, max2V_ii, min2V_ii, bitsV_i, setIV_r, setK_some, setL_some, appendM_r, appK_some, appN_ok, isT_r, isK_l, lstK_some, tyK_l, isT_s, isiV_eq, tyN_int, tyN_bl, tyN_non, tyN_str, tyN_tup, tyN_lst, tyN_dct, tyN_r, kk_int_bool, kitK_t, kk_int_str, kk_int_tuple, kk_int_list, kk_int_dict, kk_int_NoneType, kk_bool_int, kk_bool_str, kk_bool_tuple, kk_bool_list, kk_bool_dict, kk_bool_NoneType, kk_str_int, kk_str_bool, kk_str_tuple, kk_str_list, kk_str_dict, kk_str_NoneType, kk_tuple_int, kk_tuple_bool, kk_tuple_str, kk_tuple_list, kk_tuple_dict, kk_tuple_NoneType, kk_list_int, kk_list_bool, kk_list_str, kk_list_tuple, kk_list_dict, kk_list_NoneType, kk_dict_int, kk_dict_bool, kk_dict_str, kk_dict_tuple, kk_dict_list, kk_dict_NoneType, eqV_int, neV_int, isBV_b, neV_bl, eqV_bl, eqV_ii, neV_ii, isNV_fr, notNV_fr, ixV_fr0, ixV_fr1, eqV_fr, neV_fr, int1V_b, int1V_i, ixV_hp0, ixV_hp1, isNV_hp, eqV_hp, neV_hp, tyN_fr, lenV_fr, at0, at1, at2, at3, at4, at5, ixN0, ixN1, List.map_cons, List.map_nil, List.replicate, List.cons_append, List.nil_append, List.getElem?_cons_zero, List.getElem?_cons_succ, List.set_cons_zero, List.set_cons_succ, Bool.not_true, Bool.not_false, Bool.false_eq_true, if_true, if_false, ite_true, ite_false, reduceIte, Nat.reduceSub, Nat.reduceAdd, ne_eq, Int.cast_ofNat_Int, Int.reduceBEq, Int.reduceLT, Int.reduceLE, Int.reduceEq, Int.reduceNeg, Int.reduceMul, Int.reduceAdd, Int.reduceSub, decide_true, decide_false, List.length_cons, List.length_nil, beq_self_eq_true, not_false_eq_true, not_true_eq_false , gLenSet_eq, lsR_l, gCompN_eq, mkN_l, gCat2_eq, lstOf_l, insertM_r, extendM_r, gListRg_eq, gSlV_eq, slVK_s, gForM_eq, toSM_ok, gItM_eq, mkB_t, mkB_f, ec, ep, e1, e2, gRep_eq, repR_r, get_new, rp, gListRgN_eq, lr, ls, ll, ew, asI_i r2, gFor, inner]
    exact ⟨_, _, rfl, _, _, _, _, _, _, _, _, _, _, _, rfl⟩)
  obtain ⟨_, _, _, _, _, _, _, _, _, _, _, rfl⟩ := hI
  simp only [gSlN_eq, slN_r, slN_l, slNK_s, gRevN_eq, revN_r, revNK_s, tupleV_r, tupleV_l, gCallV_eq, gLend_eq, isNotBV_b, gRep_eq, repR_r, gZip_eq, zipR_t, zipR_l, gTry_eq, tryK_nx, tryK_ret, begin_eq, allR_nx, allR_ret, allR_exc, gSkip_eq, gSeq_eq, seqK_nx, seqK_ret, seqK_exc, toS_ok, toS_exc, toST_ok, toST_exc, toSL_ok, toSL_exc, gRet_eq, gAsg_eq, gSet_eq, gExpr_eq, gIfS_eq, gRaise_eq, gBin_eq, gUn_eq, gVar_eq, slotR_some, gC_eq, gArgs_nil, gArgs_cons, gTupE_eq, gLstE_eq, gNewE_eq, gCall_eq, gBi_eq, gB_eq, asB_bl, gAnd_eq, gOr_eq, gNot_eq, gVT_eq, gIf_eq, gChain_eq, chK_t, chK_f, chK_b, bnd_ok, bnd_exc, oo_some, gTo_eq, toK_some, tgName_eq, tgNil_eq, tgCons_eq, tgTup_eq, bind_some, gPar_eq, gCat_eq, catR_r, listV_t, listV_l, blsOf_nil, blsOf_cons, allV_l, isNV_d, notNV_d, parK_ok, parK_exc, gStore_eq, stK_some, gMeth_eq, gFor_eq, gRng1_eq, asI_i, gItL_eq, gItT_eq, asLst_l, asTup_t, addV_ii, subV_ii, mulV_ii, fdivV_ii, modV_ii, shlV_ii, pw6, pw9, pw18, pw19, pw20, pw25, pw30, pw39, ltV_ii, leV_ii, gtV_ii, geV_ii, negV_i, isNV_n, isNV_t, isNV_l, isNV_i, isNV_s, isNV_r, isNV_b, notNV_n, notNV_t, notNV_l, notNV_i, notNV_s, notNV_r, notNV_b, ixV_t, ixV_l, ixV_r, lenV_t, lenV_l, lenV_r, absV_i, max2V_ii, min2V_ii, bitsV_i, setIV_r, setK_some, setL_some, appendM_r, appK_some, appN_ok, isT_r, isK_l, lstK_some, tyK_l, isT_s, isiV_eq, tyN_int, tyN_bl, tyN_non, tyN_str, tyN_tup, tyN_lst, tyN_dct, tyN_r, kk_int_bool, kitK_t, kk_int_str, kk_int_tuple, kk_int_list, kk_int_dict, kk_int_NoneType, kk_bool_int, kk_bool_str, kk_bool_tuple, kk_bool_list, kk_bool_dict, kk_bool_NoneType, kk_str_int, kk_str_bool, kk_str_tuple, kk_str_list, kk_str_dict, kk_str_NoneType, kk_tuple_int, kk_tuple_bool, kk_tuple_str, kk_tuple_list, kk_tuple_dict, kk_tuple_NoneType, kk_list_int, kk_list_bool, kk_list_str, kk_list_tuple, kk_list_dict, kk_list_NoneType, kk_dict_int, kk_dict_bool, kk_dict_str, kk_dict_tuple, kk_dict_list, kk_dict_NoneType, eqV_int, neV_int, isBV_b, neV_bl, eqV_bl, eqV_ii, neV_ii, isNV_fr, notNV_fr, ixV_fr0, ixV_fr1, eqV_fr, neV_fr, int1V_b, int1V_i, ixV_hp0, ixV_hp1, isNV_hp, eqV_hp, neV_hp, tyN_fr, lenV_fr, at0, at1, at2, at3, at4, at5, ixN0, ixN1, List.map_cons, List.map_nil, List.replicate, List.cons_append, List.nil_append, List.getElem?_cons_zero, List.getElem?_cons_succ, List.set_cons_zero, List.set_cons_succ, Bool.not_true, Bool.not_false, Bool.false_eq_true, if_true, if_false, ite_true, ite_false, reduceIte, Nat.reduceSub, Nat.reduceAdd, ne_eq, Int.cast_ofNat_Int, Int.reduceBEq, Int.reduceLT, Int.reduceLE, Int.reduceEq, Int.reduceNeg, Int.reduceMul, Int.reduceAdd, Int.reduceSub, decide_true, decide_false, List.length_cons, List.length_nil, beq_self_eq_true, not_false_eq_true, not_true_eq_false , gLenSet_eq, lsR_l, gCompN_eq, mkN_l, gCat2_eq, lstOf_l, insertM_r, extendM_r, gListRg_eq, gSlV_eq, slVK_s, gForM_eq, toSM_ok, gItM_eq, mkB_t, mkB_f]
  exact ⟨_, rfl⟩

def top (i : Nat) : Stmt := PySem.Challenge.pw_seatclocks_k54_steps_of_haps.main.body.getD i (.Pass ⟨0, 0, 0, 0⟩)
theorem d__law_take {P : Program} {w : World} {K : PySem.W.Frag} {mg : Str → Option Value} {base : Heap} {f : Addr} {fd : FuncData} (FD : FunD K "_law_take" "_law_take" (defArgs (top 26)) (defBody (top 26)) (defScope (top 26)) [] [] f fd) (hm : mg "_law_take" = some (.ref f))  :
    Def P w K mg base "_law_take" 2 1 F__law_take := by
  have S : FnScope ["_law_pot_here", "_law_far", "_law_found"] ["_law_pot_here", "_law_far"] (defScope (top 26)) := ⟨rfl, rfl, rfl, by decide +kernel, rfl, by decide +kernel, by decide +kernel⟩
  refine def_of FD S rfl hm (FD.bindsN fun _ _ _ _ _ _ us hl => match us, hl with | [_, _], _ => rfl) (fun cdv A outer s H E hr => ?_) (fun xs st _ => .inr rfl)
  have tk : L2N.Takes (cxOf (L2N.CX P w) P w K mg base ["_law_pot_here", "_law_far", "_law_found"] "_law_take" (defScope (top 26)) f cdv A outer s H E) (fun cls d _ H => E cls d H) := L2N.takes_of rfl rfl rfl rfl
  have po := passes_of (X := cxOf (L2N.CX P w) P w K mg base ["_law_pot_here", "_law_far", "_law_found"] "_law_take" (defScope (top 26)) f cdv A outer s H E) rfl
  exact (ss_cons (ss_set 2 S.nd (se_bin op_modN s_mod (se_ix ix_seq s_ix (se_var 0) se_int) (se_var 1)))
    (ss_cons (ss_store set_list s_setI (se_bin op_fdivG s_fdiv (se_ix ix_seq s_ix (se_var 0) se_int) (se_var 1)) (se_var 0) se_int)
    (ss_one (ss_ret (se_var 2)))))

theorem d__law_fr {P : Program} {w : World} {K : PySem.W.Frag} {mg : Str → Option Value} {base : Heap} {f : Addr} {fd : FuncData} (FD : FunD K "_law_fr" "_law_fr" (defArgs (top 29)) (defBody (top 29)) (defScope (top 29)) [] [] f fd) (hm : mg "_law_fr" = some (.ref f)) (b_abs : mg "abs" = none) :
    Def P w K mg base "_law_fr" 2 1 F__law_fr := by
  have S : FnScope ["_law_top", "_law_bottom", "_law_one", "_law_other"] ["_law_top", "_law_bottom"] (defScope (top 29)) := ⟨rfl, rfl, rfl, by decide +kernel, rfl, by decide +kernel, by decide +kernel⟩
  refine def_of FD S rfl hm (FD.bindsN fun _ _ _ _ _ _ us hl => match us, hl with | [_, _], _ => rfl) (fun cdv A outer s H E hr => ?_) (fun xs st _ => .inr rfl)
  have tk : L2N.Takes (cxOf (L2N.CX P w) P w K mg base ["_law_top", "_law_bottom", "_law_one", "_law_other"] "_law_fr" (defScope (top 29)) f cdv A outer s H E) (fun cls d _ H => E cls d H) := L2N.takes_of rfl rfl rfl rfl
  have po := passes_of (X := cxOf (L2N.CX P w) P w K mg base ["_law_top", "_law_bottom", "_law_one", "_law_other"] "_law_fr" (defScope (top 29)) f cdv A outer s H E) rfl
  exact (ss_cons (ss_par 2 3 rfl S.nd (sa_cons (se_bi call_abs s_abs zb_abs b_abs (sa_cons (se_var 0) sa_nil)) (sa_cons (se_bi call_abs s_abs zb_abs b_abs (sa_cons (se_var 1) sa_nil)) sa_nil)))
    (ss_cons (ss_while (muI 3) po (st_cmp (op_neD hr.units) s_ne (se_var 3) se_int) (ss_one (ss_par 2 3 rfl S.nd (sa_cons (se_var 3) (sa_cons (se_bin op_modN s_mod (se_var 2) (se_var 3)) sa_nil)))))
    (ss_cons (ss_if (st_cmp op_lt s_lt (se_var 1) se_int) (ss_one (ss_set 2 S.nd (se_bin op_sub s_sub se_int (se_var 2)))) ss_nil)
    (ss_one (ss_ret (se_tup (sa_cons (se_bin op_fdivG s_fdiv (se_var 0) (se_var 2)) (sa_cons (se_bin op_fdivG s_fdiv (se_var 1) (se_var 2)) sa_nil))))))))

theorem d__law_list {P : Program} {w : World} {K : PySem.W.Frag} {mg : Str → Option Value} {base : Heap} {f : Addr} {fd : FuncData} (FD : FunD K "_law_list" "_law_list" (defArgs (top 32)) (defBody (top 32)) (defScope (top 32)) [] [] f fd) (hm : mg "_law_list" = some (.ref f)) (b_range : mg "range" = none) (D__law_take : Def P w K mg base "_law_take" 2 1 F__law_take) (D__law_fr : Def P w K mg base "_law_fr" 2 1 F__law_fr) :
    Def P w K mg base "_law_list" 2 2 F__law_list := by
  have S : FnScope ["_law_pot_here", "_law_most", "_law_found", "_law_wide", "_law_bottom", "_law_turn", "_law_hap"] ["_law_pot_here", "_law_most"] (defScope (top 32)) := ⟨rfl, rfl, rfl, by decide +kernel, rfl, by decide +kernel, by decide +kernel⟩
  refine def_leave FD S rfl hm (FD.bindsN fun _ _ _ _ _ _ us hl => match us, hl with | [_, _], _ => rfl) (fun cdv A outer s H E hr => ?_) (fun xs st _ => .inr rfl)
  have tk : L2N.Takes (cxOf (L2N.CX P w) P w K mg base ["_law_pot_here", "_law_most", "_law_found", "_law_wide", "_law_bottom", "_law_turn", "_law_hap"] "_law_list" (defScope (top 32)) f cdv A outer s H E) (fun cls d _ H => E cls d H) := L2N.takes_of rfl rfl rfl rfl
  have po := passes_of (X := cxOf (L2N.CX P w) P w K mg base ["_law_pot_here", "_law_most", "_law_found", "_law_wide", "_law_bottom", "_law_turn", "_law_hap"] "_law_list" (defScope (top 32)) f cdv A outer s H E) rfl
  exact (ss_cons (ss_set 2 S.nd (se_new sa_nil))
    (ss_cons (ss_set 3 S.nd (se_ix ix_seq s_ix (se_lst (sa_cons se_int (sa_cons se_int (sa_cons se_int sa_nil)))) (se_call D__law_take (hr.mono (by omega)) tk (sa_cons (se_var 0) (sa_cons se_int sa_nil)))))
    (ss_cons (ss_set 4 S.nd (se_bin o_add s_add se_int (se_call D__law_take (hr.mono (by omega)) tk (sa_cons (se_var 0) (sa_cons se_int sa_nil)))))
    (ss_cons (ss_for (is := [5]) po rfl (si_rng1 b_range (se_bin o_add s_add se_int (se_call D__law_take (hr.mono (by omega)) tk (sa_cons (se_var 0) (sa_cons (se_var 1) sa_nil))))) (sg_name 5 S.nd) (ss_cons (ss_set 6 S.nd (se_tup (sa_cons (se_call D__law_fr (hr.mono (by omega)) tk (sa_cons (se_bin op_sub s_sub (se_call D__law_take (hr.mono (by omega)) tk (sa_cons (se_var 0) (sa_cons (se_var 3) sa_nil))) (se_bin op_fdivG s_fdiv (se_var 3) se_int)) (sa_cons (se_var 4) sa_nil))) (sa_cons (se_call D__law_fr (hr.mono (by omega)) tk (sa_cons (se_bin op_sub s_sub (se_call D__law_take (hr.mono (by omega)) tk (sa_cons (se_var 0) (sa_cons (se_var 3) sa_nil))) (se_bin op_fdivG s_fdiv (se_var 3) se_int)) (sa_cons (se_var 4) sa_nil))) sa_nil))))
    (ss_one (ss_if (st_cmp (op_notInD (u65 hr)) s_notInD (se_var 6) (se_var 2)) (ss_one (ss_expr (se_m PySem.F.plainAttrs_list PySem.F.slot_list_append PySem.F.type_list_append mt_append s_append n_append (se_var 2) (sa_cons (se_var 6) sa_nil)))) ss_nil))))
    (ss_one (ss_ret (se_var 2)))))))

theorem d__law_pot {P : Program} {w : World} {K : PySem.W.Frag} {mg : Str → Option Value} {base : Heap} {f : Addr} {fd : FuncData} (FD : FunD K "_law_pot" "_law_pot" (defArgs (top 25)) (defBody (top 25)) (defScope (top 25)) [] [] f fd) (hm : mg "_law_pot" = some (.ref f)) (b_range : mg "range" = none) :
    Def P w K mg base "_law_pot" 1 1 F__law_pot := by
  have S : FnScope ["_law_cell", "_law_number", "_law_j", "_law_more"] ["_law_cell"] (defScope (top 25)) := ⟨rfl, rfl, rfl, by decide +kernel, rfl, by decide +kernel, by decide +kernel⟩
  refine def_of FD S rfl hm (FD.bindsN fun _ _ _ _ _ _ us hl => match us, hl with | [_], _ => rfl) (fun cdv A outer s H E hr => ?_) (fun xs st _ => .inr rfl)
  have tk : L2N.Takes (cxOf (L2N.CX P w) P w K mg base ["_law_cell", "_law_number", "_law_j", "_law_more"] "_law_pot" (defScope (top 25)) f cdv A outer s H E) (fun cls d _ H => E cls d H) := L2N.takes_of rfl rfl rfl rfl
  have po := passes_of (X := cxOf (L2N.CX P w) P w K mg base ["_law_cell", "_law_number", "_law_j", "_law_more"] "_law_pot" (defScope (top 25)) f cdv A outer s H E) rfl
  exact (ss_cons (ss_if (st_cmp op_ge s_ge (se_var 0) (se_bin op_pow s_pow se_int se_int)) (ss_one (ss_ret (se_new (sa_cons (se_bin op_sub s_sub (se_var 0) (se_bin op_pow s_pow se_int se_int)) sa_nil)))) ss_nil)
    (ss_cons (ss_set 1 S.nd se_int)
    (ss_cons (ss_for (is := [2]) po rfl (si_rng1 b_range se_int) (sg_name 2 S.nd) (ss_cons (ss_set 3 S.nd (se_bin op_modN s_mod (se_bin op_mulW s_mul (se_bin o_add s_add (se_bin o_add s_add (se_bin op_modN s_mod (se_var 0) se_int) (se_bin op_mulW s_mul se_int (se_var 2))) se_int) se_int) se_int))
    (ss_cons (ss_set 3 S.nd (se_bin op_modN s_mod (se_bin o_add s_add (se_bin o_add s_add (se_bin op_mulW s_mul (se_var 3) (se_var 3)) (se_bin op_mulW s_mul se_int (se_var 2))) se_int) se_int))
    (ss_one (ss_set 1 S.nd (se_bin o_add s_add (se_bin op_mulW s_mul (se_var 1) se_int) (se_var 3)))))))
    (ss_one (ss_ret (se_new (sa_cons (se_var 1) sa_nil)))))))

theorem d__law_cell_at {P : Program} {w : World} {K : PySem.W.Frag} {mg : Str → Option Value} {base : Heap} {f : Addr} {fd : FuncData} (FD : FunD K "_law_cell_at" "_law_cell_at" (defArgs (top 24)) (defBody (top 24)) (defScope (top 24)) [] [] f fd) (hm : mg "_law_cell_at" = some (.ref f)) (b_len : mg "len" = none) :
    Def P w K mg base "_law_cell_at" 2 1 F__law_cell_at := by
  have S : FnScope ["_law_script", "_law_k"] ["_law_script", "_law_k"] (defScope (top 24)) := ⟨rfl, rfl, rfl, by decide +kernel, rfl, by decide +kernel, by decide +kernel⟩
  refine def_of FD S rfl hm (FD.bindsN fun _ _ _ _ _ _ us hl => match us, hl with | [_, _], _ => rfl) (fun cdv A outer s H E hr => ?_) (fun xs st _ => .inr rfl)
  have tk : L2N.Takes (cxOf (L2N.CX P w) P w K mg base ["_law_script", "_law_k"] "_law_cell_at" (defScope (top 24)) f cdv A outer s H E) (fun cls d _ H => E cls d H) := L2N.takes_of rfl rfl rfl rfl
  have po := passes_of (X := cxOf (L2N.CX P w) P w K mg base ["_law_script", "_law_k"] "_law_cell_at" (defScope (top 24)) f cdv A outer s H E) rfl
  exact (ss_cons (ss_if (st_cmp op_lt s_lt (se_var 1) (se_bi call_len s_len zb_len b_len (sa_cons (se_var 0) sa_nil))) (ss_one (ss_ret (se_ix ix_seq s_ix (se_var 0) (se_var 1)))) ss_nil)
    (ss_one (ss_ret se_int)))

theorem d__law_less {P : Program} {w : World} {K : PySem.W.Frag} {mg : Str → Option Value} {base : Heap} {f : Addr} {fd : FuncData} (FD : FunD K "_law_less" "_law_less" (defArgs (top 30)) (defBody (top 30)) (defScope (top 30)) [] [] f fd) (hm : mg "_law_less" = some (.ref f)) (D__law_fr : Def P w K mg base "_law_fr" 2 1 F__law_fr) :
    Def P w K mg base "_law_less" 2 2 F__law_less := by
  have S : FnScope ["_law_one", "_law_other"] ["_law_one", "_law_other"] (defScope (top 30)) := ⟨rfl, rfl, rfl, by decide +kernel, rfl, by decide +kernel, by decide +kernel⟩
  refine def_of FD S rfl hm (FD.bindsN fun _ _ _ _ _ _ us hl => match us, hl with | [_, _], _ => rfl) (fun cdv A outer s H E hr => ?_) (fun xs st _ => .inr rfl)
  have tk : L2N.Takes (cxOf (L2N.CX P w) P w K mg base ["_law_one", "_law_other"] "_law_less" (defScope (top 30)) f cdv A outer s H E) (fun cls d _ H => E cls d H) := L2N.takes_of rfl rfl rfl rfl
  have po := passes_of (X := cxOf (L2N.CX P w) P w K mg base ["_law_one", "_law_other"] "_law_less" (defScope (top 30)) f cdv A outer s H E) rfl
  exact (ss_one (ss_ret (se_call D__law_fr (hr.mono (by omega)) tk (sa_cons (se_bin op_sub s_sub (se_bin op_mulW s_mul (se_ix ix_seq s_ix (se_var 0) se_int) (se_ix ix_seq s_ix (se_var 1) se_int)) (se_bin op_mulW s_mul (se_ix ix_seq s_ix (se_var 1) se_int) (se_ix ix_seq s_ix (se_var 0) se_int))) (sa_cons (se_bin op_mulW s_mul (se_ix ix_seq s_ix (se_var 0) se_int) (se_ix ix_seq s_ix (se_var 1) se_int)) sa_nil)))))

theorem d__law_below {P : Program} {w : World} {K : PySem.W.Frag} {mg : Str → Option Value} {base : Heap} {f : Addr} {fd : FuncData} (FD : FunD K "_law_below" "_law_below" (defArgs (top 31)) (defBody (top 31)) (defScope (top 31)) [] [] f fd) (hm : mg "_law_below" = some (.ref f))  :
    Def P w K mg base "_law_below" 2 1 F__law_below := by
  have S : FnScope ["_law_one", "_law_other"] ["_law_one", "_law_other"] (defScope (top 31)) := ⟨rfl, rfl, rfl, by decide +kernel, rfl, by decide +kernel, by decide +kernel⟩
  refine def_of FD S rfl hm (FD.bindsN fun _ _ _ _ _ _ us hl => match us, hl with | [_, _], _ => rfl) (fun cdv A outer s H E hr => ?_) (fun xs st _ => .inr rfl)
  have tk : L2N.Takes (cxOf (L2N.CX P w) P w K mg base ["_law_one", "_law_other"] "_law_below" (defScope (top 31)) f cdv A outer s H E) (fun cls d _ H => E cls d H) := L2N.takes_of rfl rfl rfl rfl
  have po := passes_of (X := cxOf (L2N.CX P w) P w K mg base ["_law_one", "_law_other"] "_law_below" (defScope (top 31)) f cdv A outer s H E) rfl
  exact (ss_one (ss_ret (se_cmp op_lt s_lt (se_bin op_mulW s_mul (se_ix ix_seq s_ix (se_var 0) se_int) (se_ix ix_seq s_ix (se_var 1) se_int)) (se_bin op_mulW s_mul (se_ix ix_seq s_ix (se_var 1) se_int) (se_ix ix_seq s_ix (se_var 0) se_int)))))

theorem d__law_later {P : Program} {w : World} {K : PySem.W.Frag} {mg : Str → Option Value} {base : Heap} {f : Addr} {fd : FuncData} (FD : FunD K "_law_later" "_law_later" (defArgs (top 33)) (defBody (top 33)) (defScope (top 33)) [] [] f fd) (hm : mg "_law_later" = some (.ref f)) (b_abs : mg "abs" = none) (D__law_less : Def P w K mg base "_law_less" 2 2 F__law_less) (D__law_below : Def P w K mg base "_law_below" 2 1 F__law_below) :
    Def P w K mg base "_law_later" 2 3 F__law_later := by
  have S : FnScope ["_law_one", "_law_other", "_law_lapse", "_law_gap"] ["_law_one", "_law_other"] (defScope (top 33)) := ⟨rfl, rfl, rfl, by decide +kernel, rfl, by decide +kernel, by decide +kernel⟩
  refine def_of FD S rfl hm (FD.bindsN fun _ _ _ _ _ _ us hl => match us, hl with | [_, _], _ => rfl) (fun cdv A outer s H E hr => ?_) (fun xs st _ => .inr rfl)
  have tk : L2N.Takes (cxOf (L2N.CX P w) P w K mg base ["_law_one", "_law_other", "_law_lapse", "_law_gap"] "_law_later" (defScope (top 33)) f cdv A outer s H E) (fun cls d _ H => E cls d H) := L2N.takes_of rfl rfl rfl rfl
  have po := passes_of (X := cxOf (L2N.CX P w) P w K mg base ["_law_one", "_law_other", "_law_lapse", "_law_gap"] "_law_later" (defScope (top 33)) f cdv A outer s H E) rfl
  exact (ss_cons (ss_set 2 S.nd (se_call D__law_less (hr.mono (by omega)) tk (sa_cons (se_ix ix_seq s_ix (se_var 1) se_int) (sa_cons (se_ix ix_seq s_ix (se_var 0) se_int) sa_nil))))
    (ss_cons (ss_set 3 S.nd (se_call D__law_less (hr.mono (by omega)) tk (sa_cons (se_ix ix_seq s_ix (se_var 1) se_int) (sa_cons (se_ix ix_seq s_ix (se_var 0) se_int) sa_nil))))
    (ss_one (ss_ret (se_and (se_cmp (op_neD hr.units) s_ne (se_var 0) (se_var 1)) (se_and1 (se_vt (se_not (se_call D__law_below (hr.mono (by omega)) tk (sa_cons (se_var 2) (sa_cons (se_tup (sa_cons (se_bi call_abs s_abs zb_abs b_abs (sa_cons (se_ix ix_seq s_ix (se_var 3) se_int) sa_nil)) (sa_cons (se_ix ix_seq s_ix (se_var 3) se_int) sa_nil))) sa_nil)))))))))))

theorem d__law_rows {P : Program} {w : World} {K : PySem.W.Frag} {mg : Str → Option Value} {base : Heap} {f : Addr} {fd : FuncData} (FD : FunD K "_law_rows" "_law_rows" (defArgs (top 34)) (defBody (top 34)) (defScope (top 34)) [] [] f fd) (hm : mg "_law_rows" = some (.ref f)) (b_range : mg "range" = none) (b_len : mg "len" = none) (D__law_later : Def P w K mg base "_law_later" 2 3 F__law_later) :
    Def P w K mg base "_law_rows" 1 4 F__law_rows := by
  have S : FnScope ["_law_haps", "_law_i", "_law_j"] ["_law_haps"] (defScope (top 34)) := ⟨rfl, rfl, rfl, by decide +kernel, rfl, by decide +kernel, by decide +kernel⟩
  refine def_of FD S rfl hm (FD.bindsN fun _ _ _ _ _ _ us hl => match us, hl with | [_], _ => rfl) (fun cdv A outer s H E hr => ?_) (fun xs st _ => .inr rfl)
  have tk : L2N.Takes (cxOf (L2N.CX P w) P w K mg base ["_law_haps", "_law_i", "_law_j"] "_law_rows" (defScope (top 34)) f cdv A outer s H E) (fun cls d _ H => E cls d H) := L2N.takes_of rfl rfl rfl rfl
  have po := passes_of (X := cxOf (L2N.CX P w) P w K mg base ["_law_haps", "_law_i", "_law_j"] "_law_rows" (defScope (top 34)) f cdv A outer s H E) rfl
  exact (ss_one (ss_ret (se_comp [("_law_i", 1)] rfl S.nd (si_rng1 b_range (se_bi call_len s_len zb_len b_len (sa_cons (se_var 0) sa_nil))) (blkOk_by (by show blkC ["_law_haps", "_law_i", "_law_j"] (defScope (top 34)) _ _ = true; decide +kernel)) (fun _ _ _ _ _ => (sg_name 1 S.nd)) (fun _ _ _ _ _ => tt_nil) (fun _ _ _ _ _ => (se_comp [("_law_j", 2)] rfl S.nd (si_rng1 b_range (se_bi call_len s_len zb_len b_len (sa_cons (se_var 0) sa_nil))) (blkOk_nest ["_law_haps", "_law_i", "_law_j"] rfl (by decide +kernel)) (fun _ _ _ _ _ => (sg_name 2 S.nd)) (fun _ _ _ _ _ => (tt_one (st_val (se_call D__law_later (hr.mono (by omega)) takes0N (sa_cons (se_ix ix_seq s_ix (se_var 0) (se_var 1)) (sa_cons (se_ix ix_seq s_ix (se_var 0) (se_var 2)) sa_nil)))))) (fun _ _ _ _ _ => (se_var 2)))))))

theorem d_is_whole {P : Program} {w : World} {K : PySem.W.Frag} {mg : Str → Option Value} {base : Heap} {f : Addr} {fd : FuncData} (FD : FunD K "is_whole" "is_whole" (defArgs (top 5)) (defBody (top 5)) (defScope (top 5)) [] [] f fd) (hm : mg "is_whole" = some (.ref f)) (b_isinstance : mg "isinstance" = none) (b_int : mg "int" = none) (b_bool : mg "bool" = none) :
    Def P w K mg base "is_whole" 1 1 F_is_whole := by
  have S : FnScope ["thing"] ["thing"] (defScope (top 5)) := ⟨rfl, rfl, rfl, by decide +kernel, rfl, by decide +kernel, by decide +kernel⟩
  refine def_of FD S rfl hm (FD.bindsN fun _ _ _ _ _ _ us hl => match us, hl with | [_], _ => rfl) (fun cdv A outer s H E hr => ?_) (fun xs st _ => .inr rfl)
  have tk : L2N.Takes (cxOf (L2N.CX P w) P w K mg base ["thing"] "is_whole" (defScope (top 5)) f cdv A outer s H E) (fun cls d _ H => E cls d H) := L2N.takes_of rfl rfl rfl rfl
  have po := passes_of (X := cxOf (L2N.CX P w) P w K mg base ["thing"] "is_whole" (defScope (top 5)) f cdv A outer s H E) rfl
  exact (ss_one (ss_ret (se_and (se_bi call_isi s_isi zb_isinstance b_isinstance (sa_cons (se_var 0) (sa_cons (se_ty zb_int b_int) sa_nil))) (se_and1 (se_vt (se_not (se_bi call_isi s_isi zb_isinstance b_isinstance (sa_cons (se_var 0) (sa_cons (se_ty zb_bool b_bool) sa_nil)))))))))

theorem d_common {P : Program} {w : World} {K : PySem.W.Frag} {mg : Str → Option Value} {base : Heap} {f : Addr} {fd : FuncData} (FD : FunD K "common" "common" (defArgs (top 6)) (defBody (top 6)) (defScope (top 6)) [] [] f fd) (hm : mg "common" = some (.ref f)) (b_abs : mg "abs" = none) :
    Def P w K mg base "common" 2 1 F_common := by
  have S : FnScope ["one", "other"] ["one", "other"] (defScope (top 6)) := ⟨rfl, rfl, rfl, by decide +kernel, rfl, by decide +kernel, by decide +kernel⟩
  refine def_of FD S rfl hm (FD.bindsN fun _ _ _ _ _ _ us hl => match us, hl with | [_, _], _ => rfl) (fun cdv A outer s H E hr => ?_) (fun xs st _ => .inr rfl)
  have tk : L2N.Takes (cxOf (L2N.CX P w) P w K mg base ["one", "other"] "common" (defScope (top 6)) f cdv A outer s H E) (fun cls d _ H => E cls d H) := L2N.takes_of rfl rfl rfl rfl
  have po := passes_of (X := cxOf (L2N.CX P w) P w K mg base ["one", "other"] "common" (defScope (top 6)) f cdv A outer s H E) rfl
  exact (ss_cons (ss_par 0 1 rfl S.nd (sa_cons (se_bi call_abs s_abs zb_abs b_abs (sa_cons (se_var 0) sa_nil)) (sa_cons (se_bi call_abs s_abs zb_abs b_abs (sa_cons (se_var 1) sa_nil)) sa_nil)))
    (ss_cons (ss_while (muI 1) po (st_cmp op_gt s_gt (se_var 1) se_int) (ss_one (ss_par 0 1 rfl S.nd (sa_cons (se_var 1) (sa_cons (se_bin op_modN s_mod (se_var 0) (se_var 1)) sa_nil)))))
    (ss_one (ss_ret (se_var 0)))))

theorem d_is_fraction {P : Program} {w : World} {K : PySem.W.Frag} {mg : Str → Option Value} {base : Heap} {f : Addr} {fd : FuncData} (FD : FunD K "is_fraction" "is_fraction" (defArgs (top 7)) (defBody (top 7)) (defScope (top 7)) [] [] f fd) (hm : mg "is_fraction" = some (.ref f)) (b_isinstance : mg "isinstance" = none) (b_tuple : mg "tuple" = none) (b_len : mg "len" = none) (D_is_whole : Def P w K mg base "is_whole" 1 1 F_is_whole) (D_common : Def P w K mg base "common" 2 1 F_common) :
    Def P w K mg base "is_fraction" 1 2 F_is_fraction := by
  have S : FnScope ["thing"] ["thing"] (defScope (top 7)) := ⟨rfl, rfl, rfl, by decide +kernel, rfl, by decide +kernel, by decide +kernel⟩
  refine def_of FD S rfl hm (FD.bindsN fun _ _ _ _ _ _ us hl => match us, hl with | [_], _ => rfl) (fun cdv A outer s H E hr => ?_) (fun xs st _ => .inr rfl)
  have tk : L2N.Takes (cxOf (L2N.CX P w) P w K mg base ["thing"] "is_fraction" (defScope (top 7)) f cdv A outer s H E) (fun cls d _ H => E cls d H) := L2N.takes_of rfl rfl rfl rfl
  have po := passes_of (X := cxOf (L2N.CX P w) P w K mg base ["thing"] "is_fraction" (defScope (top 7)) f cdv A outer s H E) rfl
  exact (ss_cons (ss_if (st_or (st_not (st_val (se_bi call_isi s_isi zb_isinstance b_isinstance (sa_cons (se_var 0) (sa_cons (se_ty zb_tuple b_tuple) sa_nil))))) (st_or (st_cmp (op_neD hr.units) s_ne (se_bi call_len s_len zb_len b_len (sa_cons (se_var 0) sa_nil)) se_int) (st_or (st_not (st_val (se_call D_is_whole (hr.mono (by omega)) tk (sa_cons (se_ix ix_seq s_ix (se_var 0) se_int) sa_nil)))) (st_or1 (st_not (st_val (se_call D_is_whole (hr.mono (by omega)) tk (sa_cons (se_ix ix_seq s_ix (se_var 0) se_int) sa_nil)))))))).pt (ss_one (ss_ret se_bl)) ss_nil)
    (ss_one (ss_ret (se_and (se_cmp op_gt s_gt (se_ix ix_seq s_ix (se_var 0) se_int) se_int) (se_and1 (se_vt (se_cmp (op_eqD hr.units) s_eq (se_call D_common (hr.mono (by omega)) tk (sa_cons (se_ix ix_seq s_ix (se_var 0) se_int) (sa_cons (se_ix ix_seq s_ix (se_var 0) se_int) sa_nil))) se_int)))))))

theorem d_is_hap {P : Program} {w : World} {K : PySem.W.Frag} {mg : Str → Option Value} {base : Heap} {f : Addr} {fd : FuncData} (FD : FunD K "is_hap" "is_hap" (defArgs (top 12)) (defBody (top 12)) (defScope (top 12)) [] [] f fd) (hm : mg "is_hap" = some (.ref f)) (b_isinstance : mg "isinstance" = none) (b_tuple : mg "tuple" = none) (b_len : mg "len" = none) (D_is_fraction : Def P w K mg base "is_fraction" 1 2 F_is_fraction) :
    Def P w K mg base "is_hap" 1 3 F_is_hap := by
  have S : FnScope ["thing"] ["thing"] (defScope (top 12)) := ⟨rfl, rfl, rfl, by decide +kernel, rfl, by decide +kernel, by decide +kernel⟩
  refine def_of FD S rfl hm (FD.bindsN fun _ _ _ _ _ _ us hl => match us, hl with | [_], _ => rfl) (fun cdv A outer s H E hr => ?_) (fun xs st _ => .inr rfl)
  have tk : L2N.Takes (cxOf (L2N.CX P w) P w K mg base ["thing"] "is_hap" (defScope (top 12)) f cdv A outer s H E) (fun cls d _ H => E cls d H) := L2N.takes_of rfl rfl rfl rfl
  have po := passes_of (X := cxOf (L2N.CX P w) P w K mg base ["thing"] "is_hap" (defScope (top 12)) f cdv A outer s H E) rfl
  exact (ss_one (ss_ret (se_and (se_bi call_isi s_isi zb_isinstance b_isinstance (sa_cons (se_var 0) (sa_cons (se_ty zb_tuple b_tuple) sa_nil))) (se_and (se_cmp (op_eqD hr.units) s_eq (se_bi call_len s_len zb_len b_len (sa_cons (se_var 0) sa_nil)) se_int) (se_and (se_call D_is_fraction (hr.mono (by omega)) tk (sa_cons (se_ix ix_seq s_ix (se_var 0) se_int) sa_nil)) (se_and1 (se_vt (se_call D_is_fraction (hr.mono (by omega)) tk (sa_cons (se_ix ix_seq s_ix (se_var 0) se_int) sa_nil)))))))))

theorem d_check_list {P : Program} {w : World} {K : PySem.W.Frag} {mg : Str → Option Value} {base : Heap} {f : Addr} {fd : FuncData} (FD : FunD K "check_list" "check_list" (defArgs (top 18)) (defBody (top 18)) (defScope (top 18)) [] [] f fd) (hm : mg "check_list" = some (.ref f)) (b_isinstance : mg "isinstance" = none) (b_list : mg "list" = none) (b_len : mg "len" = none) (b_all : mg "all" = none) (b_set : mg "set" = none) (c_MOST_IN_CHAINS : Con K mg "MOST_IN_CHAINS" (.int 12)) (x_NoHaps : ExcF K mg "NoHaps") (D_is_hap : Def P w K mg base "is_hap" 1 3 F_is_hap) :
    Def P w K mg base "check_list" 1 4 F_check_list := by
  have S : FnScope ["thing", "hap"] ["thing"] (defScope (top 18)) := ⟨rfl, rfl, rfl, by decide +kernel, rfl, by decide +kernel, by decide +kernel⟩
  refine def_of FD S rfl hm (FD.bindsN fun _ _ _ _ _ _ us hl => match us, hl with | [_], _ => rfl) (fun cdv A outer s H E hr => ?_) (fun xs st _ => .inr rfl)
  have tk : L2N.Takes (cxOf (L2N.CX P w) P w K mg base ["thing", "hap"] "check_list" (defScope (top 18)) f cdv A outer s H E) (fun cls d _ H => E cls d H) := L2N.takes_of rfl rfl rfl rfl
  have po := passes_of (X := cxOf (L2N.CX P w) P w K mg base ["thing", "hap"] "check_list" (defScope (top 18)) f cdv A outer s H E) rfl
  exact (ss_cons (ss_if (st_or (st_not (st_val (se_bi call_isi s_isi zb_isinstance b_isinstance (sa_cons (se_var 0) (sa_cons (se_ty zb_list b_list) sa_nil))))) (st_or (st_not (st_chain op_le op_le s_le s_le se_int (se_bi call_len s_len zb_len b_len (sa_cons (se_var 0) sa_nil)) (se_con c_MOST_IN_CHAINS))) (st_or1 (st_not (st_val (se_bi (cr_all rfl) s_all zb_all b_all (sa_cons (se_comp [("hap", 1)] rfl S.nd (si_list (se_var 0)) (blkOk_by (by show blkC ["thing", "hap"] (defScope (top 18)) _ _ = true; decide +kernel)) (fun _ _ _ _ _ => (sg_name 1 S.nd)) (fun _ _ _ _ _ => tt_nil) (fun _ _ _ _ _ => (se_call D_is_hap (hr.mono (by omega)) takes0N (sa_cons (se_var 1) sa_nil)))) sa_nil))))))).pt (ss_one (ss_raise rfl tk x_NoHaps.1 x_NoHaps.2.1 x_NoHaps.2.2.1 x_NoHaps.2.2.2.1 x_NoHaps.2.2.2.2)) ss_nil)
    (ss_one (ss_if (st_cmp (op_neD hr.units) s_ne (se_lenSet rfl hr.units (se_var 0) (hm := b_len) (hm2 := b_set)) (se_bi call_len s_len zb_len b_len (sa_cons (se_var 0) sa_nil))) (ss_one (ss_raise rfl tk x_NoHaps.1 x_NoHaps.2.1 x_NoHaps.2.2.1 x_NoHaps.2.2.2.1 x_NoHaps.2.2.2.2)) ss_nil)))

theorem d_fraction {P : Program} {w : World} {K : PySem.W.Frag} {mg : Str → Option Value} {base : Heap} {f : Addr} {fd : FuncData} (FD : FunD K "fraction" "fraction" (defArgs (top 8)) (defBody (top 8)) (defScope (top 8)) [] [] f fd) (hm : mg "fraction" = some (.ref f)) (x_NoFraction : ExcF K mg "NoFraction") (D_common : Def P w K mg base "common" 2 1 F_common) :
    Def P w K mg base "fraction" 2 2 F_fraction := by
  have S : FnScope ["top", "bottom", "part"] ["top", "bottom"] (defScope (top 8)) := ⟨rfl, rfl, rfl, by decide +kernel, rfl, by decide +kernel, by decide +kernel⟩
  refine def_of FD S rfl hm (FD.bindsN fun _ _ _ _ _ _ us hl => match us, hl with | [_, _], _ => rfl) (fun cdv A outer s H E hr => ?_) (fun xs st _ => .inr rfl)
  have tk : L2N.Takes (cxOf (L2N.CX P w) P w K mg base ["top", "bottom", "part"] "fraction" (defScope (top 8)) f cdv A outer s H E) (fun cls d _ H => E cls d H) := L2N.takes_of rfl rfl rfl rfl
  have po := passes_of (X := cxOf (L2N.CX P w) P w K mg base ["top", "bottom", "part"] "fraction" (defScope (top 8)) f cdv A outer s H E) rfl
  exact (ss_cons (ss_if (st_cmp (op_eqD hr.units) s_eq (se_var 1) se_int) (ss_one (ss_raise rfl tk x_NoFraction.1 x_NoFraction.2.1 x_NoFraction.2.2.1 x_NoFraction.2.2.2.1 x_NoFraction.2.2.2.2)) ss_nil)
    (ss_cons (ss_if (st_cmp op_lt s_lt (se_var 1) se_int) (ss_one (ss_par 0 1 rfl S.nd (sa_cons (se_bin op_sub s_sub se_int (se_var 0)) (sa_cons (se_bin op_sub s_sub se_int (se_var 1)) sa_nil)))) ss_nil)
    (ss_cons (ss_set 2 S.nd (se_call D_common (hr.mono (by omega)) tk (sa_cons (se_var 0) (sa_cons (se_var 1) sa_nil))))
    (ss_one (ss_ret (se_tup (sa_cons (se_bin op_fdivG s_fdiv (se_var 0) (se_var 2)) (sa_cons (se_bin op_fdivG s_fdiv (se_var 1) (se_var 2)) sa_nil))))))))

theorem d_less {P : Program} {w : World} {K : PySem.W.Frag} {mg : Str → Option Value} {base : Heap} {f : Addr} {fd : FuncData} (FD : FunD K "less" "less" (defArgs (top 9)) (defBody (top 9)) (defScope (top 9)) [] [] f fd) (hm : mg "less" = some (.ref f)) (D_fraction : Def P w K mg base "fraction" 2 2 F_fraction) :
    Def P w K mg base "less" 2 3 F_less := by
  have S : FnScope ["one", "other"] ["one", "other"] (defScope (top 9)) := ⟨rfl, rfl, rfl, by decide +kernel, rfl, by decide +kernel, by decide +kernel⟩
  refine def_of FD S rfl hm (FD.bindsN fun _ _ _ _ _ _ us hl => match us, hl with | [_, _], _ => rfl) (fun cdv A outer s H E hr => ?_) (fun xs st _ => .inr rfl)
  have tk : L2N.Takes (cxOf (L2N.CX P w) P w K mg base ["one", "other"] "less" (defScope (top 9)) f cdv A outer s H E) (fun cls d _ H => E cls d H) := L2N.takes_of rfl rfl rfl rfl
  have po := passes_of (X := cxOf (L2N.CX P w) P w K mg base ["one", "other"] "less" (defScope (top 9)) f cdv A outer s H E) rfl
  exact (ss_one (ss_ret (se_call D_fraction (hr.mono (by omega)) tk (sa_cons (se_bin op_sub s_sub (se_bin op_mulW s_mul (se_ix ix_seq s_ix (se_var 0) se_int) (se_ix ix_seq s_ix (se_var 1) se_int)) (se_bin op_mulW s_mul (se_ix ix_seq s_ix (se_var 1) se_int) (se_ix ix_seq s_ix (se_var 0) se_int))) (sa_cons (se_bin op_mulW s_mul (se_ix ix_seq s_ix (se_var 0) se_int) (se_ix ix_seq s_ix (se_var 1) se_int)) sa_nil)))))

theorem d_lapse_and_gap {P : Program} {w : World} {K : PySem.W.Frag} {mg : Str → Option Value} {base : Heap} {f : Addr} {fd : FuncData} (FD : FunD K "lapse_and_gap" "lapse_and_gap" (defArgs (top 14)) (defBody (top 14)) (defScope (top 14)) [] [] f fd) (hm : mg "lapse_and_gap" = some (.ref f)) (D_less : Def P w K mg base "less" 2 3 F_less) :
    Def P w K mg base "lapse_and_gap" 2 4 F_lapse_and_gap := by
  have S : FnScope ["one", "other"] ["one", "other"] (defScope (top 14)) := ⟨rfl, rfl, rfl, by decide +kernel, rfl, by decide +kernel, by decide +kernel⟩
  refine def_of FD S rfl hm (FD.bindsN fun _ _ _ _ _ _ us hl => match us, hl with | [_, _], _ => rfl) (fun cdv A outer s H E hr => ?_) (fun xs st _ => .inr rfl)
  have tk : L2N.Takes (cxOf (L2N.CX P w) P w K mg base ["one", "other"] "lapse_and_gap" (defScope (top 14)) f cdv A outer s H E) (fun cls d _ H => E cls d H) := L2N.takes_of rfl rfl rfl rfl
  have po := passes_of (X := cxOf (L2N.CX P w) P w K mg base ["one", "other"] "lapse_and_gap" (defScope (top 14)) f cdv A outer s H E) rfl
  exact (ss_one (ss_ret (se_tup (sa_cons (se_call D_less (hr.mono (by omega)) tk (sa_cons (se_ix ix_seq s_ix (se_var 1) se_int) (sa_cons (se_ix ix_seq s_ix (se_var 0) se_int) sa_nil))) (sa_cons (se_call D_less (hr.mono (by omega)) tk (sa_cons (se_ix ix_seq s_ix (se_var 1) se_int) (sa_cons (se_ix ix_seq s_ix (se_var 0) se_int) sa_nil))) sa_nil)))))

theorem d_is_less {P : Program} {w : World} {K : PySem.W.Frag} {mg : Str → Option Value} {base : Heap} {f : Addr} {fd : FuncData} (FD : FunD K "is_less" "is_less" (defArgs (top 10)) (defBody (top 10)) (defScope (top 10)) [] [] f fd) (hm : mg "is_less" = some (.ref f))  :
    Def P w K mg base "is_less" 2 1 F_is_less := by
  have S : FnScope ["one", "other"] ["one", "other"] (defScope (top 10)) := ⟨rfl, rfl, rfl, by decide +kernel, rfl, by decide +kernel, by decide +kernel⟩
  refine def_of FD S rfl hm (FD.bindsN fun _ _ _ _ _ _ us hl => match us, hl with | [_, _], _ => rfl) (fun cdv A outer s H E hr => ?_) (fun xs st _ => .inr rfl)
  have tk : L2N.Takes (cxOf (L2N.CX P w) P w K mg base ["one", "other"] "is_less" (defScope (top 10)) f cdv A outer s H E) (fun cls d _ H => E cls d H) := L2N.takes_of rfl rfl rfl rfl
  have po := passes_of (X := cxOf (L2N.CX P w) P w K mg base ["one", "other"] "is_less" (defScope (top 10)) f cdv A outer s H E) rfl
  exact (ss_one (ss_ret (se_cmp op_lt s_lt (se_bin op_mulW s_mul (se_ix ix_seq s_ix (se_var 0) se_int) (se_ix ix_seq s_ix (se_var 1) se_int)) (se_bin op_mulW s_mul (se_ix ix_seq s_ix (se_var 1) se_int) (se_ix ix_seq s_ix (se_var 0) se_int)))))

theorem d_kind_of {P : Program} {w : World} {K : PySem.W.Frag} {mg : Str → Option Value} {base : Heap} {f : Addr} {fd : FuncData} (FD : FunD K "kind_of" "kind_of" (defArgs (top 15)) (defBody (top 15)) (defScope (top 15)) [] [] f fd) (hm : mg "kind_of" = some (.ref f)) (b_abs : mg "abs" = none) (D_lapse_and_gap : Def P w K mg base "lapse_and_gap" 2 4 F_lapse_and_gap) (D_is_less : Def P w K mg base "is_less" 2 1 F_is_less) :
    Def P w K mg base "kind_of" 2 5 F_kind_of := by
  have S : FnScope ["one", "other", "wide", "lapse", "gap"] ["one", "other"] (defScope (top 15)) := ⟨rfl, rfl, rfl, by decide +kernel, rfl, by decide +kernel, by decide +kernel⟩
  refine def_of FD S rfl hm (FD.bindsN fun _ _ _ _ _ _ us hl => match us, hl with | [_, _], _ => rfl) (fun cdv A outer s H E hr => ?_) (fun xs st _ => .inr rfl)
  have tk : L2N.Takes (cxOf (L2N.CX P w) P w K mg base ["one", "other", "wide", "lapse", "gap"] "kind_of" (defScope (top 15)) f cdv A outer s H E) (fun cls d _ H => E cls d H) := L2N.takes_of rfl rfl rfl rfl
  have po := passes_of (X := cxOf (L2N.CX P w) P w K mg base ["one", "other", "wide", "lapse", "gap"] "kind_of" (defScope (top 15)) f cdv A outer s H E) rfl
  exact (ss_cons (ss_asg (is := [3, 4]) (se_call D_lapse_and_gap (hr.mono (by omega)) tk (sa_cons (se_var 0) (sa_cons (se_var 1) sa_nil))) (sg_tup rfl (sgs_cons (sg_name 3 S.nd) (sgs_cons (sg_name 4 S.nd) sgs_nil))))
    (ss_cons (ss_set 2 S.nd (se_tup (sa_cons (se_bi call_abs s_abs zb_abs b_abs (sa_cons (se_ix ix_seq s_ix (se_var 4) se_int) sa_nil)) (sa_cons (se_ix ix_seq s_ix (se_var 4) se_int) sa_nil))))
    (ss_cons (ss_if (st_and (st_cmp (op_eqD hr.units) s_eq (se_ix ix_seq s_ix (se_var 3) se_int) se_int) (st_and1 (st_cmp (op_eqD hr.units) s_eq (se_ix ix_seq s_ix (se_var 4) se_int) se_int))).pt (ss_one (ss_ret se_str)) ss_nil)
    (ss_cons (ss_if (st_not (st_val (se_call D_is_less (hr.mono (by omega)) tk (sa_cons (se_var 3) (sa_cons (se_var 2) sa_nil))))) (ss_one (ss_ret se_str)) ss_nil)
    (ss_cons (ss_if (st_not (st_val (se_call D_is_less (hr.mono (by omega)) tk (sa_cons (se_tup (sa_cons (se_bin op_sub s_sub se_int (se_ix ix_seq s_ix (se_var 3) se_int)) (sa_cons (se_ix ix_seq s_ix (se_var 3) se_int) sa_nil))) (sa_cons (se_var 2) sa_nil))))) (ss_one (ss_ret se_str)) ss_nil)
    (ss_one (ss_ret se_str)))))))

theorem d_reaches {P : Program} {w : World} {K : PySem.W.Frag} {mg : Str → Option Value} {base : Heap} {f : Addr} {fd : FuncData} (FD : FunD K "reaches" "reaches" (defArgs (top 19)) (defBody (top 19)) (defScope (top 19)) [] [] f fd) (hm : mg "reaches" = some (.ref f)) (D_kind_of : Def P w K mg base "kind_of" 2 5 F_kind_of) :
    Def P w K mg base "reaches" 3 6 F_reaches := by
  have S : FnScope ["haps", "i", "j"] ["haps", "i", "j"] (defScope (top 19)) := ⟨rfl, rfl, rfl, by decide +kernel, rfl, by decide +kernel, by decide +kernel⟩
  refine def_of FD S rfl hm (FD.bindsN fun _ _ _ _ _ _ us hl => match us, hl with | [_, _, _], _ => rfl) (fun cdv A outer s H E hr => ?_) (fun xs st _ => .inr rfl)
  have tk : L2N.Takes (cxOf (L2N.CX P w) P w K mg base ["haps", "i", "j"] "reaches" (defScope (top 19)) f cdv A outer s H E) (fun cls d _ H => E cls d H) := L2N.takes_of rfl rfl rfl rfl
  have po := passes_of (X := cxOf (L2N.CX P w) P w K mg base ["haps", "i", "j"] "reaches" (defScope (top 19)) f cdv A outer s H E) rfl
  exact (ss_one (ss_ret (se_cmp (op_eqD hr.units) s_eq (se_call D_kind_of (hr.mono (by omega)) tk (sa_cons (se_ix ix_seq s_ix (se_var 0) (se_var 1)) (sa_cons (se_ix ix_seq s_ix (se_var 0) (se_var 2)) sa_nil))) se_str)))

theorem d_rows_of {P : Program} {w : World} {K : PySem.W.Frag} {mg : Str → Option Value} {base : Heap} {f : Addr} {fd : FuncData} (FD : FunD K "rows_of" "rows_of" (defArgs (top 20)) (defBody (top 20)) (defScope (top 20)) [] [] f fd) (hm : mg "rows_of" = some (.ref f)) (b_range : mg "range" = none) (b_len : mg "len" = none) (D_reaches : Def P w K mg base "reaches" 3 6 F_reaches) :
    Def P w K mg base "rows_of" 1 7 F_rows_of := by
  have S : FnScope ["haps", "i", "j"] ["haps"] (defScope (top 20)) := ⟨rfl, rfl, rfl, by decide +kernel, rfl, by decide +kernel, by decide +kernel⟩
  refine def_of FD S rfl hm (FD.bindsN fun _ _ _ _ _ _ us hl => match us, hl with | [_], _ => rfl) (fun cdv A outer s H E hr => ?_) (fun xs st _ => .inr rfl)
  have tk : L2N.Takes (cxOf (L2N.CX P w) P w K mg base ["haps", "i", "j"] "rows_of" (defScope (top 20)) f cdv A outer s H E) (fun cls d _ H => E cls d H) := L2N.takes_of rfl rfl rfl rfl
  have po := passes_of (X := cxOf (L2N.CX P w) P w K mg base ["haps", "i", "j"] "rows_of" (defScope (top 20)) f cdv A outer s H E) rfl
  exact (ss_one (ss_ret (se_compN [("i", 1)] rfl S.nd (si_rng1 b_range (se_bi call_len s_len zb_len b_len (sa_cons (se_var 0) sa_nil))) (blkOk_by (by show blkC ["haps", "i", "j"] (defScope (top 20)) _ _ = true; decide +kernel)) (fun _ _ _ _ _ => (sg_name 1 S.nd)) (fun _ _ _ _ _ => tt_nil) (fun _ _ _ _ _ => (se_compN [("j", 2)] rfl S.nd (si_rng1 b_range (se_bi call_len s_len zb_len b_len (sa_cons (se_var 0) sa_nil))) (blkOk_nest ["haps", "i", "j"] rfl (by decide +kernel)) (fun _ _ _ _ _ => (sg_name 2 S.nd)) (fun _ _ _ _ _ => (tt_one (st_val (se_call D_reaches (hr.mono (by omega)) takes0N (sa_cons (se_var 0) (sa_cons (se_var 1) (sa_cons (se_var 2) sa_nil))))))) (fun _ _ _ _ _ => (se_var 2)))))))

theorem d_ahead_of {P : Program} {w : World} {K : PySem.W.Frag} {mg : Str → Option Value} {base : Heap} {f : Addr} {fd : FuncData} (FD : FunD K "ahead_of" "ahead_of" (defArgs (top 21)) (defBody (top 21)) (defScope (top 21)) [] [] f fd) (hm : mg "ahead_of" = some (.ref f)) (b_len : mg "len" = none) (b_range : mg "range" = none) (b_enumerate : mg "enumerate" = none) (b_max : mg "max" = none) (D_rows_of : Def P w K mg base "rows_of" 1 7 F_rows_of) :
    Def P w K mg base "ahead_of" 1 8 F_ahead_of := by
  have S : FnScope ["haps", "found", "rows", "turn", "i", "row", "j"] ["haps"] (defScope (top 21)) := ⟨rfl, rfl, rfl, by decide +kernel, rfl, by decide +kernel, by decide +kernel⟩
  refine def_of FD S rfl hm (FD.bindsN fun _ _ _ _ _ _ us hl => match us, hl with | [_], _ => rfl) (fun cdv A outer s H E hr => ?_) (fun xs st _ => .inr rfl)
  have tk : L2N.Takes (cxOf (L2N.CX P w) P w K mg base ["haps", "found", "rows", "turn", "i", "row", "j"] "ahead_of" (defScope (top 21)) f cdv A outer s H E) (fun cls d _ H => E cls d H) := L2N.takes_of rfl rfl rfl rfl
  have po := passes_of (X := cxOf (L2N.CX P w) P w K mg base ["haps", "found", "rows", "turn", "i", "row", "j"] "ahead_of" (defScope (top 21)) f cdv A outer s H E) rfl
  exact (ss_cons (ss_set 1 S.nd (se_rep (se_new (sa_cons se_int sa_nil)) (se_bi call_len s_len zb_len b_len (sa_cons (se_var 0) sa_nil))))
    (ss_cons (ss_set 2 S.nd (se_fz (se_call D_rows_of (hr.mono (by omega)) tk (sa_cons (se_var 0) sa_nil))))
    (ss_cons (ss_for (is := [3]) po rfl (si_rng1 b_range (se_bi call_len s_len zb_len b_len (sa_cons (se_var 0) sa_nil))) (sg_name 3 S.nd) (ss_one (ss_for (is := [4, 5]) po rfl (si_enum b_enumerate (se_var 2)) (sg_tup rfl (sgs_cons (sg_name 4 S.nd) (sgs_cons (sg_name 5 S.nd) sgs_nil))) (ss_one (ss_for (is := [6]) po rfl (si_list (se_var 5)) (sg_name 6 S.nd) (ss_one (ss_store set_list s_setI (se_bi (call_max2 rfl) s_max2 zb_max b_max (sa_cons (se_ix ix_seq s_ix (se_var 1) (se_var 6)) (sa_cons (se_bin o_add s_add (se_ix ix_seq s_ix (se_var 1) (se_var 4)) se_int) sa_nil))) (se_var 1) (se_var 6))))))))
    (ss_one (ss_ret (se_var 1))))))

theorem d_steps_of {P : Program} {w : World} {K : PySem.W.Frag} {mg : Str → Option Value} {base : Heap} {f : Addr} {fd : FuncData} (FD : FunD K "steps_of" "steps_of" (defArgs (top 22)) (defBody (top 22)) (defScope (top 22)) [] [] f fd) (hm : mg "steps_of" = some (.ref f)) (D_check_list : Def P w K mg base "check_list" 1 4 F_check_list) (D_ahead_of : Def P w K mg base "ahead_of" 1 8 F_ahead_of) :
    Def P w K mg base "steps_of" 1 9 F_steps_of := by
  have S : FnScope ["haps"] ["haps"] (defScope (top 22)) := ⟨rfl, rfl, rfl, by decide +kernel, rfl, by decide +kernel, by decide +kernel⟩
  refine def_of FD S rfl hm (FD.bindsN fun _ _ _ _ _ _ us hl => match us, hl with | [_], _ => rfl) (fun cdv A outer s H E hr => ?_) (fun xs st _ => .inr rfl)
  have tk : L2N.Takes (cxOf (L2N.CX P w) P w K mg base ["haps"] "steps_of" (defScope (top 22)) f cdv A outer s H E) (fun cls d _ H => E cls d H) := L2N.takes_of rfl rfl rfl rfl
  have po := passes_of (X := cxOf (L2N.CX P w) P w K mg base ["haps"] "steps_of" (defScope (top 22)) f cdv A outer s H E) rfl
  exact (ss_cons (ss_expr (se_call D_check_list (hr.mono (by omega)) tk (sa_cons (se_var 0) sa_nil)))
    (ss_one (ss_ret (se_call D_ahead_of (hr.mono (by omega)) tk (sa_cons (se_var 0) sa_nil)))))

theorem d__law_whole {P : Program} {w : World} {K : PySem.W.Frag} {mg : Str → Option Value} {base : Heap} {f : Addr} {fd : FuncData} (FD : FunD K "_law_whole" "_law_whole" (defArgs (top 27)) (defBody (top 27)) (defScope (top 27)) [] [] f fd) (hm : mg "_law_whole" = some (.ref f)) (b_isinstance : mg "isinstance" = none) (b_int : mg "int" = none) (b_bool : mg "bool" = none) :
    Def P w K mg base "_law_whole" 1 1 F__law_whole_2 := by
  have S : FnScope ["_law_found"] ["_law_found"] (defScope (top 27)) := ⟨rfl, rfl, rfl, by decide +kernel, rfl, by decide +kernel, by decide +kernel⟩
  refine def_of FD S rfl hm (FD.bindsN fun _ _ _ _ _ _ us hl => match us, hl with | [_], _ => rfl) (fun cdv A outer s H E hr => ?_) (fun xs st _ => .inr rfl)
  have tk : L2N.Takes (cxOf (L2N.CX P w) P w K mg base ["_law_found"] "_law_whole" (defScope (top 27)) f cdv A outer s H E) (fun cls d _ H => E cls d H) := L2N.takes_of rfl rfl rfl rfl
  have po := passes_of (X := cxOf (L2N.CX P w) P w K mg base ["_law_found"] "_law_whole" (defScope (top 27)) f cdv A outer s H E) rfl
  exact (ss_one (ss_ret (se_and (se_bi call_isi s_isi zb_isinstance b_isinstance (sa_cons (se_var 0) (sa_cons (se_ty zb_int b_int) sa_nil))) (se_and1 (se_vt (se_not (se_bi call_isi s_isi zb_isinstance b_isinstance (sa_cons (se_var 0) (sa_cons (se_ty zb_bool b_bool) sa_nil)))))))))

theorem e__law_same {P : Program} {w : World} {K : PySem.W.Frag} {mg : Str → Option Value} {base : Heap} {f : Addr} {fd : FuncData} (FD : FunD K "_law_same" "_law_same" (defArgs (top 28)) (defBody (top 28)) (defScope (top 28)) [] [] f fd) (hm : mg "_law_same" = some (.ref f)) (b_isinstance : mg "isinstance" = none) (b_bool : mg "bool" = none) (b_int : mg "int" = none) (b_str : mg "str" = none) (b_tuple : mg "tuple" = none) (b_list : mg "list" = none) (b_len : mg "len" = none) (b_all : mg "all" = none) (b_zip : mg "zip" = none) (D__law_whole : Def P w K mg base "_law_whole" 1 1 F__law_whole_2) (j : Nat) (F : Fn) (D__law_same : Def P w K mg base "_law_same" 2 (j + 1) F) :
    Def P w K mg base "_law_same" 2 (j + 1 + 1) (R__law_same_2 F) := by
  have S : FnScope ["_law_found", "_law_due", "_law_one", "_law_other"] ["_law_found", "_law_due"] (defScope (top 28)) := ⟨rfl, rfl, rfl, by decide +kernel, rfl, by decide +kernel, by decide +kernel⟩
  refine def_of FD S rfl hm (FD.bindsN fun _ _ _ _ _ _ us hl => match us, hl with | [_, _], _ => rfl) (fun cdv A outer s H E hr => ?_) (fun xs st _ => .inr rfl)
  have tk : L2N.Takes (cxOf (L2N.CX P w) P w K mg base ["_law_found", "_law_due", "_law_one", "_law_other"] "_law_same" (defScope (top 28)) f cdv A outer s H E) (fun cls d _ H => E cls d H) := L2N.takes_of rfl rfl rfl rfl
  have po := passes_of (X := cxOf (L2N.CX P w) P w K mg base ["_law_found", "_law_due", "_law_one", "_law_other"] "_law_same" (defScope (top 28)) f cdv A outer s H E) rfl
  exact (ss_cons (ss_if (st_cmp op_isN s_isN (se_var 1) se_non) (ss_one (ss_ret (se_cmp op_isN s_isN (se_var 0) se_non))) ss_nil)
    (ss_cons (ss_if (st_val (se_bi call_isi s_isi zb_isinstance b_isinstance (sa_cons (se_var 1) (sa_cons (se_ty zb_bool b_bool) sa_nil)))) (ss_one (ss_ret (se_and (se_bi call_isi s_isi zb_isinstance b_isinstance (sa_cons (se_var 0) (sa_cons (se_ty zb_bool b_bool) sa_nil))) (se_and1 (se_vt (se_cmp (op_eqD hr.units) s_eq (se_var 0) (se_var 1))))))) ss_nil)
    (ss_cons (ss_if (st_val (se_bi call_isi s_isi zb_isinstance b_isinstance (sa_cons (se_var 1) (sa_cons (se_ty zb_int b_int) sa_nil)))) (ss_one (ss_ret (se_and (se_call D__law_whole (hr.mono (by omega)) tk (sa_cons (se_var 0) sa_nil)) (se_and1 (se_vt (se_cmp (op_eqD hr.units) s_eq (se_var 0) (se_var 1))))))) ss_nil)
    (ss_cons (ss_if (st_val (se_bi call_isi s_isi zb_isinstance b_isinstance (sa_cons (se_var 1) (sa_cons (se_ty zb_str b_str) sa_nil)))) (ss_one (ss_ret (se_and (se_bi call_isi s_isi zb_isinstance b_isinstance (sa_cons (se_var 0) (sa_cons (se_ty zb_str b_str) sa_nil))) (se_and1 (se_vt (se_cmp (op_eqD hr.units) s_eq (se_var 0) (se_var 1))))))) ss_nil)
    (ss_cons (ss_if (st_or (st_cmp (op_neD hr.units) s_ne (se_bi call_isi s_isi zb_isinstance b_isinstance (sa_cons (se_var 1) (sa_cons (se_ty zb_tuple b_tuple) sa_nil))) (se_bi call_isi s_isi zb_isinstance b_isinstance (sa_cons (se_var 0) (sa_cons (se_ty zb_tuple b_tuple) sa_nil)))) (st_or1 (st_cmp (op_neD hr.units) s_ne (se_bi call_isi s_isi zb_isinstance b_isinstance (sa_cons (se_var 1) (sa_cons (se_ty zb_list b_list) sa_nil))) (se_bi call_isi s_isi zb_isinstance b_isinstance (sa_cons (se_var 0) (sa_cons (se_ty zb_list b_list) sa_nil)))))).pt (ss_one (ss_ret se_bl)) ss_nil)
    (ss_one (ss_ret (se_and (se_cmp (op_eqD hr.units) s_eq (se_bi call_len s_len zb_len b_len (sa_cons (se_var 0) sa_nil)) (se_bi call_len s_len zb_len b_len (sa_cons (se_var 1) sa_nil))) (se_and1 (se_vt (se_bi (cr_all rfl) s_all zb_all b_all (sa_cons (se_comp [("_law_one", 2), ("_law_other", 3)] rfl S.nd (si_zip b_zip (sa_cons (se_var 0) (sa_cons (se_var 1) sa_nil))) (blkOk_by (by show blkC ["_law_found", "_law_due", "_law_one", "_law_other"] (defScope (top 28)) _ _ = true; decide +kernel)) (fun _ _ _ _ _ => (sg_tup rfl (sgs_cons (sg_name 2 S.nd) (sgs_cons (sg_name 3 S.nd) sgs_nil)))) (fun _ _ _ _ _ => tt_nil) (fun _ _ _ _ _ => (se_call D__law_same (hr.mono (by omega)) takes0N (sa_cons (se_var 2) (sa_cons (se_var 3) sa_nil))))) sa_nil))))))))))))
theorem d__law_same {P : Program} {w : World} {K : PySem.W.Frag} {mg : Str → Option Value} {base : Heap} {f : Addr} {fd : FuncData} (FD : FunD K "_law_same" "_law_same" (defArgs (top 28)) (defBody (top 28)) (defScope (top 28)) [] [] f fd) (hm : mg "_law_same" = some (.ref f)) (b_isinstance : mg "isinstance" = none) (b_bool : mg "bool" = none) (b_int : mg "int" = none) (b_str : mg "str" = none) (b_tuple : mg "tuple" = none) (b_list : mg "list" = none) (b_len : mg "len" = none) (b_all : mg "all" = none) (b_zip : mg "zip" = none) (D__law_whole : Def P w K mg base "_law_whole" 1 1 F__law_whole_2) :
    Def P w K mg base "_law_same" 2 7 F__law_same_2 := by
  have S : FnScope ["_law_found", "_law_due", "_law_one", "_law_other"] ["_law_found", "_law_due"] (defScope (top 28)) := ⟨rfl, rfl, rfl, by decide +kernel, rfl, by decide +kernel, by decide +kernel⟩
  exact def_rec (k := 1) (def_none (k := 0) FD S rfl hm (FD.bindsN fun _ _ _ _ _ _ us hl => match us, hl with | [_, _], _ => rfl)) (e__law_same FD hm b_isinstance b_bool b_int b_str b_tuple b_list b_len b_all b_zip D__law_whole) 6

theorem d_law {P : Program} {w : World} {K : PySem.W.Frag} {mg : Str → Option Value} {base : Heap} {f : Addr} {fd : FuncData} (FD : FunD K "law" "law" (defArgs (top 35)) (defBody (top 35)) (defScope (top 35)) [] [] f fd) (hm : mg "law" = some (.ref f)) (b_range : mg "range" = none) (b_max : mg "max" = none) (b_min : mg "min" = none) (b_len : mg "len" = none) (b_list : mg "list" = none) (b_any : mg "any" = none) (D__law_list : Def P w K mg base "_law_list" 2 2 F__law_list) (D__law_pot : Def P w K mg base "_law_pot" 1 1 F__law_pot) (D__law_cell_at : Def P w K mg base "_law_cell_at" 2 1 F__law_cell_at) (D__law_rows : Def P w K mg base "_law_rows" 1 4 F__law_rows) (D_steps_of : Def P w K mg base "steps_of" 1 9 F_steps_of) (D__law_same : Def P w K mg base "_law_same" 2 7 F__law_same_2) :
    FnOk P w K mg base (L2N.CX P w) 10 f fd ["_law_script"] (spF K 1 F_law_k54) := by
  have S : FnScope ["_law_script", "_law_at", "_law_haps", "_law_rows_here", "_law_due", "_law_left", "_law_step", "_law_turn", "_law_first", "_law_i", "_law_found", "_law_j"] ["_law_script"] (defScope (top 35)) := ⟨rfl, rfl, rfl, by decide +kernel, rfl, by decide +kernel, by decide +kernel⟩
  refine fnok_of FD S rfl hm (FD.bindsN fun _ _ _ _ _ _ us hl => match us, hl with | [_], _ => rfl) (fun cdv A outer s H E hr => ?_) (fun xs st _ => .inr rfl)
  have tk : L2N.Takes (cxOf (L2N.CX P w) P w K mg base ["_law_script", "_law_at", "_law_haps", "_law_rows_here", "_law_due", "_law_left", "_law_step", "_law_turn", "_law_first", "_law_i", "_law_found", "_law_j"] "law" (defScope (top 35)) f cdv A outer s H E) (fun cls d _ H => E cls d H) := L2N.takes_of rfl rfl rfl rfl
  have po := passes_of (X := cxOf (L2N.CX P w) P w K mg base ["_law_script", "_law_at", "_law_haps", "_law_rows_here", "_law_due", "_law_left", "_law_step", "_law_turn", "_law_first", "_law_i", "_law_found", "_law_j"] "law" (defScope (top 35)) f cdv A outer s H E) rfl
  exact (ss_cons (ss_for (is := [1]) po rfl (si_rng1 b_range (se_bi (call_max2 rfl) s_max2 zb_max b_max (sa_cons se_int (sa_cons (se_bi (call_min2 rfl) s_min2 zb_min b_min (sa_cons (se_bi call_len s_len zb_len b_len (sa_cons (se_var 0) sa_nil)) (sa_cons se_int sa_nil))) sa_nil)))) (sg_name 1 S.nd) (ss_cons (ss_set 2 S.nd (se_call D__law_list (hr.mono (by omega)) tk (sa_cons (se_call D__law_pot (hr.mono (by omega)) tk (sa_cons (se_call D__law_cell_at (hr.mono (by omega)) tk (sa_cons (se_var 0) (sa_cons (se_var 1) sa_nil))) sa_nil)) (sa_cons se_int sa_nil))))
    (ss_cons (ss_set 3 S.nd (se_call D__law_rows (hr.mono (by omega)) tk (sa_cons (se_var 2) sa_nil)))
    (ss_cons (ss_set 4 S.nd (se_rep (se_new (sa_cons se_int sa_nil)) (se_bi call_len s_len zb_len b_len (sa_cons (se_var 2) sa_nil))))
    (ss_cons (ss_set 5 S.nd (se_listRgN rfl (se_bi call_len s_len zb_len b_len (sa_cons (se_var 2) sa_nil)) (hm := b_list) (hm2 := b_range)))
    (ss_cons (ss_set 6 S.nd se_int)
    (ss_cons (ss_while (fun _ => 300) po (st_cmp (op_neD hr.units) s_ne (se_var 5) (se_lst sa_nil)) (ss_cons (ss_set 6 S.nd (se_bin o_add s_add (se_var 6) se_int))
    (ss_cons (ss_setCM (i := 8) false [("_law_i", 9)] rfl S.nd rfl rfl (sw_true rfl rfl rfl (by decide +kernel)) (si_listM (se_var 5)) (blkOk_by (by show blkC ["_law_script", "_law_at", "_law_haps", "_law_rows_here", "_law_due", "_law_left", "_law_step", "_law_turn", "_law_first", "_law_i", "_law_found", "_law_j"] (defScope (top 35)) _ _ = true; decide +kernel)) (fun _ _ _ _ _ => (sg_name 9 S.nd)) (fun _ _ _ _ _ => (tt_one (st_not (st_val (se_bi (cr_any rfl) s_any zb_any b_any (sa_cons (se_compM false [("_law_j", 11)] rfl S.nd (si_listM (se_var 5)) (blkOk_nest ["_law_script", "_law_at", "_law_haps", "_law_rows_here", "_law_due", "_law_left", "_law_step", "_law_turn", "_law_first", "_law_i", "_law_found", "_law_j"] rfl (by decide +kernel)) (fun _ _ _ _ _ => (sg_name 11 S.nd)) (fun _ _ _ _ _ => tt_nil) (fun _ _ _ _ _ => (se_cmp op_in_seq s_inQ (se_var 9) (se_ix ix_seq s_ix (se_var 3) (se_var 11))))) sa_nil)))))) (fun _ _ _ _ _ => (se_var 9)))
    (ss_one (ss_for (is := [9]) po rfl (si_list (se_var 8)) (sg_name 9 S.nd) (ss_cons (ss_store set_list s_setI (se_var 6) (se_var 4) (se_var 9))
    (ss_one (ss_expr (se_m PySem.F.plainAttrs_list PySem.F.slot_list_remove PySem.F.type_list_remove mt_remove s_remove n_remove (se_var 5) (sa_cons (se_var 9) sa_nil))))))))))
    (ss_one (ss_for (is := [7]) po rfl (si_rng1 b_range se_int) (sg_name 7 S.nd) (ss_cons (ss_set 10 S.nd (se_call D_steps_of (hr.mono (by omega)) tk (sa_cons (se_var 2) sa_nil)))
    (ss_cons (ss_if (st_not (st_val (se_lend D__law_same (hr.mono (by omega)) tk (sa_cons (se_var 10) (sa_cons (se_var 4) sa_nil))))) (ss_one (ss_ret se_bl)) ss_nil)
    (ss_one (ss_expr (se_m PySem.F.plainAttrs_list PySem.F.slot_list_append PySem.F.type_list_append mt_append s_append n_append (se_var 10) (sa_cons se_int sa_nil)))))))))))))))
    (ss_one (ss_ret se_bl)))

def dd (i : Nat) (x : Str) : He.DefD := ⟨(x, none), x, x, defArgs (top i), defBody (top i), defScope (top i), [], []⟩
def fn_0 : List He.DefD := [dd 26 "_law_take", dd 29 "_law_fr", dd 32 "_law_list", dd 25 "_law_pot", dd 24 "_law_cell_at", dd 30 "_law_less", dd 31 "_law_below", dd 33 "_law_later", dd 34 "_law_rows", dd 5 "is_whole", dd 6 "common", dd 7 "is_fraction", dd 12 "is_hap", dd 18 "check_list", dd 8 "fraction", dd 9 "less", dd 14 "lapse_and_gap", dd 10 "is_less", dd 15 "kind_of", dd 19 "reaches", dd 20 "rows_of", dd 21 "ahead_of", dd 22 "steps_of", dd 27 "_law_whole", dd 28 "_law_same", dd 35 "law"]
def fn : List He.DefD := fn_0

def fa_0 : List He.Fa := [.glo "_law_take", .glo "_law_fr", .glo "_law_list", .glo "_law_pot", .glo "_law_cell_at", .glo "_law_less", .glo "_law_below", .glo "_law_later", .glo "_law_rows", .glo "is_whole", .glo "common", .glo "is_fraction", .glo "is_hap", .glo "check_list", .glo "fraction", .glo "less", .glo "lapse_and_gap", .glo "is_less", .glo "kind_of", .glo "reaches", .glo "rows_of", .glo "ahead_of", .glo "steps_of", .glo "_law_whole", .glo "_law_same", .glo "law", .free "abs", .free "range", .free "len", .free "isinstance"]
def fa_1 : List He.Fa := [.free "int", .free "bool", .free "tuple", .free "list", .free "all", .free "set", .free "enumerate", .free "max", .free "str", .free "zip", .free "min", .free "any", .glo "NoHaps", .glo "NoFraction", .exc "NoHaps", .exc "NoFraction", .int "MOST_IN_CHAINS" 12]
def fa : List He.Fa := fa_0 ++ fa_1

def loose_0 : List Str := ["MotionError", "NoFraction", "NoHaps", "is_whole", "common", "is_fraction", "fraction", "less", "is_less", "is_hap", "lapse_and_gap", "kind_of", "MOST_IN_CHAINS", "check_list", "reaches", "rows_of", "ahead_of", "steps_of", "_law_cell_at", "_law_pot", "_law_take", "_law_whole", "_law_same", "_law_fr", "_law_less", "_law_below", "_law_list", "_law_later", "_law_rows"]
def loose : List Str := loose_0

abbrev Rw : PySem.W.OpenRow := PySem.W.OpenLaw.row PySem.Challenge.rw_seatclocks_k54_steps_of_haps
abbrev hk : PySem.W.Hook := He.hookD 4 fa fn
def obs (s : PySem.W.SharedT) : He.AlD := He.obsDG 4 fa fn (HandSHeadRun.getT s)
theorem obs_eq (s : PySem.W.SharedT) : obs s = hk.obs s.abs := He.obsDG_eq (HandSHeadRun.getT_eq s)
set_option maxHeartbeats 0 in
theorem run (w : World) : HandSHeadRun.RunEq Rw (PySem.W.view Rw.prog [35]) hk obs 8000 loose w := by
  intro os
  kernel_rfl
theorem lawOk {P : Program} {w : World} {K : PySem.W.Frag} {mg : Str → Option Value} {base : Heap} {f : Addr} {fd : FuncData} (X : K.In base) (G : base.Ns mainGlobals mg) (c : He.SaysD fa fn K)
    (FD : FunD K "law" "law" (defArgs (top 35)) (defBody (top 35)) (defScope (top 35)) [] [] f fd) (hm : mg "law" = some (.ref f)) : FnOk P w K mg base (L2N.CX P w) 10 f fd ["_law_script"] (spF K 1 F_law_k54) := by
  have m__law_take : mg "_law_take" = some (.ref (He.ga K "_law_take")) := He.glo_ok X G (c.fact 0 (f := .glo "_law_take") rfl)
  have m__law_fr : mg "_law_fr" = some (.ref (He.ga K "_law_fr")) := He.glo_ok X G (c.fact 1 (f := .glo "_law_fr") rfl)
  have m__law_list : mg "_law_list" = some (.ref (He.ga K "_law_list")) := He.glo_ok X G (c.fact 2 (f := .glo "_law_list") rfl)
  have m__law_pot : mg "_law_pot" = some (.ref (He.ga K "_law_pot")) := He.glo_ok X G (c.fact 3 (f := .glo "_law_pot") rfl)
  have m__law_cell_at : mg "_law_cell_at" = some (.ref (He.ga K "_law_cell_at")) := He.glo_ok X G (c.fact 4 (f := .glo "_law_cell_at") rfl)
  have m__law_less : mg "_law_less" = some (.ref (He.ga K "_law_less")) := He.glo_ok X G (c.fact 5 (f := .glo "_law_less") rfl)
  have m__law_below : mg "_law_below" = some (.ref (He.ga K "_law_below")) := He.glo_ok X G (c.fact 6 (f := .glo "_law_below") rfl)
  have m__law_later : mg "_law_later" = some (.ref (He.ga K "_law_later")) := He.glo_ok X G (c.fact 7 (f := .glo "_law_later") rfl)
  have m__law_rows : mg "_law_rows" = some (.ref (He.ga K "_law_rows")) := He.glo_ok X G (c.fact 8 (f := .glo "_law_rows") rfl)
  have m_is_whole : mg "is_whole" = some (.ref (He.ga K "is_whole")) := He.glo_ok X G (c.fact 9 (f := .glo "is_whole") rfl)
  have m_common : mg "common" = some (.ref (He.ga K "common")) := He.glo_ok X G (c.fact 10 (f := .glo "common") rfl)
  have m_is_fraction : mg "is_fraction" = some (.ref (He.ga K "is_fraction")) := He.glo_ok X G (c.fact 11 (f := .glo "is_fraction") rfl)
  have m_is_hap : mg "is_hap" = some (.ref (He.ga K "is_hap")) := He.glo_ok X G (c.fact 12 (f := .glo "is_hap") rfl)
  have m_check_list : mg "check_list" = some (.ref (He.ga K "check_list")) := He.glo_ok X G (c.fact 13 (f := .glo "check_list") rfl)
  have m_fraction : mg "fraction" = some (.ref (He.ga K "fraction")) := He.glo_ok X G (c.fact 14 (f := .glo "fraction") rfl)
  have m_less : mg "less" = some (.ref (He.ga K "less")) := He.glo_ok X G (c.fact 15 (f := .glo "less") rfl)
  have m_lapse_and_gap : mg "lapse_and_gap" = some (.ref (He.ga K "lapse_and_gap")) := He.glo_ok X G (c.fact 16 (f := .glo "lapse_and_gap") rfl)
  have m_is_less : mg "is_less" = some (.ref (He.ga K "is_less")) := He.glo_ok X G (c.fact 17 (f := .glo "is_less") rfl)
  have m_kind_of : mg "kind_of" = some (.ref (He.ga K "kind_of")) := He.glo_ok X G (c.fact 18 (f := .glo "kind_of") rfl)
  have m_reaches : mg "reaches" = some (.ref (He.ga K "reaches")) := He.glo_ok X G (c.fact 19 (f := .glo "reaches") rfl)
  have m_rows_of : mg "rows_of" = some (.ref (He.ga K "rows_of")) := He.glo_ok X G (c.fact 20 (f := .glo "rows_of") rfl)
  have m_ahead_of : mg "ahead_of" = some (.ref (He.ga K "ahead_of")) := He.glo_ok X G (c.fact 21 (f := .glo "ahead_of") rfl)
  have m_steps_of : mg "steps_of" = some (.ref (He.ga K "steps_of")) := He.glo_ok X G (c.fact 22 (f := .glo "steps_of") rfl)
  have m__law_whole : mg "_law_whole" = some (.ref (He.ga K "_law_whole")) := He.glo_ok X G (c.fact 23 (f := .glo "_law_whole") rfl)
  have m__law_same : mg "_law_same" = some (.ref (He.ga K "_law_same")) := He.glo_ok X G (c.fact 24 (f := .glo "_law_same") rfl)
  have m_law : mg "law" = some (.ref (He.ga K "law")) := He.glo_ok X G (c.fact 25 (f := .glo "law") rfl)
  have b_abs : mg "abs" = none := He.free_ok X G (c.fact 26 (f := .free "abs") rfl)
  have b_range : mg "range" = none := He.free_ok X G (c.fact 27 (f := .free "range") rfl)
  have b_len : mg "len" = none := He.free_ok X G (c.fact 28 (f := .free "len") rfl)
  have b_isinstance : mg "isinstance" = none := He.free_ok X G (c.fact 29 (f := .free "isinstance") rfl)
  have b_int : mg "int" = none := He.free_ok X G (c.fact 30 (f := .free "int") rfl)
  have b_bool : mg "bool" = none := He.free_ok X G (c.fact 31 (f := .free "bool") rfl)
  have b_tuple : mg "tuple" = none := He.free_ok X G (c.fact 32 (f := .free "tuple") rfl)
  have b_list : mg "list" = none := He.free_ok X G (c.fact 33 (f := .free "list") rfl)
  have b_all : mg "all" = none := He.free_ok X G (c.fact 34 (f := .free "all") rfl)
  have b_set : mg "set" = none := He.free_ok X G (c.fact 35 (f := .free "set") rfl)
  have b_enumerate : mg "enumerate" = none := He.free_ok X G (c.fact 36 (f := .free "enumerate") rfl)
  have b_max : mg "max" = none := He.free_ok X G (c.fact 37 (f := .free "max") rfl)
  have b_str : mg "str" = none := He.free_ok X G (c.fact 38 (f := .free "str") rfl)
  have b_zip : mg "zip" = none := He.free_ok X G (c.fact 39 (f := .free "zip") rfl)
  have b_min : mg "min" = none := He.free_ok X G (c.fact 40 (f := .free "min") rfl)
  have b_any : mg "any" = none := He.free_ok X G (c.fact 41 (f := .free "any") rfl)
  have k_NoHaps : mg "NoHaps" = some (.ref (He.ga K "NoHaps")) := He.glo_ok X G (c.fact 42 (f := .glo "NoHaps") rfl)
  have k_NoFraction : mg "NoFraction" = some (.ref (He.ga K "NoFraction")) := He.glo_ok X G (c.fact 43 (f := .glo "NoFraction") rfl)
  have x_NoHaps : ExcF K mg "NoHaps" := excF_of k_NoHaps (c.fact 44 (f := .exc "NoHaps") rfl)
  have x_NoFraction : ExcF K mg "NoFraction" := excF_of k_NoFraction (c.fact 45 (f := .exc "NoFraction") rfl)
  have c_MOST_IN_CHAINS : Con K mg "MOST_IN_CHAINS" (.int 12) := con_int (He.int_ok X G (c.fact 46 (f := .int "MOST_IN_CHAINS" 12) rfl))
  obtain ⟨fd__law_take, FD__law_take⟩ := c.def_ 0 (d := dd 26 "_law_take") rfl
  have D__law_take := d__law_take (P := P) (w := w) (base := base) FD__law_take m__law_take
  obtain ⟨fd__law_fr, FD__law_fr⟩ := c.def_ 1 (d := dd 29 "_law_fr") rfl
  have D__law_fr := d__law_fr (P := P) (w := w) (base := base) FD__law_fr m__law_fr b_abs
  obtain ⟨fd__law_list, FD__law_list⟩ := c.def_ 2 (d := dd 32 "_law_list") rfl
  have D__law_list := d__law_list (P := P) (w := w) (base := base) FD__law_list m__law_list b_range D__law_take D__law_fr
  obtain ⟨fd__law_pot, FD__law_pot⟩ := c.def_ 3 (d := dd 25 "_law_pot") rfl
  have D__law_pot := d__law_pot (P := P) (w := w) (base := base) FD__law_pot m__law_pot b_range
  obtain ⟨fd__law_cell_at, FD__law_cell_at⟩ := c.def_ 4 (d := dd 24 "_law_cell_at") rfl
  have D__law_cell_at := d__law_cell_at (P := P) (w := w) (base := base) FD__law_cell_at m__law_cell_at b_len
  obtain ⟨fd__law_less, FD__law_less⟩ := c.def_ 5 (d := dd 30 "_law_less") rfl
  have D__law_less := d__law_less (P := P) (w := w) (base := base) FD__law_less m__law_less D__law_fr
  obtain ⟨fd__law_below, FD__law_below⟩ := c.def_ 6 (d := dd 31 "_law_below") rfl
  have D__law_below := d__law_below (P := P) (w := w) (base := base) FD__law_below m__law_below
  obtain ⟨fd__law_later, FD__law_later⟩ := c.def_ 7 (d := dd 33 "_law_later") rfl
  have D__law_later := d__law_later (P := P) (w := w) (base := base) FD__law_later m__law_later b_abs D__law_less D__law_below
  obtain ⟨fd__law_rows, FD__law_rows⟩ := c.def_ 8 (d := dd 34 "_law_rows") rfl
  have D__law_rows := d__law_rows (P := P) (w := w) (base := base) FD__law_rows m__law_rows b_range b_len D__law_later
  obtain ⟨fd_is_whole, FD_is_whole⟩ := c.def_ 9 (d := dd 5 "is_whole") rfl
  have D_is_whole := d_is_whole (P := P) (w := w) (base := base) FD_is_whole m_is_whole b_isinstance b_int b_bool
  obtain ⟨fd_common, FD_common⟩ := c.def_ 10 (d := dd 6 "common") rfl
  have D_common := d_common (P := P) (w := w) (base := base) FD_common m_common b_abs
  obtain ⟨fd_is_fraction, FD_is_fraction⟩ := c.def_ 11 (d := dd 7 "is_fraction") rfl
  have D_is_fraction := d_is_fraction (P := P) (w := w) (base := base) FD_is_fraction m_is_fraction b_isinstance b_tuple b_len D_is_whole D_common
  obtain ⟨fd_is_hap, FD_is_hap⟩ := c.def_ 12 (d := dd 12 "is_hap") rfl
  have D_is_hap := d_is_hap (P := P) (w := w) (base := base) FD_is_hap m_is_hap b_isinstance b_tuple b_len D_is_fraction
  obtain ⟨fd_check_list, FD_check_list⟩ := c.def_ 13 (d := dd 18 "check_list") rfl
  have D_check_list := d_check_list (P := P) (w := w) (base := base) FD_check_list m_check_list b_isinstance b_list b_len b_all b_set c_MOST_IN_CHAINS x_NoHaps D_is_hap
  obtain ⟨fd_fraction, FD_fraction⟩ := c.def_ 14 (d := dd 8 "fraction") rfl
  have D_fraction := d_fraction (P := P) (w := w) (base := base) FD_fraction m_fraction x_NoFraction D_common
  obtain ⟨fd_less, FD_less⟩ := c.def_ 15 (d := dd 9 "less") rfl
  have D_less := d_less (P := P) (w := w) (base := base) FD_less m_less D_fraction
  obtain ⟨fd_lapse_and_gap, FD_lapse_and_gap⟩ := c.def_ 16 (d := dd 14 "lapse_and_gap") rfl
  have D_lapse_and_gap := d_lapse_and_gap (P := P) (w := w) (base := base) FD_lapse_and_gap m_lapse_and_gap D_less
  obtain ⟨fd_is_less, FD_is_less⟩ := c.def_ 17 (d := dd 10 "is_less") rfl
  have D_is_less := d_is_less (P := P) (w := w) (base := base) FD_is_less m_is_less
  obtain ⟨fd_kind_of, FD_kind_of⟩ := c.def_ 18 (d := dd 15 "kind_of") rfl
  have D_kind_of := d_kind_of (P := P) (w := w) (base := base) FD_kind_of m_kind_of b_abs D_lapse_and_gap D_is_less
  obtain ⟨fd_reaches, FD_reaches⟩ := c.def_ 19 (d := dd 19 "reaches") rfl
  have D_reaches := d_reaches (P := P) (w := w) (base := base) FD_reaches m_reaches D_kind_of
  obtain ⟨fd_rows_of, FD_rows_of⟩ := c.def_ 20 (d := dd 20 "rows_of") rfl
  have D_rows_of := d_rows_of (P := P) (w := w) (base := base) FD_rows_of m_rows_of b_range b_len D_reaches
  obtain ⟨fd_ahead_of, FD_ahead_of⟩ := c.def_ 21 (d := dd 21 "ahead_of") rfl
  have D_ahead_of := d_ahead_of (P := P) (w := w) (base := base) FD_ahead_of m_ahead_of b_len b_range b_enumerate b_max D_rows_of
  obtain ⟨fd_steps_of, FD_steps_of⟩ := c.def_ 22 (d := dd 22 "steps_of") rfl
  have D_steps_of := d_steps_of (P := P) (w := w) (base := base) FD_steps_of m_steps_of D_check_list D_ahead_of
  obtain ⟨fd__law_whole, FD__law_whole⟩ := c.def_ 23 (d := dd 27 "_law_whole") rfl
  have D__law_whole := d__law_whole (P := P) (w := w) (base := base) FD__law_whole m__law_whole b_isinstance b_int b_bool
  obtain ⟨fd__law_same, FD__law_same⟩ := c.def_ 24 (d := dd 28 "_law_same") rfl
  have D__law_same := d__law_same (P := P) (w := w) (base := base) FD__law_same m__law_same b_isinstance b_bool b_int b_str b_tuple b_list b_len b_all b_zip D__law_whole
  exact d_law FD hm b_range b_max b_min b_len b_list b_any D__law_list D__law_pot D__law_cell_at D__law_rows D_steps_of D__law_same
end Z
open PySem PySem.W PySem.Calls PyProof.Rows
theorem PySem.Challenge.cw_seatclocks_k54_steps_of_haps_holds : PySem.Challenge.rw_seatclocks_k54_steps_of_haps.Holds := by
  w_on; o_law
  refine HandSHeadRun.head_any (r := OpenLaw.row PySem.Challenge.rw_seatclocks_k54_steps_of_haps) (q := view (OpenLaw.row PySem.Challenge.rw_seatclocks_k54_steps_of_haps).prog [35]) (H := Z.hk) (ob := Z.obs) (M := 8000) (loose := Z.loose) (d := HandSHeadRun.topDef (OpenLaw.row PySem.Challenge.rw_seatclocks_k54_steps_of_haps).prog 35) (kwd := []) Z.obs_eq
    (by kernel_rfl) (fun s => by kernel_rfl) Z.run (by kernel_rfl) (by kernel_rfl) (by kernel_rfl) (by rfl) (by first | assumption | decide +kernel) (by decide +kernel) ⟨rfl, rfl, rfl, rfl, rfl, by decide +kernel⟩ ?hw ?hc
  case hw => w_witness2
  case hc =>
    refine Z.walkZ (l := PySem.Challenge.rw_seatclocks_k54_steps_of_haps) (n := 63) (k := 10) (x := "_law_script") (F := Z.F_law_k54) rfl (by decide) (by kernel_rfl) ⟨rfl, by decide, by decide⟩ (fun ns st h1 h2 => Z.law_k54_holds ns st h1 h2) ?_
    intro w mg a h Y G e0
    obtain ⟨K, KX, c⟩ := Y
    have e1 : mg ("law" : PySem.Str) = some (.ref a) := by
      have e : (HandSHeadRun.topDef (OpenLaw.row PySem.Challenge.rw_seatclocks_k54_steps_of_haps).prog 35).name = ("law" : PySem.Str) := by kernel_rfl
      rw [← e]
      exact e0
    obtain ⟨fd, FD⟩ := c.def_ 25 (d := Z.dd 35 "law") rfl
    have e2 := e1.symm.trans (He.glo_ok KX G (c.fact 25 (f := .glo "law") rfl))
    cases e2
    have b := L2.FunD.bindsA (ps := ["_law_script"]) FD fun _ _ _ _ _ _ us hl => match us, hl with | [_], _ => rfl
    exact ⟨K, fd, KX, fun s v => b s [v] rfl, fun base BX BG => Z.lawOk BX BG c FD e1⟩
