import PyProof.Rows.All
import HandS.ForMost
import HandS.Exc
import HandS.TryOnly
import HandS.ExcOwn
import HandS.WordsExc
import HandS.CallSlots
import HandS.Wide
import HandS.TupAny
import HandS.TupMul
import HandS.TupLe
import HandS.Flow
import HandS.IsInst
import HandS.Conv
import HandS.SortInts
import KE.GoesNew
import KE.GoesEnum
import HandS.Defaults
import KE.IntBitsLaws
import PySem.Challenge.RW_waymoves_k04_weights_of_grids
set_option Elab.async false
set_option linter.all false
set_option maxRecDepth 100000
set_option maxHeartbeats 4000000
section
/-! The layer of data over HandS: what stands in a slot as plain data, owned lists, steps between worlds. -/
namespace Wm
open PySem PySem.Spec PyProof.Rows L2

/-- plain data -/
inductive D where
  | non | bl (b : Bool) | int (i : Int) | str (x : Str)
  | tup (xs : List D) | lst (xs : List D) | ins (c : Str) (fs : List (Str × D)) | scr (ns : List Int)

/-- what a slot holds: nothing known, shared data, a list of one's own, a list of the caller's that may be written -/
inductive SD where
  | no | sh (d : D) | own (xs : List D) | byr (xs : List D)

/-- the written part and its classes by name -/
structure Gx where
  K : PySem.W.Frag
  cls : Str → Addr

def LO (K : PySem.W.Frag) (O : List Addr) (H : Hp) (a : Addr) (vs : List V) : Prop :=
  vs.length ≤ sizeLine ∧ H a = some (.lst vs) ∧ a ∉ O
/-- the script's list: locked, or of the written part -/
def ScO (K : PySem.W.Frag) (O : List Addr) (H : Hp) (a : Addr) (vs : List V) : Prop :=
  vs.length ≤ sizeLine ∧ ((Rd H a (.lst vs) ∧ a ∉ O) ∨
    ∃ (o : Obj) (its : Array Value) (n : Nat), K.lookup a = some o ∧ o.cls = .type "list" ∧ o.dict = none ∧ o.data = .seq its n ∧ its.size ≤ sizeLine ∧ Vals vs its.toList)
theorem ScO.sq {K : PySem.W.Frag} {O : List Addr} {H : Hp} {a : Addr} {vs : List V} (h : ScO K O H a vs) : SqL K H a vs := by
  rcases h.2 with h | h
  · exact .inl h.1
  · exact .inr h
def TO (K : PySem.W.Frag) (O : List Addr) (H : Hp) (a : Addr) (vs : List V) : Prop :=
  vs.length ≤ sizeLine ∧ ((Rd H a (.tup vs) ∧ a ∉ O) ∨
    ∃ (o : Obj) (its : Array Value) (n : Nat), K.lookup a = some o ∧ o.cls = .type "tuple" ∧ o.data = .seq its n ∧ its.size ≤ sizeLine ∧ Vals vs its.toList)
theorem LO.sq {K : PySem.W.Frag} {O : List Addr} {H : Hp} {a : Addr} {vs : List V} (h : LO K O H a vs) : SqL K H a vs := SqL.of h.2.1
theorem TO.sq {K : PySem.W.Frag} {O : List Addr} {H : Hp} {a : Addr} {vs : List V} (h : TO K O H a vs) : SqT K H a vs := by
  rcases h.2 with h | h
  · exact .inl h.1
  · exact .inr h

mutual
def Rp (G : Gx) (O : List Addr) (H : Hp) : D → V → Prop
  | .non, v => v = .non
  | .bl b, v => v = .bl b
  | .int i, v => v = .int i
  | .str x, v => v = .str x
  | .tup ds, v => ∃ a vs, v = .ref a ∧ TO G.K O H a vs ∧ RpA G O H ds vs
  | .lst ds, v => ∃ a vs, v = .ref a ∧ LO G.K O H a vs ∧ RpA G O H ds vs
  | .ins c fs, v => ∃ a dx gs, v = .ref a ∧ H a = some (.ins (G.cls c) dx gs) ∧ a ∉ O ∧ RpF G O H fs gs
  | .scr ns, v => ∃ a, v = .ref a ∧ ScO G.K O H a (ns.map V.int)
def RpA (G : Gx) (O : List Addr) (H : Hp) : List D → List V → Prop
  | [], vs => vs = []
  | d :: ds, vs => ∃ v r, vs = v :: r ∧ Rp G O H d v ∧ RpA G O H ds r
def RpF (G : Gx) (O : List Addr) (H : Hp) : List (Str × D) → List (Str × V) → Prop
  | [], gs => gs = []
  | (n, d) :: fs, gs => ∃ v r, gs = (n, v) :: r ∧ Rp G O H d v ∧ RpF G O H fs r
end

/-- from one world to a later one: O must not be met by data, W may be written -/
structure Stp (O W : List Addr) (H : Hp) (O' W' : List Addr) (H' : Hp) : Prop where
  keep : ∀ b o, H b = some o → b ∉ W → H' b = some o
  wnew : ∀ b ∈ W', b ∈ W ∨ H b = none
  onew : ∀ b ∈ O', b ∈ O ∨ H b = none
  trk : ∀ b, H b ≠ none → H' b ≠ none
  ofz : ∀ b ∈ O, b ∉ W → b ∈ O'
structure Wf (O W : List Addr) (H : Hp) : Prop where
  sub : ∀ b ∈ W, b ∈ O
  trk : ∀ b ∈ O, H b ≠ none

theorem Stp.refl {O W : List Addr} {H : Hp} : Stp O W H O W H := ⟨fun _ _ h _ => h, fun _ h => .inl h, fun _ h => .inl h, fun _ h => h, fun _ h _ => h⟩
theorem Stp.trans {O W O1 W1 O2 W2 : List Addr} {H H1 H2 : Hp} (w : Wf O W H) (a : Stp O W H O1 W1 H1) (b : Stp O1 W1 H1 O2 W2 H2) : Stp O W H O2 W2 H2 where
  keep := fun c o h hc => b.keep c o (a.keep c o h hc) fun z => by
    rcases a.wnew c z with q | q
    · exact hc q
    · rw [q] at h; cases h
  wnew := fun c hc => by
    rcases b.wnew c hc with q | q
    · exact a.wnew c q
    · right
      cases e : H c with
      | none => rfl
      | some o => exact absurd q (a.trk c (by rw [e]; simp))
  onew := fun c hc => by
    rcases b.onew c hc with q | q
    · exact a.onew c q
    · right
      cases e : H c with
      | none => rfl
      | some o => exact absurd q (a.trk c (by rw [e]; simp))
  trk := fun c h => b.trk c (a.trk c h)
  ofz := fun c h hc => b.ofz c (a.ofz c h hc) fun z => by
    rcases a.wnew c z with q | q
    · exact hc q
    · exact absurd q (w.trk c h)

section
variable {G : Gx} {O W O' W' : List Addr} {H H' : Hp}
theorem Stp.at (s : Stp O W H O' W' H') (w : Wf O W H) {a : Addr} {o : HO} (h : H a = some o) (ha : a ∉ O) : H' a = some o ∧ a ∉ O' :=
  ⟨s.keep a o h fun z => ha (w.sub a z), fun z => by
    rcases s.onew a z with q | q
    · exact ha q
    · rw [q] at h; cases h⟩
theorem LO.step {a : Addr} {vs : List V} (w : Wf O W H) (s : Stp O W H O' W' H') (h : LO G.K O H a vs) : LO G.K O' H' a vs := ⟨h.1, (s.at w h.2.1 h.2.2).1, (s.at w h.2.1 h.2.2).2⟩
theorem TO.step {a : Addr} {vs : List V} (w : Wf O W H) (s : Stp O W H O' W' H') (h : TO G.K O H a vs) : TO G.K O' H' a vs := by
  refine ⟨h.1, ?_⟩
  rcases h.2 with ⟨r | ⟨o, r⟩, hn⟩ | h
  · exact .inl ⟨.inl (s.at w r hn).1, (s.at w r hn).2⟩
  · exact .inl ⟨.inr ⟨o, (s.at w r hn).1⟩, (s.at w r hn).2⟩
  · exact .inr h
/-- data stands where what stands in it stands -/
theorem LO.less {a : Addr} {vs : List V} (h : ∀ b ∈ O', b ∈ O) (r : LO G.K O H a vs) : LO G.K O' H a vs := ⟨r.1, r.2.1, fun z => r.2.2 (h a z)⟩
theorem TO.less {a : Addr} {vs : List V} (h : ∀ b ∈ O', b ∈ O) (r : TO G.K O H a vs) : TO G.K O' H a vs := by
  refine ⟨r.1, ?_⟩
  rcases r.2 with ⟨r, hn⟩ | r
  · exact .inl ⟨r, fun z => hn (h a z)⟩
  · exact .inr r
mutual
theorem Rp.step (w : Wf O W H) (s : Stp O W H O' W' H') : ∀ {d : D} {v : V}, Rp G O H d v → Rp G O' H' d v
  | .non, v, h => by simpa only [Rp] using h
  | .bl b, v, h => by simpa only [Rp] using h
  | .int i, v, h => by simpa only [Rp] using h
  | .str x, v, h => by simpa only [Rp] using h
  | .tup ds, v, h => by
    simp only [Rp] at h ⊢
    obtain ⟨a, vs, e, t, r⟩ := h
    exact ⟨a, vs, e, t.step w s, RpA.step w s r⟩
  | .lst ds, v, h => by
    simp only [Rp] at h ⊢
    obtain ⟨a, vs, e, t, r⟩ := h
    exact ⟨a, vs, e, t.step w s, RpA.step w s r⟩
  | .ins c fs, v, h => by
    simp only [Rp] at h ⊢
    obtain ⟨a, dx, gs, e, t, n, r⟩ := h
    exact ⟨a, dx, gs, e, (s.at w t n).1, (s.at w t n).2, RpF.step w s r⟩
  | .scr ns, v, h => by
    simp only [Rp] at h ⊢
    obtain ⟨a, e, t⟩ := h
    refine ⟨a, e, t.1, ?_⟩
    rcases t.2 with ⟨r | ⟨o, r⟩, hn⟩ | h
    · exact .inl ⟨.inl (s.at w r hn).1, (s.at w r hn).2⟩
    · exact .inl ⟨.inr ⟨o, (s.at w r hn).1⟩, (s.at w r hn).2⟩
    · exact .inr h
theorem RpA.step (w : Wf O W H) (s : Stp O W H O' W' H') : ∀ {ds : List D} {vs : List V}, RpA G O H ds vs → RpA G O' H' ds vs
  | [], vs, h => by simpa only [RpA] using h
  | d :: ds, vs, h => by
    simp only [RpA] at h ⊢
    obtain ⟨v, r, e, h1, h2⟩ := h
    exact ⟨v, r, e, Rp.step w s h1, RpA.step w s h2⟩
theorem RpF.step (w : Wf O W H) (s : Stp O W H O' W' H') : ∀ {ds : List (Str × D)} {vs : List (Str × V)}, RpF G O H ds vs → RpF G O' H' ds vs
  | [], vs, h => by simpa only [RpF] using h
  | (n, d) :: ds, vs, h => by
    simp only [RpF] at h ⊢
    obtain ⟨v, r, e, h1, h2⟩ := h
    exact ⟨v, r, e, Rp.step w s h1, RpF.step w s h2⟩
end
mutual
theorem Rp.less (h : ∀ b ∈ O', b ∈ O) : ∀ {d : D} {v : V}, Rp G O H d v → Rp G O' H d v
  | .non, v, q => by simpa only [Rp] using q
  | .bl b, v, q => by simpa only [Rp] using q
  | .int i, v, q => by simpa only [Rp] using q
  | .str x, v, q => by simpa only [Rp] using q
  | .tup ds, v, q => by
    simp only [Rp] at q ⊢
    obtain ⟨a, vs, e, t, r⟩ := q
    exact ⟨a, vs, e, t.less h, RpA.less h r⟩
  | .lst ds, v, q => by
    simp only [Rp] at q ⊢
    obtain ⟨a, vs, e, t, r⟩ := q
    exact ⟨a, vs, e, t.less h, RpA.less h r⟩
  | .ins c fs, v, q => by
    simp only [Rp] at q ⊢
    obtain ⟨a, dx, gs, e, t, n, r⟩ := q
    exact ⟨a, dx, gs, e, t, fun z => n (h a z), RpF.less h r⟩
  | .scr ns, v, q => by
    simp only [Rp] at q ⊢
    obtain ⟨a, e, t⟩ := q
    refine ⟨a, e, t.1, ?_⟩
    rcases t.2 with ⟨r, hn⟩ | r
    · exact .inl ⟨r, fun z => hn (h a z)⟩
    · exact .inr r
theorem RpA.less (h : ∀ b ∈ O', b ∈ O) : ∀ {ds : List D} {vs : List V}, RpA G O H ds vs → RpA G O' H ds vs
  | [], vs, q => by simpa only [RpA] using q
  | d :: ds, vs, q => by
    simp only [RpA] at q ⊢
    obtain ⟨v, r, e, h1, h2⟩ := q
    exact ⟨v, r, e, Rp.less h h1, RpA.less h h2⟩
theorem RpF.less (h : ∀ b ∈ O', b ∈ O) : ∀ {ds : List (Str × D)} {vs : List (Str × V)}, RpF G O H ds vs → RpF G O' H ds vs
  | [], vs, q => by simpa only [RpF] using q
  | (n, d) :: ds, vs, q => by
    simp only [RpF] at q ⊢
    obtain ⟨v, r, e, h1, h2⟩ := q
    exact ⟨v, r, e, Rp.less h h1, RpF.less h h2⟩
end
end

/-- a list that is written: at a, of xs -/
def OwnAt (G : Gx) (O W : List Addr) (H : Hp) (a : Addr) (xs : List D) : Prop :=
  a ∈ W ∧ ∃ vs, H a = some (.lst vs) ∧ vs.length ≤ sizeLine ∧ RpA G O H xs vs
/-- what stands in a slot; vs0: the arguments at the entry -/
def SlotR (G : Gx) (O W : List Addr) (H : Hp) (ov ov0 : Option V) : SD → Prop
  | .no => True
  | .sh d => ∃ v, ov = some v ∧ Rp G O H d v
  | .own xs => ∃ a, ov = some (.ref a) ∧ OwnAt G O W H a xs
  | .byr xs => ∃ a, ov = some (.ref a) ∧ ov0 = some (.ref a) ∧ OwnAt G O W H a xs
def SD.mine : SD → Bool
  | .own _ => true
  | .byr _ => true
  | _ => false
structure SR (G : Gx) (vs0 : List V) (O W : List Addr) (σ : L2.St) (H : Hp) (ρ : List SD) : Prop where
  wf : Wf O W H
  len : σ.length = ρ.length
  slot : ∀ (i : Nat) (s : SD), ρ[i]? = some s → SlotR G O W H (σ[i]?.join) vs0[i]? s
  apart : ∀ (i j : Nat) (s t : SD) (a : Addr), ρ[i]? = some s → ρ[j]? = some t → s.mine = true → t.mine = true → σ[i]? = some (some (.ref a)) → σ[j]? = some (some (.ref a)) → i = j
/-- what an expression gives -/
def ResR (G : Gx) (O W : List Addr) (σ : L2.St) (H : Hp) (ρ : List SD) (v : V) : SD → Prop
  | .sh d => Rp G O H d v
  | .own xs => ∃ a, v = .ref a ∧ OwnAt G O W H a xs ∧ ∀ (i : Nat) (s : SD), ρ[i]? = some s → s.mine = true → σ[i]? ≠ some (some (.ref a))
  | _ => False
end Wm
end

section
/-! What an expression computes on data, and that it does. -/
namespace Wm
open PySem PySem.Spec PyProof.Rows L2

/-- what comes of a piece: a thing, an exception, or nothing that is told -/
inductive Rs (α : Type) where
  | ok (a : α) | exc (c : Str) (fs : List (Str × D)) (ρ : List SD) | bad
def Rs.bind {α β : Type} : Rs α → (α → Rs β) → Rs β
  | .ok a, f => f a
  | .exc c fs ρ, _ => .exc c fs ρ
  | .bad, _ => .bad
theorem Rs.bind_ok {α β : Type} (a : α) (f : α → Rs β) : (Rs.ok a).bind f = f a := rfl
abbrev Sx := List SD → Rs (SD × List SD)
abbrev Sb := List SD → Rs (Bool × List SD)
abbrev So := List SD → Rs (List D × List SD)
inductive Fl where
  | nx (ρ : List SD) | rt (r : SD) (ρ : List SD) | bk (ρ : List SD) | ct (ρ : List SD)
abbrev Ss := List SD → Rs Fl

abbrev gx (X : Cx) (cl : Str → Addr) : Gx := ⟨X.K, cl⟩

/-- what is asked behind an exception -/
def ExcA (G : Gx) (vs0 : List V) (Wx : WX) (O W : List Addr) (σ : L2.St) (H : Hp) (c : Str) (fs : List (Str × D)) (ρ' : List SD) : Prop :=
  ∀ p gs O' W' H', Stp O W H O' W' H' → SR G vs0 O' W' σ H' ρ' → H' p = some (.xd gs) → RpF G O' H' fs gs → Wx (.ref (G.cls c)) (some p) σ H'
def AftE (G : Gx) (vs0 : List V) (Wx : WX) (O W : List Addr) (σ : L2.St) (H : Hp) (Q : VK) : Rs (SD × List SD) → Prop
  | .ok (r, ρ') => ∀ v O' W' H', Stp O W H O' W' H' → SR G vs0 O' W' σ H' ρ' → ResR G O' W' σ H' ρ' v r → Q v H'
  | .exc c fs ρ' => ExcA G vs0 Wx O W σ H c fs ρ'
  | .bad => False
def AftB (G : Gx) (vs0 : List V) (Wx : WX) (O W : List Addr) (σ : L2.St) (H : Hp) (Q : Bool → Hp → Prop) : Rs (Bool × List SD) → Prop
  | .ok (r, ρ') => ∀ O' W' H', Stp O W H O' W' H' → SR G vs0 O' W' σ H' ρ' → Q r H'
  | .exc c fs ρ' => ExcA G vs0 Wx O W σ H c fs ρ'
  | .bad => False
/-- an operand: data, or a list of one's own that is only looked at -/
def Op1 (G : Gx) (O W : List Addr) (H : Hp) (d : D) (v : V) : Prop := Rp G O H d v ∨ ∃ a xs, d = .lst xs ∧ v = .ref a ∧ OwnAt G O W H a xs
def OpA (G : Gx) (O W : List Addr) (H : Hp) : List D → List V → Prop
  | [], vs => vs = []
  | d :: ds, vs => ∃ v r, vs = v :: r ∧ Op1 G O W H d v ∧ OpA G O W H ds r
def AftO (G : Gx) (vs0 : List V) (Wx : WX) (O W : List Addr) (σ : L2.St) (H : Hp) (Q : List V → Hp → Prop) : Rs (List D × List SD) → Prop
  | .ok (ds, ρ') => ∀ vs O' W' H', Stp O W H O' W' H' → SR G vs0 O' W' σ H' ρ' → OpA G O' W' H' ds vs → Q vs H'
  | .exc c fs ρ' => ExcA G vs0 Wx O W σ H c fs ρ'
  | .bad => False

structure EJ (X : Cx) (cl : Str → Addr) (vs0 : List V) (Wx : WX) (e : Expr) (f : Sx) : Prop where
  ex : ∃ t, PE X e t ∧ ∀ O W σ H ρ Q, SR (gx X cl) vs0 O W σ H ρ → AftE (gx X cl) vs0 Wx O W σ H Q (f ρ) → t σ H Q
structure TJ (X : Cx) (cl : Str → Addr) (vs0 : List V) (Wx : WX) (e : Expr) (f : Sb) : Prop where
  ex : ∃ t, PT X e t ∧ ∀ O W σ H ρ Q, SR (gx X cl) vs0 O W σ H ρ → AftB (gx X cl) vs0 Wx O W σ H Q (f ρ) → t σ H Q

/-! ### worlds -/
section
variable {G : Gx} {vs0 : List V} {O W O' W' O1 W1 : List Addr} {σ : L2.St} {H H' H1 : Hp} {ρ ρ' : List SD} {Wx : WX}
theorem ExcA.back {c : Str} {fs : List (Str × D)} (w : Wf O W H) (s : Stp O W H O1 W1 H1) (h : ExcA G vs0 Wx O W σ H c fs ρ') : ExcA G vs0 Wx O1 W1 σ H1 c fs ρ' :=
  fun p gs O' W' H' s' r hp hf => h p gs O' W' H' (s.trans w s') r hp hf
theorem AftE.back {Q : VK} (w : Wf O W H) (s : Stp O W H O1 W1 H1) : ∀ {r : Rs (SD × List SD)}, AftE G vs0 Wx O W σ H Q r → AftE G vs0 Wx O1 W1 σ H1 Q r
  | .ok (_, _), h => fun v O' W' H' s' sr rr => h v O' W' H' (s.trans w s') sr rr
  | .exc _ _ _, h => ExcA.back w s h
  | .bad, h => h
theorem AftB.back {Q : Bool → Hp → Prop} (w : Wf O W H) (s : Stp O W H O1 W1 H1) : ∀ {r : Rs (Bool × List SD)}, AftB G vs0 Wx O W σ H Q r → AftB G vs0 Wx O1 W1 σ H1 Q r
  | .ok (_, _), h => fun O' W' H' s' sr => h O' W' H' (s.trans w s') sr
  | .exc _ _ _, h => ExcA.back w s h
  | .bad, h => h
theorem AftO.back {Q : List V → Hp → Prop} (w : Wf O W H) (s : Stp O W H O1 W1 H1) : ∀ {r : Rs (List D × List SD)}, AftO G vs0 Wx O W σ H Q r → AftO G vs0 Wx O1 W1 σ H1 Q r
  | .ok (_, _), h => fun v O' W' H' s' sr rr => h v O' W' H' (s.trans w s') sr rr
  | .exc _ _ _, h => ExcA.back w s h
  | .bad, h => h

theorem Stp.same (h : Same H H') : Stp O W H O W H' := ⟨fun b o e _ => h b o e, fun _ h => .inl h, fun _ h => .inl h, fun b hb => by
  cases e : H b with
  | none => exact absurd e hb
  | some o => rw [h b o e]; simp, fun _ h _ => h⟩
theorem Stp.new {a : Addr} (h : Same H H') (n : H a = none) : Stp O W H (a :: O) (a :: W) H' := ⟨fun b o e _ => h b o e, fun b hb => by
  rcases List.mem_cons.mp hb with e | e
  · right; rw [e]; exact n
  · exact .inl e, fun b hb => by
  rcases List.mem_cons.mp hb with e | e
  · right; rw [e]; exact n
  · exact .inl e, fun b hb => by
  cases e : H b with
  | none => exact absurd e hb
  | some o => rw [h b o e]; simp, fun _ h _ => List.mem_cons_of_mem _ h⟩
theorem Wf.same (w : Wf O W H) (h : Same H H') : Wf O W H' := ⟨w.sub, fun b hb => by
  cases e : H b with
  | none => exact absurd e (w.trk b hb)
  | some o => rw [h b o e]; simp⟩
theorem Wf.new {a : Addr} (w : Wf O W H) (h : Same H H') (n : H' a ≠ none) : Wf (a :: O) (a :: W) H' := ⟨fun b hb => by
  rcases List.mem_cons.mp hb with e | e
  · rw [e]; exact List.mem_cons_self
  · exact List.mem_cons_of_mem _ (w.sub b e), fun b hb => by
  rcases List.mem_cons.mp hb with e | e
  · rw [e]; exact n
  · exact (w.same h).trk b e⟩
/-- the lists of one's own are as they were, and may be written still -/
theorem OwnAt.step {a : Addr} {xs : List D} (w : Wf O W H) (s : Stp O W H O' W' H') (hw : ∀ b ∈ W, b ∈ W') (hk : ∀ b o, b ∈ W → H b = some o → H' b = some o) (h : OwnAt G O W H a xs) : OwnAt G O' W' H' a xs := by
  obtain ⟨h1, vs, h2, h3, h4⟩ := h
  exact ⟨hw a h1, vs, hk a _ h1 h2, h3, RpA.step w s h4⟩
theorem SlotR.step {ov ov0 : Option V} {s : SD} (w : Wf O W H) (st : Stp O W H O' W' H') (hw : ∀ b ∈ W, b ∈ W') (hk : ∀ b o, b ∈ W → H b = some o → H' b = some o) (h : SlotR G O W H ov ov0 s) : SlotR G O' W' H' ov ov0 s := by
  cases s with
  | no => trivial
  | sh d => obtain ⟨v, e, r⟩ := h; exact ⟨v, e, r.step w st⟩
  | own xs => obtain ⟨a, e, r⟩ := h; exact ⟨a, e, r.step w st hw hk⟩
  | byr xs => obtain ⟨a, e, e0, r⟩ := h; exact ⟨a, e, e0, r.step w st hw hk⟩
theorem SR.step (r : SR G vs0 O W σ H ρ) (w' : Wf O' W' H') (st : Stp O W H O' W' H') (hw : ∀ b ∈ W, b ∈ W') (hk : ∀ b o, b ∈ W → H b = some o → H' b = some o) : SR G vs0 O' W' σ H' ρ :=
  ⟨w', r.len, fun i s e => (r.slot i s e).step r.wf st hw hk, r.apart⟩
theorem SR.same (r : SR G vs0 O W σ H ρ) (h : Same H H') : SR G vs0 O W σ H' ρ := r.step (r.wf.same h) (Stp.same h) (fun _ h => h) fun b o _ e => h b o e
theorem SR.new {a : Addr} (r : SR G vs0 O W σ H ρ) (h : Same H H') (n : H a = none) (n' : H' a ≠ none) : SR G vs0 (a :: O) (a :: W) σ H' ρ :=
  r.step (r.wf.new h n') (Stp.new h n) (fun _ h => List.mem_cons_of_mem _ h) fun b o _ e => h b o e

/-- a list is given up: it is data from now on -/
abbrev off (a : Addr) (l : List Addr) : List Addr := l.filter fun b => decide (b ≠ a)
theorem mem_off {a b : Addr} {l : List Addr} : b ∈ off a l ↔ b ∈ l ∧ b ≠ a := by simp [off]
theorem Stp.off {a : Addr} (ha : a ∈ W) : Stp O W H (off a O) (off a W) H :=
  ⟨fun _ _ h _ => h, fun b hb => .inl (mem_off.mp hb).1, fun b hb => .inl (mem_off.mp hb).1, fun _ h => h, fun b hb hn => mem_off.mpr ⟨hb, fun e => hn (e ▸ ha)⟩⟩
theorem Wf.off {a : Addr} (w : Wf O W H) : Wf (off a O) (off a W) H :=
  ⟨fun b hb => mem_off.mpr ⟨w.sub b (mem_off.mp hb).1, (mem_off.mp hb).2⟩, fun b hb => w.trk b (mem_off.mp hb).1⟩
theorem less_off {a : Addr} : ∀ b ∈ off a O, b ∈ O := fun b hb => (mem_off.mp hb).1
theorem OwnAt.off {a b : Addr} {xs : List D} (h : OwnAt G O W H b xs) (hn : b ≠ a) : OwnAt G (off a O) (off a W) H b xs := by
  obtain ⟨h1, vs, h2, h3, h4⟩ := h
  exact ⟨mem_off.mpr ⟨h1, hn⟩, vs, h2, h3, h4.less less_off⟩
theorem OwnAt.data {a : Addr} {xs : List D} (h : OwnAt G O W H a xs) : Rp G (Wm.off a O) H (.lst xs) (.ref a) := by
  obtain ⟨h1, vs, h2, h3, h4⟩ := h
  simp only [Rp]
  exact ⟨a, vs, rfl, ⟨h3, h2, fun z => (mem_off.mp z).2 rfl⟩, h4.less less_off⟩
/-- no slot holds a: it is given up -/
theorem SR.off {a : Addr} (r : SR G vs0 O W σ H ρ) (hn : ∀ (i : Nat) (s : SD), ρ[i]? = some s → s.mine = true → σ[i]? ≠ some (some (.ref a))) : SR G vs0 (off a O) (off a W) σ H ρ := by
  refine ⟨r.wf.off, r.len, fun i s e => ?_, r.apart⟩
  have q := r.slot i s e
  have nn := hn i s e
  cases s with
  | no => trivial
  | sh d => obtain ⟨v, e, r⟩ := q; exact ⟨v, e, r.less less_off⟩
  | own xs =>
    obtain ⟨b, e, r⟩ := q
    refine ⟨b, e, r.off fun z => nn rfl ?_⟩
    subst z
    cases hh : σ[i]? with
    | none => rw [hh] at e; cases e
    | some o => rw [hh] at e; exact congrArg some e
  | byr xs =>
    obtain ⟨b, e, e0, r⟩ := q
    refine ⟨b, e, e0, r.off fun z => nn rfl ?_⟩
    subst z
    cases hh : σ[i]? with
    | none => rw [hh] at e; cases e
    | some o => rw [hh] at e; exact congrArg some e
def SD.frz : SD → D
  | .sh d => d
  | .own xs => .lst xs
  | .byr xs => .lst xs
  | .no => .non
/-- what an expression gave, as data -/
theorem ResR.frz {v : V} {r : SD} (sr : SR G vs0 O W σ H ρ) (h : ResR G O W σ H ρ v r) : ∃ O' W', Stp O W H O' W' H ∧ SR G vs0 O' W' σ H ρ ∧ Rp G O' H r.frz v := by
  cases r with
  | no => exact h.elim
  | byr xs => exact h.elim
  | sh d => exact ⟨O, W, Stp.refl, sr, h⟩
  | own xs =>
    obtain ⟨a, e, o, n⟩ := h
    subst e
    exact ⟨off a O, off a W, Stp.off o.1, sr.off n, o.data⟩
theorem join_some {o : Option (Option V)} {v : V} (h : o.join = some v) : o = some (some v) := by
  cases o with
  | none => cases h
  | some o => exact congrArg some h
theorem SR.get {i : Nat} {d : D} (r : SR G vs0 O W σ H ρ) (h : ρ[i]? = some (.sh d)) : ∃ v, σ[i]? = some (some v) ∧ Rp G O H d v := by
  obtain ⟨v, e, q⟩ := r.slot i _ h
  exact ⟨v, join_some e, q⟩
theorem SR.getOwn {i : Nat} {s : SD} {xs : List D} (r : SR G vs0 O W σ H ρ) (h : ρ[i]? = some s) (hs : s = .own xs ∨ s = .byr xs) : ∃ a, σ[i]? = some (some (.ref a)) ∧ OwnAt G O W H a xs := by
  rcases hs with rfl | rfl
  · obtain ⟨a, e, q⟩ := r.slot i _ h
    exact ⟨a, join_some e, q⟩
  · obtain ⟨a, e, _, q⟩ := r.slot i _ h
    exact ⟨a, join_some e, q⟩
/-- a slot is filled with data -/
theorem SR.set {i : Nat} {d : D} {v : V} (r : SR G vs0 O W σ H ρ) (h : Rp G O H d v) : SR G vs0 O W (σ.set i (some v)) H (ρ.set i (.sh d)) := by
  refine ⟨r.wf, by rw [List.length_set, List.length_set, r.len], fun j s e => ?_, fun j k s t a e1 e2 m1 m2 s1 s2 => ?_⟩
  · by_cases hj : i = j
    · subst hj
      by_cases hl : i < ρ.length
      · rw [List.getElem?_set_self hl] at e; cases e
        rw [List.getElem?_set_self (by rw [r.len]; exact hl)]
        exact ⟨v, rfl, h⟩
      · rw [List.getElem?_eq_none (by rw [List.length_set]; omega)] at e; cases e
    · rw [List.getElem?_set_ne hj] at e
      rw [List.getElem?_set_ne hj]
      exact r.slot j s e
  · have nj : i ≠ j := fun z => by
      subst z
      by_cases hl : i < ρ.length
      · rw [List.getElem?_set_self hl] at e1; cases e1; cases m1
      · rw [List.getElem?_eq_none (by rw [List.length_set]; omega)] at e1; cases e1
    have nk : i ≠ k := fun z => by
      subst z
      by_cases hl : i < ρ.length
      · rw [List.getElem?_set_self hl] at e2; cases e2; cases m2
      · rw [List.getElem?_eq_none (by rw [List.length_set]; omega)] at e2; cases e2
    rw [List.getElem?_set_ne nj] at e1 s1
    rw [List.getElem?_set_ne nk] at e2 s2
    exact r.apart j k s t a e1 e2 m1 m2 s1 s2
/-- .. with a list of one's own -/
theorem SR.setOwn {i : Nat} {xs : List D} {a : Addr} (r : SR G vs0 O W σ H ρ) (h : OwnAt G O W H a xs) (hn : ∀ (i : Nat) (s : SD), ρ[i]? = some s → s.mine = true → σ[i]? ≠ some (some (.ref a))) :
    SR G vs0 O W (σ.set i (some (.ref a))) H (ρ.set i (.own xs)) := by
  refine ⟨r.wf, by rw [List.length_set, List.length_set, r.len], fun j s e => ?_, fun j k s t b e1 e2 m1 m2 s1 s2 => ?_⟩
  · by_cases hj : i = j
    · subst hj
      by_cases hl : i < ρ.length
      · rw [List.getElem?_set_self hl] at e; cases e
        rw [List.getElem?_set_self (by rw [r.len]; exact hl)]
        exact ⟨a, rfl, h⟩
      · rw [List.getElem?_eq_none (by rw [List.length_set]; omega)] at e; cases e
    · rw [List.getElem?_set_ne hj] at e
      rw [List.getElem?_set_ne hj]
      exact r.slot j s e
  · have inb : ∀ {k : Nat} {t : SD}, (ρ.set i (.own xs))[k]? = some t → k < σ.length := fun {k t} e => by
      have := (List.getElem?_eq_some_iff.mp e).1
      rw [List.length_set] at this
      rw [r.len]; exact this
    by_cases nj : i = j
    · by_cases nk : i = k
      · exact nj.symm.trans nk
      · subst nj
        rw [List.getElem?_set_self (inb e1)] at s1
        rw [List.getElem?_set_ne nk] at e2 s2
        cases s1
        exact absurd s2 (hn k t e2 m2)
    · by_cases nk : i = k
      · subst nk
        rw [List.getElem?_set_self (inb e2)] at s2
        rw [List.getElem?_set_ne nj] at e1 s1
        cases s2
        exact absurd s1 (hn j s e1 m1)
      · rw [List.getElem?_set_ne nj] at e1 s1
        rw [List.getElem?_set_ne nk] at e2 s2
        exact r.apart j k s t b e1 e2 m1 m2 s1 s2
/-- a result goes into a slot -/
theorem SR.put {i : Nat} {v : V} {s : SD} (r : SR G vs0 O W σ H ρ) (h : ResR G O W σ H ρ v s) : SR G vs0 O W (σ.set i (some v)) H (ρ.set i s) := by
  cases s with
  | no => exact h.elim
  | byr xs => exact h.elim
  | sh d => exact r.set h
  | own xs =>
    obtain ⟨a, e, o, n⟩ := h
    subst e
    exact r.setOwn o n
/-- a slot's own list becomes data -/
theorem SR.demote {i : Nat} {s : SD} {xs : List D} (r : SR G vs0 O W σ H ρ) (h : ρ[i]? = some s) (hs : s = .own xs ∨ s = .byr xs) :
    ∃ a O' W', σ[i]? = some (some (.ref a)) ∧ Stp O W H O' W' H ∧ SR G vs0 O' W' σ H (ρ.set i (.sh (.lst xs))) ∧ Rp G O' H (.lst xs) (.ref a) := by
  obtain ⟨a, e, o⟩ := r.getOwn h hs
  have hm : s.mine = true := by rcases hs with rfl | rfl <;> rfl
  refine ⟨a, Wm.off a O, Wm.off a W, e, Stp.off o.1, ⟨r.wf.off, by rw [List.length_set, r.len], fun j t q => ?_, fun j k t u b e1 e2 m1 m2 s1 s2 => ?_⟩, o.data⟩
  · by_cases hj : i = j
    · subst hj
      rw [List.getElem?_set_self (List.getElem?_eq_some_iff.mp h).1] at q; cases q
      rw [e]
      exact ⟨.ref a, rfl, o.data⟩
    · rw [List.getElem?_set_ne hj] at q
      have z := r.slot j t q
      have ne : ∀ b, t.mine = true → (σ[j]?).join = some (.ref b) → b ≠ a := fun b m w y => by
        subst y
        exact hj (r.apart i j s t b h q hm m e (join_some w))
      cases t with
      | no => trivial
      | sh d => obtain ⟨v, e, r⟩ := z; exact ⟨v, e, r.less less_off⟩
      | own ys => obtain ⟨b, e, r⟩ := z; exact ⟨b, e, r.off (ne b rfl e)⟩
      | byr ys => obtain ⟨b, e, e0, r⟩ := z; exact ⟨b, e, e0, r.off (ne b rfl e)⟩
  · have nj : i ≠ j := fun z => by
      subst z
      rw [List.getElem?_set_self (List.getElem?_eq_some_iff.mp h).1] at e1; cases e1; cases m1
    have nk : i ≠ k := fun z => by
      subst z
      rw [List.getElem?_set_self (List.getElem?_eq_some_iff.mp h).1] at e2; cases e2; cases m2
    rw [List.getElem?_set_ne nj] at e1
    rw [List.getElem?_set_ne nk] at e2
    exact r.apart j k t u b e1 e2 m1 m2 s1 s2
end

/-! ### constants, names -/
section
variable {X : Cx} {cl : Str → Addr} {vs0 : List V} {Wx : WX}
def xC (d : D) : Sx := fun ρ => .ok (.sh d, ρ)
theorem ej_c {e : Expr} {v : V} {d : D} (h : PE X e (tC v)) (r : ∀ O H, Rp (gx X cl) O H d v) : EJ X cl vs0 Wx e (xC d) :=
  ⟨⟨_, h, fun O W σ H ρ Q sr q => q v O W H Stp.refl sr (r O H)⟩⟩
theorem ej_int {i : Int} {j pos} : EJ X cl vs0 Wx (.Constant (.int i) j pos) (xC (.int i)) := ej_c pe_int fun _ _ => by simp only [Rp]
theorem ej_bl {i : Bool} {j pos} : EJ X cl vs0 Wx (.Constant (.bool i) j pos) (xC (.bl i)) := ej_c pe_bl fun _ _ => by simp only [Rp]
theorem ej_str {i : Str} {j pos} : EJ X cl vs0 Wx (.Constant (.str i) j pos) (xC (.str i)) := ej_c pe_str fun _ _ => by simp only [Rp]
theorem ej_non {j pos} : EJ X cl vs0 Wx (.Constant .none j pos) (xC .non) := ej_c pe_non fun _ _ => by simp only [Rp]
/-- a module's int -/
theorem ej_globI {x : Str} {i : Int} {t : Tok} {pos : Pos} (hg : Gl X x) (hm : X.mg x = some (.int i t)) (hd : (x == ("__debug__" : Str)) = false := by decide) : EJ X cl vs0 Wx (.Name x pos) (xC (.int i)) :=
  ej_c (pe_glob (v := .int i) hg hm ⟨t, rfl⟩ hd) fun _ _ => by simp only [Rp]
/-- a name, for good: a list of one's own is given up -/
def xVar (i : Nat) : Sx := fun ρ => match ρ[i]? with
  | some (.sh d) => .ok (.sh d, ρ)
  | some (.own xs) => .ok (.sh (.lst xs), ρ.set i (.sh (.lst xs)))
  | some (.byr xs) => .ok (.sh (.lst xs), ρ.set i (.sh (.lst xs)))
  | _ => .bad
theorem ej_var {i : Nat} {e : Expr} (h : PE X e (tVar i)) : EJ X cl vs0 Wx e (xVar i) := by
  refine ⟨⟨_, h, fun O W σ H ρ Q sr q => ?_⟩⟩
  unfold xVar at q
  split at q
  · rename_i d e
    obtain ⟨v, e1, r⟩ := sr.get e
    exact ⟨v, e1, q v O W H Stp.refl sr r⟩
  · rename_i xs e
    obtain ⟨a, O', W', e1, st, sr', r⟩ := sr.demote e (.inl rfl)
    exact ⟨_, e1, q (.ref a) O' W' H st sr' r⟩
  · rename_i xs e
    obtain ⟨a, O', W', e1, st, sr', r⟩ := sr.demote e (.inr rfl)
    exact ⟨_, e1, q (.ref a) O' W' H st sr' r⟩
  · exact q.elim
end

/-! ### operands -/
/-- a name that is looked at late, or an expression -/
inductive LOp where
  | va (i : Nat) | ex (f : Sx)
def lookD (ρ : List SD) (i : Nat) : Rs D := match ρ[i]? with
  | some (.sh d) => .ok d
  | some (.own xs) => .ok (.lst xs)
  | some (.byr xs) => .ok (.lst xs)
  | _ => .bad
def ops : List LOp → So
  | [], ρ => .ok ([], ρ)
  | .va i :: r, ρ => (lookD ρ i).bind fun _ => (ops r ρ).bind fun p => (lookD p.2 i).bind fun d => .ok (d :: p.1, p.2)
  | .ex f :: r, ρ => (f ρ).bind fun p => (ops r p.2).bind fun q => .ok (p.1.frz :: q.1, q.2)
def LJ (X : Cx) (cl : Str → Addr) (vs0 : List V) (Wx : WX) (e : Expr) : LOp → Prop
  | .va i => PE X e (tVar i)
  | .ex f => EJ X cl vs0 Wx e f
def tAll : List TE → TA
  | [] => tNil
  | t :: ts => tCons t (tAll ts)
inductive PEs (X : Cx) : List Expr → List TE → Prop where
  | nil : PEs X [] []
  | cons {e : Expr} {t : TE} {es : List Expr} {ts : List TE} : PE X e t → PEs X es ts → PEs X (e :: es) (t :: ts)
structure OJ (X : Cx) (cl : Str → Addr) (vs0 : List V) (Wx : WX) (es : List Expr) (fl : List LOp) : Prop where
  ex : ∃ ts, PEs X es ts ∧ PA X es (tAll ts) ∧ ∀ O W σ H ρ R, SR (gx X cl) vs0 O W σ H ρ → AftO (gx X cl) vs0 Wx O W σ H R (ops fl ρ) → tAll ts σ H R
section
variable {X : Cx} {cl : Str → Addr} {vs0 : List V} {Wx : WX}
theorem lookD_sr {G : Gx} {O W : List Addr} {σ : L2.St} {H : Hp} {ρ : List SD} {i : Nat} {d : D} (sr : SR G vs0 O W σ H ρ) (h : lookD ρ i = .ok d) : ∃ v, σ[i]? = some (some v) ∧ Op1 G O W H d v := by
  unfold lookD at h
  split at h
  · rename_i d' e
    cases h
    obtain ⟨v, e1, r⟩ := sr.get e
    exact ⟨v, e1, .inl r⟩
  · rename_i xs e
    cases h
    obtain ⟨a, e1, o⟩ := sr.getOwn e (.inl rfl)
    exact ⟨_, e1, .inr ⟨a, xs, rfl, rfl, o⟩⟩
  · rename_i xs e
    cases h
    obtain ⟨a, e1, o⟩ := sr.getOwn e (.inr rfl)
    exact ⟨_, e1, .inr ⟨a, xs, rfl, rfl, o⟩⟩
  · cases h
theorem tVar_at {i : Nat} {σ : L2.St} {H : Hp} {Q : VK} {v : V} (h : σ[i]? = some (some v)) (q : Q v H) : tVar i σ H Q := ⟨v, h, q⟩
theorem lookD_noexc {ρ : List SD} {i : Nat} {c : Str} {fs : List (Str × D)} {ρ' : List SD} : lookD ρ i ≠ .exc c fs ρ' := by
  unfold lookD
  split <;> exact fun z => nomatch z
theorem oj_nil : OJ X cl vs0 Wx [] [] := ⟨⟨[], .nil, pa_nil, fun O W σ H ρ R sr h => h [] O W H Stp.refl sr rfl⟩⟩
theorem oj_cons {e : Expr} {es : List Expr} {o : LOp} {fl : List LOp} (h : LJ X cl vs0 Wx e o) (hr : OJ X cl vs0 Wx es fl) (hs : starEach (e :: es) X.env = (false, eval e X.env) :: starEach es X.env := by rfl) : OJ X cl vs0 Wx (e :: es) (o :: fl) := by
  obtain ⟨ts, p1, p2, p3⟩ := hr.ex
  cases o with
  | va i =>
    refine ⟨⟨tVar i :: ts, .cons h p1, pa_cons h p2 hs, fun O W σ H ρ R sr hw => ?_⟩⟩
    have hw' : AftO (gx X cl) vs0 Wx O W σ H R ((lookD ρ i).bind fun _ => (ops fl ρ).bind fun p => (lookD p.2 i).bind fun d => .ok (d :: p.1, p.2)) := hw
    cases e0 : lookD ρ i with
    | bad => rw [e0] at hw'; exact hw'.elim
    | exc c fs ρ' => exact absurd e0 lookD_noexc
    | ok d0 =>
      rw [e0] at hw'
      obtain ⟨v, ev, _⟩ := lookD_sr sr e0
      refine ⟨v, ev, p3 O W σ H ρ _ sr ?_⟩
      have hw2 : AftO (gx X cl) vs0 Wx O W σ H R ((ops fl ρ).bind fun p => (lookD p.2 i).bind fun d => .ok (d :: p.1, p.2)) := hw'
      cases e1 : ops fl ρ with
      | bad => rw [e1] at hw2; exact hw2
      | exc c fs ρ' => rw [e1] at hw2; exact hw2
      | ok p =>
        obtain ⟨ds, ρ1⟩ := p
        rw [e1] at hw2
        have hw3 : AftO (gx X cl) vs0 Wx O W σ H R ((lookD ρ1 i).bind fun d => .ok (d :: ds, ρ1)) := hw2
        intro vs O' W' H' st sr' ho
        cases e2 : lookD ρ1 i with
        | bad => rw [e2] at hw3; exact hw3.elim
        | exc c fs ρ' => exact absurd e2 lookD_noexc
        | ok d =>
          rw [e2] at hw3
          obtain ⟨v', ev', r'⟩ := lookD_sr sr' e2
          rw [ev] at ev'; cases ev'
          exact hw3 (v :: vs) O' W' H' st sr' ⟨v, vs, rfl, r', ho⟩
  | ex f =>
    obtain ⟨t, q1, q2⟩ := h.ex
    refine ⟨⟨t :: ts, .cons q1 p1, pa_cons q1 p2 hs, fun O W σ H ρ R sr hw => ?_⟩⟩
    have hw' : AftO (gx X cl) vs0 Wx O W σ H R ((f ρ).bind fun p => (ops fl p.2).bind fun q => .ok (p.1.frz :: q.1, q.2)) := hw
    refine q2 O W σ H ρ _ sr ?_
    cases e0 : f ρ with
    | bad => rw [e0] at hw'; exact hw'
    | exc c fs ρ' => rw [e0] at hw'; exact hw'
    | ok p =>
      obtain ⟨r, ρ1⟩ := p
      rw [e0] at hw'
      have hw2 : AftO (gx X cl) vs0 Wx O W σ H R ((ops fl ρ1).bind fun q => .ok (r.frz :: q.1, q.2)) := hw'
      intro v O1 W1 H1 st1 sr1 rr
      obtain ⟨O2, W2, st2, sr2, rp⟩ := rr.frz sr1
      have st12 := st1.trans sr.wf st2
      refine p3 O2 W2 σ H1 ρ1 _ sr2 ?_
      cases e1 : ops fl ρ1 with
      | bad => rw [e1] at hw2; exact hw2
      | exc c fs ρ' => rw [e1] at hw2; exact ExcA.back sr.wf st12 hw2
      | ok q =>
        obtain ⟨ds, ρ2⟩ := q
        rw [e1] at hw2
        intro vs O' W' H' st sr' ho
        exact hw2 (v :: vs) O' W' H' (st12.trans sr.wf st) sr' ⟨v, vs, rfl, .inl (rp.step sr2.wf st), ho⟩
end
end Wm
end

section
/-! Operations on data: operators, comparisons, tests, displays, subscripts, slices, built-ins. -/
namespace Wm
open PySem PySem.Spec PyProof.Rows L2

/-- behind an operation: the heap grew at most -/
def AftP (G : Gx) (O : List Addr) (H : Hp) (Q : VK) : Rs SD → Prop
  | .ok (.sh d) => ∀ v H', Same H H' → Rp G O H' d v → Q v H'
  | .ok (.own xs) => ∀ a vs H', Same H H' → H a = none → H' a = some (.lst vs) → vs.length ≤ sizeLine → RpA G O H xs vs → Q (.ref a) H'
  | _ => False
def PrimR (X : Cx) (cl : Str → Addr) (rd : List V → Hp → VK → Prop) (p : List D → Rs SD) : Prop :=
  ∀ O W H ds vs Q, Wf O W H → OpA (gx X cl) O W H ds vs → AftP (gx X cl) O H Q (p ds) → rd vs H Q
def Rs.fin (ρ : List SD) : Rs SD → Rs (SD × List SD)
  | .ok (.sh d) => .ok (.sh d, ρ)
  | .ok (.own xs) => .ok (.own xs, ρ)
  | _ => .bad
def xPrim (fl : List LOp) (p : List D → Rs SD) : Sx := fun ρ => (ops fl ρ).bind fun q => (p q.1).fin q.2
section
variable {X : Cx} {cl : Str → Addr} {vs0 : List V} {Wx : WX}
theorem prim_core {ts : List TE} {fl : List LOp} {p : List D → Rs SD} {rd : List V → Hp → VK → Prop} (hr : PrimR X cl rd p)
    (h : ∀ O W σ H ρ R, SR (gx X cl) vs0 O W σ H ρ → AftO (gx X cl) vs0 Wx O W σ H R (ops fl ρ) → tAll ts σ H R) :
    ∀ O W σ H ρ Q, SR (gx X cl) vs0 O W σ H ρ → AftE (gx X cl) vs0 Wx O W σ H Q (xPrim fl p ρ) → tAll ts σ H fun vs H1 => rd vs H1 Q := by
  intro O W σ H ρ Q sr hw
  refine h O W σ H ρ _ sr ?_
  unfold xPrim at hw
  cases e : ops fl ρ with
  | bad => rw [e] at hw; exact hw
  | exc c fs ρ' => rw [e] at hw; exact hw
  | ok q =>
    obtain ⟨ds, ρ1⟩ := q
    rw [e] at hw
    have hw2 : AftE (gx X cl) vs0 Wx O W σ H Q ((p ds).fin ρ1) := hw
    intro vs O' W' H' st sr' ho
    refine hr O' W' H' ds vs Q sr'.wf ho ?_
    cases e2 : p ds with
    | bad => rw [e2] at hw2; exact hw2
    | exc c fs ρ' => rw [e2] at hw2; exact hw2
    | ok r =>
      rw [e2] at hw2
      cases r with
      | no => exact hw2
      | byr xs => exact hw2
      | sh d => exact fun v H2 sm rp => hw2 v O' W' H2 (st.trans sr.wf (Stp.same sm)) (sr'.same sm) rp
      | own xs =>
        intro a vs' H2 sm n n2 hl ra
        refine hw2 (.ref a) (a :: O') (a :: W') H2 (st.trans sr.wf (Stp.new sm n)) (sr'.new sm n (by rw [n2]; simp)) ⟨a, rfl, ⟨List.mem_cons_self, vs', n2, hl, ra.step sr'.wf (Stp.new sm n)⟩, fun i s e m z => ?_⟩
        have : ∃ xs, s = .own xs ∨ s = .byr xs := by
          cases s with
          | own xs => exact ⟨xs, .inl rfl⟩
          | byr xs => exact ⟨xs, .inr rfl⟩
          | no => cases m
          | sh d => cases m
        obtain ⟨ys, hs⟩ := this
        obtain ⟨b, eb, ob⟩ := sr'.getOwn e hs
        rw [eb] at z; cases z
        exact sr'.wf.trk _ (sr'.wf.sub _ ob.1) n

/-! ### operands by kind -/
variable {G : Gx} {O W : List Addr} {H H' : Hp} {ds : List D} {vs : List V} {d e : D} {v : V}
theorem RpA.length : ∀ {ds : List D} {vs : List V}, RpA G O H ds vs → ds.length = vs.length
  | [], vs, h => by simp only [RpA] at h; rw [h]; rfl
  | d :: ds, vs, h => by
    simp only [RpA] at h
    obtain ⟨v, r, e, _, h2⟩ := h
    rw [e, List.length_cons, List.length_cons, RpA.length h2]
theorem RpA.append : ∀ {ds es : List D} {vs ws : List V}, RpA G O H ds vs → RpA G O H es ws → RpA G O H (ds ++ es) (vs ++ ws)
  | [], es, vs, ws, h, q => by simp only [RpA] at h; rw [h]; exact q
  | d :: ds, es, vs, ws, h, q => by
    simp only [RpA] at h
    obtain ⟨v, r, e, h1, h2⟩ := h
    rw [e]
    show RpA G O H (d :: (ds ++ es)) (v :: (r ++ ws))
    simp only [RpA]
    exact ⟨v, _, rfl, h1, RpA.append h2 q⟩
theorem RpA.getV : ∀ {ds : List D} {vs : List V} {i : Nat} {v : V}, RpA G O H ds vs → vs[i]? = some v → ∃ d, ds[i]? = some d ∧ Rp G O H d v
  | [], vs, i, v, h, q => by simp only [RpA] at h; rw [h] at q; cases i <;> cases q
  | d :: ds, vs, i, v, h, q => by
    simp only [RpA] at h
    obtain ⟨w, r, e, h1, h2⟩ := h
    rw [e] at q
    cases i with
    | zero => cases q; exact ⟨d, rfl, h1⟩
    | succ i => exact RpA.getV (ds := ds) (i := i) h2 q
theorem RpA.getD : ∀ {ds : List D} {vs : List V} {i : Nat} {d : D}, RpA G O H ds vs → ds[i]? = some d → ∃ v, vs[i]? = some v ∧ Rp G O H d v
  | [], vs, i, d, h, q => by cases i <;> cases q
  | d' :: ds, vs, i, d, h, q => by
    simp only [RpA] at h
    obtain ⟨w, r, e, h1, h2⟩ := h
    rw [e]
    cases i with
    | zero => cases q; exact ⟨w, rfl, h1⟩
    | succ i => exact RpA.getD (ds := ds) (i := i) h2 q
theorem RpA.drop : ∀ {ds : List D} {vs : List V} (n : Nat), RpA G O H ds vs → RpA G O H (ds.drop n) (vs.drop n)
  | ds, vs, 0, h => h
  | [], vs, n + 1, h => by simp only [RpA] at h; rw [h]; simp only [List.drop_nil, RpA]
  | d :: ds, vs, n + 1, h => by
    simp only [RpA] at h
    obtain ⟨w, r, e, h1, h2⟩ := h
    rw [e]
    exact RpA.drop n h2
theorem RpA.take : ∀ {ds : List D} {vs : List V} (n : Nat), RpA G O H ds vs → RpA G O H (ds.take n) (vs.take n)
  | ds, vs, 0, h => by simp only [List.take_zero, RpA]
  | [], vs, n + 1, h => by simp only [RpA] at h; rw [h]; simp only [List.take_nil, RpA]
  | d :: ds, vs, n + 1, h => by
    simp only [RpA] at h
    obtain ⟨w, r, e, h1, h2⟩ := h
    rw [e]
    show RpA G O H (d :: ds.take n) (w :: r.take n)
    simp only [RpA]
    exact ⟨w, _, rfl, h1, RpA.take n h2⟩
theorem RpA.rep {ds : List D} {vs : List V} (h : RpA G O H ds vs) : ∀ n : Nat, RpA G O H (List.replicate n ds).flatten (List.replicate n vs).flatten
  | 0 => by simp only [List.replicate_zero, List.flatten_nil, RpA]
  | n + 1 => by
    rw [List.replicate_succ, List.replicate_succ, List.flatten_cons, List.flatten_cons]
    exact h.append (RpA.rep h n)
theorem RpA.ints : ∀ {ns : List Int} {vs : List V}, RpA G O H (ns.map D.int) vs → vs = ns.map V.int
  | [], vs, h => by simpa only [List.map_nil, RpA] using h
  | n :: ns, vs, h => by
    simp only [List.map_cons, RpA, Rp] at h
    obtain ⟨v, r, e, h1, h2⟩ := h
    rw [e, h1, RpA.ints h2]; rfl
theorem RpA.bls : ∀ {ns : List Bool} {vs : List V}, RpA G O H (ns.map D.bl) vs → vs = ns.map V.bl
  | [], vs, h => by simpa only [List.map_nil, RpA] using h
  | n :: ns, vs, h => by
    simp only [List.map_cons, RpA, Rp] at h
    obtain ⟨v, r, e, h1, h2⟩ := h
    rw [e, h1, RpA.bls h2]; rfl
theorem Op1.int {i : Int} (h : Op1 G O W H (.int i) v) : v = .int i := by
  rcases h with h | ⟨_, _, h, _⟩
  · simpa only [Rp] using h
  · cases h
theorem Op1.bl {i : Bool} (h : Op1 G O W H (.bl i) v) : v = .bl i := by
  rcases h with h | ⟨_, _, h, _⟩
  · simpa only [Rp] using h
  · cases h
theorem Op1.str {i : Str} (h : Op1 G O W H (.str i) v) : v = .str i := by
  rcases h with h | ⟨_, _, h, _⟩
  · simpa only [Rp] using h
  · cases h
theorem Op1.non (h : Op1 G O W H .non v) : v = .non := by
  rcases h with h | ⟨_, _, h, _⟩
  · simpa only [Rp] using h
  · cases h
theorem Op1.tup (h : Op1 G O W H (.tup ds) v) : ∃ a vs, v = .ref a ∧ TO G.K O H a vs ∧ RpA G O H ds vs := by
  rcases h with h | ⟨_, _, h, _⟩
  · simpa only [Rp] using h
  · cases h
theorem Op1.lst (h : Op1 G O W H (.lst ds) v) : ∃ a vs, v = .ref a ∧ H a = some (.lst vs) ∧ vs.length ≤ sizeLine ∧ RpA G O H ds vs := by
  rcases h with h | ⟨a, _, h, e, _, vs, h2, h3, h4⟩
  · simp only [Rp] at h
    obtain ⟨a, vs, e, t, r⟩ := h
    exact ⟨a, vs, e, t.2.1, t.1, r⟩
  · cases h
    exact ⟨a, vs, e, h2, h3, h4⟩
theorem Op1.scr {ns : List Int} (h : Op1 G O W H (.scr ns) v) : ∃ a, v = .ref a ∧ ScO G.K O H a (ns.map V.int) := by
  rcases h with h | ⟨_, _, h, _⟩
  · simpa only [Rp] using h
  · cases h
theorem RpA.ofInts : ∀ {ns : List Int}, RpA G O H (ns.map D.int) (ns.map V.int)
  | [] => by simp only [List.map_nil, RpA]
  | n :: ns => by
    simp only [List.map_cons, RpA, Rp]
    exact ⟨_, _, rfl, rfl, RpA.ofInts⟩
theorem OpA.one (h : OpA G O W H [d] vs) : ∃ v, vs = [v] ∧ Op1 G O W H d v := by
  obtain ⟨v, r, e, h1, h2⟩ := h
  have h2 : r = [] := h2
  subst h2
  exact ⟨v, e, h1⟩
theorem OpA.two (h : OpA G O W H [d, e] vs) : ∃ v w, vs = [v, w] ∧ Op1 G O W H d v ∧ Op1 G O W H e w := by
  obtain ⟨v, r, ev, h1, h2⟩ := h
  obtain ⟨w, ew, h3⟩ := OpA.one h2
  subst ew
  exact ⟨v, w, ev, h1, h3⟩
/-- a new tuple -/
theorem rp_tup {p : Addr} (w : Wf O W H) (n : H p = none) (hl : vs.length ≤ sizeLine) (h : RpA G O H ds vs) : Rp G O (upd H p (.tup vs)) (.tup ds) (.ref p) := by
  simp only [Rp]
  refine ⟨p, vs, rfl, ⟨hl, .inl ⟨.inl upd_same, fun z => w.trk p z n⟩⟩, h.step w (Stp.same fun b o e => ?_)⟩
  rw [upd_ne (ne_of_none e n)]
  exact e
theorem same_upd {p : Addr} {o : HO} (n : H p = none) : Same H (upd H p o) := fun b x e => by
  rw [upd_ne (ne_of_none e n)]
  exact e
end

/-! ### operators -/
def rd1 (r : V → Hp → VK → Prop) : List V → Hp → VK → Prop := fun vs H Q => match vs with
  | [x] => r x H Q
  | _ => False
def rd2 (r : R2) : List V → Hp → VK → Prop := fun vs H Q => match vs with
  | [x, y] => r x y H Q
  | _ => False
section
variable {X : Cx} {cl : Str → Addr} {vs0 : List V} {Wx : WX}
theorem two_of {a b : Expr} {fl : List LOp} (h : OJ X cl vs0 Wx [a, b] fl) : ∃ ta tb, PE X a ta ∧ PE X b tb ∧ ∀ O W σ H ρ R, SR (gx X cl) vs0 O W σ H ρ → AftO (gx X cl) vs0 Wx O W σ H R (ops fl ρ) → tAll [ta, tb] σ H R := by
  obtain ⟨ts, p, _, q⟩ := h.ex
  cases p with
  | cons p1 p =>
    cases p with
    | cons p2 p =>
      cases p
      exact ⟨_, _, p1, p2, q⟩
theorem one_of {a : Expr} {fl : List LOp} (h : OJ X cl vs0 Wx [a] fl) : ∃ ta, PE X a ta ∧ ∀ O W σ H ρ R, SR (gx X cl) vs0 O W σ H ρ → AftO (gx X cl) vs0 Wx O W σ H R (ops fl ρ) → tAll [ta] σ H R := by
  obtain ⟨ts, p, _, q⟩ := h.ex
  cases p with
  | cons p1 p =>
    cases p
    exact ⟨_, p1, q⟩
theorem ej_bin {op : Operator} {a b : Expr} {pos : Pos} {r : R2} {fl : List LOp} {p : List D → Rs SD} (ho : OpR X (binaryOp op) r) (hp : PrimR X cl (rd2 r) p) (h : OJ X cl vs0 Wx [a, b] fl) : EJ X cl vs0 Wx (.BinOp a op b pos) (xPrim fl p) := by
  obtain ⟨ta, tb, ha, hb, q⟩ := two_of h
  exact ⟨⟨_, pe_op ho ha hb, prim_core hp q⟩⟩
theorem ej_un {op : UnaryOp} {a : Expr} {pos : Pos} {r : V → Hp → VK → Prop} {fl : List LOp} {p : List D → Rs SD} (ho : UnR X (unaryOp op) r) (hp : PrimR X cl (rd1 r) p) (h : OJ X cl vs0 Wx [a] fl) : EJ X cl vs0 Wx (.UnaryOp op a pos) (xPrim fl p) := by
  obtain ⟨ta, ha, q⟩ := one_of h
  exact ⟨⟨_, pe_un ho ha, prim_core hp q⟩⟩
theorem ej_cmp {op : CmpOp} {a b : Expr} {pos : Pos} {r : R2} {fl : List LOp} {p : List D → Rs SD} (ho : OpR X (compareOp op) r) (hp : PrimR X cl (rd2 r) p) (h : OJ X cl vs0 Wx [a, b] fl) (hm : behindInMarks op b = false) : EJ X cl vs0 Wx (.Compare a [op] [b] pos) (xPrim fl p) := by
  obtain ⟨ta, tb, ha, hb, q⟩ := two_of h
  exact ⟨⟨_, pe_cmpR ho ha hb hm, prim_core hp q⟩⟩
theorem ej_ix {a b : Expr} {pos : Pos} {r : R2} {fl : List LOp} {p : List D → Rs SD} (ho : IxR X r) (hp : PrimR X cl (rd2 r) p) (h : OJ X cl vs0 Wx [a, b] fl) (hs : PlainIx b) : EJ X cl vs0 Wx (.Subscript a b pos) (xPrim fl p) := by
  obtain ⟨ta, tb, ha, hb, q⟩ := two_of h
  exact ⟨⟨_, pe_ix ho ha hb hs, prim_core hp q⟩⟩

def pAdd : List D → Rs SD
  | [.int i, .int j] => .ok (.sh (.int (i + j)))
  | [.tup xs, .tup ys] => if xs.length + ys.length ≤ sizeLine then .ok (.sh (.tup (xs ++ ys))) else .bad
  | [.lst xs, .lst ys] => if xs.length + ys.length ≤ sizeLine then .ok (.own (xs ++ ys)) else .bad
  | [.scr ns, .lst ys] => if ns.length + ys.length ≤ sizeLine then .ok (.own (ns.map .int ++ ys)) else .bad
  | _ => .bad
/-- the script and a list -/
def rCatC (K : PySem.W.Frag) : R2 := fun x y H Q => ∃ l b xs zs, x = .ref l ∧ y = .ref b ∧ SqL K H l xs ∧ H b = some (.lst zs) ∧ xs.length + zs.length ≤ sizeLine ∧ ∀ p, H p = none → Q (.ref p) (upd H p (.lst (xs ++ zs)))
theorem list_addW (l : Addr) (items : Array Value) (n : Nat) (dd : Option Addr) (sl : Array (Option Value)) (b : Addr) (items2 : Array Value) (n2 : Nat) (hsz : items.size + items2.size ≤ sizeLine) :
    Meets (Builtin.«list.__add__» ⟨[.ref l, .ref b], []⟩) (fun _ R s => s.heap.get? l = some { cls := .type "list", dict := dd, data := .seq items n, slots := sl } ∧ s.heap.get? b = some { cls := .type "list", data := .seq items2 n2 } ∧
      R (.ok (.ret (Value.ref s.heap.objs.size))) { s with heap := s.heap.push { cls := Value.type "list", data := Data.seq (items ++ items2) } }) :=
  .of_wp fun prog w A R s h => by
    obtain ⟨hp, g, d, tk, os⟩ := s
    obtain ⟨hl, hb, h⟩ := h
    have ff := AutoSeq1.sub_list_list
    wp_walk using wpAny_loadPart' hl, wpAny_loadPart' hb
    exact ⟨_, rfl, h⟩
theorem op_catC : OpR X (binaryOp .Add) (rCatC X.K) := by
  intro pins s σ H x y v u Q I rx ry h
  obtain ⟨l, b, xs, zs, rfl, rfl, hH, hB, hz, q⟩ := h
  cases rx
  cases ry
  obtain ⟨its, r, ⟨⟨oc, od, odt, osl⟩, n, e, hc, hd, hs⟩, _⟩ := I.list hH
  obtain ⟨z2, its2, n2, r2, hl2, e2⟩ := I.lstM hB
  have hl := r.length
  simp only at hc hd hs
  subst hc hd hs
  refine concat_meets ⟨_, e, rfl⟩ ⟨_, e2, rfl⟩ noFill_list_add seq_list_add F.slot_list_add F.entry_list_add (F.args_list_add_2 _ _)
    (list_addW l its.toArray n none osl b its2.toArray n2 (by rw [List.size_toArray, List.size_toArray]; omega)) ⟨e, e2, ?_⟩
  rw [show its.toArray ++ its2.toArray = (its ++ its2).toArray by simp]
  exact ⟨.ref _, _, I.lnew (t' := s.toks) (r.append r2) (by rw [List.length_append]; omega), rfl, q _ I.fresh⟩
theorem op_addD : OpR X (binaryOp .Add) (fun x y H Q => rI0 (fun i j => .int (i + j)) x y H Q ∨ rCatA X.K x y H Q ∨ rCat x y H Q ∨ rCatC X.K x y H Q) := op_add.or (op_catA.or (op_cat.or op_catC))
theorem pr_add : PrimR X cl (rd2 fun x y H Q => rI0 (fun i j => .int (i + j)) x y H Q ∨ rCatA X.K x y H Q ∨ rCat x y H Q ∨ rCatC X.K x y H Q) pAdd := by
  intro O W H ds vs Q w ho hp
  unfold pAdd at hp
  split at hp
  · obtain ⟨x, y, rfl, h1, h2⟩ := ho.two
    exact .inl ⟨_, _, h1.int, h2.int, hp _ H (Same.refl H) (by simp only [Rp])⟩
  · obtain ⟨x, y, rfl, h1, h2⟩ := ho.two
    split at hp
    · rename_i hz
      obtain ⟨a, xs, e1, t1, r1⟩ := h1.tup
      obtain ⟨b, ys, e2, t2, r2⟩ := h2.tup
      have l1 := r1.length
      have l2 := r2.length
      have hz' : xs.length + ys.length ≤ sizeLine := by omega
      refine .inr (.inl ⟨a, b, xs, ys, e1, e2, t1.sq, t2.sq, hz', fun z => ?_, fun _ z => ?_, fun _ _ p n => ?_⟩)
      · subst z
        refine hp _ H (Same.refl H) ?_
        have : (_ : List D) = [] := List.eq_nil_of_length_eq_zero l1
        rw [this, List.nil_append]
        simp only [Rp]
        exact ⟨b, ys, rfl, t2, r2⟩
      · subst z
        refine hp _ H (Same.refl H) ?_
        have : (_ : List D) = [] := List.eq_nil_of_length_eq_zero l2
        rw [this, List.append_nil]
        simp only [Rp]
        exact ⟨a, xs, rfl, t1, r1⟩
      · exact hp _ _ (same_upd n) (rp_tup w n (by rw [List.length_append]; exact hz') (r1.append r2))
    · exact hp.elim
  · obtain ⟨x, y, rfl, h1, h2⟩ := ho.two
    split at hp
    · rename_i hz
      obtain ⟨a, xs, e1, t1, z1, r1⟩ := h1.lst
      obtain ⟨b, ys, e2, t2, z2, r2⟩ := h2.lst
      have l1 := r1.length
      have l2 := r2.length
      have hz' : xs.length + ys.length ≤ sizeLine := by omega
      exact .inr (.inr (.inl ⟨a, b, xs, ys, e1, e2, t1, t2, hz', fun p n => hp p _ _ (same_upd n) n upd_same (by rw [List.length_append]; exact hz') (r1.append r2)⟩))
    · exact hp.elim
  · obtain ⟨x, y, rfl, h1, h2⟩ := ho.two
    split at hp
    · rename_i ns es hz
      obtain ⟨a, e1, t1⟩ := h1.scr
      obtain ⟨b, ys, e2, t2, z2, r2⟩ := h2.lst
      have l2 := r2.length
      have hz' : (ns.map V.int).length + ys.length ≤ sizeLine := by rw [List.length_map]; omega
      exact .inr (.inr (.inr ⟨a, b, _, ys, e1, e2, t1.sq, t2, hz', fun p n => hp p _ _ (same_upd n) n upd_same (by rw [List.length_append]; exact hz') (RpA.append RpA.ofInts r2)⟩))
    · exact hp.elim
  · exact hp.elim
theorem ej_add {a b : Expr} {pos : Pos} {fl : List LOp} (h : OJ X cl vs0 Wx [a, b] fl) : EJ X cl vs0 Wx (.BinOp a .Add b pos) (xPrim fl pAdd) := ej_bin op_addD pr_add h
end
end Wm
end

section
/-! More operations on data. -/
namespace Wm
open PySem PySem.Spec PyProof.Rows L2

/-! ### data compared -/
mutual
def eqD : D → D → Bool
  | .non, .non => true
  | .bl a, .bl b => a == b
  | .bl a, .int j => (if a then 1 else 0) == j
  | .int i, .bl b => i == (if b then 1 else 0)
  | .int i, .int j => i == j
  | .str x, .str y => x == y
  | .lst xs, .lst ys => eqDs xs ys
  | .tup xs, .tup ys => eqDs xs ys
  | _, _ => false
def eqDs : List D → List D → Bool
  | [], [] => true
  | x :: xs, y :: ys => eqD x y && eqDs xs ys
  | _, _ => false
end
mutual
def okN : Nat → D → Bool
  | _, .non => true
  | _, .bl _ => true
  | _, .int _ => true
  | _, .str x => PyData.strOk x
  | n + 1, .tup xs => okNs n xs
  | n + 1, .lst xs => okNs n xs
  | _, _ => false
def okNs : Nat → List D → Bool
  | _, [] => true
  | n, x :: xs => okN n x && okNs n xs
end
mutual
def D.py : D → PyData
  | .non => .none
  | .bl b => .bool b
  | .int i => .int i
  | .str x => .str x
  | .tup xs => .tuple (pys xs)
  | .lst xs => .list (pys xs)
  | .ins _ _ => .none
  | .scr _ => .none
def pys : List D → List PyData
  | [] => []
  | x :: xs => x.py :: pys xs
end
mutual
theorem okN_lay : ∀ {n : Nat} {d : D}, okN n d = true → d.py.canLay0 = true ∧ d.py.depth ≤ n
  | n, .non, _ => by simp [D.py, PyData.canLay0, PyData.depth]
  | n, .bl _, _ => by simp [D.py, PyData.canLay0, PyData.depth]
  | n, .int _, _ => by simp [D.py, PyData.canLay0, PyData.depth]
  | n, .str x, h => by simp only [okN] at h; simp [D.py, PyData.canLay0, PyData.depth, h]
  | 0, .tup xs, h => by simp [okN] at h
  | 0, .lst xs, h => by simp [okN] at h
  | n + 1, .tup xs, h => by
    simp only [okN] at h
    have := okNs_lay h
    simp only [D.py, PyData.canLay0, PyData.depth]
    exact ⟨this.1, Nat.succ_le_succ this.2⟩
  | n + 1, .lst xs, h => by
    simp only [okN] at h
    have := okNs_lay h
    simp only [D.py, PyData.canLay0, PyData.depth]
    exact ⟨this.1, Nat.succ_le_succ this.2⟩
  | n, .ins _ _, h => by cases n <;> simp [okN] at h
  | n, .scr _, h => by cases n <;> simp [okN] at h
theorem okNs_lay : ∀ {n : Nat} {ds : List D}, okNs n ds = true → PyData.canLayAll0 (pys ds) = true ∧ PyData.depthAll (pys ds) ≤ n
  | n, [], _ => by simp [pys, PyData.canLayAll0, PyData.depthAll]
  | n, d :: ds, h => by
    simp only [okNs, Bool.and_eq_true] at h
    have h1 := okN_lay h.1
    have h2 := okNs_lay h.2
    simp only [pys, PyData.canLayAll0, PyData.depthAll, Bool.and_eq_true]
    exact ⟨⟨h1.1, h2.1⟩, Nat.max_le.mpr ⟨h1.2, h2.2⟩⟩
end
mutual
theorem eqD_py : ∀ {n m : Nat} {d e : D}, okN n d = true → okN m e = true → PyData.eqv d.py e.py = eqD d e
  | n, m, d, .ins _ _, _, h => by cases m <;> simp [okN] at h
  | n, m, .ins _ _, e, h, _ => by cases n <;> simp [okN] at h
  | n, m, d, .scr _, _, h => by cases m <;> simp [okN] at h
  | n, m, .scr _, e, h, _ => by cases n <;> simp [okN] at h
  | n, m, .non, .non, _, _ | n, m, .non, .bl _, _, _ | n, m, .non, .int _, _, _ | n, m, .non, .str _, _, _ | n, m, .non, .tup _, _, _ | n, m, .non, .lst _, _, _ => by simp [D.py, PyData.eqv, eqD]
  | n, m, .bl _, .non, _, _ | n, m, .bl _, .bl _, _, _ | n, m, .bl _, .int _, _, _ | n, m, .bl _, .str _, _, _ | n, m, .bl _, .tup _, _, _ | n, m, .bl _, .lst _, _, _ => by simp [D.py, PyData.eqv, eqD]
  | n, m, .int _, .non, _, _ | n, m, .int _, .bl _, _, _ | n, m, .int _, .int _, _, _ | n, m, .int _, .str _, _, _ | n, m, .int _, .tup _, _, _ | n, m, .int _, .lst _, _, _ => by simp [D.py, PyData.eqv, eqD]
  | n, m, .str _, .non, _, _ | n, m, .str _, .bl _, _, _ | n, m, .str _, .int _, _, _ | n, m, .str _, .str _, _, _ | n, m, .str _, .tup _, _, _ | n, m, .str _, .lst _, _, _ => by simp [D.py, PyData.eqv, eqD]
  | n, m, .tup _, .non, _, _ | n, m, .tup _, .bl _, _, _ | n, m, .tup _, .int _, _, _ | n, m, .tup _, .str _, _, _ | n, m, .tup _, .lst _, _, _ => by simp [D.py, PyData.eqv, eqD]
  | n, m, .lst _, .non, _, _ | n, m, .lst _, .bl _, _, _ | n, m, .lst _, .int _, _, _ | n, m, .lst _, .str _, _, _ | n, m, .lst _, .tup _, _, _ => by simp [D.py, PyData.eqv, eqD]
  | 0, m, .tup xs, .tup ys, h, _ => by simp [okN] at h
  | n + 1, 0, .tup xs, .tup ys, _, h => by simp [okN] at h
  | 0, m, .lst xs, .lst ys, h, _ => by simp [okN] at h
  | n + 1, 0, .lst xs, .lst ys, _, h => by simp [okN] at h
  | n + 1, m + 1, .tup xs, .tup ys, h, h' => by
    simp only [okN] at h h'
    simp only [D.py, PyData.eqv, eqD]
    exact eqDs_py h h'
  | n + 1, m + 1, .lst xs, .lst ys, h, h' => by
    simp only [okN] at h h'
    simp only [D.py, PyData.eqv, eqD]
    exact eqDs_py h h'
theorem eqDs_py : ∀ {n m : Nat} {ds es : List D}, okNs n ds = true → okNs m es = true → PyData.eqvAll (pys ds) (pys es) = eqDs ds es
  | n, m, [], [], _, _ => by simp [pys, PyData.eqvAll, eqDs]
  | n, m, [], _ :: _, _, _ => by simp [pys, PyData.eqvAll, eqDs]
  | n, m, _ :: _, [], _, _ => by simp [pys, PyData.eqvAll, eqDs]
  | n, m, d :: ds, e :: es, h, h' => by
    simp only [okNs, Bool.and_eq_true] at h h'
    simp only [pys, PyData.eqvAll, eqDs, eqD_py h.1 h'.1, eqDs_py h.2 h'.2]
end
section
variable {G : Gx} {O W : List Addr} {H : Hp}
mutual
theorem Rp.dp : ∀ {n : Nat} {d : D} {v : V}, okN n d = true → Rp G O H d v → Dp G.K H v d.py
  | n, .non, v, _, h => by simp only [Rp] at h; subst h; simp only [D.py]; exact .non
  | n, .bl b, v, _, h => by simp only [Rp] at h; subst h; simp only [D.py]; exact .bl b
  | n, .int b, v, _, h => by simp only [Rp] at h; subst h; simp only [D.py]; exact .int b
  | n, .str b, v, _, h => by simp only [Rp] at h; subst h; simp only [D.py]; exact .str b
  | 0, .tup ds, v, h, _ => by simp [okN] at h
  | 0, .lst ds, v, h, _ => by simp [okN] at h
  | n + 1, .tup ds, v, h, q => by
    simp only [Rp] at q
    obtain ⟨a, vs, rfl, t, r⟩ := q
    simp only [okN] at h
    simp only [D.py]
    exact .tup t.sq (RpA.dp h r)
  | n + 1, .lst ds, v, h, q => by
    simp only [Rp] at q
    obtain ⟨a, vs, rfl, t, r⟩ := q
    simp only [okN] at h
    simp only [D.py]
    exact .lst t.sq (RpA.dp h r)
  | n, .ins _ _, v, h, _ => by cases n <;> simp [okN] at h
  | n, .scr _, v, h, _ => by cases n <;> simp [okN] at h
theorem RpA.dp : ∀ {n : Nat} {ds : List D} {vs : List V}, okNs n ds = true → RpA G O H ds vs → DpAll G.K H vs (pys ds)
  | n, [], vs, _, h => by simp only [RpA] at h; subst h; simp only [pys]; exact .nil
  | n, d :: ds, vs, h, q => by
    simp only [RpA] at q
    obtain ⟨v, r, rfl, h1, h2⟩ := q
    simp only [okNs, Bool.and_eq_true] at h
    simp only [pys]
    exact .cons (Rp.dp h.1 h1) (RpA.dp h.2 h2)
end
theorem Op1.dp {n : Nat} {d : D} {v : V} (h : okN n d = true) (q : Op1 G O W H d v) : Dp G.K H v d.py := by
  rcases q with q | ⟨a, xs, rfl, rfl, _, vs, h2, h3, h4⟩
  · exact q.dp h
  · cases n with
    | zero => simp [okN] at h
    | succ n =>
      simp only [okN] at h
      simp only [D.py]
      exact .lst (SqL.of h2) (h4.dp h)
end
/-- depth and texts as must be -/
abbrev okD (d : D) : Bool := okN 60 d
theorem okD_shaped {d : D} (h : okD d = true) : SeqAt.shaped d.py = true := by
  have := okN_lay h
  unfold SeqAt.shaped
  rw [this.1, decide_eq_true (show d.py.depth ≤ 64 by omega)]
  rfl
def pEq : List D → Rs SD
  | [x, y] => if okD x && okD y then .ok (.sh (.bl (eqD x y))) else .bad
  | _ => .bad
def pNe : List D → Rs SD
  | [x, y] => if okD x && okD y then .ok (.sh (.bl (!eqD x y))) else .bad
  | _ => .bad
section
variable {X : Cx} {cl : Str → Addr} {vs0 : List V} {Wx : WX}
theorem pr_eq : PrimR X cl (rd2 (rEqD X.K)) pEq := by
  intro O W H ds vs Q w ho hp
  unfold pEq at hp
  split at hp
  · split at hp
    · rename_i hk
      rw [Bool.and_eq_true] at hk
      obtain ⟨x, y, rfl, h1, h2⟩ := ho.two
      refine ⟨_, _, h1.dp hk.1, h2.dp hk.2, okD_shaped hk.1, okD_shaped hk.2, ?_⟩
      rw [eqD_py hk.1 hk.2]
      exact hp _ H (Same.refl H) (by simp only [Rp])
    · exact hp.elim
  · exact hp.elim
theorem pr_ne : PrimR X cl (rd2 (rNeD X.K)) pNe := by
  intro O W H ds vs Q w ho hp
  unfold pNe at hp
  split at hp
  · split at hp
    · rename_i hk
      rw [Bool.and_eq_true] at hk
      obtain ⟨x, y, rfl, h1, h2⟩ := ho.two
      refine ⟨_, _, h1.dp hk.1, h2.dp hk.2, okD_shaped hk.1, okD_shaped hk.2, ?_⟩
      rw [eqD_py hk.1 hk.2]
      exact hp _ H (Same.refl H) (by simp only [Rp])
    · exact hp.elim
  · exact hp.elim

/-! ### ints -/
def pI2 (C : Int → Int → Prop) [∀ i j, Decidable (C i j)] (g : Int → Int → D) : List D → Rs SD
  | [.int i, .int j] => if C i j then .ok (.sh (g i j)) else .bad
  | _ => .bad
theorem pr_I2 {C : Int → Int → Prop} [∀ i j, Decidable (C i j)] {g : Int → Int → D} {gv : Int → Int → V} {r : R2} (hg : ∀ (G : Gx) O H i j, Rp G O H (g i j) (gv i j)) (hr : ∀ x y H Q, rI C gv x y H Q → r x y H Q) : PrimR X cl (rd2 r) (pI2 C g) := by
  intro O W H ds vs Q w ho hp
  unfold pI2 at hp
  split at hp
  · split at hp
    · rename_i hc
      obtain ⟨x, y, rfl, h1, h2⟩ := ho.two
      exact hr _ _ _ _ ⟨_, _, h1.int, h2.int, hc, hp _ H (Same.refl H) (hg _ _ _ _ _)⟩
    · exact hp.elim
  · exact hp.elim
def pI0 (g : Int → Int → D) : List D → Rs SD
  | [.int i, .int j] => .ok (.sh (g i j))
  | _ => .bad
theorem pr_I0 {g : Int → Int → D} {gv : Int → Int → V} (hg : ∀ (G : Gx) O H i j, Rp G O H (g i j) (gv i j)) : PrimR X cl (rd2 (rI0 gv)) (pI0 g) := by
  intro O W H ds vs Q w ho hp
  unfold pI0 at hp
  split at hp
  · obtain ⟨x, y, rfl, h1, h2⟩ := ho.two
    exact ⟨_, _, h1.int, h2.int, hp _ H (Same.refl H) (hg _ _ _ _ _)⟩
  · exact hp.elim
abbrev pSub := pI0 fun i j => .int (i - j)
abbrev pLt := pI0 fun i j => .bl (decide (i < j))
abbrev pLe := pI0 fun i j => .bl (decide (i ≤ j))
abbrev pGt := pI0 fun i j => .bl (decide (j < i))
abbrev pGe := pI0 fun i j => .bl (decide (j ≤ i))
/-- the model asks nothing of these -/
noncomputable instance decMul (i j : Int) : Decidable (IntMulOk i j) := Classical.propDecidable _
def CDv (_ j : Int) : Prop := j ≠ 0 ∧ j.natAbs.log2 < 9000
instance (i j : Int) : Decidable (CDv i j) := by unfold CDv; infer_instance
def CMd (_ j : Int) : Prop := j ≠ 0
instance (i j : Int) : Decidable (CMd i j) := by unfold CMd; infer_instance
abbrev pFdiv := pI2 CDv fun i j => .int (i.fdiv j)
abbrev pMod := pI2 CMd fun i j => .int (i.fmod j)
theorem op_fdivD : OpR X (binaryOp .FloorDiv) (rI CDv fun i j => .int (i.fdiv j)) := opI fun i j _ _ _ _ _ hc q => floordiv_int hc.1 q (.inl (PyProof.noPylong_of_log2 hc.2))
instance (i j : Int) : Decidable (CPow i j) := by unfold CPow; infer_instance
abbrev pPow := pI2 CPow fun i j => .int (i ^ j.toNat)
theorem op_mulI : OpR X (binaryOp .Mult) (rI IntMulOk fun i j => .int (i * j)) := opI fun _ _ _ _ _ _ _ hc q => mul_int q hc
variable {a b : Expr} {pos : Pos} {fl : List LOp}
theorem ej_sub (h : OJ X cl vs0 Wx [a, b] fl) : EJ X cl vs0 Wx (.BinOp a .Sub b pos) (xPrim fl pSub) := ej_bin op_sub (pr_I0 fun _ _ _ _ _ => by simp only [Rp]) h
theorem ej_fdiv (h : OJ X cl vs0 Wx [a, b] fl) : EJ X cl vs0 Wx (.BinOp a .FloorDiv b pos) (xPrim fl pFdiv) := ej_bin op_fdivD (pr_I2 (fun _ _ _ _ _ => by simp only [Rp]) fun _ _ _ _ h => h) h
theorem ej_mod (h : OJ X cl vs0 Wx [a, b] fl) : EJ X cl vs0 Wx (.BinOp a .Mod b pos) (xPrim fl pMod) := ej_bin op_modN (pr_I2 (fun _ _ _ _ _ => by simp only [Rp]) fun _ _ _ _ h => h) h
theorem ej_pow (h : OJ X cl vs0 Wx [a, b] fl) : EJ X cl vs0 Wx (.BinOp a .Pow b pos) (xPrim fl pPow) := ej_bin op_pow (pr_I2 (fun _ _ _ _ _ => by simp only [Rp]) fun _ _ _ _ h => h) h
theorem ej_lt (h : OJ X cl vs0 Wx [a, b] fl) : EJ X cl vs0 Wx (.Compare a [.Lt] [b] pos) (xPrim fl pLt) := ej_cmp op_lt (pr_I0 fun _ _ _ _ _ => by simp only [Rp]) h (nomark _)
theorem ej_le (h : OJ X cl vs0 Wx [a, b] fl) : EJ X cl vs0 Wx (.Compare a [.LtE] [b] pos) (xPrim fl pLe) := ej_cmp op_le (pr_I0 fun _ _ _ _ _ => by simp only [Rp]) h (nomark _)
theorem ej_gt (h : OJ X cl vs0 Wx [a, b] fl) : EJ X cl vs0 Wx (.Compare a [.Gt] [b] pos) (xPrim fl pGt) := ej_cmp op_gt (pr_I0 fun _ _ _ _ _ => by simp only [Rp]) h (nomark _)
theorem ej_ge (h : OJ X cl vs0 Wx [a, b] fl) : EJ X cl vs0 Wx (.Compare a [.GtE] [b] pos) (xPrim fl pGe) := ej_cmp op_ge (pr_I0 fun _ _ _ _ _ => by simp only [Rp]) h (nomark _)
theorem ej_eq (hu : X.A.units + 64 < cLine) (h : OJ X cl vs0 Wx [a, b] fl) : EJ X cl vs0 Wx (.Compare a [.Eq] [b] pos) (xPrim fl pEq) := ej_cmp (op_eqD hu) pr_eq h (nomark _)
theorem ej_ne (hu : X.A.units + 64 < cLine) (h : OJ X cl vs0 Wx [a, b] fl) : EJ X cl vs0 Wx (.Compare a [.NotEq] [b] pos) (xPrim fl pNe) := ej_cmp (op_neD hu) pr_ne h (nomark _)
def pNeg : List D → Rs SD
  | [.int i] => .ok (.sh (.int (-i)))
  | _ => .bad
theorem ej_neg (h : OJ X cl vs0 Wx [a] fl) : EJ X cl vs0 Wx (.UnaryOp .USub a pos) (xPrim fl pNeg) := ej_un un_neg (fun O W H ds vs Q w ho hp => by
  unfold pNeg at hp
  split at hp
  · obtain ⟨x, rfl, h1⟩ := ho.one
    exact ⟨_, h1.int, hp _ H (Same.refl H) (by simp only [Rp])⟩
  · exact hp.elim) h
def pIsN : List D → Rs SD
  | [.non, .non] => .ok (.sh (.bl true))
  | [_, .non] => .ok (.sh (.bl false))
  | _ => .bad
def pNotN : List D → Rs SD
  | [.non, .non] => .ok (.sh (.bl false))
  | [_, .non] => .ok (.sh (.bl true))
  | _ => .bad
theorem Op1.notNon {G : Gx} {O W : List Addr} {H : Hp} {d : D} {v : V} (h : Op1 G O W H d v) (hd : d ≠ .non) : v ≠ .non := by
  rcases h with h | ⟨a, xs, rfl, rfl, _⟩
  · cases d <;> simp only [Rp] at h
    · exact absurd rfl hd
    · rw [h]; exact fun z => nomatch z
    · rw [h]; exact fun z => nomatch z
    · rw [h]; exact fun z => nomatch z
    · obtain ⟨a, vs, e, _⟩ := h; rw [e]; exact fun z => nomatch z
    · obtain ⟨a, vs, e, _⟩ := h; rw [e]; exact fun z => nomatch z
    · obtain ⟨a, vs, _, e, _⟩ := h; rw [e]; exact fun z => nomatch z
    · obtain ⟨a, e, _⟩ := h; rw [e]; exact fun z => nomatch z
  · exact fun z => nomatch z
theorem ej_isN (h : OJ X cl vs0 Wx [a, b] fl) : EJ X cl vs0 Wx (.Compare a [.Is] [b] pos) (xPrim fl pIsN) := ej_cmp op_isN (fun O W H ds vs Q w ho hp => by
  unfold pIsN at hp
  split at hp
  · obtain ⟨x, y, rfl, h1, h2⟩ := ho.two
    refine ⟨h2.non, ?_⟩
    rw [h1.non]
    exact hp _ H (Same.refl H) (by simp [Rp])
  · rename_i d hd
    obtain ⟨x, y, rfl, h1, h2⟩ := ho.two
    refine ⟨h2.non, ?_⟩
    rw [decide_eq_false (h1.notNon fun z => hd z)]
    exact hp _ H (Same.refl H) (by simp [Rp])
  · exact hp.elim) h (nomark _)
theorem ej_notN (h : OJ X cl vs0 Wx [a, b] fl) : EJ X cl vs0 Wx (.Compare a [.IsNot] [b] pos) (xPrim fl pNotN) := ej_cmp op_notN (fun O W H ds vs Q w ho hp => by
  unfold pNotN at hp
  split at hp
  · obtain ⟨x, y, rfl, h1, h2⟩ := ho.two
    refine ⟨h2.non, ?_⟩
    rw [h1.non]
    exact hp _ H (Same.refl H) (by simp [Rp])
  · rename_i d hd
    obtain ⟨x, y, rfl, h1, h2⟩ := ho.two
    refine ⟨h2.non, ?_⟩
    rw [decide_eq_false (h1.notNon fun z => hd z)]
    exact hp _ H (Same.refl H) (by simp [Rp])
  · exact hp.elim) h (nomark _)
end
end Wm
end

section
/-! Products, subscripts, slices, displays, built-ins. -/
namespace Wm
open PySem PySem.Spec PyProof.Rows L2
theorem tuple_mulS (l : Addr) (items : Array Value) (n : Nat) (dd : Option Addr) (sl : Array (Option Value)) (x : Int) (u : Tok) (c0 : (decide (x < -(2 ^ 63)) || decide (x ≥ 2 ^ 63)) = false) (c1 : (items.isEmpty || x == 1) = true) :
    Meets (Builtin.«tuple.__mul__» ⟨[.ref l, .int x u], []⟩) (fun _ R s => s.heap.get? l = some { cls := .type "tuple", dict := dd, data := .seq items n, slots := sl } ∧
      R (.ok (.ret (Value.ref l))) s) :=
  .of_wp fun prog w A R s h => by
    obtain ⟨hp, g, d, tk, os⟩ := s
    obtain ⟨hl, h⟩ := h
    have f1 := AutoSeq1.idx_int
    wp_walk using wpAny_loadPart' hl
    repeat (first
      | (refine wpAny_ite_false (decide_eq_false (by rw [c0]; exact Bool.false_ne_true)) ?_; wp_walk using wpAny_loadPart' hl)
      | (refine wpAny_ite_true (decide_eq_true (by rw [c1])) ?_; wp_walk using wpAny_loadPart' hl))
    exact ⟨_, rfl, h⟩
theorem tuple_mul0 (l : Addr) (items : Array Value) (n : Nat) (dd : Option Addr) (sl : Array (Option Value)) (x : Int) (u : Tok) (c0 : (decide (x < -(2 ^ 63)) || decide (x ≥ 2 ^ 63)) = false) (c1 : (items.isEmpty || x == 1) = false) (c2 : (decide (x ≤ 0) || items.isEmpty) = true) :
    Meets (Builtin.«tuple.__mul__» ⟨[.ref l, .int x u], []⟩) (fun _ R s => s.heap.get? l = some { cls := .type "tuple", dict := dd, data := .seq items n, slots := sl } ∧
      R (.ok (.ret (Value.ref s.heap.objs.size))) { s with heap := s.heap.push { cls := Value.type "tuple", data := Data.seq #[] }, toks := s.toks }) :=
  .of_wp fun prog w A R s h => by
    obtain ⟨hp, g, d, tk, os⟩ := s
    obtain ⟨hl, h⟩ := h
    have f1 := AutoSeq1.idx_int
    wp_walk using wpAny_loadPart' hl
    repeat (first
      | (refine wpAny_ite_false (decide_eq_false (by rw [c0]; exact Bool.false_ne_true)) ?_; wp_walk using wpAny_loadPart' hl)
      | (refine wpAny_ite_false (decide_eq_false (by rw [c1]; exact Bool.false_ne_true)) ?_; wp_walk using wpAny_loadPart' hl)
      | (refine wpAny_ite_true (decide_eq_true (by rw [c2])) ?_; wp_walk using wpAny_loadPart' hl))
    exact ⟨_, rfl, h⟩

section
variable {X : Cx} {cl : Str → Addr} {vs0 : List V} {Wx : WX}
/-! ### a tuple, a list so many times -/
def rRepS (K : PySem.W.Frag) : R2 := fun x y H Q => ∃ l k xs, x = .ref l ∧ y = .int k ∧ SqT K H l xs ∧ (xs = [] ∨ k = 1) ∧ -(2 ^ 63) ≤ k ∧ k < 2 ^ 63 ∧ Q (.ref l) H
def rRep0 (K : PySem.W.Frag) : R2 := fun x y H Q => ∃ l k xs, x = .ref l ∧ y = .int k ∧ SqT K H l xs ∧ xs ≠ [] ∧ k ≤ 0 ∧ -(2 ^ 63) ≤ k ∧ ∀ p, H p = none → Q (.ref p) (upd H p (.tup []))
theorem op_repS : OpR X (binaryOp .Mult) (rRepS X.K) := by
  intro pins s σ H x y v u Q I rx ry h
  obtain ⟨l, k, xs, rfl, rfl, hT, hne, h1, h2, q⟩ := h
  cases rx
  obtain ⟨t, rfl⟩ := ry
  obtain ⟨its, r, ⟨⟨cls, dd, data, sl⟩, ho, hc, n, hd⟩, hs⟩ := I.tuple hT
  simp only at hc hd
  subst hc hd
  have c0 : (decide (k < -(2 ^ 63)) || decide (k ≥ 2 ^ 63)) = false := by
    rw [decide_eq_false (by omega), decide_eq_false (by omega)] <;> rfl
  have c1 : (its.toArray.isEmpty || k == 1) = true := by
    rcases hne with z | z
    · subst z
      cases r
      rfl
    · rw [z]; simp
  refine wpAny_binaryOp_repeat_ref (T := "tuple") (U := "int") (by decide) ⟨_, ho, rfl⟩ (fun s' => typeIs_int s' k t) noFill_tuple_mul F.fills_int_mul F.slot_int_rmul repeat_tuple F.slot_int_index.lookup
    (call_meets F.slot_int_rmul (typeIs_int s k t) F.entry_int_rmul (F.args_int_rmul_2 _ _) (int_rmul_tuple k t l its.toArray n dd sl)
      ⟨ho, rfl, ⟨_, ho, rfl⟩, call_meets F.slot_tuple_mul ⟨_, ho, rfl⟩ F.entry_tuple_mul (F.args_tuple_mul_2 _ _) (tuple_mulS l its.toArray n dd sl k t c0 c1) ⟨ho, ?_⟩⟩)
  exact ⟨.ref l, H, I, rfl, q⟩
theorem op_rep0 : OpR X (binaryOp .Mult) (rRep0 X.K) := by
  intro pins s σ H x y v u Q I rx ry h
  obtain ⟨l, k, xs, rfl, rfl, hT, hne, h1, h2, q⟩ := h
  cases rx
  obtain ⟨t, rfl⟩ := ry
  obtain ⟨its, r, ⟨⟨cls, dd, data, sl⟩, ho, hc, n, hd⟩, hs⟩ := I.tuple hT
  simp only at hc hd
  subst hc hd
  have c0 : (decide (k < -(2 ^ 63)) || decide (k ≥ 2 ^ 63)) = false := by
    rw [decide_eq_false (by omega), decide_eq_false (by omega)] <;> rfl
  have hi : its.toArray.isEmpty = false := by
    cases r with
    | nil => exact absurd rfl hne
    | cons a b => rfl
  have c1 : (its.toArray.isEmpty || k == 1) = false := by
    rw [hi, Bool.false_or]
    exact beq_eq_false_iff_ne.mpr (by omega)
  have c2 : (decide (k ≤ 0) || its.toArray.isEmpty) = true := by
    rw [decide_eq_true h1]; rfl
  refine wpAny_binaryOp_repeat_ref (T := "tuple") (U := "int") (by decide) ⟨_, ho, rfl⟩ (fun s' => typeIs_int s' k t) noFill_tuple_mul F.fills_int_mul F.slot_int_rmul repeat_tuple F.slot_int_index.lookup
    (call_meets F.slot_int_rmul (typeIs_int s k t) F.entry_int_rmul (F.args_int_rmul_2 _ _) (int_rmul_tuple k t l its.toArray n dd sl)
      ⟨ho, rfl, ⟨_, ho, rfl⟩, call_meets F.slot_tuple_mul ⟨_, ho, rfl⟩ F.entry_tuple_mul (F.args_tuple_mul_2 _ _) (tuple_mul0 l its.toArray n dd sl k t c0 c1 c2) ⟨ho, ?_⟩⟩)
  refine ⟨.ref s.heap.objs.size, _, I.laid (t' := s.toks) (o := .tup []) (fun b ob q => Heap.get?_push_of_some _ q) (Nat.le_refl _) ?_, rfl, q _ (I.hok.fresh (Nat.le_refl _))⟩
  exact ⟨Nat.zero_le _, [], .nil, IsTup.new _ _⟩
noncomputable def pMul : List D → Rs SD
  | [.int i, .int j] => if IntMulOk i j then .ok (.sh (.int (i * j))) else .bad
  | [.tup xs, .int k] => if -(2 ^ 63) ≤ k ∧ k ≤ 1000 ∧ xs.length ≤ 1000 then .ok (.sh (.tup (List.replicate k.toNat xs).flatten)) else .bad
  | [.lst xs, .int k] => if -(2 ^ 63) ≤ k ∧ k < 2 ^ 63 ∧ xs.length * k.toNat ≤ sizeLine then .ok (.own (List.replicate k.toNat xs).flatten) else .bad
  | _ => .bad
theorem op_mulD : OpR X (binaryOp .Mult) (fun x y H Q => rI IntMulOk (fun i j => .int (i * j)) x y H Q ∨ rRepS X.K x y H Q ∨ rRep0 X.K x y H Q ∨ rRepT X.K x y H Q ∨ rRep x y H Q) := op_mulI.or (op_repS.or (op_rep0.or (op_repT.or op_rep)))
theorem pr_mul : PrimR X cl (rd2 fun x y H Q => rI IntMulOk (fun i j => .int (i * j)) x y H Q ∨ rRepS X.K x y H Q ∨ rRep0 X.K x y H Q ∨ rRepT X.K x y H Q ∨ rRep x y H Q) pMul := by
  intro O W H ds vs Q w ho hp
  unfold pMul at hp
  split at hp
  · obtain ⟨x, y, rfl, h1, h2⟩ := ho.two
    split at hp
    · rename_i hc
      exact .inl ⟨_, _, h1.int, h2.int, hc, hp _ H (Same.refl H) (by simp only [Rp])⟩
    · exact hp.elim
  · rename_i ds k
    obtain ⟨x, y, rfl, h1, h2⟩ := ho.two
    split at hp
    · rename_i hz
      obtain ⟨a, xs, e1, t1, r1⟩ := h1.tup
      have l1 := r1.length
      by_cases hk : k = 1
      · refine .inr (.inl ⟨a, k, xs, e1, h2.int, t1.sq, .inr hk, hz.1, by omega, hp _ H (Same.refl H) ?_⟩)
        subst hk
        simp only [Rp]
        exact ⟨a, xs, rfl, t1, by simpa using r1⟩
      · by_cases hx : xs = []
        · refine .inr (.inl ⟨a, k, xs, e1, h2.int, t1.sq, .inl hx, hz.1, by omega, hp _ H (Same.refl H) ?_⟩)
          subst hx
          have : ds = [] := List.eq_nil_of_length_eq_zero l1
          subst this
          simp only [Rp]
          exact ⟨a, [], rfl, t1, by simpa using RpA.rep r1 k.toNat⟩
        · by_cases h0 : k ≤ 0
          · refine .inr (.inr (.inl ⟨a, k, xs, e1, h2.int, t1.sq, hx, h0, hz.1, fun p n => hp _ _ (same_upd n) ?_⟩))
            have e0 : k.toNat = 0 := by omega
            rw [e0]
            exact rp_tup w n (Nat.zero_le _) (by simp only [List.replicate_zero, List.flatten_nil, RpA])
          · refine .inr (.inr (.inr (.inl ⟨a, k, xs, e1, h2.int, t1.sq, hx, by omega, hz.2.1, by omega, fun p n => hp _ _ (same_upd n) (rp_tup w n ?_ (RpA.rep r1 k.toNat))⟩)))
            rw [PyProof.Rows.lm_len_rep_flat, sizeLine_eq]
            have a1 : k.toNat * xs.length ≤ 1000 * 1000 := Nat.mul_le_mul (by omega) (by omega)
            omega
    · exact hp.elim
  · obtain ⟨x, y, rfl, h1, h2⟩ := ho.two
    split at hp
    · rename_i hz
      obtain ⟨a, xs, e1, t1, z1, r1⟩ := h1.lst
      have l1 := r1.length
      rw [l1] at hz
      refine .inr (.inr (.inr (.inr ⟨a, _, xs, e1, h2.int, t1, hz.1, hz.2.1, hz.2.2, fun p n => hp p _ _ (same_upd n) n upd_same ?_ (RpA.rep r1 _)⟩)))
      rw [PyProof.Rows.lm_len_rep_flat, Nat.mul_comm]
      exact hz.2.2
    · exact hp.elim
  · exact hp.elim
variable {a b : Expr} {pos : Pos} {fl : List LOp}
theorem ej_mul (h : OJ X cl vs0 Wx [a, b] fl) : EJ X cl vs0 Wx (.BinOp a .Mult b pos) (xPrim fl pMul) := ej_bin op_mulD pr_mul h

/-! ### subscripts -/
def pIx : List D → Rs SD
  | [.lst xs, .int i] => match atI xs i with
    | some d => .ok (.sh d)
    | none => .bad
  | [.tup xs, .int i] => match atI xs i with
    | some d => .ok (.sh d)
    | none => .bad
  | _ => .bad
theorem atI_rp {G : Gx} {O : List Addr} {H : Hp} {ds : List D} {vs : List V} {i : Int} {d : D} (r : RpA G O H ds vs) (h : atI ds i = some d) : ∃ v, atI vs i = some v ∧ Rp G O H d v := by
  unfold atI at h ⊢
  rw [r.length] at h
  cases e : ixN vs.length i with
  | none => rw [e] at h; cases h
  | some j =>
    rw [e] at h
    exact r.getD h
theorem pr_ix : PrimR X cl (rd2 (rIx X.K)) pIx := by
  intro O W H ds vs Q w ho hp
  unfold pIx at hp
  split at hp
  · obtain ⟨x, y, rfl, h1, h2⟩ := ho.two
    split at hp
    · rename_i d e
      obtain ⟨a, xs, e1, t1, z1, r1⟩ := h1.lst
      obtain ⟨v, ev, rv⟩ := atI_rp r1 e
      exact .inl ⟨a, xs, _, v, e1, h2.int, SqL.of t1, ev, hp v H (Same.refl H) rv⟩
    · exact hp.elim
  · obtain ⟨x, y, rfl, h1, h2⟩ := ho.two
    split at hp
    · rename_i d e
      obtain ⟨a, xs, e1, t1, r1⟩ := h1.tup
      obtain ⟨v, ev, rv⟩ := atI_rp r1 e
      exact .inr (.inl ⟨a, xs, _, v, e1, h2.int, t1.sq, ev, hp v H (Same.refl H) rv⟩)
    · exact hp.elim
  · exact hp.elim
theorem ej_sbs (h : OJ X cl vs0 Wx [a, b] fl) (hs : PlainIx b := by exact fun _ _ => rfl) : EJ X cl vs0 Wx (.Subscript a b pos) (xPrim fl pIx) := ej_ix ix_seq pr_ix h hs
end
end Wm
end

section
/-! Slices, displays, built-ins, tests. -/
namespace Wm
open PySem PySem.Spec PyProof.Rows L2
section
variable {X : Cx} {cl : Str → Addr} {vs0 : List V} {Wx : WX}
/-! ### slices -/
def cutL {α : Type} (xs : List α) (lo hi : Option Int) : List α := (xs.drop (HT.sIx xs.length 0 lo)).take (HT.sIx xs.length xs.length hi - HT.sIx xs.length 0 lo)
theorem RpA.cut {G : Gx} {O : List Addr} {H : Hp} {ds : List D} {vs : List V} (r : RpA G O H ds vs) (lo hi : Option Int) : RpA G O H (cutL ds lo hi) (cutV vs lo hi) := by
  unfold cutL cutV
  rw [r.length]
  exact (r.drop _).take _
def slD (lo hi : Option Int) : D → Rs SD
  | .lst xs => .ok (.own (cutL xs lo hi))
  | .tup xs => .ok (.sh (.tup (cutL xs lo hi)))
  | _ => .bad
def rSl (K : PySem.W.Frag) : V → Option Int → Option Int → Hp → VK → Prop := fun x lo hi H Q => rSlL K x lo hi H Q ∨ rSlA K x lo hi H Q
theorem sl_any : SlR X (rSl X.K) := sl_list.or sl_tupA
theorem sl_ok {O W : List Addr} {H : Hp} {d : D} {v : V} {lo hi : Option Int} {Q : VK} (w : Wf O W H) (h : Op1 (gx X cl) O W H d v) (hp : AftP (gx X cl) O H Q (slD lo hi d)) : rSl X.K v lo hi H Q := by
  cases d with
  | lst xs =>
    obtain ⟨a, vs, e, t, z, r⟩ := h.lst
    refine .inl ⟨a, vs, e, SqL.of t, fun p n => hp p _ _ (same_upd n) n upd_same (Nat.le_trans (cutV_length _ _ _) z) (r.cut lo hi)⟩
  | tup xs =>
    obtain ⟨a, vs, e, t, r⟩ := h.tup
    subst e
    refine .inr ⟨a, vs, rfl, t.sq, fun hw => hp _ H (Same.refl H) ?_, fun _ p n => hp _ _ (same_upd n) (rp_tup w n (Nat.le_trans (cutV_length _ _ _) t.1) (r.cut lo hi))⟩
    simp only [Rp]
    refine ⟨a, vs, rfl, t, ?_⟩
    have e2 : cutL xs lo hi = xs := by
      unfold cutL
      rw [r.length, hw.1, hw.2, Nat.sub_zero, List.drop_zero]
      exact List.take_of_length_le (Nat.le_of_eq r.length)
    rw [e2]; exact r
  | _ => exact hp.elim
def pSlLo : List D → Rs SD
  | [d, .int i] => slD (some i) none d
  | _ => .bad
def pSlHi : List D → Rs SD
  | [d, .int j] => slD none (some j) d
  | _ => .bad
def pSl0 : List D → Rs SD
  | [d] => slD none none d
  | _ => .bad
variable {a b c e : Expr} {pos p2 : Pos} {fl : List LOp}
theorem OpA.three {G : Gx} {O W : List Addr} {H : Hp} {d1 d2 d3 : D} {vs : List V} (h : OpA G O W H [d1, d2, d3] vs) : ∃ v w u, vs = [v, w, u] ∧ Op1 G O W H d1 v ∧ Op1 G O W H d2 w ∧ Op1 G O W H d3 u := by
  obtain ⟨v, r, ev, h1, h2⟩ := h
  obtain ⟨w, u, ew, h3, h4⟩ := OpA.two h2
  subst ew
  exact ⟨v, w, u, ev, h1, h3, h4⟩
theorem ej_slLo (h : OJ X cl vs0 Wx [a, b] fl) : EJ X cl vs0 Wx (.Subscript a (.Slice (some b) none none p2) pos) (xPrim fl pSlLo) := by
  obtain ⟨ta, tb, ha, hb, q⟩ := two_of h
  refine ⟨⟨_, pe_slice sl_any ha (po_some hb) po_none, prim_core (rd := rd2 fun x y H Q => ∃ i, y = .int i ∧ rSl X.K x (some i) none H Q) (fun O W H ds vs Q w ho hp => ?_) q⟩⟩
  unfold pSlLo at hp
  split at hp
  · obtain ⟨x, y, rfl, h1, h2⟩ := ho.two
    exact ⟨_, h2.int, sl_ok w h1 hp⟩
  · exact hp.elim
theorem ej_slHi (h : OJ X cl vs0 Wx [a, b] fl) : EJ X cl vs0 Wx (.Subscript a (.Slice none (some b) none p2) pos) (xPrim fl pSlHi) := by
  obtain ⟨ta, tb, ha, hb, q⟩ := two_of h
  refine ⟨⟨_, pe_slice sl_any ha po_none (po_some hb), prim_core (rd := rd2 fun x y H Q => ∃ i, y = .int i ∧ rSl X.K x none (some i) H Q) (fun O W H ds vs Q w ho hp => ?_) q⟩⟩
  unfold pSlHi at hp
  split at hp
  · obtain ⟨x, y, rfl, h1, h2⟩ := ho.two
    exact ⟨_, h2.int, sl_ok w h1 hp⟩
  · exact hp.elim

/-! ### things that are kept: displays -/
def mops : List Sx → So
  | [], ρ => .ok ([], ρ)
  | f :: r, ρ => (f ρ).bind fun p => (mops r p.2).bind fun q => .ok (p.1.frz :: q.1, q.2)
def AftM (G : Gx) (vs0 : List V) (Wx : WX) (O W : List Addr) (σ : L2.St) (H : Hp) (Q : List V → Hp → Prop) : Rs (List D × List SD) → Prop
  | .ok (ds, ρ') => ∀ vs O' W' H', Stp O W H O' W' H' → SR G vs0 O' W' σ H' ρ' → RpA G O' H' ds vs → Q vs H'
  | .exc c fs ρ' => ExcA G vs0 Wx O W σ H c fs ρ'
  | .bad => False
structure MJ (X : Cx) (cl : Str → Addr) (vs0 : List V) (Wx : WX) (es : List Expr) (fs : List Sx) : Prop where
  ex : ∃ t, PA X es t ∧ ∀ O W σ H ρ R, SR (gx X cl) vs0 O W σ H ρ → AftM (gx X cl) vs0 Wx O W σ H R (mops fs ρ) → t σ H R
theorem mj_nil : MJ X cl vs0 Wx [] [] := ⟨⟨_, pa_nil, fun O W σ H ρ R sr h => h [] O W H Stp.refl sr (by simp only [RpA])⟩⟩
theorem mj_cons {es : List Expr} {f : Sx} {fs : List Sx} (h : EJ X cl vs0 Wx e f) (hr : MJ X cl vs0 Wx es fs) (hs : starEach (e :: es) X.env = (false, eval e X.env) :: starEach es X.env := by rfl) : MJ X cl vs0 Wx (e :: es) (f :: fs) := by
  obtain ⟨ta, p2, p3⟩ := hr.ex
  obtain ⟨t, q1, q2⟩ := h.ex
  refine ⟨⟨_, pa_cons q1 p2 hs, fun O W σ H ρ R sr hw => ?_⟩⟩
  have hw' : AftM (gx X cl) vs0 Wx O W σ H R ((f ρ).bind fun p => (mops fs p.2).bind fun q => .ok (p.1.frz :: q.1, q.2)) := hw
  refine q2 O W σ H ρ _ sr ?_
  cases e0 : f ρ with
  | bad => rw [e0] at hw'; exact hw'
  | exc c fs ρ' => rw [e0] at hw'; exact hw'
  | ok p =>
    obtain ⟨r, ρ1⟩ := p
    rw [e0] at hw'
    have hw2 : AftM (gx X cl) vs0 Wx O W σ H R ((mops fs ρ1).bind fun q => .ok (r.frz :: q.1, q.2)) := hw'
    intro v O1 W1 H1 st1 sr1 rr
    obtain ⟨O2, W2, st2, sr2, rp⟩ := rr.frz sr1
    have st12 := st1.trans sr.wf st2
    refine p3 O2 W2 σ H1 ρ1 _ sr2 ?_
    cases e1 : mops fs ρ1 with
    | bad => rw [e1] at hw2; exact hw2
    | exc c fs ρ' => rw [e1] at hw2; exact ExcA.back sr.wf st12 hw2
    | ok q =>
      obtain ⟨ds, ρ2⟩ := q
      rw [e1] at hw2
      intro vs O' W' H' st sr' ho
      refine hw2 (v :: vs) O' W' H' (st12.trans sr.wf st) sr' ?_
      simp only [RpA]
      exact ⟨v, vs, rfl, rp.step sr2.wf st, ho⟩
def xLst (fs : List Sx) : Sx := fun ρ => (mops fs ρ).bind fun q => if q.1.length ≤ sizeLine then .ok (.own q.1, q.2) else .bad
def xTup (fs : List Sx) : Sx := fun ρ => (mops fs ρ).bind fun q => if q.1.length ≤ sizeLine then .ok (.sh (.tup q.1), q.2) else .bad
theorem new_apart {G : Gx} {O W : List Addr} {σ : L2.St} {H : Hp} {ρ : List SD} {a : Addr} (sr : SR G vs0 O W σ H ρ) (n : H a = none) : ∀ (i : Nat) (s : SD), ρ[i]? = some s → s.mine = true → σ[i]? ≠ some (some (.ref a)) := fun i s e m z => by
  have : ∃ xs, s = .own xs ∨ s = .byr xs := by
    cases s with
    | own xs => exact ⟨xs, .inl rfl⟩
    | byr xs => exact ⟨xs, .inr rfl⟩
    | no => cases m
    | sh d => cases m
  obtain ⟨ys, hs⟩ := this
  obtain ⟨b, eb, ob⟩ := sr.getOwn e hs
  rw [eb] at z; cases z
  exact sr.wf.trk _ (sr.wf.sub _ ob.1) n
theorem ej_lst {es : List Expr} {fs : List Sx} (h : MJ X cl vs0 Wx es fs) : EJ X cl vs0 Wx (.List es pos) (xLst fs) := by
  obtain ⟨t, p, q⟩ := h.ex
  refine ⟨⟨_, pe_lst p, fun O W σ H ρ Q sr hw => q O W σ H ρ _ sr ?_⟩⟩
  unfold xLst at hw
  cases e : mops fs ρ with
  | bad => rw [e] at hw; exact hw
  | exc c fs ρ' => rw [e] at hw; exact hw
  | ok w =>
    obtain ⟨ds, ρ1⟩ := w
    rw [e] at hw
    have hw2 : AftE (gx X cl) vs0 Wx O W σ H Q (if ds.length ≤ sizeLine then .ok (.own ds, ρ1) else .bad) := hw
    intro vs O' W' H' st sr' ra
    split at hw2
    · rename_i hz
      refine ⟨by rw [← ra.length]; exact hz, fun p n => hw2 (.ref p) (p :: O') (p :: W') _ (st.trans sr.wf (Stp.new (same_upd n) n)) (sr'.new (same_upd n) n (by rw [upd_same]; simp)) ⟨p, rfl, ⟨List.mem_cons_self, vs, upd_same, by rw [← ra.length]; exact hz, ra.step sr'.wf (Stp.new (same_upd n) n)⟩, new_apart sr' n⟩⟩
    · exact hw2.elim
theorem ej_tup {es : List Expr} {fs : List Sx} {k : Nat} (h : MJ X cl vs0 Wx es fs) : EJ X cl vs0 Wx (.Tuple es k pos) (xTup fs) := by
  obtain ⟨t, p, q⟩ := h.ex
  refine ⟨⟨_, pe_tup p, fun O W σ H ρ Q sr hw => q O W σ H ρ _ sr ?_⟩⟩
  unfold xTup at hw
  cases e : mops fs ρ with
  | bad => rw [e] at hw; exact hw
  | exc c fs ρ' => rw [e] at hw; exact hw
  | ok w =>
    obtain ⟨ds, ρ1⟩ := w
    rw [e] at hw
    have hw2 : AftE (gx X cl) vs0 Wx O W σ H Q (if ds.length ≤ sizeLine then .ok (.sh (.tup ds), ρ1) else .bad) := hw
    intro vs O' W' H' st sr' ra
    split at hw2
    · rename_i hz
      exact ⟨by rw [← ra.length]; exact hz, fun p n => hw2 (.ref p) O' W' _ (st.trans sr.wf (Stp.same (same_upd n))) (sr'.same (same_upd n)) (rp_tup sr'.wf n (by rw [← ra.length]; exact hz) ra)⟩
    · exact hw2.elim

/-! ### built-ins by name -/
theorem ej_callB {x : Str} {id : String} {r : List V → Hp → VK → Prop} {p : Pos} {es : List Expr} {pr : List D → Rs SD} (hc : CallR X (.builtin id) r) (hp : PrimR X cl r pr) (hg : Gl X x) (hm : X.mg x = none) (hv : bootBuiltins x = some (.builtin id)) (h : OJ X cl vs0 Wx (e :: es) fl)
    (hn : x ≠ "__name__" := by decide) (hdb : (x == ("__debug__" : Str)) = false := by decide) (he : starEach (e :: es) X.env = (false, eval e X.env) :: starEach es X.env := by rfl) (hpl : (backTo pos (starEach es X.env)).any (·.1) = false := by rfl) :
    EJ X cl vs0 Wx (.Call (.Name x p) (e :: es) [] pos) (xPrim fl pr) := by
  obtain ⟨ts, _, pa, q⟩ := h.ex
  exact ⟨⟨_, pe_callB hc hg hm hv pa hn hdb he hpl, prim_core hp q⟩⟩
theorem ej_callTy {x : Str} {id : String} {r : List V → Hp → VK → Prop} {p : Pos} {es : List Expr} {pr : List D → Rs SD} (hc : CallR X (.type id) r) (hp : PrimR X cl r pr) (hg : Gl X x) (hm : X.mg x = none) (hv : bootBuiltins x = some (.type id)) (h : OJ X cl vs0 Wx (e :: es) fl)
    (hn : x ≠ "__name__" := by decide) (hdb : (x == ("__debug__" : Str)) = false := by decide) (he : starEach (e :: es) X.env = (false, eval e X.env) :: starEach es X.env := by rfl) (hpl : (backTo pos (starEach es X.env)).any (·.1) = false := by rfl) :
    EJ X cl vs0 Wx (.Call (.Name x p) (e :: es) [] pos) (xPrim fl pr) := by
  obtain ⟨ts, _, pa, q⟩ := h.ex
  exact ⟨⟨_, pe_callTy hc hg hm hv pa hn hdb he hpl, prim_core hp q⟩⟩
def pLen : List D → Rs SD
  | [.lst xs] => .ok (.sh (.int xs.length))
  | [.tup xs] => .ok (.sh (.int xs.length))
  | _ => .bad
theorem pr_len : PrimR X cl (fun xs H Q => ∃ p ys, xs = [.ref p] ∧ (SqL X.K H p ys ∨ SqT X.K H p ys) ∧ Q (.int ys.length) H) pLen := by
  intro O W H ds vs Q w ho hp
  unfold pLen at hp
  split at hp
  · obtain ⟨x, rfl, h1⟩ := ho.one
    obtain ⟨a, xs, rfl, t1, z1, r1⟩ := h1.lst
    rw [r1.length] at hp
    exact ⟨a, xs, rfl, .inl (SqL.of t1), hp _ H (Same.refl H) (by simp only [Rp])⟩
  · obtain ⟨x, rfl, h1⟩ := ho.one
    obtain ⟨a, xs, rfl, t1, r1⟩ := h1.tup
    rw [r1.length] at hp
    exact ⟨a, xs, rfl, .inr t1.sq, hp _ H (Same.refl H) (by simp only [Rp])⟩
  · exact hp.elim
def pList : List D → Rs SD
  | [.lst xs] => .ok (.own xs)
  | [.tup xs] => .ok (.own xs)
  | _ => .bad
theorem pr_list : PrimR X cl (fun xs H Q => ∃ p ys, xs = [.ref p] ∧ (SqL X.K H p ys ∨ SqT X.K H p ys) ∧ ∀ l, H l = none → Q (.ref l) (upd H l (.lst ys))) pList := by
  intro O W H ds vs Q w ho hp
  unfold pList at hp
  split at hp
  · obtain ⟨x, rfl, h1⟩ := ho.one
    obtain ⟨a, xs, rfl, t1, z1, r1⟩ := h1.lst
    exact ⟨a, xs, rfl, .inl (SqL.of t1), fun l n => hp l _ _ (same_upd n) n upd_same z1 r1⟩
  · obtain ⟨x, rfl, h1⟩ := ho.one
    obtain ⟨a, xs, rfl, t1, r1⟩ := h1.tup
    exact ⟨a, xs, rfl, .inr t1.sq, fun l n => hp l _ _ (same_upd n) n upd_same t1.1 r1⟩
  · exact hp.elim
def pTuple : List D → Rs SD
  | [.lst xs] => .ok (.sh (.tup xs))
  | [.tup xs] => .ok (.sh (.tup xs))
  | _ => .bad
theorem pr_tuple : PrimR X cl (fun xs H Q => ∃ p ys, xs = [.ref p] ∧ ((SqL X.K H p ys ∧ ∀ l, H l = none → Q (.ref l) (upd H l (.tup ys))) ∨ (SqT X.K H p ys ∧ Q (.ref p) H))) pTuple := by
  intro O W H ds vs Q w ho hp
  unfold pTuple at hp
  split at hp
  · obtain ⟨x, rfl, h1⟩ := ho.one
    obtain ⟨a, xs, rfl, t1, z1, r1⟩ := h1.lst
    exact ⟨a, xs, rfl, .inl ⟨SqL.of t1, fun l n => hp _ _ (same_upd n) (rp_tup w n z1 r1)⟩⟩
  · obtain ⟨x, rfl, h1⟩ := ho.one
    obtain ⟨a, xs, rfl, t1, r1⟩ := h1.tup
    exact ⟨a, xs, rfl, .inr ⟨t1.sq, hp _ H (Same.refl H) (by simp only [Rp]; exact ⟨a, xs, rfl, t1, r1⟩)⟩⟩
  · exact hp.elim
def pInt : List D → Rs SD
  | [.int i] => .ok (.sh (.int i))
  | [.bl b] => .ok (.sh (.int (if b then 1 else 0)))
  | _ => .bad
theorem pr_int : PrimR X cl (fun xs H Q => (∃ i, xs = [.int i] ∧ Q (.int i) H) ∨ ∃ k, xs = [.bl k] ∧ Q (.int (if k then 1 else 0)) H) pInt := by
  intro O W H ds vs Q w ho hp
  unfold pInt at hp
  split at hp
  · obtain ⟨x, rfl, h1⟩ := ho.one
    exact .inl ⟨_, by rw [h1.int], hp _ H (Same.refl H) (by simp only [Rp])⟩
  · obtain ⟨x, rfl, h1⟩ := ho.one
    exact .inr ⟨_, by rw [h1.bl], hp _ H (Same.refl H) (by simp only [Rp])⟩
  · exact hp.elim
def pAbs : List D → Rs SD
  | [.int i] => .ok (.sh (.int (if i < 0 then -i else i)))
  | _ => .bad
theorem pr_abs : PrimR X cl (fun xs H Q => ∃ i, xs = [.int i] ∧ Q (.int (if i < 0 then -i else i)) H) pAbs := by
  intro O W H ds vs Q w ho hp
  unfold pAbs at hp
  split at hp
  · obtain ⟨x, rfl, h1⟩ := ho.one
    exact ⟨_, by rw [h1.int], hp _ H (Same.refl H) (by simp only [Rp])⟩
  · exact hp.elim
/-- all ints; all truths -/
def asInts : List D → Option (List Int)
  | [] => some []
  | .int i :: r => (asInts r).map (i :: ·)
  | _ :: _ => none
def asBls : List D → Option (List Bool)
  | [] => some []
  | .bl i :: r => (asBls r).map (i :: ·)
  | _ :: _ => none
theorem asInts_eq : ∀ {ds : List D} {ns : List Int}, asInts ds = some ns → ds = ns.map D.int
  | [], ns, h => by cases h; rfl
  | .int i :: r, ns, h => by
    simp only [asInts] at h
    obtain ⟨m, h1, h2⟩ := Option.map_eq_some_iff.mp h
    rw [asInts_eq h1, ← h2]; rfl
  | .non :: _, _, h | .bl _ :: _, _, h | .str _ :: _, _, h | .tup _ :: _, _, h | .lst _ :: _, _, h | .ins _ _ :: _, _, h | .scr _ :: _, _, h => by cases h
theorem asBls_eq : ∀ {ds : List D} {ns : List Bool}, asBls ds = some ns → ds = ns.map D.bl
  | [], ns, h => by cases h; rfl
  | .bl i :: r, ns, h => by
    simp only [asBls] at h
    obtain ⟨m, h1, h2⟩ := Option.map_eq_some_iff.mp h
    rw [asBls_eq h1, ← h2]; rfl
  | .non :: _, _, h | .int _ :: _, _, h | .str _ :: _, _, h | .tup _ :: _, _, h | .lst _ :: _, _, h | .ins _ _ :: _, _, h | .scr _ :: _, _, h => by cases h
theorem asInts_map : ∀ (ns : List Int), asInts (ns.map D.int) = some ns
  | [] => rfl
  | n :: ns => by simp only [List.map_cons, asInts, asInts_map ns, Option.map_some]
theorem asBls_map : ∀ (ns : List Bool), asBls (ns.map D.bl) = some ns
  | [] => rfl
  | n :: ns => by simp only [List.map_cons, asBls, asBls_map ns, Option.map_some]
/-- of a list of ints -/
def pIL (g : List Int → Rs SD) : List D → Rs SD
  | [.lst xs] => match asInts xs with
    | some ns => g ns
    | none => .bad
  | _ => .bad
def pBL (g : List Bool → Rs SD) : List D → Rs SD
  | [.lst xs] => match asBls xs with
    | some ns => g ns
    | none => .bad
  | _ => .bad
theorem pr_IL {g : List Int → Rs SD} {r : List V → Hp → VK → Prop} (h : ∀ O H a ns Q, SqL X.K H a (ns.map V.int) → AftP (gx X cl) O H Q (g ns) → r [.ref a] H Q) : PrimR X cl r (pIL g) := by
  intro O W H ds vs Q w ho hp
  unfold pIL at hp
  split at hp
  · split at hp
    · rename_i ns e
      obtain ⟨x, rfl, h1⟩ := ho.one
      obtain ⟨a, xs, rfl, t1, z1, r1⟩ := h1.lst
      rw [asInts_eq e] at r1
      rw [r1.ints] at t1
      exact h O H a ns Q (SqL.of t1) hp
    · exact hp.elim
  · exact hp.elim
theorem pr_BL {g : List Bool → Rs SD} {r : List V → Hp → VK → Prop} (h : ∀ O H a ns Q, SqL X.K H a (ns.map V.bl) → AftP (gx X cl) O H Q (g ns) → r [.ref a] H Q) : PrimR X cl r (pBL g) := by
  intro O W H ds vs Q w ho hp
  unfold pBL at hp
  split at hp
  · split at hp
    · rename_i ns e
      obtain ⟨x, rfl, h1⟩ := ho.one
      obtain ⟨a, xs, rfl, t1, z1, r1⟩ := h1.lst
      rw [asBls_eq e] at r1
      rw [r1.bls] at t1
      exact h O H a ns Q (SqL.of t1) hp
    · exact hp.elim
  · exact hp.elim
abbrev pSum := pIL fun ns => .ok (.sh (.int ns.sum))
abbrev pAnyB := pBL fun bs => .ok (.sh (.bl (bs.any id)))
abbrev pAllB := pBL fun bs => .ok (.sh (.bl (bs.all id)))
theorem pr_sum : PrimR X cl (rSum X.K) pSum := pr_IL fun O H a ns Q s hp => ⟨a, ns, rfl, s, hp _ H (Same.refl H) (by simp only [Rp])⟩
theorem pr_anyB : PrimR X cl (rAny X.K) pAnyB := pr_BL fun O H a ns Q s hp => ⟨a, ns, rfl, s, hp _ H (Same.refl H) (by simp only [Rp])⟩
theorem pr_allB : PrimR X cl (rAll X.K) pAllB := pr_BL fun O H a ns Q s hp => ⟨a, ns, rfl, s, hp _ H (Same.refl H) (by simp only [Rp])⟩
end
end Wm
end

section
/-! isinstance, tests, and, or, not, a if t else b. -/
namespace Wm
open PySem PySem.Spec PyProof.Rows L2
/-- a built-in class -/
inductive BT where
  | int | bool | tuple | list | str | dict
def BT.nm : BT → String
  | .int => "int"
  | .bool => "bool"
  | .tuple => "tuple"
  | .list => "list"
  | .str => "str"
  | .dict => "dict"
def D.tyN : D → Option String
  | .non => some "NoneType"
  | .bl _ => some "bool"
  | .int _ => some "int"
  | .str _ => some "str"
  | .tup _ => some "tuple"
  | .lst _ => some "list"
  | _ => none
def isB : BT → D → Option Bool
  | _, .ins _ _ => none
  | _, .scr _ => none
  | .int, .int _ => some true
  | .int, .bl _ => some true
  | .bool, .bl _ => some true
  | .tuple, .tup _ => some true
  | .list, .lst _ => some true
  | .str, .str _ => some true
  | _, _ => some false
theorem isB_kit {t : BT} {d : D} {b : Bool} (h : isB t d = some b) : ∃ n, d.tyN = some n ∧ kitB n t.nm = some b := by
  cases d <;> cases t <;> first
    | (cases h; done)
    | (cases h; exact ⟨_, rfl, by decide +kernel⟩)
section
variable {X : Cx} {cl : Str → Addr} {vs0 : List V} {Wx : WX}
theorem Op1.ty {O W : List Addr} {H : Hp} {d : D} {v : V} {n : String} (h : Op1 (gx X cl) O W H d v) (hn : d.tyN = some n) : TyX X.K H v (.type n) := by
  cases d with
  | non => cases hn; rw [h.non]; exact .base .non
  | bl b => cases hn; rw [h.bl]; exact .base (.bl b)
  | int b => cases hn; rw [h.int]; exact .base (.int b)
  | str b => cases hn; rw [h.str]; exact .base (.str b)
  | tup xs =>
    cases hn
    obtain ⟨a, vs, e, t, _⟩ := h.tup
    subst e
    rcases t.2 with ⟨r | ⟨o, r⟩, _⟩ | ⟨o, its, m, h1, h2, _⟩
    · exact .base (.tup r)
    · exact .fTuple r
    · exact .kTuple h1 h2
  | lst xs =>
    cases hn
    obtain ⟨a, vs, e, t, _⟩ := h.lst
    subst e
    exact .base (.lst t)
  | ins _ _ => cases hn
  | scr _ => cases hn
def pIsi (t : BT) : List D → Rs SD
  | [d] => match isB t d with
    | some b => .ok (.sh (.bl b))
    | none => .bad
  | _ => .bad
variable {a b c e : Expr} {pos p2 : Pos} {fl : List LOp}
theorem ej_isi {t : BT} {p : Pos} (hm : X.mg "isinstance" = none) (hg : Gl X "isinstance") (h : OJ X cl vs0 Wx [a] fl) (hc : PE X b (tC (.ty t.nm)))
    (hs2 : starEach [b] X.env = (false, eval b X.env) :: starEach [] X.env := by rfl) (hs1 : starEach [a, b] X.env = (false, eval a X.env) :: starEach [b] X.env := by rfl) (hpl : (backTo pos (starEach [b] X.env)).any (·.1) = false := by rfl) :
    EJ X cl vs0 Wx (.Call (.Name "isinstance" p) [a, b] [] pos) (xPrim fl (pIsi t)) := by
  obtain ⟨ta, ha, q⟩ := one_of h
  refine ⟨⟨_, pe_callB call_isi hg hm (by decide +kernel) (pa_cons ha (pa_cons hc pa_nil hs2) hs1) (by decide) (by decide) hs1 hpl, prim_core (ts := [ta]) (rd := fun vs H Q => rIsi X.K (vs ++ [.ty t.nm]) H Q) (fun O W H ds vs Q w ho hp => ?_) q⟩⟩
  unfold pIsi at hp
  split at hp
  · split at hp
    · rename_i b' e
      obtain ⟨x, rfl, h1⟩ := ho.one
      obtain ⟨n, hn, hk⟩ := isB_kit e
      exact ⟨x, .ty t.nm, .type n, .type t.nm, b', rfl, .ty _, h1.ty hn, kit_ty hk, hp _ H (Same.refl H) (by simp only [Rp])⟩
    · exact hp.elim
  · exact hp.elim

/-! ### tests -/
def Rs.tst : Rs (SD × List SD) → Rs (Bool × List SD)
  | .ok (.sh (.bl b), ρ) => .ok (b, ρ)
  | .exc c fs ρ => .exc c fs ρ
  | _ => .bad
theorem tst_core {G : Gx} {O W : List Addr} {σ : L2.St} {H : Hp} {Q : Bool → Hp → Prop} {r : Rs (SD × List SD)} (h : AftB G vs0 Wx O W σ H Q r.tst) : AftE G vs0 Wx O W σ H (fun x H' => ∃ k, x = .bl k ∧ Q k H') r := by
  cases r with
  | bad => exact h
  | exc c fs ρ => exact h
  | ok p =>
    obtain ⟨s, ρ⟩ := p
    cases s with
    | sh d =>
      cases d with
      | bl b =>
        intro v O' W' H' st sr rr
        have rr : Rp G O' H' (.bl b) v := rr
        simp only [Rp] at rr
        exact ⟨b, rr, h O' W' H' st sr⟩
      | _ => exact h.elim
    | _ => exact h.elim
/-- a comparison as a test -/
def bT (f : Sx) : Sb := fun ρ => (f ρ).tst
theorem tj_cmp {op : CmpOp} {r : R2} {p : List D → Rs SD} (ho : OpR X (compareOp op) r) (hp : PrimR X cl (rd2 r) p) (h : OJ X cl vs0 Wx [a, b] fl) (hm : behindInMarks op b = false) : TJ X cl vs0 Wx (.Compare a [op] [b] pos) (bT (xPrim fl p)) := by
  obtain ⟨ta, tb, ha, hb, q⟩ := two_of h
  exact ⟨⟨_, pt_cmpR ho ha hb hm, fun O W σ H ρ Q sr hw => prim_core hp q O W σ H ρ _ sr (tst_core hw)⟩⟩
/-- a value that is a truth, as a test -/
theorem tj_val {f : Sx} (h : EJ X cl vs0 Wx e f) (he : ∀ whole, isTrue e X.env whole = (do let v ← whole; standAt e.pos; holding [v] (truthy v)) := by intro _; rfl) : TJ X cl vs0 Wx e (bT f) := by
  obtain ⟨t, p, q⟩ := h.ex
  exact ⟨⟨_, pt_val p he, fun O W σ H ρ Q sr hw => q O W σ H ρ _ sr (tst_core hw)⟩⟩
def truD : D → Option Bool
  | .non => some false
  | .bl b => some b
  | .int i => some (i != 0)
  | .tup xs => some (!xs.isEmpty)
  | .lst xs => some (!xs.isEmpty)
  | _ => none
def bTru (fl : List LOp) : Sb := fun ρ => (ops fl ρ).bind fun q => match q.1 with
  | [d] => match truD d with
    | some b => .ok (b, q.2)
    | none => .bad
  | _ => .bad
theorem RpA.emp {G : Gx} {O : List Addr} {H : Hp} {ds : List D} {vs : List V} (r : RpA G O H ds vs) : ds.isEmpty = vs.isEmpty := by
  have := r.length
  cases ds <;> cases vs <;> simp_all
theorem tj_tru (h : OJ X cl vs0 Wx [e] fl) (he : ∀ whole, isTrue e X.env whole = (do let v ← whole; standAt e.pos; holding [v] (truthy v)) := by intro _; rfl) : TJ X cl vs0 Wx e (bTru fl) := by
  obtain ⟨t, p, q⟩ := one_of h
  refine ⟨⟨_, pt_truth p he, fun O W σ H ρ Q sr hw => ?_⟩⟩
  refine q O W σ H ρ (fun vs H' => match vs with
    | [x] => ∃ k, TruV X.K x H' k ∧ Q k H'
    | _ => False) sr ?_
  unfold bTru at hw
  cases e : ops fl ρ with
  | bad => rw [e] at hw; exact hw
  | exc c fs ρ' => rw [e] at hw; exact hw
  | ok w =>
    obtain ⟨ds, ρ1⟩ := w
    rw [e] at hw
    intro vs O' W' H' st sr' ho
    cases ds with
    | nil => exact (show False from hw).elim
    | cons d ds =>
      cases ds with
      | cons _ _ => exact (show False from hw).elim
      | nil =>
        obtain ⟨v, rfl, h1⟩ := OpA.one ho
        have hw2 : AftB (gx X cl) vs0 Wx O W σ H Q (match truD d with
          | some b => .ok (b, ρ1)
          | none => .bad) := hw
        cases d with
        | non => rw [h1.non]; exact ⟨false, rfl, hw2 O' W' H' st sr'⟩
        | bl b => rw [h1.bl]; exact ⟨b, rfl, hw2 O' W' H' st sr'⟩
        | int b => rw [h1.int]; exact ⟨_, rfl, hw2 O' W' H' st sr'⟩
        | tup xs =>
          obtain ⟨a, vs, e, t, r⟩ := h1.tup
          subst e
          exact ⟨_, .inr (.inl ⟨vs, t.sq, by rw [← r.emp]⟩), hw2 O' W' H' st sr'⟩
        | lst xs =>
          obtain ⟨a, vs, e, t, z, r⟩ := h1.lst
          subst e
          exact ⟨_, .inl ⟨vs, SqL.of t, by rw [← r.emp]⟩, hw2 O' W' H' st sr'⟩
        | str _ => exact hw2.elim
        | ins _ _ => exact hw2.elim
        | scr _ => exact hw2.elim

/-! ### and, or, not -/
structure WJ (X : Cx) (cl : Str → Addr) (vs0 : List V) (Wx : WX) (e : Expr) (f : Sb) : Prop where
  ex : ∃ t, PW X e t ∧ ∀ O W σ H ρ Q, SR (gx X cl) vs0 O W σ H ρ → AftB (gx X cl) vs0 Wx O W σ H Q (f ρ) → t σ H Q
theorem WJ.tj {f : Sb} (h : WJ X cl vs0 Wx e f) : TJ X cl vs0 Wx e f := by
  obtain ⟨t, p, q⟩ := h.ex
  exact ⟨⟨t, p.pt, q⟩⟩
def bAnd (f g : Sb) : Sb := fun ρ => (f ρ).bind fun p => if p.1 then g p.2 else .ok (false, p.2)
def bOr (f g : Sb) : Sb := fun ρ => (f ρ).bind fun p => if p.1 then .ok (true, p.2) else g p.2
def bNot (f : Sb) : Sb := fun ρ => (f ρ).bind fun p => .ok (!p.1, p.2)
variable {f g : Sb} {rest : List Expr}
theorem wj_and1 (h : TJ X cl vs0 Wx a f) : WJ X cl vs0 Wx (.BoolOp .And [a] pos) f := by
  obtain ⟨t, p, q⟩ := h.ex
  exact ⟨⟨t, pw_and1 p, q⟩⟩
theorem wj_or1 (h : TJ X cl vs0 Wx a f) : WJ X cl vs0 Wx (.BoolOp .Or [a] pos) f := by
  obtain ⟨t, p, q⟩ := h.ex
  exact ⟨⟨t, pw_or1 p, q⟩⟩
theorem b2_core {G : Gx} {O W : List Addr} {σ : L2.St} {H : Hp} {R : Bool → Hp → Prop} {k : Bool × List SD → Rs (Bool × List SD)} {Q : Bool → Hp → Prop} {r : Rs (Bool × List SD)} (w : Wf O W H)
    (hw : AftB G vs0 Wx O W σ H Q (r.bind k)) (h : ∀ b ρ' O' W' H', SR G vs0 O' W' σ H' ρ' → AftB G vs0 Wx O' W' σ H' Q (k (b, ρ')) → R b H') : AftB G vs0 Wx O W σ H R r := by
  cases r with
  | bad => exact hw
  | exc c fs ρ => exact hw
  | ok p => exact fun O' W' H' st sr => h p.1 p.2 O' W' H' sr (AftB.back w st hw)
theorem wj_and (h : TJ X cl vs0 Wx a f) (hb : WJ X cl vs0 Wx (.BoolOp .And (b :: rest) pos) g) : WJ X cl vs0 Wx (.BoolOp .And (a :: b :: rest) pos) (bAnd f g) := by
  obtain ⟨t, p, q⟩ := h.ex
  obtain ⟨t', p', q'⟩ := hb.ex
  refine ⟨⟨_, pw_and p p', fun O W σ H ρ Q sr hw => q O W σ H ρ _ sr (b2_core sr.wf hw fun b ρ' O' W' H' sr' hk => ?_)⟩⟩
  cases b with
  | true => exact q' O' W' σ H' ρ' Q sr' hk
  | false => exact hk O' W' H' Stp.refl sr'
theorem wj_or (h : TJ X cl vs0 Wx a f) (hb : WJ X cl vs0 Wx (.BoolOp .Or (b :: rest) pos) g) : WJ X cl vs0 Wx (.BoolOp .Or (a :: b :: rest) pos) (bOr f g) := by
  obtain ⟨t, p, q⟩ := h.ex
  obtain ⟨t', p', q'⟩ := hb.ex
  refine ⟨⟨_, pw_or p p', fun O W σ H ρ Q sr hw => q O W σ H ρ _ sr (b2_core sr.wf hw fun b ρ' O' W' H' sr' hk => ?_)⟩⟩
  cases b with
  | false => exact q' O' W' σ H' ρ' Q sr' hk
  | true => exact hk O' W' H' Stp.refl sr'
theorem tj_not (h : TJ X cl vs0 Wx a f) : TJ X cl vs0 Wx (.UnaryOp .Not a pos) (bNot f) := by
  obtain ⟨t, p, q⟩ := h.ex
  refine ⟨⟨_, pt_not p, fun O W σ H ρ Q sr hw => q O W σ H ρ _ sr (b2_core sr.wf hw fun b ρ' O' W' H' sr' hk => ?_)⟩⟩
  exact hk O' W' H' Stp.refl sr'
/-- .. as values, all of them truths -/
def xAnd (f g : Sx) : Sx := fun ρ => (f ρ).tst.bind fun p => if p.1 then g p.2 else .ok (.sh (.bl false), p.2)
def xOr (f g : Sx) : Sx := fun ρ => (f ρ).tst.bind fun p => if p.1 then .ok (.sh (.bl true), p.2) else g p.2
def xNot (f : Sx) : Sx := fun ρ => (f ρ).tst.bind fun p => .ok (.sh (.bl (!p.1)), p.2)
theorem v2_core {G : Gx} {O W : List Addr} {σ : L2.St} {H : Hp} {R : VK} {k : Bool × List SD → Rs (SD × List SD)} {Q : VK} {r : Rs (SD × List SD)} (w : Wf O W H)
    (hw : AftE G vs0 Wx O W σ H Q (r.tst.bind k)) (h : ∀ b ρ' O' W' H', SR G vs0 O' W' σ H' ρ' → AftE G vs0 Wx O' W' σ H' Q (k (b, ρ')) → R (.bl b) H') : AftE G vs0 Wx O W σ H R r := by
  cases r with
  | bad => exact hw
  | exc c fs ρ => exact hw
  | ok p =>
    obtain ⟨s, ρ⟩ := p
    cases s with
    | sh d =>
      cases d with
      | bl b =>
        intro v O' W' H' st sr rr
        have rr : Rp G O' H' (.bl b) v := rr
        simp only [Rp] at rr
        rw [rr]
        exact h b ρ O' W' H' sr (AftE.back w st hw)
      | _ => exact hw.elim
    | _ => exact hw.elim
variable {fx gx' : Sx}
theorem ej_one {op} (h : EJ X cl vs0 Wx a fx) : EJ X cl vs0 Wx (.BoolOp op [a] pos) fx := by
  obtain ⟨t, p, q⟩ := h.ex
  exact ⟨⟨t, pe_one p, q⟩⟩
theorem rp_bl {G : Gx} {O : List Addr} {H : Hp} {b : Bool} : Rp G O H (.bl b) (.bl b) := by simp only [Rp]
theorem ej_and (h : EJ X cl vs0 Wx a fx) (hb : EJ X cl vs0 Wx (.BoolOp .And (b :: rest) pos) gx') : EJ X cl vs0 Wx (.BoolOp .And (a :: b :: rest) pos) (xAnd fx gx') := by
  obtain ⟨t, p, q⟩ := h.ex
  obtain ⟨t', p', q'⟩ := hb.ex
  refine ⟨⟨_, pe_and p p', fun O W σ H ρ Q sr hw => q O W σ H ρ _ sr (v2_core sr.wf hw fun b ρ' O' W' H' sr' hk => ⟨b, rfl, ?_⟩)⟩⟩
  cases b with
  | true => exact q' O' W' σ H' ρ' Q sr' hk
  | false => exact hk _ O' W' H' Stp.refl sr' (rp_bl (G := Wm.gx X cl) (O := O') (H := H'))
theorem ej_or (h : EJ X cl vs0 Wx a fx) (hb : EJ X cl vs0 Wx (.BoolOp .Or (b :: rest) pos) gx') : EJ X cl vs0 Wx (.BoolOp .Or (a :: b :: rest) pos) (xOr fx gx') := by
  obtain ⟨t, p, q⟩ := h.ex
  obtain ⟨t', p', q'⟩ := hb.ex
  refine ⟨⟨_, pe_or p p', fun O W σ H ρ Q sr hw => q O W σ H ρ _ sr (v2_core sr.wf hw fun b ρ' O' W' H' sr' hk => ⟨b, rfl, ?_⟩)⟩⟩
  cases b with
  | false => exact q' O' W' σ H' ρ' Q sr' hk
  | true => exact hk _ O' W' H' Stp.refl sr' (rp_bl (G := Wm.gx X cl) (O := O') (H := H'))
theorem ej_not (h : EJ X cl vs0 Wx a fx) : EJ X cl vs0 Wx (.UnaryOp .Not a pos) (xNot fx) := by
  obtain ⟨t, p, q⟩ := h.ex
  refine ⟨⟨_, pe_not p, fun O W σ H ρ Q sr hw => q O W σ H ρ _ sr (v2_core sr.wf hw fun b ρ' O' W' H' sr' hk => ⟨b, rfl, ?_⟩)⟩⟩
  exact hk _ O' W' H' Stp.refl sr' (rp_bl (G := Wm.gx X cl) (O := O') (H := H'))
/-- a if t else b -/
def xIf (t : Sb) (f g : Sx) : Sx := fun ρ => (t ρ).bind fun p => if p.1 then f p.2 else g p.2
theorem b1_core {G : Gx} {O W : List Addr} {σ : L2.St} {H : Hp} {R : Bool → Hp → Prop} {k : Bool × List SD → Rs (SD × List SD)} {Q : VK} {r : Rs (Bool × List SD)} (w : Wf O W H)
    (hw : AftE G vs0 Wx O W σ H Q (r.bind k)) (h : ∀ b ρ' O' W' H', SR G vs0 O' W' σ H' ρ' → AftE G vs0 Wx O' W' σ H' Q (k (b, ρ')) → R b H') : AftB G vs0 Wx O W σ H R r := by
  cases r with
  | bad => exact hw
  | exc c fs ρ => exact hw
  | ok p => exact fun O' W' H' st sr => h p.1 p.2 O' W' H' sr (AftE.back w st hw)
theorem ej_if {c : Expr} (hc : TJ X cl vs0 Wx c f) (h : EJ X cl vs0 Wx a fx) (hb : EJ X cl vs0 Wx b gx') : EJ X cl vs0 Wx (.IfExp c a b pos) (xIf f fx gx') := by
  obtain ⟨tc, pc, qc⟩ := hc.ex
  obtain ⟨t, p, q⟩ := h.ex
  obtain ⟨t', p', q'⟩ := hb.ex
  refine ⟨⟨_, pe_ifExp pc p p', fun O W σ H ρ Q sr hw => qc O W σ H ρ _ sr (b1_core sr.wf hw fun b ρ' O' W' H' sr' hk => ?_)⟩⟩
  cases b with
  | true => exact q O' W' σ H' ρ' Q sr' hk
  | false => exact q' O' W' σ H' ρ' Q sr' hk
end
end Wm
end

section
/-! Statements. -/
namespace Wm
open PySem PySem.Spec PyProof.Rows L2
def AftS (G : Gx) (vs0 : List V) (Wx : WX) (O W : List Addr) (H : Hp) (D : Ends) : Rs Fl → Prop
  | .ok (.nx ρ') => ∀ σ' O' W' H', Stp O W H O' W' H' → SR G vs0 O' W' σ' H' ρ' → D.nx σ' H'
  | .ok (.rt r ρ') => ∀ v σ' O' W' H', Stp O W H O' W' H' → SR G vs0 O' W' σ' H' ρ' → ResR G O' W' σ' H' ρ' v r → D.rt v H'
  | .ok (.bk ρ') => ∀ σ' O' W' H', Stp O W H O' W' H' → SR G vs0 O' W' σ' H' ρ' → D.bk σ' H'
  | .ok (.ct ρ') => ∀ σ' O' W' H', Stp O W H O' W' H' → SR G vs0 O' W' σ' H' ρ' → D.ct σ' H'
  | .exc c fs ρ' => ∀ σ', ExcA G vs0 Wx O W σ' H c fs ρ'
  | .bad => False
structure SJ (X : Cx) (cl : Str → Addr) (vs0 : List V) (Wx : WX) (st : Stmt) (g : Ss) : Prop where
  ex : ∃ t, PS X st t ∧ ∀ O W σ H ρ D, SR (gx X cl) vs0 O W σ H ρ → AftS (gx X cl) vs0 Wx O W H D (g ρ) → t D σ H
structure BJ (X : Cx) (cl : Str → Addr) (vs0 : List V) (Wx : WX) (sts : List Stmt) (g : Ss) : Prop where
  ex : ∃ t, PSs X sts t ∧ ∀ O W σ H ρ D, SR (gx X cl) vs0 O W σ H ρ → AftS (gx X cl) vs0 Wx O W H D (g ρ) → t D σ H
theorem AftS.back {G : Gx} {vs0 : List V} {Wx : WX} {O W O1 W1 : List Addr} {H H1 : Hp} {D : Ends} (w : Wf O W H) (s : Stp O W H O1 W1 H1) : ∀ {r : Rs Fl}, AftS G vs0 Wx O W H D r → AftS G vs0 Wx O1 W1 H1 D r
  | .ok (.nx _), h => fun σ' O' W' H' s' sr => h σ' O' W' H' (s.trans w s') sr
  | .ok (.rt _ _), h => fun v σ' O' W' H' s' sr rr => h v σ' O' W' H' (s.trans w s') sr rr
  | .ok (.bk _), h => fun σ' O' W' H' s' sr => h σ' O' W' H' (s.trans w s') sr
  | .ok (.ct _), h => fun σ' O' W' H' s' sr => h σ' O' W' H' (s.trans w s') sr
  | .exc _ _ _, h => fun σ' => ExcA.back w s (h σ')
  | .bad, h => h
section
variable {X : Cx} {cl : Str → Addr} {vs0 : List V} {Wx : WX} {st : Stmt} {rest : List Stmt} {g h' : Ss} {e a b : Expr} {f : Sx} {pos : Pos}
/-! ### blocks -/
def sNil : Ss := fun ρ => .ok (.nx ρ)
def sSeq (g h : Ss) : Ss := fun ρ => (g ρ).bind fun fl => match fl with
  | .nx ρ' => h ρ'
  | fl => .ok fl
theorem bj_nil : BJ X cl vs0 Wx [] sNil := ⟨⟨_, pss_nil, fun O W σ H ρ D sr h => h σ O W H Stp.refl sr⟩⟩
theorem bj_one (h : SJ X cl vs0 Wx st g) : BJ X cl vs0 Wx [st] g := by
  obtain ⟨t, p, q⟩ := h.ex
  exact ⟨⟨t, pss_one p, q⟩⟩
theorem bj_cons (h1 : SJ X cl vs0 Wx st g) (h2 : BJ X cl vs0 Wx rest h') : BJ X cl vs0 Wx (st :: rest) (sSeq g h') := by
  obtain ⟨t, p, q⟩ := h1.ex
  obtain ⟨t', p', q'⟩ := h2.ex
  refine ⟨⟨_, pss_cons p p', fun O W σ H ρ D sr hw => q O W σ H ρ _ sr ?_⟩⟩
  have hw : AftS (gx X cl) vs0 Wx O W H D ((g ρ).bind fun fl => match fl with
    | .nx ρ' => h' ρ'
    | fl => .ok fl) := hw
  cases e : g ρ with
  | bad => rw [e] at hw; exact hw
  | exc c fs ρ' => rw [e] at hw; exact hw
  | ok fl =>
    rw [e] at hw
    cases fl with
    | nx ρ' => exact fun σ' O' W' H' st sr' => q' O' W' σ' H' ρ' D sr' (AftS.back sr.wf st hw)
    | rt r ρ' => exact hw
    | bk ρ' => exact hw
    | ct ρ' => exact hw

/-! ### from expressions to statements -/
theorem e_core {G : Gx} {O W : List Addr} {σ : L2.St} {H : Hp} {R : VK} {k : SD × List SD → Rs Fl} {D : Ends} {r : Rs (SD × List SD)} (w : Wf O W H)
    (hw : AftS G vs0 Wx O W H D (r.bind k)) (h : ∀ v s ρ' O' W' H', SR G vs0 O' W' σ H' ρ' → ResR G O' W' σ H' ρ' v s → AftS G vs0 Wx O' W' H' D (k (s, ρ')) → R v H') : AftE G vs0 Wx O W σ H R r := by
  cases r with
  | bad => exact hw
  | exc c fs ρ => exact hw σ
  | ok p => exact fun v O' W' H' st sr rr => h v p.1 p.2 O' W' H' sr rr (AftS.back w st hw)
theorem t_core {G : Gx} {O W : List Addr} {σ : L2.St} {H : Hp} {R : Bool → Hp → Prop} {k : Bool × List SD → Rs Fl} {D : Ends} {r : Rs (Bool × List SD)} (w : Wf O W H)
    (hw : AftS G vs0 Wx O W H D (r.bind k)) (h : ∀ b ρ' O' W' H', SR G vs0 O' W' σ H' ρ' → AftS G vs0 Wx O' W' H' D (k (b, ρ')) → R b H') : AftB G vs0 Wx O W σ H R r := by
  cases r with
  | bad => exact hw
  | exc c fs ρ => exact hw σ
  | ok p => exact fun O' W' H' st sr => h p.1 p.2 O' W' H' sr (AftS.back w st hw)
/-- an expression for its own sake -/
def sEx (f : Sx) : Ss := fun ρ => (f ρ).bind fun p => .ok (.nx p.2)
theorem sj_ex (h : EJ X cl vs0 Wx e f) (hs : swapsWith e none pos.line X.env = pure false := by rfl) : SJ X cl vs0 Wx (.Expr e pos) (sEx f) := by
  obtain ⟨t, p, q⟩ := h.ex
  exact ⟨⟨_, ps_expr p hs, fun O W σ H ρ D sr hw => q O W σ H ρ _ sr (e_core sr.wf hw fun v s ρ' O' W' H' sr' rr hk => hk σ O' W' H' Stp.refl sr')⟩⟩
/-- x = e -/
def sSet (i : Nat) (f : Sx) : Ss := fun ρ => (f ρ).bind fun p => .ok (.nx (p.2.set i p.1))
theorem sj_set {i : Nat} {x : Str} {pos' : Pos} (hN : X.N.Nodup) (hi : X.N[i]? = some x) (hx : Loc X.env.scope x) (h : EJ X cl vs0 Wx e f) (hs : swapsWith e (some (.Name x pos')) pos.line X.env = pure false := by rfl) (hf : X.fn x = true ∨ X.env.scope.names.lookup x = some .local := by first | exact .inl rfl | exact .inr rfl | assumption) :
    SJ X cl vs0 Wx (.Assign [.Name x pos'] e pos) (sSet i f) := by
  obtain ⟨t, p, q⟩ := h.ex
  exact ⟨⟨_, ps_set (i := i) hN hi hx p hs hf, fun O W σ H ρ D sr hw => q O W σ H ρ _ sr (e_core sr.wf hw fun v s ρ' O' W' H' sr' rr hk => hk _ O' W' H' Stp.refl (sr'.put rr))⟩⟩
def sRet (f : Sx) : Ss := fun ρ => (f ρ).bind fun p => .ok (.rt p.1 p.2)
theorem sj_ret (h : EJ X cl vs0 Wx e f) : SJ X cl vs0 Wx (.Return (some e) pos) (sRet f) := by
  obtain ⟨t, p, q⟩ := h.ex
  exact ⟨⟨_, ps_ret p, fun O W σ H ρ D sr hw => q O W σ H ρ _ sr (e_core sr.wf hw fun v s ρ' O' W' H' sr' rr hk => hk v σ O' W' H' Stp.refl sr' rr)⟩⟩
/-- return x: a list of one's own is handed on -/
def sRetV (i : Nat) : Ss := fun ρ => match ρ[i]? with
  | some (.sh d) => .ok (.rt (.sh d) ρ)
  | some (.own xs) => .ok (.rt (.own xs) (ρ.set i .no))
  | some (.byr xs) => .ok (.rt (.sh (.lst xs)) (ρ.set i (.sh (.lst xs))))
  | _ => .bad
theorem SR.drop {G : Gx} {O W : List Addr} {σ : L2.St} {H : Hp} {ρ : List SD} (i : Nat) (r : SR G vs0 O W σ H ρ) : SR G vs0 O W σ H (ρ.set i .no) := by
  refine ⟨r.wf, by rw [List.length_set, r.len], fun j s e => ?_, fun j k s t a e1 e2 m1 m2 s1 s2 => ?_⟩
  · by_cases hj : i = j
    · subst hj
      have hl : i < ρ.length := by
        have := (List.getElem?_eq_some_iff.mp e).1
        rw [List.length_set] at this
        exact this
      rw [List.getElem?_set_self hl] at e; cases e
      trivial
    · rw [List.getElem?_set_ne hj] at e
      exact r.slot j s e
  · have key : ∀ {j : Nat} {s : SD}, (ρ.set i .no)[j]? = some s → s.mine = true → i ≠ j := fun {j s} e m z => by
      subst z
      have hl : i < ρ.length := by
        have := (List.getElem?_eq_some_iff.mp e).1
        rw [List.length_set] at this
        exact this
      rw [List.getElem?_set_self hl] at e; cases e; cases m
    have nj := key e1 m1
    have nk := key e2 m2
    rw [List.getElem?_set_ne nj] at e1
    rw [List.getElem?_set_ne nk] at e2
    exact r.apart j k s t a e1 e2 m1 m2 s1 s2
theorem sj_retV {i : Nat} (h : PE X e (tVar i)) : SJ X cl vs0 Wx (.Return (some e) pos) (sRetV i) := by
  refine ⟨⟨_, ps_ret h, fun O W σ H ρ D sr hw => ?_⟩⟩
  unfold sRetV at hw
  split at hw
  · rename_i d e
    obtain ⟨v, e1, r⟩ := sr.get e
    exact ⟨v, e1, hw v σ O W H Stp.refl sr r⟩
  · rename_i xs e
    obtain ⟨a, e1, o⟩ := sr.getOwn e (.inl rfl)
    refine ⟨_, e1, hw (.ref a) σ O W H Stp.refl (sr.drop i) ⟨a, rfl, o, fun j s q m z => ?_⟩⟩
    have nj : i ≠ j := fun y => by
      subst y
      rw [List.getElem?_set_self (List.getElem?_eq_some_iff.mp e).1] at q; cases q; cases m
    rw [List.getElem?_set_ne nj] at q
    exact nj (sr.apart i j _ s a e q rfl m e1 z)
  · rename_i xs e
    obtain ⟨a, O', W', e1, st, sr', r⟩ := sr.demote e (.inr rfl)
    exact ⟨_, e1, hw (.ref a) σ O' W' H st sr' r⟩
  · exact hw.elim
def sRetN : Ss := fun ρ => .ok (.rt (.sh .non) ρ)
theorem sj_retN : SJ X cl vs0 Wx (.Return none pos) sRetN := ⟨⟨_, ps_retN, fun O W σ H ρ D sr h => h .non σ O W H Stp.refl sr (show Rp (gx X cl) O H .non .non by simp only [Rp])⟩⟩
theorem sj_pass : SJ X cl vs0 Wx (.Pass pos) sNil := ⟨⟨_, ps_pass, fun O W σ H ρ D sr h => h σ O W H Stp.refl sr⟩⟩
def sIf (t : Sb) (g h : Ss) : Ss := fun ρ => (t ρ).bind fun p => if p.1 then g p.2 else h p.2
theorem sj_if {c : Expr} {bs cs : List Stmt} {t : Sb} (hc : TJ X cl vs0 Wx c t) (h1 : BJ X cl vs0 Wx bs g) (h2 : BJ X cl vs0 Wx cs h') : SJ X cl vs0 Wx (.If c bs cs pos) (sIf t g h') := by
  obtain ⟨tc, pc, qc⟩ := hc.ex
  obtain ⟨t1, p1, q1⟩ := h1.ex
  obtain ⟨t2, p2, q2⟩ := h2.ex
  refine ⟨⟨_, ps_if pc p1 p2, fun O W σ H ρ D sr hw => qc O W σ H ρ _ sr (t_core sr.wf hw fun b ρ' O' W' H' sr' hk => ?_)⟩⟩
  cases b with
  | true => exact q1 O' W' σ H' ρ' D sr' hk
  | false => exact q2 O' W' σ H' ρ' D sr' hk
/-- a, b, .. = a tuple or what is one -/
def setAll : List Nat → List D → List SD → Rs (List SD)
  | [], [], ρ => .ok ρ
  | i :: is, d :: ds, ρ => setAll is ds (ρ.set i (.sh d))
  | _, _, _ => .bad
def gNames : List Nat → TGs
  | [] => gNil
  | i :: is => gCons (gName i) (gNames is)
theorem gNames_ok {G : Gx} {O W : List Addr} {H : Hp} {Q : L2.St → Hp → Prop} : ∀ {is : List Nat} {ds : List D} {vs : List V} {σ : L2.St} {ρ ρ' : List SD}, SR G vs0 O W σ H ρ → RpA G O H ds vs → setAll is ds ρ = .ok ρ' → (∀ σ', SR G vs0 O W σ' H ρ' → Q σ' H) → gNames is vs σ H Q
  | [], [], vs, σ, ρ, ρ', sr, ra, h, q => by
    simp only [RpA] at ra
    cases h
    exact ⟨ra, q σ sr⟩
  | i :: is, d :: ds, vs, σ, ρ, ρ', sr, ra, h, q => by
    simp only [RpA] at ra
    obtain ⟨v, r, e, h1, h2⟩ := ra
    exact ⟨v, r, e, gNames_ok (sr.set h1) h2 h q⟩
  | [], _ :: _, _, _, _, _, _, _, h, _ => by cases h
  | _ :: _, [], _, _, _, _, _, _, h, _ => by cases h
def sTup (is : List Nat) (f : Sx) : Ss := fun ρ => (f ρ).bind fun p => match p.1 with
  | .sh (.tup ds) => (setAll is ds p.2).bind fun ρ' => .ok (.nx ρ')
  | _ => .bad
theorem setAll_noexc : ∀ {is : List Nat} {ds : List D} {ρ : List SD} {c : Str} {fs : List (Str × D)} {ρ' : List SD}, setAll is ds ρ ≠ .exc c fs ρ'
  | [], [], _, _, _, _ => fun z => nomatch z
  | i :: is, d :: ds, _, _, _, _ => setAll_noexc (is := is) (ds := ds)
  | [], _ :: _, _, _, _, _ => fun z => nomatch z
  | _ :: _, [], _, _, _, _ => fun z => nomatch z
theorem sj_tup {es : List Expr} {k n : Nat} {is : List Nat} {pt : Pos} (hc : X.calm = true) (hg : PGs X es (gNames is)) (h : EJ X cl vs0 Wx e f) (hl : is.length = n) (hn : (assignEach es X.env).length = n := by rfl) (hst : (assignEach es X.env).findIdx? (·.1) = none := by rfl)
    (hs : swapsWithSole [.Tuple es k pt] e pos.line X.env = pure false := by rfl) (hw : swappedStores [.Tuple es k pt] e X.env = pure none := by rfl) (h1 : (assignEach [.Tuple es k pt] X.env).map (·.2) = [assign (.Tuple es k pt) X.env] := by rfl) :
    SJ X cl vs0 Wx (.Assign [.Tuple es k pt] e pos) (sTup is f) := by
  obtain ⟨t, p, q⟩ := h.ex
  refine ⟨⟨_, ps_asg p (pg_tup hc hg hn hst) hs hw h1, fun O W σ H ρ D sr hw => q O W σ H ρ _ sr (e_core sr.wf hw fun v s ρ' O' W' H' sr' rr hk => ?_)⟩⟩
  cases s with
  | sh d =>
    cases d with
    | tup ds =>
      have rr : Rp (gx X cl) O' H' (.tup ds) v := rr
      simp only [Rp] at rr
      obtain ⟨a, vs, e, t, ra⟩ := rr
      have hk : AftS (gx X cl) vs0 Wx O' W' H' D ((setAll is ds ρ').bind fun ρ' => .ok (.nx ρ')) := hk
      cases es : setAll is ds ρ' with
      | bad => rw [es] at hk; exact hk.elim
      | exc c fs ρ2 => exact absurd es setAll_noexc
      | ok ρ2 =>
        rw [es] at hk
        have hlen : ∀ {is : List Nat} {ds : List Wm.D} {ρ ρ2 : List SD}, setAll is ds ρ = .ok ρ2 → is.length = ds.length := by
          intro is
          induction is with
          | nil => intro ds ρ ρ2 h; cases ds with
            | nil => rfl
            | cons _ _ => cases h
          | cons i is ih => intro ds ρ ρ2 h; cases ds with
            | nil => cases h
            | cons d ds => rw [List.length_cons, List.length_cons, ih h]
        refine ⟨a, vs, e, t.sq, by rw [← ra.length, ← hlen es]; exact hl, gNames_ok sr' ra es fun σ' sr2 => hk σ' O' W' H' Stp.refl sr2⟩
    | _ => exact hk.elim
  | _ => exact hk.elim
end
end Wm
end

section
/-! What loops and comprehensions walk: lists and tuples, enumerate and zip of them, ranges. -/
namespace Wm
open PySem PySem.Spec PyProof.Rows L2
/-! ### enumerate(v) of anything that begins -/
theorem enum_new1 {v : Value} {o : Obj} {H : Heap → Prop} (B : Begins v o H) :
    Meets (Builtin.«enumerate.__new__» ⟨[.type "enumerate", v], []⟩) (fun _ R s => H s.heap ∧
      R (.ok (.ret (.ref (s.heap.push o).objs.size))) { s with heap := (s.heap.push o).push { cls := .type "enumerate", data := .fields #[.none, .bool false, .ref s.heap.objs.size, rawInt 0, .none, .none] } }) :=
  .of_wp fun prog w A R s h => by
    obtain ⟨hp, g, d, tk, os⟩ := s
    obtain ⟨h1, h⟩ := h
    have hsub := sub_enumerate
    have qq : ∀ {A' : Around} {E : Value → Shared → Prop} {Q : Value → Shared → Prop}, Q (.ref hp.objs.size) ⟨hp.push o, g, d, tk, os⟩ → wpAny (model prog w) A' (pyIter v) Q E ⟨hp, g, d, tk, os⟩ :=
      fun z => B.iter prog w _ _ ⟨hp, g, d, tk, os⟩ _ h1 z
    wp_walk using qq
    refine wpAny_stack_any fun st => wpAny_pure ?_
    split
    · rename_i c _ _ _ _ _
      cases (c == Value.type "enumerate") <;> (wp_walk using qq; exact ⟨_, rfl, h⟩)
    · wp_walk using qq
      exact ⟨_, rfl, h⟩
theorem enum_begins1 {prog : Program} {w : World} {A : Around} {E : Value → Shared → Prop} {s : Shared} {v : Value} {o : Obj} {H : Heap → Prop} {Q : Value → Shared → Prop} (B : Begins v o H) (h1 : H s.heap)
    (h : ∀ h', IsEnum h' (s.heap.objs.size + 1) s.heap.objs.size 0 .none → h'.get? s.heap.objs.size = some o → h'.objs.size = s.heap.objs.size + 2 →
      (∀ b o, s.heap.get? b = some o → h'.get? b = some o) → Q (.ref (s.heap.objs.size + 1)) { s with heap := h' }) :
    wpAny (model prog w) A (call (.type "enumerate") [v]) Q E s := by
  refine callType_new F.called_enumerate (by decide) (F.typeCall_enumerate_1 _) (F.newCall_enumerate_1 _) (fun obj => F.args_object_init_2 obj _) F.entry_enumerate_new (enum_new1 B) ⟨h1, ?_⟩
  have hz : (s.heap.push o).objs.size = s.heap.objs.size + 1 := Heap.size_push ..
  have he : IsEnum ((s.heap.push o).push { cls := .type "enumerate", data := .fields #[.none, .bool false, .ref s.heap.objs.size, rawInt 0, .none, .none] }) (s.heap.objs.size + 1) s.heap.objs.size 0 .none := by
    have z := Heap.get?_push_size (s.heap.push o) (o := { cls := .type "enumerate", data := .fields #[.none, .bool false, .ref s.heap.objs.size, rawInt 0, .none, .none] }) rfl
    rw [hz] at z
    exact z
  show _ ∧ _
  rw [hz]
  exact ⟨⟨_, he, rfl⟩, h _ he (Heap.get?_push_of_some _ (Heap.get?_push_size _ B.free)) (by rw [Heap.size_push, hz]) fun b o x => Heap.get?_push_of_some _ (Heap.get?_push_of_some _ x)⟩

/-! ### a list or a tuple that is walked -/
inductive Kd where
  | l | t
def SqK (K : PySem.W.Frag) (H : Hp) (a : Addr) (xs : List V) : Kd → Prop
  | .l => SqL K H a xs
  | .t => SqT K H a xs
def IsK (h : Heap) (a : Addr) (its : Array Value) : Kd → Prop
  | .l => h.IsList a its
  | .t => h.IsTuple a its
def ItK (h : Heap) (it a : Addr) (i : Nat) : Kd → Prop
  | .l => h.IsListIter it a i
  | .t => h.IsTupleIter it a i
def obK (a : Addr) : Kd → Obj
  | .l => { cls := .type "list_iterator", data := .fields #[.ref a, .int 0 0] }
  | .t => { cls := .type "tuple_iterator", data := .fields #[.ref a, .int 0 0] }
theorem begK (k : Kd) (a : Addr) (its : Array Value) : Begins (.ref a) (obK a k) (fun h => IsK h a its k) := by
  cases k
  · exact begins_list a its
  · exact begins_tuple a its
theorem obK_it {h : Heap} {it a : Addr} {k : Kd} (e : h.get? it = some (obK a k)) : ItK h it a 0 k := by
  cases k
  · exact ⟨_, e, rfl, rfl⟩
  · exact ⟨_, e, rfl, rfl⟩
theorem ItK.at' {h h' : Heap} {it a : Addr} {i : Nat} {k : Kd} (x : ItK h it a i k) (q : ∀ o, h.get? it = some o → h'.get? it = some o) : ItK h' it a i k := by
  cases k
  · exact Heap.IsListIter.at x q
  · exact Heap.IsTupleIter.at x q
theorem ItK.ob {h : Heap} {it a : Addr} {i : Nat} {k : Kd} (x : ItK h it a i k) : ∃ o, h.get? it = some o ∧ ∀ v, o.data ≠ .cell v := by
  cases k
  · obtain ⟨o, e, c, d⟩ := x
    exact ⟨o, e, fun v z => by rw [d] at z; cases z⟩
  · obtain ⟨o, e, c, d⟩ := x
    exact ⟨o, e, fun v z => by rw [d] at z; cases z⟩
theorem drK {prog : Program} {w : World} {A : Around} (k : Kd) (hh : A.handled = none) (it a : Addr) (hne : a ≠ it) (its : Array Value) : Draws prog w A it [it, a] its.size (fun i v => its[i]? = some v) (fun i h => ItK h it a i k ∧ IsK h a its k) := by
  cases k
  · exact Draws.list hh it a hne its
  · exact Draws.tuple hh it a hne its
section
variable {X : Cx} {pins : List (Addr × Obj)} {σ : L2.St} {H : Hp} {s : Shared} {a : Addr} {xs : List V} {k : Kd}
theorem seqK (I : Inv X pins σ H s) (h : SqK X.K H a xs k) : ∃ its : List Value, Vals xs its ∧ IsK s.heap a its.toArray k := by
  cases k
  · obtain ⟨its, r, p, _⟩ := I.list h
    exact ⟨its, r, p.isList⟩
  · obtain ⟨its, r, p, _⟩ := I.tuple h
    exact ⟨its, r, p⟩
theorem seqK_inj (I : Inv X pins σ H s) {ys : List V} (h : SqK X.K H a xs k) (h' : SqK X.K H a ys k) : xs = ys := by
  cases k
  · exact I.list_inj h h'
  · exact I.tuple_inj h h'
theorem IsK.lt {h : Heap} {its : Array Value} (x : IsK h a its k) : a < h.objs.size := by
  cases k
  · obtain ⟨o, e, _⟩ := x; exact Heap.lt_size e
  · obtain ⟨o, e, _⟩ := x; exact Heap.lt_size e
end
def ItE (K : PySem.W.Frag) (a : Addr) (k : Kd) : It :=
  ⟨fun i H => ∃ (xs : List V) (x : V), SqK K H a xs k ∧ xs[i]? = some x,
   fun i H v H' => ∃ T x, v = .ref T ∧ H T = none ∧ H' = upd H T (.tup [.int (i : Nat), x]) ∧ ∀ xs, SqK K H a xs k → xs[i]? = some x,
   fun i H => ∃ xs : List V, SqK K H a xs k ∧ xs.length = i⟩
theorem turn_enumK {P : Program} {w : World} {K : PySem.W.Frag} {elts : List Expr} {kk : Nat} {tpos : Pos} (k : Kd) (a e it : Addr) :
    Turn P w K (.Tuple elts kk tpos) (ItE K a k) [e, it] e (fun i h => (∃ old, IsEnum h e it (0 + (i : Int)) old) ∧ ItK h it a i k ∧ e ≠ it ∧ a ≠ it ∧ a ≠ e) where
  mem := by simp
  obj := fun i h st b hb => by
    obtain ⟨⟨old, he⟩, hi, _⟩ := st
    rcases (show b = e ∨ b = it by simpa using hb) with z | z
    · rw [z]; exact ⟨_, he, fun v q => nomatch q⟩
    · rw [z]; exact hi.ob
  keep := fun i h h' st q => by
    obtain ⟨⟨old, he⟩, hi, hn⟩ := st
    exact ⟨⟨old, q e (by simp) _ he⟩, hi.at' fun o z => q it (by simp) o z, hn⟩
  item := by
    intro X hP hw hK hc i pins s σ H E I hf st hg
    subst hP hw hK
    obtain ⟨old, hit, hne, hai, hae⟩ := st
    obtain ⟨xs, x, hq, hx⟩ := hg
    obtain ⟨its, rv, p⟩ := seqK I hq
    obtain ⟨u, hu, ru⟩ := rv.get hx
    have hil : i < its.toArray.size := by
      rw [List.size_toArray]
      exact (List.getElem?_eq_some_iff.mp hu).1
    have D := drK (prog := X.prog) (w := X.w) (A := X.A.in1) k (I.ok.hd hc) it a hai its.toArray
    have N := GoesN.enumFrom (elts := elts) (x1 := kk) (pos := tpos) 0 D e hne (by simp [hne, Ne.symm hae]) (by simp)
    refine N.goes i s _ _ hil ⟨old, hit, p⟩ fun v h' tk hY st' hk htk => ?_
    obtain ⟨T, t, y, rfl, hTn, hy, hT⟩ := hY
    obtain ⟨hen, hit', _⟩ := st'
    have ey : y = u := by
      have h2 : its.toArray[i]? = some u := by simpa using hu
      exact Option.some.inj (hy.symm.trans h2)
    subst ey
    have new : ObjOk X.prog X.w (upd H T (.tup [.int (i : Nat), x])) h' T (.tup [.int (i : Nat), x]) := by
      refine ⟨by show 2 ≤ sizeLine; decide, [.int (0 + (i : Int)) t, y], .cons ⟨t, ?_⟩ (.cons ru .nil), hT⟩
      rw [Int.zero_add]
    have J : Inv X pins σ (upd H T (.tup [.int (i : Nat), x])) { s with heap := h', toks := tk } := I.turnedNew (ch := [e, it]) (fun b ob hb q => hk b ob hb q) hf hTn new
    refine ⟨.ref T, _, J, rfl, ⟨T, x, rfl, I.hok.fresh hTn, rfl, fun ys hy' => by rw [seqK_inj I hy' hq]; exact hx⟩, ⟨hen, hit', hne, hai, hae⟩, fun b hb => ?_⟩
    have hbl : b < s.heap.objs.size := by
      obtain ⟨ol, he⟩ := old
      rcases (show b = e ∨ b = it by simpa using hb) with z | z
      · rw [z]; exact Heap.lt_size he
      · rw [z]; obtain ⟨o, q, _⟩ := hit.ob; exact Heap.lt_size q
    rw [upd_ne (Nat.ne_of_lt (Nat.lt_of_lt_of_le hbl hTn))]
    exact (hf b hb).1
  done := by
    intro X hP hw hK hc i pins s σ H E I hf st hg
    subst hP hw hK
    obtain ⟨old, hit, hne, hai, hae⟩ := st
    obtain ⟨xs, hq, hx⟩ := hg
    obtain ⟨its, rv, p⟩ := seqK I hq
    have hl : its.toArray.size = i := by rw [List.size_toArray, ← rv.length]; exact hx
    have D := drK (prog := X.prog) (w := X.w) (A := X.A.in1) k (I.ok.hd hc) it a hai its.toArray
    have N := GoesN.enumFrom (elts := elts) (x1 := kk) (pos := tpos) 0 D e hne (by simp [hne, Ne.symm hae]) (by simp)
    refine N.stops s (fun s1 => Inv X pins σ H s1) E ?_ fun h' tk hk _ => I.turnedL (ch := [e, it]) (fun b o hb q => hk b o hb q) hf
    rw [hl]
    exact ⟨old, hit, p⟩
  self := fun A i s Q E st h => by
    obtain ⟨⟨_, he⟩, _⟩ := st
    exact wpAny_pyIter_enum he h
def ItZ (K : PySem.W.Frag) (a b : Addr) (k m : Kd) : It :=
  ⟨fun i H => ∃ (xs ys : List V) (x y : V), SqK K H a xs k ∧ SqK K H b ys m ∧ xs[i]? = some x ∧ ys[i]? = some y,
   fun i H v H' => ∃ T x y, v = .ref T ∧ H T = none ∧ H' = upd H T (.tup [x, y]) ∧ (∀ xs, SqK K H a xs k → xs[i]? = some x) ∧ ∀ ys, SqK K H b ys m → ys[i]? = some y,
   fun i H => ∃ xs ys : List V, SqK K H a xs k ∧ SqK K H b ys m ∧ min xs.length ys.length = i⟩
theorem turn_zipK {P : Program} {w : World} {K : PySem.W.Frag} {elts : List Expr} {kk : Nat} {tpos : Pos} {k m : Kd} {a b z TI TO i1 i2 : Addr} (S : ZipSep2 z TI TO i1 i2 [i1, a] [i2, b]) (h1 : a ≠ i1) (h2 : b ≠ i2) :
    Turn P w K (.Tuple elts kk tpos) (ItZ K a b k m) [z, TI, TO, i1, i2] z (fun i h => IsZip h z TI TO .none ∧ IsTupOf2 h TI (.ref i1) (.ref i2) ∧ (∃ a1 a2, IsTupOf2 h TO a1 a2) ∧ ItK h i1 a i k ∧ ItK h i2 b i m) where
  mem := by simp
  obj := fun i h st c hc => by
    obtain ⟨hz, hTI, ⟨x, y, hTO⟩, q1, q2⟩ := st
    rcases (show c = z ∨ c = TI ∨ c = TO ∨ c = i1 ∨ c = i2 by simpa using hc) with q | q | q | q | q
    · rw [q]; exact ⟨_, hz, fun v q => nomatch q⟩
    · rw [q]; exact ⟨_, hTI, fun v q => nomatch q⟩
    · rw [q]; exact ⟨_, hTO, fun v q => nomatch q⟩
    · rw [q]; exact q1.ob
    · rw [q]; exact q2.ob
  keep := fun i h h' st q => by
    obtain ⟨hz, hTI, ⟨x, y, hTO⟩, q1, q2⟩ := st
    exact ⟨q z (by simp) _ hz, q TI (by simp) _ hTI, ⟨x, y, q TO (by simp) _ hTO⟩, q1.at' fun o y => q i1 (by simp) o y, q2.at' fun o y => q i2 (by simp) o y⟩
  item := by
    intro X hP hw hK hc i pins s σ H E I hf st hg
    subst hP hw hK
    obtain ⟨hz, hTI, hTO, q1, q2⟩ := st
    obtain ⟨xs, ys, x, y, hqx, hqy, hx, hy⟩ := hg
    obtain ⟨its, rv, p⟩ := seqK I hqx
    obtain ⟨its2, rv2, p2⟩ := seqK I hqy
    obtain ⟨u, hu, ru⟩ := rv.get hx
    obtain ⟨u2, hu2, ru2⟩ := rv2.get hy
    have hil : i < min its.toArray.size its2.toArray.size := by
      rw [List.size_toArray, List.size_toArray]
      exact Nat.lt_min.mpr ⟨(List.getElem?_eq_some_iff.mp hu).1, (List.getElem?_eq_some_iff.mp hu2).1⟩
    have D1 := drK (prog := X.prog) (w := X.w) (A := X.A.in1) k (I.ok.hd hc) i1 a h1 its.toArray
    have D2 := drK (prog := X.prog) (w := X.w) (A := X.A.in1) m (I.ok.hd hc) i2 b h2 its2.toArray
    have N := GoesN.zip2 (elts := elts) (x1 := kk) (pos := tpos) S D1 D2
    refine N.goes i s _ _ hil ⟨hz, hTI, hTO, ⟨q1, p⟩, ⟨q2, p2⟩⟩ fun v h' tk hY st' hk htk => ?_
    obtain ⟨T, v1, v2, rfl, hTn, hv1, hv2, hT⟩ := hY
    obtain ⟨hz', hTI', hTO', ⟨q1', _⟩, ⟨q2', _⟩⟩ := st'
    have e1 : v1 = u := by
      have z : its.toArray[i]? = some u := by simpa using hu
      exact Option.some.inj (hv1.symm.trans z)
    have e2 : v2 = u2 := by
      have z : its2.toArray[i]? = some u2 := by simpa using hu2
      exact Option.some.inj (hv2.symm.trans z)
    subst e1 e2
    have new : ObjOk X.prog X.w (upd H T (.tup [x, y])) h' T (.tup [x, y]) := ⟨by show 2 ≤ sizeLine; decide, [v1, v2], .cons ru (.cons ru2 .nil), hT⟩
    have hf4 : ∀ c ∈ [z, TO, i1, i2], FpOk X pins H c := fun c hc' => hf c (by
      rcases (show c = z ∨ c = TO ∨ c = i1 ∨ c = i2 by simpa using hc') with q | q | q | q <;> simp [q])
    have J : Inv X pins σ (upd H T (.tup [x, y])) { s with heap := h', toks := tk } := I.turnedNew (ch := [z, TO, i1, i2]) (fun c ob hb q => hk c ob hb q) hf4 hTn new
    refine ⟨.ref T, _, J, rfl, ⟨T, x, y, rfl, I.hok.fresh hTn, rfl, fun l hl => by rw [seqK_inj I hl hqx]; exact hx, fun l hl => by rw [seqK_inj I hl hqy]; exact hy⟩, ⟨hz', hTI', hTO', q1', q2'⟩, fun c hcm => ?_⟩
    have hbl : c < s.heap.objs.size := by
      obtain ⟨_, _, hTO⟩ := hTO
      rcases (show c = z ∨ c = TI ∨ c = TO ∨ c = i1 ∨ c = i2 by simpa using hcm) with q | q | q | q | q
      · rw [q]; exact Heap.lt_size hz
      · rw [q]; exact Heap.lt_size hTI
      · rw [q]; exact Heap.lt_size hTO
      · rw [q]; obtain ⟨o, y, _⟩ := q1.ob; exact Heap.lt_size y
      · rw [q]; obtain ⟨o, y, _⟩ := q2.ob; exact Heap.lt_size y
    rw [upd_ne (Nat.ne_of_lt (Nat.lt_of_lt_of_le hbl hTn))]
    exact (hf c hcm).1
  done := by
    intro X hP hw hK hc i pins s σ H E I hf st hg
    subst hP hw hK
    obtain ⟨hz, hTI, hTO, q1, q2⟩ := st
    obtain ⟨xs, ys, hqx, hqy, hx⟩ := hg
    obtain ⟨its, rv, p⟩ := seqK I hqx
    obtain ⟨its2, rv2, p2⟩ := seqK I hqy
    have hl : min its.toArray.size its2.toArray.size = i := by rw [List.size_toArray, List.size_toArray, ← rv.length, ← rv2.length]; exact hx
    have D1 := drK (prog := X.prog) (w := X.w) (A := X.A.in1) k (I.ok.hd hc) i1 a h1 its.toArray
    have D2 := drK (prog := X.prog) (w := X.w) (A := X.A.in1) m (I.ok.hd hc) i2 b h2 its2.toArray
    have N := GoesN.zip2 (elts := elts) (x1 := kk) (pos := tpos) S D1 D2
    have hf4 : ∀ c ∈ [z, TO, i1, i2], FpOk X pins H c := fun c hc' => hf c (by
      rcases (show c = z ∨ c = TO ∨ c = i1 ∨ c = i2 by simpa using hc') with q | q | q | q <;> simp [q])
    refine N.stops s (fun s1 => Inv X pins σ H s1) E ?_ fun h' tk hk _ => I.turnedL (ch := [z, TO, i1, i2]) (fun b o hb q => hk b o hb q) hf4
    rw [hl]
    exact ⟨hz, hTI, hTO, ⟨q1, p⟩, ⟨q2, p2⟩⟩
  self := fun A i s Q E st h => wpAny_pyIter_zip st.1 h

/-! ### how they come -/
section
variable {X : Cx} {tg : Expr} {e e2 : Expr} {ta : TA} {te : TE} {p pos tpos : Pos} {elts : List Expr} {kk : Nat}
def itSeq (K : PySem.W.Frag) (a : Addr) : Kd → It
  | .l => Itl K a
  | .t => Itt K a
def iSeq (K : PySem.W.Frag) (te : TE) : TI := fun σ H R => te σ H fun x H1 => ∃ a k, x = .ref a ∧ (∃ xs, SqK K H1 a xs k) ∧ R (itSeq K a k) H1
theorem pi_seq (h : PE X e te) : PI X tg e (iSeq X.K te) := by
  refine ⟨fun pins s σ H R I hw => thn (h.run pins s σ H _ I hw) fun v s1 ⟨x, H1, I1, r1, q1⟩ => ?_⟩
  obtain ⟨a, k, rfl, ⟨xs, hq⟩, q⟩ := q1
  obtain rfl : v = Value.ref a := r1
  cases k with
  | l =>
    obtain ⟨its, rv, p, _⟩ := I1.list hq
    exact wpAny_pyIter_list p.isList (pi_one (tk := s1.toks) I1 _ (turn_list a _) ⟨_, Heap.get?_push_size _ rfl, rfl, rfl⟩ q)
  | t =>
    obtain ⟨its, rv, p, _⟩ := I1.tuple hq
    exact wpAny_pyIter_tuple p (pi_one (tk := s1.toks) I1 _ (turn_tuple a _) ⟨_, Heap.get?_push_size _ rfl, rfl, rfl⟩ q)
def iEnumK (K : PySem.W.Frag) (ta : TA) : TI := fun σ H R => ta σ H fun vs H1 => ∃ a k xs, vs = [.ref a] ∧ SqK K H1 a xs k ∧ R (ItE K a k) H1
theorem pi_enumK (hg : Gl X "enumerate") (hm : X.mg "enumerate" = none) (ha : PA X [e] ta) (hs : starEach [e] X.env = [(false, eval e X.env)] := by rfl) :
    PI X (.Tuple elts kk tpos) (.Call (.Name "enumerate" p) [e] [] pos) (iEnumK X.K ta) := by
  refine ⟨fun pins s σ H R I h => Call_ (ld_blt I hg hm boot_enumerate (PyProof.Rows.callWith_type1 (thn (ha.run pos pins s σ H _ I h) fun us s1 ⟨vs, H1, I1, r1, q1⟩ => ?_) hs rfl))⟩
  obtain ⟨a, k, xs, rfl, hq, q⟩ := q1
  obtain ⟨u, rfl, ru⟩ := vals1 r1
  obtain rfl : u = Value.ref a := ru
  obtain ⟨its, rv, p'⟩ := seqK I1 hq
  have la := p'.lt
  refine enum_begins1 (begK k a its.toArray) p' fun h' he hit hsz hk => wpAny_pyIter_enum he ?_
  have J : Inv X pins σ H1 { s1 with heap := h' } := I1.kept (t' := s1.toks) hk
  refine ⟨s1.heap.objs.size + 1, [s1.heap.objs.size + 1, s1.heap.objs.size], _, _, H1, rfl, J, turn_enumK k a (s1.heap.objs.size + 1) s1.heap.objs.size, ⟨⟨.none, he⟩, obK_it hit, Nat.succ_ne_self _, Nat.ne_of_lt la, Nat.ne_of_lt (Nat.lt_succ_of_lt la)⟩, fun b hb => ?_, q⟩
  have hle : s1.heap.objs.size ≤ b := by
    rcases (show b = s1.heap.objs.size + 1 ∨ b = s1.heap.objs.size by simpa using hb) with z | z
    · rw [z]; exact Nat.le_succ _
    · rw [z]; exact Nat.le_refl _
  exact I1.fpOk hle (I1.hok.fresh hle)
def iZipK (K : PySem.W.Frag) (ta : TA) : TI := fun σ H R => ta σ H fun vs H1 => ∃ a b k m xs ys, vs = [.ref a, .ref b] ∧ SqK K H1 a xs k ∧ SqK K H1 b ys m ∧ R (ItZ K a b k m) H1
theorem pi_zipK (hg : Gl X "zip") (hm : X.mg "zip" = none) (ha : PA X [e, e2] ta) (hs : starEach [e, e2] X.env = (false, eval e X.env) :: starEach [e2] X.env := by rfl) (hpl : (backTo pos (starEach [e2] X.env)).any (·.1) = false := by rfl) :
    PI X (.Tuple elts kk tpos) (.Call (.Name "zip" p) [e, e2] [] pos) (iZipK X.K ta) := by
  refine ⟨fun pins s σ H R I h => Call_ (ld_blt I hg hm PyProof.Rows.boot_zip (PyProof.Rows.callWith_type1 (thn (ha.run pos pins s σ H _ I h) fun us s1 ⟨vs, H1, I1, r1, q1⟩ => ?_) hs hpl))⟩
  obtain ⟨a, b, k, m, xs, ys, rfl, hqx, hqy, q⟩ := q1
  obtain ⟨u, u2, rfl, ru, ru2⟩ := vals2 r1
  obtain rfl : u = Value.ref a := ru
  obtain rfl : u2 = Value.ref b := ru2
  obtain ⟨its, rv, p1⟩ := seqK I1 hqx
  obtain ⟨its2, rv2, p2⟩ := seqK I1 hqy
  have la := p1.lt
  have lb := p2.lt
  refine zip_begins2 (begK k a its.toArray) (begK m b its2.toArray) p1 p2 fun h' hz hTI hTO hi1 hi2 hsz hk => wpAny_pyIter_zip hz ?_
  have J : Inv X pins σ H1 { s1 with heap := h' } := I1.kept (t' := s1.toks) hk
  refine ⟨s1.heap.objs.size + 4, [s1.heap.objs.size + 4, s1.heap.objs.size + 2, s1.heap.objs.size + 3, s1.heap.objs.size, s1.heap.objs.size + 1], _, _, H1, rfl, J,
    turn_zipK (k := k) (m := m) (a := a) (b := b) (zip_sep2 (N := s1.heap.objs.size) (fp1 := [a]) (fp2 := [b]) (by simpa using la) (by simpa using lb)) (Nat.ne_of_lt la) (Nat.ne_of_lt (Nat.lt_succ_of_lt lb)), ⟨hz, hTI, ⟨_, _, hTO⟩, obK_it hi1, obK_it hi2⟩, fun c hcm => ?_, q⟩
  have hle : s1.heap.objs.size ≤ c := by
    rcases (show c = s1.heap.objs.size + 4 ∨ c = s1.heap.objs.size + 2 ∨ c = s1.heap.objs.size + 3 ∨ c = s1.heap.objs.size ∨ c = s1.heap.objs.size + 1 by simpa using hcm) with z | z | z | z | z
    · rw [z]; exact Nat.le_add_right _ _
    · rw [z]; exact Nat.le_add_right _ _
    · rw [z]; exact Nat.le_add_right _ _
    · rw [z]; exact Nat.le_refl _
    · rw [z]; exact Nat.le_add_right _ _
  exact I1.fpOk hle (I1.hok.fresh hle)
end
end Wm
end

section
/-! Sources of loops, targets, for, while, comprehensions. -/
namespace Wm
open PySem PySem.Spec PyProof.Rows L2
/-- what is walked: its items; the slots whose lists of one's own are walked, as they must stay -/
structure Itm where
  xs : List D
  bor : List (Nat × SD)
def Itm.keep (m : Itm) (ρ : List SD) : Prop := ∀ p ∈ m.bor, ρ[p.1]? = some p.2
def Itm.slots (m : Itm) (σ σ' : L2.St) : Prop := ∀ p ∈ m.bor, σ'[p.1]? = σ[p.1]?
abbrev Src := List SD → Rs (Itm × List SD)
structure Wlk (G : Gx) (vs0 : List V) (O W : List Addr) (σ : L2.St) (H : Hp) (J : It) (m : Itm) : Prop where
  len : m.xs.length ≤ sizeLine
  go : ∀ O2 W2 σ2 H2 ρ2 i d, Stp O W H O2 W2 H2 → SR G vs0 O2 W2 σ2 H2 ρ2 → m.slots σ σ2 → m.keep ρ2 → m.xs[i]? = some d → J.go i H2 ∧ ∀ x H3, J.yld i H2 x H3 → Same H2 H3 ∧ Rp G O2 H3 d x
  stop : ∀ O2 W2 σ2 H2 ρ2, Stp O W H O2 W2 H2 → SR G vs0 O2 W2 σ2 H2 ρ2 → m.slots σ σ2 → m.keep ρ2 → J.stop m.xs.length H2
def AftI (G : Gx) (vs0 : List V) (Wx : WX) (O W : List Addr) (σ : L2.St) (H : Hp) (R : It → Hp → Prop) : Rs (Itm × List SD) → Prop
  | .ok (m, ρ') => ∀ J O' W' H', Stp O W H O' W' H' → SR G vs0 O' W' σ H' ρ' → m.keep ρ' → Wlk G vs0 O' W' σ H' J m → R J H'
  | .exc c fs ρ' => ExcA G vs0 Wx O W σ H c fs ρ'
  | .bad => False
structure IJ (X : Cx) (cl : Str → Addr) (vs0 : List V) (Wx : WX) (tg iter : Expr) (src : Src) : Prop where
  ex : ∃ wi, PI X tg iter wi ∧ (∀ x, foldedSetIterable iter X.env x = pure x) ∧ ∀ O W σ H ρ R, SR (gx X cl) vs0 O W σ H ρ → AftI (gx X cl) vs0 Wx O W σ H R (src ρ) → wi σ H R
/-- a value that is a list or tuple, in all worlds to come -/
def Cn (G : Gx) (vs0 : List V) (O W : List Addr) (σ : L2.St) (H : Hp) (v : V) (m : Itm) : Prop :=
  m.xs.length ≤ sizeLine ∧ ∃ a k, v = .ref a ∧ ∀ O2 W2 σ2 H2 ρ2, Stp O W H O2 W2 H2 → SR G vs0 O2 W2 σ2 H2 ρ2 → m.slots σ σ2 → m.keep ρ2 → ∃ vs, SqK G.K H2 a vs k ∧ RpA G O2 H2 m.xs vs
def AftC (G : Gx) (vs0 : List V) (Wx : WX) (O W : List Addr) (σ : L2.St) (H : Hp) (R : V → Hp → Prop) : Rs (Itm × List SD) → Prop
  | .ok (m, ρ') => ∀ v O' W' H', Stp O W H O' W' H' → SR G vs0 O' W' σ H' ρ' → m.keep ρ' → Cn G vs0 O' W' σ H' v m → R v H'
  | .exc c fs ρ' => ExcA G vs0 Wx O W σ H c fs ρ'
  | .bad => False
def itemsOf : D → Rs (List D)
  | .lst xs => .ok xs
  | .tup xs => .ok xs
  | _ => .bad
def conV (i : Nat) : Src := fun ρ => match ρ[i]? with
  | some (.sh d) => (itemsOf d).bind fun xs => .ok (⟨xs, []⟩, ρ)
  | some (.own xs) => .ok (⟨xs, [(i, .own xs)]⟩, ρ)
  | some (.byr xs) => .ok (⟨xs, [(i, .byr xs)]⟩, ρ)
  | _ => .bad
def con : LOp → Src
  | .va i, ρ => conV i ρ
  | .ex f, ρ => (f ρ).bind fun p => (itemsOf p.1.frz).bind fun xs => .ok (⟨xs, []⟩, p.2)
section
variable {X : Cx} {cl : Str → Addr} {vs0 : List V} {Wx : WX}
theorem cn_data {G : Gx} {O W : List Addr} {σ : L2.St} {H : Hp} {d : D} {v : V} {xs : List D} (w : Wf O W H) (h : Rp G O H d v) (e : itemsOf d = .ok xs) : Cn G vs0 O W σ H v ⟨xs, []⟩ := by
  cases d with
  | lst ds =>
    cases e
    have h' := h
    simp only [Rp] at h'
    obtain ⟨a, vs, ev, t, r⟩ := h'
    refine ⟨by rw [r.length]; exact t.1, a, .l, ev, fun O2 W2 σ2 H2 ρ2 st sr _ _ => ⟨vs, (LO.step (G := G) w st t).sq, r.step w st⟩⟩
  | tup ds =>
    cases e
    have h' := h
    simp only [Rp] at h'
    obtain ⟨a, vs, ev, t, r⟩ := h'
    refine ⟨by rw [r.length]; exact t.1, a, .t, ev, fun O2 W2 σ2 H2 ρ2 st sr _ _ => ⟨vs, (TO.step (G := G) w st t).sq, r.step w st⟩⟩
  | _ => cases e
theorem itemsOf_noexc {d : D} {c : Str} {fs : List (Str × D)} {ρ : List SD} : itemsOf d ≠ .exc c fs ρ := by
  cases d <;> exact fun z => nomatch z
theorem cn_own {G : Gx} {O W : List Addr} {σ : L2.St} {H : Hp} {ρ : List SD} {i : Nat} {s : SD} {xs : List D} {a : Addr} (sr : SR G vs0 O W σ H ρ) (e : σ[i]? = some (some (.ref a))) (o : OwnAt G O W H a xs) (hs : s = .own xs ∨ s = .byr xs) : Cn G vs0 O W σ H (.ref a) ⟨xs, [(i, s)]⟩ := by
  obtain ⟨_, vs, _, h3, h4⟩ := o
  refine ⟨by rw [h4.length]; exact h3, a, .l, rfl, fun O2 W2 σ2 H2 ρ2 st sr2 hsl hk => ?_⟩
  have k1 : ρ2[i]? = some s := hk (i, s) (by simp)
  have k2 : σ2[i]? = σ[i]? := hsl (i, s) (by simp)
  obtain ⟨b, eb, _, vs', h2', _, h4'⟩ := sr2.getOwn k1 hs
  rw [k2, e] at eb; cases eb
  exact ⟨vs', SqL.of h2', h4'⟩
theorem con_core {e : Expr} {o : LOp} (h : LJ X cl vs0 Wx e o) : ∃ t, PE X e t ∧ ∀ O W σ H ρ R, SR (gx X cl) vs0 O W σ H ρ → AftC (gx X cl) vs0 Wx O W σ H R (con o ρ) → t σ H R := by
  cases o with
  | va i =>
    refine ⟨tVar i, h, fun O W σ H ρ R sr hw => ?_⟩
    have hw : AftC (gx X cl) vs0 Wx O W σ H R (conV i ρ) := hw
    unfold conV at hw
    split at hw
    · rename_i d e
      obtain ⟨v, ev, r⟩ := sr.get e
      cases e2 : itemsOf d with
      | bad => rw [e2] at hw; exact hw.elim
      | exc c fs ρ' => exact absurd e2 itemsOf_noexc
      | ok xs =>
        rw [e2] at hw
        exact ⟨v, ev, hw v O W H Stp.refl sr (fun p hp => absurd hp (by simp)) (cn_data sr.wf r e2)⟩
    · rename_i xs e
      obtain ⟨a, ea, oa⟩ := sr.getOwn e (.inl rfl)
      exact ⟨_, ea, hw (.ref a) O W H Stp.refl sr (fun p hp => by
        have : p = (i, SD.own xs) := by simpa using hp
        rw [this]; exact e) (cn_own sr ea oa (.inl rfl))⟩
    · rename_i xs e
      obtain ⟨a, ea, oa⟩ := sr.getOwn e (.inr rfl)
      exact ⟨_, ea, hw (.ref a) O W H Stp.refl sr (fun p hp => by
        have : p = (i, SD.byr xs) := by simpa using hp
        rw [this]; exact e) (cn_own sr ea oa (.inr rfl))⟩
    · exact hw.elim
  | ex f =>
    obtain ⟨t, q1, q2⟩ := h.ex
    refine ⟨t, q1, fun O W σ H ρ R sr hw => q2 O W σ H ρ _ sr ?_⟩
    have hw : AftC (gx X cl) vs0 Wx O W σ H R ((f ρ).bind fun p => (itemsOf p.1.frz).bind fun xs => .ok (⟨xs, []⟩, p.2)) := hw
    cases e : f ρ with
    | bad => rw [e] at hw; exact hw
    | exc c fs ρ' => rw [e] at hw; exact hw
    | ok p =>
      obtain ⟨r, ρ1⟩ := p
      rw [e] at hw
      have hw2 : AftC (gx X cl) vs0 Wx O W σ H R ((itemsOf r.frz).bind fun xs => .ok (⟨xs, []⟩, ρ1)) := hw
      intro v O1 W1 H1 st1 sr1 rr
      obtain ⟨O2, W2, st2, sr2, rp⟩ := rr.frz sr1
      cases e2 : itemsOf r.frz with
      | bad => rw [e2] at hw2; exact hw2.elim
      | exc c fs ρ' => exact absurd e2 itemsOf_noexc
      | ok xs =>
        rw [e2] at hw2
        exact hw2 v O2 W2 H1 (st1.trans sr.wf st2) sr2 (fun p hp => absurd hp (by simp)) (cn_data sr2.wf rp e2)
/-! ### sources -/
theorem itemsV {G : Gx} {O : List Addr} {H : Hp} {ds : List D} {vs : List V} {i : Nat} {d : D} (r : RpA G O H ds vs) (e : ds[i]? = some d) : ∃ v, vs[i]? = some v ∧ Rp G O H d v := r.getD e
theorem ij_seq {tg e : Expr} {o : LOp} (h : LJ X cl vs0 Wx e o) (hs : ∀ x, foldedSetIterable e X.env x = pure x := by intro _; rfl) : IJ X cl vs0 Wx tg e (con o) := by
  obtain ⟨t, p, q⟩ := con_core h
  refine ⟨⟨_, pi_seq p, hs, fun O W σ H ρ R sr hw => q O W σ H ρ _ sr ?_⟩⟩
  cases e : con o ρ with
  | bad => rw [e] at hw; exact hw
  | exc c fs ρ' => rw [e] at hw; exact hw
  | ok m =>
    obtain ⟨m, ρ1⟩ := m
    rw [e] at hw
    intro v O' W' H' st sr' hk ⟨hl, a, k, ev, hc⟩
    refine ⟨a, k, ev, ?_, hw _ O' W' H' st sr' hk ⟨hl, fun O2 W2 σ2 H2 ρ2 i d st2 sr2 h1 h2 hd => ?_, fun O2 W2 σ2 H2 ρ2 st2 sr2 h1 h2 => ?_⟩⟩
    · obtain ⟨vs, hq, _⟩ := hc O' W' σ H' ρ1 Stp.refl sr' (fun _ _ => rfl) hk
      exact ⟨vs, hq⟩
    · obtain ⟨vs, hq, ra⟩ := hc O2 W2 σ2 H2 ρ2 st2 sr2 h1 h2
      obtain ⟨v, hv, rv⟩ := ra.getD hd
      cases k with
      | l => exact ⟨⟨vs, v, hq, hv⟩, fun x H3 ⟨e3, hy⟩ => by
          subst e3
          have : x = v := Option.some.inj ((hy vs hq).symm.trans hv)
          subst this
          exact ⟨Same.refl _, rv⟩⟩
      | t => exact ⟨⟨vs, v, hq, hv⟩, fun x H3 ⟨e3, hy⟩ => by
          subst e3
          have : x = v := Option.some.inj ((hy vs hq).symm.trans hv)
          subst this
          exact ⟨Same.refl _, rv⟩⟩
    · obtain ⟨vs, hq, ra⟩ := hc O2 W2 σ2 H2 ρ2 st2 sr2 h1 h2
      cases k with
      | l => exact ⟨vs, hq, Nat.le_of_eq ra.length.symm⟩
      | t => exact ⟨vs, hq, Nat.le_of_eq ra.length.symm⟩
theorem rp_tup' {G : Gx} {O W : List Addr} {H : Hp} {p : Addr} {vs : List V} {ds : List D} (w : Wf O W H) (n : H p = none) (hl : vs.length ≤ sizeLine) (h : RpA G O H ds vs) : Same H (upd H p (.tup vs)) ∧ Rp G O (upd H p (.tup vs)) (.tup ds) (.ref p) := ⟨same_upd n, rp_tup w n hl h⟩
def enumD (xs : List D) : List D := xs.mapIdx fun i x => .tup [.int (i : Nat), x]
def srcEnum (o : LOp) : Src := fun ρ => (con o ρ).bind fun p => .ok (⟨enumD p.1.xs, p.1.bor⟩, p.2)
theorem ij_enum {e : Expr} {o : LOp} {p pos tpos : Pos} {elts : List Expr} {kk : Nat} (hg : Gl X "enumerate") (hm : X.mg "enumerate" = none) (h : LJ X cl vs0 Wx e o) (hs : starEach [e] X.env = [(false, eval e X.env)] := by rfl) :
    IJ X cl vs0 Wx (.Tuple elts kk tpos) (.Call (.Name "enumerate" p) [e] [] pos) (srcEnum o) := by
  obtain ⟨t, p, q⟩ := con_core h
  refine ⟨⟨_, pi_enumK hg hm (pa_cons p pa_nil hs) hs, fun _ => rfl, fun O W σ H ρ R sr hw => q O W σ H ρ _ sr ?_⟩⟩
  unfold srcEnum at hw
  cases e : con o ρ with
  | bad => rw [e] at hw; exact hw
  | exc c fs ρ' => rw [e] at hw; exact hw
  | ok m =>
    obtain ⟨m, ρ1⟩ := m
    rw [e] at hw
    intro v O' W' H' st sr' hk ⟨hl, a, k, ev, hc⟩
    obtain ⟨vs, hq, _⟩ := hc O' W' σ H' ρ1 Stp.refl sr' (fun _ _ => rfl) hk
    refine ⟨a, k, vs, by rw [ev], hq, hw _ O' W' H' st sr' hk ⟨by simpa [enumD] using hl, fun O2 W2 σ2 H2 ρ2 i d st2 sr2 h1 h2 hd => ?_, fun O2 W2 σ2 H2 ρ2 st2 sr2 h1 h2 => ?_⟩⟩
    · obtain ⟨vs, hq, ra⟩ := hc O2 W2 σ2 H2 ρ2 st2 sr2 h1 h2
      have hd : (enumD m.xs)[i]? = some d := hd
      unfold enumD at hd
      rw [List.getElem?_mapIdx] at hd
      obtain ⟨x, hx, rfl⟩ := Option.map_eq_some_iff.mp hd
      obtain ⟨v, hv, rv⟩ := ra.getD hx
      refine ⟨⟨vs, v, hq, hv⟩, fun y H3 ⟨T, z, ey, hT, e3, hy⟩ => ?_⟩
      subst e3 ey
      have : z = v := Option.some.inj ((hy vs hq).symm.trans hv)
      subst this
      refine rp_tup' sr2.wf hT (by show 2 ≤ sizeLine; decide) ?_
      simp only [RpA, Rp]
      exact ⟨_, _, rfl, rfl, _, _, rfl, rv, rfl⟩
    · obtain ⟨vs, hq, ra⟩ := hc O2 W2 σ2 H2 ρ2 st2 sr2 h1 h2
      exact ⟨vs, hq, by simp [enumD, ra.length]⟩
noncomputable instance (m : Itm) (ρ : List SD) : Decidable (m.keep ρ) := Classical.propDecidable _
def zipD (xs ys : List D) : List D := List.zipWith (fun x y => .tup [x, y]) xs ys
noncomputable def srcZip (o o2 : LOp) : Src := fun ρ => (con o ρ).bind fun p => (con o2 p.2).bind fun q => if p.1.keep q.2 then .ok (⟨zipD p.1.xs q.1.xs, p.1.bor ++ q.1.bor⟩, q.2) else .bad
theorem Cn.later {G : Gx} {O W O1 W1 : List Addr} {σ : L2.St} {H H1 : Hp} {v : V} {m : Itm} (w : Wf O W H) (s : Stp O W H O1 W1 H1) (h : Cn G vs0 O W σ H v m) : Cn G vs0 O1 W1 σ H1 v m := by
  obtain ⟨hl, a, k, ev, hc⟩ := h
  exact ⟨hl, a, k, ev, fun O2 W2 σ2 H2 ρ2 st => hc O2 W2 σ2 H2 ρ2 (s.trans w st)⟩
theorem ij_zip {e e2 : Expr} {o o2 : LOp} {p pos tpos : Pos} {elts : List Expr} {kk : Nat} (hg : Gl X "zip") (hm : X.mg "zip" = none) (h : LJ X cl vs0 Wx e o) (h2 : LJ X cl vs0 Wx e2 o2)
    (hs : starEach [e, e2] X.env = (false, eval e X.env) :: starEach [e2] X.env := by rfl) (hs2 : starEach [e2] X.env = (false, eval e2 X.env) :: starEach [] X.env := by rfl) (hpl : (backTo pos (starEach [e2] X.env)).any (·.1) = false := by rfl) :
    IJ X cl vs0 Wx (.Tuple elts kk tpos) (.Call (.Name "zip" p) [e, e2] [] pos) (srcZip o o2) := by
  obtain ⟨t, p, q⟩ := con_core h
  obtain ⟨t2, p2, q2⟩ := con_core h2
  refine ⟨⟨_, pi_zipK hg hm (pa_cons p (pa_cons p2 pa_nil hs2) hs) hs hpl, fun _ => rfl, fun O W σ H ρ R sr hw => q O W σ H ρ _ sr ?_⟩⟩
  unfold srcZip at hw
  cases e : con o ρ with
  | bad => rw [e] at hw; exact hw
  | exc c fs ρ' => rw [e] at hw; exact hw
  | ok m =>
    obtain ⟨m, ρ1⟩ := m
    rw [e] at hw
    have hw : AftI (gx X cl) vs0 Wx O W σ H R ((con o2 ρ1).bind fun q => if m.keep q.2 then .ok (⟨zipD m.xs q.1.xs, m.bor ++ q.1.bor⟩, q.2) else .bad) := hw
    intro v O1 W1 H1 st1 sr1 hk1 cn1
    refine q2 O1 W1 σ H1 ρ1 _ sr1 ?_
    cases e2 : con o2 ρ1 with
    | bad => rw [e2] at hw; exact hw
    | exc c fs ρ' => rw [e2] at hw; exact ExcA.back sr.wf st1 hw
    | ok m2 =>
      obtain ⟨m2, ρ2⟩ := m2
      rw [e2] at hw
      have hw : AftI (gx X cl) vs0 Wx O W σ H R (if m.keep ρ2 then .ok (⟨zipD m.xs m2.xs, m.bor ++ m2.bor⟩, ρ2) else .bad) := hw
      intro v2 O2 W2 H2 st2 sr2 hk2 cn2
      split at hw
      · rename_i hkk
        have cn1' := cn1.later sr1.wf st2
        obtain ⟨hl, a, k, ev, hc⟩ := cn1'
        obtain ⟨hl2, a2, k2, ev2, hc2⟩ := cn2
        obtain ⟨vs, hq, _⟩ := hc O2 W2 σ H2 ρ2 Stp.refl sr2 (fun _ _ => rfl) hkk
        obtain ⟨vs2, hq2, _⟩ := hc2 O2 W2 σ H2 ρ2 Stp.refl sr2 (fun _ _ => rfl) hk2
        have sl : ∀ {σ2 : L2.St}, Itm.slots ⟨zipD m.xs m2.xs, m.bor ++ m2.bor⟩ σ σ2 → m.slots σ σ2 ∧ m2.slots σ σ2 := fun z => ⟨fun p hp => z p (List.mem_append_left _ hp), fun p hp => z p (List.mem_append_right _ hp)⟩
        have kp : ∀ {ρ : List SD}, Itm.keep ⟨zipD m.xs m2.xs, m.bor ++ m2.bor⟩ ρ → m.keep ρ ∧ m2.keep ρ := fun z => ⟨fun p hp => z p (List.mem_append_left _ hp), fun p hp => z p (List.mem_append_right _ hp)⟩
        refine ⟨a, a2, k, k2, vs, vs2, by rw [ev, ev2], hq, hq2, hw _ O2 W2 H2 (st1.trans sr.wf st2) sr2 (fun p hp => (List.mem_append.mp hp).elim (hkk p) (hk2 p)) ⟨by simp only [zipD, List.length_zipWith]; omega, fun O3 W3 σ3 H3 ρ3 i d st3 sr3 h1 h2 hd => ?_, fun O3 W3 σ3 H3 ρ3 st3 sr3 h1 h2 => ?_⟩⟩
        · obtain ⟨us, hu, ra⟩ := hc O3 W3 σ3 H3 ρ3 st3 sr3 (sl h1).1 (kp h2).1
          obtain ⟨us2, hu2, ra2⟩ := hc2 O3 W3 σ3 H3 ρ3 st3 sr3 (sl h1).2 (kp h2).2
          have hd : (zipD m.xs m2.xs)[i]? = some d := hd
          unfold zipD at hd
          rw [List.getElem?_zipWith] at hd
          cases e3 : m.xs[i]? with
          | none => rw [e3] at hd; cases hd
          | some x =>
            cases e4 : m2.xs[i]? with
            | none => rw [e3, e4] at hd; cases hd
            | some y =>
              rw [e3, e4] at hd
              have hd : D.tup [x, y] = d := Option.some.inj hd
              subst hd
              obtain ⟨w1, hw1, rw1⟩ := ra.getD e3
              obtain ⟨w2, hw2, rw2⟩ := ra2.getD e4
              refine ⟨⟨us, us2, w1, w2, hu, hu2, hw1, hw2⟩, fun z H4 ⟨T, z1, z2, ez, hT, e4', hy1, hy2⟩ => ?_⟩
              subst e4' ez
              have q1 : z1 = w1 := Option.some.inj ((hy1 us hu).symm.trans hw1)
              have q2 : z2 = w2 := Option.some.inj ((hy2 us2 hu2).symm.trans hw2)
              subst q1 q2
              refine rp_tup' sr3.wf hT (by show 2 ≤ sizeLine; decide) ?_
              simp only [RpA]
              exact ⟨_, _, rfl, rw1, _, _, rfl, rw2, rfl⟩
        · obtain ⟨us, hu, ra⟩ := hc O3 W3 σ3 H3 ρ3 st3 sr3 (sl h1).1 (kp h2).1
          obtain ⟨us2, hu2, ra2⟩ := hc2 O3 W3 σ3 H3 ρ3 st3 sr3 (sl h1).2 (kp h2).2
          exact ⟨us, us2, hu, hu2, by simp [zipD, List.length_zipWith, ra.length, ra2.length]⟩
      · exact hw.elim
/-- range -/
def rangeD (lo : Int) (n : Nat) : List D := (List.range n).map fun (k : Nat) => .int (lo + k)
def rngOk (i : Int) : Prop := -(2 ^ 62) ≤ i ∧ i < 2 ^ 62
instance (i : Int) : Decidable (rngOk i) := by unfold rngOk; infer_instance
def rng1 (ρ : List SD) : List D → Rs (Itm × List SD)
  | [.int j] => if rngOk j ∧ j.toNat ≤ sizeLine then .ok (⟨rangeD 0 j.toNat, []⟩, ρ) else .bad
  | _ => .bad
def rng2 (ρ : List SD) : List D → Rs (Itm × List SD)
  | [.int i, .int j] => if rngOk i ∧ rngOk j ∧ (j - i).toNat ≤ sizeLine then .ok (⟨rangeD i (j - i).toNat, []⟩, ρ) else .bad
  | _ => .bad
def srcRng1 (fl : List LOp) : Src := fun ρ => (ops fl ρ).bind fun q => rng1 q.2 q.1
def srcRng2 (fl : List LOp) : Src := fun ρ => (ops fl ρ).bind fun q => rng2 q.2 q.1
theorem wlk_rng {G : Gx} {O W : List Addr} {σ : L2.St} {H : Hp} {lo : Int} {n : Nat} (h : n ≤ sizeLine) : Wlk G vs0 O W σ H (Itr lo n) ⟨rangeD lo n, []⟩ := by
  refine ⟨by simpa [rangeD] using h, fun O2 W2 σ2 H2 ρ2 i d st sr h1 h2 hd => ?_, fun O2 W2 σ2 H2 ρ2 st sr h1 h2 => ?_⟩
  · have hd : (rangeD lo n)[i]? = some d := hd
    unfold rangeD at hd
    rw [List.getElem?_map] at hd
    obtain ⟨k, hk, rfl⟩ := Option.map_eq_some_iff.mp hd
    obtain ⟨hl, e⟩ := List.getElem?_eq_some_iff.mp hk
    rw [List.getElem_range] at e
    subst e
    have hl' : i < n := by simpa using hl
    refine ⟨hl', fun x H3 ⟨e1, e2⟩ => ?_⟩
    subst e1 e2
    exact ⟨Same.refl _, by simp only [Rp]⟩
  · show n ≤ (rangeD lo n).length
    simp [rangeD]
theorem ij_rng1 {tg a : Expr} {fl : List LOp} {p pos : Pos} (hg : Gl X "range") (hm : X.mg "range" = none) (h : OJ X cl vs0 Wx [a] fl) (hs : starEach [a] X.env = [(false, eval a X.env)] := by rfl) : IJ X cl vs0 Wx tg (.Call (.Name "range" p) [a] [] pos) (srcRng1 fl) := by
  obtain ⟨ts, _, pa, q⟩ := h.ex
  refine ⟨⟨_, pi_range1 hg hm pa hs, fun _ => rfl, fun O W σ H ρ R sr hw => q O W σ H ρ _ sr ?_⟩⟩
  unfold srcRng1 at hw
  cases e : ops fl ρ with
  | bad => rw [e] at hw; exact hw
  | exc c fs ρ' => rw [e] at hw; exact hw
  | ok m =>
    obtain ⟨ds, ρ1⟩ := m
    rw [e] at hw
    intro vs O' W' H' st sr' ho
    have hw : AftI (gx X cl) vs0 Wx O W σ H R (rng1 ρ1 ds) := hw
    unfold rng1 at hw
    split at hw
    · split at hw
      · rename_i hz
        obtain ⟨v, ev, h1⟩ := ho.one
        refine ⟨_, by rw [ev, h1.int], hz.1.1, hz.1.2, hw _ O' W' H' st sr' (fun p hp => absurd hp (by simp)) (wlk_rng hz.2)⟩
      · exact hw.elim
    · exact hw.elim
theorem ij_rng2 {tg a b : Expr} {fl : List LOp} {p pos : Pos} (hg : Gl X "range") (hm : X.mg "range" = none) (h : OJ X cl vs0 Wx [a, b] fl) (hs : starEach [a, b] X.env = [(false, eval a X.env), (false, eval b X.env)] := by rfl) (hs2 : starEach [b] X.env = [(false, eval b X.env)] := by rfl) :
    IJ X cl vs0 Wx tg (.Call (.Name "range" p) [a, b] [] pos) (srcRng2 fl) := by
  obtain ⟨ts, _, pa, q⟩ := h.ex
  refine ⟨⟨_, pi_range2 hg hm pa hs hs2, fun _ => rfl, fun O W σ H ρ R sr hw => q O W σ H ρ _ sr ?_⟩⟩
  unfold srcRng2 at hw
  cases e : ops fl ρ with
  | bad => rw [e] at hw; exact hw
  | exc c fs ρ' => rw [e] at hw; exact hw
  | ok m =>
    obtain ⟨ds, ρ1⟩ := m
    rw [e] at hw
    intro vs O' W' H' st sr' ho
    have hw : AftI (gx X cl) vs0 Wx O W σ H R (rng2 ρ1 ds) := hw
    unfold rng2 at hw
    split at hw
    · split at hw
      · rename_i hz
        obtain ⟨v, u, ev, h1, h2⟩ := ho.two
        refine ⟨_, _, by rw [ev, h1.int, h2.int], ⟨hz.1.1, hz.1.2, hz.2.1.1, hz.2.1.2⟩, hw _ O' W' H' st sr' (fun p hp => absurd hp (by simp)) (wlk_rng hz.2.2)⟩
      · exact hw.elim
    · exact hw.elim
end
end Wm
end

section
/-! Targets, for, while, comprehensions. -/
namespace Wm
open PySem PySem.Spec PyProof.Rows L2
abbrev Tg := D → List SD → Option (List SD)
structure GJ (X : Cx) (cl : Str → Addr) (vs0 : List V) (tg : Expr) (st : Tg) (is : List Nat) : Prop where
  ex : ∃ g, PG X tg g ∧ ∀ O W σ H ρ ρ' d v Q, SR (gx X cl) vs0 O W σ H ρ → Rp (gx X cl) O H d v → st d ρ = some ρ' → (∀ σ', SR (gx X cl) vs0 O W σ' H ρ' → (∀ vs, (∀ i ∈ is, i ∈ vs) → wipe σ' vs = wipe σ vs) → Q σ' H) → g v σ H Q
theorem wipe_set {σ : L2.St} {i : Nat} {x : Option V} : ∀ {vs : List Nat}, i ∈ vs → wipe (σ.set i x) vs = wipe σ vs
  | [], h => absurd h (by simp)
  | v :: vs, h => by
    unfold wipe
    by_cases e : i ∈ vs
    · rw [wipe_set e]
    · have ev : i = v := by
        rcases List.mem_cons.mp h with z | z
        · exact z
        · exact absurd z e
      subst ev
      have key : ∀ {ws : List Nat}, i ∉ ws → wipe (σ.set i x) ws = (wipe σ ws).set i x := by
        intro ws
        induction ws with
        | nil => intro _; rfl
        | cons w ws ih =>
          intro hn
          have hw : w ≠ i := fun z => hn (by simp [z])
          unfold wipe
          rw [ih (fun z => hn (List.mem_cons_of_mem _ z)), List.set_comm _ _ (Ne.symm hw)]
      rw [key e, List.set_set]
def stN (i : Nat) : Tg := fun d ρ => some (ρ.set i (.sh d))
def setO : List Nat → List D → List SD → Option (List SD)
  | [], [], ρ => some ρ
  | i :: is, d :: ds, ρ => setO is ds (ρ.set i (.sh d))
  | _, _, _ => none
def stT (is : List Nat) : Tg := fun d ρ => match d with
  | .tup ds => setO is ds ρ
  | _ => none
section
variable {X : Cx} {cl : Str → Addr} {vs0 : List V} {Wx : WX}
theorem gj_name {i : Nat} {x : Str} {pos : Pos} (hN : X.N.Nodup) (hi : X.N[i]? = some x) (hx : Loc X.env.scope x) (hf : X.fn x = true ∨ X.env.scope.names.lookup x = some .local := by first | exact .inl rfl | exact .inr rfl | assumption) : GJ X cl vs0 (.Name x pos) (stN i) [i] :=
  ⟨⟨_, pg_name hN hi hx hf, fun O W σ H ρ ρ' d v Q sr rp e q => by
    cases e
    exact q _ (sr.set rp) fun vs h => wipe_set (h i (by simp))⟩⟩
theorem gNamesO_ok {G : Gx} {O W : List Addr} {H : Hp} {Q : L2.St → Hp → Prop} : ∀ {is : List Nat} {ds : List D} {vs : List V} {σ : L2.St} {ρ ρ' : List SD}, SR G vs0 O W σ H ρ → RpA G O H ds vs → setO is ds ρ = some ρ' →
    (∀ σ', SR G vs0 O W σ' H ρ' → (∀ vs, (∀ i ∈ is, i ∈ vs) → wipe σ' vs = wipe σ vs) → Q σ' H) → gNames is vs σ H Q
  | [], [], vs, σ, ρ, ρ', sr, ra, h, q => by
    simp only [RpA] at ra
    cases h
    exact ⟨ra, q σ sr fun _ _ => rfl⟩
  | i :: is, d :: ds, vs, σ, ρ, ρ', sr, ra, h, q => by
    simp only [RpA] at ra
    obtain ⟨v, r, e, h1, h2⟩ := ra
    exact ⟨v, r, e, gNamesO_ok (sr.set h1) h2 h fun σ' sr' hw => q σ' sr' fun vs hv => (hw vs fun j hj => hv j (List.mem_cons_of_mem _ hj)).trans (wipe_set (hv i (by simp)))⟩
  | [], _ :: _, _, _, _, _, _, _, h, _ => by cases h
  | _ :: _, [], _, _, _, _, _, _, h, _ => by cases h
theorem setO_len : ∀ {is : List Nat} {ds : List D} {ρ ρ2 : List SD}, setO is ds ρ = some ρ2 → is.length = ds.length
  | [], [], _, _, _ => rfl
  | i :: is, d :: ds, _, _, h => congrArg (· + 1) (setO_len (is := is) (ds := ds) h)
  | [], _ :: _, _, _, h => by cases h
  | _ :: _, [], _, _, h => by cases h
theorem gj_tup {es : List Expr} {k n : Nat} {is : List Nat} {pos : Pos} (hc : X.calm = true) (hg : PGs X es (gNames is)) (hl : is.length = n) (hn : (assignEach es X.env).length = n := by rfl) (hst : (assignEach es X.env).findIdx? (·.1) = none := by rfl) : GJ X cl vs0 (.Tuple es k pos) (stT is) is := by
  refine ⟨⟨_, pg_tup hc hg hn hst, fun O W σ H ρ ρ' d v Q sr rp e q => ?_⟩⟩
  cases d with
  | tup ds =>
    have e : setO is ds ρ = some ρ' := e
    simp only [Rp] at rp
    obtain ⟨a, vs, ev, t, ra⟩ := rp
    exact ⟨a, vs, ev, t.sq, by rw [← ra.length, ← setO_len e]; exact hl, gNamesO_ok sr ra e q⟩
  | _ => cases e

/-! ### for -/
def forL (st : Tg) (body : Ss) : List D → List SD → Rs Fl
  | [], ρ => .ok (.nx ρ)
  | d :: ds, ρ => match st d ρ with
    | some ρ1 => (body ρ1).bind fun fl => match fl with
      | .nx ρ2 => forL st body ds ρ2
      | .ct ρ2 => forL st body ds ρ2
      | .bk ρ2 => .ok (.nx ρ2)
      | .rt r ρ2 => .ok (.rt r ρ2)
    | none => .bad
def sFor (src : Src) (st : Tg) (body : Ss) : Ss := fun ρ => (src ρ).bind fun p => match p.1.bor with
  | [] => forL st body p.1.xs p.2
  | _ => .bad
theorem sj_for {tg iter : Expr} {body : List Stmt} {src : Src} {st : Tg} {is : List Nat} {g : Ss} {pos : Pos} (hp : PassesOwn (model X.prog X.w) X.A X.env X.xe) (hc : X.calm = true) (hi : IJ X cl vs0 Wx tg iter src) (hg : GJ X cl vs0 tg st is) (hb : BJ X cl vs0 Wx body g) :
    SJ X cl vs0 Wx (.For tg iter body [] pos) (sFor src st g) := by
  obtain ⟨wi, p1, hs, q1⟩ := hi.ex
  obtain ⟨tg', p2, q2⟩ := hg.ex
  obtain ⟨tb, p3, q3⟩ := hb.ex
  refine ⟨⟨_, ps_for hp hc p1 p2 p3 hs, fun O W σ H ρ E sr hw => q1 O W σ H ρ _ sr ?_⟩⟩
  unfold sFor at hw
  cases e : src ρ with
  | bad => rw [e] at hw; exact hw
  | exc c fs ρ' => rw [e] at hw; exact hw σ
  | ok p =>
    obtain ⟨⟨xs, bor⟩, ρ1⟩ := p
    rw [e] at hw
    cases bor with
    | cons b bs => exact (show False from hw).elim
    | nil =>
      have hw : AftS (gx X cl) vs0 Wx O W H E (forL st g xs ρ1) := hw
      intro J O1 W1 H1 st1 sr1 hk wk
      refine ⟨fun i m σ' H' => ∃ O2 W2 ρ2 ds, m = ds.length ∧ i + ds.length = xs.length ∧ xs.drop i = ds ∧ Stp O1 W1 H1 O2 W2 H' ∧ SR (gx X cl) vs0 O2 W2 σ' H' ρ2 ∧ AftS (gx X cl) vs0 Wx O2 W2 H' E (forL st g ds ρ2),
        ⟨xs.length, O1, W1, ρ1, xs, rfl, Nat.zero_add _, rfl, Stp.refl, sr1, AftS.back sr.wf st1 hw⟩, ?_⟩
      rintro i m σ2 H2 ⟨O2, W2, ρ2, ds, rfl, hlen, hdrop, st2, sr2, hf⟩
      have hsl : Itm.slots ⟨xs, []⟩ σ σ2 := fun p hp => absurd hp (by simp)
      have hkk : Itm.keep ⟨xs, []⟩ ρ2 := fun p hp => absurd hp (by simp)
      cases ds with
      | nil =>
        have hi : i = xs.length := by simpa using hlen
        subst hi
        exact .inl ⟨wk.stop O2 W2 σ2 H2 ρ2 st2 sr2 hsl hkk, hf σ2 O2 W2 H2 Stp.refl sr2⟩
      | cons d ds =>
        have hd : xs[i]? = some d := by
          have : (xs.drop i)[0]? = some d := by rw [hdrop]; rfl
          rw [List.getElem?_drop] at this
          simpa using this
        obtain ⟨hgo, hy⟩ := wk.go O2 W2 σ2 H2 ρ2 i d st2 sr2 hsl hkk hd
        have hf : AftS (gx X cl) vs0 Wx O2 W2 H2 E (match st d ρ2 with
          | some ρ1 => (g ρ1).bind fun fl => match fl with
            | .nx ρ2 => forL st g ds ρ2
            | .ct ρ2 => forL st g ds ρ2
            | .bk ρ2 => .ok (.nx ρ2)
            | .rt r ρ2 => .ok (.rt r ρ2)
          | none => .bad) := hf
        refine .inr ⟨hgo, _, fun σ' H' hN => ⟨ds.length, Nat.lt_succ_self _, hN⟩, fun x H3 hyl => ?_⟩
        obtain ⟨sm, rp⟩ := hy x H3 hyl
        have sr3 := sr2.same sm
        have st3 : Stp O2 W2 H2 O2 W2 H3 := Stp.same sm
        cases es : st d ρ2 with
        | none => rw [es] at hf; exact hf.elim
        | some ρ3 =>
          rw [es] at hf
          refine q2 O2 W2 σ2 H3 ρ2 ρ3 d x _ sr3 rp es fun σ4 sr4 _ => q3 O2 W2 σ4 H3 ρ3 _ sr4 ?_
          have hf : AftS (gx X cl) vs0 Wx O2 W2 H3 E ((g ρ3).bind fun fl => match fl with
            | .nx ρ2 => forL st g ds ρ2
            | .ct ρ2 => forL st g ds ρ2
            | .bk ρ2 => .ok (.nx ρ2)
            | .rt r ρ2 => .ok (.rt r ρ2)) := AftS.back sr2.wf st3 hf
          have hdr : xs.drop (i + 1) = ds := by
            rw [← List.drop_drop, hdrop]; rfl
          have hln : i + 1 + ds.length = xs.length := by rw [← hlen, List.length_cons]; omega
          have st23 := st2.trans sr1.wf st3
          cases eb : g ρ3 with
          | bad => rw [eb] at hf; exact hf
          | exc c fs ρ' => rw [eb] at hf; exact hf
          | ok fl =>
            rw [eb] at hf
            cases fl with
            | nx ρ4 => exact fun σ5 O5 W5 H5 st5 sr5 => ⟨O5, W5, ρ4, ds, rfl, hln, hdr, st23.trans sr1.wf st5, sr5, AftS.back sr3.wf st5 hf⟩
            | ct ρ4 => exact fun σ5 O5 W5 H5 st5 sr5 => ⟨O5, W5, ρ4, ds, rfl, hln, hdr, st23.trans sr1.wf st5, sr5, AftS.back sr3.wf st5 hf⟩
            | bk ρ4 => exact hf
            | rt r ρ4 => exact hf

/-! ### while -/
def whl (t : Sb) (body : Ss) : Nat → List SD → Rs Fl
  | 0, _ => .bad
  | n + 1, ρ => (t ρ).bind fun p => if p.1 then (body p.2).bind fun fl => match fl with
      | .nx ρ2 => whl t body n ρ2
      | .ct ρ2 => whl t body n ρ2
      | .bk ρ2 => .ok (.nx ρ2)
      | .rt r ρ2 => .ok (.rt r ρ2)
    else .ok (.nx p.2)
def sWhile (fuel : List SD → Nat) (t : Sb) (body : Ss) : Ss := fun ρ => whl t body (fuel ρ) ρ
theorem sj_while {c : Expr} {body : List Stmt} {t : Sb} {g : Ss} {pos : Pos} (fuel : List SD → Nat) (hp : PassesOwn (model X.prog X.w) X.A X.env X.xe) (hc : TJ X cl vs0 Wx c t) (hb : BJ X cl vs0 Wx body g) : SJ X cl vs0 Wx (.While c body [] pos) (sWhile fuel t g) := by
  obtain ⟨tc, p1, q1⟩ := hc.ex
  obtain ⟨tb, p3, q3⟩ := hb.ex
  refine ⟨⟨_, ps_while hp p1 p3, fun O W σ H ρ E sr hw => ?_⟩⟩
  refine ⟨fun m σ' H' => ∃ O2 W2 ρ2, SR (gx X cl) vs0 O2 W2 σ' H' ρ2 ∧ AftS (gx X cl) vs0 Wx O2 W2 H' E (whl t g m ρ2), ⟨fuel ρ, O, W, ρ, sr, hw⟩, ?_⟩
  rintro m σ2 H2 ⟨O2, W2, ρ2, sr2, hf⟩
  cases m with
  | zero => exact (show False from hf).elim
  | succ n =>
    refine q1 O2 W2 σ2 H2 ρ2 _ sr2 (t_core sr2.wf hf fun b ρ3 O3 W3 H3 sr3 hk => ?_)
    cases b with
    | false => exact hk σ2 O3 W3 H3 Stp.refl sr3
    | true =>
      have hk : AftS (gx X cl) vs0 Wx O3 W3 H3 E ((g ρ3).bind fun fl => match fl with
        | .nx ρ2 => whl t g n ρ2
        | .ct ρ2 => whl t g n ρ2
        | .bk ρ2 => .ok (.nx ρ2)
        | .rt r ρ2 => .ok (.rt r ρ2)) := hk
      refine ⟨_, fun σ' H' hN => ⟨n, Nat.lt_succ_self n, hN⟩, q3 O3 W3 σ2 H3 ρ3 _ sr3 ?_⟩
      cases eb : g ρ3 with
      | bad => rw [eb] at hk; exact hk
      | exc c fs ρ' => rw [eb] at hk; exact hk
      | ok fl =>
        rw [eb] at hk
        cases fl with
        | nx ρ4 => exact fun σ5 O5 W5 H5 st5 sr5 => ⟨O5, W5, ρ4, sr5, AftS.back sr3.wf st5 hk⟩
        | ct ρ4 => exact fun σ5 O5 W5 H5 st5 sr5 => ⟨O5, W5, ρ4, sr5, AftS.back sr3.wf st5 hk⟩
        | bk ρ4 => exact hk
        | rt r ρ4 => exact hk

/-! ### comprehensions -/
abbrev WX0 : WX := fun _ _ _ _ => False
/-- the slots of the block's own names are empty -/
def wipeR (ρ : List SD) : List Nat → List SD
  | [] => ρ
  | v :: vs => (wipeR ρ vs).set v .no
def keptSD : Option SD → SD
  | some (.sh d) => .sh d
  | _ => .no
/-- behind the block: its own names' slots as they were ahead -/
def backR (ρ0 ρ : List SD) : List Nat → List SD
  | [] => ρ
  | v :: vs => (backR ρ0 ρ vs).set v (keptSD ρ0[v]?)
theorem wipeR_len (ρ : List SD) : ∀ vs : List Nat, (wipeR ρ vs).length = ρ.length
  | [] => rfl
  | v :: vs => by unfold wipeR; rw [List.length_set, wipeR_len ρ vs]
theorem wipeR_get {ρ : List SD} {i : Nat} {s : SD} : ∀ {vs : List Nat}, (wipeR ρ vs)[i]? = some s → (i ∉ vs ∧ ρ[i]? = some s) ∨ (i ∈ vs ∧ s = .no)
  | [], h => .inl ⟨by simp, h⟩
  | v :: vs, h => by
    unfold wipeR at h
    by_cases hi : v = i
    · subst hi
      have hl : v < (wipeR ρ vs).length := by
        have := (List.getElem?_eq_some_iff.mp h).1
        rw [List.length_set] at this
        exact this
      rw [List.getElem?_set_self hl] at h
      cases h
      exact .inr ⟨by simp, rfl⟩
    · rw [List.getElem?_set_ne hi] at h
      rcases wipeR_get h with ⟨a, b⟩ | ⟨a, b⟩
      · exact .inl ⟨by simp only [List.mem_cons, not_or]; exact ⟨fun e => hi e.symm, a⟩, b⟩
      · exact .inr ⟨List.mem_cons_of_mem _ a, b⟩
theorem wipe_get {σ : L2.St} {i : Nat} : ∀ {vs : List Nat}, i ∉ vs → (wipe σ vs)[i]? = σ[i]?
  | [], _ => rfl
  | v :: vs, h => by
    unfold wipe
    rw [List.getElem?_set_ne (fun e => h (by simp [e])), wipe_get fun z => h (List.mem_cons_of_mem _ z)]
theorem backR_len (ρ0 ρ : List SD) : ∀ vs : List Nat, (backR ρ0 ρ vs).length = ρ.length
  | [] => rfl
  | v :: vs => by unfold backR; rw [List.length_set, backR_len ρ0 ρ vs]
theorem backR_get {ρ0 ρ : List SD} {i : Nat} {s : SD} : ∀ {vs : List Nat}, (backR ρ0 ρ vs)[i]? = some s → (i ∉ vs ∧ ρ[i]? = some s) ∨ (i ∈ vs ∧ s = keptSD ρ0[i]?)
  | [], h => .inl ⟨by simp, h⟩
  | v :: vs, h => by
    unfold backR at h
    by_cases hi : v = i
    · subst hi
      have hl : v < (backR ρ0 ρ vs).length := by
        have := (List.getElem?_eq_some_iff.mp h).1
        rw [List.length_set] at this
        exact this
      rw [List.getElem?_set_self hl] at h
      cases h
      exact .inr ⟨by simp, rfl⟩
    · rw [List.getElem?_set_ne hi] at h
      rcases backR_get h with ⟨a, b⟩ | ⟨a, b⟩
      · exact .inl ⟨by simp only [List.mem_cons, not_or]; exact ⟨fun e => hi e.symm, a⟩, b⟩
      · exact .inr ⟨List.mem_cons_of_mem _ a, b⟩
theorem SR.wipe {G : Gx} {O W : List Addr} {σ : L2.St} {H : Hp} {ρ : List SD} (vs : List Nat) (r : SR G vs0 O W σ H ρ) : SR G vs0 O W (wipe σ vs) H (wipeR ρ vs) := by
  refine ⟨r.wf, by rw [wipe_length, wipeR_len, r.len], fun i s e => ?_, fun i j s t a e1 e2 m1 m2 s1 s2 => ?_⟩
  · rcases wipeR_get e with ⟨h1, h2⟩ | ⟨_, h2⟩
    · rw [wipe_get h1]; exact r.slot i s h2
    · subst h2; trivial
  · rcases wipeR_get e1 with ⟨h1, h2⟩ | ⟨_, h2⟩
    · rcases wipeR_get e2 with ⟨h3, h4⟩ | ⟨_, h4⟩
      · rw [wipe_get h1] at s1
        rw [wipe_get h3] at s2
        exact r.apart i j s t a h2 h4 m1 m2 s1 s2
      · subst h4; cases m2
    · subst h2; cases m1
/-- behind the block -/
theorem SR.unwipe {G : Gx} {O W O' W' : List Addr} {σ : L2.St} {H H' : Hp} {ρ ρ' : List SD} {vs : List Nat} (r : SR G vs0 O W σ H ρ) (st : Stp O W H O' W' H') (r' : SR G vs0 O' W' (L2.wipe σ vs) H' ρ') : SR G vs0 O' W' σ H' (backR ρ ρ' vs) := by
  have nm : ∀ {i : Nat} {s : SD}, i ∈ vs → s = keptSD ρ[i]? → s.mine = true → False := fun {i s} _ e m => by
    rw [e] at m
    unfold keptSD at m
    split at m <;> cases m
  refine ⟨r'.wf, by rw [backR_len, ← r'.len, wipe_length], fun i s e => ?_, fun i j s t a e1 e2 m1 m2 s1 s2 => ?_⟩
  · rcases backR_get e with ⟨h1, h2⟩ | ⟨h1, h2⟩
    · rw [← wipe_get (σ := σ) h1]; exact r'.slot i s h2
    · rw [h2]
      unfold keptSD
      split
      · rename_i d e3
        obtain ⟨v, e4, rp⟩ := r.slot i _ e3
        exact ⟨v, e4, rp.step r.wf st⟩
      · trivial
  · rcases backR_get e1 with ⟨h1, h2⟩ | ⟨h1, h2⟩
    · rcases backR_get e2 with ⟨h3, h4⟩ | ⟨h3, h4⟩
      · rw [← wipe_get (σ := σ) h1] at s1
        rw [← wipe_get (σ := σ) h3] at s2
        exact r'.apart i j s t a h2 h4 m1 m2 s1 s2
      · exact (nm h3 h4 m2).elim
    · exact (nm h1 h2 m1).elim
/-- a list that is being made, met by nothing and written by none: it grows -/
theorem SR.grow {G : Gx} {O W : List Addr} {σ : L2.St} {H : Hp} {ρ : List SD} {p : Addr} {o o' : HO} (r : SR G vs0 O W σ H ρ) (hO : p ∈ O) (hW : p ∉ W) (hp : H p = some o) : SR G vs0 O W σ (upd H p o') ρ ∧ (∀ {d v}, Rp G O H d v → Rp G O (upd H p o') d v) ∧ (∀ {ds vs}, RpA G O H ds vs → RpA G O (upd H p o') ds vs) := by
  have w2 : Wf O (p :: W) H := ⟨fun b hb => by
    rcases List.mem_cons.mp hb with e | e
    · rw [e]; exact hO
    · exact r.wf.sub b e, r.wf.trk⟩
  have trk : ∀ b, H b ≠ none → upd H p o' b ≠ none := fun b hb => by
    by_cases e : b = p
    · rw [e, upd_same]; simp
    · rw [upd_ne e]; exact hb
  have st : Stp O (p :: W) H O (p :: W) (upd H p o') := ⟨fun b u e hb => by
    rw [upd_ne (fun z => hb (by simp [z]))]; exact e, fun _ h => .inl h, fun _ h => .inl h, trk, fun _ h _ => h⟩
  have own : ∀ {a xs}, OwnAt G O W H a xs → OwnAt G O W (upd H p o') a xs := fun {a xs} h => by
    obtain ⟨h1, vs, h2, h3, h4⟩ := h
    exact ⟨h1, vs, by rw [upd_ne (show a ≠ p from fun z => hW (by rw [← z]; exact h1))]; exact h2, h3, h4.step w2 st⟩
  refine ⟨⟨⟨r.wf.sub, fun b hb => trk b (r.wf.trk b hb)⟩, r.len, fun i s e => ?_, r.apart⟩, fun h => h.step w2 st, fun h => h.step w2 st⟩
  have q := r.slot i s e
  cases s with
  | no => trivial
  | sh d => obtain ⟨v, e, r⟩ := q; exact ⟨v, e, r.step w2 st⟩
  | own xs => obtain ⟨a, e, r⟩ := q; exact ⟨a, e, own r⟩
  | byr xs => obtain ⟨a, e, e0, r⟩ := q; exact ⟨a, e, e0, own r⟩
/-- one reading for all blocks -/
theorem ej_all {ι : Type} {Xs : ι → Cx} {K : PySem.W.Frag} {e : Expr} {f : Sx} (hK : ∀ c, (Xs c).K = K) (h : ∀ c, EJ (Xs c) cl vs0 Wx e f) : ∃ t : TE, (∀ c, PE (Xs c) e t) ∧ ∀ O W σ H ρ Q, SR ⟨K, cl⟩ vs0 O W σ H ρ → AftE ⟨K, cl⟩ vs0 Wx O W σ H Q (f ρ) → t σ H Q := by
  refine ⟨fun σ H Q => ∃ O W ρ, SR ⟨K, cl⟩ vs0 O W σ H ρ ∧ AftE ⟨K, cl⟩ vs0 Wx O W σ H Q (f ρ), fun c => ⟨fun pins s σ H Q I hw => ?_⟩, fun O W σ H ρ Q sr hw => ⟨O, W, ρ, sr, hw⟩⟩
  obtain ⟨t, p, q⟩ := (h c).ex
  obtain ⟨O, W, ρ, sr, hw⟩ := hw
  have e := hK c
  subst e
  exact p.run pins s σ H Q I (q O W σ H ρ Q sr hw)
/-- a clause's tests -/
def bYes : Sb := fun ρ => .ok (true, ρ)
structure FJ (X : Cx) (cl : Str → Addr) (vs0 : List V) (Wx : WX) (ifs : List Expr) (f : Sb) : Prop where
  ex : ∃ t, PTs X ifs t ∧ ∀ O W σ H ρ Q, SR (gx X cl) vs0 O W σ H ρ → AftB (gx X cl) vs0 Wx O W σ H Q (f ρ) → t σ H Q
theorem fj_all {ι : Type} {Xs : ι → Cx} {K : PySem.W.Frag} {ifs : List Expr} {f : Sb} (hK : ∀ c, (Xs c).K = K) (h : ∀ c, FJ (Xs c) cl vs0 Wx ifs f) :
    ∃ t : TT, (∀ c, PTs (Xs c) ifs t) ∧ ∀ O W σ H ρ Q, SR ⟨K, cl⟩ vs0 O W σ H ρ → AftB ⟨K, cl⟩ vs0 Wx O W σ H Q (f ρ) → t σ H Q := by
  refine ⟨fun σ H Q => ∃ O W ρ, SR ⟨K, cl⟩ vs0 O W σ H ρ ∧ AftB ⟨K, cl⟩ vs0 Wx O W σ H Q (f ρ), fun c => ⟨fun pins s σ H Q I hw => ?_⟩, fun O W σ H ρ Q sr hw => ⟨O, W, ρ, sr, hw⟩⟩
  obtain ⟨t, p, q⟩ := (h c).ex
  obtain ⟨O, W, ρ, sr, hw⟩ := hw
  have e := hK c
  subst e
  exact p.run pins s σ H Q I (q O W σ H ρ Q sr hw)
theorem gj_all {ι : Type} {Xs : ι → Cx} {K : PySem.W.Frag} {tg : Expr} {st : Tg} {is : List Nat} (hK : ∀ c, (Xs c).K = K) (h : ∀ c, GJ (Xs c) cl vs0 tg st is) :
    ∃ g : TG, (∀ c, PG (Xs c) tg g) ∧ ∀ O W σ H ρ ρ' d v Q, SR ⟨K, cl⟩ vs0 O W σ H ρ → Rp ⟨K, cl⟩ O H d v → st d ρ = some ρ' → (∀ σ', SR ⟨K, cl⟩ vs0 O W σ' H ρ' → (∀ vs, (∀ i ∈ is, i ∈ vs) → L2.wipe σ' vs = L2.wipe σ vs) → Q σ' H) → g v σ H Q := by
  refine ⟨fun v σ H Q => ∃ O W ρ ρ' d, SR ⟨K, cl⟩ vs0 O W σ H ρ ∧ Rp ⟨K, cl⟩ O H d v ∧ st d ρ = some ρ' ∧ (∀ σ', SR ⟨K, cl⟩ vs0 O W σ' H ρ' → (∀ vs, (∀ i ∈ is, i ∈ vs) → L2.wipe σ' vs = L2.wipe σ vs) → Q σ' H), fun c => ⟨fun pins s σ H v u Q I r hw => ?_⟩, fun O W σ H ρ ρ' d v Q sr rp e hw => ⟨O, W, ρ, ρ', d, sr, rp, e, hw⟩⟩
  obtain ⟨t, p, q⟩ := (h c).ex
  obtain ⟨O, W, ρ, ρ', d, sr, rp, es, hw⟩ := hw
  have e := hK c
  subst e
  exact p.run pins s σ H v u Q I r (q O W σ H ρ ρ' d v Q sr rp es hw)
theorem fj_nil : FJ X cl vs0 Wx [] bYes := ⟨⟨_, pts_nil, fun O W σ H ρ Q sr h => h O W H Stp.refl sr⟩⟩
theorem fj_one {c : Expr} {f : Sb} (h : TJ X cl vs0 Wx c f) : FJ X cl vs0 Wx [c] f := by
  obtain ⟨t, p, q⟩ := h.ex
  exact ⟨⟨t, pts_one p, q⟩⟩
noncomputable def lcL (m : Itm) (st : Tg) (test : Sb) (elt : Sx) (vs : List Nat) : List D → List SD → Rs (List D × List SD)
  | [], ρ => .ok ([], ρ)
  | d :: ds, ρ => match st d ρ with
    | some ρ1 => match test ρ1 with
      | .ok (true, ρ2) => match elt ρ2 with
        | .ok (r, ρ3) => if m.keep (wipeR ρ3 vs) then (lcL m st test elt vs ds (wipeR ρ3 vs)).bind fun q => .ok (r.frz :: q.1, q.2) else .bad
        | _ => .bad
      | .ok (false, ρ2) => if m.keep (wipeR ρ2 vs) then lcL m st test elt vs ds (wipeR ρ2 vs) else .bad
      | _ => .bad
    | none => .bad
noncomputable def xLc (src : Src) (st : Tg) (test : Sb) (elt : Sx) (vs : List Nat) : Sx := fun ρ => (src ρ).bind fun p => if p.1.keep (wipeR p.2 vs) ∧ (∀ b ∈ p.1.bor, b.1 ∉ vs) then
  match lcL p.1 st test elt vs p.1.xs (wipeR p.2 vs) with
  | .ok (ds, ρ') => .ok (.own ds, backR p.2 ρ' vs)
  | _ => .bad
  else .bad
end
end Wm
end

section
/-! List comprehensions. -/
namespace Wm
open PySem PySem.Spec PyProof.Rows L2
section
variable {X : Cx} {cl : Str → Addr} {vs0 : List V} {Wx : WX}
theorem wipe_wipe {σ : L2.St} : ∀ {vs : List Nat}, wipe (wipe σ vs) vs = wipe σ vs := by
  intro vs
  apply List.ext_getElem?
  intro i
  by_cases h : i ∈ vs
  · have key : ∀ (τ : L2.St) (ws : List Nat), i ∈ ws → (wipe τ ws)[i]? = if i < τ.length then some none else none := by
      intro τ ws
      induction ws with
      | nil => intro h; cases h
      | cons w ws ih =>
        intro h
        unfold wipe
        by_cases e : w = i
        · subst e
          by_cases hl : w < τ.length
          · rw [List.getElem?_set_self (by rw [wipe_length]; exact hl), if_pos hl]
          · rw [if_neg hl]
            exact List.getElem?_eq_none (by rw [List.length_set, wipe_length]; omega)
        · rw [List.getElem?_set_ne e]
          rcases List.mem_cons.mp h with z | z
          · exact absurd z.symm e
          · exact ih z
    rw [key _ _ h, key _ _ h, wipe_length]
  · rw [wipe_get h]
theorem SR.addW {G : Gx} {O W : List Addr} {σ : L2.St} {H : Hp} {ρ : List SD} {p : Addr} (r : SR G vs0 O W σ H ρ) (h : p ∈ O) : SR G vs0 O (p :: W) σ H ρ := by
  refine ⟨⟨fun b hb => ?_, r.wf.trk⟩, r.len, fun i s e => ?_, r.apart⟩
  · rcases List.mem_cons.mp hb with z | z
    · rw [z]; exact h
    · exact r.wf.sub b z
  · have q := r.slot i s e
    cases s with
    | no => trivial
    | sh d => exact q
    | own xs => obtain ⟨a, e, h1, r⟩ := q; exact ⟨a, e, List.mem_cons_of_mem _ h1, r⟩
    | byr xs => obtain ⟨a, e, e0, h1, r⟩ := q; exact ⟨a, e, e0, List.mem_cons_of_mem _ h1, r⟩
theorem Stp.addW {O W O' W' : List Addr} {H H' : Hp} {p : Addr} (s : Stp O W H O' W' H') (n : H p = none) : Stp O W H O' (p :: W') H' :=
  ⟨s.keep, fun b hb => by
    rcases List.mem_cons.mp hb with z | z
    · right; rw [z]; exact n
    · exact s.wnew b z, s.onew, s.trk, s.ofz⟩
theorem Stp.addO {O W : List Addr} {H H' : Hp} {p : Addr} (h : Same H H') (n : H p = none) : Stp O W H (p :: O) W H' :=
  ⟨fun b o e _ => h b o e, fun b hb => .inl hb, fun b hb => by
    rcases List.mem_cons.mp hb with z | z
    · right; rw [z]; exact n
    · exact .inl z, (Stp.same (O := O) (W := W) h).trk, fun b hb _ => List.mem_cons_of_mem _ hb⟩
theorem RpA.snoc {G : Gx} {O : List Addr} {H : Hp} {ds : List D} {vs : List V} {d : D} {v : V} (r : RpA G O H ds vs) (h : Rp G O H d v) : RpA G O H (ds ++ [d]) (vs ++ [v]) := r.append (by simp only [RpA]; exact ⟨v, [], rfl, h, rfl⟩)
/-- a list that is being made is not met -/
structure Held (p : Addr) (acc : List V) (O W : List Addr) (H : Hp) : Prop where
  o : p ∈ O
  w : p ∉ W
  h : H p = some (.lst acc)
theorem Held.step {p : Addr} {acc : List V} {O W O' W' : List Addr} {H H' : Hp} (h : Held p acc O W H) (s : Stp O W H O' W' H') : Held p acc O' W' H' :=
  ⟨s.ofz p h.o h.w, (fun z => by
    rcases s.wnew p z with q | q
    · exact h.w q
    · rw [h.h] at q; cases q), s.keep p _ h.h h.w⟩
theorem lc_sound {wi : TI} {g : TG} {tt : TT} {te : TE} {src : Src} {st : Tg} {is : List Nat} {test : Sb} {f : Sx} {vs : List Nat} (his : ∀ i ∈ is, i ∈ vs)
    (q1 : ∀ O W σ H ρ R, SR (gx X cl) vs0 O W σ H ρ → AftI (gx X cl) vs0 Wx O W σ H R (src ρ) → wi σ H R)
    (q2 : ∀ O W σ H ρ ρ' d v Q, SR (gx X cl) vs0 O W σ H ρ → Rp (gx X cl) O H d v → st d ρ = some ρ' → (∀ σ', SR (gx X cl) vs0 O W σ' H ρ' → (∀ vs, (∀ i ∈ is, i ∈ vs) → wipe σ' vs = wipe σ vs) → Q σ' H) → g v σ H Q)
    (q3 : ∀ O W σ H ρ Q, SR (gx X cl) vs0 O W σ H ρ → AftB (gx X cl) vs0 WX0 O W σ H Q (test ρ) → tt σ H Q)
    (q4 : ∀ O W σ H ρ Q, SR (gx X cl) vs0 O W σ H ρ → AftE (gx X cl) vs0 WX0 O W σ H Q (f ρ) → te σ H Q) :
    ∀ O W σ H ρ Q, SR (gx X cl) vs0 O W σ H ρ → AftE (gx X cl) vs0 Wx O W σ H Q (xLc src st test f vs ρ) → tLc wi g tt te vs σ H Q := by
  intro O W σ H ρ Q sr hw
  refine q1 O W σ H ρ _ sr ?_
  unfold xLc at hw
  cases e : src ρ with
  | bad => rw [e] at hw; exact hw
  | exc c fs ρ' => rw [e] at hw; exact hw
  | ok pm =>
    obtain ⟨m, ρ1⟩ := pm
    rw [e] at hw
    have hw : AftE (gx X cl) vs0 Wx O W σ H Q (if m.keep (wipeR ρ1 vs) ∧ (∀ b ∈ m.bor, b.1 ∉ vs) then
      match lcL m st test f vs m.xs (wipeR ρ1 vs) with
      | .ok (ds, ρ') => .ok (.own ds, backR ρ1 ρ' vs)
      | _ => .bad
      else .bad) := hw
    intro J O1 W1 H1 st1 sr1 hk wk p np
    split at hw
    · rename_i hcond
      cases eL : lcL m st test f vs m.xs (wipeR ρ1 vs) with
      | bad => rw [eL] at hw; exact hw.elim
      | exc c fs ρ' => rw [eL] at hw; exact hw.elim
      | ok pe =>
        obtain ⟨all, ρe⟩ := pe
        rw [eL] at hw
        have hslots : m.slots σ (wipe σ vs) := fun b hb => wipe_get (hcond.2 b hb)
        have sm0 : Same H1 (upd H1 p (.lst [])) := same_upd np
        have st0 : Stp O1 W1 H1 (p :: O1) W1 (upd H1 p (.lst [])) := Stp.addO sm0 np
        have w0 : Wf (p :: O1) W1 (upd H1 p (.lst [])) := ⟨fun b hb => List.mem_cons_of_mem _ (sr1.wf.sub b hb), fun b hb => by
          rcases List.mem_cons.mp hb with z | z
          · rw [z, upd_same]; simp
          · exact (sr1.wf.same sm0).trk b z⟩
        have pW : p ∉ W1 := fun z => sr1.wf.trk p (sr1.wf.sub p z) np
        have sr0 : SR (gx X cl) vs0 (p :: O1) W1 (wipe σ vs) (upd H1 p (.lst [])) (wipeR ρ1 vs) := (sr1.wipe vs).step w0 st0 (fun _ h => h) fun b o _ e => sm0 b o e
        refine ⟨fun i k H2 => ∃ O2 W2 ρ2 ds acc ads es, k = ds.length ∧ i + ds.length = m.xs.length ∧ m.xs.drop i = ds ∧ Stp O1 W1 H1 O2 W2 H2 ∧ Held p acc O2 W2 H2 ∧ acc.length ≤ i ∧ RpA (gx X cl) O2 H2 ads acc ∧
          SR (gx X cl) vs0 O2 W2 (wipe σ vs) H2 ρ2 ∧ m.keep ρ2 ∧ lcL m st test f vs ds ρ2 = .ok (es, ρe) ∧ ads ++ es = all,
          ⟨m.xs.length, p :: O1, W1, _, m.xs, [], [], all, rfl, Nat.zero_add _, rfl, st0, ⟨by simp, pW, upd_same⟩, Nat.le_refl _, by simp only [RpA], sr0, hcond.1, eL, rfl⟩, ?_⟩
        rintro i k H2 ⟨O2, W2, ρ2, ds, acc, ads, es, rfl, hlen, hdrop, st2, hd2, hal, ra, sr2, hkp, hL, hall⟩
        cases ds with
        | nil =>
          have hi : i = m.xs.length := by simpa using hlen
          subst hi
          have hL : Rs.ok (([] : List D), ρ2) = .ok (es, ρe) := hL
          injection hL with hL
          injection hL with e1 e2
          subst e1 e2
          rw [List.append_nil] at hall
          subst hall
          refine .inl ⟨wk.stop O2 W2 (wipe σ vs) H2 ρ2 st2 sr2 hslots hkp, ?_⟩
          refine hw (.ref p) O2 (p :: W2) H2 (st1.trans sr.wf (st2.addW np)) ((sr1.unwipe st2 sr2).addW hd2.o) ⟨p, rfl, ⟨List.mem_cons_self, acc, hd2.h, Nat.le_trans hal wk.len, ra⟩, fun j s es ms z => ?_⟩
          have sr3 := sr1.unwipe st2 sr2
          have : ∃ xs, s = .own xs ∨ s = .byr xs := by
            cases s with
            | own xs => exact ⟨xs, .inl rfl⟩
            | byr xs => exact ⟨xs, .inr rfl⟩
            | no => cases ms
            | sh d => cases ms
          obtain ⟨ys, hs⟩ := this
          obtain ⟨b, eb, ob⟩ := sr3.getOwn es hs
          rw [eb] at z; cases z
          exact hd2.w ob.1
        | cons d ds =>
          have hd : m.xs[i]? = some d := by
            have : (m.xs.drop i)[0]? = some d := by rw [hdrop]; rfl
            rw [List.getElem?_drop] at this
            simpa using this
          have hlt : i < m.xs.length := (List.getElem?_eq_some_iff.mp hd).1
          obtain ⟨hgo, hy⟩ := wk.go O2 W2 (wipe σ vs) H2 ρ2 i d st2 sr2 hslots hkp hd
          have hdr : m.xs.drop (i + 1) = ds := by rw [← List.drop_drop, hdrop]; rfl
          have hln : i + 1 + ds.length = m.xs.length := by rw [← hlen, List.length_cons]; omega
          refine .inr ⟨hgo, _, fun H' hN => ⟨ds.length, Nat.lt_succ_self _, hN⟩, fun x H3 hyl => ?_⟩
          obtain ⟨sm, rp⟩ := hy x H3 hyl
          have sr3 := sr2.same sm
          have st3 : Stp O2 W2 H2 O2 W2 H3 := Stp.same sm
          have st13 := st2.trans sr1.wf st3
          have hd3 := hd2.step st3
          have ra3 := ra.step sr2.wf st3
          unfold lcL at hL
          cases es1 : st d ρ2 with
          | none => rw [es1] at hL; cases hL
          | some ρ3 =>
            rw [es1] at hL
            dsimp only at hL
            refine q2 O2 W2 (wipe σ vs) H3 ρ2 ρ3 d x _ sr3 rp es1 fun σ4 sr4 hwp => ?_
            have hwp : wipe σ4 vs = wipe σ vs := (hwp vs his).trans wipe_wipe
            refine ⟨hwp, q3 O2 W2 σ4 H3 ρ3 _ sr4 ?_⟩
            cases et : test ρ3 with
            | bad => rw [et] at hL; cases hL
            | exc c fs ρ' => rw [et] at hL; cases hL
            | ok bt =>
              obtain ⟨b, ρ4⟩ := bt
              intro O5 W5 H5 st5 sr5
              have hd5 := hd3.step st5
              have ra5 := ra3.step sr3.wf st5
              have st15 := st13.trans sr1.wf st5
              cases b with
              | false =>
                rw [et] at hL
                have hL : (if m.keep (wipeR ρ4 vs) then lcL m st test f vs ds (wipeR ρ4 vs) else .bad) = .ok (es, ρe) := hL
                split at hL
                · rename_i hkp5
                  have sr6 := sr5.wipe vs
                  rw [hwp] at sr6
                  exact ⟨O5, W5, _, ds, acc, ads, es, rfl, hln, hdr, st15, hd5, by omega, ra5, sr6, hkp5, hL, hall⟩
                · cases hL
              | true =>
                rw [et] at hL
                dsimp only at hL
                refine q4 O5 W5 σ4 H5 ρ4 _ sr5 ?_
                cases ef : f ρ4 with
                | bad => rw [ef] at hL; cases hL
                | exc c fs ρ' => rw [ef] at hL; cases hL
                | ok pr =>
                  obtain ⟨r, ρ5⟩ := pr
                  rw [ef] at hL
                  have hL : (if m.keep (wipeR ρ5 vs) then (lcL m st test f vs ds (wipeR ρ5 vs)).bind fun q => .ok (r.frz :: q.1, q.2) else .bad) = .ok (es, ρe) := hL
                  split at hL
                  · rename_i hkp6
                    intro y O6 W6 H6 st6 sr6 rr
                    obtain ⟨O7, W7, st7, sr7, rp7⟩ := rr.frz sr6
                    have hd7 := (hd5.step st6).step st7
                    have ra7 := (ra5.step sr5.wf st6).step sr6.wf st7
                    have st17 := (st15.trans sr1.wf st6).trans sr1.wf st7
                    refine ⟨acc, hd7.h, Nat.lt_of_le_of_lt hal (Nat.lt_of_lt_of_le hlt wk.len), ?_⟩
                    have sr8 := sr7.wipe vs
                    rw [hwp] at sr8
                    obtain ⟨sr9, gr, gra⟩ := sr8.grow (o' := .lst (acc ++ [y])) hd7.o hd7.w hd7.h
                    cases eq : lcL m st test f vs ds (wipeR ρ5 vs) with
                    | bad => rw [eq] at hL; cases hL
                    | exc c fs ρ' => rw [eq] at hL; cases hL
                    | ok qq =>
                      obtain ⟨es2, ρe2⟩ := qq
                      rw [eq] at hL
                      have hL : Rs.ok (r.frz :: es2, ρe2) = Rs.ok (es, ρe) := hL
                      injection hL with hL
                      injection hL with e1 e2
                      subst e1 e2
                      refine ⟨O7, W7, _, ds, acc ++ [y], ads ++ [r.frz], es2, rfl, hln, hdr, ?_, ⟨hd7.o, hd7.w, upd_same⟩, by rw [List.length_append]; simp only [List.length_cons, List.length_nil]; omega, (gra ra7).snoc (gr rp7), sr9, hkp6, eq, by rw [List.append_assoc]; exact hall⟩
                      have nop : ∀ b, H1 b ≠ none → b ≠ p := fun b hb z => hb (z ▸ np)
                      exact ⟨fun b o eo hb => by rw [upd_ne (nop b (by rw [eo]; simp))]; exact st17.keep b o eo hb, st17.wnew, st17.onew, fun b hb => by rw [upd_ne (nop b hb)]; exact st17.trk b hb, st17.ofz⟩
                  · cases hL
    · exact hw.elim
variable {elt tg iter : Expr} {ifs : List Expr} {scope : Scope} {own : List (Str × Nat)} {pos : Pos} {src : Src} {st : Tg} {is : List Nat} {test : Sb} {f : Sx}
theorem ej_lc (hc : X.calm = true) (hN : X.N.Nodup) (hi : IJ X cl vs0 Wx tg iter src) (ok : BlkOk X.N X.env.scope scope own)
    (hg : ∀ (s : Shared) (H : Hp) (C : Addr) (cs : List (Str × Addr)) (fp : List Addr), GJ (X.blk s H scope (compEnvC scope cs C X.env) fp) cl vs0 tg st is)
    (ht : ∀ (s : Shared) (H : Hp) (C : Addr) (cs : List (Str × Addr)) (fp : List Addr), FJ (X.blk s H scope (compEnvC scope cs C X.env) fp) cl vs0 WX0 ifs test)
    (he : ∀ (s : Shared) (H : Hp) (C : Addr) (cs : List (Str × Addr)) (fp : List Addr), EJ (X.blk s H scope (compEnvC scope cs C X.env) fp) cl vs0 WX0 elt f) (his : ∀ i ∈ is, i ∈ own.map (·.2)) :
    EJ X cl vs0 Wx (.ListComp elt [⟨tg, iter, ifs, 0⟩] scope pos) (xLc src st test f (own.map (·.2))) := by
  obtain ⟨wi, p1, hs, q1⟩ := hi.ex
  let Xs : Shared × Hp × Addr × List (Str × Addr) × List Addr → Cx := fun c => X.blk c.1 c.2.1 scope (compEnvC scope c.2.2.2.1 c.2.2.1 X.env) c.2.2.2.2
  obtain ⟨g, p2, q2⟩ := gj_all (Xs := Xs) (K := X.K) (fun _ => rfl) fun c => hg c.1 c.2.1 c.2.2.1 c.2.2.2.1 c.2.2.2.2
  obtain ⟨tt, p3, q3⟩ := fj_all (Xs := Xs) (K := X.K) (fun _ => rfl) fun c => ht c.1 c.2.1 c.2.2.1 c.2.2.2.1 c.2.2.2.2
  obtain ⟨te, p4, q4⟩ := ej_all (Xs := Xs) (K := X.K) (fun _ => rfl) fun c => he c.1 c.2.1 c.2.2.1 c.2.2.2.1 c.2.2.2.2
  exact ⟨⟨_, pe_lc hc hN p1 ok (fun s H C cs fp => p2 (s, H, C, cs, fp)) (fun s H C cs fp => p3 (s, H, C, cs, fp)) (fun s H C cs fp => p4 (s, H, C, cs, fp)) hs, lc_sound his q1 q2 q3 q4⟩⟩
/-- y = [..] -/
theorem sj_setLc {i : Nat} {y : Str} {py spos : Pos} (hc : X.calm = true) (hN : X.N.Nodup) (hy : X.N[i]? = some y) (hyl : X.env.scope.names.lookup y = some .local)
    (hsw : swapsWith (.ListComp elt [⟨tg, iter, ifs, 0⟩] scope pos) (some (.Name y py)) spos.line X.env = pure true) (hi : IJ X cl vs0 Wx tg iter src) (ok : BlkOk X.N X.env.scope scope own)
    (hg : ∀ (s : Shared) (H : Hp) (C : Addr) (cs : List (Str × Addr)) (fp : List Addr), GJ (X.blk s H scope (compEnvC scope cs C X.env) fp) cl vs0 tg st is)
    (ht : ∀ (s : Shared) (H : Hp) (C : Addr) (cs : List (Str × Addr)) (fp : List Addr), FJ (X.blk s H scope (compEnvC scope cs C X.env) fp) cl vs0 WX0 ifs test)
    (he : ∀ (s : Shared) (H : Hp) (C : Addr) (cs : List (Str × Addr)) (fp : List Addr), EJ (X.blk s H scope (compEnvC scope cs C X.env) fp) cl vs0 WX0 elt f) (his : ∀ i ∈ is, i ∈ own.map (·.2)) :
    SJ X cl vs0 Wx (.Assign [.Name y py] (.ListComp elt [⟨tg, iter, ifs, 0⟩] scope pos) spos) (sSet i (xLc src st test f (own.map (·.2)))) := by
  obtain ⟨wi, p1, hs, q1⟩ := hi.ex
  let Xs : Shared × Hp × Addr × List (Str × Addr) × List Addr → Cx := fun c => X.blk c.1 c.2.1 scope (compEnvC scope c.2.2.2.1 c.2.2.1 X.env) c.2.2.2.2
  obtain ⟨g, p2, q2⟩ := gj_all (Xs := Xs) (K := X.K) (fun _ => rfl) fun c => hg c.1 c.2.1 c.2.2.1 c.2.2.2.1 c.2.2.2.2
  obtain ⟨tt, p3, q3⟩ := fj_all (Xs := Xs) (K := X.K) (fun _ => rfl) fun c => ht c.1 c.2.1 c.2.2.1 c.2.2.2.1 c.2.2.2.2
  obtain ⟨te, p4, q4⟩ := ej_all (Xs := Xs) (K := X.K) (fun _ => rfl) fun c => he c.1 c.2.1 c.2.2.1 c.2.2.2.1 c.2.2.2.2
  exact ⟨⟨_, ps_setLc hc hN hy hyl hsw p1 ok (fun s H C cs fp => p2 (s, H, C, cs, fp)) (fun s H C cs fp => p3 (s, H, C, cs, fp)) (fun s H C cs fp => p4 (s, H, C, cs, fp)) hs,
    fun O W σ H ρ E sr hw => lc_sound his q1 q2 q3 q4 O W σ H ρ _ sr (e_core sr.wf hw fun v s ρ' O' W' H' sr' rr hk => hk _ O' W' H' Stp.refl (sr'.put rr))⟩⟩
end
end Wm
end

section
/-! Defs and their calls. -/
namespace Wm
open PySem PySem.Spec PyProof.Rows L2
/-- what a def computes: of its arguments (data, or lists that it may write) a result, and how it leaves them -/
abbrev Fn := List SD → Rs (SD × List SD)
/-- the wish of a def's exceptions -/
abbrev wxE (E : XK) : WX := fun c d _ H => E c d H
def spF (G : Gx) (n : Nat) (F : Fn) : Sp := fun vs H Q E => vs.length = n ∧ ∃ O W as, SR G vs O W (vs.map some) H as ∧ AftE G vs (wxE E) O W (vs.map some) H Q (F as)
def trim1 : SD → SD
  | .byr xs => .byr xs
  | _ => .no
def trim (n : Nat) (ρ : List SD) : List SD := (List.range n).map fun i => trim1 (ρ[i]?.getD .no)
def bodyF (N : Nat) (g : Ss) : Fn := fun as => match g (as ++ List.replicate (N - as.length) .no) with
  | .ok (.rt r ρ') => .ok (r, trim as.length ρ')
  | .ok (.nx ρ') => .ok (.sh .non, trim as.length ρ')
  | .exc c fs ρ' => .exc c fs (trim as.length ρ')
  | _ => .bad
section
variable {G : Gx} {O W O' W' : List Addr} {σ : L2.St} {H H' : Hp} {ρ : List SD} {vs : List V} {as : List SD}
theorem trim_get {n i : Nat} {s : SD} (h : (trim n ρ)[i]? = some s) : i < n ∧ (s = .no ∨ ∃ xs, ρ[i]? = some (.byr xs) ∧ s = .byr xs) := by
  unfold trim at h
  rw [List.getElem?_map] at h
  obtain ⟨k, h1, h2⟩ := Option.map_eq_some_iff.mp h
  obtain ⟨hl, e⟩ := List.getElem?_eq_some_iff.mp h1
  rw [List.getElem_range] at e
  subst e
  refine ⟨by simpa using hl, ?_⟩
  cases q : ρ[i]? with
  | none => rw [q] at h2; exact .inl h2.symm
  | some s0 =>
    rw [q] at h2
    cases s0 with
    | byr xs => exact .inr ⟨xs, rfl, h2.symm⟩
    | no => exact .inl h2.symm
    | sh d => exact .inl h2.symm
    | own xs => exact .inl h2.symm
theorem SR.enter {N : List Str} (r : SR G vs O W (vs.map some) H as) (hN : vs.length ≤ N.length) : SR G vs O W (L2.start N vs) H (as ++ List.replicate (N.length - as.length) .no) := by
  have hl : vs.length = as.length := by have := r.len; rw [List.length_map] at this; exact this
  have gs : ∀ {i : Nat} {s : SD}, (as ++ List.replicate (N.length - as.length) .no)[i]? = some s → (i < as.length ∧ as[i]? = some s) ∨ s = .no := fun {i s} e => by
    by_cases h : i < as.length
    · rw [List.getElem?_append_left h] at e; exact .inl ⟨h, e⟩
    · rw [List.getElem?_append_right (by omega), List.getElem?_replicate] at e
      split at e
      · cases e; exact .inr rfl
      · cases e
  have sg : ∀ {i : Nat}, i < as.length → (L2.start N vs)[i]? = (vs.map some)[i]? := fun {i} h => by
    unfold L2.start
    exact List.getElem?_append_left (by rw [List.length_map]; omega)
  refine ⟨r.wf, ?_, fun i s e => ?_, fun i j s t a e1 e2 m1 m2 s1 s2 => ?_⟩
  · unfold L2.start
    rw [List.length_append, List.length_map, List.length_replicate, List.length_append, List.length_replicate, hl]
  · rcases gs e with ⟨h, e⟩ | e
    · rw [sg h]; exact r.slot i s e
    · subst e; trivial
  · rcases gs e1 with ⟨h1, e1⟩ | e1
    · rcases gs e2 with ⟨h2, e2⟩ | e2
      · rw [sg h1] at s1
        rw [sg h2] at s2
        exact r.apart i j s t a e1 e2 m1 m2 s1 s2
      · subst e2; cases m2
    · subst e1; cases m1
theorem SR.leave {n : Nat} (r : SR G vs O W σ H ρ) (hn : n = vs.length) : SR G vs O W (vs.map some) H (trim n ρ) := by
  have key : ∀ {i : Nat} {s0 : SD} {xs : List D}, ρ[i]? = some s0 → s0 = .byr xs → ∃ a, vs[i]? = some (.ref a) ∧ σ[i]? = some (some (.ref a)) ∧ OwnAt G O W H a xs := fun {i s0 xs} e h => by
    subst h
    obtain ⟨a, h1, h2, h3⟩ := r.slot i _ e
    exact ⟨a, h2, join_some h1, h3⟩
  have mi : ∀ {i : Nat} {s : SD}, (trim n ρ)[i]? = some s → s.mine = true → ∃ xs, ρ[i]? = some (.byr xs) ∧ s = .byr xs := fun {i s} e m => by
    rcases (trim_get e).2 with z | z
    · subst z; cases m
    · exact z
  refine ⟨r.wf, ?_, fun i s e => ?_, fun i j s t a e1 e2 m1 m2 s1 s2 => ?_⟩
  · unfold trim
    rw [List.length_map, List.length_map, List.length_range, hn]
  · rcases (trim_get e).2 with z | ⟨xs, h1, z⟩
    · subst z; trivial
    · subst z
      obtain ⟨a, h3, h4, h5⟩ := key h1 rfl
      refine ⟨a, ?_, h3, h5⟩
      rw [List.getElem?_map, h3]; rfl
  · obtain ⟨xs, h1, rfl⟩ := mi e1 m1
    obtain ⟨ys, h2, rfl⟩ := mi e2 m2
    obtain ⟨b, h3, h4, _⟩ := key h1 rfl
    obtain ⟨c, h5, h6, _⟩ := key h2 rfl
    rw [List.getElem?_map, h3] at s1
    rw [List.getElem?_map, h5] at s2
    cases s1
    cases s2
    exact r.apart i j _ _ a h1 h2 rfl rfl h4 h6
theorem ResR.leave {n : Nat} {v : V} {s : SD} (r : SR G vs O W σ H ρ) (h : ResR G O W σ H ρ v s) : ResR G O W (vs.map some) H (trim n ρ) v s := by
  cases s with
  | no => exact h
  | byr xs => exact h
  | sh d => exact h
  | own xs =>
    obtain ⟨a, e, o, hn⟩ := h
    refine ⟨a, e, o, fun i s es ms z => ?_⟩
    rcases (trim_get es).2 with y | ⟨ys, h1, y⟩
    · subst y; cases ms
    · obtain ⟨b, q1, q2, _⟩ := r.slot i _ h1
      rw [List.getElem?_map, q2] at z
      cases z
      exact hn i _ h1 rfl (join_some q1)
end
section
variable {P : Program} {w : World} {K : PySem.W.Frag} {mg : Str → Option Value} {base : Heap}
/-- a def by its body -/
theorem fn_sound {qual : Str} {scope : Scope} {f : Addr} {cdv : Value} {A : Around} {outer : List Env} {s : Shared} {H : Hp} {N ps : List Str} {cl : Str → Addr} {body : List Stmt} {g : Ss} {vs : List V} {Q : VK} {E : XK} (S : FnScope N ps scope) (hlen : vs.length = ps.length)
    (hb : BJ (cxOf (L2.CX P w) P w K mg base N qual scope f cdv A outer s H E) cl vs (wxE E) body g) (h : spF ⟨K, cl⟩ ps.length (bodyF N.length g) vs H Q E) :
    ∃ t, PSs (cxOf (L2.CX P w) P w K mg base N qual scope f cdv A outer s H E) body t ∧ t { nx := fun _ H' => Q .non H', rt := Q } (L2.start N vs) H := by
  obtain ⟨t, p, q⟩ := hb.ex
  obtain ⟨_, O, W, as, sr, hw⟩ := h
  have hl : vs.length = as.length := by have := sr.len; rw [List.length_map] at this; exact this
  have hpl : ps.length ≤ N.length := by have := congrArg List.length S.pre; rw [List.length_take] at this; omega
  refine ⟨t, p, q O W (L2.start N vs) H _ _ (sr.enter (by omega)) ?_⟩
  unfold bodyF at hw
  cases e : g (as ++ List.replicate (N.length - as.length) .no) with
  | bad => rw [e] at hw; exact hw
  | exc c fs ρ' =>
    rw [e] at hw
    exact fun σ' p gs O' W' H' st sr' hp hf => hw p gs O' W' H' st (sr'.leave hl.symm) hp hf
  | ok fl =>
    rw [e] at hw
    cases fl with
    | nx ρ' =>
      exact fun σ' O' W' H' st sr' => hw .non O' W' H' st (sr'.leave hl.symm) (show Rp ⟨K, cl⟩ O' H' .non .non by simp only [Rp])
    | rt r ρ' =>
      exact fun v σ' O' W' H' st sr' rr => hw v O' W' H' st (sr'.leave hl.symm) (rr.leave sr')
    | bk ρ' => exact hw.elim
    | ct ρ' => exact hw.elim
theorem fn_ok {x qual : Str} {st : Stmt} {f : Addr} {fd : FuncData} {N ps : List Str} {k : Nat} {cl : Str → Addr} {g : Ss} (F : Fun K x qual st f fd) (S : FnScope N ps (defScope st))
    (hb : ∀ (cdv : Value) (A : Around) (outer : List Env) (s : Shared) (H : Hp) (vs : List V) (E : XK), Room k (A.deeper (envOfC qual (defScope st) s.heap.objs.size f cdv)) →
      BJ (cxOf (L2.CX P w) P w K mg base N qual (defScope st) f cdv A outer s H E) cl vs (wxE E) (defBody st) g) : FnOk P w K mg base (L2.CX P w) (k + 1) f fd ps (spF ⟨K, cl⟩ ps.length (bodyF N.length g)) :=
  F.okX S (fun vs H Q E h => h.1) fun cdv A outer s H vs Q E hr h => fn_sound S h.1 (hb cdv A outer s H vs E hr) h
end

/-! ### calls -/
/-- the arguments of a call: a name hands on what it holds, a list of one's own to be written; anything else is data -/
def passSD : SD → SD
  | .own xs => .byr xs
  | s => s
def argOf (ρ : List SD) (i : Nat) : Rs SD := match ρ[i]? with
  | some (.sh d) => .ok (.sh d)
  | some (.own xs) => .ok (.byr xs)
  | some (.byr xs) => .ok (.byr xs)
  | _ => .bad
/-- arguments, and the slots that they were read from -/
def cargs : List LOp → List SD → Rs (List (SD × Option Nat) × List SD)
  | [], ρ => .ok ([], ρ)
  | .va i :: r, ρ => (argOf ρ i).bind fun _ => (cargs r ρ).bind fun p => (argOf p.2 i).bind fun s => .ok ((s, some i) :: p.1, p.2)
  | .ex f :: r, ρ => (f ρ).bind fun p => (cargs r p.2).bind fun q => .ok ((.sh p.1.frz, none) :: q.1, q.2)
/-- the slots whose lists are handed on -/
def lent : List (SD × Option Nat) → List Nat
  | [] => []
  | (.byr _, some i) :: r => i :: lent r
  | _ :: r => lent r
/-- a slot behind a call -/
def backS : SD → SD → SD
  | .own _, .byr xs => .own xs
  | .byr _, .byr xs => .byr xs
  | .sh d, _ => .sh d
  | _, _ => .no
def backAll : List (SD × Option Nat) → List SD → List SD → List SD
  | (.byr _, some i) :: r, s :: ss, ρ => (backAll r ss ρ).set i (backS (ρ[i]?.getD .no) s)
  | _ :: r, _ :: ss, ρ => backAll r ss ρ
  | _, _, ρ => ρ
def xCall (F : Fn) (fl : List LOp) : Sx := fun ρ => (cargs fl ρ).bind fun p => if (lent p.1).Nodup then
    match F (p.1.map (·.1)) with
    | .ok (r, as') => .ok (r, backAll p.1 as' p.2)
    | .exc c fs as' => .exc c fs (backAll p.1 as' p.2)
    | .bad => .bad
  else .bad
end Wm
end

section
/-! Calls of defs. -/
namespace Wm
open PySem PySem.Spec PyProof.Rows L2
def CR1 (G : Gx) (O W : List Addr) (σ : L2.St) (H : Hp) (ρ : List SD) : SD × Option Nat → V → Prop
  | (.sh d, _), v => Rp G O H d v
  | (.byr xs, some i), v => ∃ a, v = .ref a ∧ σ[i]? = some (some (.ref a)) ∧ OwnAt G O W H a xs ∧ (ρ[i]? = some (.own xs) ∨ ρ[i]? = some (.byr xs))
  | _, _ => False
def CRs (G : Gx) (O W : List Addr) (σ : L2.St) (H : Hp) (ρ : List SD) : List (SD × Option Nat) → List V → Prop
  | [], vs => vs = []
  | p :: ps, vs => ∃ v r, vs = v :: r ∧ CR1 G O W σ H ρ p v ∧ CRs G O W σ H ρ ps r
def AftK (G : Gx) (vs0 : List V) (Wx : WX) (O W : List Addr) (σ : L2.St) (H : Hp) (Q : List V → Hp → Prop) : Rs (List (SD × Option Nat) × List SD) → Prop
  | .ok (ps, ρ') => ∀ vs O' W' H', Stp O W H O' W' H' → SR G vs0 O' W' σ H' ρ' → CRs G O' W' σ H' ρ' ps vs → Q vs H'
  | .exc c fs ρ' => ExcA G vs0 Wx O W σ H c fs ρ'
  | .bad => False
structure KJ (X : Cx) (cl : Str → Addr) (vs0 : List V) (Wx : WX) (es : List Expr) (fl : List LOp) : Prop where
  ex : ∃ t, PA X es t ∧ ∀ O W σ H ρ R, SR (gx X cl) vs0 O W σ H ρ → AftK (gx X cl) vs0 Wx O W σ H R (cargs fl ρ) → t σ H R
section
variable {X : Cx} {cl : Str → Addr} {vs0 : List V} {Wx : WX}
theorem argOf_noexc {ρ : List SD} {i : Nat} {c : Str} {fs : List (Str × D)} {ρ' : List SD} : argOf ρ i ≠ .exc c fs ρ' := by
  unfold argOf
  split <;> exact fun z => nomatch z
theorem argOf_sr {G : Gx} {O W : List Addr} {σ : L2.St} {H : Hp} {ρ : List SD} {i : Nat} {s : SD} (sr : SR G vs0 O W σ H ρ) (h : argOf ρ i = .ok s) : ∃ v, σ[i]? = some (some v) ∧ CR1 G O W σ H ρ (s, some i) v := by
  unfold argOf at h
  split at h
  · rename_i d e
    cases h
    obtain ⟨v, e1, r⟩ := sr.get e
    exact ⟨v, e1, r⟩
  · rename_i xs e
    cases h
    obtain ⟨a, e1, o⟩ := sr.getOwn e (.inl rfl)
    exact ⟨_, e1, a, rfl, e1, o, .inl e⟩
  · rename_i xs e
    cases h
    obtain ⟨a, e1, o⟩ := sr.getOwn e (.inr rfl)
    exact ⟨_, e1, a, rfl, e1, o, .inr e⟩
  · cases h
theorem kj_nil : KJ X cl vs0 Wx [] [] := ⟨⟨_, pa_nil, fun O W σ H ρ R sr h => h [] O W H Stp.refl sr rfl⟩⟩
theorem kj_cons {e : Expr} {es : List Expr} {o : LOp} {fl : List LOp} (h : LJ X cl vs0 Wx e o) (hr : KJ X cl vs0 Wx es fl) (hs : starEach (e :: es) X.env = (false, eval e X.env) :: starEach es X.env := by rfl) : KJ X cl vs0 Wx (e :: es) (o :: fl) := by
  obtain ⟨ta, p2, p3⟩ := hr.ex
  cases o with
  | va i =>
    refine ⟨⟨_, pa_cons h p2 hs, fun O W σ H ρ R sr hw => ?_⟩⟩
    have hw' : AftK (gx X cl) vs0 Wx O W σ H R ((argOf ρ i).bind fun _ => (cargs fl ρ).bind fun p => (argOf p.2 i).bind fun s => .ok ((s, some i) :: p.1, p.2)) := hw
    cases e0 : argOf ρ i with
    | bad => rw [e0] at hw'; exact hw'.elim
    | exc c fs ρ' => exact absurd e0 argOf_noexc
    | ok d0 =>
      rw [e0] at hw'
      obtain ⟨v, ev, _⟩ := argOf_sr sr e0
      refine ⟨v, ev, p3 O W σ H ρ _ sr ?_⟩
      have hw2 : AftK (gx X cl) vs0 Wx O W σ H R ((cargs fl ρ).bind fun p => (argOf p.2 i).bind fun s => .ok ((s, some i) :: p.1, p.2)) := hw'
      cases e1 : cargs fl ρ with
      | bad => rw [e1] at hw2; exact hw2
      | exc c fs ρ' => rw [e1] at hw2; exact hw2
      | ok p =>
        obtain ⟨ps, ρ1⟩ := p
        rw [e1] at hw2
        have hw3 : AftK (gx X cl) vs0 Wx O W σ H R ((argOf ρ1 i).bind fun s => .ok ((s, some i) :: ps, ρ1)) := hw2
        intro vs O' W' H' st sr' ho
        cases e2 : argOf ρ1 i with
        | bad => rw [e2] at hw3; exact hw3.elim
        | exc c fs ρ' => exact absurd e2 argOf_noexc
        | ok d =>
          rw [e2] at hw3
          obtain ⟨v', ev', r'⟩ := argOf_sr sr' e2
          rw [ev] at ev'; cases ev'
          exact hw3 (v :: vs) O' W' H' st sr' ⟨v, vs, rfl, r', ho⟩
  | ex f =>
    obtain ⟨t, q1, q2⟩ := h.ex
    refine ⟨⟨_, pa_cons q1 p2 hs, fun O W σ H ρ R sr hw => ?_⟩⟩
    have hw' : AftK (gx X cl) vs0 Wx O W σ H R ((f ρ).bind fun p => (cargs fl p.2).bind fun q => .ok ((.sh p.1.frz, none) :: q.1, q.2)) := hw
    refine q2 O W σ H ρ _ sr ?_
    cases e0 : f ρ with
    | bad => rw [e0] at hw'; exact hw'
    | exc c fs ρ' => rw [e0] at hw'; exact hw'
    | ok p =>
      obtain ⟨r, ρ1⟩ := p
      rw [e0] at hw'
      have hw2 : AftK (gx X cl) vs0 Wx O W σ H R ((cargs fl ρ1).bind fun q => .ok ((.sh r.frz, none) :: q.1, q.2)) := hw'
      intro v O1 W1 H1 st1 sr1 rr
      obtain ⟨O2, W2, st2, sr2, rp⟩ := rr.frz sr1
      have st12 := st1.trans sr.wf st2
      refine p3 O2 W2 σ H1 ρ1 _ sr2 ?_
      cases e1 : cargs fl ρ1 with
      | bad => rw [e1] at hw2; exact hw2
      | exc c fs ρ' => rw [e1] at hw2; exact ExcA.back sr.wf st12 hw2
      | ok q =>
        obtain ⟨ps, ρ2⟩ := q
        rw [e1] at hw2
        intro vs O' W' H' st sr' ho
        exact hw2 (v :: vs) O' W' H' (st12.trans sr.wf st) sr' ⟨v, vs, rfl, rp.step sr2.wf st, ho⟩

/-! ### into the callee's world and back -/
def wcs : List (SD × Option Nat) → List V → List Addr
  | (.byr _, some _) :: r, .ref a :: vr => a :: wcs r vr
  | _ :: r, _ :: vr => wcs r vr
  | _, _ => []
variable {G : Gx} {O W O' W' : List Addr} {σ : L2.St} {H H' : Hp} {ρ : List SD}
theorem CRs.len : ∀ {ps : List (SD × Option Nat)} {vs : List V}, CRs G O W σ H ρ ps vs → ps.length = vs.length
  | [], vs, h => by have h : vs = [] := h; rw [h]; rfl
  | p :: ps, vs, h => by
    obtain ⟨v, r, e, _, h2⟩ := h
    rw [e, List.length_cons, List.length_cons, CRs.len h2]
theorem CRs.get : ∀ {ps : List (SD × Option Nat)} {vs : List V} {j : Nat} {p : SD × Option Nat}, CRs G O W σ H ρ ps vs → ps[j]? = some p → ∃ v, vs[j]? = some v ∧ CR1 G O W σ H ρ p v
  | [], vs, j, p, h, e => by cases j <;> cases e
  | q :: ps, vs, j, p, h, e => by
    obtain ⟨v, r, ev, h1, h2⟩ := h
    subst ev
    cases j with
    | zero => cases e; exact ⟨v, rfl, h1⟩
    | succ j => exact CRs.get (j := j) h2 e
theorem mem_wcs : ∀ {ps : List (SD × Option Nat)} {vs : List V} {a : Addr}, CRs G O W σ H ρ ps vs → (a ∈ wcs ps vs ↔ ∃ (j : Nat) (xs : List D) (i : Nat), ps[j]? = some (SD.byr xs, some i) ∧ vs[j]? = some (V.ref a))
  | [], vs, a, h => by
    have h : vs = [] := h
    subst h
    constructor
    · intro z; cases z
    · rintro ⟨j, xs, i, h1, _⟩; cases j <;> cases h1
  | p :: ps, vs, a, h => by
    obtain ⟨v, r, ev, h1, h2⟩ := h
    subst ev
    have ih := mem_wcs (a := a) h2
    have shift : (∃ (j : Nat) (xs : List D) (i : Nat), ps[j]? = some (SD.byr xs, some i) ∧ r[j]? = some (V.ref a)) → ∃ (j : Nat) (xs : List D) (i : Nat), (p :: ps)[j]? = some (SD.byr xs, some i) ∧ (v :: r)[j]? = some (V.ref a) := fun ⟨j, xs, i, z1, z2⟩ => ⟨j + 1, xs, i, z1, z2⟩
    obtain ⟨s, o⟩ := p
    have plain : wcs ((s, o) :: ps) (v :: r) = wcs ps r → (∀ xs i, (s, o) ≠ (SD.byr xs, some i)) → (a ∈ wcs ((s, o) :: ps) (v :: r) ↔ ∃ (j : Nat) (xs : List D) (i : Nat), ((s, o) :: ps)[j]? = some (SD.byr xs, some i) ∧ (v :: r)[j]? = some (V.ref a)) := fun e hn => by
      rw [e, ih]
      refine ⟨shift, ?_⟩
      rintro ⟨j, xs, i, z1, z2⟩
      cases j with
      | zero => exact absurd (Option.some.inj z1) (hn xs i)
      | succ j => exact ⟨j, xs, i, z1, z2⟩
    cases s with
    | sh d => exact plain rfl fun xs i z => by cases z
    | no => exact h1.elim
    | own xs => exact h1.elim
    | byr xs =>
      cases o with
      | none => exact h1.elim
      | some i =>
        obtain ⟨b, eb, h3, h4, h5⟩ := h1
        subst eb
        show a ∈ b :: wcs ps r ↔ _
        rw [List.mem_cons, ih]
        constructor
        · rintro (z | z)
          · exact ⟨0, xs, i, rfl, by rw [z]; rfl⟩
          · exact shift z
        · rintro ⟨j, ys, i', z1, z2⟩
          cases j with
          | zero =>
            left
            have z2 : some (V.ref b) = some (V.ref a) := z2
            cases z2; rfl
          | succ j => exact .inr ⟨j, ys, i', z1, z2⟩
theorem mem_lent : ∀ {ps : List (SD × Option Nat)} {i : Nat}, i ∈ lent ps ↔ ∃ (j : Nat) (xs : List D), ps[j]? = some (.byr xs, some i)
  | [], i => by
    constructor
    · intro z; cases z
    · rintro ⟨j, xs, h1⟩; cases j <;> cases h1
  | (s, o) :: ps, i => by
    have ih := mem_lent (ps := ps) (i := i)
    have plain : lent ((s, o) :: ps) = lent ps → (∀ xs i, (s, o) ≠ (SD.byr xs, some i)) → (i ∈ lent ((s, o) :: ps) ↔ ∃ (j : Nat) (xs : List D), ((s, o) :: ps)[j]? = some (.byr xs, some i)) := fun e hn => by
      rw [e, ih]
      constructor
      · rintro ⟨j, xs, z⟩; exact ⟨j + 1, xs, z⟩
      · rintro ⟨j, xs, z1⟩
        cases j with
        | zero => exact absurd (Option.some.inj z1) (hn xs i)
        | succ j => exact ⟨j, xs, z1⟩
    cases s with
    | sh d => exact plain rfl fun xs i z => by cases z
    | no => exact plain rfl fun xs i z => by cases z
    | own xs => exact plain rfl fun xs i z => by cases z
    | byr xs =>
      cases o with
      | none => exact plain rfl fun xs i z => by cases z
      | some k =>
        show i ∈ k :: lent ps ↔ _
        rw [List.mem_cons, ih]
        constructor
        · rintro (z | ⟨j, ys, z⟩)
          · exact ⟨0, xs, by rw [z]; rfl⟩
          · exact ⟨j + 1, ys, z⟩
        · rintro ⟨j, ys, z1⟩
          cases j with
          | zero =>
            left
            have z1 : some (SD.byr xs, some k) = some (SD.byr ys, some i) := z1
            cases z1; rfl
          | succ j => exact .inr ⟨j, ys, z1⟩
theorem lent_inj : ∀ {ps : List (SD × Option Nat)} {i j k : Nat} {xs ys : List D}, (lent ps).Nodup → ps[j]? = some (.byr xs, some i) → ps[k]? = some (.byr ys, some i) → j = k
  | [], i, j, k, xs, ys, _, h, _ => by cases j <;> cases h
  | (s, o) :: ps, i, j, k, xs, ys, nd, h1, h2 => by
    have sub : (lent ps).Nodup := by
      cases s <;> cases o <;> first
        | exact nd
        | exact (List.nodup_cons.mp nd).2
    cases j with
    | zero =>
      cases k with
      | zero => rfl
      | succ k =>
        have h1 : some (s, o) = some (SD.byr xs, some i) := h1
        cases h1
        exact absurd (mem_lent.mpr ⟨k, ys, h2⟩) (List.nodup_cons.mp nd).1
    | succ j =>
      cases k with
      | zero =>
        have h2 : some (s, o) = some (SD.byr ys, some i) := h2
        cases h2
        exact absurd (mem_lent.mpr ⟨j, xs, h1⟩) (List.nodup_cons.mp nd).1
      | succ k => exact congrArg (· + 1) (lent_inj (j := j) (k := k) sub h1 h2)
theorem back_out : ∀ {ps : List (SD × Option Nat)} {as : List SD} {i : Nat}, i ∉ lent ps → (backAll ps as ρ)[i]? = ρ[i]?
  | [], as, i, _ => by cases as <;> rfl
  | (s, o) :: ps, [], i, _ => by cases s <;> cases o <;> rfl
  | (s, o) :: ps, a :: as, i, h => by
    have plain : backAll ((s, o) :: ps) (a :: as) ρ = backAll ps as ρ → lent ((s, o) :: ps) = lent ps → (backAll ((s, o) :: ps) (a :: as) ρ)[i]? = ρ[i]? := fun e1 e2 => by
      rw [e1]; rw [e2] at h; exact back_out h
    cases s with
    | sh d => exact plain rfl rfl
    | no => exact plain rfl rfl
    | own xs => exact plain rfl rfl
    | byr xs =>
      cases o with
      | none => exact plain rfl rfl
      | some k =>
        have h : i ∉ k :: lent ps := h
        rw [List.mem_cons, not_or] at h
        show ((backAll ps as ρ).set k _)[i]? = _
        rw [List.getElem?_set_ne (Ne.symm h.1)]
        exact back_out h.2
theorem back_len : ∀ {ps : List (SD × Option Nat)} {as : List SD}, (backAll ps as ρ).length = ρ.length
  | [], as => by cases as <;> rfl
  | (s, o) :: ps, [] => by cases s <;> cases o <;> rfl
  | (s, o) :: ps, a :: as => by
    cases s <;> cases o <;> first
      | exact back_len (ps := ps) (as := as)
      | (show ((backAll ps as ρ).set _ _).length = _
         rw [List.length_set]; exact back_len (ps := ps) (as := as))
theorem back_in : ∀ {ps : List (SD × Option Nat)} {as : List SD} {i j : Nat} {xs : List D} {s : SD}, (lent ps).Nodup → ps[j]? = some (.byr xs, some i) → as[j]? = some s → i < ρ.length → (backAll ps as ρ)[i]? = some (backS (ρ[i]?.getD .no) s)
  | [], as, i, j, xs, s, _, h, _, _ => by cases j <;> cases h
  | (t, o) :: ps, [], i, j, xs, s, _, _, h, _ => by cases j <;> cases h
  | (t, o) :: ps, a :: as, i, j, xs, s, nd, h1, h2, hl => by
    cases j with
    | zero =>
      have h1 : some (t, o) = some (SD.byr xs, some i) := h1
      have h2 : some a = some s := h2
      cases h1
      cases h2
      show ((backAll ps as ρ).set i _)[i]? = _
      rw [List.getElem?_set_self (by rw [back_len]; exact hl)]
    | succ j =>
      have plain : backAll ((t, o) :: ps) (a :: as) ρ = backAll ps as ρ → lent ((t, o) :: ps) = lent ps → (backAll ((t, o) :: ps) (a :: as) ρ)[i]? = some (backS (ρ[i]?.getD .no) s) := fun e1 e2 => by
        rw [e1]; rw [e2] at nd; exact back_in (j := j) nd h1 h2 hl
      cases t with
      | sh d => exact plain rfl rfl
      | no => exact plain rfl rfl
      | own xs => exact plain rfl rfl
      | byr ys =>
        cases o with
        | none => exact plain rfl rfl
        | some k =>
          have nd : (k :: lent ps).Nodup := nd
          have hk : i ≠ k := fun z => (List.nodup_cons.mp nd).1 (mem_lent.mpr ⟨j, xs, z ▸ h1⟩)
          show ((backAll ps as ρ).set k _)[i]? = _
          rw [List.getElem?_set_ne (Ne.symm hk)]
          exact back_in (j := j) (List.nodup_cons.mp nd).2 h1 h2 hl
end
end Wm
end

section
namespace Wm
open PySem PySem.Spec PyProof.Rows L2
section
variable {X : Cx} {cl : Str → Addr} {vs0 : List V} {Wx : WX}
variable {G : Gx} {O W O' W' : List Addr} {σ : L2.St} {H H' : Hp} {ρ : List SD} {ps : List (SD × Option Nat)} {vs : List V} {as : List SD}
theorem call_enter (sr : SR G vs0 O W σ H ρ) (hc : CRs G O W σ H ρ ps vs) (nd : (lent ps).Nodup) : SR G vs O (wcs ps vs) (vs.map some) H (ps.map (·.1)) := by
  have pg : ∀ {i : Nat} {s : SD}, (ps.map (·.1))[i]? = some s → ∃ o, ps[i]? = some (s, o) := fun {i s} e => by
    rw [List.getElem?_map] at e
    obtain ⟨⟨s', o⟩, h1, h2⟩ := Option.map_eq_some_iff.mp e
    have h2 : s' = s := h2
    subst h2
    exact ⟨o, h1⟩
  have mi : ∀ {i : Nat} {s : SD}, (ps.map (·.1))[i]? = some s → s.mine = true → ∃ xs k, ps[i]? = some (SD.byr xs, some k) ∧ s = .byr xs := fun {i s} e m => by
    obtain ⟨o, h1⟩ := pg e
    obtain ⟨v, h2, h3⟩ := hc.get h1
    cases s with
    | byr xs =>
      cases o with
      | none => exact h3.elim
      | some k => exact ⟨xs, k, h1, rfl⟩
    | own xs => exact h3.elim
    | no => cases m
    | sh d => cases m
  refine ⟨⟨fun b hb => ?_, sr.wf.trk⟩, by rw [List.length_map, List.length_map, hc.len], fun i s e => ?_, fun i j s t a e1 e2 m1 m2 s1 s2 => ?_⟩
  · obtain ⟨j, xs, i, h1, h2⟩ := (mem_wcs hc).mp hb
    obtain ⟨v, h3, a, h4, h5, h6, _⟩ := hc.get h1
    rw [h2] at h3; cases h3; cases h4
    exact sr.wf.sub b h6.1
  · obtain ⟨o, h1⟩ := pg e
    obtain ⟨v, h2, h3⟩ := hc.get h1
    have e2 : ((vs.map some)[i]?).join = some v := by rw [List.getElem?_map, h2]; rfl
    rw [e2, h2]
    cases s with
    | sh d => exact ⟨v, rfl, h3⟩
    | byr xs =>
      cases o with
      | none => exact h3.elim
      | some k =>
        obtain ⟨a, h4, h5, ⟨h6, h7⟩, _⟩ := h3
        subst h4
        exact ⟨a, rfl, rfl, (mem_wcs hc).mpr ⟨i, xs, k, h1, h2⟩, h7⟩
    | own xs => exact h3.elim
    | no => trivial
  · obtain ⟨xs, k, h1, rfl⟩ := mi e1 m1
    obtain ⟨ys, l, h2, rfl⟩ := mi e2 m2
    obtain ⟨v, h3, b, h4, h5, _, h6⟩ := hc.get h1
    obtain ⟨u, h7, c, h8, h9, _, h10⟩ := hc.get h2
    subst h4 h8
    rw [List.getElem?_map, h3] at s1
    rw [List.getElem?_map, h7] at s2
    cases s1
    cases s2
    have hkl : k = l := by
      rcases h6 with h6 | h6 <;> rcases h10 with h10 | h10 <;> exact sr.apart k l _ _ a h6 h10 rfl rfl h5 h9
    subst hkl
    exact lent_inj nd h1 h2
theorem back_step (sr : SR G vs0 O W σ H ρ) (hc : CRs G O W σ H ρ ps vs) (nd : (lent ps).Nodup) (st : Stp O (wcs ps vs) H O' W' H') (sr' : SR G vs O' W' (vs.map some) H' as) :
    ∃ W'', Stp O W H O' W'' H' ∧ SR G vs0 O' W'' σ H' (backAll ps as ρ) ∧ ∀ v r, ResR G O' W' (vs.map some) H' as v r → ResR G O' W'' σ H' (backAll ps as ρ) v r := by
  have wc : Wf O (wcs ps vs) H := (call_enter sr hc nd).wf
  have wsub : ∀ b ∈ wcs ps vs, b ∈ W := fun b hb => by
    obtain ⟨j, xs, i, h1, h2⟩ := (mem_wcs hc).mp hb
    obtain ⟨v, h3, a, h4, h5, h6, _⟩ := hc.get h1
    rw [h2] at h3; cases h3; cases h4
    exact h6.1
  have hlen : as.length = ps.length := by
    have := sr'.len
    rw [List.length_map] at this
    rw [← this, hc.len]
  have w2 : ∀ {b : Addr}, b ∈ W' ++ W.filter (fun b => decide (b ∉ wcs ps vs)) ↔ b ∈ W' ∨ (b ∈ W ∧ b ∉ wcs ps vs) := by
    intro b
    rw [List.mem_append, List.mem_filter, decide_eq_true_eq]
  -- a slot of one's own that was not lent keeps its list
  have kept : ∀ {i : Nat} {s : SD} {xs : List D}, ρ[i]? = some s → (s = .own xs ∨ s = .byr xs) → i ∉ lent ps → ∃ a, σ[i]? = some (some (.ref a)) ∧ a ∉ wcs ps vs ∧ OwnAt G O' (W' ++ W.filter (fun b => decide (b ∉ wcs ps vs))) H' a xs := fun {i s xs} e hs hn => by
    obtain ⟨a, ea, h1, us, h2, h3, h4⟩ := sr.getOwn e hs
    have na : a ∉ wcs ps vs := fun z => by
      obtain ⟨j, ys, k, z1, z2⟩ := (mem_wcs hc).mp z
      obtain ⟨v, z3, b, z4, z5, _, z6⟩ := hc.get z1
      rw [z2] at z3; cases z3; cases z4
      have hm : s.mine = true := by rcases hs with rfl | rfl <;> rfl
      have : i = k := by rcases z6 with z6 | z6 <;> exact sr.apart i k s _ a e z6 hm rfl ea z5
      subst this
      exact hn (mem_lent.mpr ⟨j, ys, z1⟩)
    exact ⟨a, ea, na, w2.mpr (.inr ⟨h1, na⟩), us, st.keep a _ h2 na, h3, h4.step wc st⟩
  -- a slot that was lent
  have lentS : ∀ {i : Nat}, i ∈ lent ps → ∃ (j : Nat) (xs : List D) (s : SD) (a : Addr), ps[j]? = some (SD.byr xs, some i) ∧ as[j]? = some s ∧ vs[j]? = some (V.ref a) ∧ σ[i]? = some (some (.ref a)) ∧ (ρ[i]? = some (.own xs) ∨ ρ[i]? = some (.byr xs)) ∧ (backAll ps as ρ)[i]? = some (backS (ρ[i]?.getD .no) s) := fun {i} hi => by
    obtain ⟨j, xs, h1⟩ := mem_lent.mp hi
    obtain ⟨v, h3, a, h4, h5, _, h6⟩ := hc.get h1
    subst h4
    have hj : j < as.length := by rw [hlen]; exact (List.getElem?_eq_some_iff.mp h1).1
    have hil : i < ρ.length := by
      rcases h6 with h6 | h6 <;> exact (List.getElem?_eq_some_iff.mp h6).1
    exact ⟨j, xs, as[j], a, h1, List.getElem?_eq_getElem hj, h3, h5, h6, back_in nd h1 (List.getElem?_eq_getElem hj) hil⟩
  have own' : ∀ {a : Addr} {xs : List D}, OwnAt G O' W' H' a xs → OwnAt G O' (W' ++ W.filter (fun b => decide (b ∉ wcs ps vs))) H' a xs := fun h => ⟨w2.mpr (.inl h.1), h.2⟩
  -- what stands in a slot that is one's own behind the call
  have mine : ∀ {i : Nat} {s : SD}, (backAll ps as ρ)[i]? = some s → s.mine = true → ∃ a, σ[i]? = some (some (.ref a)) ∧ ((a ∉ wcs ps vs ∧ a ∈ W ∧ ∃ s0, ρ[i]? = some s0 ∧ s0.mine = true) ∨ (∃ (j : Nat) (ys : List D), as[j]? = some (SD.byr ys) ∧ vs[j]? = some (V.ref a) ∧ ∃ s0, ρ[i]? = some s0 ∧ s0.mine = true)) := fun {i s} e m => by
    by_cases hi : i ∈ lent ps
    · obtain ⟨j, xs, s1, a, h1, h2, h3, h4, h5, h6⟩ := lentS hi
      rw [h6] at e
      cases e
      have h0 : ∃ s0, ρ[i]? = some s0 ∧ s0.mine = true := by rcases h5 with h5 | h5 <;> exact ⟨_, h5, rfl⟩
      cases s1 with
      | byr ys => exact ⟨a, h4, .inr ⟨j, ys, h2, h3, h0⟩⟩
      | no => rcases h5 with h5 | h5 <;> (rw [h5] at m; cases m)
      | sh d => rcases h5 with h5 | h5 <;> (rw [h5] at m; cases m)
      | own ys => rcases h5 with h5 | h5 <;> (rw [h5] at m; cases m)
    · rw [back_out hi] at e
      have : ∃ xs, s = .own xs ∨ s = .byr xs := by
        cases s with
        | own xs => exact ⟨xs, .inl rfl⟩
        | byr xs => exact ⟨xs, .inr rfl⟩
        | no => cases m
        | sh d => cases m
      obtain ⟨xs, hs⟩ := this
      obtain ⟨a, ea, na, _⟩ := kept e hs hi
      obtain ⟨b, eb, hb, _⟩ := sr.getOwn e hs
      rw [ea] at eb; cases eb
      exact ⟨a, ea, .inl ⟨na, hb, s, e, m⟩⟩
  refine ⟨W' ++ W.filter (fun b => decide (b ∉ wcs ps vs)), ⟨fun b o e hb => st.keep b o e fun z => hb (wsub b z), fun b hb => ?_, st.onew, st.trk, fun b hb hn => st.ofz b hb fun z => hn (wsub b z)⟩, ⟨⟨fun b hb => ?_, sr'.wf.trk⟩, by rw [back_len, sr.len], fun i s e => ?_, fun i j s t a e1 e2 m1 m2 s1 s2 => ?_⟩, fun v r hr => ?_⟩
  · rcases w2.mp hb with z | z
    · rcases st.wnew b z with y | y
      · exact .inl (wsub b y)
      · exact .inr y
    · exact .inl z.1
  · rcases w2.mp hb with z | z
    · exact sr'.wf.sub b z
    · exact st.ofz b (sr.wf.sub b z.1) z.2
  · by_cases hi : i ∈ lent ps
    · obtain ⟨j, xs, s1, a, h1, h2, h3, h4, h5, h6⟩ := lentS hi
      rw [h6] at e
      cases e
      cases s1 with
      | byr ys =>
        obtain ⟨b, z1, z2, z3⟩ := sr'.slot j _ h2
        rw [h3] at z2; cases z2
        rw [h4]
        rcases h5 with h5 | h5
        · rw [h5]; exact ⟨a, rfl, own' z3⟩
        · rw [h5]
          obtain ⟨b, q1, q2, _⟩ := sr.slot i _ h5
          rw [h4] at q1
          cases q1
          exact ⟨a, rfl, q2, own' z3⟩
      | no => rcases h5 with h5 | h5 <;> (rw [h5]; trivial)
      | sh d => rcases h5 with h5 | h5 <;> (rw [h5]; trivial)
      | own ys => rcases h5 with h5 | h5 <;> (rw [h5]; trivial)
    · rw [back_out hi] at e
      have q := sr.slot i s e
      cases s with
      | no => trivial
      | sh d => obtain ⟨v, ev, r⟩ := q; exact ⟨v, ev, r.step wc st⟩
      | own xs =>
        obtain ⟨a, ea, _, o⟩ := kept e (.inl rfl) hi
        exact ⟨a, by rw [ea]; rfl, o⟩
      | byr xs =>
        obtain ⟨a, ea, _, o⟩ := kept e (.inr rfl) hi
        obtain ⟨b, q1, q2, _⟩ := q
        rw [ea] at q1
        cases q1
        exact ⟨a, by rw [ea]; rfl, q2, o⟩
  · have orig : ∀ {i : Nat} {s : SD}, (backAll ps as ρ)[i]? = some s → s.mine = true → ∃ s0, ρ[i]? = some s0 ∧ s0.mine = true := fun {i s} e m => by
      obtain ⟨_, _, h⟩ := mine e m
      rcases h with ⟨_, _, h⟩ | ⟨_, _, _, _, h⟩
      · exact h
      · exact h
    obtain ⟨u1, q1, q2⟩ := orig e1 m1
    obtain ⟨u2, q3, q4⟩ := orig e2 m2
    exact sr.apart i j u1 u2 a q1 q3 q2 q4 s1 s2
  · cases r with
    | sh d => exact hr
    | no => exact hr
    | byr xs => exact hr
    | own xs =>
      obtain ⟨a, ev, o, hn⟩ := hr
      refine ⟨a, ev, own' o, fun i s e m z => ?_⟩
      obtain ⟨b, hb, h⟩ := mine e m
      rw [hb] at z; cases z
      rcases h with ⟨n1, n2, _⟩ | ⟨j, ys, y1, y2, _⟩
      · rcases st.wnew a o.1 with y | y
        · exact n1 y
        · exact sr.wf.trk a (sr.wf.sub a n2) y
      · exact hn j _ y1 rfl (by rw [List.getElem?_map, y2]; rfl)
/-- f(e, ..) -/
theorem call_core {F : Fn} {n : Nat} {t : TA} {fl : List LOp} (hn : fl.length = n) (h : ∀ O W σ H ρ R, SR (gx X cl) vs0 O W σ H ρ → AftK (gx X cl) vs0 Wx O W σ H R (cargs fl ρ) → t σ H R) :
    ∀ O W σ H ρ Q, SR (gx X cl) vs0 O W σ H ρ → AftE (gx X cl) vs0 Wx O W σ H Q (xCall F fl ρ) → t σ H fun vs H1 => spF (gx X cl) n F vs H1 Q fun c d H' => Wx c d σ H' := by
  intro O W σ H ρ Q sr hw
  refine h O W σ H ρ _ sr ?_
  have clen : ∀ {fl : List LOp} {ρ : List SD} {p : List (SD × Option Nat) × List SD}, cargs fl ρ = .ok p → p.1.length = fl.length := by
    intro fl
    induction fl with
    | nil => intro ρ p e; cases e; rfl
    | cons o fl ih =>
      intro ρ p e
      cases o with
      | va i =>
        have e : ((argOf ρ i).bind fun _ => (cargs fl ρ).bind fun p => (argOf p.2 i).bind fun s => .ok ((s, some i) :: p.1, p.2)) = .ok p := e
        cases e0 : argOf ρ i with
        | bad => rw [e0] at e; cases e
        | exc c fs ρ' => rw [e0] at e; cases e
        | ok d0 =>
          rw [e0] at e
          have e : ((cargs fl ρ).bind fun p => (argOf p.2 i).bind fun s => .ok ((s, some i) :: p.1, p.2)) = .ok p := e
          cases e1 : cargs fl ρ with
          | bad => rw [e1] at e; cases e
          | exc c fs ρ' => rw [e1] at e; cases e
          | ok q =>
            rw [e1] at e
            have e : ((argOf q.2 i).bind fun s => .ok ((s, some i) :: q.1, q.2)) = .ok p := e
            cases e2 : argOf q.2 i with
            | bad => rw [e2] at e; cases e
            | exc c fs ρ' => rw [e2] at e; cases e
            | ok d =>
              rw [e2] at e
              cases e
              exact congrArg (· + 1) (ih e1)
      | ex f =>
        have e : ((f ρ).bind fun p => (cargs fl p.2).bind fun q => .ok ((.sh p.1.frz, none) :: q.1, q.2)) = .ok p := e
        cases e0 : f ρ with
        | bad => rw [e0] at e; cases e
        | exc c fs ρ' => rw [e0] at e; cases e
        | ok d0 =>
          rw [e0] at e
          have e : ((cargs fl d0.2).bind fun q => .ok ((.sh d0.1.frz, none) :: q.1, q.2)) = .ok p := e
          cases e1 : cargs fl d0.2 with
          | bad => rw [e1] at e; cases e
          | exc c fs ρ' => rw [e1] at e; cases e
          | ok q =>
            rw [e1] at e
            cases e
            exact congrArg (· + 1) (ih e1)
  unfold xCall at hw
  cases e : cargs fl ρ with
  | bad => rw [e] at hw; exact hw
  | exc c fs ρ' => rw [e] at hw; exact hw
  | ok p =>
    have hl := clen e
    obtain ⟨ps, ρ1⟩ := p
    rw [e] at hw
    have hw : AftE (gx X cl) vs0 Wx O W σ H Q (if (lent ps).Nodup then
      match F (ps.map (·.1)) with
      | .ok (r, as') => .ok (r, backAll ps as' ρ1)
      | .exc c fs as' => .exc c fs (backAll ps as' ρ1)
      | .bad => .bad
      else .bad) := hw
    intro vs O1 W1 H1 st1 sr1 hc
    split at hw
    · rename_i nd
      refine ⟨by rw [← hc.len]; exact hl.trans hn, O1, _, _, call_enter sr1 hc nd, ?_⟩
      cases eF : F (ps.map (·.1)) with
      | bad => rw [eF] at hw; exact hw
      | exc c fs as' =>
        rw [eF] at hw
        intro p gs O2 W2 H2 st2 sr2 hp hf
        obtain ⟨W3, st3, sr3, _⟩ := back_step sr1 hc nd st2 sr2
        exact hw p gs O2 W3 H2 (st1.trans sr.wf st3) sr3 hp hf
      | ok q =>
        obtain ⟨r, as'⟩ := q
        rw [eF] at hw
        intro v O2 W2 H2 st2 sr2 rr
        obtain ⟨W3, st3, sr3, hr⟩ := back_step sr1 hc nd st2 sr2
        exact hw v O2 W3 H2 (st1.trans sr.wf st3) sr3 (hr v r rr)
    · exact hw.elim
variable {k : Nat} {f : Addr} {fd : FuncData} {pn : List Str} {F : Fn} {x : Str} {p pos : Pos} {e : Expr} {es : List Expr} {fl : List LOp} {n : Nat}
theorem ej_call (hF : FnOk X.prog X.w X.K X.mg X.base (L2.CX X.prog X.w) k f fd pn (spF (gx X cl) n F)) (hr : Room k X.A) (hg : Gl X x) (hm : X.mg x = some (.ref f)) (hk : PySem.W.keepIn X.K (.ref f) = true) (hb : Binds X.K fd pn []) (tk : Takes X Wx)
    (h : KJ X cl vs0 Wx (e :: es) fl) (hn : fl.length = n) (hdb : (x == ("__debug__" : Str)) = false := by decide) (he : starEach (e :: es) X.env = (false, eval e X.env) :: starEach es X.env := by rfl) (hpl : (backTo pos (starEach es X.env)).any (·.1) = false := by rfl) :
    EJ X cl vs0 Wx (.Call (.Name x p) (e :: es) [] pos) (xCall F fl) := by
  obtain ⟨t, pa, q⟩ := h.ex
  refine ⟨⟨_, pe_callSD (dvs := []) (ds := []) (E := fun σ c d H => Wx c d σ H) hF hr hg hm hk hb .nil (fun σ => passAt tk σ) pa hdb he hpl, fun O W σ H ρ Q sr hw => ?_⟩⟩
  have z := call_core (F := F) hn q O W σ H ρ Q sr hw
  unfold tCallSD
  simp only [List.append_nil]
  exact z
end
end Wm
end

section
/-! Lists that are written; a list handed on just made. -/
namespace Wm
open PySem PySem.Spec PyProof.Rows L2
section
variable {X : Cx} {cl : Str → Addr} {vs0 : List V} {Wx : WX}
/-- a slot's own list, replaced -/
def ownSet (ρ : List SD) (i : Nat) (xs : List D) : List SD := match ρ[i]? with
  | some (.own _) => ρ.set i (.own xs)
  | some (.byr _) => ρ.set i (.byr xs)
  | _ => ρ
def SD.like (ys : List D) : SD → SD
  | .byr _ => .byr ys
  | _ => .own ys
def ownGet (ρ : List SD) (i : Nat) : Rs (List D) := match ρ[i]? with
  | some (.own xs) => .ok xs
  | some (.byr xs) => .ok xs
  | _ => .bad
theorem ownGet_noexc {ρ : List SD} {i : Nat} {c : Str} {fs : List (Str × D)} {ρ' : List SD} : ownGet ρ i ≠ .exc c fs ρ' := by
  unfold ownGet
  split <;> exact fun z => nomatch z
theorem ownGet_at {G : Gx} {O W : List Addr} {σ : L2.St} {H : Hp} {ρ : List SD} {i : Nat} {xs : List D} (sr : SR G vs0 O W σ H ρ) (h : ownGet ρ i = .ok xs) : ∃ a, σ[i]? = some (some (.ref a)) ∧ OwnAt G O W H a xs := by
  unfold ownGet at h
  split at h
  · rename_i ys e
    cases h
    exact sr.getOwn e (.inl rfl)
  · rename_i ys e
    cases h
    exact sr.getOwn e (.inr rfl)
  · cases h
theorem SR.write {G : Gx} {O W : List Addr} {σ : L2.St} {H : Hp} {ρ : List SD} {i : Nat} {xs ys : List D} {a : Addr} {vs : List V} (sr : SR G vs0 O W σ H ρ) (h : ownGet ρ i = .ok xs) (ea : σ[i]? = some (some (.ref a))) (hl : vs.length ≤ sizeLine) (hr : RpA G O H ys vs) :
    Stp O W H O W (upd H a (.lst vs)) ∧ SR G vs0 O W σ (upd H a (.lst vs)) (ownSet ρ i ys) := by
  obtain ⟨b, eb, oW, us, h2, h3, h4⟩ := ownGet_at sr h
  rw [ea] at eb; cases eb
  have trk : ∀ b, H b ≠ none → upd H a (.lst vs) b ≠ none := fun b hb => by
    by_cases e : b = a
    · rw [e, upd_same]; simp
    · rw [upd_ne e]; exact hb
  have st : Stp O W H O W (upd H a (.lst vs)) := ⟨fun b o e hb => by rw [upd_ne (show b ≠ a from fun z => hb (by rw [z]; exact oW))]; exact e, fun _ h => .inl h, fun _ h => .inl h, trk, fun _ h _ => h⟩
  have mine : ∃ s, ρ[i]? = some s ∧ s.mine = true ∧ (s = .own xs ∨ s = .byr xs) := by
    unfold ownGet at h
    split at h
    · rename_i zs e; cases h; exact ⟨_, e, rfl, .inl rfl⟩
    · rename_i zs e; cases h; exact ⟨_, e, rfl, .inr rfl⟩
    · cases h
  obtain ⟨s0, e0, m0, hs0⟩ := mine
  have other : ∀ {j : Nat} {s : SD} {zs : List D}, j ≠ i → ρ[j]? = some s → (s = .own zs ∨ s = .byr zs) → ∃ b, σ[j]? = some (some (.ref b)) ∧ OwnAt G O W (upd H a (.lst vs)) b zs := fun {j s zs} hj e hs => by
    obtain ⟨b, eb, h1, ws, h2', h3', h4'⟩ := sr.getOwn e hs
    have hm : s.mine = true := by rcases hs with rfl | rfl <;> rfl
    have nb : b ≠ a := fun z => by
      subst z
      exact hj (sr.apart j i s s0 b e e0 hm m0 eb ea)
    exact ⟨b, eb, h1, ws, by rw [upd_ne nb]; exact h2', h3', h4'.step sr.wf st⟩
  have il : i < ρ.length := (List.getElem?_eq_some_iff.mp e0).1
  have self : OwnAt G O W (upd H a (.lst vs)) a ys := ⟨oW, vs, upd_same, hl, hr.step sr.wf st⟩
  have os : ownSet ρ i ys = ρ.set i (s0.like ys) := by
    unfold ownSet
    rcases hs0 with rfl | rfl <;> rw [e0] <;> rfl
  rw [os]
  refine ⟨st, ⟨⟨sr.wf.sub, fun b hb => trk b (sr.wf.trk b hb)⟩, by rw [List.length_set, sr.len], fun j s e => ?_, fun j k s t b e1 e2 m1 m2 s1 s2 => ?_⟩⟩
  · by_cases hj : i = j
    · subst hj
      rw [List.getElem?_set_self il] at e
      rw [ea]
      rcases hs0 with rfl | rfl
      · cases e
        exact ⟨a, rfl, self⟩
      · cases e
        obtain ⟨b, q1, q2, _⟩ := sr.slot i _ e0
        rw [ea] at q1; cases q1
        exact ⟨a, rfl, q2, self⟩
    · rw [List.getElem?_set_ne hj] at e
      have q := sr.slot j s e
      cases s with
      | no => trivial
      | sh d => obtain ⟨v, ev, r⟩ := q; exact ⟨v, ev, r.step sr.wf st⟩
      | own zs =>
        obtain ⟨b, eb, ob⟩ := other (Ne.symm hj) e (.inl rfl)
        exact ⟨b, by rw [eb]; rfl, ob⟩
      | byr zs =>
        obtain ⟨b, eb, ob⟩ := other (Ne.symm hj) e (.inr rfl)
        obtain ⟨c, q1, q2, _⟩ := q
        rw [eb] at q1; cases q1
        exact ⟨b, by rw [eb]; rfl, q2, ob⟩
  · have orig : ∀ {j : Nat} {s : SD}, (ρ.set i (s0.like ys))[j]? = some s → s.mine = true → ∃ s', ρ[j]? = some s' ∧ s'.mine = true := fun {j s} e m => by
      by_cases hj : i = j
      · subst hj; exact ⟨s0, e0, m0⟩
      · rw [List.getElem?_set_ne hj] at e; exact ⟨s, e, m⟩
    obtain ⟨u1, q1, q2⟩ := orig e1 m1
    obtain ⟨u2, q3, q4⟩ := orig e2 m2
    exact sr.apart j k u1 u2 b q1 q3 q2 q4 s1 s2
/-! ### x[i] = e -/
def setAt (xs : List D) (k : Int) (d : D) : Option (List D) := (ixN xs.length k).map fun j => xs.set j d
def storeD (ρ : List SD) (x : Nat) (k d : D) : Rs Fl := match k with
  | .int k => (ownGet ρ x).bind fun xs => match setAt xs k d with
    | some ys => .ok (.nx (ownSet ρ x ys))
    | none => .bad
  | _ => .bad
theorem RpA.set {G : Gx} {O : List Addr} {H : Hp} {d : D} {v : V} (h : Rp G O H d v) : ∀ {ds : List D} {vs : List V} (j : Nat), RpA G O H ds vs → RpA G O H (ds.set j d) (vs.set j v)
  | [], vs, j, r => by simp only [RpA] at r; subst r; simp only [List.set_nil, RpA]
  | e :: ds, vs, 0, r => by
    simp only [RpA] at r
    obtain ⟨w, us, rfl, h1, h2⟩ := r
    simp only [List.set_cons_zero, RpA]
    exact ⟨v, us, rfl, h, h2⟩
  | e :: ds, vs, j + 1, r => by
    simp only [RpA] at r
    obtain ⟨w, us, rfl, h1, h2⟩ := r
    simp only [List.set_cons_succ, RpA]
    exact ⟨w, _, rfl, h1, RpA.set h j h2⟩
/-- the slot's value at x is there as long as the slot is its own -/
def sStore (x : Nat) (f : Sx) (o : LOp) : Ss := fun ρ => (f ρ).bind fun p => (ownGet p.2 x).bind fun _ => (ops [o] p.2).bind fun q => match q.1 with
  | [k] => storeD q.2 x k p.1.frz
  | _ => .bad
theorem sj_store {x : Nat} {ex ei e : Expr} {f : Sx} {o : LOp} {pos tpos : Pos} (hx : PE X ex (tVar x)) (hi : OJ X cl vs0 Wx [ei] [o]) (h : EJ X cl vs0 Wx e f)
    (ha : ∀ v, assign (.Subscript ex ei tpos) X.env v = (do
      let ov ← holding [v] (eval ex X.env)
      let iv ← holding [v, ov] (eval ei X.env)
      standAt tpos
      holding [v, ov, iv] (setItem ov iv v)
      release [v, ov, iv] []) := by intro _; rfl)
    (hs : swapsWithSole [.Subscript ex ei tpos] e pos.line X.env = pure false := by rfl) (hw : swappedStores [.Subscript ex ei tpos] e X.env = pure none := by rfl) (h1 : (assignEach [.Subscript ex ei tpos] X.env).map (·.2) = [assign (.Subscript ex ei tpos) X.env] := by rfl) :
    SJ X cl vs0 Wx (.Assign [.Subscript ex ei tpos] e pos) (sStore x f o) := by
  obtain ⟨t, p, q⟩ := h.ex
  obtain ⟨ti, pi, qi⟩ := one_of hi
  refine ⟨⟨_, ps_asg p (pg_sub hx pi set_list ha) hs hw h1, fun O W σ H ρ E sr hw => q O W σ H ρ _ sr (e_core sr.wf hw fun v s ρ1 O1 W1 H1 sr1 rr hk => ?_)⟩⟩
  obtain ⟨O2, W2, st2, sr2, rp⟩ := rr.frz sr1
  have hk := AftS.back sr1.wf st2 hk
  have hk : AftS (gx X cl) vs0 Wx O2 W2 H1 E ((ownGet ρ1 x).bind fun _ => (ops [o] ρ1).bind fun q => match q.1 with
    | [k] => storeD q.2 x k s.frz
    | _ => .bad) := hk
  cases eg : ownGet ρ1 x with
  | bad => rw [eg] at hk; exact hk.elim
  | exc c fs ρ' => exact absurd eg ownGet_noexc
  | ok xs0 =>
    rw [eg] at hk
    obtain ⟨a, ea, _⟩ := ownGet_at sr2 eg
    refine ⟨.ref a, ea, qi O2 W2 σ H1 ρ1 (fun vs H' => match vs with
      | [y] => rSetL (.ref a) y v H' fun H3 => E.nx σ H3
      | _ => False) sr2 ?_⟩
    have hk : AftS (gx X cl) vs0 Wx O2 W2 H1 E ((ops [o] ρ1).bind fun q => match q.1 with
      | [k] => storeD q.2 x k s.frz
      | _ => .bad) := hk
    cases eo : ops [o] ρ1 with
    | bad => rw [eo] at hk; exact hk
    | exc c fs ρ' => rw [eo] at hk; exact hk σ
    | ok w =>
      obtain ⟨ds, ρ2⟩ := w
      rw [eo] at hk
      intro vs O3 W3 H3 st3 sr3 ho
      have hk := AftS.back sr2.wf st3 hk
      cases ds with
      | nil => exact (show False from hk).elim
      | cons d ds =>
        cases ds with
        | cons _ _ => exact (show False from hk).elim
        | nil =>
          obtain ⟨y, rfl, h1⟩ := OpA.one ho
          have hk : AftS (gx X cl) vs0 Wx O3 W3 H3 E (storeD ρ2 x d s.frz) := hk
          cases d with
          | int k =>
            have hk : AftS (gx X cl) vs0 Wx O3 W3 H3 E ((ownGet ρ2 x).bind fun xs => match setAt xs k s.frz with
              | some ys => .ok (.nx (ownSet ρ2 x ys))
              | none => .bad) := hk
            cases eg2 : ownGet ρ2 x with
            | bad => rw [eg2] at hk; exact hk.elim
            | exc c fs ρ' => exact absurd eg2 ownGet_noexc
            | ok xs =>
              rw [eg2] at hk
              have hk : AftS (gx X cl) vs0 Wx O3 W3 H3 E (match setAt xs k s.frz with
                | some ys => .ok (.nx (ownSet ρ2 x ys))
                | none => .bad) := hk
              obtain ⟨b, eb, oW, us, h2, h3, h4⟩ := ownGet_at sr3 eg2
              rw [ea] at eb; cases eb
              unfold setAt at hk
              rw [h4.length] at hk
              cases ej : ixN us.length k with
              | none => rw [ej] at hk; exact hk.elim
              | some j =>
                rw [ej] at hk
                have rv := rp.step sr2.wf st3
                obtain ⟨st4, sr4⟩ := sr3.write (vs := us.set j v) eg2 ea (by rw [List.length_set]; exact h3) (h4.set rv j)
                exact ⟨a, us, k, j, rfl, h1.int, h2, ej, hk σ O3 W3 _ st4 sr4⟩
          | _ => exact hk.elim
/-! ### x.append(e) -/
def sApp (x : Nat) (f : Sx) : Ss := fun ρ => (ownGet ρ x).bind fun _ => (f ρ).bind fun p => (ownGet p.2 x).bind fun xs => if xs.length < sizeLine then .ok (.nx (ownSet p.2 x (xs ++ [p.1.frz]))) else .bad
theorem sj_app {x : Nat} {ex e : Expr} {f : Sx} {pos apos cpos : Pos} (hx : PE X ex (tVar x)) (h : EJ X cl vs0 Wx e f)
    (hbase : attributeBase ex "append" X.env (eval ex X.env) = eval ex X.env := by rfl)
    (hfew : ((backTo cpos (starEach [e] X.env)).all (fun x => !x.1) && (backToKw cpos (keywordEach [] X.env)).all (fun x => x.1.isSome)
      && decide ([e].length + ([] : List Keyword).length + (if ([] : List Keyword).isEmpty then 0 else 1) < 30)) = true := by rfl)
    (hline : (apos.endLine == cpos.line) = true := by rfl) (hs : starEach [e] X.env = (false, eval e X.env) :: starEach [] X.env := by rfl) (hplain : (backTo cpos (starEach [] X.env)).any (·.1) = false := by rfl)
    (hsw : swapsWith (.Call (.Attribute ex "append" apos) [e] [] cpos) none pos.line X.env = pure false := by rfl) :
    SJ X cl vs0 Wx (.Expr (.Call (.Attribute ex "append" apos) [e] [] cpos) pos) (sApp x f) := by
  obtain ⟨t, p, q⟩ := h.ex
  refine ⟨⟨_, ps_expr (pe_bm PySem.F.plainAttrs_list PySem.F.slot_list_append PySem.F.type_list_append mt_append hx (pa_cons p pa_nil hs) hbase hfew hline hs hplain) hsw, fun O W σ H ρ E sr hw => ?_⟩⟩
  unfold sApp at hw
  cases eg : ownGet ρ x with
  | bad => rw [eg] at hw; exact hw.elim
  | exc c fs ρ' => exact absurd eg ownGet_noexc
  | ok xs0 =>
    rw [eg] at hw
    obtain ⟨a, ea, oa⟩ := ownGet_at sr eg
    obtain ⟨_, us0, h20, _⟩ := oa
    refine ⟨.ref a, ea, .inl ⟨rfl, _, SqL.of h20⟩, q O W σ H ρ _ sr (e_core sr.wf hw fun v s ρ1 O1 W1 H1 sr1 rr hk => ?_)⟩
    obtain ⟨O2, W2, st2, sr2, rp⟩ := rr.frz sr1
    have hk := AftS.back sr1.wf st2 hk
    have hk : AftS (gx X cl) vs0 Wx O2 W2 H1 E ((ownGet ρ1 x).bind fun xs => if xs.length < sizeLine then .ok (.nx (ownSet ρ1 x (xs ++ [s.frz]))) else .bad) := hk
    cases eg2 : ownGet ρ1 x with
    | bad => rw [eg2] at hk; exact hk.elim
    | exc c fs ρ' => exact absurd eg2 ownGet_noexc
    | ok xs =>
      rw [eg2] at hk
      have hk : AftS (gx X cl) vs0 Wx O2 W2 H1 E (if xs.length < sizeLine then .ok (.nx (ownSet ρ1 x (xs ++ [s.frz]))) else .bad) := hk
      split at hk
      · rename_i hz
        obtain ⟨b, eb, oW, us, h2, h3, h4⟩ := ownGet_at sr2 eg2
        rw [ea] at eb; cases eb
        have hl : us.length < sizeLine := by rw [← h4.length]; exact hz
        obtain ⟨st4, sr4⟩ := sr2.write (vs := us ++ [v]) eg2 ea (by rw [List.length_append]; exact hl) (h4.snoc rp)
        exact ⟨a, us, v, rfl, rfl, h2, hl, hk σ O2 W2 _ st4 sr4⟩
      · exact hk.elim
/-! ### f([..]): the list just made may be written by f -/
def xCallT (F : Fn) (f : Sx) : Sx := fun ρ => (f ρ).bind fun p => match p.1 with
  | .own xs => match F [.byr xs] with
    | .ok (r, _) => .ok (r, p.2)
    | .exc c fs _ => .exc c fs p.2
    | .bad => .bad
  | _ => .bad
theorem ej_callT {k : Nat} {f : Addr} {fd : FuncData} {pn : List Str} {F : Fn} {x : Str} {p pos : Pos} {e : Expr} {fx : Sx} (hF : FnOk X.prog X.w X.K X.mg X.base (L2.CX X.prog X.w) k f fd pn (spF (gx X cl) 1 F)) (hr : Room k X.A) (hg : Gl X x) (hm : X.mg x = some (.ref f)) (hk : PySem.W.keepIn X.K (.ref f) = true) (hb : Binds X.K fd pn []) (tk : Takes X Wx)
    (h : EJ X cl vs0 Wx e fx) (hdb : (x == ("__debug__" : Str)) = false := by decide) (he : starEach [e] X.env = (false, eval e X.env) :: starEach [] X.env := by rfl) (hpl : (backTo pos (starEach [] X.env)).any (·.1) = false := by rfl) :
    EJ X cl vs0 Wx (.Call (.Name x p) [e] [] pos) (xCallT F fx) := by
  obtain ⟨t, pe, q⟩ := h.ex
  refine ⟨⟨_, pe_callSD (dvs := []) (ds := []) (E := fun σ c d H => Wx c d σ H) hF hr hg hm hk hb .nil (fun σ => passAt tk σ) (pa_cons pe pa_nil he) hdb he hpl, fun O W σ H ρ Q sr hw => ?_⟩⟩
  unfold xCallT at hw
  refine q O W σ H ρ _ sr ?_
  cases ef : fx ρ with
  | bad => rw [ef] at hw; exact hw
  | exc c fs ρ' => rw [ef] at hw; exact hw
  | ok w =>
    obtain ⟨s, ρ1⟩ := w
    rw [ef] at hw
    intro v O1 W1 H1 st1 sr1 rr
    cases s with
    | sh d => exact hw.elim
    | no => exact hw.elim
    | byr xs => exact hw.elim
    | own xs =>
      have hw : AftE (gx X cl) vs0 Wx O W σ H Q (match F [.byr xs] with
        | .ok (r, _) => .ok (r, ρ1)
        | .exc c fs _ => .exc c fs ρ1
        | .bad => .bad) := hw
      obtain ⟨a, ev, oa, na⟩ := rr
      subst ev
      -- the callee's world: the list alone
      have en : SR (gx X cl) [.ref a] O1 [a] ([V.ref a].map some) H1 [.byr xs] := by
        refine ⟨⟨fun b hb => ?_, sr1.wf.trk⟩, rfl, fun i s e => ?_, fun i j s t b e1 e2 m1 m2 s1 s2 => ?_⟩
        · have : b = a := by simpa using hb
          rw [this]; exact sr1.wf.sub a oa.1
        · cases i with
          | zero =>
            cases e
            exact ⟨a, rfl, rfl, by simp, oa.2⟩
          | succ i => cases e
        · cases i with
          | zero =>
            cases j with
            | zero => rfl
            | succ j => cases e2
          | succ i => cases e1
      have back : ∀ {O2 W2 : List Addr} {H2 : Hp}, Stp O1 [a] H1 O2 W2 H2 → Wf O2 W2 H2 → ∃ W3, Stp O1 W1 H1 O2 W3 H2 ∧ SR (gx X cl) vs0 O2 W3 σ H2 ρ1 ∧ (∀ b ∈ W2, b ∈ W3) ∧ ∀ b ∈ W2, ∀ (i : Nat) (s : SD), ρ1[i]? = some s → s.mine = true → σ[i]? ≠ some (some (.ref b)) := fun {O2 W2 H2} st w2 => by
        have mW : ∀ {b : Addr}, b ∈ W2 ++ W1.filter (fun b => decide (b ≠ a)) ↔ b ∈ W2 ∨ (b ∈ W1 ∧ b ≠ a) := by
          intro b
          rw [List.mem_append, List.mem_filter, decide_eq_true_eq]
        have st3 : Stp O1 W1 H1 O2 (W2 ++ W1.filter (fun b => decide (b ≠ a))) H2 := ⟨fun b o e hb => st.keep b o e fun z => hb (by rw [show b = a by simpa using z]; exact oa.1), fun b hb => by
          rcases mW.mp hb with z | z
          · rcases st.wnew b z with y | y
            · exact .inl (by rw [show b = a by simpa using y]; exact oa.1)
            · exact .inr y
          · exact .inl z.1, st.onew, st.trk, fun b hb hn => st.ofz b hb fun z => hn (by rw [show b = a by simpa using z]; exact oa.1)⟩
        have wf3 : Wf O2 (W2 ++ W1.filter (fun b => decide (b ≠ a))) H2 := ⟨fun b hb => by
          rcases mW.mp hb with z | z
          · exact w2.sub b z
          · exact st.ofz b (sr1.wf.sub b z.1) (by simpa using z.2), w2.trk⟩
        have own3 : ∀ {i : Nat} {s : SD} {zs : List D}, ρ1[i]? = some s → (s = .own zs ∨ s = .byr zs) → ∃ b, σ[i]? = some (some (.ref b)) ∧ b ≠ a ∧ OwnAt (gx X cl) O2 (W2 ++ W1.filter (fun b => decide (b ≠ a))) H2 b zs := fun {i s zs} e hs => by
          obtain ⟨b, eb, h1, us, h2, h3, h4⟩ := sr1.getOwn e hs
          have nb : b ≠ a := fun z => na i s e (by rcases hs with rfl | rfl <;> rfl) (by rw [← z]; exact eb)
          exact ⟨b, eb, nb, mW.mpr (.inr ⟨h1, nb⟩), us, st.keep b _ h2 (by simpa using nb), h3, h4.step en.wf st⟩
        refine ⟨_, st3, ⟨wf3, sr1.len, fun i s e => ?_, sr1.apart⟩, fun b hb => mW.mpr (.inl hb), fun b hb i s e m z => ?_⟩
        · have qs := sr1.slot i s e
          cases s with
          | no => trivial
          | sh d => obtain ⟨u, eu, r⟩ := qs; exact ⟨u, eu, r.step en.wf st⟩
          | own zs =>
            obtain ⟨b, eb, _, ob⟩ := own3 e (.inl rfl)
            exact ⟨b, by rw [eb]; rfl, ob⟩
          | byr zs =>
            obtain ⟨b, eb, _, ob⟩ := own3 e (.inr rfl)
            obtain ⟨c, q1, q2, _⟩ := qs
            rw [eb] at q1; cases q1
            exact ⟨b, by rw [eb]; rfl, q2, ob⟩
        · have : ∃ zs, s = .own zs ∨ s = .byr zs := by
            cases s with
            | own zs => exact ⟨zs, .inl rfl⟩
            | byr zs => exact ⟨zs, .inr rfl⟩
            | no => cases m
            | sh d => cases m
          obtain ⟨zs, hs⟩ := this
          obtain ⟨c, ec, nc, _⟩ := own3 e hs
          obtain ⟨c', ec', h1, _⟩ := sr1.getOwn e hs
          rw [z] at ec ec'
          cases ec
          cases ec'
          rcases st.wnew b hb with y | y
          · exact nc (by simpa using y)
          · exact sr1.wf.trk b (sr1.wf.sub b h1) y
      refine ⟨rfl, O1, [a], [.byr xs], en, ?_⟩
      cases eF : F [.byr xs] with
      | bad => rw [eF] at hw; exact hw
      | exc c fs as' =>
        rw [eF] at hw
        intro p gs O2 W2 H2 st2 sr2 hp hf
        obtain ⟨W3, st3, sr3, _⟩ := back st2 sr2.wf
        exact hw p gs O2 W3 H2 (st1.trans sr.wf st3) sr3 hp hf
      | ok qq =>
        obtain ⟨r, as'⟩ := qq
        rw [eF] at hw
        intro u O2 W2 H2 st2 sr2 rr2
        obtain ⟨W3, st3, sr3, sub, np⟩ := back st2 sr2.wf
        refine hw u O2 W3 H2 (st1.trans sr.wf st3) sr3 ?_
        cases r with
        | sh d => exact rr2
        | no => exact rr2
        | byr ys => exact rr2
        | own ys =>
          obtain ⟨b, eb, ob, _⟩ := rr2
          exact ⟨b, eb, ⟨sub b ob.1, ob.2⟩, np b ob.1⟩
end
end Wm
end

section
/-! Short words for printed derivations. -/
namespace Wm
open PySem PySem.Spec PyProof.Rows L2
section
variable {X : Cx} {cl : Str → Addr} {vs0 : List V} {Wx : WX} {a b e : Expr} {pos : Pos} {fl : List LOp}
theorem lj_va {i : Nat} (h : PE X e (tVar i)) : LJ X cl vs0 Wx e (.va i) := h
theorem lj_ex {f : Sx} (h : EJ X cl vs0 Wx e f) : LJ X cl vs0 Wx e (.ex f) := h
theorem tj_lt (h : OJ X cl vs0 Wx [a, b] fl) : TJ X cl vs0 Wx (.Compare a [.Lt] [b] pos) (bT (xPrim fl pLt)) := tj_cmp op_lt (pr_I0 fun _ _ _ _ _ => by simp only [Rp]) h (nomark _)
theorem tj_le (h : OJ X cl vs0 Wx [a, b] fl) : TJ X cl vs0 Wx (.Compare a [.LtE] [b] pos) (bT (xPrim fl pLe)) := tj_cmp op_le (pr_I0 fun _ _ _ _ _ => by simp only [Rp]) h (nomark _)
theorem tj_gt (h : OJ X cl vs0 Wx [a, b] fl) : TJ X cl vs0 Wx (.Compare a [.Gt] [b] pos) (bT (xPrim fl pGt)) := tj_cmp op_gt (pr_I0 fun _ _ _ _ _ => by simp only [Rp]) h (nomark _)
theorem tj_ge (h : OJ X cl vs0 Wx [a, b] fl) : TJ X cl vs0 Wx (.Compare a [.GtE] [b] pos) (bT (xPrim fl pGe)) := tj_cmp op_ge (pr_I0 fun _ _ _ _ _ => by simp only [Rp]) h (nomark _)
theorem tj_eq (hu : X.A.units + 64 < cLine) (h : OJ X cl vs0 Wx [a, b] fl) : TJ X cl vs0 Wx (.Compare a [.Eq] [b] pos) (bT (xPrim fl pEq)) := tj_cmp (op_eqD hu) pr_eq h (nomark _)
theorem tj_ne (hu : X.A.units + 64 < cLine) (h : OJ X cl vs0 Wx [a, b] fl) : TJ X cl vs0 Wx (.Compare a [.NotEq] [b] pos) (bT (xPrim fl pNe)) := tj_cmp (op_neD hu) pr_ne h (nomark _)
/-- a def that nobody calls so: no promise at all -/
theorem fn_bad {P : Program} {w : World} {K : PySem.W.Frag} {mg : Str → Option Value} {base : Heap} {k : Nat} {f : Addr} {fd : FuncData} {ps : List Str} {G : Gx} {n : Nat} (hn : n = ps.length) : FnOk P w K mg base (L2.CX P w) k f fd ps (spF G n fun _ => .bad) :=
  ⟨fun vs H Q E h => h.1.trans hn, fun A outer s H args us vs Q E _ _ _ _ h => by obtain ⟨_, _, _, _, _, z⟩ := h; exact z.elim⟩
/-! ### a, b = e1, e2 of two plain names -/
def sPar (i j : Nat) (f g : Sx) : Ss := fun ρ => (mops [f, g] ρ).bind fun q => match q.1 with
  | [d, e] => .ok (.nx ((q.2.set i (.sh d)).set j (.sh e)))
  | _ => .bad
theorem sj_par {i j : Nat} {x y : Str} {f g : Sx} {px py pt : Pos} {kt k2 pt2} (hc : X.calm = true) (hN : X.N.Nodup) (hi : X.N[i]? = some x) (hj : X.N[j]? = some y) (hij : i ≠ j)
    (hx : X.env.scope.names.lookup x = some .local) (hy : X.env.scope.names.lookup y = some .local) (ha : MJ X cl vs0 Wx [a, b] [f, g])
    (hw : swappedStores [.Tuple [.Name x px, .Name y py] kt pt] (.Tuple [a, b] k2 pt2) X.env = pure (some [x, y]) := by rfl)
    (hs : swapsWithSole [.Tuple [.Name x px, .Name y py] kt pt] (.Tuple [a, b] k2 pt2) pos.line X.env = pure false := by rfl) :
    SJ X cl vs0 Wx (.Assign [.Tuple [.Name x px, .Name y py] kt pt] (.Tuple [a, b] k2 pt2) pos) (sPar i j f g) := by
  obtain ⟨t, p, q⟩ := ha.ex
  refine ⟨⟨_, ps_par hc hN hi hj hij hx hy p hw hs, fun O W σ H ρ E sr hw => q O W σ H ρ _ sr ?_⟩⟩
  unfold sPar at hw
  cases e : mops [f, g] ρ with
  | bad => rw [e] at hw; exact hw
  | exc c fs ρ' => rw [e] at hw; exact hw σ
  | ok w =>
    obtain ⟨ds, ρ1⟩ := w
    rw [e] at hw
    intro vs O' W' H' st sr' ra
    match ds, ra, hw with
    | [], _, hw => exact (show False from hw).elim
    | [_], _, hw => exact (show False from hw).elim
    | [d1, d2], ra, hw =>
      simp only [RpA] at ra
      obtain ⟨v, r, ev, h1, w, r2, ew, h2, er⟩ := ra
      subst er ew
      exact ⟨v, w, ev, hw _ O' W' H' st ((sr'.set h1).set h2)⟩
    | _ :: _ :: _ :: _, _, hw => exact (show False from hw).elim
/-! ### x[i], x[j] = e -/
def sSub2 (x : Nat) (f : Sx) (o o2 : LOp) : Ss := fun ρ => (f ρ).bind fun p => match p.1 with
  | .sh (.tup [d, e]) => (ownGet p.2 x).bind fun _ => (ops [o] p.2).bind fun q => match q.1 with
    | [k] => (storeD q.2 x k d).bind fun fl => match fl with
      | .nx ρ2 => (ownGet ρ2 x).bind fun _ => (ops [o2] ρ2).bind fun q2 => match q2.1 with
        | [k2] => storeD q2.2 x k2 e
        | _ => .bad
      | _ => .bad
    | _ => .bad
  | _ => .bad
/-- one store, into whatever follows -/
theorem store_core {x : Nat} {o : LOp} {ti : TE} (qi : ∀ O W σ H ρ R, SR (gx X cl) vs0 O W σ H ρ → AftO (gx X cl) vs0 Wx O W σ H R (ops [o] ρ) → tAll [ti] σ H R) {O W : List Addr} {σ : L2.St} {H : Hp} {ρ : List SD} {d : D} {v : V} {Q : Hp → Prop} {E : Ends} {k : Fl → Rs Fl}
    (sr : SR (gx X cl) vs0 O W σ H ρ) (rp : Rp (gx X cl) O H d v)
    (hk : AftS (gx X cl) vs0 Wx O W H E (((ownGet ρ x).bind fun _ => (ops [o] ρ).bind fun q => match q.1 with
      | [k] => storeD q.2 x k d
      | _ => .bad).bind k))
    (hQ : ∀ ρ' O' W' H', Stp O W H O' W' H' → SR (gx X cl) vs0 O' W' σ H' ρ' → AftS (gx X cl) vs0 Wx O' W' H' E (k (.nx ρ')) → Q H') :
    gSub (tVar x) ti rSetL v σ H fun _ H3 => Q H3 := by
  cases eg : ownGet ρ x with
  | bad => rw [eg] at hk; exact hk.elim
  | exc c fs ρ' => exact absurd eg ownGet_noexc
  | ok xs0 =>
    rw [eg] at hk
    obtain ⟨a, ea, _⟩ := ownGet_at sr eg
    refine ⟨.ref a, ea, qi O W σ H ρ (fun vs H' => match vs with
      | [y] => rSetL (.ref a) y v H' fun H3 => Q H3
      | _ => False) sr ?_⟩
    have hk : AftS (gx X cl) vs0 Wx O W H E (((ops [o] ρ).bind fun q => match q.1 with
      | [k] => storeD q.2 x k d
      | _ => .bad).bind k) := hk
    cases eo : ops [o] ρ with
    | bad => rw [eo] at hk; exact hk
    | exc c fs ρ' => rw [eo] at hk; exact hk σ
    | ok w =>
      obtain ⟨ds, ρ2⟩ := w
      rw [eo] at hk
      intro vs O3 W3 H3 st3 sr3 ho
      have hk := AftS.back sr.wf st3 hk
      cases ds with
      | nil => exact (show False from hk).elim
      | cons d1 ds =>
        cases ds with
        | cons _ _ => exact (show False from hk).elim
        | nil =>
          obtain ⟨y, rfl, h1⟩ := OpA.one ho
          cases d1 with
          | int m =>
            have hk : AftS (gx X cl) vs0 Wx O3 W3 H3 E (((ownGet ρ2 x).bind fun xs => match setAt xs m d with
              | some ys => .ok (.nx (ownSet ρ2 x ys))
              | none => .bad).bind k) := hk
            cases eg2 : ownGet ρ2 x with
            | bad => rw [eg2] at hk; exact hk.elim
            | exc c fs ρ' => exact absurd eg2 ownGet_noexc
            | ok xs =>
              rw [eg2] at hk
              have hk : AftS (gx X cl) vs0 Wx O3 W3 H3 E ((match setAt xs m d with
                | some ys => .ok (.nx (ownSet ρ2 x ys))
                | none => .bad : Rs Fl).bind k) := hk
              obtain ⟨b, eb, oW, us, h2, h3, h4⟩ := ownGet_at sr3 eg2
              rw [ea] at eb; cases eb
              unfold setAt at hk
              rw [h4.length] at hk
              cases ej : ixN us.length m with
              | none => rw [ej] at hk; exact hk.elim
              | some j =>
                rw [ej] at hk
                have rv := rp.step sr.wf st3
                obtain ⟨st4, sr4⟩ := sr3.write (vs := us.set j v) eg2 ea (by rw [List.length_set]; exact h3) (h4.set rv j)
                exact ⟨a, us, m, j, rfl, h1.int, h2, ej, hQ _ O3 W3 _ (st3.trans sr.wf st4) sr4 (AftS.back sr3.wf st4 hk)⟩
          | _ => exact (show False from hk).elim
theorem sj_sub2 {x : Nat} {ex ei ex2 ei2 : Expr} {f : Sx} {o o2 : LOp} {tpos tpos2 pt : Pos} {kk : Nat} (hc : X.calm = true) (hx : PE X ex (tVar x)) (hi : OJ X cl vs0 Wx [ei] [o]) (hx2 : PE X ex2 (tVar x)) (hi2 : OJ X cl vs0 Wx [ei2] [o2]) (h : EJ X cl vs0 Wx e f)
    (ha : ∀ v, assign (.Subscript ex ei tpos) X.env v = (do
      let ov ← holding [v] (eval ex X.env)
      let iv ← holding [v, ov] (eval ei X.env)
      standAt tpos
      holding [v, ov, iv] (setItem ov iv v)
      release [v, ov, iv] []) := by intro _; rfl)
    (ha2 : ∀ v, assign (.Subscript ex2 ei2 tpos2) X.env v = (do
      let ov ← holding [v] (eval ex2 X.env)
      let iv ← holding [v, ov] (eval ei2 X.env)
      standAt tpos2
      holding [v, ov, iv] (setItem ov iv v)
      release [v, ov, iv] []) := by intro _; rfl)
    (hg1 : (assignEach [.Subscript ex2 ei2 tpos2] X.env).map (·.2) = assign (.Subscript ex2 ei2 tpos2) X.env :: (assignEach [] X.env).map (·.2) := by rfl)
    (hg2 : (assignEach [.Subscript ex ei tpos, .Subscript ex2 ei2 tpos2] X.env).map (·.2) = assign (.Subscript ex ei tpos) X.env :: (assignEach [.Subscript ex2 ei2 tpos2] X.env).map (·.2) := by rfl)
    (hn : (assignEach [.Subscript ex ei tpos, .Subscript ex2 ei2 tpos2] X.env).length = 2 := by rfl) (hst : (assignEach [.Subscript ex ei tpos, .Subscript ex2 ei2 tpos2] X.env).findIdx? (·.1) = none := by rfl)
    (hs : swapsWithSole [.Tuple [.Subscript ex ei tpos, .Subscript ex2 ei2 tpos2] kk pt] e pos.line X.env = pure false := by rfl) (hw : swappedStores [.Tuple [.Subscript ex ei tpos, .Subscript ex2 ei2 tpos2] kk pt] e X.env = pure none := by rfl)
    (h1 : (assignEach [.Tuple [.Subscript ex ei tpos, .Subscript ex2 ei2 tpos2] kk pt] X.env).map (·.2) = [assign (.Tuple [.Subscript ex ei tpos, .Subscript ex2 ei2 tpos2] kk pt) X.env] := by rfl) :
    SJ X cl vs0 Wx (.Assign [.Tuple [.Subscript ex ei tpos, .Subscript ex2 ei2 tpos2] kk pt] e pos) (sSub2 x f o o2) := by
  obtain ⟨t, p, q⟩ := h.ex
  obtain ⟨ti, pi, qi⟩ := one_of hi
  obtain ⟨ti2, pi2, qi2⟩ := one_of hi2
  refine ⟨⟨_, ps_asg p (pg_tup hc (pgs_cons (pg_sub hx pi set_list ha) (pgs_cons (pg_sub hx2 pi2 set_list ha2) pgs_nil hg1) hg2) hn hst) hs hw h1, fun O W σ H ρ E sr hw => q O W σ H ρ _ sr (e_core sr.wf hw fun v s ρ1 O1 W1 H1 sr1 rr hk => ?_)⟩⟩
  cases s with
  | sh dd =>
    match dd, rr, hk with
    | .tup [d1, d2], rr, hk =>
      have rr : Rp (gx X cl) O1 H1 (.tup [d1, d2]) v := rr
      simp only [Rp, RpA] at rr
      obtain ⟨a, vs, ev, tt, v1, r1, e1, p1, v2, r2, e2, p2, e3⟩ := rr
      subst e3 e2 e1
      refine ⟨a, [v1, v2], ev, tt.sq, rfl, v1, [v2], rfl, ?_⟩
      have hk : AftS (gx X cl) vs0 Wx O1 W1 H1 E (((ownGet ρ1 x).bind fun _ => (ops [o] ρ1).bind fun q => match q.1 with
        | [k] => storeD q.2 x k d1
        | _ => .bad).bind fun fl => match fl with
          | .nx ρ2 => (ownGet ρ2 x).bind fun _ => (ops [o2] ρ2).bind fun q2 => match q2.1 with
            | [k2] => storeD q2.2 x k2 d2
            | _ => .bad
          | _ => .bad) := by
        have hk : AftS (gx X cl) vs0 Wx O1 W1 H1 E ((ownGet ρ1 x).bind fun _ => (ops [o] ρ1).bind fun q => match q.1 with
          | [k] => (storeD q.2 x k d1).bind fun fl => match fl with
            | .nx ρ2 => (ownGet ρ2 x).bind fun _ => (ops [o2] ρ2).bind fun q2 => match q2.1 with
              | [k2] => storeD q2.2 x k2 d2
              | _ => .bad
            | _ => .bad
          | _ => .bad) := hk
        cases eg : ownGet ρ1 x with
        | bad => rw [eg] at hk; exact hk
        | exc c fs ρ' => exact absurd eg ownGet_noexc
        | ok xs =>
          rw [eg] at hk
          cases eo : ops [o] ρ1 with
          | bad => rw [eo] at hk; exact hk
          | exc c fs ρ' => rw [eo] at hk; exact hk
          | ok w =>
            obtain ⟨ds, ρ2⟩ := w
            rw [eo] at hk
            cases ds with
            | nil => exact hk
            | cons k ds =>
              cases ds with
              | nil => exact hk
              | cons _ _ => exact hk
      refine store_core qi sr1 p1 hk fun ρ2 O2 W2 H2 st2 sr2 hk2 => ?_
      refine ⟨v2, [], rfl, ?_⟩
      have hk2 : AftS (gx X cl) vs0 Wx O2 W2 H2 E (((ownGet ρ2 x).bind fun _ => (ops [o2] ρ2).bind fun q2 => match q2.1 with
        | [k2] => storeD q2.2 x k2 d2
        | _ => .bad).bind .ok) := by
        have e : ∀ r : Rs Fl, r.bind .ok = r := fun r => by cases r <;> rfl
        rw [e]; exact hk2
      exact store_core qi2 sr2 (p2.step sr1.wf st2) hk2 fun ρ3 O3 W3 H3 st3 sr3 hk3 => ⟨rfl, hk3 σ O3 W3 H3 Stp.refl sr3⟩
    | .non, _, hk => exact (show False from hk).elim
    | .bl _, _, hk => exact (show False from hk).elim
    | .int _, _, hk => exact (show False from hk).elim
    | .str _, _, hk => exact (show False from hk).elim
    | .lst _, _, hk => exact (show False from hk).elim
    | .ins _ _, _, hk => exact (show False from hk).elim
    | .scr _, _, hk => exact (show False from hk).elim
    | .tup [], _, hk => exact (show False from hk).elim
    | .tup [_], _, hk => exact (show False from hk).elim
    | .tup (_ :: _ :: _ :: _), _, hk => exact (show False from hk).elim
  | _ => exact hk.elim
end
end Wm
end

section
/-! Evaluation: what the pieces come to, applied. -/
namespace Wm
open PySem PySem.Spec PyProof.Rows L2
variable {α β : Type}
theorem Rs.bind_first {x y : Rs α} {f : α → Rs β} (h : x = y) : x.bind f = y.bind f := by rw [h]
@[simp] theorem bind_bad (f : α → Rs β) : (Rs.bad : Rs α).bind f = .bad := (rfl)
@[simp] theorem bind_exc (c : Str) (fs : List (Str × D)) (ρ : List SD) (f : α → Rs β) : (Rs.exc c fs ρ : Rs α).bind f = .exc c fs ρ := (rfl)
/-- a def's end -/
def Rs.leave (n : Nat) : Rs Fl → Rs (SD × List SD)
  | .ok (.rt r ρ') => .ok (r, trim n ρ')
  | .ok (.nx ρ') => .ok (.sh .non, trim n ρ')
  | .exc c fs ρ' => .exc c fs (trim n ρ')
  | _ => .bad
@[simp] theorem bodyF_ap (N : Nat) (g : Ss) (as : List SD) : bodyF N g as = (g (as ++ List.replicate (N - as.length) .no)).leave as.length := by
  unfold bodyF Rs.leave
  cases g (as ++ List.replicate (N - as.length) .no) with
  | ok fl => cases fl <;> rfl
  | exc c fs ρ => rfl
  | bad => rfl
def Rs.home (ps : List (SD × Option Nat)) (ρ : List SD) : Rs (SD × List SD) → Rs (SD × List SD)
  | .ok (r, as') => .ok (r, backAll ps as' ρ)
  | .exc c fs as' => .exc c fs (backAll ps as' ρ)
  | .bad => .bad
@[simp] theorem xCall_ap (F : Fn) (fl : List LOp) (ρ : List SD) : xCall F fl ρ = (cargs fl ρ).bind fun p => if (lent p.1).Nodup then (F (p.1.map (·.1))).home p.1 p.2 else .bad := by
  unfold xCall
  refine congrArg _ (funext fun p => ?_)
  split
  · cases F (p.1.map (·.1)) with
    | ok q => rfl
    | exc c fs ρ => rfl
    | bad => rfl
  · rfl
def Rs.homeT (ρ : List SD) : Rs (SD × List SD) → Rs (SD × List SD)
  | .ok (r, _) => .ok (r, ρ)
  | .exc c fs _ => .exc c fs ρ
  | .bad => .bad
def ownArg (F : Fn) (ρ : List SD) : SD → Rs (SD × List SD)
  | .own xs => (F [.byr xs]).homeT ρ
  | _ => .bad
@[simp] theorem xCallT_ap (F : Fn) (f : Sx) (ρ : List SD) : xCallT F f ρ = (f ρ).bind fun p => ownArg F p.2 p.1 := by
  unfold xCallT
  refine congrArg _ (funext fun p => ?_)
  cases p.1 with
  | own xs =>
    dsimp only
    show _ = (F [.byr xs]).homeT p.2
    cases F [.byr xs] with
    | ok q => rfl
    | exc c fs ρ => rfl
    | bad => rfl
  | sh d => rfl
  | no => rfl
  | byr xs => rfl
def Fl.next (h : Ss) : Fl → Rs Fl
  | .nx ρ' => h ρ'
  | fl => .ok fl
@[simp] theorem sSeq_ap (g h : Ss) (ρ : List SD) : sSeq g h ρ = (g ρ).bind (Fl.next h) := by
  unfold sSeq
  refine congrArg _ (funext fun fl => ?_)
  cases fl <;> rfl
@[simp] theorem sNil_ap (ρ : List SD) : sNil ρ = .ok (.nx ρ) := (rfl)
@[simp] theorem sEx_ap (f : Sx) (ρ : List SD) : sEx f ρ = (f ρ).bind fun p => .ok (.nx p.2) := (rfl)
@[simp] theorem sSet_ap (i : Nat) (f : Sx) (ρ : List SD) : sSet i f ρ = (f ρ).bind fun p => .ok (.nx (p.2.set i p.1)) := (rfl)
@[simp] theorem sRet_ap (f : Sx) (ρ : List SD) : sRet f ρ = (f ρ).bind fun p => .ok (.rt p.1 p.2) := (rfl)
def retV (i : Nat) (ρ : List SD) : Option SD → Rs Fl
  | some (.sh d) => .ok (.rt (.sh d) ρ)
  | some (.own xs) => .ok (.rt (.own xs) (ρ.set i .no))
  | some (.byr xs) => .ok (.rt (.sh (.lst xs)) (ρ.set i (.sh (.lst xs))))
  | _ => .bad
@[simp] theorem sRetV_ap (i : Nat) (ρ : List SD) : sRetV i ρ = retV i ρ ρ[i]? := by
  unfold sRetV retV
  split <;> first | rfl | (split <;> first | rfl | simp_all)
@[simp] theorem sIf_ap (t : Sb) (g h : Ss) (ρ : List SD) : sIf t g h ρ = (t ρ).bind fun p => if p.1 then g p.2 else h p.2 := (rfl)
@[simp] theorem xIf_ap (t : Sb) (f g : Sx) (ρ : List SD) : xIf t f g ρ = (t ρ).bind fun p => if p.1 then f p.2 else g p.2 := (rfl)
@[simp] theorem xC_ap (d : D) (ρ : List SD) : xC d ρ = .ok (.sh d, ρ) := (rfl)
def varV (i : Nat) (ρ : List SD) : Option SD → Rs (SD × List SD)
  | some (.sh d) => .ok (.sh d, ρ)
  | some (.own xs) => .ok (.sh (.lst xs), ρ.set i (.sh (.lst xs)))
  | some (.byr xs) => .ok (.sh (.lst xs), ρ.set i (.sh (.lst xs)))
  | _ => .bad
@[simp] theorem xVar_ap (i : Nat) (ρ : List SD) : xVar i ρ = varV i ρ ρ[i]? := by
  unfold xVar varV
  split <;> first | rfl | (split <;> first | rfl | simp_all)
def lookO : Option SD → Rs D
  | some (.sh d) => .ok d
  | some (.own xs) => .ok (.lst xs)
  | some (.byr xs) => .ok (.lst xs)
  | _ => .bad
@[simp] theorem lookD_ap (ρ : List SD) (i : Nat) : lookD ρ i = lookO ρ[i]? := by
  unfold lookD lookO
  split <;> first | rfl | (split <;> first | rfl | simp_all)
def argO : Option SD → Rs SD
  | some (.sh d) => .ok (.sh d)
  | some (.own xs) => .ok (.byr xs)
  | some (.byr xs) => .ok (.byr xs)
  | _ => .bad
@[simp] theorem argOf_ap (ρ : List SD) (i : Nat) : argOf ρ i = argO ρ[i]? := by
  unfold argOf argO
  split <;> first | rfl | (split <;> first | rfl | simp_all)
@[simp] theorem ops_nil (ρ : List SD) : ops [] ρ = .ok ([], ρ) := (rfl)
@[simp] theorem ops_va (i : Nat) (r : List LOp) (ρ : List SD) : ops (.va i :: r) ρ = (lookD ρ i).bind fun _ => (ops r ρ).bind fun p => (lookD p.2 i).bind fun d => .ok (d :: p.1, p.2) := (rfl)
@[simp] theorem ops_ex (f : Sx) (r : List LOp) (ρ : List SD) : ops (.ex f :: r) ρ = (f ρ).bind fun p => (ops r p.2).bind fun q => .ok (p.1.frz :: q.1, q.2) := (rfl)
@[simp] theorem cargs_nil (ρ : List SD) : cargs [] ρ = .ok ([], ρ) := (rfl)
@[simp] theorem cargs_va (i : Nat) (r : List LOp) (ρ : List SD) : cargs (.va i :: r) ρ = (argOf ρ i).bind fun _ => (cargs r ρ).bind fun p => (argOf p.2 i).bind fun s => .ok ((s, some i) :: p.1, p.2) := (rfl)
@[simp] theorem cargs_ex (f : Sx) (r : List LOp) (ρ : List SD) : cargs (.ex f :: r) ρ = (f ρ).bind fun p => (cargs r p.2).bind fun q => .ok ((.sh p.1.frz, none) :: q.1, q.2) := (rfl)
@[simp] theorem mops_nil (ρ : List SD) : mops [] ρ = .ok ([], ρ) := (rfl)
@[simp] theorem mops_cons (f : Sx) (r : List Sx) (ρ : List SD) : mops (f :: r) ρ = (f ρ).bind fun p => (mops r p.2).bind fun q => .ok (p.1.frz :: q.1, q.2) := (rfl)
@[simp] theorem xPrim_ap (fl : List LOp) (p : List D → Rs SD) (ρ : List SD) : xPrim fl p ρ = (ops fl ρ).bind fun q => (p q.1).fin q.2 := (rfl)
@[simp] theorem xLst_ap (fs : List Sx) (ρ : List SD) : xLst fs ρ = (mops fs ρ).bind fun q => if q.1.length ≤ sizeLine then .ok (.own q.1, q.2) else .bad := (rfl)
@[simp] theorem xTup_ap (fs : List Sx) (ρ : List SD) : xTup fs ρ = (mops fs ρ).bind fun q => if q.1.length ≤ sizeLine then .ok (.sh (.tup q.1), q.2) else .bad := (rfl)
@[simp] theorem bT_ap (f : Sx) (ρ : List SD) : bT f ρ = (f ρ).tst := (rfl)
def truL (ρ : List SD) : List D → Rs (Bool × List SD)
  | [d] => match truD d with
    | some b => .ok (b, ρ)
    | none => .bad
  | _ => .bad
@[simp] theorem bTru_ap (fl : List LOp) (ρ : List SD) : bTru fl ρ = (ops fl ρ).bind fun q => truL q.2 q.1 := by
  unfold bTru truL
  congr 1
@[simp] theorem bAnd_ap (f g : Sb) (ρ : List SD) : bAnd f g ρ = (f ρ).bind fun p => if p.1 then g p.2 else .ok (false, p.2) := (rfl)
@[simp] theorem bOr_ap (f g : Sb) (ρ : List SD) : bOr f g ρ = (f ρ).bind fun p => if p.1 then .ok (true, p.2) else g p.2 := (rfl)
@[simp] theorem bNot_ap (f : Sb) (ρ : List SD) : bNot f ρ = (f ρ).bind fun p => .ok (!p.1, p.2) := (rfl)
@[simp] theorem xAnd_ap (f g : Sx) (ρ : List SD) : xAnd f g ρ = (f ρ).tst.bind fun p => if p.1 then g p.2 else .ok (.sh (.bl false), p.2) := (rfl)
@[simp] theorem xOr_ap (f g : Sx) (ρ : List SD) : xOr f g ρ = (f ρ).tst.bind fun p => if p.1 then .ok (.sh (.bl true), p.2) else g p.2 := (rfl)
@[simp] theorem xNot_ap (f : Sx) (ρ : List SD) : xNot f ρ = (f ρ).tst.bind fun p => .ok (.sh (.bl (!p.1)), p.2) := (rfl)
def par2 (i j : Nat) (ρ : List SD) : List D → Rs Fl
  | [d, e] => .ok (.nx ((ρ.set i (.sh d)).set j (.sh e)))
  | _ => .bad
@[simp] theorem sPar_ap (i j : Nat) (f g : Sx) (ρ : List SD) : sPar i j f g ρ = (mops [f, g] ρ).bind fun q => par2 i j q.2 q.1 := by
  unfold sPar par2
  congr 1
def ownO : Option SD → Rs (List D)
  | some (.own xs) => .ok xs
  | some (.byr xs) => .ok xs
  | _ => .bad
@[simp] theorem ownGet_ap (ρ : List SD) (i : Nat) : ownGet ρ i = ownO ρ[i]? := by
  unfold ownGet ownO
  split <;> first | rfl | (split <;> first | rfl | simp_all)
def ownP (ρ : List SD) (i : Nat) (xs : List D) : Option SD → List SD
  | some (.own _) => ρ.set i (.own xs)
  | some (.byr _) => ρ.set i (.byr xs)
  | _ => ρ
@[simp] theorem ownSet_ap (ρ : List SD) (i : Nat) (xs : List D) : ownSet ρ i xs = ownP ρ i xs ρ[i]? := by
  unfold ownSet ownP
  split <;> first | rfl | (split <;> first | rfl | simp_all)
def putO (ρ : List SD) (x : Nat) : Option (List D) → Rs Fl
  | some ys => .ok (.nx (ownSet ρ x ys))
  | none => .bad
@[simp] theorem storeD_int (ρ : List SD) (x : Nat) (k : Int) (d : D) : storeD ρ x (.int k) d = (ownGet ρ x).bind fun xs => putO ρ x (setAt xs k d) := by
  unfold storeD putO
  congr 1
def storeL (x : Nat) (d : D) (ρ : List SD) : List D → Rs Fl
  | [k] => storeD ρ x k d
  | _ => .bad
@[simp] theorem sStore_ap (x : Nat) (f : Sx) (o : LOp) (ρ : List SD) : sStore x f o ρ = (f ρ).bind fun p => (ownGet p.2 x).bind fun _ => (ops [o] p.2).bind fun q => storeL x p.1.frz q.2 q.1 := by
  unfold sStore storeL
  congr 1
@[simp] theorem sApp_ap (x : Nat) (f : Sx) (ρ : List SD) : sApp x f ρ = (ownGet ρ x).bind fun _ => (f ρ).bind fun p => (ownGet p.2 x).bind fun xs => if xs.length < sizeLine then .ok (.nx (ownSet p.2 x (xs ++ [p.1.frz]))) else .bad := (rfl)
def tupD (is : List Nat) (ρ : List SD) : SD → Rs Fl
  | .sh (.tup ds) => (setAll is ds ρ).bind fun ρ' => .ok (.nx ρ')
  | _ => .bad
@[simp] theorem sTup_ap (is : List Nat) (f : Sx) (ρ : List SD) : sTup is f ρ = (f ρ).bind fun p => tupD is p.2 p.1 := by
  unfold sTup tupD
  congr 1
def sub2a (x : Nat) (o o2 : LOp) (ρ : List SD) : SD → Rs Fl
  | .sh (.tup [d, e]) => (ownGet ρ x).bind fun _ => (ops [o] ρ).bind fun q => (storeL x d q.2 q.1).bind fun fl => match fl with
      | .nx ρ2 => (ownGet ρ2 x).bind fun _ => (ops [o2] ρ2).bind fun q2 => storeL x e q2.2 q2.1
      | _ => .bad
  | _ => .bad
/-- loops -/
def Fl.turn (k : List SD → Rs Fl) : Fl → Rs Fl
  | .nx ρ2 => k ρ2
  | .ct ρ2 => k ρ2
  | .bk ρ2 => .ok (.nx ρ2)
  | .rt r ρ2 => .ok (.rt r ρ2)
def forT (body : Ss) (k : List SD → Rs Fl) : Option (List SD) → Rs Fl
  | some ρ1 => (body ρ1).bind (Fl.turn k)
  | none => .bad
@[simp] theorem forL_nil (st : Tg) (body : Ss) (ρ : List SD) : forL st body [] ρ = .ok (.nx ρ) := (rfl)
@[simp] theorem forL_cons (st : Tg) (body : Ss) (d : D) (ds : List D) (ρ : List SD) : forL st body (d :: ds) ρ = forT body (forL st body ds) (st d ρ) := by
  rw [forL]
  cases st d ρ with
  | none => rfl
  | some ρ1 =>
    dsimp only
    show _ = (body ρ1).bind _
    refine congrArg _ (funext fun fl => ?_)
    cases fl <;> rfl
def forS (st : Tg) (body : Ss) (ρ : List SD) (m : Itm) : Rs Fl := match m.bor with
  | [] => forL st body m.xs ρ
  | _ => .bad
@[simp] theorem forS_nil (st : Tg) (body : Ss) (ρ : List SD) (xs : List D) : forS st body ρ ⟨xs, []⟩ = forL st body xs ρ := (rfl)
@[simp] theorem sFor_ap (src : Src) (st : Tg) (body : Ss) (ρ : List SD) : sFor src st body ρ = (src ρ).bind fun p => forS st body p.2 p.1 := (rfl)
@[simp] theorem con_ex (f : Sx) (ρ : List SD) : con (.ex f) ρ = (f ρ).bind fun p => (itemsOf p.1.frz).bind fun xs => .ok (⟨xs, []⟩, p.2) := (rfl)
def conO (i : Nat) (ρ : List SD) : Option SD → Rs (Itm × List SD)
  | some (.sh d) => (itemsOf d).bind fun xs => .ok (⟨xs, []⟩, ρ)
  | some (.own xs) => .ok (⟨xs, [(i, .own xs)]⟩, ρ)
  | some (.byr xs) => .ok (⟨xs, [(i, .byr xs)]⟩, ρ)
  | _ => .bad
@[simp] theorem con_va (i : Nat) (ρ : List SD) : con (.va i) ρ = conO i ρ ρ[i]? := by
  unfold con conV conO
  split <;> first | rfl | (split <;> first | rfl | simp_all)
@[simp] theorem srcEnum_ap (o : LOp) (ρ : List SD) : srcEnum o ρ = (con o ρ).bind fun p => .ok (⟨enumD p.1.xs, p.1.bor⟩, p.2) := (rfl)
@[simp] theorem srcZip_ap (o o2 : LOp) (ρ : List SD) : srcZip o o2 ρ = (con o ρ).bind fun p => (con o2 p.2).bind fun q => if p.1.keep q.2 then .ok (⟨zipD p.1.xs q.1.xs, p.1.bor ++ q.1.bor⟩, q.2) else .bad := (rfl)
@[simp] theorem srcRng1_ap (fl : List LOp) (ρ : List SD) : srcRng1 fl ρ = (ops fl ρ).bind fun q => rng1 q.2 q.1 := (rfl)
@[simp] theorem srcRng2_ap (fl : List LOp) (ρ : List SD) : srcRng2 fl ρ = (ops fl ρ).bind fun q => rng2 q.2 q.1 := (rfl)
@[simp] theorem keep_nil (xs : List D) (ρ : List SD) : Itm.keep ⟨xs, []⟩ ρ ↔ True := ⟨fun _ => trivial, fun _ p hp => absurd hp (by simp)⟩
@[simp] theorem keep_cons (xs : List D) (i : Nat) (s : SD) (r : List (Nat × SD)) (ρ : List SD) : Itm.keep ⟨xs, (i, s) :: r⟩ ρ ↔ ρ[i]? = some s ∧ Itm.keep ⟨xs, r⟩ ρ := by
  unfold Itm.keep
  simp
/-- comprehensions -/
def lcBack (vs : List Nat) (ρ : List SD) : Rs (List D × List SD) → Rs (SD × List SD)
  | .ok (ds, ρ') => .ok (.own ds, backR ρ ρ' vs)
  | _ => .bad
noncomputable def lcGo (st : Tg) (test : Sb) (elt : Sx) (vs : List Nat) (m : Itm) (ρ : List SD) : Rs (SD × List SD) := if m.keep (wipeR ρ vs) ∧ (∀ b ∈ m.bor, b.1 ∉ vs) then lcBack vs ρ (lcL m st test elt vs m.xs (wipeR ρ vs)) else .bad
@[simp] theorem xLc_ap (src : Src) (st : Tg) (test : Sb) (elt : Sx) (vs : List Nat) (ρ : List SD) : xLc src st test elt vs ρ = (src ρ).bind fun p => lcGo st test elt vs p.1 p.2 := by
  unfold xLc lcGo
  refine congrArg _ (funext fun p => ?_)
  split
  · unfold lcBack
    rfl
  · rfl
noncomputable def lcElt (m : Itm) (vs : List Nat) (k : List SD → Rs (List D × List SD)) : Rs (SD × List SD) → Rs (List D × List SD)
  | .ok (r, ρ3) => if m.keep (wipeR ρ3 vs) then (k (wipeR ρ3 vs)).bind fun q => .ok (r.frz :: q.1, q.2) else .bad
  | _ => .bad
noncomputable def lcTest (m : Itm) (elt : Sx) (vs : List Nat) (k : List SD → Rs (List D × List SD)) : Rs (Bool × List SD) → Rs (List D × List SD)
  | .ok (true, ρ2) => lcElt m vs k (elt ρ2)
  | .ok (false, ρ2) => if m.keep (wipeR ρ2 vs) then k (wipeR ρ2 vs) else .bad
  | _ => .bad
noncomputable def lcTg (m : Itm) (test : Sb) (elt : Sx) (vs : List Nat) (k : List SD → Rs (List D × List SD)) : Option (List SD) → Rs (List D × List SD)
  | some ρ1 => lcTest m elt vs k (test ρ1)
  | none => .bad
@[simp] theorem lcL_nil (m : Itm) (st : Tg) (test : Sb) (elt : Sx) (vs : List Nat) (ρ : List SD) : lcL m st test elt vs [] ρ = .ok ([], ρ) := (rfl)
@[simp] theorem lcL_cons (m : Itm) (st : Tg) (test : Sb) (elt : Sx) (vs : List Nat) (d : D) (ds : List D) (ρ : List SD) : lcL m st test elt vs (d :: ds) ρ = lcTg m test elt vs (lcL m st test elt vs ds) (st d ρ) := by
  rw [lcL]
  cases st d ρ with
  | none => rfl
  | some ρ1 =>
    dsimp only
    show _ = lcTest m elt vs _ (test ρ1)
    cases test ρ1 with
    | bad => rfl
    | exc c fs ρ => rfl
    | ok p =>
      obtain ⟨b, ρ2⟩ := p
      cases b with
      | false => rfl
      | true =>
        show _ = lcElt m vs _ (elt ρ2)
        dsimp only
        cases elt ρ2 with
        | bad => rfl
        | exc c fs ρ => rfl
        | ok q => rfl
/-- a comprehension whose turns are plain: one list, the state as it is but for the well -/
theorem lc_plain {m : Itm} {st : Tg} {test : Sb} {elt : Sx} {vs : List Nat} {ρ : List SD} {f : D → D} : ∀ {ds : List D}, (∀ d ∈ ds, ∃ ρ1 ρ2 r, st d ρ = some ρ1 ∧ test ρ1 = .ok (true, ρ1) ∧ elt ρ1 = .ok (r, ρ2) ∧ r.frz = f d ∧ wipeR ρ2 vs = ρ) → m.keep ρ →
    lcL m st test elt vs ds ρ = .ok (ds.map f, ρ)
  | [], _, _ => rfl
  | d :: ds, h, hk => by
    obtain ⟨ρ1, ρ2, r, h1, h2, h3, h4, h5⟩ := h d (by simp)
    rw [lcL_cons, h1]
    show lcTest m elt vs _ (test ρ1) = _
    rw [h2]
    show lcElt m vs _ (elt ρ1) = _
    rw [h3]
    show (if m.keep (wipeR ρ2 vs) then _ else _) = _
    rw [h5, if_pos hk, lc_plain (fun d hd => h d (List.mem_cons_of_mem _ hd)) hk]
    show Rs.ok (r.frz :: _, _) = _
    rw [h4]
    rfl
end Wm
end

section
/-! The end of a law: its def's promise, at the script. -/
namespace Wm
open PySem PySem.Spec PyProof.Rows L2
theorem law_sp {K : PySem.W.Frag} {cl : Str → Addr} {F : Fn} {H : Hp} {a : Addr} {ns : List Int} (hl : ns.length ≤ 63) (hS : SqL K H a (ns.map V.int)) (hF : ∃ ρ, F [.sh (.scr ns)] = .ok (.sh (.bl true), ρ)) :
    spF ⟨K, cl⟩ 1 F [.ref a] H (fun v _ => v = .bl true) fun _ _ _ => False := by
  obtain ⟨ρ, e⟩ := hF
  refine ⟨rfl, [], [], [.sh (.scr ns)], ⟨⟨fun _ h => h, fun _ h => absurd h (by simp)⟩, rfl, fun i s h => ?_, fun i j s t b h1 h2 m1 m2 _ _ => ?_⟩, ?_⟩
  · match i, h with
    | 0, h =>
      cases h
      refine ⟨.ref a, rfl, ?_⟩
      simp only [Rp]
      refine ⟨a, rfl, ?_, ?_⟩
      · rw [List.length_map]
        exact Nat.le_trans hl (by decide)
      · rcases hS with h | h
        · exact .inl ⟨h, by simp⟩
        · exact .inr h
    | i + 1, h => cases h
  · match i, h1 with
    | 0, h1 => cases h1; cases m1
    | i + 1, h1 => cases h1
  · rw [e]
    intro v O' W' H' _ _ r
    exact r
theorem law_cx {P : Program} {w : World} (H : Hp) (s : Shared) (e : Value) (s' : Shared) (h : L2.CX P w [] H s (fun _ _ _ => False) e s') : False := by
  obtain ⟨_, _, _, _, _, _, _, _, _, _, _, _, z⟩ := h
  exact z
end Wm
end

section
/-! Evaluation, the words that simp takes. -/
namespace Wm
open PySem PySem.Spec PyProof.Rows L2
variable {α β : Type}
@[simp] theorem bind_ok (a : α) (f : α → Rs β) : (Rs.ok a).bind f = f a := (rfl)
@[simp] theorem leave_rt (n : Nat) (r : SD) (ρ : List SD) : Rs.leave n (.ok (.rt r ρ)) = .ok (r, trim n ρ) := (rfl)
@[simp] theorem leave_nx (n : Nat) (ρ : List SD) : Rs.leave n (.ok (.nx ρ)) = .ok (.sh .non, trim n ρ) := (rfl)
@[simp] theorem home_ok (ps : List (SD × Option Nat)) (ρ : List SD) (r : SD) (as : List SD) : Rs.home ps ρ (.ok (r, as)) = .ok (r, backAll ps as ρ) := (rfl)
@[simp] theorem homeT_ok (ρ : List SD) (r : SD) (as : List SD) : Rs.homeT ρ (.ok (r, as)) = .ok (r, ρ) := (rfl)
@[simp] theorem ownArg_own (F : Fn) (ρ : List SD) (xs : List D) : ownArg F ρ (.own xs) = (F [.byr xs]).homeT ρ := (rfl)
@[simp] theorem next_nx (h : Ss) (ρ : List SD) : Fl.next h (.nx ρ) = h ρ := (rfl)
@[simp] theorem next_rt (h : Ss) (r : SD) (ρ : List SD) : Fl.next h (.rt r ρ) = .ok (.rt r ρ) := (rfl)
@[simp] theorem turn_nx (k : List SD → Rs Fl) (ρ : List SD) : Fl.turn k (.nx ρ) = k ρ := (rfl)
@[simp] theorem turn_rt (k : List SD → Rs Fl) (r : SD) (ρ : List SD) : Fl.turn k (.rt r ρ) = .ok (.rt r ρ) := (rfl)
@[simp] theorem retV_sh (i : Nat) (ρ : List SD) (d : D) : retV i ρ (some (.sh d)) = .ok (.rt (.sh d) ρ) := (rfl)
@[simp] theorem retV_own (i : Nat) (ρ : List SD) (d : List D) : retV i ρ (some (.own d)) = .ok (.rt (.own d) (ρ.set i .no)) := (rfl)
@[simp] theorem varV_sh (i : Nat) (ρ : List SD) (d : D) : varV i ρ (some (.sh d)) = .ok (.sh d, ρ) := (rfl)
@[simp] theorem varV_own (i : Nat) (ρ : List SD) (d : List D) : varV i ρ (some (.own d)) = .ok (.sh (.lst d), ρ.set i (.sh (.lst d))) := (rfl)
@[simp] theorem varV_byr (i : Nat) (ρ : List SD) (d : List D) : varV i ρ (some (.byr d)) = .ok (.sh (.lst d), ρ.set i (.sh (.lst d))) := (rfl)
@[simp] theorem lookO_sh (d : D) : lookO (some (.sh d)) = .ok d := (rfl)
@[simp] theorem lookO_own (d : List D) : lookO (some (.own d)) = .ok (.lst d) := (rfl)
@[simp] theorem lookO_byr (d : List D) : lookO (some (.byr d)) = .ok (.lst d) := (rfl)
@[simp] theorem argO_sh (d : D) : argO (some (.sh d)) = .ok (.sh d) := (rfl)
@[simp] theorem argO_own (d : List D) : argO (some (.own d)) = .ok (.byr d) := (rfl)
@[simp] theorem argO_byr (d : List D) : argO (some (.byr d)) = .ok (.byr d) := (rfl)
@[simp] theorem ownO_own (d : List D) : ownO (some (.own d)) = .ok d := (rfl)
@[simp] theorem ownO_byr (d : List D) : ownO (some (.byr d)) = .ok d := (rfl)
@[simp] theorem ownP_own (ρ : List SD) (i : Nat) (xs d : List D) : ownP ρ i xs (some (.own d)) = ρ.set i (.own xs) := (rfl)
@[simp] theorem ownP_byr (ρ : List SD) (i : Nat) (xs d : List D) : ownP ρ i xs (some (.byr d)) = ρ.set i (.byr xs) := (rfl)
@[simp] theorem putO_some (ρ : List SD) (i : Nat) (ys : List D) : putO ρ i (some ys) = .ok (.nx (ownSet ρ i ys)) := (rfl)
@[simp] theorem storeL_one (x : Nat) (d k : D) (ρ : List SD) : storeL x d ρ [k] = storeD ρ x k d := (rfl)
@[simp] theorem conO_sh (i : Nat) (ρ : List SD) (d : D) : conO i ρ (some (.sh d)) = (itemsOf d).bind fun xs => .ok (⟨xs, []⟩, ρ) := (rfl)
@[simp] theorem conO_own (i : Nat) (ρ : List SD) (d : List D) : conO i ρ (some (.own d)) = .ok (⟨d, [(i, .own d)]⟩, ρ) := (rfl)
@[simp] theorem conO_byr (i : Nat) (ρ : List SD) (d : List D) : conO i ρ (some (.byr d)) = .ok (⟨d, [(i, .byr d)]⟩, ρ) := (rfl)
@[simp] theorem items_lst (xs : List D) : itemsOf (.lst xs) = .ok xs := (rfl)
@[simp] theorem items_tup (xs : List D) : itemsOf (.tup xs) = .ok xs := (rfl)
@[simp] theorem frz_sh (d : D) : (SD.sh d).frz = d := (rfl)
@[simp] theorem frz_own (d : List D) : (SD.own d).frz = .lst d := (rfl)
@[simp] theorem fin_sh (ρ : List SD) (d : D) : Rs.fin ρ (.ok (.sh d)) = .ok (.sh d, ρ) := (rfl)
@[simp] theorem fin_own (ρ : List SD) (d : List D) : Rs.fin ρ (.ok (.own d)) = .ok (.own d, ρ) := (rfl)
@[simp] theorem fin_bad (ρ : List SD) : Rs.fin ρ .bad = .bad := (rfl)
@[simp] theorem tst_ok (b : Bool) (ρ : List SD) : Rs.tst (.ok (.sh (.bl b), ρ)) = .ok (b, ρ) := (rfl)
@[simp] theorem par2_two (i j : Nat) (ρ : List SD) (d e : D) : par2 i j ρ [d, e] = .ok (.nx ((ρ.set i (.sh d)).set j (.sh e))) := (rfl)
@[simp] theorem forT_some (body : Ss) (k : List SD → Rs Fl) (ρ : List SD) : forT body k (some ρ) = (body ρ).bind (Fl.turn k) := (rfl)
@[simp] theorem stN_ap (i : Nat) (d : D) (ρ : List SD) : stN i d ρ = some (ρ.set i (.sh d)) := (rfl)
@[simp] theorem stT_ap (is : List Nat) (ds : List D) (ρ : List SD) : stT is (.tup ds) ρ = setO is ds ρ := (rfl)
@[simp] theorem setO_nil (ρ : List SD) : setO [] [] ρ = some ρ := (rfl)
@[simp] theorem setO_cons (i : Nat) (is : List Nat) (d : D) (ds : List D) (ρ : List SD) : setO (i :: is) (d :: ds) ρ = setO is ds (ρ.set i (.sh d)) := (rfl)
@[simp] theorem tupD_tup (is : List Nat) (ρ : List SD) (ds : List D) : tupD is ρ (.sh (.tup ds)) = (setAll is ds ρ).bind fun ρ' => .ok (.nx ρ') := (rfl)
@[simp] theorem bYes_ap (ρ : List SD) : bYes ρ = .ok (true, ρ) := (rfl)
@[simp] theorem wipeR_nil (ρ : List SD) : wipeR ρ [] = ρ := (rfl)
@[simp] theorem wipeR_cons (ρ : List SD) (v : Nat) (vs : List Nat) : wipeR ρ (v :: vs) = (wipeR ρ vs).set v .no := (rfl)
@[simp] theorem backR_nil (ρ ρ' : List SD) : backR ρ ρ' [] = ρ' := (rfl)
@[simp] theorem backR_cons (ρ ρ' : List SD) (v : Nat) (vs : List Nat) : backR ρ ρ' (v :: vs) = (backR ρ ρ' vs).set v (keptSD ρ[v]?) := (rfl)
@[simp] theorem kept_sh (d : D) : keptSD (some (.sh d)) = .sh d := (rfl)
@[simp] theorem kept_no : keptSD (some .no) = .no := (rfl)
@[simp] theorem kept_own (xs : List D) : keptSD (some (.own xs)) = .no := (rfl)
@[simp] theorem lcBack_ok (vs : List Nat) (ρ : List SD) (ds : List D) (ρ' : List SD) : lcBack vs ρ (.ok (ds, ρ')) = .ok (.own ds, backR ρ ρ' vs) := (rfl)
@[simp] theorem trim_ap0 (ρ : List SD) : trim 0 ρ = [] := (rfl)
@[simp] theorem trim_ap1 (ρ : List SD) : trim 1 ρ = [trim1 (ρ[0]?.getD .no)] := (rfl)
@[simp] theorem trim_ap2 (ρ : List SD) : trim 2 ρ = [trim1 (ρ[0]?.getD .no), trim1 (ρ[1]?.getD .no)] := (rfl)
@[simp] theorem trim_ap3 (ρ : List SD) : trim 3 ρ = [trim1 (ρ[0]?.getD .no), trim1 (ρ[1]?.getD .no), trim1 (ρ[2]?.getD .no)] := (rfl)
@[simp] theorem trim1_byr (xs : List D) : trim1 (.byr xs) = .byr xs := (rfl)
@[simp] theorem trim1_own (xs : List D) : trim1 (.own xs) = .no := (rfl)
@[simp] theorem trim1_sh (d : D) : trim1 (.sh d) = .no := (rfl)
@[simp] theorem trim1_no : trim1 .no = .no := (rfl)
@[simp] theorem pI0_ev (g : Int → Int → D) (i j : Int) : pI0 g [.int i, .int j] = .ok (.sh (g i j)) := (rfl)
@[simp] theorem pI2_ev (C : Int → Int → Prop) [∀ i j, Decidable (C i j)] (g : Int → Int → D) (i j : Int) : pI2 C g [.int i, .int j] = if C i j then .ok (.sh (g i j)) else .bad := (rfl)
@[simp] theorem pAdd_int (i j : Int) : pAdd [.int i, .int j] = .ok (.sh (.int (i + j))) := (rfl)
@[simp] theorem pNeg_ev (i : Int) : pNeg [.int i] = .ok (.sh (.int (-i))) := (rfl)
@[simp] theorem cmd_iff (i j : Int) : CMd i j ↔ j ≠ 0 := Iff.rfl
/-! ### reading, writing -/
def ixO : Option D → Rs SD
  | some d => .ok (.sh d)
  | none => .bad
@[simp] theorem ixO_some (d : D) : ixO (some d) = .ok (.sh d) := (rfl)
@[simp] theorem pIx_lst (xs : List D) (i : Int) : pIx [.lst xs, .int i] = ixO (atI xs i) := by
  show (match atI xs i with | some d => _ | none => _) = _
  cases atI xs i <;> rfl
@[simp] theorem pIx_tup (xs : List D) (i : Int) : pIx [.tup xs, .int i] = ixO (atI xs i) := by
  show (match atI xs i with | some d => _ | none => _) = _
  cases atI xs i <;> rfl
theorem atI_ofNat (xs : List D) (k : Nat) (h : k < xs.length) : atI xs (k : Int) = xs[k]? := by
  unfold atI ixN
  rw [if_pos (by omega), if_pos (by omega)]
  simp
theorem atI_at (xs : List D) (i : Int) (d : D) (h0 : 0 ≤ i) (h : xs[i.toNat]? = some d) : atI xs i = some d := by
  have hl := (List.getElem?_eq_some_iff.mp h).1
  unfold atI ixN
  rw [if_pos h0, if_pos (by omega)]
  simpa using h
@[simp] theorem atI_0 (a : D) (r : List D) : atI (a :: r) 0 = some a := atI_at _ _ _ (by omega) rfl
@[simp] theorem atI_1 (a b : D) (r : List D) : atI (a :: b :: r) 1 = some b := atI_at _ _ _ (by omega) rfl
@[simp] theorem atI_2 (a b c : D) (r : List D) : atI (a :: b :: c :: r) 2 = some c := atI_at _ _ _ (by omega) rfl
theorem setAt_at (xs : List D) (i : Int) (d : D) (h0 : 0 ≤ i) (h : i.toNat < xs.length) : setAt xs i d = some (xs.set i.toNat d) := by
  unfold setAt ixN
  rw [if_pos h0, if_pos (by omega)]
  rfl
@[simp] theorem setAt_0 (a d : D) (r : List D) : setAt (a :: r) 0 d = some (d :: r) := setAt_at _ _ _ (by omega) (by simp)
@[simp] theorem setAt_1 (a b d : D) (r : List D) : setAt (a :: b :: r) 1 d = some (a :: d :: r) := setAt_at _ _ _ (by omega) (by simp)
@[simp] theorem setAt_2 (a b c d : D) (r : List D) : setAt (a :: b :: c :: r) 2 d = some (a :: b :: d :: r) := setAt_at _ _ _ (by omega) (by simp)
theorem pMul_int {i j : Int} (h : IntMulOk i j) : pMul [.int i, .int j] = .ok (.sh (.int (i * j))) := by
  show (if IntMulOk i j then _ else _) = _
  rw [if_pos h]
/-- products of small numbers -/
def Sml (b : Nat) (i : Int) : Prop := i.natAbs < 2 ^ b
theorem mul_ok {i j : Int} {b c : Nat} (hi : Sml b i) (hj : Sml c j) (hb : b ≤ 1000) (hc : c ≤ 1000) : IntMulOk i j := IntMulOk.of_bits (Nat.le_trans (intBits_le_iff.mpr hi) (Nat.le_trans hb (by decide))) (Nat.le_trans (intBits_le_iff.mpr hj) (Nat.le_trans hc (by decide)))
theorem mul_okL {i j : Int} (hi : i.natAbs < 2 ^ 64) : IntMulOk i j := IntMulOk.of_left (intBits_le_iff.mpr hi)
theorem mul_okR {i j : Int} (hj : j.natAbs < 2 ^ 64) : IntMulOk i j := IntMulOk.of_right (intBits_le_iff.mpr hj)
theorem cdv_small {i j : Int} (h : j ≠ 0) (hj : j.natAbs < 2 ^ 64) : CDv i j := ⟨h, (Nat.log2_lt (by omega)).mpr (Nat.lt_of_lt_of_le hj (Nat.pow_le_pow_right (by omega) (by omega)))⟩
end Wm
end

section
/-! Evaluation of blocks over lists that are not told item by item. -/
namespace Wm
open PySem PySem.Spec PyProof.Rows L2
variable {S : Type} {m : Itm} {st : Tg} {test : Sb} {elt : Sx} {vs : List Nat}
@[simp] theorem lcTg_some (k : List SD → Rs (List D × List SD)) (ρ : List SD) : lcTg m test elt vs k (some ρ) = lcTest m elt vs k (test ρ) := (rfl)
@[simp] theorem lcTest_true (k : List SD → Rs (List D × List SD)) (ρ : List SD) : lcTest m elt vs k (.ok (true, ρ)) = lcElt m vs k (elt ρ) := (rfl)
@[simp] theorem lcTest_false (k : List SD → Rs (List D × List SD)) (ρ : List SD) : lcTest m elt vs k (.ok (false, ρ)) = if m.keep (wipeR ρ vs) then k (wipeR ρ vs) else .bad := (rfl)
@[simp] theorem lcElt_ok (k : List SD → Rs (List D × List SD)) (r : SD) (ρ : List SD) : lcElt m vs k (.ok (r, ρ)) = if m.keep (wipeR ρ vs) then (k (wipeR ρ vs)).bind fun q => .ok (r.frz :: q.1, q.2) else .bad := (rfl)
@[simp] theorem lcGo_ap (m : Itm) (ρ : List SD) : lcGo st test elt vs m ρ = if m.keep (wipeR ρ vs) ∧ (∀ b ∈ m.bor, b.1 ∉ vs) then lcBack vs ρ (lcL m st test elt vs m.xs (wipeR ρ vs)) else .bad := (rfl)
/-- each turn gives a thing and goes on -/
theorem lc_ex {P : D → D → Prop} (R : S → List SD) : ∀ {ds : List D}, (∀ s, ∀ d ∈ ds, ∃ v s', P d v ∧ ∀ k, lcTg m test elt vs k (st d (R s)) = (k (R s')).bind fun q => .ok (v :: q.1, q.2)) → ∀ s, ∃ ws s', lcL m st test elt vs ds (R s) = .ok (ws, R s') ∧ ws.length = ds.length ∧ ∀ (i : Nat) d v, ds[i]? = some d → ws[i]? = some v → P d v
  | [], _, s => ⟨[], s, rfl, rfl, fun i d v h => by simp at h⟩
  | d :: ds, h, s => by
    obtain ⟨v, s1, hp, e⟩ := h s d (by simp)
    obtain ⟨ws, s2, e2, hl, hw⟩ := lc_ex R (ds := ds) (fun s d hd => h s d (List.mem_cons_of_mem _ hd)) s1
    refine ⟨v :: ws, s2, ?_, by simp [hl], fun i d' v' h1 h2 => ?_⟩
    · rw [lcL_cons, e, e2]
      rfl
    · cases i with
      | zero => simp at h1 h2; subst h1 h2; exact hp
      | succ i => exact hw i d' v' (by simpa using h1) (by simpa using h2)
/-- no state: each turn gives f of its item -/
theorem lc_map {f : D → D} {ρ : List SD} : ∀ {ds : List D}, (∀ d ∈ ds, ∀ k, lcTg m test elt vs k (st d ρ) = (k ρ).bind fun q => .ok (f d :: q.1, q.2)) → lcL m st test elt vs ds ρ = .ok (ds.map f, ρ)
  | [], _ => rfl
  | d :: ds, h => by
    rw [lcL_cons, h d (by simp), lc_map fun d hd => h d (List.mem_cons_of_mem _ hd)]
    rfl
/-- a loop that goes through -/
theorem for_inv {body : Ss} (I : List D → List SD → Prop) : ∀ {ds : List D}, (∀ d ds ρ, I (d :: ds) ρ → ∃ ρ', I ds ρ' ∧ ∀ k, forT body k (st d ρ) = k ρ') → ∀ {ρ : List SD}, I ds ρ → ∃ ρ', I [] ρ' ∧ forL st body ds ρ = .ok (.nx ρ')
  | [], _, ρ, h => ⟨ρ, h, rfl⟩
  | d :: ds, h, ρ, hi => by
    obtain ⟨ρ1, h1, e1⟩ := h d ds ρ hi
    obtain ⟨ρ2, h2, e2⟩ := for_inv I (ds := ds) h h1
    exact ⟨ρ2, h2, by rw [forL_cons, e1, e2]⟩
@[simp] theorem rng1_ev (ρ : List SD) (j : Int) : rng1 ρ [.int j] = if rngOk j ∧ j.toNat ≤ sizeLine then .ok (⟨rangeD 0 j.toNat, []⟩, ρ) else .bad := (rfl)
@[simp] theorem rng2_ev (ρ : List SD) (i j : Int) : rng2 ρ [.int i, .int j] = if rngOk i ∧ rngOk j ∧ (j - i).toNat ≤ sizeLine then .ok (⟨rangeD i (j - i).toNat, []⟩, ρ) else .bad := (rfl)
theorem rngOk_nat (n : Nat) (h : n < 2 ^ 62) : rngOk (n : Int) := ⟨by omega, by omega⟩
theorem rangeD_len (lo : Int) (n : Nat) : (rangeD lo n).length = n := by simp [rangeD]
theorem rangeD_get {lo : Int} {n i : Nat} (h : i < n) : (rangeD lo n)[i]? = some (.int (lo + i)) := by
  unfold rangeD
  rw [List.getElem?_map, List.getElem?_range h]
  rfl
theorem rangeD_mem {lo : Int} {n : Nat} {d : D} (h : d ∈ rangeD lo n) : ∃ i, i < n ∧ d = .int (lo + (i : Nat)) := by
  unfold rangeD at h
  obtain ⟨i, hi, rfl⟩ := List.mem_map.mp h
  exact ⟨i, List.mem_range.mp hi, rfl⟩
@[simp] theorem pList_lst (xs : List D) : pList [.lst xs] = .ok (.own xs) := (rfl)
@[simp] theorem pTuple_lst (xs : List D) : pTuple [.lst xs] = .ok (.sh (.tup xs)) := (rfl)
@[simp] theorem pTuple_tup (xs : List D) : pTuple [.tup xs] = .ok (.sh (.tup xs)) := (rfl)
@[simp] theorem pInt_int (i : Int) : pInt [.int i] = .ok (.sh (.int i)) := (rfl)
@[simp] theorem pInt_bl (b : Bool) : pInt [.bl b] = .ok (.sh (.int (if b then 1 else 0))) := (rfl)
@[simp] theorem pLen_lst (xs : List D) : pLen [.lst xs] = .ok (.sh (.int xs.length)) := (rfl)
@[simp] theorem pLen_tup (xs : List D) : pLen [.tup xs] = .ok (.sh (.int xs.length)) := (rfl)
@[simp] theorem pEq_ev (x y : D) : pEq [x, y] = if okD x && okD y then .ok (.sh (.bl (eqD x y))) else .bad := (rfl)
@[simp] theorem pNe_ev (x y : D) : pNe [x, y] = if okD x && okD y then .ok (.sh (.bl (!eqD x y))) else .bad := (rfl)
@[simp] theorem okN_int (n : Nat) (i : Int) : okN n (.int i) = true := by cases n <;> rfl
@[simp] theorem okN_bl (n : Nat) (i : Bool) : okN n (.bl i) = true := by cases n <;> rfl
@[simp] theorem okN_non (n : Nat) : okN n .non = true := by cases n <;> rfl
@[simp] theorem okN_tup (n : Nat) (xs : List D) : okN (n + 1) (.tup xs) = okNs n xs := (rfl)
@[simp] theorem okN_lst (n : Nat) (xs : List D) : okN (n + 1) (.lst xs) = okNs n xs := (rfl)
@[simp] theorem okNs_nil (n : Nat) : okNs n [] = true := by cases n <;> rfl
@[simp] theorem okNs_cons (n : Nat) (x : D) (xs : List D) : okNs n (x :: xs) = (okN n x && okNs n xs) := by cases n <;> rfl
@[simp] theorem eqD_int (i j : Int) : eqD (.int i) (.int j) = (i == j) := (rfl)
@[simp] theorem eqD_lst (xs ys : List D) : eqD (.lst xs) (.lst ys) = eqDs xs ys := (rfl)
@[simp] theorem eqD_tup (xs ys : List D) : eqD (.tup xs) (.tup ys) = eqDs xs ys := (rfl)
@[simp] theorem eqDs_nil : eqDs [] [] = true := (rfl)
@[simp] theorem eqDs_cons (x y : D) (xs ys : List D) : eqDs (x :: xs) (y :: ys) = (eqD x y && eqDs xs ys) := (rfl)
@[simp] theorem eqDs_nil_cons (y : D) (ys : List D) : eqDs [] (y :: ys) = false := (rfl)
@[simp] theorem eqDs_cons_nil (y : D) (ys : List D) : eqDs (y :: ys) [] = false := (rfl)
@[simp] theorem lent_nil : lent [] = [] := (rfl)
@[simp] theorem lent_byr (xs : List D) (i : Nat) (r : List (SD × Option Nat)) : lent ((.byr xs, some i) :: r) = i :: lent r := (rfl)
@[simp] theorem lent_sh (d : D) (o : Option Nat) (r : List (SD × Option Nat)) : lent ((.sh d, o) :: r) = lent r := (rfl)
@[simp] theorem back_nil (as ρ : List SD) : backAll [] as ρ = ρ := (rfl)
@[simp] theorem back_byr (xs : List D) (i : Nat) (r : List (SD × Option Nat)) (s : SD) (ss ρ : List SD) : backAll ((.byr xs, some i) :: r) (s :: ss) ρ = (backAll r ss ρ).set i (backS (ρ[i]?.getD .no) s) := (rfl)
@[simp] theorem back_sh (d : D) (o : Option Nat) (r : List (SD × Option Nat)) (s : SD) (ss ρ : List SD) : backAll ((.sh d, o) :: r) (s :: ss) ρ = backAll r ss ρ := (rfl)
@[simp] theorem backS_own (xs ys : List D) : backS (.own xs) (.byr ys) = .own ys := (rfl)
@[simp] theorem backS_byr (xs ys : List D) : backS (.byr xs) (.byr ys) = .byr ys := (rfl)
@[simp] theorem setAll_nil (ρ : List SD) : setAll [] [] ρ = .ok ρ := (rfl)
@[simp] theorem setAll_cons (i : Nat) (is : List Nat) (d : D) (ds : List D) (ρ : List SD) : setAll (i :: is) (d :: ds) ρ = setAll is ds (ρ.set i (.sh d)) := (rfl)
@[simp] theorem pAdd_tup (xs ys : List D) : pAdd [.tup xs, .tup ys] = if xs.length + ys.length ≤ sizeLine then .ok (.sh (.tup (xs ++ ys))) else .bad := (rfl)
@[simp] theorem pAdd_lst (xs ys : List D) : pAdd [.lst xs, .lst ys] = if xs.length + ys.length ≤ sizeLine then .ok (.own (xs ++ ys)) else .bad := (rfl)
@[simp] theorem pAdd_scr (ns : List Int) (ys : List D) : pAdd [.scr ns, .lst ys] = if ns.length + ys.length ≤ sizeLine then .ok (.own (ns.map .int ++ ys)) else .bad := (rfl)
@[simp] theorem isi_ev (t : BT) (d : D) : pIsi t [d] = match isB t d with | some b => .ok (.sh (.bl b)) | none => .bad := (rfl)
end Wm
end

section
namespace Wm
open PySem PySem.Spec PyProof.Rows L2
variable {α : Type}
theorem cut_lo (xs : List α) (i : Int) (h : 0 ≤ i) : cutL xs (some i) none = xs.drop i.toNat := by
  unfold cutL HT.sIx
  dsimp only
  rw [if_neg (by omega)]
  apply List.ext_getElem?
  intro k
  rw [List.getElem?_take]
  split
  · rename_i hk
    rw [List.getElem?_drop, List.getElem?_drop]
    by_cases h2 : i.toNat ≤ xs.length
    · rw [Nat.min_eq_left h2]
    · rw [Nat.min_eq_right (by omega)] at hk ⊢
      omega
  · rename_i hk
    rw [List.getElem?_drop]
    symm
    apply List.getElem?_eq_none
    by_cases h2 : i.toNat ≤ xs.length
    · rw [Nat.min_eq_left h2] at hk; omega
    · omega
theorem cut_hi (xs : List α) (i : Int) (h : 0 ≤ i) : cutL xs none (some i) = xs.take i.toNat := by
  unfold cutL HT.sIx
  dsimp only
  rw [if_neg (by omega), List.drop_zero, Nat.sub_zero]
  by_cases h2 : i.toNat ≤ xs.length
  · rw [Nat.min_eq_left h2]
  · rw [Nat.min_eq_right (by omega), List.take_of_length_le (Nat.le_refl _), List.take_of_length_le (by omega)]
theorem slLo_lst (xs : List D) (i : Int) (h : 0 ≤ i) : pSlLo [.lst xs, .int i] = .ok (.own (xs.drop i.toNat)) := by
  show Rs.ok (SD.own (cutL xs (some i) none)) = _
  rw [cut_lo xs i h]
theorem slLo_tup (xs : List D) (i : Int) (h : 0 ≤ i) : pSlLo [.tup xs, .int i] = .ok (.sh (.tup (xs.drop i.toNat))) := by
  show Rs.ok (SD.sh (.tup (cutL xs (some i) none))) = _
  rw [cut_lo xs i h]
theorem slHi_lst (xs : List D) (i : Int) (h : 0 ≤ i) : pSlHi [.lst xs, .int i] = .ok (.own (xs.take i.toNat)) := by
  show Rs.ok (SD.own (cutL xs none (some i))) = _
  rw [cut_hi xs i h]
theorem slHi_tup (xs : List D) (i : Int) (h : 0 ≤ i) : pSlHi [.tup xs, .int i] = .ok (.sh (.tup (xs.take i.toNat))) := by
  show Rs.ok (SD.sh (.tup (cutL xs none (some i)))) = _
  rw [cut_hi xs i h]
@[simp] theorem rangeD_0 (n : Nat) : rangeD 0 n = (List.range n).map fun (k : Nat) => D.int k := by
  unfold rangeD
  exact List.map_congr_left fun k _ => by rw [Int.zero_add]
section
variable {S : Type} {m : Itm} {st : Tg} {test : Sb} {elt : Sx} {vs : List Nat}
theorem lc_rg {n : Nat} {g f : Nat → D} {ρ : List SD} (h : ∀ j, j < n → ∀ k, lcTg m test elt vs k (st (g j) ρ) = (k ρ).bind fun q => .ok (f j :: q.1, q.2)) : lcL m st test elt vs ((List.range n).map g) ρ = .ok ((List.range n).map f, ρ) := by
  have key : ∀ (l : List Nat), (∀ j ∈ l, j < n) → lcL m st test elt vs (l.map g) ρ = .ok (l.map f, ρ) := by
    intro l
    induction l with
    | nil => intro _; rfl
    | cons j l ih =>
      intro hl
      rw [List.map_cons, lcL_cons, h j (hl j (by simp)), ih fun i hi => hl i (List.mem_cons_of_mem _ hi)]
      rfl
  exact key _ fun j hj => List.mem_range.mp hj
theorem lc_use {P : D → D → Prop} {ds : List D} {ρ : List SD} {L : Rs (List D × List SD)} (hL : lcL m st test elt vs ds ρ = L) (R : S → List SD) (s : S) (hρ : ρ = R s)
    (h : ∀ s, ∀ d ∈ ds, ∃ v s', P d v ∧ ∀ k, lcTg m test elt vs k (st d (R s)) = (k (R s')).bind fun q => .ok (v :: q.1, q.2)) : ∃ ws s', L = .ok (ws, R s') ∧ ws.length = ds.length ∧ ∀ (i : Nat) d v, ds[i]? = some d → ws[i]? = some v → P d v := by
  subst hρ
  obtain ⟨ws, s', e, hl, hp⟩ := lc_ex R h s
  exact ⟨ws, s', hL.symm.trans e, hl, hp⟩
theorem for_use {body : Ss} {ds : List D} {ρ : List SD} {L : Rs Fl} (hL : forL st body ds ρ = L) (I : List D → List SD → Prop) (h0 : I ds ρ) (h : ∀ d ds ρ, I (d :: ds) ρ → ∃ ρ', I ds ρ' ∧ ∀ k, forT body k (st d ρ) = k ρ') : ∃ ρ', I [] ρ' ∧ L = .ok (.nx ρ') := by
  obtain ⟨ρ', h1, e⟩ := for_inv I h h0
  exact ⟨ρ', h1, hL.symm.trans e⟩
end
/-! ### rows and grids -/
def rw (m : Nat) (f : Nat → Int) : D := .tup ((List.range m).map fun j => .int (f j))
def gr (m : Nat) (A : Nat → Nat → Int) : List D := (List.range m).map fun i => rw m (A i)
theorem gr_len (m : Nat) (A : Nat → Nat → Int) : (gr m A).length = m := by simp [gr]
theorem gr_get {m i : Nat} {A : Nat → Nat → Int} (h : i < m) : (gr m A)[i]? = some (rw m (A i)) := by
  unfold gr
  rw [List.getElem?_map, List.getElem?_range h]
  rfl
theorem rg_get {α : Type} {m j : Nat} {f : Nat → α} (h : j < m) : ((List.range m).map f)[j]? = some (f j) := by
  rw [List.getElem?_map, List.getElem?_range h]
  rfl
theorem rw_congr {m : Nat} {f g : Nat → Int} (h : ∀ j, j < m → f j = g j) : rw m f = rw m g := by
  unfold rw
  congr 1
  exact List.map_congr_left fun j hj => by rw [h j (List.mem_range.mp hj)]
theorem gr_congr {m : Nat} {A B : Nat → Nat → Int} (h : ∀ i j, i < m → j < m → A i j = B i j) : gr m A = gr m B := by
  unfold gr
  exact List.map_congr_left fun i hi => rw_congr fun j hj => h i j (List.mem_range.mp hi) hj
/-- a list of as many as there are, told place by place -/
theorem rg_of {α : Type} {m : Nat} {xs : List α} {f : Nat → α} (hl : xs.length = m) (h : ∀ i, i < m → xs[i]? = some (f i)) : xs = (List.range m).map f := by
  apply List.ext_getElem?
  intro i
  by_cases hi : i < m
  · rw [h i hi, rg_get hi]
  · rw [List.getElem?_eq_none (by omega), List.getElem?_eq_none (by simp; omega)]
def RowOk (m b : Nat) (d : D) : Prop := ∃ f : Nat → Int, d = rw m f ∧ ∀ j, j < m → (f j).natAbs ≤ b
def GrOk (m b : Nat) (xs : List D) : Prop := xs.length = m ∧ ∀ x ∈ xs, RowOk m b x
theorem GrOk.ex {m b : Nat} {xs : List D} (h : GrOk m b xs) : ∃ A, xs = gr m A ∧ ∀ i j, i < m → j < m → (A i j).natAbs ≤ b := by
  obtain ⟨hl, hr⟩ := h
  have : ∀ i, ∃ f : Nat → Int, i < m → xs[i]? = some (rw m f) ∧ ∀ j, j < m → (f j).natAbs ≤ b := fun i => by
    by_cases hi : i < m
    · have hi' : i < xs.length := by omega
      obtain ⟨f, e, hf⟩ := hr xs[i] (List.getElem_mem hi')
      exact ⟨f, fun _ => ⟨by rw [List.getElem?_eq_getElem hi', e], hf⟩⟩
    · exact ⟨fun _ => 0, fun z => absurd z hi⟩
  refine ⟨fun i => Classical.choose (this i), rg_of hl fun i hi => (Classical.choose_spec (this i) hi).1, fun i j hi hj => (Classical.choose_spec (this i) hi).2 j hj⟩
theorem GrOk.of {m b : Nat} {A : Nat → Nat → Int} (h : ∀ i j, i < m → j < m → (A i j).natAbs ≤ b) : GrOk m b (gr m A) := by
  refine ⟨gr_len m A, fun x hx => ?_⟩
  unfold gr at hx
  obtain ⟨i, hi, rfl⟩ := List.mem_map.mp hx
  exact ⟨A i, rfl, fun j hj => h i j (List.mem_range.mp hi) hj⟩
theorem GrOk.mono {m b c : Nat} {xs : List D} (h : GrOk m b xs) (hb : b ≤ c) : GrOk m c xs :=
  ⟨h.1, fun x hx => by obtain ⟨f, e, hf⟩ := h.2 x hx; exact ⟨f, e, fun j hj => Nat.le_trans (hf j hj) hb⟩⟩
theorem GrOk.set {m b i : Nat} {xs : List D} {x : D} (h : GrOk m b xs) (hx : RowOk m b x) : GrOk m b (xs.set i x) :=
  ⟨by rw [List.length_set]; exact h.1, fun y hy => by
    rcases List.mem_or_eq_of_mem_set hy with z | z
    · exact h.2 y z
    · rw [z]; exact hx⟩
theorem GrOk.get {m b i : Nat} {xs : List D} (h : GrOk m b xs) (hi : i < m) : ∃ x, xs[i]? = some x ∧ RowOk m b x := by
  have hi' : i < xs.length := by rw [h.1]; exact hi
  exact ⟨xs[i], List.getElem?_eq_getElem hi', h.2 _ (List.getElem_mem hi')⟩
theorem rw_zip {m : Nat} {f g : Nat → Int} : zipD ((List.range m).map fun j => D.int (f j)) ((List.range m).map fun j => D.int (g j)) = (List.range m).map fun j => D.tup [.int (f j), .int (g j)] := by
  unfold zipD
  refine rg_of (by simp) fun i hi => ?_
  rw [List.getElem?_zipWith, rg_get hi, rg_get hi]
theorem gr_set {m i : Nat} {A : Nat → Nat → Int} {f : Nat → Int} : (gr m A).set i (rw m f) = gr m (fun r j => if r = i then f j else A r j) := by
  refine rg_of (by rw [List.length_set, gr_len]) fun k hk => ?_
  by_cases e : i = k
  · subst e
    rw [List.getElem?_set_self (by rw [gr_len]; exact hk)]
    simp
  · rw [List.getElem?_set_ne e, gr_get hk]
    congr 2
    funext j
    exact (if_neg (Ne.symm e)).symm
theorem okNs_map {n : Nat} {f : Nat → D} : ∀ {l : List Nat}, (∀ i ∈ l, okN n (f i) = true) → okNs n (l.map f) = true
  | [], _ => by simp
  | i :: l, h => by
    rw [List.map_cons, okNs_cons, h i (by simp), okNs_map fun j hj => h j (List.mem_cons_of_mem _ hj)]
    rfl
theorem okN_rw {n m : Nat} {f : Nat → Int} : okN (n + 1) (rw m f) = true := okNs_map fun _ _ => okN_int _ _
theorem ok_gr {m : Nat} {A : Nat → Nat → Int} : okN 60 (.lst (gr m A)) = true := okNs_map (n := 59) fun _ _ => okN_rw
theorem eqDs_map {f : Nat → D} : ∀ {l : List Nat}, (∀ i ∈ l, eqD (f i) (f i) = true) → eqDs (l.map f) (l.map f) = true
  | [], _ => rfl
  | i :: l, h => by
    rw [List.map_cons, eqDs_cons, h i (by simp), eqDs_map fun j hj => h j (List.mem_cons_of_mem _ hj)]
    rfl
theorem eq_rw {m : Nat} {f : Nat → Int} : eqD (rw m f) (rw m f) = true := eqDs_map fun _ _ => by simp
theorem eq_gr {m : Nat} {A : Nat → Nat → Int} : eqD (.lst (gr m A)) (.lst (gr m A)) = true := eqDs_map fun _ _ => eq_rw
end Wm
namespace Wm
open PySem PySem.Spec PyProof.Rows L2
theorem ints_of {n b : Nat} {ws : List D} (hl : ws.length = n) (h : ∀ (i : Nat) v, ws[i]? = some v → ∃ x : Int, v = .int x ∧ x.natAbs ≤ b) : ∃ f : Nat → Int, ws = (List.range n).map (fun j => D.int (f j)) ∧ ∀ j, j < n → (f j).natAbs ≤ b := by
  have : ∀ i, ∃ x : Int, i < n → ws[i]? = some (.int x) ∧ x.natAbs ≤ b := fun i => by
    by_cases hi : i < n
    · have hi' : i < ws.length := by omega
      obtain ⟨x, e, hx⟩ := h i ws[i] (List.getElem?_eq_getElem hi')
      exact ⟨x, fun _ => ⟨by rw [List.getElem?_eq_getElem hi', e], hx⟩⟩
    · exact ⟨0, fun z => absurd z hi⟩
  exact ⟨fun i => Classical.choose (this i), rg_of hl fun i hi => (Classical.choose_spec (this i) hi).1, fun j hj => (Classical.choose_spec (this j) hj).2⟩
theorem setAt_last (xs : List D) (d : D) (h : 0 < xs.length) : setAt xs (-1) d = some (xs.set (xs.length - 1) d) := by
  unfold setAt ixN
  rw [if_neg (by omega), if_pos (by omega)]
  have : (-1 + (xs.length : Int)).toNat = xs.length - 1 := by omega
  rw [this]
  rfl
theorem atI_nth {xs : List D} {k : Nat} {d : D} (h : xs[k]? = some d) : atI xs (k : Int) = some d := atI_at _ _ _ (by omega) (by simpa using h)
theorem setAt_nth {xs : List D} {k : Nat} (d : D) (h : k < xs.length) : setAt xs (k : Int) d = some (xs.set k d) := by
  rw [setAt_at _ _ _ (by omega) (by simpa using h)]
  simp
theorem enum_gr {m : Nat} {A : Nat → Nat → Int} : enumD (gr m A) = (List.range m).map fun i => D.tup [.int (i : Nat), rw m (A i)] := by
  unfold enumD
  refine rg_of (by rw [List.length_mapIdx, gr_len]) fun i hi => ?_
  rw [List.getElem?_mapIdx, gr_get hi]
  rfl
theorem rw_eq (m : Nat) (f : Nat → Int) : rw m f = .tup ((List.range m).map fun j => .int (f j)) := rfl
theorem pMul_rep (xs : List D) (k : Int) (h : -1000 ≤ k ∧ k ≤ 1000) (h2 : xs.length ≤ 1000) : pMul [.tup xs, .int k] = .ok (.sh (.tup (List.replicate k.toNat xs).flatten)) := by
  show (if -(2 ^ 63) ≤ k ∧ k ≤ 1000 ∧ xs.length ≤ 1000 then _ else _) = _
  rw [if_pos ⟨by omega, h.2, h2⟩]
theorem szl : sizeLine = 16777216 := by decide
end Wm
namespace Wm
open PySem PySem.Spec PyProof.Rows L2
theorem for_rg {st : Tg} {body : Ss} {n : Nat} {g : Nat → D} {ρ : List SD} {L : Rs Fl} (hL : forL st body ((List.range n).map g) ρ = L) (I : Nat → List SD → Prop) (h0 : I 0 ρ) (h : ∀ i ρ, i < n → I i ρ → ∃ ρ', I (i + 1) ρ' ∧ ∀ k, forT body k (st (g i) ρ) = k ρ') : ∃ ρ', I n ρ' ∧ L = .ok (.nx ρ') := by
  have key : ∀ (m i : Nat) (ρ : List SD), i + m = n → I i ρ → ∃ ρ', I n ρ' ∧ forL st body (((List.range n).map g).drop i) ρ = .ok (.nx ρ') := by
    intro m
    induction m with
    | zero =>
      intro i ρ e hi
      have : ((List.range n).map g).drop i = [] := List.drop_eq_nil_of_le (by simp; omega)
      rw [this]
      have e2 : i = n := by omega
      subst e2
      exact ⟨ρ, hi, rfl⟩
    | succ m ih =>
      intro i ρ e hi
      have hin : i < n := by omega
      obtain ⟨ρ1, h1, e1⟩ := h i ρ hin hi
      obtain ⟨ρ2, h2, e2⟩ := ih (i + 1) ρ1 (by omega) h1
      refine ⟨ρ2, h2, ?_⟩
      have hd : ((List.range n).map g).drop i = g i :: ((List.range n).map g).drop (i + 1) := by
        rw [List.drop_eq_getElem_cons (by simpa using hin)]
        simp
      rw [hd, forL_cons, e1, e2]
  obtain ⟨ρ', h1, h2⟩ := key n 0 ρ (by omega) h0
  exact ⟨ρ', h1, hL.symm.trans h2⟩
theorem enum_rg {m : Nat} {g : Nat → D} : enumD ((List.range m).map g) = (List.range m).map fun i => D.tup [.int (i : Nat), g i] := by
  unfold enumD
  refine rg_of (by simp) fun i hi => ?_
  rw [List.getElem?_mapIdx, rg_get hi]
  rfl
end Wm
namespace Wm
open PySem PySem.Spec PyProof.Rows L2
theorem of_ws {α : Type} [Inhabited α] {mk : α → D} {Q : Nat → α → Prop} {n : Nat} {ws : List D} (hl : ws.length = n) (h : ∀ (i : Nat) v, i < n → ws[i]? = some v → ∃ x, v = mk x ∧ Q i x) : ∃ f : Nat → α, ws = (List.range n).map (fun j => mk (f j)) ∧ ∀ j, j < n → Q j (f j) := by
  have : ∀ i, ∃ x : α, i < n → ws[i]? = some (mk x) ∧ Q i x := fun i => by
    by_cases hi : i < n
    · have hi' : i < ws.length := by omega
      obtain ⟨x, e, hx⟩ := h i ws[i] hi (List.getElem?_eq_getElem hi')
      exact ⟨x, fun _ => ⟨by rw [List.getElem?_eq_getElem hi', e], hx⟩⟩
    · exact ⟨default, fun z => absurd z hi⟩
  exact ⟨fun i => Classical.choose (this i), rg_of hl fun i hi => (Classical.choose_spec (this i) hi).1, fun j hj => (Classical.choose_spec (this j) hj).2⟩
end Wm
end

section
/-! Determinants of grids, by the first row; exchanged rows, added rows, triangles. -/
namespace Dt
def sm : Nat → (Nat → Int) → Int
  | 0, _ => 0
  | n + 1, f => sm n f + f n
theorem sm_congr {f g : Nat → Int} : ∀ {n : Nat}, (∀ i, i < n → f i = g i) → sm n f = sm n g
  | 0, _ => rfl
  | n + 1, h => by
    unfold sm
    rw [sm_congr fun i hi => h i (Nat.lt_succ_of_lt hi), h n (Nat.lt_succ_self n)]
theorem sm_add {f g : Nat → Int} : ∀ {n : Nat}, sm n (fun i => f i + g i) = sm n f + sm n g
  | 0 => rfl
  | n + 1 => by
    show sm n (fun i => f i + g i) + (f n + g n) = (sm n f + f n) + (sm n g + g n)
    rw [sm_add]; omega
theorem sm_mul {c : Int} {f : Nat → Int} : ∀ {n : Nat}, sm n (fun i => c * f i) = c * sm n f
  | 0 => by simp [sm]
  | n + 1 => by
    unfold sm
    rw [sm_mul, Int.mul_add]
theorem sm_neg {f : Nat → Int} : ∀ {n : Nat}, sm n (fun i => - f i) = - sm n f
  | 0 => rfl
  | n + 1 => by
    show sm n (fun i => - f i) + - f n = - (sm n f + f n)
    rw [sm_neg]; omega
theorem sm_zero : ∀ {n : Nat}, sm n (fun _ => 0) = 0
  | 0 => rfl
  | n + 1 => by
    unfold sm
    rw [sm_zero]; rfl
theorem sm_swap {f : Nat → Nat → Int} {m : Nat} : ∀ {n : Nat}, sm n (fun i => sm m (f i)) = sm m (fun j => sm n (fun i => f i j))
  | 0 => by
    show 0 = sm m fun _ => 0
    rw [sm_zero]
  | n + 1 => by
    show sm n (fun i => sm m (f i)) + sm m (f n) = sm m (fun j => sm n (fun i => f i j) + f n j)
    rw [sm_add, sm_swap]
/-- the first summand apart -/
theorem sm_first {f : Nat → Int} : ∀ {n : Nat}, sm (n + 1) f = f 0 + sm n (fun i => f (i + 1))
  | 0 => by simp [sm]
  | n + 1 => by
    rw [sm, sm_first (n := n), sm]; omega
def sk (k j : Nat) : Nat := if j < k then j else j + 1
def us (k l : Nat) : Nat := if l < k then l else l - 1
/-- a sum over all places but one -/
theorem sm_skip {F : Nat → Int} {k : Nat} : ∀ {n : Nat}, k ≤ n → sm n (fun j => F (sk k j)) = sm (n + 1) (fun l => if l = k then 0 else F l)
  | 0, h => by
    have : k = 0 := by omega
    subst this
    simp [sm]
  | n + 1, h => by
    by_cases e : k = n + 1
    · subst e
      have h1 : sm (n + 1) (fun j => F (sk (n + 1) j)) = sm (n + 1) (fun l => if l = n + 1 then 0 else F l) := sm_congr fun i hi => by
        rw [if_neg (by omega)]
        unfold sk
        rw [if_pos hi]
      rw [h1]
      conv => rhs; rw [sm]
      rw [if_pos rfl]; omega
    · have hk : k ≤ n := by omega
      have h1 : sk k n = n + 1 := by unfold sk; rw [if_neg (by omega)]
      rw [sm, sm_skip hk, h1]
      conv => rhs; rw [sm]
      rw [if_neg (by omega)]
def sg (k : Nat) : Int := if k % 2 = 0 then 1 else -1
theorem sg_succ (k : Nat) : sg (k + 1) = - sg k := by
  unfold sg
  by_cases h : k % 2 = 0
  · rw [if_pos h, if_neg (by omega)]
  · rw [if_neg h, if_pos (by omega)]; rfl
abbrev Mt := Nat → Nat → Int
def mi (k : Nat) (A : Mt) : Mt := fun i j => A (i + 1) (sk k j)
def det : Nat → Mt → Int
  | 0, _ => 1
  | n + 1, A => sm (n + 1) fun k => sg k * A 0 k * det n (mi k A)
theorem det_congr : ∀ {n : Nat} {A B : Mt}, (∀ i j, i < n → j < n → A i j = B i j) → det n A = det n B
  | 0, _, _, _ => rfl
  | n + 1, A, B, h => by
    unfold det
    refine sm_congr fun k hk => ?_
    rw [h 0 k (by omega) hk, det_congr (A := mi k A) (B := mi k B) fun i j hi hj => h _ _ (by omega) (by unfold sk; split <;> omega)]
def sr (i : Nat) (u : Nat → Int) (A : Mt) : Mt := fun r j => if r = i then u j else A r j
theorem mi_sr0 {u : Nat → Int} {A : Mt} {k : Nat} : mi k (sr 0 u A) = mi k A := by
  funext i j
  unfold mi sr
  rw [if_neg (by omega)]
theorem mi_srS {u : Nat → Int} {A : Mt} {k i : Nat} : mi k (sr (i + 1) u A) = sr i (fun j => u (sk k j)) (mi k A) := by
  funext r j
  unfold mi sr
  by_cases h : r = i
  · rw [if_pos (by omega), if_pos h]
  · rw [if_neg (by omega), if_neg h]
theorem det_lin {x y : Int} : ∀ {n i : Nat} {u v : Nat → Int} {A : Mt}, i < n → det n (sr i (fun j => x * u j + y * v j) A) = x * det n (sr i u A) + y * det n (sr i v A)
  | 0, _, _, _, _, h => by omega
  | n + 1, 0, u, v, A, _ => by
    unfold det
    rw [← sm_mul, ← sm_mul, ← sm_add]
    refine sm_congr fun k hk => ?_
    rw [mi_sr0, mi_sr0, mi_sr0]
    have e : ∀ w : Nat → Int, sr 0 w A 0 k = w k := fun w => if_pos rfl
    rw [e, e, e]
    grind
  | n + 1, i + 1, u, v, A, h => by
    unfold det
    rw [← sm_mul, ← sm_mul, ← sm_add]
    refine sm_congr fun k hk => ?_
    rw [mi_srS, mi_srS, mi_srS, det_lin (by omega)]
    have e : ∀ w : Nat → Int, sr (i + 1) w A 0 k = A 0 k := fun w => if_neg (by omega)
    rw [e, e, e]
    grind
def tw (a b r : Nat) : Nat := if r = a then b else if r = b then a else r
def sw (a b : Nat) (A : Mt) : Mt := fun r j => A (tw a b r) j
theorem mi_sw {k i : Nat} {A : Mt} : mi k (sw (i + 1) (i + 2) A) = sw i (i + 1) (mi k A) := by
  funext r j
  unfold mi sw
  congr 1
  unfold tw
  repeat' split
  all_goals omega
/-- the first two rows told -/
theorem det_two (n : Nat) (A : Mt) : det (n + 2) A = sm (n + 2) fun k => sm (n + 2) fun l => if l = k then 0 else sg k * sg (us k l) * (A 0 k * A 1 l) * det n (fun i c => A (i + 2) (sk k (sk (us k l) c))) := by
  show (sm (n + 2) fun k => sg k * A 0 k * (sm (n + 1) fun j => sg j * mi k A 0 j * det n (mi j (mi k A)))) = _
  refine sm_congr fun k hk => ?_
  rw [← sm_mul]
  have e := sm_skip (F := fun l => sg k * sg (us k l) * (A 0 k * A 1 l) * det n (fun i c => A (i + 2) (sk k (sk (us k l) c)))) (show k ≤ n + 1 by omega)
  rw [← e]
  refine sm_congr fun j hj => ?_
  have hu : us k (sk k j) = j := by
    unfold us sk
    by_cases h : j < k
    · rw [if_pos h, if_pos h]
    · rw [if_neg h, if_neg (by omega)]; omega
  rw [hu]
  show sg k * A 0 k * (sg j * A 1 (sk k j) * det n (fun i c => A (i + 2) (sk k (sk j c)))) = _
  grind
theorem det_sw0 (n : Nat) (A : Mt) : det (n + 2) (sw 0 1 A) = - det (n + 2) A := by
  rw [det_two, det_two, sm_swap, ← sm_neg]
  refine sm_congr fun k hk => ?_
  rw [← sm_neg]
  refine sm_congr fun l hl => ?_
  by_cases e : l = k
  · rw [if_pos e, if_pos e.symm]; rfl
  · rw [if_neg e, if_neg (Ne.symm e)]
    have e1 : (fun i c => sw 0 1 A (i + 2) (sk l (sk (us l k) c))) = (fun i c => A (i + 2) (sk k (sk (us k l) c))) := by
      funext i c
      unfold sw
      have : tw 0 1 (i + 2) = i + 2 := by unfold tw; rw [if_neg (by omega), if_neg (by omega)]
      rw [this]
      congr 1
      unfold sk us
      repeat' split
      all_goals omega
    rw [e1]
    have e2 : sg l * sg (us l k) = - (sg k * sg (us k l)) := by
      unfold us
      by_cases h : k < l
      · rw [if_pos h, if_neg (by omega)]
        obtain ⟨m, rfl⟩ : ∃ m, l = m + 1 := ⟨l - 1, by omega⟩
        rw [sg_succ, Nat.add_sub_cancel]
        grind
      · rw [if_neg h, if_pos (by omega)]
        obtain ⟨m, rfl⟩ : ∃ m, k = m + 1 := ⟨k - 1, by omega⟩
        rw [sg_succ, Nat.add_sub_cancel]
        grind
    have e3 : sw 0 1 A 0 l = A 1 l := rfl
    have e4 : sw 0 1 A 1 k = A 0 k := rfl
    rw [e2, e3, e4]
    grind
theorem det_adj : ∀ {n i : Nat} {A : Mt}, i + 1 < n → det n (sw i (i + 1) A) = - det n A
  | 0, _, _, h => by omega
  | 1, _, _, h => by omega
  | n + 2, 0, A, _ => det_sw0 n A
  | n + 2, i + 1, A, h => by
    rw [det, det, ← sm_neg]
    refine sm_congr fun k hk => ?_
    rw [mi_sw, det_adj (by omega)]
    have : sw (i + 1) (i + 2) A 0 k = A 0 k := by
      unfold sw tw
      rw [if_neg (by omega), if_neg (by omega)]
    rw [this]
    grind
/-- two rows alike -/
theorem det_alike : ∀ {d n a : Nat} {A : Mt}, a + d + 1 < n → (∀ j, A a j = A (a + d + 1) j) → det n A = 0
  | 0, n, a, A, h, e => by
    have h1 : sw a (a + 1) A = A := by
      funext r j
      unfold sw tw
      repeat' split
      · rename_i q; subst q; exact (e j).symm
      · rename_i q; subst q; exact e j
      · rfl
    have h2 := det_adj (A := A) (show a + 1 < n by omega)
    rw [h1] at h2
    omega
  | d + 1, n, a, A, h, e => by
    have h2 := det_adj (A := A) (show a + d + 1 + 1 < n by omega)
    have h3 := det_alike (d := d) (n := n) (a := a) (A := sw (a + d + 1) (a + d + 1 + 1) A) (by omega) fun j => by
      have q1 : tw (a + d + 1) (a + d + 1 + 1) a = a := by unfold tw; rw [if_neg (by omega), if_neg (by omega)]
      have q2 : tw (a + d + 1) (a + d + 1 + 1) (a + d + 1) = a + d + 1 + 1 := by unfold tw; rw [if_pos rfl]
      unfold sw
      rw [q1, q2]
      exact e j
    omega
theorem det_same {n a b : Nat} {A : Mt} (ha : a < n) (hb : b < n) (hn : a ≠ b) (e : ∀ j, A a j = A b j) : det n A = 0 := by
  rcases Nat.lt_or_gt_of_ne hn with h | h
  · obtain ⟨d, rfl⟩ : ∃ d, b = a + d + 1 := ⟨b - a - 1, by omega⟩
    exact det_alike hb e
  · obtain ⟨d, rfl⟩ : ∃ d, a = b + d + 1 := ⟨a - b - 1, by omega⟩
    exact det_alike ha fun j => (e j).symm
theorem sr_self {i : Nat} {A : Mt} : sr i (A i) A = A := by
  funext r j
  unfold sr
  split
  · rename_i h; rw [h]
  · rfl
/-- a row added -/
theorem det_added {n i r : Nat} {c : Int} {A : Mt} (hi : i < n) (hr : r < n) (h : i ≠ r) : det n (sr i (fun j => A i j + c * A r j) A) = det n A := by
  have e := det_lin (x := 1) (y := c) (u := A i) (v := A r) (A := A) hi
  rw [sr_self, det_same (A := sr i (A r) A) hi hr h fun j => by unfold sr; rw [if_pos rfl, if_neg (Ne.symm h)]] at e
  have e2 : (fun j => 1 * A i j + c * A r j) = (fun j => A i j + c * A r j) := by funext j; rw [Int.one_mul]
  rw [e2] at e
  rw [e]; omega
/-- a row so many times -/
theorem det_times {n i : Nat} {c : Int} {A : Mt} (hi : i < n) : det n (sr i (fun j => c * A i j) A) = c * det n A := by
  have e := det_lin (x := c) (y := 0) (u := A i) (v := A i) (A := A) hi
  have e2 : (fun j => c * A i j + 0 * A i j) = (fun j => c * A i j) := by funext j; omega
  rw [sr_self, e2] at e
  rw [e]; omega
/-- rows exchanged -/
theorem det_swap {n a b : Nat} {A : Mt} (ha : a < n) (hb : b < n) (h : a ≠ b) : det n (sw a b A) = - det n A := by
  -- both rows put to their sum
  have z := det_same (n := n) (a := a) (b := b) (A := sr a (fun j => 1 * A a j + 1 * A b j) (sr b (fun j => 1 * A a j + 1 * A b j) A)) ha hb h fun j => by
    unfold sr
    rw [if_pos rfl, if_neg (Ne.symm h), if_pos rfl]
  have cm : ∀ u v : Nat → Int, sr a u (sr b v A) = sr b v (sr a u A) := fun u v => by
    funext r j
    unfold sr
    by_cases h1 : r = a
    · rw [if_pos h1, if_neg (by omega), if_pos h1]
    · rw [if_neg h1]
      by_cases h2 : r = b
      · rw [if_pos h2, if_pos h2]
      · rw [if_neg h2, if_neg h2, if_neg h1]
  rw [det_lin ha, cm, cm, det_lin hb, det_lin hb] at z
  have s1 : det n (sr b (A a) (sr a (A a) A)) = 0 := det_same ha hb h fun j => by
    unfold sr
    rw [if_neg h, if_pos rfl, if_pos rfl]
  have s2 : det n (sr b (A b) (sr a (A b) A)) = 0 := det_same ha hb h fun j => by
    unfold sr
    rw [if_neg h, if_pos rfl, if_pos rfl]
  have s3 : sr b (A b) (sr a (A a) A) = A := by rw [sr_self, sr_self]
  have s4 : sr b (A a) (sr a (A b) A) = sw a b A := by
    funext r j
    unfold sr sw tw
    by_cases h1 : r = a
    · rw [if_neg (by omega), if_pos h1, if_pos h1]
    · by_cases h2 : r = b
      · rw [if_pos h2, if_neg h1, if_pos h2]
      · rw [if_neg h2, if_neg h1, if_neg h1, if_neg h2]
  rw [s1, s2, s3, s4] at z
  omega
theorem det_col0 : ∀ {n : Nat} {A : Mt}, (∀ i, i < n + 1 → A i 0 = 0) → det (n + 1) A = 0
  | n, A, h => by
    rw [det, sm_first, h 0 (by omega)]
    have e : sm n (fun i => sg (i + 1) * A 0 (i + 1) * det n (mi (i + 1) A)) = sm n (fun _ => 0) := sm_congr fun k hk => by
      obtain ⟨m, rfl⟩ : ∃ m, n = m + 1 := ⟨n - 1, by omega⟩
      rw [det_col0 (A := mi (k + 1) A) fun i hi => h _ (by omega)]
      omega
    rw [e, sm_zero]
    omega
theorem det_first {n : Nat} {A : Mt} (h : ∀ i, i < n → A (i + 1) 0 = 0) : det (n + 1) A = A 0 0 * det n (fun i j => A (i + 1) (j + 1)) := by
  rw [det, sm_first]
  have e : sm n (fun i => sg (i + 1) * A 0 (i + 1) * det n (mi (i + 1) A)) = sm n (fun _ => 0) := sm_congr fun k hk => by
    obtain ⟨m, rfl⟩ : ∃ m, n = m + 1 := ⟨n - 1, by omega⟩
    rw [det_col0 (A := mi (k + 1) A) fun i hi => h _ (by omega)]
    omega
  rw [e, sm_zero]
  have e2 : mi 0 A = fun i j => A (i + 1) (j + 1) := by
    funext i j
    unfold mi sk
    rw [if_neg (by omega)]
  rw [e2]
  show 1 * A 0 0 * _ + 0 = _
  rw [Int.one_mul, Int.add_zero]
theorem det_all {c : Int} : ∀ {n : Nat} {A : Mt}, det n (fun i j => c * A i j) = c ^ n * det n A
  | 0, _ => by simp [det]
  | n + 1, A => by
    rw [det, det, ← sm_mul]
    refine sm_congr fun k hk => ?_
    have e : mi k (fun i j => c * A i j) = fun i j => c * mi k A i j := rfl
    rw [e, det_all, Int.pow_succ]
    grind
end Dt
end

section
/-! One row taken off all others; Bareiss's way. -/
namespace Dt
/-- rows 1 .. r changed -/
def chr (A : Mt) (r : Nat) : Mt := fun i j => if 0 < i ∧ i ≤ r then A 0 0 * A i j + (- A i 0) * A 0 j else A i j
theorem det_chr {n : Nat} {A : Mt} : ∀ {r : Nat}, r ≤ n → det (n + 1) (chr A r) = A 0 0 ^ r * det (n + 1) A
  | 0, _ => by
    have : chr A 0 = A := by
      funext i j
      unfold chr
      rw [if_neg (by omega)]
    rw [this]
    simp
  | r + 1, h => by
    have e : chr A (r + 1) = sr (r + 1) (fun j => A 0 0 * A (r + 1) j + (- A (r + 1) 0) * A 0 j) (chr A r) := by
      funext i j
      unfold sr
      by_cases hi : i = r + 1
      · subst hi
        rw [if_pos rfl]
        unfold chr
        rw [if_pos (by omega)]
      · rw [if_neg hi]
        unfold chr
        by_cases h2 : 0 < i ∧ i ≤ r
        · rw [if_pos h2, if_pos (by omega)]
        · rw [if_neg h2, if_neg (by omega)]
    have r0 : ∀ j, chr A r 0 j = A 0 j := fun j => by unfold chr; rw [if_neg (by omega)]
    have r1 : ∀ j, chr A r (r + 1) j = A (r + 1) j := fun j => by unfold chr; rw [if_neg (by omega)]
    have s1 : sr (r + 1) (A (r + 1)) (chr A r) = chr A r := by
      have : A (r + 1) = chr A r (r + 1) := by funext j; rw [r1]
      rw [this, sr_self]
    have s2 : det (n + 1) (sr (r + 1) (A 0) (chr A r)) = 0 := det_same (a := r + 1) (b := 0) (by omega) (by omega) (by omega) fun j => by
      unfold sr
      rw [if_pos rfl, if_neg (by omega), r0]
    rw [e, det_lin (by omega), s1, s2, det_chr (by omega), Int.pow_succ]
    grind
def cond (A : Mt) : Mt := fun i j => A 0 0 * A (i + 1) (j + 1) - A (i + 1) 0 * A 0 (j + 1)
theorem det_cond0 {n : Nat} {A : Mt} : A 0 0 * det n (cond A) = A 0 0 ^ n * det (n + 1) A := by
  have h := det_chr (A := A) (Nat.le_refl n)
  have r0 : ∀ j, chr A n 0 j = A 0 j := fun j => by unfold chr; rw [if_neg (by omega)]
  have z : ∀ i, i < n → chr A n (i + 1) 0 = 0 := fun i hi => by
    unfold chr
    rw [if_pos (by omega)]
    grind
  rw [det_first z, r0] at h
  rw [← h]
  congr 1
  refine det_congr fun i j hi hj => ?_
  unfold chr cond
  rw [if_pos (by omega)]
  grind
theorem det_cond {n : Nat} {A : Mt} (h : A 0 0 ≠ 0) : det (n + 1) (cond A) = A 0 0 ^ n * det (n + 2) A := by
  have e := det_cond0 (n := n + 1) (A := A)
  rw [Int.pow_succ] at e
  have e2 : A 0 0 * det (n + 1) (cond A) = A 0 0 * (A 0 0 ^ n * det (n + 2) A) := by rw [e]; grind
  exact Int.eq_of_mul_eq_mul_left h e2
/-- each lot of r + 1 rows and columns weighs a multiple of l ^ r -/
def Good (l : Int) (N : Mt) : Prop := ∀ (r : Nat) (I J : Nat → Nat), l ^ r ∣ det (r + 1) (fun i j => N (I i) (J j))
theorem det_one (A : Mt) : det 1 A = A 0 0 := by
  simp [det, sm, sg]
theorem det_two_two (A : Mt) : det 2 A = A 0 0 * A 1 1 - A 1 0 * A 0 1 := by
  simp [det, sm, sg, mi, sk]
  grind
theorem Good.one (N : Mt) : Good 1 N := fun r I J => by
  rw [Int.one_pow]
  exact Int.one_dvd _
theorem Good.sw {l : Int} {N : Mt} (a b : Nat) (h : Good l N) : Good l (sw a b N) := fun r I J => h r (fun i => tw a b (I i)) J
def nxt (l : Int) (N : Mt) : Mt := fun i j => (cond N i j).fdiv l
theorem Good.exact {l : Int} {N : Mt} (h : Good l N) (hl : l ≠ 0) : cond N = fun i j => l * nxt l N i j := by
  funext i j
  have d := h 1 (fun r => if r = 0 then 0 else i + 1) (fun r => if r = 0 then 0 else j + 1)
  rw [det_two_two] at d
  have d : l ∣ cond N i j := by
    have e : l ^ 1 = l := by rw [Int.pow_succ, Int.pow_zero, Int.one_mul]
    rw [e] at d
    exact d
  unfold nxt
  rw [Int.mul_comm]
  exact (Int.fdiv_mul_cancel_of_dvd d).symm
/-- put ahead -/
def ah (I : Nat → Nat) (i : Nat) : Nat := match i with
  | 0 => 0
  | i + 1 => I i + 1
theorem Good.next {l : Int} {N : Mt} (h : Good l N) (hl : l ≠ 0) (hp : N 0 0 ≠ 0) : Good (N 0 0) (nxt l N) := fun r I J => by
  obtain ⟨d, hd⟩ := h (r + 1) (ah I) (ah J)
  have e1 : det (r + 1) (fun i j => cond N (I i) (J j)) = N 0 0 ^ r * det (r + 2) (fun i j => N (ah I i) (ah J j)) := by
    exact det_cond (A := fun i j => N (ah I i) (ah J j)) (n := r) hp
  rw [h.exact hl] at e1
  have e2 : det (r + 1) (fun i j => l * nxt l N (I i) (J j)) = l ^ (r + 1) * det (r + 1) (fun i j => nxt l N (I i) (J j)) := det_all (A := fun i j => nxt l N (I i) (J j))
  rw [e2, hd] at e1
  have e3 : l ^ (r + 1) * det (r + 1) (fun i j => nxt l N (I i) (J j)) = l ^ (r + 1) * (N 0 0 ^ r * d) := by rw [e1]; grind
  exact ⟨d, Int.eq_of_mul_eq_mul_left (Int.pow_ne_zero hl) e3⟩
theorem det_nxt {l : Int} {N : Mt} {m : Nat} (h : Good l N) (hl : l ≠ 0) (hp : N 0 0 ≠ 0) : l ^ (m + 1) * det (m + 1) (nxt l N) = N 0 0 ^ m * det (m + 2) N := by
  rw [← det_cond hp, h.exact hl, det_all]
/-! ### the program's way -/
def piv (n c : Nat) (M : Mt) : List Nat := (List.range (n - c)).filterMap fun i => if M (c + i) c ≠ 0 then some (c + i) else none
def stepM (c : Nat) (l : Int) (M : Mt) : Mt := fun k j => if c < k ∧ c < j then (M k j * M c c - M k c * M c j).fdiv l else M k j
def bar (n : Nat) : Nat → Nat → Mt → Int → Int → Int
  | 0, _, _, s, l => s * l
  | m + 1, c, M, s, l => match piv n c M with
    | [] => 0
    | p :: _ => bar n m (c + 1) (stepM c l (sw c p M)) (if p ≠ c then - s else s) (sw c p M c c)
theorem piv_nil {n c : Nat} {M : Mt} (h : piv n c M = []) : ∀ i, i < n - c → M (c + i) c = 0 := fun i hi => by
  unfold piv at h
  rw [List.filterMap_eq_nil_iff] at h
  have := h i (List.mem_range.mpr hi)
  split at this
  · cases this
  · rename_i q
    exact Classical.not_not.mp q
theorem piv_cons {n c p : Nat} {r : List Nat} {M : Mt} (h : piv n c M = p :: r) : c ≤ p ∧ p < n ∧ M p c ≠ 0 := by
  have hm : p ∈ piv n c M := by rw [h]; exact List.mem_cons_self
  unfold piv at hm
  obtain ⟨i, hi, e⟩ := List.mem_filterMap.mp hm
  have hi := List.mem_range.mp hi
  split at e
  · rename_i q
    cases e
    exact ⟨by omega, by omega, q⟩
  · cases e
theorem bar_det {n : Nat} : ∀ {m c : Nat} {M : Mt} {s l : Int}, n = c + m + 1 → l ≠ 0 → Good l (fun i j => M (c + i) (c + j)) → bar n (m + 1) c M s l * l ^ m = s * det (m + 1) (fun i j => M (c + i) (c + j))
  | m, c, M, s, l, hn, hl, hg => by
    unfold bar
    split
    · rename_i h
      have z := piv_nil h
      rw [det_col0 fun i hi => z i (by omega)]
      omega
    · rename_i p r h
      obtain ⟨h1, h2, h3⟩ := piv_cons h
      -- the active part, with its rows exchanged
      have eN : (fun i j => sw c p M (c + i) (c + j)) = sw 0 (p - c) (fun i j => M (c + i) (c + j)) := by
        funext i j
        unfold sw
        congr 1
        unfold tw
        repeat' split
        all_goals omega
      have hq : sw c p M c c = M p c := by unfold sw tw; rw [if_pos rfl]
      have hg1 : Good l (fun i j => sw c p M (c + i) (c + j)) := by rw [eN]; exact hg.sw _ _
      have hp : (fun i j => sw c p M (c + i) (c + j)) 0 0 ≠ 0 := by
        show sw c p M c c ≠ 0
        rw [hq]; exact h3
      have es : s * det (m + 1) (fun i j => M (c + i) (c + j)) = (if p ≠ c then - s else s) * det (m + 1) (fun i j => sw c p M (c + i) (c + j)) := by
        rw [eN]
        by_cases hpc : p = c
        · subst hpc
          rw [if_neg (by omega)]
          congr 2
          funext i j
          unfold sw
          congr 1
          unfold tw
          repeat' split
          all_goals omega
        · rw [if_pos hpc, det_swap (by omega) (by omega) (by omega)]
          grind
      rw [es]
      cases m with
      | zero =>
        unfold bar
        rw [det_one]
        simp
      | succ m =>
        have eN2 : (fun i j => stepM c l (sw c p M) (c + 1 + i) (c + 1 + j)) = nxt l (fun i j => sw c p M (c + i) (c + j)) := by
          funext i j
          unfold stepM nxt cond
          rw [if_pos (by omega)]
          congr 1
          have a1 : c + 1 + i = c + (i + 1) := by omega
          have a2 : c + 1 + j = c + (j + 1) := by omega
          rw [a1, a2]
          simp only [Nat.add_zero]
          grind
        have ih := bar_det (n := n) (m := m) (c := c + 1) (M := stepM c l (sw c p M)) (s := if p ≠ c then - s else s) (l := sw c p M c c) (by omega) (by rw [hq]; exact h3) (by rw [eN2]; exact hg1.next hl hp)
        rw [eN2] at ih
        have dn := det_nxt (m := m) hg1 hl hp
        simp only [Nat.add_zero] at dn
        have key : sw c p M c c ^ m * (bar n (m + 1) (c + 1) (stepM c l (sw c p M)) (if p ≠ c then - s else s) (sw c p M c c) * l ^ (m + 1)) = sw c p M c c ^ m * ((if p ≠ c then - s else s) * det (m + 1 + 1) (fun i j => sw c p M (c + i) (c + j))) := by
          generalize bar n (m + 1) (c + 1) (stepM c l (sw c p M)) (if p ≠ c then - s else s) (sw c p M c c) = B at ih ⊢
          generalize det (m + 1) (nxt l fun i j => sw c p M (c + i) (c + j)) = D1 at ih dn
          generalize det (m + 2) (fun i j => sw c p M (c + i) (c + j)) = D2 at dn ⊢
          generalize sw c p M c c ^ m = Q at ih dn ⊢
          generalize l ^ (m + 1) = L at dn ⊢
          generalize (if p ≠ c then - s else s) = S at ih ⊢
          grind
        exact Int.eq_of_mul_eq_mul_left (Int.pow_ne_zero (by rw [hq]; exact h3)) key
theorem bar_is_det (n : Nat) (A : Mt) : bar n n 0 A 1 1 = det n A := by
  cases n with
  | zero => rfl
  | succ m =>
    have h := bar_det (n := m + 1) (m := m) (c := 0) (M := A) (s := 1) (l := 1) (by omega) (by decide) (Good.one _)
    rw [Int.one_pow, Int.mul_one, Int.one_mul] at h
    rw [h]
    refine det_congr fun i j _ _ => ?_
    rw [Nat.zero_add, Nat.zero_add]
end Dt
end

section
/-! The walk of weight: a grid of its own, written in place. -/
namespace Ww
open PySem PySem.Spec PyProof.Rows L2 Wm Dt
def rowV (n : Nat) (f : Nat → Int) : List V := (List.range n).map fun j => V.int (f j)
theorem rowV_len {n : Nat} {f : Nat → Int} : (rowV n f).length = n := by unfold rowV; simp
theorem rowV_get {n j : Nat} {f : Nat → Int} (h : j < n) : (rowV n f)[j]? = some (.int (f j)) := by
  unfold rowV
  rw [List.getElem?_map, List.getElem?_range h]
  rfl
theorem rowV_set {n k : Nat} {f : Nat → Int} {x : Int} : (rowV n f).set k (.int x) = rowV n (fun j => if j = k then x else f j) := by
  apply List.ext_getElem?
  intro i
  by_cases h : i < n
  · rw [rowV_get h]
    by_cases e : k = i
    · subst e
      rw [List.getElem?_set_self (by rw [rowV_len]; exact h), if_pos rfl]
    · rw [List.getElem?_set_ne e, rowV_get h, if_neg (Ne.symm e)]
  · rw [List.getElem?_eq_none (by rw [List.length_set, rowV_len]; omega), List.getElem?_eq_none (by rw [rowV_len]; omega)]
theorem rowV_congr {n : Nat} {f g : Nat → Int} (h : ∀ j, j < n → f j = g j) : rowV n f = rowV n g := by
  unfold rowV
  exact List.map_congr_left fun j hj => by rw [h j (List.mem_range.mp hj)]
structure Mx (H0 H : Hp) (a : Addr) (bs : List Addr) (n : Nat) (M : Mt) : Prop where
  sm : Same H0 H
  na0 : H0 a = none
  nb0 : ∀ b ∈ bs, H0 b = none
  len : bs.length = n
  inj : ∀ (i j : Nat) (b : Addr), bs[i]? = some b → bs[j]? = some b → i = j
  na : a ∉ bs
  sz : n ≤ sizeLine
  out : H a = some (.lst (bs.map V.ref))
  row : ∀ (i : Nat) (b : Addr), bs[i]? = some b → H b = some (.lst (rowV n (M i)))
section
variable {H0 H : Hp} {a : Addr} {bs : List Addr} {n : Nat} {M : Mt} {K : PySem.W.Frag} {σ : L2.St} {Q : VK}
theorem Mx.tr (h : Mx H0 H a bs n M) {i : Nat} (hi : i < n) : ∃ b, bs[i]? = some b ∧ H b = some (.lst (rowV n (M i))) := by
  have hi' : i < bs.length := by rw [h.len]; exact hi
  exact ⟨bs[i], List.getElem?_eq_getElem hi', h.row i _ (List.getElem?_eq_getElem hi')⟩
theorem Mx.congr (h : Mx H0 H a bs n M) {M' : Mt} (e : ∀ i j, i < n → j < n → M i j = M' i j) : Mx H0 H a bs n M' :=
  ⟨h.sm, h.na0, h.nb0, h.len, h.inj, h.na, h.sz, h.out, fun i b hb => by
    have hi : i < n := by rw [← h.len]; exact (List.getElem?_eq_some_iff.mp hb).1
    rw [h.row i b hb, rowV_congr fun j hj => e i j hi hj]⟩
theorem Mx.new (h : Mx H0 H a bs n M) {p : Addr} {o : HO} (np : H p = none) : Mx H0 (upd H p o) a bs n M :=
  { h with
    sm := fun b u e => by
      have := h.sm b u e
      rw [upd_ne (fun z => by rw [z, np] at this; cases this)]
      exact this
    out := by rw [upd_ne (fun z => by have := h.out; rw [z, np] at this; cases this)]; exact h.out
    row := fun i b hb => by
      have := h.row i b hb
      rw [upd_ne (fun z => by rw [z, np] at this; cases this)]
      exact this }
/-- something else that is written -/
theorem Mx.other (h : Mx H0 H a bs n M) {p : Addr} {o : HO} (h0 : H0 p = none) (ha : p ≠ a) (hb : p ∉ bs) : Mx H0 (upd H p o) a bs n M :=
  { h with
    sm := fun b u e => by
      rw [upd_ne (fun z => by rw [z, h0] at e; cases e)]
      exact h.sm b u e
    out := by rw [upd_ne (Ne.symm ha)]; exact h.out
    row := fun i b hb' => by
      rw [upd_ne (fun z => hb (by rw [← z]; exact List.mem_of_getElem? hb'))]
      exact h.row i b hb' }
theorem Mx.sq (h : Mx H0 H a bs n M) : SqL K H a (bs.map V.ref) := SqL.of h.out
theorem rowSq {b : Addr} {f : Nat → Int} (h : H b = some (.lst (rowV n f))) : SqL K H b (rowV n f) := SqL.of h
theorem atN {xs : List V} {i : Nat} {v : V} (h : xs[i]? = some v) : atI xs (i : Int) = some v := atI_nat h
theorem Mx.at1 (h : Mx H0 H a bs n M) {i : Nat} {b : Addr} (hb : bs[i]? = some b) : atI (bs.map V.ref) (i : Int) = some (.ref b) := atN (by rw [List.getElem?_map, hb]; rfl)
/-- rows[x][y] -/
abbrev rdd (K : PySem.W.Frag) (p q : Nat) : TE := tOp (rIxL K) (tOp (rIxL K) (tVar 1) (tVar p)) (tVar q)
theorem Mx.rd (h : Mx H0 H a bs n M) {p q x y : Nat} (h1 : σ[1]? = some (some (.ref a))) (hp : σ[p]? = some (some (.int x))) (hq : σ[q]? = some (some (.int y))) (hx : x < n) (hy : y < n) (k : Q (.int (M x y)) H) : rdd K p q σ H Q := by
  obtain ⟨b, e1, e2⟩ := h.tr hx
  exact ⟨_, h1, _, hp, a, _, _, _, rfl, rfl, h.sq, h.at1 e1, _, hq, b, _, _, _, rfl, rfl, rowSq e2, atN (rowV_get hy), k⟩
theorem ixN_nat {n k : Nat} (h : k < n) : ixN n (k : Int) = some k := by
  unfold ixN
  rw [if_pos (by omega), if_pos (by omega)]
  rfl
theorem Mx.wr (h : Mx H0 H a bs n M) {k j : Nat} {b : Addr} {x : Int} (hb : bs[k]? = some b) : Mx H0 (upd H b (.lst ((rowV n (M k)).set j (.int x)))) a bs n (fun r c => if r = k ∧ c = j then x else M r c) := by
  have hm : b ∈ bs := List.mem_of_getElem? hb
  refine { h with sm := fun c u e => ?_, out := ?_, row := fun i c hc => ?_ }
  · rw [upd_ne (fun z => by rw [z, h.nb0 b hm] at e; cases e)]
    exact h.sm c u e
  · rw [upd_ne (fun z => h.na (by rw [z]; exact hm))]
    exact h.out
  · by_cases e : i = k
    · subst e
      rw [hb] at hc
      cases hc
      rw [upd_same, rowV_set]
      congr 2
      refine rowV_congr fun c hc => ?_
      by_cases e : c = j
      · rw [if_pos e, if_pos ⟨rfl, e⟩]
      · rw [if_neg e, if_neg (fun z => e z.2)]
    · have hne : c ≠ b := fun z => by
        subst z
        exact e (h.inj _ _ _ hc hb)
      rw [upd_ne hne, h.row i c hc]
      congr 2
      refine rowV_congr fun j hj => ?_
      rw [if_neg (fun z => e z.1)]
/-! ### rows[k][j] = .. // last, for one row -/
abbrev lenT (K : PySem.W.Frag) : TE := tCB (fun xs H Q => ∃ p ys, xs = [V.ref p] ∧ (SqL K H p ys ∨ SqT K H p ys) ∧ Q (V.int ys.length) H) (tCons (tVar 1) tNil)
theorem Mx.ln (h : Mx H0 H a bs n M) (h1 : σ[1]? = some (some (.ref a))) (k : Q (.int n) H) : lenT K σ H Q := by
  refine ⟨_, h1, a, bs.map V.ref, rfl, .inl h.sq, ?_⟩
  rw [List.length_map, h.len]
  exact k
abbrev rgT (K : PySem.W.Frag) : TI := iRng2 (tCons (tOp (rI0 fun i j => .int (i + j)) (tVar 2) (tC (V.int 1))) (tCons (lenT K) tNil))
theorem n62 (h : n ≤ sizeLine) : ((n : Nat) : Int) < 2 ^ 62 := by
  have : sizeLine = 16777216 := by decide
  omega
theorem Mx.rg (h : Mx H0 H a bs n M) {c : Nat} {R : It → Hp → Prop} (h1 : σ[1]? = some (some (.ref a))) (h2 : σ[2]? = some (some (.int c))) (hc : c < n) (k : R (Itr ((c + 1 : Nat) : Int) (n - (c + 1))) H) : rgT K σ H R := by
  refine ⟨_, h2, _, _, rfl, rfl, ?_⟩
  dsimp only
  unfold tCons
  refine h.ln h1 ?_
  refine ⟨_, _, rfl, ?_, ?_⟩
  · have := n62 h.sz
    refine ⟨?_, ?_, ?_, ?_⟩ <;> omega
  · have e1 : ((c : Int) + 1) = ((c + 1 : Nat) : Int) := by omega
    have e2 : ((n : Int) - (c + 1 : Nat)).toNat = n - (c + 1) := by omega
    rw [e1, e2]
    exact k
abbrev newT (K : PySem.W.Frag) : TE := tOp (rI CDv fun i j => .int (i.fdiv j)) (tOp (rI0 fun i j => .int (i - j)) (tOp (rI IntMulOk fun i j => .int (i * j)) (rdd K 6 8) (rdd K 2 2)) (tOp (rI IntMulOk fun i j => .int (i * j)) (rdd K 6 2) (rdd K 2 8))) (tVar 4)
abbrev innT (K : PySem.W.Frag) : TS := tAsg (newT K) (gSub (tOp (rIxL K) (tVar 1) (tVar 6)) (tVar 8) rSetL)
def nw (M : Mt) (c : Nat) (l : Int) (k j : Nat) : Int := (M k j * M c c - M k c * M c j).fdiv l
theorem nw_congr {M N : Mt} {c k x : Nat} {l : Int} (h1 : M k x = N k x) (h2 : M c c = N c c) (h3 : M k c = N k c) (h4 : M c x = N c x) : nw M c l k x = nw N c l k x := by
  unfold nw
  rw [h1, h2, h3, h4]
abbrev Sz (n b : Nat) (M : Mt) : Prop := ∀ i j, i < n → j < n → Builtin.Int.intBits (M i j) ≤ b
/-- for j in range(at + 1, len(rows)) -/
abbrev jT (K : PySem.W.Frag) : TS := tFor (rgT K) (gName 8) (innT K)
theorem Mx.jloop (h : Mx H0 H a bs n M) {c k b : Nat} {s l : Int} {D : Ends} {y0 y5 y7 y8 : Option V} (hc : c < n) (hck : c < k) (hk : k < n) (hl : CDv 0 l) (hs : ∀ r x, r = c ∨ r = k → x < n → Builtin.Int.intBits (M r x) ≤ b) (hb : b ≤ 2 ^ 20)
    (q : ∀ H' z8, Mx H0 H' a bs n (fun r x => if r = k ∧ c < x then nw M c l k x else M r x) → D.nx [y0, some (.ref a), some (.int c), some (.int s), some (.int l), y5, some (.int k), y7, z8] H') :
    jT K D [y0, some (.ref a), some (.int c), some (.int s), some (.int l), y5, some (.int k), y7, y8] H := by
  unfold jT tFor
  refine h.rg rfl rfl hc ?_
  refine ⟨fun i m σ' H' => ∃ z8, σ' = [y0, some (.ref a), some (.int c), some (.int s), some (.int l), y5, some (.int k), y7, z8] ∧ i + m = n - (c + 1) ∧ Mx H0 H' a bs n (fun r x => if r = k ∧ c < x ∧ x ≤ c + i then nw M c l k x else M r x),
    ⟨n - (c + 1), y8, rfl, by omega, h.congr fun r x _ _ => by rw [if_neg (by omega)]⟩, ?_⟩
  rintro i m σ' H' ⟨z8, rfl, hm, hx⟩
  by_cases hi : i < n - (c + 1)
  · refine .inr ⟨hi, fun σ2 H2 => ∃ z8, σ2 = [y0, some (.ref a), some (.int c), some (.int s), some (.int l), y5, some (.int k), y7, z8] ∧ Mx H0 H2 a bs n (fun r x => if r = k ∧ c < x ∧ x ≤ c + (i + 1) then nw M c l k x else M r x), fun σ2 H2 ⟨z, e1, e2⟩ => ⟨m - 1, by omega, z, e1, by omega, e2⟩, ?_⟩
    rintro x H3 ⟨rfl, rfl⟩
    have ej : ((c + 1 : Nat) : Int) + (i : Nat) = ((c + 1 + i : Nat) : Int) := by omega
    -- the numbers that are read stand as ahead
    have rd1 : ∀ r x, (r ≠ k ∨ x ≤ c ∨ c + i < x) → (if r = k ∧ c < x ∧ x ≤ c + i then nw M c l k x else M r x) = M r x := fun r x z => if_neg (by omega)
    show innT K _ [y0, some (.ref a), some (.int c), some (.int s), some (.int l), y5, some (.int k), y7, some (.int (((c + 1 : Nat) : Int) + (i : Nat)))] H3
    rw [ej]
    have mo : ∀ i' j i'' j', (i' = c ∨ i' = k) → j < n → (i'' = c ∨ i'' = k) → j' < n → IntMulOk (M i' j) (M i'' j') := fun i j i' j' q1 q2 q3 q4 => IntMulOk.of_bits (Nat.le_trans (hs i j q1 q2) hb) (Nat.le_trans (hs i' j' q3 q4) hb)
    have hj : c + 1 + i < n := by omega
    obtain ⟨bk, e1, e2⟩ := hx.tr hk
    refine hx.rd (x := k) (y := c + 1 + i) rfl rfl rfl hk hj (hx.rd (x := c) (y := c) rfl rfl rfl hc hc ?_)
    rw [rd1 k (c + 1 + i) (by omega), rd1 c c (by omega)]
    refine ⟨_, _, rfl, rfl, mo _ _ _ _ (.inr rfl) hj (.inl rfl) hc, hx.rd (x := k) (y := c) rfl rfl rfl hk hc (hx.rd (x := c) (y := c + 1 + i) rfl rfl rfl hc hj ?_)⟩
    rw [rd1 k c (by omega), rd1 c (c + 1 + i) (by omega)]
    refine ⟨_, _, rfl, rfl, mo _ _ _ _ (.inr rfl) hc (.inl rfl) hj, _, _, rfl, rfl, _, rfl, _, _, rfl, rfl, hl, ?_⟩
    refine ⟨_, rfl, _, rfl, a, _, _, _, rfl, rfl, hx.sq, hx.at1 e1, _, rfl, bk, _, _, c + 1 + i, rfl, rfl, e2, ?_, ?_⟩
    · rw [rowV_len]
      exact ixN_nat hj
    · refine ⟨_, rfl, (hx.wr e1).congr fun r x hr hx' => ?_⟩
      by_cases z : r = k ∧ x = c + 1 + i
      · rw [if_pos z, if_pos (by omega)]
        obtain ⟨_, rfl⟩ := z
        rfl
      · rw [if_neg z]
        by_cases z2 : r = k ∧ c < x ∧ x ≤ c + i
        · rw [if_pos z2, if_pos (by omega)]
        · rw [if_neg z2, if_neg (by omega)]
  · refine .inl ⟨by show n - (c + 1) ≤ i; omega, q H' z8 (hx.congr fun r x hr hxn => ?_)⟩
    by_cases z : r = k ∧ c < x
    · rw [if_pos z, if_pos (by omega)]
    · rw [if_neg z, if_neg (by omega)]
/-- for k in range(at + 1, len(rows)) -/
abbrev kT (K : PySem.W.Frag) : TS := tFor (rgT K) (gName 6) (jT K)
theorem Mx.kloop (h : Mx H0 H a bs n M) {c b : Nat} {s l : Int} {D : Ends} {y0 y5 y6 y7 y8 : Option V} (hc : c < n) (hl : CDv 0 l) (hs : Sz n b M) (hb : b ≤ 2 ^ 20)
    (q : ∀ H' z6 z8, Mx H0 H' a bs n (stepM c l M) → D.nx [y0, some (.ref a), some (.int c), some (.int s), some (.int l), y5, z6, y7, z8] H') :
    kT K D [y0, some (.ref a), some (.int c), some (.int s), some (.int l), y5, y6, y7, y8] H := by
  unfold kT tFor
  refine h.rg rfl rfl hc ?_
  refine ⟨fun i m σ' H' => ∃ z6 z8, σ' = [y0, some (.ref a), some (.int c), some (.int s), some (.int l), y5, z6, y7, z8] ∧ i + m = n - (c + 1) ∧ Mx H0 H' a bs n (fun r x => if c < r ∧ r ≤ c + i ∧ c < x then nw M c l r x else M r x),
    ⟨n - (c + 1), y6, y8, rfl, by omega, h.congr fun r x _ _ => by rw [if_neg (by omega)]⟩, ?_⟩
  rintro i m σ' H' ⟨z6, z8, rfl, hm, hx⟩
  by_cases hi : i < n - (c + 1)
  · refine .inr ⟨hi, fun σ2 H2 => ∃ z6 z8, σ2 = [y0, some (.ref a), some (.int c), some (.int s), some (.int l), y5, z6, y7, z8] ∧ Mx H0 H2 a bs n (fun r x => if c < r ∧ r ≤ c + (i + 1) ∧ c < x then nw M c l r x else M r x), fun σ2 H2 ⟨z, z', e1, e2⟩ => ⟨m - 1, by omega, z, z', e1, by omega, e2⟩, ?_⟩
    rintro x H3 ⟨rfl, rfl⟩
    have ej : ((c + 1 : Nat) : Int) + (i : Nat) = ((c + 1 + i : Nat) : Int) := by omega
    show jT K _ [y0, some (.ref a), some (.int c), some (.int s), some (.int l), y5, some (.int (((c + 1 : Nat) : Int) + (i : Nat))), y7, z8] H3
    rw [ej]
    have hk : c + 1 + i < n := by omega
    have rd1 : ∀ r x, (r ≤ c ∨ c + i < r) → (if c < r ∧ r ≤ c + i ∧ c < x then nw M c l r x else M r x) = M r x := fun r x z => if_neg (by omega)
    refine hx.jloop hc (by omega) hk hl (b := b) (fun r x hr hxn => ?_) hb fun H4 z8 hx4 => ⟨_, z8, rfl, hx4.congr fun r x hr hxn => ?_⟩
    · rw [rd1 r x (by omega)]
      exact hs r x (by omega) hxn
    · by_cases z : r = c + 1 + i ∧ c < x
      · rw [if_pos z, if_pos (by omega)]
        obtain ⟨rfl, _⟩ := z
        exact nw_congr (rd1 _ x (by omega)) (rd1 c c (by omega)) (rd1 _ c (by omega)) (rd1 c x (by omega))
      · rw [if_neg z]
        by_cases z2 : c < r ∧ r ≤ c + i ∧ c < x
        · rw [if_pos z2, if_pos (by omega)]
        · rw [if_neg z2, if_neg (by omega)]
  · refine .inl ⟨by show n - (c + 1) ≤ i; omega, q H' z6 z8 (hx.congr fun r x hr hxn => ?_)⟩
    unfold stepM
    by_cases z : c < r ∧ c < x
    · rw [if_pos z, if_pos (by omega)]
      rfl
    · rw [if_neg z, if_neg (by omega)]
/-! ### found = [k for k in range(at, len(rows)) if rows[k][at] != 0] -/
def pivTo (c i : Nat) (M : Mt) : List Nat := (List.range i).filterMap fun r => if M (c + r) c ≠ 0 then some (c + r) else none
theorem pivTo_succ {c i : Nat} : pivTo c (i + 1) M = pivTo c i M ++ if M (c + i) c ≠ 0 then [c + i] else [] := by
  unfold pivTo
  rw [List.range_succ, List.filterMap_append]
  congr 1
  by_cases e : M (c + i) c ≠ 0
  · rw [if_pos e]
    simp [e]
  · rw [if_neg e]
    simp [Classical.not_not.mp e]
theorem pivTo_len {c : Nat} : ∀ {i : Nat}, (pivTo c i M).length ≤ i := by
  intro i
  unfold pivTo
  exact Nat.le_trans (List.length_filterMap_le _ _) (by simp)
abbrev fT (K : PySem.W.Frag) : TS := tAsg (tLc (iRng2 (tCons (tVar 2) (tCons (lenT K) tNil))) (gName 6) (tTest (tOp rNe (rdd K 6 2) (tC (V.int 0)))) (tVar 6) [6]) (gName 5)
theorem Mx.found (h : Mx H0 H a bs n M) {c : Nat} {s l : Int} {D : Ends} {y0 y5 y6 y7 y8 : Option V} (hc : c < n)
    (q : ∀ H' p, Mx H0 H' a bs n M → H' p = some (.lst ((piv n c M).map fun (k : Nat) => V.int k)) → H0 p = none → p ≠ a → p ∉ bs → D.nx [y0, some (.ref a), some (.int c), some (.int s), some (.int l), some (.ref p), y6, y7, y8] H') :
    fT K D [y0, some (.ref a), some (.int c), some (.int s), some (.int l), y5, y6, y7, y8] H := by
  unfold fT tAsg tLc
  refine ⟨_, rfl, ?_⟩
  dsimp only
  unfold tCons
  refine h.ln rfl ?_
  have hn := n62 h.sz
  refine ⟨_, _, rfl, ⟨by omega, by omega, by omega, by omega⟩, ?_⟩
  have e2 : ((n : Int) - (c : Nat)).toNat = n - c := by omega
  rw [e2]
  intro p np
  have hp0 : H0 p = none := by
    cases e : H0 p with
    | none => rfl
    | some o => rw [h.sm p o e] at np; cases np
  have hpa : p ≠ a := fun z => by rw [z, h.out] at np; cases np
  have hpb : p ∉ bs := fun z => by
    obtain ⟨i, hi⟩ := List.mem_iff_getElem?.mp z
    rw [h.row i p hi] at np; cases np
  refine ⟨fun i m H' => i + m = n - c ∧ Mx H0 H' a bs n M ∧ H' p = some (.lst ((pivTo c i M).map fun (k : Nat) => V.int k)), ⟨n - c, by omega, h.new np, upd_same⟩, ?_⟩
  rintro i m H' ⟨hm, hx, hp⟩
  by_cases hi : i < n - c
  · refine .inr ⟨hi, fun H2 => Mx H0 H2 a bs n M ∧ H2 p = some (.lst ((pivTo c (i + 1) M).map fun (k : Nat) => V.int k)), fun H2 ⟨e1, e2⟩ => ⟨m - 1, by omega, by omega, e1, e2⟩, ?_⟩
    rintro x H3 ⟨rfl, rfl⟩
    have ej : ((c : Nat) : Int) + (i : Nat) = ((c + i : Nat) : Int) := by omega
    rw [ej]
    refine ⟨rfl, ?_⟩
    refine hx.rd (x := c + i) (y := c) rfl rfl rfl (by omega) hc ⟨rfl, _, rfl, ?_⟩
    by_cases e : M (c + i) c = 0
    · have e' : (!decide (V.int (M (c + i) c) = V.int 0)) = false := by rw [e]; rfl
      rw [e']
      show Mx H0 H3 a bs n M ∧ H3 p = some (.lst ((pivTo c (i + 1) M).map fun (k : Nat) => V.int k))
      refine ⟨hx, ?_⟩
      rw [pivTo_succ, if_neg (fun z => z e), List.append_nil]
      exact hp
    · have e' : (!decide (V.int (M (c + i) c) = V.int 0)) = true := by
        rw [decide_eq_false (fun z => e (V.int.inj z))]; rfl
      rw [e']
      refine (show ∃ v, _ ∧ _ from ⟨_, rfl, _, hp, ?_, hx.other hp0 hpa hpb, ?_⟩)
      · rw [List.length_map]
        have := pivTo_len (M := M) (c := c) (i := i)
        have := h.sz
        omega
      · rw [upd_same, pivTo_succ, if_pos e, List.map_append]
        rfl
  · have ei : i = n - c := by omega
    subst ei
    exact .inl ⟨Nat.le_refl _, q _ p hx hp hp0 hpa hpb⟩
/-! ### rows exchanged -/
theorem Mx.exch (h : Mx H0 H a bs n M) {c p : Nat} {bc bp : Addr} (hc : bs[c]? = some bc) (hp : bs[p]? = some bp) : Mx H0 (upd H a (.lst (((bs.map V.ref).set c (.ref bp)).set p (.ref bc)))) a ((bs.set c bp).set p bc) n (sw c p M) := by
  have lc := (List.getElem?_eq_some_iff.mp hc).1
  have lp := (List.getElem?_eq_some_iff.mp hp).1
  have g : ∀ i, ((bs.set c bp).set p bc)[i]? = bs[tw c p i]? := fun i => by
    unfold tw
    by_cases e1 : i = c
    · rw [if_pos e1, hp]
      subst e1
      by_cases e2 : p = i
      · subst e2
        rw [List.getElem?_set_self (by rw [List.length_set]; exact lp), ← hc, hp]
      · rw [List.getElem?_set_ne e2, List.getElem?_set_self lc]
    · rw [if_neg e1]
      by_cases e2 : i = p
      · rw [if_pos e2, hc]
        subst e2
        rw [List.getElem?_set_self (by rw [List.length_set]; exact lp)]
      · rw [if_neg e2, List.getElem?_set_ne (Ne.symm e2), List.getElem?_set_ne (Ne.symm e1)]
  have ti : ∀ i j, tw c p i = tw c p j → i = j := fun i j e => by
    unfold tw at e
    repeat' split at e
    all_goals omega
  have mem : ∀ b, b ∈ (bs.set c bp).set p bc → b ∈ bs := fun b hb => by
    obtain ⟨i, hi⟩ := List.mem_iff_getElem?.mp hb
    rw [g] at hi
    exact List.mem_of_getElem? hi
  refine ⟨fun b u e => ?_, h.na0, fun b hb => h.nb0 b (mem b hb), by rw [List.length_set, List.length_set, h.len], fun i j b h1 h2 => ?_, fun z => h.na (mem a z), h.sz, ?_, fun i b hb => ?_⟩
  · rw [upd_ne (fun z => by rw [z, h.na0] at e; cases e)]
    exact h.sm b u e
  · rw [g] at h1 h2
    exact ti _ _ (h.inj _ _ _ h1 h2)
  · rw [upd_same, List.map_set, List.map_set]
  · rw [g] at hb
    rw [upd_ne (fun z => h.na (by rw [← z]; exact List.mem_of_getElem? hb))]
    exact h.row _ b hb
abbrev f0T (K : PySem.W.Frag) : TE := tOp (rIxL K) (tVar 5) (tC (V.int 0))
abbrev swT (K : PySem.W.Frag) : TS := tIfS (tTest (tOp rNe (f0T K) (tVar 2)))
  (tSeq (tAsg (tTup (tCons (tOp (rIxL K) (tVar 1) (f0T K)) (tCons (tOp (rIxL K) (tVar 1) (tVar 2)) tNil))) (gTup K 2 (gCons (gSub (tVar 1) (tVar 2) rSetL) (gCons (gSub (tVar 1) (f0T K) rSetL) gNil))))
    (tAsg (tUn (rU fun i => V.int (-i)) (tVar 3)) (gName 3))) tNext
theorem Mx.swp (h : Mx H0 H a bs n M) {c p : Nat} {r : List Nat} {x : Addr} {s l : Int} {D : Ends} {y0 y6 y7 y8 : Option V} (hc : c < n) (hp : p < n) (hx : H x = some (.lst ((p :: r).map fun (k : Nat) => V.int k))) (hxa : x ≠ a)
    (q : ∀ H' bs', Mx H0 H' a bs' n (sw c p M) → D.nx [y0, some (.ref a), some (.int c), some (.int (if p ≠ c then -s else s)), some (.int l), some (.ref x), y6, y7, y8] H') :
    swT K D [y0, some (.ref a), some (.int c), some (.int s), some (.int l), some (.ref x), y6, y7, y8] H := by
  have rd0 : ∀ {σ : L2.St} {H : Hp} {Q : VK}, σ[5]? = some (some (.ref x)) → H x = some (.lst ((p :: r).map fun (k : Nat) => V.int k)) → Q (.int (p : Nat)) H → f0T K σ H Q := fun h1 h2 h3 => ⟨_, h1, x, _, _, _, rfl, rfl, SqL.of h2, atI_nat (j := 0) rfl, h3⟩
  refine rd0 rfl hx ⟨_, rfl, rfl, _, rfl, ?_⟩
  by_cases e : p = c
  · subst e
    have e' : (!decide (V.int (p : Nat) = V.int (p : Nat))) = false := by rw [decide_eq_true rfl]; rfl
    rw [e']
    have e2 : sw p p M = M := by
      funext i j
      unfold sw tw
      repeat' split
      all_goals simp_all
    rw [if_neg (fun z => z rfl), e2] at q
    exact q H bs h
  · have e' : (!decide (V.int (p : Nat) = V.int (c : Nat))) = true := by
      rw [decide_eq_false (fun z => e (by have := V.int.inj z; omega))]; rfl
    rw [e']
    rw [if_pos e] at q
    obtain ⟨bc, hc1, hc2⟩ := h.tr hc
    obtain ⟨bp, hp1, hp2⟩ := h.tr hp
    refine (show ∃ v, _ ∧ _ from ⟨_, rfl, rd0 rfl hx ⟨a, _, _, _, rfl, rfl, h.sq, h.at1 hp1, _, rfl, _, rfl, a, _, _, _, rfl, rfl, h.sq, h.at1 hc1, by show 2 ≤ sizeLine; decide, fun t nt => ?_⟩⟩)
    have ht := h.new (o := .tup [.ref bp, .ref bc]) nt
    have hta : t ≠ a := fun z => by rw [z, h.out] at nt; cases nt
    have htx : t ≠ x := fun z => by rw [z, hx] at nt; cases nt
    refine ⟨t, _, rfl, SqT.of upd_same, rfl, _, _, rfl, _, rfl, _, rfl, a, _, _, c, rfl, rfl, ht.out, ?_, _, _, rfl, _, rfl, ?_⟩
    · rw [List.length_map, h.len]
      exact ixN_nat hc
    · have hx1 : upd (upd H t (.tup [.ref bp, .ref bc])) a (.lst ((bs.map V.ref).set c (.ref bp))) x = some (.lst ((p :: r).map fun (k : Nat) => V.int k)) := by
        rw [upd_ne hxa, upd_ne (Ne.symm htx)]
        exact hx
      refine rd0 rfl hx1 ⟨a, _, _, p, rfl, rfl, upd_same, ?_, rfl, ?_⟩
      · rw [List.length_set, List.length_map, h.len]
        exact ixN_nat hp
      · have he := ht.exch hc1 hp1
        have eu : upd (upd (upd H t (.tup [.ref bp, .ref bc])) a (.lst ((bs.map V.ref).set c (.ref bp)))) a (.lst (((bs.map V.ref).set c (.ref bp)).set p (.ref bc))) = upd (upd H t (.tup [.ref bp, .ref bc])) a (.lst (((bs.map V.ref).set c (.ref bp)).set p (.ref bc))) := by
          funext z
          unfold upd
          split <;> rfl
        rw [eu]
        exact ⟨_, rfl, _, rfl, q _ _ he⟩
/-! ### if found == []: return 0 -/
theorem okNs_ints {m : Nat} : ∀ (ks : List Int), okNs m (ks.map D.int) = true
  | [] => rfl
  | k :: ks => by
    show (okN m (.int k) && okNs m (ks.map D.int)) = true
    rw [okNs_ints ks]
    cases m <;> rfl
abbrev emT (K : PySem.W.Frag) : TT := tTest (tOp (rEqD K) (tVar 5) (tLst tNil))
theorem emp {x : Addr} {ks : List Int} {R : Bool → Hp → Prop} (h5 : σ[5]? = some (some (.ref x))) (hx : H x = some (.lst (ks.map V.int))) (hz : ks.length ≤ sizeLine) (q : ∀ p, H p = none → R (decide (ks = [])) (upd H p (.lst []))) : emT K σ H R := by
  refine ⟨_, h5, by show 0 ≤ sizeLine; omega, fun p np => ?_⟩
  have hxp : x ≠ p := fun z => by rw [z, np] at hx; cases hx
  have hx' : upd H p (.lst []) x = some (.lst (ks.map V.int)) := by rw [upd_ne hxp]; exact hx
  have r1 : Rp ⟨K, fun _ => 0⟩ [] (upd H p (.lst [])) (.lst (ks.map D.int)) (.ref x) := by
    simp only [Rp]
    exact ⟨x, _, rfl, ⟨by rw [List.length_map]; exact hz, hx', by simp⟩, RpA.ofInts⟩
  have r2 : Rp ⟨K, fun _ => 0⟩ [] (upd H p (.lst [])) (.lst []) (.ref p) := by
    simp only [Rp, RpA]
    exact ⟨p, [], rfl, ⟨by show 0 ≤ sizeLine; omega, upd_same, by simp⟩, rfl⟩
  have k1 : okD (.lst (ks.map D.int)) = true := okNs_ints ks
  have k2 : okD (.lst []) = true := rfl
  refine ⟨_, _, r1.dp k1, r2.dp k2, okD_shaped k1, okD_shaped k2, _, rfl, ?_⟩
  rw [eqD_py k1 k2]
  have e : eqD (.lst (ks.map D.int)) (.lst []) = decide (ks = []) := by
    cases ks <;> rfl
  rw [e]
  exact q p np
/-! ### the loop -/
abbrev bodyT (K : PySem.W.Frag) : TS := tSeq (fT K) (tSeq (tIfS (emT K) (tRet (tC (V.int 0))) tNext) (tSeq (swT K) (tSeq (kT K) (tAsg (rdd K 2 2) (gName 4)))))
theorem piv_len {c : Nat} : (piv n c M).length ≤ n - c := pivTo_len (i := n - c)
theorem sz_sw {b c p : Nat} (hs : Sz n b M) (hc : c < n) (hp : p < n) : Sz n b (sw c p M) := fun i j hi hj => hs _ _ (by
  unfold tw
  split
  · exact hp
  · split
    · exact hc
    · exact hi) hj
theorem sz_step {b c : Nat} {l : Int} (hs : Sz n b M) (hc : c < n) : Sz n (2 * b + 1) (stepM c l M) := fun i j hi hj => by
  unfold stepM
  split
  · have := intBits_sub_le (intBits_mul_le (hs i j hi hj) (hs c c hc hc)) (intBits_mul_le (hs i c hi hc) (hs c j hc hj))
    exact Nat.le_trans (intBits_fdiv_le this) (by omega)
  · exact Nat.le_trans (hs i j hi hj) (by omega)
theorem cdv_of {b : Nat} {l : Int} (h0 : l ≠ 0) (hb : Builtin.Int.intBits l ≤ b) (h : b ≤ 9000) : CDv 0 l := by
  refine ⟨h0, (Nat.log2_lt (by omega)).mpr ?_⟩
  exact Nat.lt_of_lt_of_le (intBits_le_iff.mp hb) (Nat.pow_le_pow_right (by omega) h)
theorem Mx.body (h : Mx H0 H a bs n M) {c b : Nat} {s l : Int} {D : Ends} {y0 y5 y6 y7 y8 : Option V} (hc : c < n) (h0 : l ≠ 0) (hl : Builtin.Int.intBits l ≤ b) (hs : Sz n b M) (hb : b ≤ 9000)
    (q0 : piv n c M = [] → ∀ H', Same H0 H' → D.rt (.int 0) H')
    (q : ∀ p r, piv n c M = p :: r → ∀ H' bs' z5 z6 z8, Mx H0 H' a bs' n (stepM c l (sw c p M)) → D.nx [y0, some (.ref a), some (.int c), some (.int (if p ≠ c then -s else s)), some (.int (sw c p M c c)), z5, z6, y7, z8] H') :
    bodyT K D [y0, some (.ref a), some (.int c), some (.int s), some (.int l), y5, y6, y7, y8] H := by
  refine Mx.found h hc fun H1 x h1 hx hx0 hxa hxb => ?_
  have hxi : H1 x = some (.lst (((piv n c M).map fun (k : Nat) => (k : Int)).map V.int)) := by rw [hx, List.map_map]; rfl
  have hsz := h.sz
  refine emp rfl hxi (by rw [List.length_map]; have := piv_len (M := M) (n := n) (c := c); omega) fun p np => ?_
  have h2 := h1.new (o := .lst []) np
  cases e : piv n c M with
  | nil =>
    exact q0 e _ h2.sm
  | cons pv r =>
    obtain ⟨k1, k2, k3⟩ := piv_cons e
    have hxp : x ≠ p := fun z => by rw [z, np] at hx; cases hx
    have hx2 : upd H1 p (.lst []) x = some (.lst ((pv :: r).map fun (k : Nat) => V.int k)) := by rw [upd_ne hxp, hx, e]
    refine Mx.swp h2 hc k2 hx2 hxa fun H3 bs3 h3 => ?_
    refine Mx.kloop h3 hc (cdv_of h0 hl hb) (sz_sw hs hc k2) (by omega) fun H4 z6 z8 h4 => ?_
    refine h4.rd (x := c) (y := c) rfl rfl rfl hc hc ?_
    have ec : stepM c l (sw c pv M) c c = sw c pv M c c := by unfold stepM; rw [if_neg (by omega)]
    rw [ec]
    exact q pv r e H4 bs3 _ z6 z8 h4
def bd : Nat → Nat
  | 0 => 40
  | n + 1 => 2 * bd n + 1
theorem bd_le : ∀ {i : Nat}, i ≤ 6 → bd i ≤ 9000 := by
  intro i hi
  have : ∀ i ∈ List.range 7, bd i ≤ 9000 := by decide
  exact this i (by simp; omega)
abbrev loopT (K : PySem.W.Frag) : TS := tSeq (tFor (iRng1 (tCons (lenT K) tNil)) (gName 2) (bodyT K)) (tRet (tOp (rI IntMulOk fun i j => .int (i * j)) (tVar 3) (tVar 4)))
theorem Mx.loop (h : Mx H0 H a bs n M) {D : Ends} {y0 y2 y5 y6 y7 y8 : Option V} (hn : n ≤ 6) (hs : Sz n 40 M) (q : ∀ H', Same H0 H' → D.rt (.int (det n M)) H') :
    loopT K D [y0, some (.ref a), y2, some (.int 1), some (.int 1), y5, y6, y7, y8] H := by
  unfold loopT tSeq tFor iRng1 tCons
  refine h.ln rfl ?_
  have hn2 := n62 h.sz
  refine ⟨_, rfl, by omega, by omega, ?_⟩
  have e0 : ((n : Nat) : Int).toNat = n := by omega
  rw [e0]
  refine ⟨fun i m σ' H' => ∃ bs' N s l z2 z5 z6 z7 z8, σ' = [y0, some (.ref a), z2, some (.int s), some (.int l), z5, z6, z7, z8] ∧ i + m = n ∧ Mx H0 H' a bs' n N ∧ (s = 1 ∨ s = -1) ∧ l ≠ 0 ∧ Builtin.Int.intBits l ≤ bd i ∧ Sz n (bd i) N ∧ bar n m i N s l = det n M,
    ⟨n, bs, M, 1, 1, y2, y5, y6, y7, y8, rfl, by omega, h, .inl rfl, by decide, by decide +kernel, hs, bar_is_det n M⟩, ?_⟩
  rintro i m σ' H' ⟨bs', N, s, l, z2, z5, z6, z7, z8, rfl, hm, hx, hss, hl0, hlb, hsz, hbar⟩
  by_cases hi : i < n
  · obtain ⟨m', rfl⟩ : ∃ m', m = m' + 1 := ⟨m - 1, by omega⟩
    refine .inr ⟨hi, fun σ2 H2 => ∃ bs' N s l z2 z5 z6 z7 z8, σ2 = [y0, some (.ref a), z2, some (.int s), some (.int l), z5, z6, z7, z8] ∧ (i + 1) + m' = n ∧ Mx H0 H2 a bs' n N ∧ (s = 1 ∨ s = -1) ∧ l ≠ 0 ∧ Builtin.Int.intBits l ≤ bd (i + 1) ∧ Sz n (bd (i + 1)) N ∧ bar n m' (i + 1) N s l = det n M, fun σ2 H2 z => ⟨m', by omega, z⟩, ?_⟩
    rintro x H3 ⟨rfl, rfl⟩
    have ej : (0 : Int) + (i : Nat) = (i : Nat) := by omega
    rw [ej]
    refine Mx.body hx hi hl0 hlb hsz (bd_le (by omega)) (fun ep H4 sm => ?_) fun p r ep H4 bs4 w5 w6 w8 h4 => ?_
    · have : det n M = 0 := by
        rw [← hbar]
        unfold bar
        rw [ep]
      rw [← this]
      exact q H4 sm
    · obtain ⟨k1, k2, k3⟩ := piv_cons ep
      have eq1 : sw i p N i i = N p i := by unfold sw tw; rw [if_pos rfl]
      refine ⟨bs4, _, _, _, _, w5, w6, _, w8, rfl, by omega, h4, ?_, by rw [eq1]; exact k3, ?_, sz_step (sz_sw hsz hi k2) hi, ?_⟩
      · split
        · rcases hss with z | z
          · right; rw [z]
          · left; rw [z]; rfl
        · exact hss
      · rw [eq1]
        exact Nat.le_trans (hsz p i k2 hi) (by show bd i ≤ 2 * bd i + 1; omega)
      · have hb := hbar
        unfold bar at hb
        rw [ep] at hb
        exact hb
  · have e1 : i = n := by omega
    have e2 : m = 0 := by omega
    subst e1 e2
    refine .inl ⟨Nat.le_refl _, _, rfl, _, rfl, _, _, rfl, rfl, IntMulOk.of_left ?_, ?_⟩
    · rcases hss with z | z <;> (rw [z]; decide +kernel)
    · have hb : s * l = det i M := hbar
      show D.rt (.int (s * l)) H'
      rw [hb]
      exact q _ hx.sm
/-! ### rows = [list(row) for row in grid] -/
theorem sqL_same {H' : Hp} {xs : List V} (h : Same H H') (q : SqL K H a xs) : SqL K H' a xs := by
  rcases q with (q | ⟨o, q⟩) | q
  · exact .inl (.inl (h _ _ q))
  · exact .inl (.inr ⟨o, h _ _ q⟩)
  · exact .inr q
theorem sqT_same {H' : Hp} {xs : List V} (h : Same H H') (q : SqT K H a xs) : SqT K H' a xs := by
  rcases q with (q | ⟨o, q⟩) | q
  · exact .inl (.inl (h _ _ q))
  · exact .inl (.inr ⟨o, h _ _ q⟩)
  · exact .inr q
abbrev mkT (K : PySem.W.Frag) : TS := tAsg (tLc (iList K (tVar 0)) (gName 7) tYes (tCB (fun xs H Q => ∃ p ys, xs = [V.ref p] ∧ (SqL K H p ys ∨ SqT K H p ys) ∧ ∀ l, H l = none → Q (V.ref l) (upd H l (HO.lst ys))) (tCons (tVar 7) tNil)) [7]) (gName 1)
theorem made {g : Addr} {vs : List V} {G : Mt} {D : Ends} {y1 y2 y3 y4 y5 y6 y7 y8 : Option V} (hz : n ≤ sizeLine) (hg : SqL K H g vs) (hl : vs.length = n) (hr : ∀ i, i < n → ∃ t, vs[i]? = some (.ref t) ∧ SqT K H t (rowV n (G i)))
    (q : ∀ H' p bs, Mx H H' p bs n G → D.nx [some (.ref g), some (.ref p), y2, y3, y4, y5, y6, y7, y8] H') : mkT K D [some (.ref g), y1, y2, y3, y4, y5, y6, y7, y8] H := by
  unfold mkT tAsg tLc
  refine ⟨_, rfl, g, rfl, ⟨vs, hg⟩, fun p np => ?_⟩
  refine ⟨fun i m H' => ∃ bs : List Addr, bs.length = i ∧ i + m = n ∧ Same H H' ∧ H' p = some (.lst (bs.map V.ref)) ∧ p ∉ bs ∧ (∀ b ∈ bs, H b = none) ∧ (∀ (i j : Nat) (b : Addr), bs[i]? = some b → bs[j]? = some b → i = j) ∧ ∀ (i : Nat) (b : Addr), bs[i]? = some b → H' b = some (.lst (rowV n (G i))),
    ⟨n, [], rfl, by omega, same_upd np, upd_same, by simp, by simp, by simp, by simp⟩, ?_⟩
  rintro i m H' ⟨bs, hlen, hm, sm, hp, hpb, hb0, inj, rows⟩
  by_cases hi : i < n
  · obtain ⟨t, ht1, ht2⟩ := hr i hi
    refine .inr ⟨⟨vs, _, sqL_same sm hg, ht1⟩, fun H' => ∃ bs : List Addr, bs.length = i + 1 ∧ Same H H' ∧ H' p = some (.lst (bs.map V.ref)) ∧ p ∉ bs ∧ (∀ b ∈ bs, H b = none) ∧ (∀ (i j : Nat) (b : Addr), bs[i]? = some b → bs[j]? = some b → i = j) ∧ ∀ (i : Nat) (b : Addr), bs[i]? = some b → H' b = some (.lst (rowV n (G i))),
      fun H2 ⟨bs, e1, e2⟩ => ⟨m - 1, by omega, bs, e1, by omega, e2⟩, ?_⟩
    rintro x H3 ⟨rfl, hy⟩
    have ex := (hy vs (sqL_same sm hg)).symm.trans ht1
    cases ex
    refine ⟨rfl, _, rfl, t, _, rfl, .inr (sqT_same sm ht2), fun l nl => ?_⟩
    have hlp : p ≠ l := fun z => by rw [z, nl] at hp; cases hp
    have hl0 : H l = none := by
      cases e : H l with
      | none => rfl
      | some o => rw [sm l o e] at nl; cases nl
    have hlb : l ∉ bs := fun z => by
      obtain ⟨j, hj⟩ := List.mem_iff_getElem?.mp z
      rw [rows j l hj] at nl; cases nl
    refine ⟨bs.map V.ref, by rw [upd_ne hlp]; exact hp, by rw [List.length_map]; omega, bs ++ [l], by rw [List.length_append, hlen]; rfl, fun b o e => ?_, ?_, ?_, ?_, ?_, ?_⟩
    · have h1 : b ≠ p := fun z => by rw [z, np] at e; cases e
      have h2 : b ≠ l := fun z => by rw [z, hl0] at e; cases e
      rw [upd_ne h1, upd_ne h2]
      exact sm b o e
    · rw [upd_same, List.map_append]; rfl
    · intro z
      rcases List.mem_append.mp z with z | z
      · exact hpb z
      · exact hlp (by simpa using z)
    · intro b hb
      rcases List.mem_append.mp hb with z | z
      · exact hb0 b z
      · have : b = l := by simpa using z
        rw [this]; exact hl0
    · have key : ∀ (j : Nat) (b : Addr), (bs ++ [l])[j]? = some b → (j < bs.length ∧ bs[j]? = some b) ∨ (j = bs.length ∧ b = l) := fun j b e => by
        by_cases hj : j < bs.length
        · rw [List.getElem?_append_left hj] at e
          exact .inl ⟨hj, e⟩
        · rw [List.getElem?_append_right (by omega)] at e
          have hj2 : j - bs.length = 0 := by
            have := (List.getElem?_eq_some_iff.mp e).1
            simp at this
            omega
          rw [hj2] at e
          exact .inr ⟨by omega, by simpa using e.symm⟩
      intro j k b e1 e2
      rcases key j b e1 with ⟨a1, a2⟩ | ⟨a1, a2⟩ <;> rcases key k b e2 with ⟨a3, a4⟩ | ⟨a3, a4⟩
      · exact inj _ _ _ a2 a4
      · exact absurd (List.mem_of_getElem? a2) (by rw [a4]; exact hlb)
      · exact absurd (List.mem_of_getElem? a4) (by rw [a2]; exact hlb)
      · omega
    · intro j b e
      by_cases hj : j < bs.length
      · rw [List.getElem?_append_left hj] at e
        have hm := List.mem_of_getElem? e
        rw [upd_ne (fun z => hpb (by rw [← z]; exact hm)), upd_ne (fun z => hlb (by rw [← z]; exact hm))]
        exact rows j b e
      · rw [List.getElem?_append_right (by omega)] at e
        have hj2 : j - bs.length = 0 := by
          have := (List.getElem?_eq_some_iff.mp e).1
          simp at this
          omega
        rw [hj2] at e
        have eb : b = l := by simpa using e.symm
        have ej : j = i := by omega
        subst eb ej
        rw [upd_ne (Ne.symm hlp), upd_same]
  · refine .inl ⟨⟨vs, sqL_same sm hg, by omega⟩, q _ p bs ⟨sm, np, hb0, by omega, inj, hpb, hz, hp, rows⟩⟩
/-- all of it -/
abbrev wT (K : PySem.W.Frag) : TS := tSeq (mkT K) (tSeq (tAsg (tTup (tCons (tC (V.int 1)) (tCons (tC (V.int 1)) tNil))) (gTup K 2 (gCons (gName 3) (gCons (gName 4) gNil)))) (loopT K))
theorem whole {g : Addr} {vs : List V} {G : Mt} {D : Ends} {y1 y2 y3 y4 y5 y6 y7 y8 : Option V} (hn : n ≤ 6) (hs : Sz n 40 G) (hg : SqL K H g vs) (hl : vs.length = n) (hr : ∀ i, i < n → ∃ t, vs[i]? = some (.ref t) ∧ SqT K H t (rowV n (G i)))
    (q : ∀ H', Same H H' → D.rt (.int (det n G)) H') : wT K D [some (.ref g), y1, y2, y3, y4, y5, y6, y7, y8] H := by
  have hz : n ≤ sizeLine := Nat.le_trans hn (by decide)
  unfold wT tSeq
  refine made hz hg hl hr fun H1 p bs h1 => ?_
  refine ⟨by show 2 ≤ sizeLine; decide, fun t nt => ?_⟩
  refine ⟨t, _, rfl, SqT.of upd_same, rfl, _, _, rfl, _, _, rfl, rfl, ?_⟩
  exact Mx.loop (h1.new nt) hn hs q
end
end Ww
end

section
namespace Ww
open PySem PySem.Spec PyProof.Rows L2 Wm Dt
def entry (rows : List D) (i j : Nat) : Int := match rows[i]? with
  | some (.tup ds) => match ds[j]? with
    | some (.int x) => x
    | _ => 0
  | _ => 0
def okG (rows : List D) : Prop := rows.length ≤ 6 ∧ (∀ i, i < rows.length → rows[i]? = some (.tup ((List.range rows.length).map fun j => .int (entry rows i j)))) ∧ Sz rows.length 40 (entry rows)
noncomputable instance (rows : List D) : Decidable (okG rows) := Classical.propDecidable _
def lstOf : SD → Option (List D)
  | .sh (.lst xs) => some xs
  | .own xs => some xs
  | .byr xs => some xs
  | _ => none
noncomputable def gW : Ss := fun ρ => match ρ with
  | [s0, _, _, _, _, _, _, _, _] => match lstOf s0 with
    | some rows => if okG rows then .ok (.rt (.sh (.int (det rows.length (entry rows)))) [s0, .no, .no, .no, .no, .no, .no, .no, .no]) else .bad
    | none => .bad
  | _ => .bad
section
variable {K : PySem.W.Frag} {cl : Str → Addr} {vs0 : List V} {Wx : WX}
theorem gW_sound (O W : List Addr) (σ : L2.St) (H : Hp) (ρ : List SD) (E : Ends) (sr : SR ⟨K, cl⟩ vs0 O W σ H ρ) (hw : AftS ⟨K, cl⟩ vs0 Wx O W H E (gW ρ)) : wT K E σ H := by
  unfold gW at hw
  split at hw
  · rename_i s0 s1 s2 s3 s4 s5 s6 s7 s8
    split at hw
    · rename_i rows er
      split at hw
      · rename_i ok
        obtain ⟨h6, hrow, hsz⟩ := ok
        -- the list at slot 0
        have hg : ∃ g vs, σ[0]? = some (some (.ref g)) ∧ H g = some (.lst vs) ∧ RpA ⟨K, cl⟩ O H rows vs := by
          have q := sr.slot 0 s0 rfl
          cases s0 with
          | no => cases er
          | sh d =>
            obtain ⟨v, e1, e2⟩ := q
            cases d with
            | lst xs =>
              cases er
              simp only [Rp] at e2
              obtain ⟨g, vs, rfl, lo, ra⟩ := e2
              exact ⟨g, vs, Option.join_eq_some_iff.mp e1, lo.2.1, ra⟩
            | _ => cases er
          | own xs =>
            cases er
            obtain ⟨g, e1, _, vs, e2, _, ra⟩ := q
            exact ⟨g, vs, Option.join_eq_some_iff.mp e1, e2, ra⟩
          | byr xs =>
            cases er
            obtain ⟨g, e1, _, _, vs, e2, _, ra⟩ := q
            exact ⟨g, vs, Option.join_eq_some_iff.mp e1, e2, ra⟩
        obtain ⟨g, vs, eg, hH, ra⟩ := hg
        have hlen := sr.len
        match σ, hlen, eg, sr with
        | [x0, x1, x2, x3, x4, x5, x6, x7, x8], hlen, eg, sr =>
          cases eg
          refine whole (n := rows.length) (G := entry rows) h6 hsz (SqL.of hH) ra.length.symm (fun i hi => ?_) fun H' sm => ?_
          · obtain ⟨v, e1, e2⟩ := ra.getD (hrow i hi)
            simp only [Rp] at e2
            obtain ⟨t, ws, rfl, to, rb⟩ := e2
            refine ⟨t, e1, ?_⟩
            have e3 : (List.range rows.length).map (fun j => D.int (entry rows i j)) = ((List.range rows.length).map (entry rows i)).map D.int := by rw [List.map_map]; rfl
            rw [e3] at rb
            have e4 := rb.ints
            rw [e4, List.map_map] at to
            exact to.sq
          · have sr' := sr.same sm
            refine hw (.int (det rows.length (entry rows))) [some (.ref g), x1, x2, x3, x4, x5, x6, x7, x8] O W H' (Stp.same sm) ⟨sr'.wf, rfl, fun i s e => ?_, fun i j s t b e1 e2 m1 m2 q1 q2 => ?_⟩ ?_
            · match i, e with
              | 0, e => cases e; exact sr'.slot 0 s0 rfl
              | 1, e => cases e; trivial
              | 2, e => cases e; trivial
              | 3, e => cases e; trivial
              | 4, e => cases e; trivial
              | 5, e => cases e; trivial
              | 6, e => cases e; trivial
              | 7, e => cases e; trivial
              | 8, e => cases e; trivial
              | i + 9, e => cases e
            · have key : ∀ (i : Nat) (s : SD), [s0, .no, .no, .no, .no, .no, .no, .no, .no][i]? = some s → s.mine = true → i = 0 := fun i s e m => by
                match i, e with
                | 0, _ => rfl
                | 1, e => cases e; cases m
                | 2, e => cases e; cases m
                | 3, e => cases e; cases m
                | 4, e => cases e; cases m
                | 5, e => cases e; cases m
                | 6, e => cases e; cases m
                | 7, e => cases e; cases m
                | 8, e => cases e; cases m
                | i + 9, e => cases e
              rw [key i s e1 m1, key j t e2 m2]
            · simp only [ResR, Rp]
      · exact hw.elim
    · exact hw.elim
  · exact hw.elim
end
end Ww
end

section
namespace Lw
open PySem PySem.Spec PyProof.Rows L2 Wm
def topS (i : Nat) : Stmt := PySem.Challenge.pw_waymoves_k04_weights_of_grids.main.body.getD i (.Pass ⟨0, 0, 0, 0⟩)
abbrev s__law_draw : Stmt := topS 3
theorem sc__law_draw : FnScope ["_law_well", "_law_many", "_law_number", "_law_found"] ["_law_well", "_law_many"] (defScope s__law_draw) := ⟨rfl, rfl, rfl, by decide +kernel, rfl, by decide +kernel, by decide +kernel⟩
abbrev s__law_added : Stmt := topS 5
theorem sc__law_added : FnScope ["_law_one", "_law_other", "_law_many", "_law_mine", "_law_its"] ["_law_one", "_law_other", "_law_many"] (defScope s__law_added) := ⟨rfl, rfl, rfl, by decide +kernel, rfl, by decide +kernel, by decide +kernel⟩
abbrev s__law_grid : Stmt := topS 8
theorem sc__law_grid : FnScope ["_law_well", "_law_many", "_law_way", "_law_great", "_law_grid_here", "_law_j", "_law_k", "_law_row"] ["_law_well", "_law_many"] (defScope s__law_grid) := ⟨rfl, rfl, rfl, by decide +kernel, rfl, by decide +kernel, by decide +kernel⟩
abbrev s__law_by_first : Stmt := topS 7
theorem sc__law_by_first : FnScope ["_law_grid_here", "_law_found", "_law_k", "_law_one", "_law_rest", "_law_row"] ["_law_grid_here"] (defScope s__law_by_first) := ⟨rfl, rfl, rfl, by decide +kernel, rfl, by decide +kernel, by decide +kernel⟩
abbrev s_weight : Stmt := topS 1
theorem sc_weight : FnScope ["grid", "rows", "at", "sign", "last", "found", "k", "row", "j"] ["grid"] (defScope s_weight) := ⟨rfl, rfl, rfl, by decide +kernel, rfl, by decide +kernel, by decide +kernel⟩
abbrev s__law_great_right : Stmt := topS 9
theorem sc__law_great_right : FnScope ["_law_well", "_law_many", "_law_grid_here", "_law_heads", "_law_due", "_law_one", "_law_k", "_law_j", "_law_other", "_law_row"] ["_law_well"] (defScope s__law_great_right) := ⟨rfl, rfl, rfl, by decide +kernel, rfl, by decide +kernel, by decide +kernel⟩
abbrev s__law_right : Stmt := topS 10
theorem sc__law_right : FnScope ["_law_well", "_law_many", "_law_grid_here", "_law_handed", "_law_due", "_law_found", "_law_one", "_law_other", "_law_about", "_law_times", "_law_more", "_law_great", "_law_number", "_law_k", "_law_row"] ["_law_well"] (defScope s__law_right) := ⟨rfl, rfl, rfl, by decide +kernel, rfl, by decide +kernel, by decide +kernel⟩
abbrev s_law : Stmt := topS 11
theorem sc_law : FnScope ["_law_script", "_law_k", "_law_cell"] ["_law_script"] (defScope s_law) := ⟨rfl, rfl, rfl, by decide +kernel, rfl, by decide +kernel, by decide +kernel⟩
/-- what the top leaves -/
structure Tx (K : PySem.W.Frag) (mg : Str → Option Value) where
  a__law_draw : Addr
  fd__law_draw : FuncData
  F__law_draw : Fun K "_law_draw" "_law_draw" s__law_draw a__law_draw fd__law_draw
  m__law_draw : mg "_law_draw" = some (.ref a__law_draw)
  b__law_draw : Binds K fd__law_draw ["_law_well", "_law_many"] []
  a__law_added : Addr
  fd__law_added : FuncData
  F__law_added : Fun K "_law_added" "_law_added" s__law_added a__law_added fd__law_added
  m__law_added : mg "_law_added" = some (.ref a__law_added)
  b__law_added : Binds K fd__law_added ["_law_one", "_law_other", "_law_many"] []
  a__law_grid : Addr
  fd__law_grid : FuncData
  F__law_grid : Fun K "_law_grid" "_law_grid" s__law_grid a__law_grid fd__law_grid
  m__law_grid : mg "_law_grid" = some (.ref a__law_grid)
  b__law_grid : Binds K fd__law_grid ["_law_well", "_law_many"] []
  a__law_by_first : Addr
  fd__law_by_first : FuncData
  F__law_by_first : Fun K "_law_by_first" "_law_by_first" s__law_by_first a__law_by_first fd__law_by_first
  m__law_by_first : mg "_law_by_first" = some (.ref a__law_by_first)
  b__law_by_first : Binds K fd__law_by_first ["_law_grid_here"] []
  a_weight : Addr
  fd_weight : FuncData
  F_weight : Fun K "weight" "weight" s_weight a_weight fd_weight
  m_weight : mg "weight" = some (.ref a_weight)
  b_weight : Binds K fd_weight ["grid"] []
  a__law_great_right : Addr
  fd__law_great_right : FuncData
  F__law_great_right : Fun K "_law_great_right" "_law_great_right" s__law_great_right a__law_great_right fd__law_great_right
  m__law_great_right : mg "_law_great_right" = some (.ref a__law_great_right)
  b__law_great_right : Binds K fd__law_great_right ["_law_well"] []
  a__law_right : Addr
  fd__law_right : FuncData
  F__law_right : Fun K "_law_right" "_law_right" s__law_right a__law_right fd__law_right
  m__law_right : mg "_law_right" = some (.ref a__law_right)
  b__law_right : Binds K fd__law_right ["_law_well"] []
  a_law : Addr
  fd_law : FuncData
  F_law : Fun K "law" "law" s_law a_law fd_law
  m_law : mg "law" = some (.ref a_law)
  b_law : Binds K fd_law ["_law_script"] []
  z_bool : mg "bool" = none
  z_enumerate : mg "enumerate" = none
  z_int : mg "int" = none
  z_isinstance : mg "isinstance" = none
  z_len : mg "len" = none
  z_list : mg "list" = none
  z_range : mg "range" = none
  z_tuple : mg "tuple" = none
  z_zip : mg "zip" = none
section
variable {P : Program} {w : World} {K : PySem.W.Frag} {mg : Str → Option Value} {base : Heap} {cl : Str → Addr}
noncomputable def g__law_draw : Ss := (sSeq (sIf (bT (xPrim [.ex (xPrim [.va 0, .ex (xC (.int 0))] pIx), .ex (xC (.int 0))] pGt)) (sSeq (sSet 3 (xPrim [.ex (xPrim [.va 0, .ex (xC (.int 0))] pIx), .va 1] pMod))
    (sSeq (sStore 0 (xPrim [.ex (xPrim [.va 0, .ex (xC (.int 0))] pIx), .va 1] pFdiv) (.ex (xC (.int 0))))
    (sRetV 3))) sNil)
    (sSeq (sStore 0 (xPrim [.ex (xPrim [.va 0, .ex (xC (.int 2))] pIx), .ex (xC (.int 1))] pAdd) (.ex (xC (.int 2))))
    (sSeq (sSet 2 (xPrim [.ex (xPrim [.ex (xPrim [.ex (xPrim [.ex (xPrim [.va 0, .ex (xC (.int 1))] pIx), .ex (xPrim [.ex (xC (.int 104729)), .ex (xPrim [.va 0, .ex (xC (.int 2))] pIx)] pMul)] pAdd), .ex (xC (.int 1))] pAdd), .ex (xC (.int 48271))] pMul), .ex (xC (.int 2147483647))] pMod))
    (sSeq (sSet 2 (xPrim [.ex (xPrim [.va 2, .ex (xPrim [.ex (xPrim [.va 2, .ex (xC (.int 1009))] pFdiv), .ex (xC (.int 69621))] pAdd)] pMul), .ex (xC (.int 2147483647))] pMod))
    (sRet (xPrim [.ex (xPrim [.ex (xPrim [.va 2, .ex (xPrim [.ex (xPrim [.va 2, .ex (xC (.int 2003))] pFdiv), .ex (xC (.int 40692))] pAdd)] pMul), .ex (xC (.int 2147483399))] pMod), .va 1] pMod))))))
noncomputable def f__law_draw : Fn := bodyF 4 g__law_draw
theorem ok__law_draw (T : Tx K mg) : FnOk P w K mg base (L2.CX P w) 1 T.a__law_draw T.fd__law_draw ["_law_well", "_law_many"] (spF ⟨K, cl⟩ 2 f__law_draw) :=
  fn_ok (N := ["_law_well", "_law_many", "_law_number", "_law_found"]) (k := 0) (g := g__law_draw) T.F__law_draw sc__law_draw fun cdv A outer s H vs E hr => (bj_cons (sj_if (tj_gt (oj_cons (lj_ex (ej_sbs (oj_cons (lj_va (pv 0)) (oj_cons (lj_ex ej_int) oj_nil)))) (oj_cons (lj_ex ej_int) oj_nil))) (bj_cons (sj_set (i := 3) sc__law_draw.nd rfl (.inl rfl) (ej_mod (oj_cons (lj_ex (ej_sbs (oj_cons (lj_va (pv 0)) (oj_cons (lj_ex ej_int) oj_nil)))) (oj_cons (lj_va (pv 1)) oj_nil))))
    (bj_cons (sj_store (pv 0) (oj_cons (lj_ex ej_int) oj_nil) (ej_fdiv (oj_cons (lj_ex (ej_sbs (oj_cons (lj_va (pv 0)) (oj_cons (lj_ex ej_int) oj_nil)))) (oj_cons (lj_va (pv 1)) oj_nil))))
    (bj_one (sj_retV (pv 3))))) bj_nil)
    (bj_cons (sj_store (pv 0) (oj_cons (lj_ex ej_int) oj_nil) (ej_add (oj_cons (lj_ex (ej_sbs (oj_cons (lj_va (pv 0)) (oj_cons (lj_ex ej_int) oj_nil)))) (oj_cons (lj_ex ej_int) oj_nil))))
    (bj_cons (sj_set (i := 2) sc__law_draw.nd rfl (.inl rfl) (ej_mod (oj_cons (lj_ex (ej_mul (oj_cons (lj_ex (ej_add (oj_cons (lj_ex (ej_add (oj_cons (lj_ex (ej_sbs (oj_cons (lj_va (pv 0)) (oj_cons (lj_ex ej_int) oj_nil)))) (oj_cons (lj_ex (ej_mul (oj_cons (lj_ex ej_int) (oj_cons (lj_ex (ej_sbs (oj_cons (lj_va (pv 0)) (oj_cons (lj_ex ej_int) oj_nil)))) oj_nil)))) oj_nil)))) (oj_cons (lj_ex ej_int) oj_nil)))) (oj_cons (lj_ex ej_int) oj_nil)))) (oj_cons (lj_ex ej_int) oj_nil))))
    (bj_cons (sj_set (i := 2) sc__law_draw.nd rfl (.inl rfl) (ej_mod (oj_cons (lj_ex (ej_mul (oj_cons (lj_va (pv 2)) (oj_cons (lj_ex (ej_add (oj_cons (lj_ex (ej_fdiv (oj_cons (lj_va (pv 2)) (oj_cons (lj_ex ej_int) oj_nil)))) (oj_cons (lj_ex ej_int) oj_nil)))) oj_nil)))) (oj_cons (lj_ex ej_int) oj_nil))))
    (bj_one (sj_ret (ej_mod (oj_cons (lj_ex (ej_mod (oj_cons (lj_ex (ej_mul (oj_cons (lj_va (pv 2)) (oj_cons (lj_ex (ej_add (oj_cons (lj_ex (ej_fdiv (oj_cons (lj_va (pv 2)) (oj_cons (lj_ex ej_int) oj_nil)))) (oj_cons (lj_ex ej_int) oj_nil)))) oj_nil)))) (oj_cons (lj_ex ej_int) oj_nil)))) (oj_cons (lj_va (pv 1)) oj_nil)))))))))
noncomputable def c__law_added_0 : Sx := (xLc (srcZip (.va 0) (.va 1)) (stT [3, 4]) bYes (xPrim [.va 3, .ex (xPrim [.va 2, .va 4] pMul)] pAdd) [3, 4])
noncomputable def g__law_added : Ss := (sRet (xPrim [.ex c__law_added_0] pTuple))
noncomputable def f__law_added : Fn := bodyF 5 g__law_added
theorem ok__law_added (T : Tx K mg) : FnOk P w K mg base (L2.CX P w) 1 T.a__law_added T.fd__law_added ["_law_one", "_law_other", "_law_many"] (spF ⟨K, cl⟩ 3 f__law_added) :=
  fn_ok (N := ["_law_one", "_law_other", "_law_many", "_law_mine", "_law_its"]) (k := 0) (g := g__law_added) T.F__law_added sc__law_added fun cdv A outer s H vs E hr => (bj_one (sj_ret (ej_callTy call_tuple_of pr_tuple (by rfl) T.z_tuple (by decide +kernel) (oj_cons (lj_ex (ej_lc rfl sc__law_added.nd (ij_zip (by rfl) T.z_zip (lj_va (pv 0)) (lj_va (pv 1))) (blkOk_by (own := [("_law_mine", 3), ("_law_its", 4)]) (by kernel_rfl)) (fun _ _ _ _ _ => (gj_tup (is := [3, 4]) rfl (pgs_cons (pg_name (i := 3) sc__law_added.nd rfl (.inl rfl)) (pgs_cons (pg_name (i := 4) sc__law_added.nd rfl (.inl rfl)) pgs_nil)) rfl)) (fun _ _ _ _ _ => fj_nil) (fun _ _ _ _ _ => (ej_add (oj_cons (lj_va (pv 3)) (oj_cons (lj_ex (ej_mul (oj_cons (lj_va (pv 2)) (oj_cons (lj_va (pv 4)) oj_nil)))) oj_nil)))) (by decide))) oj_nil))))
noncomputable def c__law_grid_0 : Sx := (xLc (srcRng1 [.va 1]) (stN 6) bYes (xPrim [.ex (xCall f__law_draw [.va 0, .ex (xPrim [.ex (xPrim [.ex (xC (.int 2)), .va 3] pMul), .ex (xC (.int 1))] pAdd)]), .va 3] pSub) [6])
noncomputable def c__law_grid_1 : Sx := (xLc (srcRng1 [.va 1]) (stN 5) bYes (xPrim [.ex c__law_grid_0] pTuple) [5])
noncomputable def c__law_grid_2 : Sx := (xLc (srcRng1 [.va 1]) (stN 6) bYes (xPrim [.ex (xPrim [.va 7, .va 6] pIx), .ex (xPrim [.ex (xPrim [.va 6, .va 5] pGe)] pInt)] pMul) [6])
noncomputable def c__law_grid_3 : Sx := (xLc (srcEnum (.va 4)) (stT [5, 7]) bYes (xPrim [.ex c__law_grid_2] pTuple) [5, 7])
noncomputable def c__law_grid_4 : Sx := (xLc (srcEnum (.va 4)) (stT [5, 7]) bYes (xPrim [.ex (xPrim [.ex (xTup [(xC (.int 0))]), .ex (xPrim [.ex (xPrim [.va 1, .ex (xC (.int 1))] pSub), .va 5] pSub)] pMul), .ex (xPrim [.va 7, .ex (xPrim [.va 5, .ex (xC (.int 1))] pAdd)] pSlHi)] pAdd) [5, 7])
noncomputable def g__law_grid : Ss := (sSeq (sSet 2 (xCall f__law_draw [.va 0, .ex (xC (.int 5))]))
    (sSeq (sSet 3 (xPrim [.ex (xLst [(xC (.int 9)), (xC (.int 9)), (xC (.int 9)), (xC (.int 60))]), .ex (xCall f__law_draw [.va 0, .ex (xC (.int 4))])] pIx))
    (sSeq (sSet 4 c__law_grid_1)
    (sSeq (sIf (bAnd (bT (xPrim [.va 2, .ex (xC (.int 0))] pEq)) (bT (xPrim [.va 1, .ex (xC (.int 1))] pGt))) (sStore 4 (xPrim [.va 4, .ex (xC (.int 0))] pIx) (.ex (xPrim [.ex (xC (.int 1))] pNeg))) sNil)
    (sSeq (sIf (bAnd (bT (xPrim [.va 2, .ex (xC (.int 1))] pEq)) (bT (xPrim [.va 1, .ex (xC (.int 1))] pGt))) (sStore 4 (xCall f__law_added [.ex (xPrim [.va 4, .ex (xC (.int 0))] pIx), .ex (xPrim [.va 4, .ex (xPrim [.va 1, .ex (xC (.int 2))] pFdiv)] pIx), .ex (xPrim [.ex (xCall f__law_draw [.va 0, .ex (xC (.int 5))]), .ex (xC (.int 2))] pSub)]) (.ex (xPrim [.ex (xC (.int 1))] pNeg))) sNil)
    (sSeq (sIf (bT (xPrim [.va 2, .ex (xC (.int 2))] pEq)) (sSet 4 c__law_grid_3) sNil)
    (sSeq (sIf (bT (xPrim [.va 2, .ex (xC (.int 3))] pEq)) (sSet 4 c__law_grid_4) sNil)
    (sRetV 4))))))))
noncomputable def f__law_grid : Fn := bodyF 8 g__law_grid
theorem ok__law_grid (T : Tx K mg) : FnOk P w K mg base (L2.CX P w) 2 T.a__law_grid T.fd__law_grid ["_law_well", "_law_many"] (spF ⟨K, cl⟩ 2 f__law_grid) :=
  fn_ok (N := ["_law_well", "_law_many", "_law_way", "_law_great", "_law_grid_here", "_law_j", "_law_k", "_law_row"]) (k := 1) (g := g__law_grid) T.F__law_grid sc__law_grid fun cdv A outer s H vs E hr => (bj_cons (sj_set (i := 2) sc__law_grid.nd rfl (.inl rfl) (ej_call (ok__law_draw T) (hr.mono (by first | decide | omega)) (by rfl) T.m__law_draw T.F__law_draw.kp T.b__law_draw (takes_of rfl rfl rfl rfl) (kj_cons (lj_va (pv 0)) (kj_cons (lj_ex ej_int) kj_nil)) rfl))
    (bj_cons (sj_set (i := 3) sc__law_grid.nd rfl (.inr rfl) (ej_sbs (oj_cons (lj_ex (ej_lst (mj_cons ej_int (mj_cons ej_int (mj_cons ej_int (mj_cons ej_int mj_nil)))))) (oj_cons (lj_ex (ej_call (ok__law_draw T) (hr.mono (by first | decide | omega)) (by rfl) T.m__law_draw T.F__law_draw.kp T.b__law_draw (takes_of rfl rfl rfl rfl) (kj_cons (lj_va (pv 0)) (kj_cons (lj_ex ej_int) kj_nil)) rfl)) oj_nil))))
    (bj_cons (sj_setLc (i := 4) rfl sc__law_grid.nd rfl rfl (sw_true rfl rfl rfl (by decide +kernel)) (ij_rng1 (by rfl) T.z_range (oj_cons (lj_va (pv 1)) oj_nil)) (blkOk_by (own := [("_law_j", 5)]) (by kernel_rfl)) (fun _ _ _ _ _ => (gj_name (i := 5) sc__law_grid.nd rfl (.inl rfl))) (fun _ _ _ _ _ => fj_nil) (fun _ _ _ _ _ => (ej_callTy call_tuple_of pr_tuple (by rfl) T.z_tuple (by decide +kernel) (oj_cons (lj_ex (ej_lc rfl sc__law_grid.nd (ij_rng1 (by rfl) T.z_range (oj_cons (lj_va (pv 1)) oj_nil)) (blkOk_by (own := [("_law_k", 6)]) (by kernel_rfl)) (fun _ _ _ _ _ => (gj_name (i := 6) sc__law_grid.nd rfl (.inl rfl))) (fun _ _ _ _ _ => fj_nil) (fun _ _ _ _ _ => (ej_sub (oj_cons (lj_ex (ej_call (ok__law_draw T) (hr.mono (by first | decide | omega)) (by rfl) T.m__law_draw T.F__law_draw.kp T.b__law_draw takes0 (kj_cons (lj_va (pv 0)) (kj_cons (lj_ex (ej_add (oj_cons (lj_ex (ej_mul (oj_cons (lj_ex ej_int) (oj_cons (lj_va (pv 3)) oj_nil)))) (oj_cons (lj_ex ej_int) oj_nil)))) kj_nil)) rfl)) (oj_cons (lj_va (pv 3)) oj_nil)))) (by decide))) oj_nil))) (by decide))
    (bj_cons (sj_if (wj_and (tj_eq hr.units (oj_cons (lj_va (pv 2)) (oj_cons (lj_ex ej_int) oj_nil))) (wj_and1 (tj_gt (oj_cons (lj_va (pv 1)) (oj_cons (lj_ex ej_int) oj_nil))))).tj (bj_one (sj_store (pv 4) (oj_cons (lj_ex (ej_neg (oj_cons (lj_ex ej_int) oj_nil))) oj_nil) (ej_sbs (oj_cons (lj_va (pv 4)) (oj_cons (lj_ex ej_int) oj_nil))))) bj_nil)
    (bj_cons (sj_if (wj_and (tj_eq hr.units (oj_cons (lj_va (pv 2)) (oj_cons (lj_ex ej_int) oj_nil))) (wj_and1 (tj_gt (oj_cons (lj_va (pv 1)) (oj_cons (lj_ex ej_int) oj_nil))))).tj (bj_one (sj_store (pv 4) (oj_cons (lj_ex (ej_neg (oj_cons (lj_ex ej_int) oj_nil))) oj_nil) (ej_call (ok__law_added T) (hr.mono (by first | decide | omega)) (by rfl) T.m__law_added T.F__law_added.kp T.b__law_added (takes_of rfl rfl rfl rfl) (kj_cons (lj_ex (ej_sbs (oj_cons (lj_va (pv 4)) (oj_cons (lj_ex ej_int) oj_nil)))) (kj_cons (lj_ex (ej_sbs (oj_cons (lj_va (pv 4)) (oj_cons (lj_ex (ej_fdiv (oj_cons (lj_va (pv 1)) (oj_cons (lj_ex ej_int) oj_nil)))) oj_nil)))) (kj_cons (lj_ex (ej_sub (oj_cons (lj_ex (ej_call (ok__law_draw T) (hr.mono (by first | decide | omega)) (by rfl) T.m__law_draw T.F__law_draw.kp T.b__law_draw (takes_of rfl rfl rfl rfl) (kj_cons (lj_va (pv 0)) (kj_cons (lj_ex ej_int) kj_nil)) rfl)) (oj_cons (lj_ex ej_int) oj_nil)))) kj_nil))) rfl))) bj_nil)
    (bj_cons (sj_if (tj_eq hr.units (oj_cons (lj_va (pv 2)) (oj_cons (lj_ex ej_int) oj_nil))) (bj_one (sj_setLc (i := 4) rfl sc__law_grid.nd rfl rfl (sw_true rfl rfl rfl (by decide +kernel)) (ij_enum (by rfl) T.z_enumerate (lj_va (pv 4))) (blkOk_by (own := [("_law_j", 5), ("_law_row", 7)]) (by kernel_rfl)) (fun _ _ _ _ _ => (gj_tup (is := [5, 7]) rfl (pgs_cons (pg_name (i := 5) sc__law_grid.nd rfl (.inr rfl)) (pgs_cons (pg_name (i := 7) sc__law_grid.nd rfl (.inr rfl)) pgs_nil)) rfl)) (fun _ _ _ _ _ => fj_nil) (fun _ _ _ _ _ => (ej_callTy call_tuple_of pr_tuple (by rfl) T.z_tuple (by decide +kernel) (oj_cons (lj_ex (ej_lc rfl sc__law_grid.nd (ij_rng1 (by rfl) T.z_range (oj_cons (lj_va (pv 1)) oj_nil)) (blkOk_by (own := [("_law_k", 6)]) (by kernel_rfl)) (fun _ _ _ _ _ => (gj_name (i := 6) sc__law_grid.nd rfl (.inl rfl))) (fun _ _ _ _ _ => fj_nil) (fun _ _ _ _ _ => (ej_mul (oj_cons (lj_ex (ej_sbs (oj_cons (lj_va (pv 7)) (oj_cons (lj_va (pv 6)) oj_nil)))) (oj_cons (lj_ex (ej_callTy call_int1 pr_int (by rfl) T.z_int (by decide +kernel) (oj_cons (lj_ex (ej_ge (oj_cons (lj_va (pv 6)) (oj_cons (lj_va (pv 5)) oj_nil)))) oj_nil))) oj_nil)))) (by decide))) oj_nil))) (by decide))) bj_nil)
    (bj_cons (sj_if (tj_eq hr.units (oj_cons (lj_va (pv 2)) (oj_cons (lj_ex ej_int) oj_nil))) (bj_one (sj_setLc (i := 4) rfl sc__law_grid.nd rfl rfl (sw_true rfl rfl rfl (by decide +kernel)) (ij_enum (by rfl) T.z_enumerate (lj_va (pv 4))) (blkOk_by (own := [("_law_j", 5), ("_law_row", 7)]) (by kernel_rfl)) (fun _ _ _ _ _ => (gj_tup (is := [5, 7]) rfl (pgs_cons (pg_name (i := 5) sc__law_grid.nd rfl (.inl rfl)) (pgs_cons (pg_name (i := 7) sc__law_grid.nd rfl (.inl rfl)) pgs_nil)) rfl)) (fun _ _ _ _ _ => fj_nil) (fun _ _ _ _ _ => (ej_add (oj_cons (lj_ex (ej_mul (oj_cons (lj_ex (ej_tup (mj_cons ej_int mj_nil))) (oj_cons (lj_ex (ej_sub (oj_cons (lj_ex (ej_sub (oj_cons (lj_va (pv 1)) (oj_cons (lj_ex ej_int) oj_nil)))) (oj_cons (lj_va (pv 5)) oj_nil)))) oj_nil)))) (oj_cons (lj_ex (ej_slHi (oj_cons (lj_va (pv 7)) (oj_cons (lj_ex (ej_add (oj_cons (lj_va (pv 5)) (oj_cons (lj_ex ej_int) oj_nil)))) oj_nil)))) oj_nil)))) (by decide))) bj_nil)
    (bj_one (sj_retV (pv 4))))))))))
noncomputable def c__law_by_first_0 : Sx := (xLc (con (.ex (xPrim [.va 0, .ex (xC (.int 1))] pSlLo))) (stN 5) bYes (xPrim [.ex (xPrim [.va 5, .va 2] pSlHi), .ex (xPrim [.va 5, .ex (xPrim [.va 2, .ex (xC (.int 1))] pAdd)] pSlLo)] pAdd) [5])
noncomputable def l__law_by_first_1 (F : Fn) : Ss := (sIf (bT (xPrim [.va 3, .ex (xC (.int 0))] pNe)) (sSeq (sSet 4 c__law_by_first_0)
    (sSet 1 (xPrim [.va 1, .ex (xPrim [.ex (xPrim [.ex (xLst [(xVar 3), (xPrim [.va 3] pNeg)]), .ex (xPrim [.va 2, .ex (xC (.int 2))] pMod)] pIx), .ex (xCall F [.va 4])] pMul)] pAdd))) sNil)
noncomputable def g__law_by_first (F : Fn) : Ss := (sSeq (sIf (bT (xPrim [.va 0, .ex (xLst [])] pEq)) (sRet (xC (.int 1))) sNil)
    (sSeq (sSet 1 (xC (.int 0)))
    (sSeq (sFor (srcEnum (.ex (xPrim [.va 0, .ex (xC (.int 0))] pIx))) (stT [2, 3]) (l__law_by_first_1 F))
    (sRetV 1))))
noncomputable def fr__law_by_first : Nat → Fn
  | 0 => fun _ => .bad
  | k + 1 => bodyF 6 (g__law_by_first (fr__law_by_first k))
theorem ok__law_by_first (T : Tx K mg) : ∀ k, FnOk P w K mg base (L2.CX P w) (1 + k) T.a__law_by_first T.fd__law_by_first ["_law_grid_here"] (spF ⟨K, cl⟩ 1 (fr__law_by_first k))
  | 0 => fn_bad rfl
  | k + 1 => by
    have hrec := ok__law_by_first T k
    exact fn_ok (N := ["_law_grid_here", "_law_found", "_law_k", "_law_one", "_law_rest", "_law_row"]) (k := 1 + k) (g := g__law_by_first (fr__law_by_first k)) T.F__law_by_first sc__law_by_first fun cdv A outer s H vs E hr => (bj_cons (sj_if (tj_eq hr.units (oj_cons (lj_va (pv 0)) (oj_cons (lj_ex (ej_lst mj_nil)) oj_nil))) (bj_one (sj_ret ej_int)) bj_nil)
    (bj_cons (sj_set (i := 1) sc__law_by_first.nd rfl (.inl rfl) ej_int)
    (bj_cons (sj_for (passes_of rfl) rfl (ij_enum (by rfl) T.z_enumerate (lj_ex (ej_sbs (oj_cons (lj_va (pv 0)) (oj_cons (lj_ex ej_int) oj_nil))))) (gj_tup (is := [2, 3]) rfl (pgs_cons (pg_name (i := 2) sc__law_by_first.nd rfl (.inr rfl)) (pgs_cons (pg_name (i := 3) sc__law_by_first.nd rfl (.inl rfl)) pgs_nil)) rfl) (bj_one (sj_if (tj_ne hr.units (oj_cons (lj_va (pv 3)) (oj_cons (lj_ex ej_int) oj_nil))) (bj_cons (sj_setLc (i := 4) rfl sc__law_by_first.nd rfl rfl (sw_true rfl rfl rfl (by decide +kernel)) (ij_seq (lj_ex (ej_slLo (oj_cons (lj_va (pv 0)) (oj_cons (lj_ex ej_int) oj_nil))))) (blkOk_by (own := [("_law_row", 5)]) (by kernel_rfl)) (fun _ _ _ _ _ => (gj_name (i := 5) sc__law_by_first.nd rfl (.inl rfl))) (fun _ _ _ _ _ => fj_nil) (fun _ _ _ _ _ => (ej_add (oj_cons (lj_ex (ej_slHi (oj_cons (lj_va (pv 5)) (oj_cons (lj_va (pv 2)) oj_nil)))) (oj_cons (lj_ex (ej_slLo (oj_cons (lj_va (pv 5)) (oj_cons (lj_ex (ej_add (oj_cons (lj_va (pv 2)) (oj_cons (lj_ex ej_int) oj_nil)))) oj_nil)))) oj_nil)))) (by decide))
    (bj_one (sj_set (i := 1) sc__law_by_first.nd rfl (.inl rfl) (ej_add (oj_cons (lj_va (pv 1)) (oj_cons (lj_ex (ej_mul (oj_cons (lj_ex (ej_sbs (oj_cons (lj_ex (ej_lst (mj_cons (ej_var (pv 3)) (mj_cons (ej_neg (oj_cons (lj_va (pv 3)) oj_nil)) mj_nil)))) (oj_cons (lj_ex (ej_mod (oj_cons (lj_va (pv 2)) (oj_cons (lj_ex ej_int) oj_nil)))) oj_nil)))) (oj_cons (lj_ex (ej_call hrec (hr.mono (by first | decide | omega)) (by rfl) T.m__law_by_first T.F__law_by_first.kp T.b__law_by_first (takes_of rfl rfl rfl rfl) (kj_cons (lj_va (pv 4)) kj_nil) rfl)) oj_nil)))) oj_nil)))))) bj_nil)))
    (bj_one (sj_retV (pv 1))))))
noncomputable def f_weight : Fn := bodyF 9 Ww.gW
theorem ok_weight (T : Tx K mg) : FnOk P w K mg base (L2.CX P w) 1 T.a_weight T.fd_weight ["grid"] (spF ⟨K, cl⟩ 1 f_weight) :=
  fn_ok (N := ["grid", "rows", "at", "sign", "last", "found", "k", "row", "j"]) (k := 0) (g := Ww.gW) T.F_weight sc_weight fun cdv A outer s H vs E hr => by
    refine ⟨⟨_, pss_cons (ps_set (i := 1) sc_weight.nd rfl (.inr rfl) (pe_lc (te := tCB (fun xs H Q => ∃ p ys, xs = [.ref p] ∧ (SqL K H p ys ∨ SqT K H p ys) ∧ ∀ l, H l = none → Q (.ref l) (upd H l (.lst ys))) (tCons (tVar 7) tNil)) rfl sc_weight.nd (pi_list (pv 0)) (blkOk_by (own := [("row", 7)]) (by kernel_rfl)) (fun _ _ _ _ _ => pg_name (i := 7) sc_weight.nd rfl (.inl rfl)) (fun _ _ _ _ _ => pts_nil)
          (fun _ _ _ _ _ => pe_callTy (T := "list") call_list_of (by rfl) T.z_list (by decide +kernel) (pa_cons (pv 7) pa_nil))))
      (pss_cons (ps_asg (pe_tup (pa_cons pe_int (pa_cons pe_int pa_nil))) (pg_tup rfl (pgs_cons (pg_name (i := 3) sc_weight.nd rfl (.inl rfl)) (pgs_cons (pg_name (i := 4) sc_weight.nd rfl (.inl rfl)) pgs_nil rfl) rfl) rfl rfl) rfl rfl rfl)
      (pss_cons (ps_for (passes_of rfl) rfl (pi_range1 (by rfl) T.z_range (pa_cons (pe_callB call_len_seq (by rfl) T.z_len PySem.boot_len (pa_cons (pv 1) pa_nil)) pa_nil)) (pg_name (i := 2) sc_weight.nd rfl (.inr rfl))
        (pss_cons (ps_setLc (i := 5) (tt := tTest (tOp rNe (tOp (rIxL K) (tOp (rIxL K) (tVar 1) (tVar 6)) (tVar 2)) (tC (.int 0)))) (te := tVar 6) rfl sc_weight.nd rfl rfl (sw_true rfl rfl rfl (by decide +kernel)) (pi_range2 (by rfl) T.z_range (pa_cons (pv 2) (pa_cons (pe_callB call_len_seq (by rfl) T.z_len PySem.boot_len (pa_cons (pv 1) pa_nil)) pa_nil))) (blkOk_by (own := [("k", 6)]) (by kernel_rfl)) (fun _ _ _ _ _ => pg_name (i := 6) sc_weight.nd rfl (.inl rfl))
            (fun _ _ _ _ _ => pts_one (pt_cmpR op_ne (pe_ix ix_list (pe_ix ix_list (pv 1) (pv 6) (fun _ _ => rfl)) (pv 2) (fun _ _ => rfl)) pe_int (nomark _))) (fun _ _ _ _ _ => pv 6))
        (pss_cons (ps_if (pt_cmpR (op_eqD hr.units) (pv 5) (pe_lst pa_nil) (nomark _)) (pss_one (ps_ret pe_int)) pss_nil)
        (pss_cons (ps_if (pt_cmpR op_ne (pe_ix ix_list (pv 5) pe_int (fun _ _ => rfl)) (pv 2) (nomark _))
          (pss_cons (ps_asg (pe_tup (pa_cons (pe_ix ix_list (pv 1) (pe_ix ix_list (pv 5) pe_int (fun _ _ => rfl)) (fun _ _ => rfl)) (pa_cons (pe_ix ix_list (pv 1) (pv 2) (fun _ _ => rfl)) pa_nil)))
              (pg_tup rfl (pgs_cons (pg_sub (pv 1) (pv 2) set_list (by intro _; rfl)) (pgs_cons (pg_sub (pv 1) (pe_ix ix_list (pv 5) pe_int (fun _ _ => rfl)) set_list (by intro _; rfl)) pgs_nil rfl) rfl) rfl rfl) rfl rfl rfl)
          (pss_one (ps_set (i := 3) sc_weight.nd rfl (.inl rfl) (pe_un un_neg (pv 3))))) pss_nil)
        (pss_cons (ps_for (passes_of rfl) rfl (pi_range2 (by rfl) T.z_range (pa_cons (pe_op op_add (pv 2) pe_int) (pa_cons (pe_callB call_len_seq (by rfl) T.z_len PySem.boot_len (pa_cons (pv 1) pa_nil)) pa_nil))) (pg_name (i := 6) sc_weight.nd rfl (.inl rfl))
          (pss_one (ps_for (passes_of rfl) rfl (pi_range2 (by rfl) T.z_range (pa_cons (pe_op op_add (pv 2) pe_int) (pa_cons (pe_callB call_len_seq (by rfl) T.z_len PySem.boot_len (pa_cons (pv 1) pa_nil)) pa_nil))) (pg_name (i := 8) sc_weight.nd rfl (.inl rfl))
            (pss_one (ps_asg (pe_op op_fdivD (pe_op op_sub (pe_op op_mulI (pe_ix ix_list (pe_ix ix_list (pv 1) (pv 6) (fun _ _ => rfl)) (pv 8) (fun _ _ => rfl)) (pe_ix ix_list (pe_ix ix_list (pv 1) (pv 2) (fun _ _ => rfl)) (pv 2) (fun _ _ => rfl)))
                (pe_op op_mulI (pe_ix ix_list (pe_ix ix_list (pv 1) (pv 6) (fun _ _ => rfl)) (pv 2) (fun _ _ => rfl)) (pe_ix ix_list (pe_ix ix_list (pv 1) (pv 2) (fun _ _ => rfl)) (pv 8) (fun _ _ => rfl)))) (pv 4))
              (pg_sub (pe_ix ix_list (pv 1) (pv 6) (fun _ _ => rfl)) (pv 8) set_list (by intro _; rfl)) rfl rfl rfl)))))
        (pss_one (ps_set (i := 4) sc_weight.nd rfl (.inl rfl) (pe_ix ix_list (pe_ix ix_list (pv 1) (pv 2) (fun _ _ => rfl)) (pv 2) (fun _ _ => rfl)))))))))
      (pss_one (ps_ret (pe_op op_mulI (pv 3) (pv 4)))))), ?_⟩⟩
    exact fun O W σ H ρ E sr hw => Ww.gW_sound O W σ H ρ E sr hw
noncomputable def c__law_great_right_0 : Sx := (xLc (srcRng1 [.va 1]) (stN 6) bYes (xPrim [.ex (xPrim [.ex (xCall f__law_draw [.va 0, .ex (xC (.int 9))]), .ex (xC (.int 4))] pSub), .ex (xPrim [.ex (xPrim [.va 6, .va 7] pGt)] pInt)] pMul) [6])
noncomputable def c__law_great_right_1 : Sx := (xLc (srcRng1 [.va 1]) (stN 7) bYes (xPrim [.ex c__law_great_right_0] pTuple) [7])
noncomputable def c__law_great_right_2 : Sx := (xLc (srcRng1 [.va 1]) (stN 6) bYes (xPrim [.ex (xCall f__law_draw [.va 0, .ex (xC (.int 7))]), .ex (xC (.int 3))] pSub) [6])
noncomputable def c__law_great_right_3 : Sx := (xLc (srcEnum (.va 2)) (stT [7, 9]) bYes (xPrim [.ex (xPrim [.ex (xPrim [.va 9, .va 7] pSlHi), .ex (xTup [(xPrim [.va 3, .va 7] pIx)])] pAdd), .ex (xPrim [.va 9, .ex (xPrim [.va 7, .ex (xC (.int 1))] pAdd)] pSlLo)] pAdd) [7, 9])
noncomputable def l__law_great_right_4 : Ss := (sSet 4 (xPrim [.va 4, .va 5] pMul))
noncomputable def l__law_great_right_5 : Ss := (sSeq (sPar 5 8 (xCall f__law_draw [.va 0, .va 1]) (xCall f__law_draw [.va 0, .va 1]))
    (sIf (bT (xPrim [.va 5, .va 8] pNe)) (sStore 2 (xCall f__law_added [.ex (xPrim [.va 2, .va 5] pIx), .ex (xPrim [.va 2, .va 8] pIx), .ex (xPrim [.ex (xCall f__law_draw [.va 0, .ex (xC (.int 5))]), .ex (xC (.int 2))] pSub)]) (.va 5)) sNil))
noncomputable def g__law_great_right : Ss := (sSeq (sSet 1 (xPrim [.ex (xC (.int 5)), .ex (xCall f__law_draw [.va 0, .ex (xC (.int 2))])] pAdd))
    (sSeq (sSet 2 c__law_great_right_1)
    (sSeq (sSet 3 c__law_great_right_2)
    (sSeq (sSet 2 c__law_great_right_3)
    (sSeq (sSet 4 (xC (.int 1)))
    (sSeq (sFor (con (.ex (xVar 3))) (stN 5) l__law_great_right_4)
    (sSeq (sFor (srcRng1 [.ex (xC (.int 4))]) (stN 6) l__law_great_right_5)
    (sRet (xPrim [.ex (xCall f_weight [.ex (xPrim [.va 2] pList)]), .va 4] pEq)))))))))
noncomputable def f__law_great_right : Fn := bodyF 10 g__law_great_right
theorem ok__law_great_right (T : Tx K mg) : FnOk P w K mg base (L2.CX P w) 2 T.a__law_great_right T.fd__law_great_right ["_law_well"] (spF ⟨K, cl⟩ 1 f__law_great_right) :=
  fn_ok (N := ["_law_well", "_law_many", "_law_grid_here", "_law_heads", "_law_due", "_law_one", "_law_k", "_law_j", "_law_other", "_law_row"]) (k := 1) (g := g__law_great_right) T.F__law_great_right sc__law_great_right fun cdv A outer s H vs E hr => (bj_cons (sj_set (i := 1) sc__law_great_right.nd rfl (.inr rfl) (ej_add (oj_cons (lj_ex ej_int) (oj_cons (lj_ex (ej_call (ok__law_draw T) (hr.mono (by first | decide | omega)) (by rfl) T.m__law_draw T.F__law_draw.kp T.b__law_draw (takes_of rfl rfl rfl rfl) (kj_cons (lj_va (pv 0)) (kj_cons (lj_ex ej_int) kj_nil)) rfl)) oj_nil))))
    (bj_cons (sj_setLc (i := 2) rfl sc__law_great_right.nd rfl rfl (sw_true rfl rfl rfl (by decide +kernel)) (ij_rng1 (by rfl) T.z_range (oj_cons (lj_va (pv 1)) oj_nil)) (blkOk_by (own := [("_law_j", 7)]) (by kernel_rfl)) (fun _ _ _ _ _ => (gj_name (i := 7) sc__law_great_right.nd rfl (.inr rfl))) (fun _ _ _ _ _ => fj_nil) (fun _ _ _ _ _ => (ej_callTy call_tuple_of pr_tuple (by rfl) T.z_tuple (by decide +kernel) (oj_cons (lj_ex (ej_lc rfl sc__law_great_right.nd (ij_rng1 (by rfl) T.z_range (oj_cons (lj_va (pv 1)) oj_nil)) (blkOk_by (own := [("_law_k", 6)]) (by kernel_rfl)) (fun _ _ _ _ _ => (gj_name (i := 6) sc__law_great_right.nd rfl (.inl rfl))) (fun _ _ _ _ _ => fj_nil) (fun _ _ _ _ _ => (ej_mul (oj_cons (lj_ex (ej_sub (oj_cons (lj_ex (ej_call (ok__law_draw T) (hr.mono (by first | decide | omega)) (by rfl) T.m__law_draw T.F__law_draw.kp T.b__law_draw takes0 (kj_cons (lj_va (pv 0)) (kj_cons (lj_ex ej_int) kj_nil)) rfl)) (oj_cons (lj_ex ej_int) oj_nil)))) (oj_cons (lj_ex (ej_callTy call_int1 pr_int (by rfl) T.z_int (by decide +kernel) (oj_cons (lj_ex (ej_gt (oj_cons (lj_va (pv 6)) (oj_cons (lj_va (pv 7)) oj_nil)))) oj_nil))) oj_nil)))) (by decide))) oj_nil))) (by decide))
    (bj_cons (sj_set (i := 3) sc__law_great_right.nd rfl (.inr rfl) (ej_lc rfl sc__law_great_right.nd (ij_rng1 (by rfl) T.z_range (oj_cons (lj_va (pv 1)) oj_nil)) (blkOk_by (own := [("_law_k", 6)]) (by kernel_rfl)) (fun _ _ _ _ _ => (gj_name (i := 6) sc__law_great_right.nd rfl (.inl rfl))) (fun _ _ _ _ _ => fj_nil) (fun _ _ _ _ _ => (ej_sub (oj_cons (lj_ex (ej_call (ok__law_draw T) (hr.mono (by first | decide | omega)) (by rfl) T.m__law_draw T.F__law_draw.kp T.b__law_draw takes0 (kj_cons (lj_va (pv 0)) (kj_cons (lj_ex ej_int) kj_nil)) rfl)) (oj_cons (lj_ex ej_int) oj_nil)))) (by decide)))
    (bj_cons (sj_setLc (i := 2) rfl sc__law_great_right.nd rfl rfl (sw_true rfl rfl rfl (by decide +kernel)) (ij_enum (by rfl) T.z_enumerate (lj_va (pv 2))) (blkOk_by (own := [("_law_j", 7), ("_law_row", 9)]) (by kernel_rfl)) (fun _ _ _ _ _ => (gj_tup (is := [7, 9]) rfl (pgs_cons (pg_name (i := 7) sc__law_great_right.nd rfl (.inl rfl)) (pgs_cons (pg_name (i := 9) sc__law_great_right.nd rfl (.inl rfl)) pgs_nil)) rfl)) (fun _ _ _ _ _ => fj_nil) (fun _ _ _ _ _ => (ej_add (oj_cons (lj_ex (ej_add (oj_cons (lj_ex (ej_slHi (oj_cons (lj_va (pv 9)) (oj_cons (lj_va (pv 7)) oj_nil)))) (oj_cons (lj_ex (ej_tup (mj_cons (ej_sbs (oj_cons (lj_va (pv 3)) (oj_cons (lj_va (pv 7)) oj_nil))) mj_nil))) oj_nil)))) (oj_cons (lj_ex (ej_slLo (oj_cons (lj_va (pv 9)) (oj_cons (lj_ex (ej_add (oj_cons (lj_va (pv 7)) (oj_cons (lj_ex ej_int) oj_nil)))) oj_nil)))) oj_nil)))) (by decide))
    (bj_cons (sj_set (i := 4) sc__law_great_right.nd rfl (.inl rfl) ej_int)
    (bj_cons (sj_for (passes_of rfl) rfl (ij_seq (lj_ex (ej_var (pv 3)))) (gj_name (i := 5) sc__law_great_right.nd rfl (.inl rfl)) (bj_one (sj_set (i := 4) sc__law_great_right.nd rfl (.inl rfl) (ej_mul (oj_cons (lj_va (pv 4)) (oj_cons (lj_va (pv 5)) oj_nil))))))
    (bj_cons (sj_for (passes_of rfl) rfl (ij_rng1 (by rfl) T.z_range (oj_cons (lj_ex ej_int) oj_nil)) (gj_name (i := 6) sc__law_great_right.nd rfl (.inl rfl)) (bj_cons (sj_par (i := 5) (j := 8) rfl sc__law_great_right.nd rfl rfl (by decide) rfl rfl (mj_cons (ej_call (ok__law_draw T) (hr.mono (by first | decide | omega)) (by rfl) T.m__law_draw T.F__law_draw.kp T.b__law_draw (takes_of rfl rfl rfl rfl) (kj_cons (lj_va (pv 0)) (kj_cons (lj_va (pv 1)) kj_nil)) rfl) (mj_cons (ej_call (ok__law_draw T) (hr.mono (by first | decide | omega)) (by rfl) T.m__law_draw T.F__law_draw.kp T.b__law_draw (takes_of rfl rfl rfl rfl) (kj_cons (lj_va (pv 0)) (kj_cons (lj_va (pv 1)) kj_nil)) rfl) mj_nil)))
    (bj_one (sj_if (tj_ne hr.units (oj_cons (lj_va (pv 5)) (oj_cons (lj_va (pv 8)) oj_nil))) (bj_one (sj_store (pv 2) (oj_cons (lj_va (pv 5)) oj_nil) (ej_call (ok__law_added T) (hr.mono (by first | decide | omega)) (by rfl) T.m__law_added T.F__law_added.kp T.b__law_added (takes_of rfl rfl rfl rfl) (kj_cons (lj_ex (ej_sbs (oj_cons (lj_va (pv 2)) (oj_cons (lj_va (pv 5)) oj_nil)))) (kj_cons (lj_ex (ej_sbs (oj_cons (lj_va (pv 2)) (oj_cons (lj_va (pv 8)) oj_nil)))) (kj_cons (lj_ex (ej_sub (oj_cons (lj_ex (ej_call (ok__law_draw T) (hr.mono (by first | decide | omega)) (by rfl) T.m__law_draw T.F__law_draw.kp T.b__law_draw (takes_of rfl rfl rfl rfl) (kj_cons (lj_va (pv 0)) (kj_cons (lj_ex ej_int) kj_nil)) rfl)) (oj_cons (lj_ex ej_int) oj_nil)))) kj_nil))) rfl))) bj_nil))))
    (bj_one (sj_ret (ej_eq hr.units (oj_cons (lj_ex (ej_call (ok_weight T) (hr.mono (by first | decide | omega)) (by rfl) T.m_weight T.F_weight.kp T.b_weight (takes_of rfl rfl rfl rfl) (kj_cons (lj_ex (ej_callTy call_list_of pr_list (by rfl) T.z_list (by decide +kernel) (oj_cons (lj_va (pv 2)) oj_nil))) kj_nil) rfl)) (oj_cons (lj_va (pv 4)) oj_nil))))))))))))
noncomputable def c__law_right_0 : Sx := (xLc (con (.ex (xPrim [.va 2, .va 6] pIx))) (stN 12) bYes (xPrim [.va 9, .va 12] pMul) [12])
noncomputable def c__law_right_1 : Sx := (xLc (con (.va 2)) (stN 14) bYes (xPrim [.va 14, .va 13] pIx) [14])
noncomputable def c__law_right_2 : Sx := (xLc (srcRng1 [.va 1]) (stN 13) bYes (xPrim [.ex c__law_right_1] pTuple) [13])
noncomputable def g__law_right : Ss := (sSeq (sSet 1 (xCall f__law_draw [.va 0, .ex (xC (.int 5))]))
    (sSeq (sSet 2 (xCall f__law_grid [.va 0, .va 1]))
    (sSeq (sSet 3 (xPrim [.va 2] pList))
    (sSeq (sSet 4 (xCall (fr__law_by_first 8) [.va 2]))
    (sSeq (sSet 5 (xCall f_weight [.va 3]))
    (sSeq (sIf (bOr (bT (xPrim [.va 5, .va 4] pNe)) (bOr (bTru [.ex (xPrim [.va 5] (pIsi .bool))]) (bOr (bT (xPrim [.va 3, .va 2] pNe)) (bNot (bTru [.ex (xCall f__law_great_right [.va 0])]))))) (sRet (xC (.bl false))) sNil)
    (sSeq (sIf (bT (xPrim [.va 1, .ex (xC (.int 2))] pLt)) (sRet (xC (.bl true))) sNil)
    (sSeq (sSet 6 (xCall f__law_draw [.va 0, .va 1]))
    (sSeq (sSet 7 (xPrim [.ex (xPrim [.ex (xPrim [.va 6, .ex (xC (.int 1))] pAdd), .ex (xCall f__law_draw [.va 0, .ex (xPrim [.va 1, .ex (xC (.int 1))] pSub)])] pAdd), .va 1] pMod))
    (sSeq (sSet 8 (xPrim [.va 2] pList))
    (sSeq (sSub2 8 (xTup [(xPrim [.va 2, .va 7] pIx), (xPrim [.va 2, .va 6] pIx)]) (.va 6) (.va 7))
    (sSeq (sSet 9 (xPrim [.ex (xCall f__law_draw [.va 0, .ex (xC (.int 9))]), .ex (xC (.int 4))] pSub))
    (sSeq (sSet 10 (xPrim [.va 2] pList))
    (sSeq (sStore 10 (xCall f__law_added [.ex (xPrim [.va 2, .va 6] pIx), .ex (xPrim [.va 2, .va 7] pIx), .va 9]) (.va 6))
    (sSeq (sSet 11 (xPrim [.va 2] pList))
    (sSeq (sStore 11 (xPrim [.ex c__law_right_0] pTuple) (.va 6))
    (sSeq (sIf (bOr (bT (xPrim [.ex (xCall f_weight [.va 8]), .ex (xPrim [.va 4] pNeg)] pNe)) (bOr (bT (xPrim [.ex (xCall f_weight [.va 10]), .va 4] pNe)) (bT (xPrim [.ex (xCall f_weight [.va 11]), .ex (xPrim [.va 9, .va 4] pMul)] pNe)))) (sRet (xC (.bl false))) sNil)
    (sRet (xPrim [.ex (xCall f_weight [.ex c__law_right_2]), .va 4] pEq)))))))))))))))))))
noncomputable def f__law_right : Fn := bodyF 15 g__law_right
theorem ok__law_right (T : Tx K mg) : FnOk P w K mg base (L2.CX P w) 10 T.a__law_right T.fd__law_right ["_law_well"] (spF ⟨K, cl⟩ 1 f__law_right) :=
  fn_ok (N := ["_law_well", "_law_many", "_law_grid_here", "_law_handed", "_law_due", "_law_found", "_law_one", "_law_other", "_law_about", "_law_times", "_law_more", "_law_great", "_law_number", "_law_k", "_law_row"]) (k := 9) (g := g__law_right) T.F__law_right sc__law_right fun cdv A outer s H vs E hr => (bj_cons (sj_set (i := 1) sc__law_right.nd rfl (.inl rfl) (ej_call (ok__law_draw T) (hr.mono (by first | decide | omega)) (by rfl) T.m__law_draw T.F__law_draw.kp T.b__law_draw (takes_of rfl rfl rfl rfl) (kj_cons (lj_va (pv 0)) (kj_cons (lj_ex ej_int) kj_nil)) rfl))
    (bj_cons (sj_set (i := 2) sc__law_right.nd rfl (.inr rfl) (ej_call (ok__law_grid T) (hr.mono (by first | decide | omega)) (by rfl) T.m__law_grid T.F__law_grid.kp T.b__law_grid (takes_of rfl rfl rfl rfl) (kj_cons (lj_va (pv 0)) (kj_cons (lj_va (pv 1)) kj_nil)) rfl))
    (bj_cons (sj_set (i := 3) sc__law_right.nd rfl (.inl rfl) (ej_callTy call_list_of pr_list (by rfl) T.z_list (by decide +kernel) (oj_cons (lj_va (pv 2)) oj_nil)))
    (bj_cons (sj_set (i := 4) sc__law_right.nd rfl (.inl rfl) (ej_call (ok__law_by_first T 8) (hr.mono (by first | decide | omega)) (by rfl) T.m__law_by_first T.F__law_by_first.kp T.b__law_by_first (takes_of rfl rfl rfl rfl) (kj_cons (lj_va (pv 2)) kj_nil) rfl))
    (bj_cons (sj_set (i := 5) sc__law_right.nd rfl (.inl rfl) (ej_call (ok_weight T) (hr.mono (by first | decide | omega)) (by rfl) T.m_weight T.F_weight.kp T.b_weight (takes_of rfl rfl rfl rfl) (kj_cons (lj_va (pv 3)) kj_nil) rfl))
    (bj_cons (sj_if (wj_or (tj_ne hr.units (oj_cons (lj_va (pv 5)) (oj_cons (lj_va (pv 4)) oj_nil))) (wj_or (tj_tru (oj_cons (lj_ex (ej_isi (t := .bool) T.z_isinstance (by rfl) (oj_cons (lj_va (pv 5)) oj_nil) (pe_bltn (v := .ty "bool") (by rfl) T.z_bool (by decide +kernel) rfl))) oj_nil)) (wj_or (tj_ne hr.units (oj_cons (lj_va (pv 3)) (oj_cons (lj_va (pv 2)) oj_nil))) (wj_or1 (tj_not (tj_tru (oj_cons (lj_ex (ej_call (ok__law_great_right T) (hr.mono (by first | decide | omega)) (by rfl) T.m__law_great_right T.F__law_great_right.kp T.b__law_great_right (takes_of rfl rfl rfl rfl) (kj_cons (lj_va (pv 0)) kj_nil) rfl)) oj_nil))))))).tj (bj_one (sj_ret ej_bl)) bj_nil)
    (bj_cons (sj_if (tj_lt (oj_cons (lj_va (pv 1)) (oj_cons (lj_ex ej_int) oj_nil))) (bj_one (sj_ret ej_bl)) bj_nil)
    (bj_cons (sj_set (i := 6) sc__law_right.nd rfl (.inl rfl) (ej_call (ok__law_draw T) (hr.mono (by first | decide | omega)) (by rfl) T.m__law_draw T.F__law_draw.kp T.b__law_draw (takes_of rfl rfl rfl rfl) (kj_cons (lj_va (pv 0)) (kj_cons (lj_va (pv 1)) kj_nil)) rfl))
    (bj_cons (sj_set (i := 7) sc__law_right.nd rfl (.inl rfl) (ej_mod (oj_cons (lj_ex (ej_add (oj_cons (lj_ex (ej_add (oj_cons (lj_va (pv 6)) (oj_cons (lj_ex ej_int) oj_nil)))) (oj_cons (lj_ex (ej_call (ok__law_draw T) (hr.mono (by first | decide | omega)) (by rfl) T.m__law_draw T.F__law_draw.kp T.b__law_draw (takes_of rfl rfl rfl rfl) (kj_cons (lj_va (pv 0)) (kj_cons (lj_ex (ej_sub (oj_cons (lj_va (pv 1)) (oj_cons (lj_ex ej_int) oj_nil)))) kj_nil)) rfl)) oj_nil)))) (oj_cons (lj_va (pv 1)) oj_nil))))
    (bj_cons (sj_set (i := 8) sc__law_right.nd rfl (.inl rfl) (ej_callTy call_list_of pr_list (by rfl) T.z_list (by decide +kernel) (oj_cons (lj_va (pv 2)) oj_nil)))
    (bj_cons (sj_sub2 rfl (pv 8) (oj_cons (lj_va (pv 6)) oj_nil) (pv 8) (oj_cons (lj_va (pv 7)) oj_nil) (ej_tup (mj_cons (ej_sbs (oj_cons (lj_va (pv 2)) (oj_cons (lj_va (pv 7)) oj_nil))) (mj_cons (ej_sbs (oj_cons (lj_va (pv 2)) (oj_cons (lj_va (pv 6)) oj_nil))) mj_nil))))
    (bj_cons (sj_set (i := 9) sc__law_right.nd rfl (.inr rfl) (ej_sub (oj_cons (lj_ex (ej_call (ok__law_draw T) (hr.mono (by first | decide | omega)) (by rfl) T.m__law_draw T.F__law_draw.kp T.b__law_draw (takes_of rfl rfl rfl rfl) (kj_cons (lj_va (pv 0)) (kj_cons (lj_ex ej_int) kj_nil)) rfl)) (oj_cons (lj_ex ej_int) oj_nil))))
    (bj_cons (sj_set (i := 10) sc__law_right.nd rfl (.inl rfl) (ej_callTy call_list_of pr_list (by rfl) T.z_list (by decide +kernel) (oj_cons (lj_va (pv 2)) oj_nil)))
    (bj_cons (sj_store (pv 10) (oj_cons (lj_va (pv 6)) oj_nil) (ej_call (ok__law_added T) (hr.mono (by first | decide | omega)) (by rfl) T.m__law_added T.F__law_added.kp T.b__law_added (takes_of rfl rfl rfl rfl) (kj_cons (lj_ex (ej_sbs (oj_cons (lj_va (pv 2)) (oj_cons (lj_va (pv 6)) oj_nil)))) (kj_cons (lj_ex (ej_sbs (oj_cons (lj_va (pv 2)) (oj_cons (lj_va (pv 7)) oj_nil)))) (kj_cons (lj_va (pv 9)) kj_nil))) rfl))
    (bj_cons (sj_set (i := 11) sc__law_right.nd rfl (.inl rfl) (ej_callTy call_list_of pr_list (by rfl) T.z_list (by decide +kernel) (oj_cons (lj_va (pv 2)) oj_nil)))
    (bj_cons (sj_store (pv 11) (oj_cons (lj_va (pv 6)) oj_nil) (ej_callTy call_tuple_of pr_tuple (by rfl) T.z_tuple (by decide +kernel) (oj_cons (lj_ex (ej_lc rfl sc__law_right.nd (ij_seq (lj_ex (ej_sbs (oj_cons (lj_va (pv 2)) (oj_cons (lj_va (pv 6)) oj_nil))))) (blkOk_by (own := [("_law_number", 12)]) (by kernel_rfl)) (fun _ _ _ _ _ => (gj_name (i := 12) sc__law_right.nd rfl (.inl rfl))) (fun _ _ _ _ _ => fj_nil) (fun _ _ _ _ _ => (ej_mul (oj_cons (lj_va (pv 9)) (oj_cons (lj_va (pv 12)) oj_nil)))) (by decide))) oj_nil)))
    (bj_cons (sj_if (wj_or (tj_ne hr.units (oj_cons (lj_ex (ej_call (ok_weight T) (hr.mono (by first | decide | omega)) (by rfl) T.m_weight T.F_weight.kp T.b_weight (takes_of rfl rfl rfl rfl) (kj_cons (lj_va (pv 8)) kj_nil) rfl)) (oj_cons (lj_ex (ej_neg (oj_cons (lj_va (pv 4)) oj_nil))) oj_nil))) (wj_or (tj_ne hr.units (oj_cons (lj_ex (ej_call (ok_weight T) (hr.mono (by first | decide | omega)) (by rfl) T.m_weight T.F_weight.kp T.b_weight (takes_of rfl rfl rfl rfl) (kj_cons (lj_va (pv 10)) kj_nil) rfl)) (oj_cons (lj_va (pv 4)) oj_nil))) (wj_or1 (tj_ne hr.units (oj_cons (lj_ex (ej_call (ok_weight T) (hr.mono (by first | decide | omega)) (by rfl) T.m_weight T.F_weight.kp T.b_weight (takes_of rfl rfl rfl rfl) (kj_cons (lj_va (pv 11)) kj_nil) rfl)) (oj_cons (lj_ex (ej_mul (oj_cons (lj_va (pv 9)) (oj_cons (lj_va (pv 4)) oj_nil)))) oj_nil)))))).tj (bj_one (sj_ret ej_bl)) bj_nil)
    (bj_one (sj_ret (ej_eq hr.units (oj_cons (lj_ex (ej_call (ok_weight T) (hr.mono (by first | decide | omega)) (by rfl) T.m_weight T.F_weight.kp T.b_weight (takes_of rfl rfl rfl rfl) (kj_cons (lj_ex (ej_lc rfl sc__law_right.nd (ij_rng1 (by rfl) T.z_range (oj_cons (lj_va (pv 1)) oj_nil)) (blkOk_by (own := [("_law_k", 13)]) (by kernel_rfl)) (fun _ _ _ _ _ => (gj_name (i := 13) sc__law_right.nd rfl (.inr rfl))) (fun _ _ _ _ _ => fj_nil) (fun _ _ _ _ _ => (ej_callTy call_tuple_of pr_tuple (by rfl) T.z_tuple (by decide +kernel) (oj_cons (lj_ex (ej_lc rfl sc__law_right.nd (ij_seq (lj_va (pv 2))) (blkOk_by (own := [("_law_row", 14)]) (by kernel_rfl)) (fun _ _ _ _ _ => (gj_name (i := 14) sc__law_right.nd rfl (.inl rfl))) (fun _ _ _ _ _ => fj_nil) (fun _ _ _ _ _ => (ej_sbs (oj_cons (lj_va (pv 14)) (oj_cons (lj_va (pv 13)) oj_nil)))) (by decide))) oj_nil))) (by decide))) kj_nil) rfl)) (oj_cons (lj_va (pv 4)) oj_nil))))))))))))))))))))))
noncomputable def l_law_0 : Ss := (sIf (bNot (bTru [.ex (xCallT f__law_right (xLst [(xPrim [.va 2, .ex (xPrim [.ex (xPrim [.va 2, .ex (xPrim [.ex (xC (.int 10)), .ex (xC (.int 18))] pPow)] pGe)] pInt)] pMul), (xPrim [.ex (xPrim [.va 2, .ex (xC (.int 2147483647))] pMod), .ex (xPrim [.ex (xC (.int 7919)), .va 1] pMul)] pAdd), (xC (.int 0))]))])) (sRet (xC (.bl false))) sNil)
noncomputable def g_law : Ss := (sSeq (sFor (srcEnum (.ex (xPrim [.ex (xPrim [.va 0, .ex (xLst [(xC (.int 0))])] pAdd), .ex (xC (.int 8))] pSlHi))) (stT [1, 2]) l_law_0)
    (sRet (xAnd (xPrim [.ex (xCallT f_weight (xLst [(xTup [(xC (.int 2)), (xC (.int 3))]), (xTup [(xC (.int 4)), (xC (.int 5))])])), .ex (xPrim [.ex (xC (.int 2))] pNeg)] pEq) (xPrim [.ex (xCallT f_weight (xLst [(xTup [(xC (.int 0)), (xC (.int 1))]), (xTup [(xC (.int 1)), (xC (.int 0))])])), .ex (xPrim [.ex (xC (.int 1))] pNeg)] pEq))))
noncomputable def f_law : Fn := bodyF 3 g_law
theorem ok_law (T : Tx K mg) : FnOk P w K mg base (L2.CX P w) 11 T.a_law T.fd_law ["_law_script"] (spF ⟨K, cl⟩ 1 f_law) :=
  fn_ok (N := ["_law_script", "_law_k", "_law_cell"]) (k := 10) (g := g_law) T.F_law sc_law fun cdv A outer s H vs E hr => (bj_cons (sj_for (passes_of rfl) rfl (ij_enum (by rfl) T.z_enumerate (lj_ex (ej_slHi (oj_cons (lj_ex (ej_add (oj_cons (lj_va (pv 0)) (oj_cons (lj_ex (ej_lst (mj_cons ej_int mj_nil))) oj_nil)))) (oj_cons (lj_ex ej_int) oj_nil))))) (gj_tup (is := [1, 2]) rfl (pgs_cons (pg_name (i := 1) sc_law.nd rfl (.inl rfl)) (pgs_cons (pg_name (i := 2) sc_law.nd rfl (.inl rfl)) pgs_nil)) rfl) (bj_one (sj_if (tj_not (tj_tru (oj_cons (lj_ex (ej_callT (ok__law_right T) (hr.mono (by decide)) (by rfl) T.m__law_right T.F__law_right.kp T.b__law_right (takes_of rfl rfl rfl rfl) (ej_lst (mj_cons (ej_mul (oj_cons (lj_va (pv 2)) (oj_cons (lj_ex (ej_callTy call_int1 pr_int (by rfl) T.z_int (by decide +kernel) (oj_cons (lj_ex (ej_ge (oj_cons (lj_va (pv 2)) (oj_cons (lj_ex (ej_pow (oj_cons (lj_ex ej_int) (oj_cons (lj_ex ej_int) oj_nil)))) oj_nil)))) oj_nil))) oj_nil))) (mj_cons (ej_add (oj_cons (lj_ex (ej_mod (oj_cons (lj_va (pv 2)) (oj_cons (lj_ex ej_int) oj_nil)))) (oj_cons (lj_ex (ej_mul (oj_cons (lj_ex ej_int) (oj_cons (lj_va (pv 1)) oj_nil)))) oj_nil))) (mj_cons ej_int mj_nil)))))) oj_nil))) (bj_one (sj_ret ej_bl)) bj_nil)))
    (bj_one (sj_ret (ej_and (ej_eq hr.units (oj_cons (lj_ex (ej_callT (ok_weight T) (hr.mono (by decide)) (by rfl) T.m_weight T.F_weight.kp T.b_weight (takes_of rfl rfl rfl rfl) (ej_lst (mj_cons (ej_tup (mj_cons ej_int (mj_cons ej_int mj_nil))) (mj_cons (ej_tup (mj_cons ej_int (mj_cons ej_int mj_nil))) mj_nil))))) (oj_cons (lj_ex (ej_neg (oj_cons (lj_ex ej_int) oj_nil))) oj_nil))) (ej_one (ej_eq hr.units (oj_cons (lj_ex (ej_callT (ok_weight T) (hr.mono (by decide)) (by rfl) T.m_weight T.F_weight.kp T.b_weight (takes_of rfl rfl rfl rfl) (ej_lst (mj_cons (ej_tup (mj_cons ej_int (mj_cons ej_int mj_nil))) (mj_cons (ej_tup (mj_cons ej_int (mj_cons ej_int mj_nil))) mj_nil))))) (oj_cons (lj_ex (ej_neg (oj_cons (lj_ex ej_int) oj_nil))) oj_nil))))))))
end
end Lw
end

section
namespace Lw
open PySem PySem.Spec PyProof.Rows L2 Wm
structure Wl where
  a : Int
  b : Int
  c : Int
def wl (w : Wl) : List D := [.int w.a, .int w.b, .int w.c]
def n1 (w : Wl) : Int := ((w.b + 104729 * (w.c + 1) + 1) * 48271).fmod 2147483647
def n2 (w : Wl) : Int := (n1 w * ((n1 w).fdiv 1009 + 69621)).fmod 2147483647
def dr (w : Wl) (m : Int) : Int := if 0 < w.a then w.a.fmod m else ((n2 w * ((n2 w).fdiv 2003 + 40692)).fmod 2147483399).fmod m
def dw (w : Wl) (m : Int) : Wl := if 0 < w.a then ⟨w.a.fdiv m, w.b, w.c⟩ else ⟨w.a, w.b, w.c + 1⟩
theorem fmod_bd (x m : Int) (h : 0 < m) : 0 ≤ x.fmod m ∧ x.fmod m < m := ⟨Int.fmod_nonneg_of_pos x h, Int.fmod_lt_of_pos x h⟩
theorem dr_bd (w : Wl) (m : Int) (h : 0 < m) : 0 ≤ dr w m ∧ dr w m < m := by
  unfold dr
  split
  · exact fmod_bd _ _ h
  · exact fmod_bd _ _ h
theorem draw_ev (w : Wl) (m : Int) (hm : 0 < m) (hm2 : m ≤ 1000000000) : f__law_draw [.byr (wl w), .sh (.int m)] = .ok (.sh (.int (dr w m)), [.byr (wl (dw w m)), .no]) := by
  obtain ⟨a, b, c⟩ := w
  have h0 : m ≠ 0 := by omega
  have hd : ∀ i, CDv i m := fun i => cdv_small h0 (by omega)
  by_cases ha : 0 < a
  · simp [f__law_draw, g__law_draw, wl, dr, dw, ha, h0, hd]
  · have k1 : ∀ x, IntMulOk 104729 x := fun x => mul_okL (by decide)
    have k2 : ∀ x, IntMulOk x 48271 := fun x => mul_okR (by decide)
    have k3 : ∀ x : Int, IntMulOk (x.fmod 2147483647) ((x.fmod 2147483647).fdiv 1009 + 69621) := fun x => mul_okL (by have := fmod_bd x 2147483647 (by decide); omega)
    have k4 : ∀ x : Int, IntMulOk (x.fmod 2147483647) ((x.fmod 2147483647).fdiv 2003 + 40692) := fun x => mul_okL (by have := fmod_bd x 2147483647 (by decide); omega)
    have k5 : ∀ x, CDv x 1009 := fun x => cdv_small (by decide) (by decide)
    have k6 : ∀ x, CDv x 2003 := fun x => cdv_small (by decide) (by decide)
    simp [f__law_draw, g__law_draw, wl, dr, dw, ha, h0, pMul_int, k1, k2, k3, k4, k5, k6, n1, n2]
end Lw
end

section
namespace Lw
open PySem PySem.Spec PyProof.Rows L2 Wm Dt
theorem added_ev (m : Nat) (f g : Nat → Int) (k : Int) (hk : k.natAbs < 2 ^ 60) : f__law_added [.sh (rw m f), .sh (rw m g), .sh (.int k)] = .ok (.sh (rw m fun j => f j + k * g j), [.no, .no, .no]) := by
  have hm : ∀ x, IntMulOk k x := fun x => mul_okL (by omega)
  simp [f__law_added, g__law_added, c__law_added_0, rw_zip, rw]
  rw [lc_rg (f := fun j => .int (f j + k * g j))]
  · simp
  · intro j hj k'
    simp [pMul_int, hm]
theorem sz4 {m : Nat} (h : m ≤ 1000) : m ≤ sizeLine := by rw [szl]; omega
theorem rg4 {m : Nat} (h : m ≤ 1000) : rngOk (m : Int) := rngOk_nat m (by omega)
theorem grid_row (w : Wl) (g : Int) (m : Nat) (x2 x4 x5 x7 : SD) (hm : m ≤ 4) (g0 : 0 ≤ g) (g1 : g ≤ 60) : ∃ (f : Nat → Int) (w' : Wl), c__law_grid_0 [.byr (wl w), .sh (.int m), x2, .sh (.int g), x4, x5, .no, x7] = .ok (.own ((List.range m).map fun j => D.int (f j)), [.byr (wl w'), .sh (.int m), x2, .sh (.int g), x4, x5, .no, x7]) ∧ ∀ j, j < m → (f j).natAbs ≤ 60 := by
  have hr : rngOk (m : Int) := rg4 (by omega)
  have hms : m ≤ sizeLine := sz4 (by omega)
  have hmm : IntMulOk 2 g := mul_okL (by decide)
  have hb : 0 < 2 * g + 1 := by omega
  have hb2 : 2 * g + 1 ≤ 1000000000 := by omega
  simp [c__law_grid_0, hr, hms]
  generalize hL : lcL _ _ _ _ _ _ _ = L
  obtain ⟨ws, w', rfl, hl, hp⟩ := lc_use (P := fun _ v => ∃ x : Int, v = .int x ∧ x.natAbs ≤ 60) hL (fun w => [.byr (wl w), .sh (.int m), x2, .sh (.int g), x4, x5, .no, x7]) w rfl (by
    intro s d hd
    obtain ⟨j, hj, rfl⟩ := List.mem_map.mp hd
    have hd1 := dr_bd s (2 * g + 1) hb
    refine ⟨.int (dr s (2 * g + 1) - g), dw s (2 * g + 1), ⟨_, rfl, by omega⟩, fun k => ?_⟩
    simp [pMul_int, hmm, draw_ev, hb, hb2])
  obtain ⟨f, rfl, hf⟩ := ints_of (n := m) (b := 60) (by simpa using hl) fun i v hv => by
    have hi := (List.getElem?_eq_some_iff.mp hv).1
    have hi' : i < m := by simpa [hl] using hi
    exact hp i (.int i) v (by rw [rg_get hi']) hv
  exact ⟨f, ⟨w', by simp⟩, hf⟩
theorem grid_tri (w : Wl) (m : Nat) (A : Mt) (x2 x3 : SD) (hm : m ≤ 4) : c__law_grid_3 [.byr (wl w), .sh (.int m), x2, x3, .own (gr m A), .no, .no, .no] = .ok (.own (gr m fun j k => A j k * if j ≤ k then 1 else 0), [.byr (wl w), .sh (.int m), x2, x3, .own (gr m A), .no, .no, .no]) := by
  have hr : rngOk (m : Int) := rg4 (by omega)
  have hms : m ≤ sizeLine := sz4 (by omega)
  have inner : ∀ j : Nat, c__law_grid_2 [.byr (wl w), .sh (.int m), x2, x3, .own (gr m A), .sh (.int j), .no, .sh (rw m (A j))] = .ok (.own ((List.range m).map fun (k : Nat) => D.int (A j k * if j ≤ k then 1 else 0)), [.byr (wl w), .sh (.int m), x2, x3, .own (gr m A), .sh (.int j), .no, .sh (rw m (A j))]) := fun j => by
    simp [c__law_grid_2, hr, hms]
    rw [lc_rg (f := fun (k : Nat) => D.int (A j k * if j ≤ k then 1 else 0))]
    · simp
    · intro k hk k'
      have h1 : atI ((List.range m).map fun k => D.int (A j k)) (k : Int) = some (.int (A j k)) := atI_nth (rg_get hk)
      have hmul : IntMulOk (A j k) (if j ≤ k then 1 else 0) := mul_okR (by split <;> decide)
      simp [rw_eq, h1, pMul_int, hmul]
  simp [c__law_grid_3, enum_gr]
  rw [lc_rg (f := fun j => rw m (fun k => A j k * if j ≤ k then 1 else 0))]
  · simp [gr]
  · intro j hj k'
    simp [inner]
    simp [rw_eq]
theorem grid_low (w : Wl) (m : Nat) (A : Mt) (x2 x3 : SD) (hm : m ≤ 4) : c__law_grid_4 [.byr (wl w), .sh (.int m), x2, x3, .own (gr m A), .no, .no, .no] = .ok (.own (gr m fun j k => if k < m - 1 - j then 0 else A j (k - (m - 1 - j))), [.byr (wl w), .sh (.int m), x2, x3, .own (gr m A), .no, .no, .no]) := by
  have hs : (1 : Nat) ≤ sizeLine := by decide
  simp [c__law_grid_4, enum_gr]
  rw [lc_rg (f := fun j => rw m (fun k => if k < m - 1 - j then 0 else A j (k - (m - 1 - j))))]
  · simp [gr]
  · intro j hj k'
    have h1 : ((m : Int) - 1 - j).toNat = m - 1 - j := by omega
    have h2 : ((j : Int) + 1).toNat = j + 1 := by omega
    have h3 : pMul [.tup [.int 0], .int ((m : Int) - 1 - j)] = .ok (.sh (.tup (List.replicate (m - 1 - j) (D.int 0)))) := by
      rw [pMul_rep _ _ (by omega) (by decide), h1]
      congr 3
      simp
    have h4 : pSlHi [rw m (A j), .int ((j : Int) + 1)] = .ok (.sh (.tup (((List.range m).map fun k => D.int (A j k)).take (j + 1)))) := by
      rw [rw_eq, slHi_tup _ _ (by omega), h2]
    have h5 : List.replicate (m - 1 - j) (D.int 0) ++ ((List.range m).map fun k => D.int (A j k)).take (j + 1) = (List.range m).map fun k => D.int (if k < m - 1 - j then 0 else A j (k - (m - 1 - j))) := by
      refine rg_of (by simp; omega) fun k hk => ?_
      by_cases h : k < m - 1 - j
      · rw [List.getElem?_append_left (by simpa using h), List.getElem?_replicate, if_pos h, if_pos h]
      · rw [List.getElem?_append_right (by simpa using Nat.le_of_not_lt h), List.getElem?_take, if_neg h]
        simp only [List.length_replicate]
        rw [if_pos (by omega), rg_get (by omega)]
    have h6 : m - 1 - j + min (j + 1) m ≤ sizeLine := sz4 (by omega)
    simp [hs, h3, h4, h5, h6]
    simp [rw_eq]
def Gd (m b : Nat) (r : Rs (SD × List SD)) : Prop := ∃ xs w', r = .ok (.own xs, [.byr (wl w'), .no]) ∧ GrOk m b xs
theorem grid_ev (w : Wl) (m : Nat) (hm : m ≤ 4) : Gd m 180 (f__law_grid [.byr (wl w), .sh (.int m)]) := by
  have hd5 := dr_bd w 5 (by omega)
  have hd4 := dr_bd (dw w 5) 4 (by omega)
  have hg : ∃ g : Int, (g = 9 ∨ g = 60) ∧ atI [D.int 9, D.int 9, D.int 9, D.int 60] (dr (dw w 5) 4) = some (.int g) := by
    rcases (by omega : dr (dw w 5) 4 = 0 ∨ dr (dw w 5) 4 = 1 ∨ dr (dw w 5) 4 = 2 ∨ dr (dw w 5) 4 = 3) with e | e | e | e <;> rw [e]
    · exact ⟨9, .inl rfl, by simp⟩
    · exact ⟨9, .inl rfl, by simp⟩
    · exact ⟨9, .inl rfl, by simp⟩
    · exact ⟨60, .inr rfl, atI_at _ _ _ (by omega) rfl⟩
  obtain ⟨g, hg, eg⟩ := hg
  have g0 : 0 ≤ g := by omega
  have g1 : g ≤ 60 := by omega
  have hs : (4 : Nat) ≤ sizeLine := by decide
  have hr : rngOk (m : Int) := rg4 (by omega)
  have hms : m ≤ sizeLine := sz4 (by omega)
  simp [f__law_grid, g__law_grid, c__law_grid_1, draw_ev, eg, hs, hr, hms]
  generalize hL : lcL _ _ _ _ _ _ _ = L
  obtain ⟨ws, w1, rfl, hl, hp⟩ := lc_use (P := fun _ v => RowOk m 60 v) hL (fun w' => [.byr (wl w'), .sh (.int m), .sh (.int (dr w 5)), .sh (.int g), .no, .no, .no, .no]) (dw (dw w 5) 4) rfl (by
    intro s d hd
    obtain ⟨j, hj, rfl⟩ := List.mem_map.mp hd
    obtain ⟨f, w', e, hf⟩ := grid_row s g m (.sh (.int (dr w 5))) .no (.sh (.int j)) .no hm g0 g1
    refine ⟨rw m f, w', ⟨f, rfl, hf⟩, fun k => ?_⟩
    simp [e, rw])
  have hG : GrOk m 60 ws := ⟨by simpa using hl, fun x hx => by
    obtain ⟨i, hi⟩ := List.mem_iff_getElem?.mp hx
    have hi1 := (List.getElem?_eq_some_iff.mp hi).1
    have hi' : i < m := by simpa [hl] using hi1
    exact hp i (.int i) x (by rw [rg_get hi']) hi⟩
  clear hp hl hL
  have hlen := hG.1
  rcases (by omega : dr w 5 = 0 ∨ dr w 5 = 1 ∨ dr w 5 = 2 ∨ dr w 5 = 3 ∨ dr w 5 = 4) with e | e | e | e | e <;> rw [e]
  · by_cases h1 : 1 < m
    · obtain ⟨x, hx, hrx⟩ := hG.get (i := 0) (by omega)
      have a0 : atI ws 0 = some x := atI_nth (k := 0) hx
      have h1' : (1 : Int) < m := by omega
      have hw : 0 < ws.length := by omega
      simp [h1', a0, setAt_last, hw]
      exact ⟨_, _, rfl, (hG.set hrx).mono (by omega)⟩
    · have h1' : ¬ (1 : Int) < m := by omega
      simp [h1']
      exact ⟨_, _, rfl, hG.mono (by omega)⟩
  · by_cases h1 : 1 < m
    · obtain ⟨x, hx, f, rfl, hf⟩ := hG.get (i := 0) (by omega)
      have hfd : (m : Int).fdiv 2 = (m : Int) / 2 := Int.fdiv_eq_ediv_of_nonneg _ (by omega)
      obtain ⟨y, hy, f2, rfl, hf2⟩ := hG.get (i := m / 2) (by omega)
      have a0 : atI ws 0 = some (rw m f) := atI_nth (k := 0) hx
      have a1 : atI ws ((m : Int) / 2) = some (rw m f2) := by
        rw [show (m : Int) / 2 = ((m / 2 : Nat) : Int) by omega]
        exact atI_nth hy
      have h1' : (1 : Int) < m := by omega
      have hw : 0 < ws.length := by omega
      have hc : CDv (m : Int) 2 := cdv_small (by decide) (by decide)
      have hd := dr_bd w1 5 (by omega)
      have had := added_ev m f f2 (dr w1 5 - 2) (by omega)
      simp [h1', a0, hc, hfd, a1, setAt_last, hw, draw_ev, had]
      refine ⟨_, _, rfl, (hG.mono (by omega)).set ⟨_, rfl, fun j hj => ?_⟩⟩
      have b1 := hf j hj
      have b2 := hf2 j hj
      have b3 : ((dr w1 5 - 2) * f2 j).natAbs ≤ 2 * 60 := by
        rw [Int.natAbs_mul]
        exact Nat.mul_le_mul (by omega) b2
      omega
    · have h1' : ¬ (1 : Int) < m := by omega
      simp [h1']
      exact ⟨_, _, rfl, hG.mono (by omega)⟩
  · obtain ⟨A, rfl, hA⟩ := hG.ex
    simp [grid_tri, hm]
    refine ⟨_, _, rfl, GrOk.of fun i j hi hj => ?_⟩
    have := hA i j hi hj
    split <;> omega
  · obtain ⟨A, rfl, hA⟩ := hG.ex
    simp [grid_low, hm]
    refine ⟨_, _, rfl, GrOk.of fun i j hi hj => ?_⟩
    split
    · simp
    · exact Nat.le_trans (hA i _ hi (by omega)) (by omega)
  · simp
    exact ⟨_, _, rfl, hG.mono (by omega)⟩
/-! ### the weight -/
theorem entry_gr {m i j : Nat} {A : Mt} (hi : i < m) (hj : j < m) : Ww.entry (gr m A) i j = A i j := by
  unfold Ww.entry
  rw [gr_get hi, rw_eq]
  dsimp only
  rw [rg_get hj]
theorem ok_gr_w {m : Nat} {A : Mt} (hm : m ≤ 6) (h : ∀ i j, i < m → j < m → (A i j).natAbs ≤ 100000) : Ww.okG (gr m A) := by
  refine ⟨by rw [gr_len]; exact hm, fun i hi => ?_, fun i j hi hj => ?_⟩
  · rw [gr_len] at hi ⊢
    rw [gr_get hi]
    show some (rw m (A i)) = some (rw m fun j => Ww.entry (gr m A) i j)
    congr 1
    exact rw_congr fun j hj => (entry_gr hi hj).symm
  · rw [gr_len] at hi hj
    rw [entry_gr hi hj]
    exact intBits_le_iff.mpr (Nat.lt_of_le_of_lt (h i j hi hj) (by decide))
theorem weight_ev {m : Nat} {A : Mt} (hm : m ≤ 6) (h : ∀ i j, i < m → j < m → (A i j).natAbs ≤ 100000) : f_weight [.byr (gr m A)] = .ok (.sh (.int (det m A)), [.byr (gr m A)]) := by
  have e : det (gr m A).length (Ww.entry (gr m A)) = det m A := by
    rw [gr_len]
    exact det_congr fun i j hi hj => entry_gr hi hj
  have ok := ok_gr_w hm h
  simp [f_weight, Ww.gW, Ww.lstOf, ok, e]
theorem weight_evS {m : Nat} {A : Mt} (hm : m ≤ 6) (h : ∀ i j, i < m → j < m → (A i j).natAbs ≤ 100000) : f_weight [.sh (.lst (gr m A))] = .ok (.sh (.int (det m A)), [.no]) := by
  have e : det (gr m A).length (Ww.entry (gr m A)) = det m A := by
    rw [gr_len]
    exact det_congr fun i j hi hj => entry_gr hi hj
  have ok := ok_gr_w hm h
  simp [f_weight, Ww.gW, Ww.lstOf, ok, e]
/-! ### by the first row -/
theorem rest_row {m k : Nat} {f : Nat → Int} (hk : k < m + 1) : ((List.range (m + 1)).map fun j => D.int (f j)).take k ++ ((List.range (m + 1)).map fun j => D.int (f j)).drop (k + 1) = (List.range m).map fun j => D.int (f (sk k j)) := by
  refine rg_of (by simp; omega) fun j hj => ?_
  unfold sk
  by_cases h : j < k
  · rw [List.getElem?_append_left (by simp; omega), List.getElem?_take, if_pos h, rg_get (by omega), if_pos h]
  · rw [List.getElem?_append_right (by simp; omega), List.getElem?_drop, if_neg h]
    simp only [List.length_take, List.length_map, List.length_range]
    rw [show k + 1 + (j - min k (m + 1)) = j + 1 by omega, rg_get (by omega)]
theorem rest_ev {m k : Nat} {A : Mt} {x1 x3 x4 : SD} (hk : k < m + 1) (hm : m + 1 ≤ 4) : c__law_by_first_0 [.byr (gr (m + 1) A), x1, .sh (.int k), x3, x4, .no] = .ok (.own (gr m (mi k A)), [.byr (gr (m + 1) A), x1, .sh (.int k), x3, x4, .no]) := by
  have e1 : (gr (m + 1) A).drop 1 = (List.range m).map fun i => rw (m + 1) (A (i + 1)) := by
    refine rg_of (by simp [gr_len]) fun i hi => ?_
    rw [List.getElem?_drop, show 1 + i = i + 1 by omega, gr_get (by omega)]
  have h1 : pSlLo [.lst (gr (m + 1) A), .int 1] = .ok (.own ((List.range m).map fun i => rw (m + 1) (A (i + 1)))) := by
    rw [slLo_lst _ _ (by omega)]
    exact congrArg (fun x => Rs.ok (SD.own x)) e1
  simp [c__law_by_first_0, h1]
  rw [lc_rg (f := fun i => rw m (mi k A i))]
  · simp [gr]
  · intro i hi k'
    have h2 : pSlHi [rw (m + 1) (A (i + 1)), .int (k : Int)] = .ok (.sh (.tup (((List.range (m + 1)).map fun j => D.int (A (i + 1) j)).take k))) := by
      rw [rw_eq, slHi_tup _ _ (by omega)]
      simp
    have h3 : pSlLo [rw (m + 1) (A (i + 1)), .int ((k : Int) + 1)] = .ok (.sh (.tup (((List.range (m + 1)).map fun j => D.int (A (i + 1) j)).drop (k + 1)))) := by
      rw [rw_eq, slLo_tup _ _ (by omega), show ((k : Int) + 1).toNat = k + 1 by omega]
    have h4 := rest_row (f := A (i + 1)) hk
    have h5 : ∀ n, n ≤ 100 → n ≤ sizeLine := fun n h => sz4 (by omega)
    simp [h2, h3, h4]
    rw [if_pos (h5 _ (by omega))]
    simp [rw_eq, mi]
end Lw
end

section
namespace Lw
open PySem PySem.Spec PyProof.Rows L2 Wm Dt
theorem sgn_at (k : Nat) (x : Int) : atI [D.int x, D.int (-x)] ((k : Int).fmod 2) = some (.int (sg k * x)) := by
  have h : (k : Int).fmod 2 = ((k % 2 : Nat) : Int) := by
    rw [Int.fmod_eq_emod_of_nonneg _ (by omega)]
    omega
  rw [h]
  unfold sg
  rcases (by omega : k % 2 = 0 ∨ k % 2 = 1) with e | e <;> rw [e]
  · rw [if_pos rfl, Int.one_mul]
    exact atI_0 _ _
  · rw [if_neg (by decide)]
    have : (-1 : Int) * x = -x := by omega
    rw [this]
    exact atI_1 _ _ _
theorem by_first_ev : ∀ (m : Nat) {A : Mt} {k : Nat}, m ≤ 4 → m < k → (∀ i j, i < m → j < m → (A i j).natAbs ≤ 100000) → fr__law_by_first k [.byr (gr m A)] = .ok (.sh (.int (det m A)), [.byr (gr m A)])
  | m, A, 0, _, hk, _ => by omega
  | 0, A, k + 1, hm, hk, hA => by
    have : gr 0 A = [] := rfl
    have h0 : (0 : Nat) ≤ sizeLine := Nat.zero_le _
    simp [fr__law_by_first, g__law_by_first, this, det]
  | m + 1, A, k + 1, hm, hk, hA => by
    have hne : eqD (.lst (gr (m + 1) A)) (.lst []) = false := by
      have : gr (m + 1) A = rw (m + 1) (A 0) :: (gr (m + 1) A).drop 1 := by
        have := List.drop_eq_getElem_cons (l := gr (m + 1) A) (i := 0) (by rw [gr_len]; omega)
        rw [List.drop_zero] at this
        rw [this]
        have h0 := gr_get (m := m + 1) (A := A) (show 0 < m + 1 by omega)
        rw [List.getElem?_eq_getElem (by rw [gr_len]; omega)] at h0
        injection h0 with h0
        rw [h0]
        rfl
      rw [this]
      rfl
    have hok := ok_gr (m := m + 1) (A := A)
    have a0 : atI (gr (m + 1) A) 0 = some (rw (m + 1) (A 0)) := atI_nth (k := 0) (gr_get (by omega))
    have hok0 : okN 60 (D.lst []) = true := rfl
    simp [fr__law_by_first, g__law_by_first, -eqD_lst, -okN_lst, hne, hok, hok0, a0]
    simp [rw_eq, enum_rg]
    generalize hL : forL _ _ _ _ = L
    obtain ⟨ρ', ⟨x2, x3, x4, rfl⟩, rfl⟩ := for_rg hL (fun i ρ => ∃ x2 x3 x4, ρ = [.byr (gr (m + 1) A), .sh (.int (sm i fun k => sg k * A 0 k * det m (mi k A))), x2, x3, x4, .no]) ⟨.no, .no, .no, rfl⟩ (by
      rintro i ρ hi ⟨x2, x3, x4, rfl⟩
      by_cases hz : A 0 i = 0
      · refine ⟨_, ⟨.sh (.int i), .sh (.int (A 0 i)), x4, rfl⟩, fun k' => ?_⟩
        simp [l__law_by_first_1, hz, sm]
      · have ih := by_first_ev m (A := mi i A) (k := k) (by omega) (by omega) fun r c hr hc => hA _ _ (by omega) (by unfold sk; split <;> omega)
        have hre := rest_ev (m := m) (k := i) (A := A) (x1 := .sh (.int (sm i fun k => sg k * A 0 k * det m (mi k A)))) (x3 := .sh (.int (A 0 i))) (x4 := x4) hi hm
        have hs2 : (2 : Nat) ≤ sizeLine := by decide
        have hb : (sg i * A 0 i).natAbs < 2 ^ 64 := by
          have := hA 0 i (by omega) hi
          unfold sg
          split <;> omega
        have hmul : ∀ y, IntMulOk (sg i * A 0 i) y := fun y => mul_okL hb
        refine ⟨_, ⟨.sh (.int i), .sh (.int (A 0 i)), .own (gr m (mi i A)), rfl⟩, fun k' => ?_⟩
        simp [l__law_by_first_1, hz, hre, hs2, sgn_at, ih, pMul_int, hmul, sm])
    simp [det]
end Lw
end

section
namespace Dt
def pl : Nat → (Nat → Int) → Int
  | 0, _ => 1
  | n + 1, f => pl n f * f n
theorem pl_first (f : Nat → Int) : ∀ n, pl (n + 1) f = f 0 * pl n (fun i => f (i + 1))
  | 0 => by simp [pl]
  | n + 1 => by
    rw [pl, pl_first f n, pl, Int.mul_assoc]
theorem det_tri : ∀ {n : Nat} {A : Mt}, (∀ i j, i < n → j < i → A i j = 0) → det n A = pl n (fun i => A i i)
  | 0, _, _ => rfl
  | n + 1, A, h => by
    rw [det_first fun i hi => h _ _ (by omega) (by omega), pl_first, det_tri fun i j hi hj => h _ _ (by omega) (by omega)]
end Dt
namespace Lw
open PySem PySem.Spec PyProof.Rows L2 Wm Dt
theorem gr_row (w : Wl) (n j : Nat) (x2 x3 x4 x5 x8 x9 : SD) (hn : n ≤ 6) : ∃ (f : Nat → Int) (w' : Wl), c__law_great_right_0 [.byr (wl w), .sh (.int n), x2, x3, x4, x5, .no, .sh (.int j), x8, x9] = .ok (.own ((List.range n).map fun k => D.int (f k)), [.byr (wl w'), .sh (.int n), x2, x3, x4, x5, .no, .sh (.int j), x8, x9]) ∧ ∀ k, k < n → (f k).natAbs ≤ 4 ∧ (k ≤ j → f k = 0) := by
  have hr : rngOk (n : Int) := rg4 (by omega)
  have hms : n ≤ sizeLine := sz4 (by omega)
  simp [c__law_great_right_0, hr, hms]
  generalize hL : lcL _ _ _ _ _ _ _ = L
  obtain ⟨ws, w', rfl, hl, hp⟩ := lc_use (P := fun d v => ∃ (k : Nat) (x : Int), d = .int k ∧ v = .int x ∧ x.natAbs ≤ 4 ∧ (k ≤ j → x = 0)) hL (fun w => [.byr (wl w), .sh (.int n), x2, x3, x4, x5, .no, .sh (.int j), x8, x9]) w rfl (by
    intro s d hd
    obtain ⟨k, hk, rfl⟩ := List.mem_map.mp hd
    have hd1 := dr_bd s 9 (by omega)
    have hmul : IntMulOk (dr s 9 - 4) (if j < k then 1 else 0) := mul_okR (by split <;> decide)
    refine ⟨.int ((dr s 9 - 4) * (if j < k then 1 else 0)), dw s 9, ⟨k, _, rfl, rfl, ?_, ?_⟩, fun k' => ?_⟩
    · split <;> omega
    · intro h
      rw [if_neg (by omega), Int.mul_zero]
    · simp [pMul_int, hmul, draw_ev])
  obtain ⟨f, rfl, hf⟩ := of_ws (mk := D.int) (Q := fun k x => x.natAbs ≤ 4 ∧ (k ≤ j → x = 0)) (n := n) (by simpa using hl) fun i v hi hv => by
    obtain ⟨k, x, e1, e2, e3, e4⟩ := hp i (.int i) v (by rw [rg_get hi]) hv
    have : k = i := by injection e1 with e1; omega
    subst this
    exact ⟨x, e2, e3, e4⟩
  exact ⟨f, ⟨w', by simp⟩, hf⟩
theorem gr_tri (w : Wl) (n : Nat) (hn : n ≤ 6) : ∃ (A : Mt) (w' : Wl), c__law_great_right_1 [.byr (wl w), .sh (.int n), .no, .no, .no, .no, .no, .no, .no, .no] = .ok (.own (gr n A), [.byr (wl w'), .sh (.int n), .no, .no, .no, .no, .no, .no, .no, .no]) ∧ ∀ i j, i < n → j < n → (A i j).natAbs ≤ 4 ∧ (j ≤ i → A i j = 0) := by
  have hr : rngOk (n : Int) := rg4 (by omega)
  have hms : n ≤ sizeLine := sz4 (by omega)
  simp [c__law_great_right_1, hr, hms]
  generalize hL : lcL _ _ _ _ _ _ _ = L
  obtain ⟨ws, w', rfl, hl, hp⟩ := lc_use (P := fun d v => ∃ (j : Nat) (f : Nat → Int), d = .int j ∧ v = rw n f ∧ ∀ k, k < n → (f k).natAbs ≤ 4 ∧ (k ≤ j → f k = 0)) hL (fun w => [.byr (wl w), .sh (.int n), .no, .no, .no, .no, .no, .no, .no, .no]) w rfl (by
    intro s d hd
    obtain ⟨j, hj, rfl⟩ := List.mem_map.mp hd
    obtain ⟨f, w', e, hf⟩ := gr_row s n j .no .no .no .no .no .no hn
    refine ⟨rw n f, w', ⟨j, f, rfl, rfl, hf⟩, fun k' => ?_⟩
    simp [e, rw_eq])
  obtain ⟨A, rfl, hA⟩ := of_ws (mk := fun f => rw n f) (Q := fun j f => ∀ k, k < n → (f k).natAbs ≤ 4 ∧ (k ≤ j → f k = 0)) (n := n) (by simpa using hl) fun i v hi hv => by
    obtain ⟨k, x, e1, e2, e3⟩ := hp i (.int i) v (by rw [rg_get hi]) hv
    have : k = i := by injection e1 with e1; omega
    subst this
    exact ⟨x, e2, e3⟩
  exact ⟨A, ⟨w', by simp [gr]⟩, fun i j hi hj => hA i hi j hj⟩
theorem gr_heads (w : Wl) (n : Nat) (x2 : SD) (hn : n ≤ 6) : ∃ (f : Nat → Int) (w' : Wl), c__law_great_right_2 [.byr (wl w), .sh (.int n), x2, .no, .no, .no, .no, .no, .no, .no] = .ok (.own ((List.range n).map fun k => D.int (f k)), [.byr (wl w'), .sh (.int n), x2, .no, .no, .no, .no, .no, .no, .no]) ∧ ∀ k, k < n → (f k).natAbs ≤ 3 := by
  have hr : rngOk (n : Int) := rg4 (by omega)
  have hms : n ≤ sizeLine := sz4 (by omega)
  simp [c__law_great_right_2, hr, hms]
  generalize hL : lcL _ _ _ _ _ _ _ = L
  obtain ⟨ws, w', rfl, hl, hp⟩ := lc_use (P := fun d v => ∃ (x : Int), v = .int x ∧ x.natAbs ≤ 3) hL (fun w => [.byr (wl w), .sh (.int n), x2, .no, .no, .no, .no, .no, .no, .no]) w rfl (by
    intro s d hd
    obtain ⟨k, hk, rfl⟩ := List.mem_map.mp hd
    have hd1 := dr_bd s 7 (by omega)
    refine ⟨.int (dr s 7 - 3), dw s 7, ⟨_, rfl, by omega⟩, fun k' => ?_⟩
    simp [draw_ev])
  obtain ⟨f, rfl, hf⟩ := of_ws (mk := D.int) (Q := fun k x => x.natAbs ≤ 3) (n := n) (by simpa using hl) fun i v hi hv => hp i (.int i) v (by rw [rg_get hi]) hv
  exact ⟨f, ⟨w', by simp⟩, hf⟩
theorem head_row {n j : Nat} {f : Nat → Int} {x : Int} (hj : j < n) : ((List.range n).map fun k => D.int (f k)).take j ++ (D.int x :: ((List.range n).map fun k => D.int (f k)).drop (j + 1)) = (List.range n).map fun k => D.int (if k = j then x else f k) := by
  refine rg_of (by simp; omega) fun k hk => ?_
  by_cases h : k < j
  · rw [List.getElem?_append_left (by simp; omega), List.getElem?_take, if_pos h, rg_get hk, if_neg (by omega)]
  · rw [List.getElem?_append_right (by simp; omega)]
    simp only [List.length_take, List.length_map, List.length_range]
    by_cases h2 : k = j
    · subst h2
      rw [show k - min k n = 0 by omega, if_pos rfl]
      rfl
    · rw [show k - min j n = (k - j - 1) + 1 by omega, List.getElem?_cons_succ, List.getElem?_drop, rg_get (by omega), if_neg h2, show j + 1 + (k - j - 1) = k by omega]
theorem gr_with (w : Wl) (n : Nat) (A : Mt) (h : Nat → Int) (hn : n ≤ 6) : c__law_great_right_3 [.byr (wl w), .sh (.int n), .own (gr n A), .own ((List.range n).map fun k => D.int (h k)), .no, .no, .no, .no, .no, .no] = .ok (.own (gr n fun j k => if k = j then h j else A j k), [.byr (wl w), .sh (.int n), .own (gr n A), .own ((List.range n).map fun k => D.int (h k)), .no, .no, .no, .no, .no, .no]) := by
  have hs : (1 : Nat) ≤ sizeLine := by decide
  simp [c__law_great_right_3, enum_gr]
  rw [lc_rg (f := fun j => rw n (fun k => if k = j then h j else A j k))]
  · simp [gr]
  · intro j hj k'
    have h2 : pSlHi [rw n (A j), .int (j : Int)] = .ok (.sh (.tup (((List.range n).map fun k => D.int (A j k)).take j))) := by
      rw [rw_eq, slHi_tup _ _ (by omega)]
      simp
    have h3 : pSlLo [rw n (A j), .int ((j : Int) + 1)] = .ok (.sh (.tup (((List.range n).map fun k => D.int (A j k)).drop (j + 1)))) := by
      rw [rw_eq, slLo_tup _ _ (by omega), show ((j : Int) + 1).toNat = j + 1 by omega]
    have h1 : atI ((List.range n).map fun k => D.int (h k)) (j : Int) = some (.int (h j)) := atI_nth (rg_get hj)
    have h4 := head_row (f := A j) (x := h j) hj
    have h5 : ∀ n, n ≤ 100 → n ≤ sizeLine := fun n h => sz4 (by omega)
    simp [h1, h2, hs]
    rw [if_pos (h5 _ (by omega))]
    simp [h3]
    rw [if_pos (h5 _ (by omega))]
    simp [h4]
    simp [rw_eq]
end Lw
end

section
namespace Lw
open PySem PySem.Spec PyProof.Rows L2 Wm Dt
def Tr (r : Rs (SD × List SD)) : Prop := ∃ w', r = .ok (.sh (.bl true), [.byr (wl w')])
theorem great_ev (w : Wl) : Tr (f__law_great_right [.byr (wl w)]) := by
  obtain ⟨n, hn0, hn, en⟩ : ∃ n : Nat, 5 ≤ n ∧ n ≤ 6 ∧ 5 + dr w 2 = (n : Int) := by
    have := dr_bd w 2 (by omega)
    exact ⟨(5 + dr w 2).toNat, by omega, by omega, by omega⟩
  obtain ⟨A, w1, e1, hA⟩ := gr_tri (dw w 2) n hn
  obtain ⟨h, w2, e2, hh⟩ := gr_heads w1 n (.own (gr n A)) hn
  have e3 := gr_with w2 n A h hn
  have h4 : (4 : Nat) ≤ sizeLine := by decide
  have hr4 : rngOk 4 := rg4 (m := 4) (by omega)
  simp [f__law_great_right, g__law_great_right, draw_ev, en, e1, e2, e3]
  generalize hL : forL _ _ _ _ = L
  obtain ⟨ρ', ⟨x5, rfl⟩, rfl⟩ := for_rg hL (fun i ρ => ∃ x5, ρ = [.byr (wl w2), .sh (.int n), .own (gr n fun j k => if k = j then h j else A j k), .sh (.lst ((List.range n).map fun k => D.int (h k))), .sh (.int (pl i h)), x5, .no, .no, .no, .no]) ⟨.no, rfl⟩ (by
    rintro i ρ hi ⟨x5, rfl⟩
    have hmul : ∀ y, IntMulOk y (h i) := fun y => mul_okR (by have := hh i hi; omega)
    refine ⟨_, ⟨.sh (.int (h i)), rfl⟩, fun k' => ?_⟩
    simp [l__law_great_right_4, pMul_int, hmul, pl])
  clear hL
  simp [hr4, h4]
  have hdet : det n (fun j k => if k = j then h j else A j k) = pl n h := by
    rw [det_tri fun i j hi hj => by rw [if_neg (by omega)]; exact (hA i j hi (by omega)).2 (by omega)]
    show pl n (fun i => if i = i then h i else A i i) = pl n h
    simp
  generalize hL : forL _ _ _ _ = L
  obtain ⟨ρ', ⟨w3, B, x5, x6, x8, hB, hBd, rfl⟩, rfl⟩ := for_rg hL (fun i ρ => ∃ w' B x5 x6 x8, (∀ r j, r < n → j < n → (B r j).natAbs ≤ 4 * 3 ^ i) ∧ det n B = pl n h ∧ ρ = [.byr (wl w'), .sh (.int n), .own (gr n B), .sh (.lst ((List.range n).map fun k => D.int (h k))), .sh (.int (pl n h)), x5, x6, .no, x8, .no])
    ⟨w2, _, x5, .no, .no, fun r j hr hj => (by
      show (if j = r then h r else A r j).natAbs ≤ 4 * 3 ^ 0
      split
      · have := hh r hr; omega
      · have := (hA r j hr hj).1; omega), hdet, rfl⟩ (by
    rintro i ρ hi ⟨w', B, x5, x6, x8, hB, hBd, rfl⟩
    have hnp : (0 : Int) < n := by omega
    have hnb : (n : Int) ≤ 1000000000 := by omega
    have hdr : ∀ w'', f__law_draw [.byr (wl w''), .sh (.int n)] = .ok (.sh (.int (dr w'' n)), [.byr (wl (dw w'' n)), .no]) := fun w'' => draw_ev w'' n hnp hnb
    have hd1 := dr_bd w' n hnp
    have hd2 := dr_bd (dw w' n) n hnp
    obtain ⟨o, eo⟩ : ∃ o : Nat, dr w' n = (o : Int) := ⟨(dr w' n).toNat, by omega⟩
    obtain ⟨p, ep⟩ : ∃ p : Nat, dr (dw w' n) n = (p : Int) := ⟨(dr (dw w' n) n).toNat, by omega⟩
    have ho : o < n := by omega
    have hp : p < n := by omega
    by_cases hop : o = p
    · subst hop
      refine ⟨_, ⟨dw (dw w' n) n, B, .sh (.int o), .sh (.int i), .sh (.int o), fun r j hr hj => Nat.le_trans (hB r j hr hj) (by rw [Nat.pow_succ]; omega), hBd, rfl⟩, fun k' => ?_⟩
      simp [l__law_great_right_5, hdr, eo, ep]
    · have hd3 := dr_bd (dw (dw w' n) n) 5 (by omega)
      have had := added_ev n (B o) (B p) (dr (dw (dw w' n) n) 5 - 2) (by omega)
      have a1 : atI (gr n B) (o : Int) = some (rw n (B o)) := atI_nth (gr_get ho)
      have a2 : atI (gr n B) (p : Int) = some (rw n (B p)) := atI_nth (gr_get hp)
      have a3 : ∀ d, setAt (gr n B) (o : Int) d = some ((gr n B).set o d) := fun d => setAt_nth d (by rw [gr_len]; exact ho)
      have hop' : ¬ (o : Int) = p := by omega
      refine ⟨_, ⟨dw (dw (dw w' n) n) 5, sr o (fun j => B o j + (dr (dw (dw w' n) n) 5 - 2) * B p j) B, .sh (.int o), .sh (.int i), .sh (.int p), fun r j hr hj => ?_, ?_, rfl⟩, fun k' => ?_⟩
      · unfold sr
        rw [Nat.pow_succ]
        split
        · have b1 := hB o j ho hj
          have b2 := hB p j hp hj
          have b3 : ((dr (dw (dw w' n) n) 5 - 2) * B p j).natAbs ≤ 2 * (4 * 3 ^ i) := by
            rw [Int.natAbs_mul]
            exact Nat.mul_le_mul (by omega) b2
          show (B o j + (dr (dw (dw w' n) n) 5 - 2) * B p j).natAbs ≤ _
          omega
        · have b1 := hB r j hr hj
          omega
      · rw [det_added ho hp hop]
        exact hBd
      · have e4 : gr n (sr o (fun j => B o j + (dr (dw (dw w' n) n) 5 - 2) * B p j) B) = (gr n B).set o (rw n fun j => B o j + (dr (dw (dw w' n) n) 5 - 2) * B p j) := gr_set.symm
        rw [e4]
        simp [l__law_great_right_5, hdr, draw_ev, eo, ep, hop', a1, a2, had, a3])
  have hw := weight_evS (m := n) (A := B) hn fun i j hi hj => Nat.le_trans (hB i j hi hj) (by decide)
  simp [hw, hBd]
  exact ⟨_, rfl⟩
end Lw
end

section
namespace Wm
theorem sSub2_ev {x : Nat} {f : Sx} {o o2 : LOp} {ρ ρ1 : List SD} {d e : D} {xs ys zs : List D} {k k2 : Int} (h1 : f ρ = .ok (.sh (.tup [d, e]), ρ1)) (h2 : ownGet ρ1 x = .ok xs) (h3 : ops [o] ρ1 = .ok ([.int k], ρ1)) (h4 : setAt xs k d = some ys) (h5 : ownGet (ownSet ρ1 x ys) x = .ok ys)
    (h6 : ops [o2] (ownSet ρ1 x ys) = .ok ([.int k2], ownSet ρ1 x ys)) (h7 : setAt ys k2 e = some zs) : sSub2 x f o o2 ρ = .ok (.nx (ownSet (ownSet ρ1 x ys) x zs)) := by
  simp only [sSub2, h1, bind_ok, h2, h3, storeD_int, h4, putO_some, h5, h6, h7]
end Wm
namespace Dt
theorem det_T4 {A : Mt} : ∀ {m : Nat}, m ≤ 4 → det m (fun i j => A j i) = det m A
  | 0, _ => rfl
  | 1, _ => by simp [det, sm, sg]
  | 2, _ => by simp [det, sm, sg, mi, sk]; grind
  | 3, _ => by simp [det, sm, sg, mi, sk]; grind
  | 4, _ => by simp [det, sm, sg, mi, sk]; grind
  | n + 5, h => by omega
end Dt
namespace Lw
open PySem PySem.Spec PyProof.Rows L2 Wm Dt
theorem right0 {m : Nat} {A : Mt} {t : Int} {o : Nat} (ho : o < m) (ht : t.natAbs ≤ 4) (x0 x1 x3 x4 x5 x7 x8 x10 x11 x13 x14 : SD) : c__law_right_0 [x0, x1, .own (gr m A), x3, x4, x5, .sh (.int o), x7, x8, .sh (.int t), x10, x11, .no, x13, x14] = .ok (.own ((List.range m).map fun j => D.int (t * A o j)), [x0, x1, .own (gr m A), x3, x4, x5, .sh (.int o), x7, x8, .sh (.int t), x10, x11, .no, x13, x14]) := by
  have a1 : atI (gr m A) (o : Int) = some (rw m (A o)) := atI_nth (gr_get ho)
  have hmul : ∀ y, IntMulOk t y := fun y => mul_okL (by omega)
  simp [c__law_right_0, a1]
  simp [rw_eq]
  rw [lc_rg (f := fun j => D.int (t * A o j))]
  · simp
  · intro j hj k'
    simp [pMul_int, hmul]
theorem right2 {m : Nat} {A : Mt} (hm : m ≤ 4) (x0 x3 x4 x5 x6 x7 x8 x9 x10 x11 x12 : SD) : c__law_right_2 [x0, .sh (.int m), .own (gr m A), x3, x4, x5, x6, x7, x8, x9, x10, x11, x12, .no, .no] = .ok (.own (gr m fun i j => A j i), [x0, .sh (.int m), .own (gr m A), x3, x4, x5, x6, x7, x8, x9, x10, x11, x12, .no, .no]) := by
  have hr : rngOk (m : Int) := rg4 (by omega)
  have hms : m ≤ sizeLine := sz4 (by omega)
  have inner : ∀ k : Nat, k < m → c__law_right_1 [x0, .sh (.int m), .own (gr m A), x3, x4, x5, x6, x7, x8, x9, x10, x11, x12, .sh (.int k), .no] = .ok (.own ((List.range m).map fun j => D.int (A j k)), [x0, .sh (.int m), .own (gr m A), x3, x4, x5, x6, x7, x8, x9, x10, x11, x12, .sh (.int k), .no]) := fun k hk => by
    simp [c__law_right_1]
    show lcBack _ _ (lcL _ _ _ _ _ ((List.range m).map fun i => rw m (A i)) _) = _
    rw [lc_rg (f := fun j => D.int (A j k))]
    · simp
    · intro j hj k'
      have h1 : atI ((List.range m).map fun k => D.int (A j k)) (k : Int) = some (.int (A j k)) := atI_nth (rg_get hk)
      simp [rw_eq, h1]
  simp [c__law_right_2, hr, hms]
  rw [lc_rg (f := fun k => rw m (fun j => A j k))]
  · simp [gr]
  · intro k hk k'
    simp [inner k hk, rw_eq]
theorem isB_bi (i : Int) : isB .bool (.int i) = some false := rfl
theorem sw_set {m o p : Nat} {A : Mt} : ((gr m A).set o (rw m (A p))).set p (rw m (A o)) = gr m (sw o p A) := by
  rw [gr_set, gr_set]
  refine gr_congr fun i j hi hj => ?_
  unfold sw tw
  by_cases h1 : i = p
  · rw [if_pos h1]
    subst h1
    by_cases h2 : i = o
    · subst h2; rw [if_pos rfl]
    · rw [if_neg h2, if_pos rfl]
  · rw [if_neg h1]
    by_cases h2 : i = o
    · rw [if_pos h2, if_pos h2]
    · rw [if_neg h2, if_neg h2, if_neg h1]
end Lw
end

section
namespace Lw
open PySem PySem.Spec PyProof.Rows L2 Wm Dt
theorem truL_bl (ρ : List SD) (b : Bool) : truL ρ [.bl b] = .ok (b, ρ) := (rfl)
theorem right_ev (w : Wl) : Tr (f__law_right [.byr (wl w)]) := by
  obtain ⟨m, hm, em⟩ : ∃ m : Nat, m ≤ 4 ∧ dr w 5 = (m : Int) := by
    have := dr_bd w 5 (by omega)
    exact ⟨(dr w 5).toNat, by omega, by omega⟩
  obtain ⟨xs, w1, e1, hG⟩ := grid_ev (dw w 5) m hm
  obtain ⟨A, rfl, hA⟩ := hG.ex
  have hA' : ∀ i j, i < m → j < m → (A i j).natAbs ≤ 100000 := fun i j hi hj => Nat.le_trans (hA i j hi hj) (by omega)
  have e2 := by_first_ev m (A := A) (k := 8) hm (by omega) hA'
  have e3 := weight_ev (m := m) (A := A) (by omega) hA'
  obtain ⟨w2, e4⟩ := great_ev w1
  have q1 := eq_gr (m := m) (A := A)
  have q2 := ok_gr (m := m) (A := A)
  simp [f__law_right, g__law_right, draw_ev, em, e1, e2, e3, isB_bi, -eqD_lst, -okN_lst, q1, q2, e4, truL_bl]
  by_cases h2 : m < 2
  · have h2' : (m : Int) < 2 := by omega
    simp [h2']
    exact ⟨_, rfl⟩
  have h2' : ¬ (m : Int) < 2 := by omega
  have hnp : (0 : Int) < m := by omega
  have hnb : (m : Int) ≤ 1000000000 := by omega
  have hdr : ∀ w'', f__law_draw [.byr (wl w''), .sh (.int m)] = .ok (.sh (.int (dr w'' m)), [.byr (wl (dw w'' m)), .no]) := fun w'' => draw_ev w'' m hnp hnb
  have hdr1 : ∀ w'', f__law_draw [.byr (wl w''), .sh (.int ((m : Int) - 1))] = .ok (.sh (.int (dr w'' ((m : Int) - 1))), [.byr (wl (dw w'' ((m : Int) - 1))), .no]) := fun w'' => draw_ev w'' _ (by omega) (by omega)
  have hd1 := dr_bd w2 m hnp
  have hd2 := dr_bd (dw w2 m) ((m : Int) - 1) (by omega)
  obtain ⟨o, eo⟩ : ∃ o : Nat, dr w2 m = (o : Int) := ⟨(dr w2 m).toNat, by omega⟩
  have ho : o < m := by omega
  obtain ⟨p, ep, hp, hop⟩ : ∃ p : Nat, ((o : Int) + 1 + dr (dw w2 m) ((m : Int) - 1)).fmod m = (p : Int) ∧ p < m ∧ o ≠ p := by
    have hx := fmod_bd ((o : Int) + 1 + dr (dw w2 m) ((m : Int) - 1)) m hnp
    refine ⟨(((o : Int) + 1 + dr (dw w2 m) ((m : Int) - 1)).fmod m).toNat, by omega, by omega, ?_⟩
    have e : ((o : Int) + 1 + dr (dw w2 m) ((m : Int) - 1)).fmod m = ((o : Int) + 1 + dr (dw w2 m) ((m : Int) - 1)) % m := Int.fmod_eq_emod_of_nonneg _ (by omega)
    by_cases hlt : (o : Int) + 1 + dr (dw w2 m) ((m : Int) - 1) < m
    · rw [Int.emod_eq_of_lt (by omega) hlt] at e
      omega
    · have e5 : ((o : Int) + 1 + dr (dw w2 m) ((m : Int) - 1)) % m = ((o : Int) + 1 + dr (dw w2 m) ((m : Int) - 1)) - m := by
        rw [← Int.sub_emod_right, Int.emod_eq_of_lt (by omega) (by omega)]
      rw [e5] at e
      omega
  have hm0 : ¬ m = 0 := by omega
  have a1 : atI (gr m A) (o : Int) = some (rw m (A o)) := atI_nth (gr_get ho)
  have a2 : atI (gr m A) (p : Int) = some (rw m (A p)) := atI_nth (gr_get hp)
  have a3 : ∀ d, setAt (gr m A) (o : Int) d = some ((gr m A).set o d) := fun d => setAt_nth d (by rw [gr_len]; exact ho)
  have a4 : ∀ c d, setAt ((gr m A).set o c) (p : Int) d = some (((gr m A).set o c).set p d) := fun c d => setAt_nth d (by rw [List.length_set, gr_len]; exact hp)
  have hs2 : (2 : Nat) ≤ sizeLine := by decide
  have hsub : ∀ w', sSub2 8 (xTup [(xPrim [.va 2, .va 7] pIx), (xPrim [.va 2, .va 6] pIx)]) (.va 6) (.va 7) [.byr (wl w'), .sh (.int m), .own (gr m A), .own (gr m A), .sh (.int (det m A)), .sh (.int (det m A)), .sh (.int o), .sh (.int p), .own (gr m A), .no, .no, .no, .no, .no, .no]
      = .ok (.nx [.byr (wl w'), .sh (.int m), .own (gr m A), .own (gr m A), .sh (.int (det m A)), .sh (.int (det m A)), .sh (.int o), .sh (.int p), .own (gr m (sw o p A)), .no, .no, .no, .no, .no, .no]) := fun w' => by
    refine (sSub2_ev (ρ1 := [.byr (wl w'), .sh (.int m), .own (gr m A), .own (gr m A), .sh (.int (det m A)), .sh (.int (det m A)), .sh (.int o), .sh (.int p), .own (gr m A), .no, .no, .no, .no, .no, .no]) (d := rw m (A p)) (e := rw m (A o)) (xs := gr m A) (k := o) (k2 := p) ?_ ?_ ?_ (a3 _) ?_ ?_ (a4 _ _)).trans ?_
    · simp [a1, a2, hs2]
    · simp
    · simp
    · simp
    · simp
    · simp [sw_set]
  simp [h2', hdr, hdr1, eo, ep, hm0, hsub]
  generalize dw (dw w2 m) ((m : Int) - 1) = w3
  obtain ⟨t, et, ht⟩ : ∃ t : Int, dr w3 9 - 4 = t ∧ t.natAbs ≤ 4 := by
    have := dr_bd w3 9 (by omega)
    exact ⟨_, rfl, by omega⟩
  have had := added_ev m (A o) (A p) t (by omega)
  have bA : ∀ f : Nat → Int, (∀ j, j < m → (f j).natAbs ≤ 100000) → ∀ i j, i < m → j < m → ((fun r j => if r = o then f j else A r j) i j).natAbs ≤ 100000 := fun f hf i j hi hj => by
    show (if i = o then f j else A i j).natAbs ≤ 100000
    split
    · exact hf j hj
    · exact hA' i j hi hj
  have tb : ∀ x : Int, x.natAbs ≤ 180 → (t * x).natAbs ≤ 720 := fun x hx => by
    rw [Int.natAbs_mul]
    exact Nat.mul_le_mul ht hx
  have e5 : f_weight [.byr ((gr m A).set o (rw m fun j => A o j + t * A p j))] = .ok (.sh (.int (det m A)), [.byr ((gr m A).set o (rw m fun j => A o j + t * A p j))]) := by
    rw [gr_set, weight_ev (by omega) (bA _ fun j hj => by
      have b1 := hA o j ho hj
      have b2 := tb _ (hA p j hp hj)
      omega)]
    rw [show (det m fun r j => if r = o then A o j + t * A p j else A r j) = det m A from det_added ho hp hop]
  have e6 : f_weight [.byr ((gr m A).set o (.tup ((List.range m).map fun j => D.int (t * A o j))))] = .ok (.sh (.int (t * det m A)), [.byr ((gr m A).set o (.tup ((List.range m).map fun j => D.int (t * A o j))))]) := by
    rw [← rw_eq m fun j => t * A o j, gr_set, weight_ev (by omega) (bA _ fun j hj => Nat.le_trans (tb _ (hA o j ho hj)) (by omega))]
    rw [show (det m fun r j => if r = o then t * A o j else A r j) = t * det m A from det_times ho]
  have e7 : f_weight [.byr (gr m (sw o p A))] = .ok (.sh (.int (- det m A)), [.byr (gr m (sw o p A))]) := by
    rw [weight_ev (A := sw o p A) (by omega) fun i j hi hj => hA' (tw o p i) j (by
      unfold tw
      split
      · exact hp
      · split
        · exact ho
        · exact hi) hj, det_swap ho hp hop]
  have e8 : f_weight [.sh (.lst (gr m fun i j => A j i))] = .ok (.sh (.int (det m A)), [.no]) := by
    rw [weight_evS (A := fun i j => A j i) (by omega) fun i j hi hj => hA' j i hj hi, det_T4 hm]
  have hmul : ∀ y, IntMulOk t y := fun y => mul_okL (by omega)
  simp [draw_ev, et, a1, a2, had, a3, right0 ho ht, e7, e5, e6, pMul_int, hmul, right2 hm, e8]
  exact ⟨_, rfl⟩
def wl3 (a b c : Int) : Wl := ⟨a, b, c⟩
theorem two_ev (a b c d : Int) (ha : a.natAbs ≤ 100) (hb : b.natAbs ≤ 100) (hc : c.natAbs ≤ 100) (hd : d.natAbs ≤ 100) : f_weight [.byr [.tup [.int a, .int b], .tup [.int c, .int d]]] = .ok (.sh (.int (a * d - c * b)), [.byr [.tup [.int a, .int b], .tup [.int c, .int d]]]) := by
  have e : [D.tup [.int a, .int b], D.tup [.int c, .int d]] = gr 2 (fun i j => if i = 0 then (if j = 0 then a else b) else (if j = 0 then c else d)) := rfl
  rw [e, weight_ev (by omega) (fun i j hi hj => by
    show (if i = 0 then (if j = 0 then a else b) else (if j = 0 then c else d)).natAbs ≤ _
    split <;> split <;> omega), det_two_two]
  rfl
theorem law_true (ns : List Int) (hl : ns.length ≤ 63) : ∃ ρ, f_law [.sh (.scr ns)] = .ok (.sh (.bl true), ρ) := by
  have h1 : (1 : Nat) ≤ sizeLine := by decide
  have h2 : (2 : Nat) ≤ sizeLine := by decide
  have h3 : (3 : Nat) ≤ sizeLine := by decide
  have hs : ns.length + 1 ≤ sizeLine := by rw [szl]; omega
  have hsl : pSlHi [.lst (ns.map D.int ++ [D.int 0]), .int 8] = .ok (.own ((ns.map D.int ++ [D.int 0]).take 8)) := slHi_lst (ns.map D.int ++ [D.int 0]) 8 (by omega)
  have t1 := two_ev 2 3 4 5 (by decide) (by decide) (by decide) (by decide)
  have t2 := two_ev 0 1 1 0 (by decide) (by decide) (by decide) (by decide)
  have hpw : CPow 10 18 := by decide
  obtain ⟨n, h, hxs⟩ : ∃ (n : Nat) (h : Nat → Int), (ns.map D.int ++ [D.int 0]).take 8 = (List.range n).map (fun i => D.int (h i)) := by
    refine ⟨((ns ++ [0]).take 8).length, fun i => (((ns ++ [0]).take 8)[i]?).getD 0, ?_⟩
    have : ns.map D.int ++ [D.int 0] = (ns ++ [0]).map D.int := by simp
    rw [this, ← List.map_take]
    refine rg_of (by rw [List.length_map]) fun i hi => ?_
    rw [List.getElem?_map, List.getElem?_eq_getElem hi]
    show some (D.int _) = some (D.int ((((ns ++ [0]).take 8)[i]?).getD 0))
    rw [List.getElem?_eq_getElem hi]
    rfl
  simp [f_law, g_law, h1, hs, hsl, hxs, enum_rg]
  generalize hL : forL _ _ _ _ = L
  obtain ⟨ρ', ⟨x1, x2, rfl⟩, rfl⟩ := for_rg hL (fun i ρ => ∃ x1 x2, ρ = [.sh (.scr ns), x1, x2]) ⟨.no, .no, rfl⟩ (by
    rintro i ρ hi ⟨x1, x2, rfl⟩
    refine ⟨_, ⟨.sh (.int i), .sh (.int (h i)), rfl⟩, fun k' => ?_⟩
    generalize h i = z
    have k1 : IntMulOk z (if 1000000000000000000 ≤ z then 1 else 0) := mul_okR (by split <;> decide)
    have k2 : ∀ y, IntMulOk 7919 y := fun y => mul_okL (by decide)
    obtain ⟨W, rv⟩ : ∃ W : Int → Int → Int → Wl, ∀ a b c, f__law_right [.byr [.int a, .int b, .int c]] = .ok (.sh (.bl true), [.byr (wl (W a b c))]) := ⟨fun a b c => Classical.choose (right_ev ⟨a, b, c⟩), fun a b c => Classical.choose_spec (right_ev ⟨a, b, c⟩)⟩
    simp [l_law_0, hpw, pMul_int, k1, k2, h3, rv, truL_bl])
  simp [t1, t2, h2]
end Lw
end

section
namespace Lw
open PySem PySem.Spec PyProof.Rows L2 Wm
theorem all_mk {P : Program} {w : World} {K : PySem.W.Frag} {h : Heap} {mg : Str → Option Value} {fa : Addr} (X : K.In h) (G : h.Ns mainGlobals mg) (hfa : mg "law" = some (.ref fa))
    {x0 : Addr} {oc0 kV0 dc0 pm0 cd0 ct0 : Value} {od0 an0 : Option Addr} {sl0 : Array (Option Value)}
    {x1 : Addr} {oc1 kV1 dc1 pm1 cd1 ct1 : Value} {od1 an1 : Option Addr} {sl1 : Array (Option Value)}
    {x2 : Addr} {oc2 kV2 dc2 pm2 cd2 ct2 : Value} {od2 an2 : Option Addr} {sl2 : Array (Option Value)}
    {x3 : Addr} {oc3 kV3 dc3 pm3 cd3 ct3 : Value} {od3 an3 : Option Addr} {sl3 : Array (Option Value)}
    {x4 : Addr} {oc4 kV4 dc4 pm4 cd4 ct4 : Value} {od4 an4 : Option Addr} {sl4 : Array (Option Value)}
    {x5 : Addr} {oc5 kV5 dc5 pm5 cd5 ct5 : Value} {od5 an5 : Option Addr} {sl5 : Array (Option Value)}
    {x6 : Addr} {oc6 kV6 dc6 pm6 cd6 ct6 : Value} {od6 an6 : Option Addr} {sl6 : Array (Option Value)}
    {x7 : Addr} {oc7 kV7 dc7 pm7 cd7 ct7 : Value} {od7 an7 : Option Addr} {sl7 : Array (Option Value)}
    (a0 : PySem.W.nsIn K mainGlobals "_law_draw" = some (some (.ref x0))) (l0 : K.lookup x0 = some ⟨oc0, od0, .func (PySem.W.fnOf "_law_draw" "_law_draw" (defArgs s__law_draw) (defBody s__law_draw) (defScope s__law_draw) .none kV0 dc0 pm0 an0 cd0 ct0), sl0⟩) (c0 : PySem.W.codeIn K cd0 "_law_draw" = true) (k0 : PySem.W.keepIn K (.ref x0) = true)
    (a1 : PySem.W.nsIn K mainGlobals "_law_added" = some (some (.ref x1))) (l1 : K.lookup x1 = some ⟨oc1, od1, .func (PySem.W.fnOf "_law_added" "_law_added" (defArgs s__law_added) (defBody s__law_added) (defScope s__law_added) .none kV1 dc1 pm1 an1 cd1 ct1), sl1⟩) (c1 : PySem.W.codeIn K cd1 "_law_added" = true) (k1 : PySem.W.keepIn K (.ref x1) = true)
    (a2 : PySem.W.nsIn K mainGlobals "_law_grid" = some (some (.ref x2))) (l2 : K.lookup x2 = some ⟨oc2, od2, .func (PySem.W.fnOf "_law_grid" "_law_grid" (defArgs s__law_grid) (defBody s__law_grid) (defScope s__law_grid) .none kV2 dc2 pm2 an2 cd2 ct2), sl2⟩) (c2 : PySem.W.codeIn K cd2 "_law_grid" = true) (k2 : PySem.W.keepIn K (.ref x2) = true)
    (a3 : PySem.W.nsIn K mainGlobals "_law_by_first" = some (some (.ref x3))) (l3 : K.lookup x3 = some ⟨oc3, od3, .func (PySem.W.fnOf "_law_by_first" "_law_by_first" (defArgs s__law_by_first) (defBody s__law_by_first) (defScope s__law_by_first) .none kV3 dc3 pm3 an3 cd3 ct3), sl3⟩) (c3 : PySem.W.codeIn K cd3 "_law_by_first" = true) (k3 : PySem.W.keepIn K (.ref x3) = true)
    (a4 : PySem.W.nsIn K mainGlobals "weight" = some (some (.ref x4))) (l4 : K.lookup x4 = some ⟨oc4, od4, .func (PySem.W.fnOf "weight" "weight" (defArgs s_weight) (defBody s_weight) (defScope s_weight) .none kV4 dc4 pm4 an4 cd4 ct4), sl4⟩) (c4 : PySem.W.codeIn K cd4 "weight" = true) (k4 : PySem.W.keepIn K (.ref x4) = true)
    (a5 : PySem.W.nsIn K mainGlobals "_law_great_right" = some (some (.ref x5))) (l5 : K.lookup x5 = some ⟨oc5, od5, .func (PySem.W.fnOf "_law_great_right" "_law_great_right" (defArgs s__law_great_right) (defBody s__law_great_right) (defScope s__law_great_right) .none kV5 dc5 pm5 an5 cd5 ct5), sl5⟩) (c5 : PySem.W.codeIn K cd5 "_law_great_right" = true) (k5 : PySem.W.keepIn K (.ref x5) = true)
    (a6 : PySem.W.nsIn K mainGlobals "_law_right" = some (some (.ref x6))) (l6 : K.lookup x6 = some ⟨oc6, od6, .func (PySem.W.fnOf "_law_right" "_law_right" (defArgs s__law_right) (defBody s__law_right) (defScope s__law_right) .none kV6 dc6 pm6 an6 cd6 ct6), sl6⟩) (c6 : PySem.W.codeIn K cd6 "_law_right" = true) (k6 : PySem.W.keepIn K (.ref x6) = true)
    (a7 : PySem.W.nsIn K mainGlobals "law" = some (some (.ref x7))) (l7 : K.lookup x7 = some ⟨oc7, od7, .func (PySem.W.fnOf "law" "law" (defArgs s_law) (defBody s_law) (defScope s_law) .none kV7 dc7 pm7 an7 cd7 ct7), sl7⟩) (c7 : PySem.W.codeIn K cd7 "law" = true) (k7 : PySem.W.keepIn K (.ref x7) = true)
    (z_bool : PySem.W.nsIn K mainGlobals "bool" = some none)
    (z_enumerate : PySem.W.nsIn K mainGlobals "enumerate" = some none)
    (z_int : PySem.W.nsIn K mainGlobals "int" = some none)
    (z_isinstance : PySem.W.nsIn K mainGlobals "isinstance" = some none)
    (z_len : PySem.W.nsIn K mainGlobals "len" = some none)
    (z_list : PySem.W.nsIn K mainGlobals "list" = some none)
    (z_range : PySem.W.nsIn K mainGlobals "range" = some none)
    (z_tuple : PySem.W.nsIn K mainGlobals "tuple" = some none)
    (z_zip : PySem.W.nsIn K mainGlobals "zip" = some none) :
    ∃ fd : FuncData, (∀ (s : Shared) (v : Value), BindsTo s fd ⟨[v], []⟩ [("_law_script", v)]) ∧ ∀ base : Heap, K.In base → base.Ns mainGlobals mg → FnOk P w K mg base (L2.CX P w) 11 fa fd ["_law_script"] (spF ⟨K, fun _ => 0⟩ 1 f_law) := by
  have e := hfa.symm.trans (PySem.W.mg_of X G a7)
  cases e
  exact ⟨_, fun s v => .of_eq rfl, fun base _ _ => ok_law ⟨_, _, fun_mk (st := s__law_draw) l0 c0 k0, PySem.W.mg_of X G a0, (fun_mk (st := s__law_draw) l0 c0 k0).binds fun _ _ _ _ _ _ us hl => match us, hl with | [_, _], _ => rfl,
    _, _, fun_mk (st := s__law_added) l1 c1 k1, PySem.W.mg_of X G a1, (fun_mk (st := s__law_added) l1 c1 k1).binds fun _ _ _ _ _ _ us hl => match us, hl with | [_, _, _], _ => rfl,
    _, _, fun_mk (st := s__law_grid) l2 c2 k2, PySem.W.mg_of X G a2, (fun_mk (st := s__law_grid) l2 c2 k2).binds fun _ _ _ _ _ _ us hl => match us, hl with | [_, _], _ => rfl,
    _, _, fun_mk (st := s__law_by_first) l3 c3 k3, PySem.W.mg_of X G a3, (fun_mk (st := s__law_by_first) l3 c3 k3).binds fun _ _ _ _ _ _ us hl => match us, hl with | [_], _ => rfl,
    _, _, fun_mk (st := s_weight) l4 c4 k4, PySem.W.mg_of X G a4, (fun_mk (st := s_weight) l4 c4 k4).binds fun _ _ _ _ _ _ us hl => match us, hl with | [_], _ => rfl,
    _, _, fun_mk (st := s__law_great_right) l5 c5 k5, PySem.W.mg_of X G a5, (fun_mk (st := s__law_great_right) l5 c5 k5).binds fun _ _ _ _ _ _ us hl => match us, hl with | [_], _ => rfl,
    _, _, fun_mk (st := s__law_right) l6 c6 k6, PySem.W.mg_of X G a6, (fun_mk (st := s__law_right) l6 c6 k6).binds fun _ _ _ _ _ _ us hl => match us, hl with | [_], _ => rfl,
    _, _, fun_mk (st := s_law) l7 c7 k7, PySem.W.mg_of X G a7, (fun_mk (st := s_law) l7 c7 k7).binds fun _ _ _ _ _ _ us hl => match us, hl with | [_], _ => rfl,
    PySem.W.mg_none_of X G z_bool,
    PySem.W.mg_none_of X G z_enumerate,
    PySem.W.mg_none_of X G z_int,
    PySem.W.mg_none_of X G z_isinstance,
    PySem.W.mg_none_of X G z_len,
    PySem.W.mg_none_of X G z_list,
    PySem.W.mg_none_of X G z_range,
    PySem.W.mg_none_of X G z_tuple,
    PySem.W.mg_none_of X G z_zip⟩⟩
end Lw
open PySem PySem.W PyProof.Rows
set_option maxHeartbeats 0 in
theorem PySem.Challenge.cw_waymoves_k04_weights_of_grids_holds : PySem.Challenge.rw_waymoves_k04_weights_of_grids.Holds := by
  w_on; o_law; k_head; (case hw => w_witness2)
  k_fill
  refine L2.walk_of (l := PySem.Challenge.rw_waymoves_k04_weights_of_grids) (n := 63) (k := 11) (x := "_law_script") (CX := fun w => L2.CX (PySem.Challenge.rw_waymoves_k04_weights_of_grids).prog w) (sp := fun w => Wm.spF ⟨_, fun _ => 0⟩ 1 Lw.f_law) rfl (by decide) rfl ⟨rfl, by decide, by decide⟩ (fun w h Y => PySem.W.kIn_of Y) ?F (fun _ _ a ns hl _ hS => Wm.law_sp hl hS (Lw.law_true ns hl)) (fun _ H s e s' h => Wm.law_cx H s e s' h)
  case F =>
    intro w mg fa h KX G hmg
    refine' Lw.all_mk KX G hmg ?a0 ?l0 ?c0 ?k0 ?a1 ?l1 ?c1 ?k1 ?a2 ?l2 ?c2 ?k2 ?a3 ?l3 ?c3 ?k3 ?a4 ?l4 ?c4 ?k4 ?a5 ?l5 ?c5 ?k5 ?a6 ?l6 ?c6 ?k6 ?a7 ?l7 ?c7 ?k7 ?z_bool ?z_enumerate ?z_int ?z_isinstance ?z_len ?z_list ?z_range ?z_tuple ?z_zip
    (case a0 => k_is); (case l0 => k_is); (case c0 => k_is); (case k0 => k_is); (case a1 => k_is); (case l1 => k_is); (case c1 => k_is); (case k1 => k_is); (case a2 => k_is); (case l2 => k_is); (case c2 => k_is); (case k2 => k_is); (case a3 => k_is); (case l3 => k_is); (case c3 => k_is); (case k3 => k_is); (case a4 => k_is); (case l4 => k_is); (case c4 => k_is); (case k4 => k_is); (case a5 => k_is); (case l5 => k_is); (case c5 => k_is); (case k5 => k_is); (case a6 => k_is); (case l6 => k_is); (case c6 => k_is); (case k6 => k_is); (case a7 => k_is); (case l7 => k_is); (case c7 => k_is); (case k7 => k_is); (case z_bool => k_is); (case z_enumerate => k_is); (case z_int => k_is); (case z_isinstance => k_is); (case z_len => k_is); (case z_list => k_is); (case z_range => k_is); (case z_tuple => k_is); (case z_zip => k_is)
end
